import PyProof.Rows.All
import Wide.All
import OpenK.AllK
import Wide.FinOn
import HandS.ForMost
import KE.OsRunLaw
import PySem.Challenge.RW_chainedreports_k13_rows_of_frames
import HandS.Property
import HandS.EndBits
import HandS.IsInst
import HandS.Zip
import HandS.Flow
import HandS.Wide
import HandS.Lambda
import HandS.Deep
import HandS.TupAny
import HandS.TupMul
import HandS.WideBits
import HandS.Replace
import HandS.StrMore
import HandS.More
import HandS.TryOnly
import PyProof.ReprRoads
import PyProof.ReprLen
import PyProof.Rows.StrBoot
import HandS.Comp
import PyProof.P3Eq
import HandS.Style
import HandS.WordsDict
import HandS.Dict
import KE.GoesEnum
import HandS.Star
import PyProof.CollectIter
import PyProof.WalksMore
import HandS.FStr
import HandS.ClsMeth
import HandS.MakeKwOnly
import HandS.OwnEq
import PyProof.InstNe
import HandS.Iter
import HandS.Codes
import HandS.Exc
import HandS.ExcOwn
import HandS.ExcInit
import HandS.ExcField
import HandS.ExcIs
import HandS.ExcBuiltin
import KE.KExcInit
import KE.KExcIs
import HandS.TryMany
import PyProof.ExcBaseAll.LookupError
import PyProof.P3In
import PyProof.ExcClass
import PyProof.RulesRaise
import PyProof.FactsTree
import PyProof.Rows.FactsExc_KeyError
import PyProof.InstStoreFacts
import HandS.Zip0
import HandS.DictComp
import KE.KeyNested
import HandS.Defaults
import PyProof.EqAt
import PyProof.NeKinds
import HandS.ListItems
import HandS.Conv
set_option Elab.async false
set_option linter.all false
set_option maxRecDepth 100000
set_option maxHeartbeats 4000000
/-! Hd: the head of a large row by four kernel runs, each its own theorem (one run that looks at all would ask more memory than there is). -/
namespace LinH
end LinH
section
local macro_rules | `(tactic| kernel_rfl) => `(tactic| exact False.elim (by assumption))
open PySem PySem.W PyProof.Rows in
set_option maxHeartbeats 0 in
/-- for its two definitions alone: the view of the top, and the objects that the walk reads -/
theorem defs13 (h : False) : PySem.Challenge.rw_chainedreports_k13_rows_of_frames.Holds := by
  w_on; o_law; k_headL
  (case hw => w_witness2)
  all_goals exact False.elim (by assumption)
end
namespace Hd
noncomputable section
open PySem PySem.W PySem.Calls PyProof.Rows HeadRun
abbrev prog : Program := PySem.Challenge.rw_chainedreports_k13_rows_of_frames.row.prog
def loose : List PySem.Str := [PySem.Str.ofString "Walk", PySem.Str.ofString "Record", PySem.Str.ofString "Recorder"]
def P0 : Params := { strHash := fun _ => 0, shareClass := fun _ => 0, mergeTok := fun t => t, idOf := fun _ => 0, idOfShared := fun _ _ => 0, followText := fun _ => false, idOfImm := fun _ => 0 }
def adrs : List Addr := (defs13.heap_39 P0).map (·.1)
theorem adrs_ok (P : Params) : adrs = (defs13.heap_39 P).map (·.1) := by kernel_rfl
abbrev Xt (s : Shared) : Bool := xlAt defs13.view_39 [] s && recOk (RowW.records PySem.Challenge.rw_chainedreports_k13_rows_of_frames.row.toRowW) s
abbrev run (w : World) (os : OsState) : Option SharedT := endF (stepQ (denQ tabQ) prog w) 17224 prog w os
abbrev c1 (s : Shared) := PySem.W.Fast.tw5160383126252970620 (PySem.W.R.mapR (fun x => x.name) (PySem.W.Fast.tw3399658132070893891 defs13.view_39)) (PySem.W.Fast.tw5991557255702980513 defs13.view_39) [] { heap := s.heap, drawn := s.drawn, toks := s.toks, os := s.os }
abbrev c2 (s : Shared) := s.heap.bltView
abbrev c3 (s : Shared) : Bool := PySem.W.Fast.tw10880121769531294198 s.heap (PySem.W.Fast.tw821141287760084731 defs13.view_39 loose) (PySem.W.R.mapR (fun x => x.name) (PySem.W.Fast.tw3399658132070893891 defs13.view_39)) (PySem.W.R.mapR (fun x => x.fst) (PySem.W.Fast.tw7409074990110511671 defs13.view_39)) (PySem.W.R.mapR (fun x => x.name) (PySem.W.Fast.tw13664370479719496447 defs13.view_39 (PySem.W.Fast.tw821141287760084731 defs13.view_39 loose))) && PySem.W.Fast.tw14722251495701143533 s.heap (importedModules prog.main.body) && s.heap.isNs mainGlobals && s.heap.isNs builtinsNs && PySem.W.Fast.tw10994771534591457954 defs13.view_39 s.heap && Xt s && if true = true then s.gens.size == 0 else !PySem.leftWithCleanup s.gens
abbrev c4 (s : Shared) := PySem.W.Fast.tw479339242167458305 defs13.view_39 s
abbrev c5 (s : Shared) := PySem.W.Fast.tw16090120013241838585 defs13.view_39 (PySem.W.Fast.tw3247288618530077131 defs13.view_39) s
abbrev c6 (s : Shared) := PySem.W.Fast.tw2386780881361962483 defs13.view_39 (PySem.W.Fast.tw821141287760084731 defs13.view_39 loose) s
abbrev c7 (s : Shared) := PySem.W.Fast.tw11698064438423848299 defs13.view_39 loose s
abbrev c8 (s : Shared) := PySem.W.Fast.tw7317090234206586261 defs13.view_39 s
abbrev c9 (s : Shared) := PySem.W.Fast.tw7369524293546568484 defs13.view_39 loose s
theorem run1 : ∀ (w : World) (os : OsState), (run w os).map (fun s => (looksF prog (boot_heap w.params) s.abs, adrs.map (getT s))) = some (true, (defs13.heap_39 w.params).map fun x => some x.2) := by
  intro w os; kernel_rfl
theorem run2 : ∀ (w : World) (os : OsState), (run w os).map (fun s => (c1 s.abs, c2 s.abs)) = some (expectedOf defs13.view_39, bltViewBooted) := by
  intro w os; kernel_rfl
theorem run3 : ∀ (w : World) (os : OsState), (run w os).map (fun s => c3 s.abs) = some true := by
  intro w os; kernel_rfl
theorem run3b : ∀ (w : World) (os : OsState), (run w os).map (fun s => c4 s.abs) = some true := by
  intro w os; kernel_rfl
abbrev PG : List (Option PlainShape) := (PySem.W.Fast.tw210736558901404530 defs13.view_39 (PySem.W.Fast.tw821141287760084731 defs13.view_39 loose)).map fun c => some (PySem.W.Fast.tw12515865711710729776 c).plainShape
theorem PGeq : PG = plainGoodE defs13.view_39 (looseW defs13.view_39 loose) := by kernel_rfl
theorem run4 : ∀ (w : World) (os : OsState), (run w os).map (fun s => (c5 s.abs, c6 s.abs)) = some (pinGoodD (drecsOf defs13.view_39), PG) := by
  intro w os; kernel_rfl
theorem run5 : ∀ (w : World) (os : OsState), (run w os).map (fun s => (c7 s.abs, c8 s.abs, c9 s.abs)) = some (plainGoodD defs13.view_39 loose, wideGood defs13.view_39, clsGoodW defs13.view_39 loose) := by
  intro w os; kernel_rfl
end
end Hd
namespace LinH
open PySem PySem.W
theorem join {σ A B C D E F G : Type} {o : Option σ} {f : σ → Bool} {h : σ → List (Option Obj)} {a1 : σ → A} {a2 : σ → B} {a3 a4 : σ → Bool} {a5 : σ → C} {a6 : σ → D} {a7 : σ → E} {a8 : σ → F} {a9 : σ → G} {c : List (Option Obj)} {b1 : A} {b2 : B} {b3 b4 : Bool} {b5 : C} {b6 : D} {b7 : E} {b8 : F} {b9 : G}
    (h1 : o.map (fun s => (f s, h s)) = some (true, c)) (h2 : o.map (fun s => (a1 s, a2 s)) = some (b1, b2)) (h3 : o.map (fun s => a3 s) = some b3) (h3b : o.map (fun s => a4 s) = some b4) (h4 : o.map (fun s => (a5 s, a6 s)) = some (b5, b6)) (h5 : o.map (fun s => (a7 s, a8 s, a9 s)) = some (b7, b8, b9)) :
    o.map (fun s => (f s, (a1 s, a2 s, a3 s, a4 s, a5 s, a6 s, a7 s, a8 s, a9 s), h s)) = some (true, (b1, b2, b3, b4, b5, b6, b7, b8, b9), c) := by
  cases o with
  | none => cases h1
  | some s =>
    have h1 := Prod.mk.inj (Option.some.inj h1)
    have h2 := Prod.mk.inj (Option.some.inj h2)
    have h3 : a3 s = b3 := Option.some.inj h3
    have h3b : a4 s = b4 := Option.some.inj h3b
    have h4 := Prod.mk.inj (Option.some.inj h4)
    have h5 := Prod.mk.inj (Option.some.inj h5)
    have h6 := Prod.mk.inj h5.2
    show some (f s, (a1 s, a2 s, a3 s, a4 s, a5 s, a6 s, a7 s, a8 s, a9 s), h s) = _
    rw [h1.1, h1.2, h2.1, h2.2, h3, h3b, h4.1, h4.2, h5.1, h6.1, h6.2]
end LinH
namespace Hd
open PySem PySem.W PySem.Calls PyProof.Rows HeadRun
theorem left13 : LeftO prog defs13.view_39 loose Xt (Hook.obs (kHook defs13.heap_39 adrs adrs_ok)) (Hook.val (kHook defs13.heap_39 adrs adrs_ok)) 17924 true := by
  refine left_oneK (M := 17224) (by kernel_rfl) (by rfl) (fun s => by kernel_rfl) (by rfl) ?_
  intro w os
  exact LinH.join (run1 w os) (run2 w os) (run3 w os) (run3b w os) (PGeq ▸ run4 w os) (run5 w os)
end Hd
/-! DG0: promises of defs that are called where no text of a list is being made (no guard stands around). -/
namespace DL
open PySem PySem.Spec PyProof.Rows L2
/-- FnOk, where no guard stands around -/
structure FnG (P : Program) (w : World) (K : PySem.W.Frag) (mg : Str → Option Value) (base : Heap) (CT : CXT) (n : Nat) (fa : Addr) (fd : FuncData) (ps : List Str) (sp : Sp) : Prop where
  len : ∀ as H Q E, sp as H Q E → as.length = ps.length
  run : ∀ {A : Around} {out : List Env} {s : Shared} {H : Hp} {ar : Args} {us : List Value} {as : List V} {Q : VK} {E : XK}, A.guards = some [] → Room n A → Env0 P w K mg base A out s H →
    BindsTo s fd ar (ps.zip us) → Vals as us → sp as H Q E → codeAny (model P w) A (.call (.ref fa) ar) (CR CT out P w H s Q E) s
section
variable {P : Program} {w : World} {K : PySem.W.Frag} {mg : Str → Option Value} {base : Heap} {CT : CXT} {n m : Nat} {fa : Addr} {fd : FuncData} {ps : List Str} {sp : Sp}
theorem FnG.mono (F : FnG P w K mg base CT n fa fd ps sp) (h : n ≤ m) : FnG P w K mg base CT m fa fd ps sp := ⟨F.len, fun g r => F.run g (r.mono h)⟩
/-- from the body -/
theorem fnG_of {x qual : Str} {st : Stmt} {N : List Str} (F : Fun K x qual st fa fd) (S : FnScope N ps (defScope st)) (len : ∀ as H Q E, sp as H Q E → as.length = ps.length)
    (hb : ∀ (cdv : Value) (A : Around) (out : List Env) (s : Shared) (H : Hp) (as : List V) (Q : VK) (E : XK), A.guards = some [] → Room n (A.deeper (envOfC qual (defScope st) s.heap.objs.size fa cdv)) → sp as H Q E →
      ∃ t, PSs (cxOf CT P w K mg base N qual (defScope st) fa cdv A out s H E) (defBody st) t ∧ t { nx := fun _ H1 => Q .non H1, rt := Q } (start N as) H) : FnG P w K mg base CT (n + 1) fa fd ps sp := by
  obtain ⟨oc, od, kV, doc, pm, an, cdv, ct, osl, rfl, hlook, hcode⟩ := F.ex
  refine ⟨len, ?_⟩
  intro A out s H ar us as Q E hguard hroom env0 hbind hvals hsp
  have inK : K.In s.heap := env0.mod.kin.keeps fun a o q => (env0.bs a o q).1
  have noLim : s.heap.NoLimit := env0.mod.nolimit.keeps fun a o q => (env0.bs a o q).1
  refine codeAny_call_function hroom.depth (inK _ _ hlook) rfl S.co S.gen rfl (PySem.W.codeRec_of inK hcode) (hbind _ _ _ _ ?_)
  refine wpAny_newFunctionEnv_cells S.kind ?_ ?_
  · rintro ⟨nm, v⟩ hin
    rcases S.par nm (List.of_mem_zip hin).1 with q | q
    · exact .inl q
    · exact .inr ⟨q, PySem.W.cellsFrom_some _ _ _ (.inl q)⟩
  · intro env henv s1 inc
    subst henv
    refine ⟨noLim.keeps inc.toInCall.keep, codeAny_func ?_⟩
    obtain ⟨t, pt, qt⟩ := hb cdv A out s H as Q E hguard (hroom.deeper _) hsp
    have inv := inv_start (E := E) (CX := CT) S hroom.hd env0 (len _ _ _ _ hsp) hvals inc
    refine wpAny_mono (pt.run [] s1 (start N as) H _ inv qt) ?_ fun e s' z => z
    intro fl s' z
    cases fl with
    | ret u =>
      obtain ⟨v, _, H1, J, rv, q⟩ := z
      exact ⟨v, H1, J.os, J.bare, J.base, J.hok, rv, q⟩
    | next =>
      obtain ⟨_, H1, J, q⟩ := z
      exact ⟨V.non, H1, J.os, J.bare, J.base, J.hok, rfl, q⟩
    | brk => exact z.elim fun _ z => z.elim fun _ z => z.2.elim
    | cont => exact z.elim fun _ z => z.elim fun _ z => z.2.elim
end
section
variable {X : Cx} {CT : CXT} {n : Nat} {fa Ca : Addr} {fd : FuncData} {ps : List Str} {sp : Sp} {E : XK} {x m : Str} {p pos apos : Pos} {e o : Expr} {es : List Expr} {ta : TE} {t : TA}
theorem goG {pins : List (Addr × Obj)} {σ : L2.St} {H : Hp} {s : Shared} {Q : VK} {us : List Value} {as : List V} (F : FnG X.prog X.w X.K X.mg X.base CT n fa fd ps sp) (hgd : X.A.guards = some []) (hr : Room n X.A) (hb : Binds X.K fd ps []) (hx : Passes CT X E)
    (I : Inv X pins σ H s) (r : Vals as us) (h : sp as H Q E) : wpAny (model X.prog X.w) X.A (call (.ref fa) us) (EP X pins σ Q) X.xe s := by
  have hlen : (us ++ ([] : List Value)).length = ps.length := by
    rw [List.append_nil, ← r.length]
    exact F.len _ _ _ _ h
  have hbind := hb s us I.kIn hlen
  rw [List.append_nil] at hbind
  refine wpAny_call (codeAny_mono (F.run hgd hr I.env0 hbind r h) ?_)
  intro res s' z
  match res, z with
  | .error e, z => exact hx pins σ H s e s' I z
  | .ok (.ret u), z => exact I.after z
theorem pe_callG (F : FnG X.prog X.w X.K X.mg X.base CT n fa fd ps sp) (hgd : X.A.guards = some []) (hr : Room n X.A) (hg : Gl X x) (hm : X.mg x = some (.ref fa)) (hk : PySem.W.keepIn X.K (.ref fa) = true) (hb : Binds X.K fd ps []) (hx : Passes CT X E)
    (ha : PA X (e :: es) t) (hdb : (x == ("__debug__" : Str)) = false := by decide) (he : starEach (e :: es) X.env = (false, eval e X.env) :: starEach es X.env := by rfl) (hpl : (backTo pos (starEach es X.env)).any (·.1) = false := by rfl) :
    PE X (.Call (.Name x p) (e :: es) [] pos) (tCall sp [] E t) := ⟨fun pins s σ H Q I h => wpAny_Call_Name_kw (ld_glob I hg hm (PySem.W.callWith_K (h₀ := X.base) I.ok.mod.kin hk (thn (ha.run pos pins s σ H _ I h) fun us s1 z => by
      obtain ⟨as, H1, I1, r, q⟩ := z
      refine ⟨I1.kIn, goG F hgd hr hb hx I1 r ?_⟩
      rwa [List.append_nil] at q) he hpl) hdb)⟩
end
/-! ### the law's own call -/
section
variable {P : Program} {w : World} {K : PySem.W.Frag} {mg mb : Str → Option Value} {CT : CXT} {n : Nat} {fa a : Addr} {fd : FuncData} {x : Str} {sp : Sp} {s : Shared} {vs : List Value} {ns : List Int}
def EndT (s : Shared) (r : Result) (s' : Shared) : Prop := r = .ok (.ret (.bool true)) ∧ OldK s.heap s'.heap ∧ s'.os = s.os ∧ AllBare s'.gens
theorem law_at (KX : K.In s.heap) (hns : s.heap.Ns mainGlobals mg) (hb : s.heap.Ns builtinsNs mb) (hbb : ∀ y : Str, y ≠ "__name__" → mb y = bootBuiltins y) (hlim : s.heap.NoLimit) (hgen : s.gens = #[])
    (ha : s.heap.get? a = some { cls := .type "list", data := .seq vs.toArray }) (hr : Room n callerA)
    (F : ∀ base : Heap, K.In base → base.Ns mainGlobals mg → FnG P w K mg base CT n fa fd [x] sp) (hbind : ∀ (s : Shared) (u : Value), BindsTo s fd ⟨[u], []⟩ [(x, u)])
    (hCT : ∀ H e s', CT [] H s (fun _ _ _ => False) e s' → False) {H : Hp} (hO : Only H) (hsp : sp [.ref a] H (fun v _ => v = .bl true) fun _ _ _ => False) (hok : HOk P w H s.heap) (hone : ∀ b, b ≠ a → H b = none) (hK : H a ≠ none → K.lookup a = none) :
    codeAny (model P w) callerA (.call (.ref fa) ⟨[.ref a], []⟩) (EndT s) s := by
  have hid : ∀ {b : Addr} {ob : Obj}, s.heap.get? b = some ob → (b = a → H a = none) → (hidT s.heap H).get? b = some ob := fun {b ob} q z => hidT_get q (by
    by_cases e : b = a
    · rw [e]; exact z e
    · exact hone b e)
  have nsT : ∀ {b : Addr} {f : Str → Option Value}, s.heap.Ns b f → (hidT s.heap H).Ns b f := by
    rintro b f ⟨ob, es, ep, q, d, rest⟩
    refine ⟨ob, es, ep, hid q fun e => ?_, d, rest⟩
    rw [e, ha] at q
    cases q
    cases (d : Data.seq vs.toArray _ = Data.dict es ep)
  have kinT : K.In (hidT s.heap H) := fun b ob q => hid (KX b ob q) fun e => by
    cases z : H a with
    | none => rfl
    | some u =>
      rw [e, hK (by rw [z]; exact nofun)] at q
      cases q
  obtain ⟨mc, l1, l2⟩ := hlim
  have env0 : Env0 P w K mg (hidT s.heap H) callerA [] s H :=
    { frames := rfl, mod := ⟨kinT, nsT hns, ⟨mb, nsT hb, hbb⟩, ⟨mc, nsT l1, l2⟩⟩, bs := fun _ _ q => of_hidT q, bsz := Nat.le_of_eq (hidT_size _ _), funs := trivial, frf := (fun b z => (nomatch z)), hok := hok, bare := .of_eq hgen }
  refine codeAny_mono ((F _ kinT (nsT hns)).run (us := [.ref a]) (as := [.ref a]) rfl hr env0 (hbind s (.ref a)) (.cons rfl .nil) hsp) ?_
  intro res s' z
  match res, z with
  | .error e, z => exact (hCT H e s' z).elim
  | .ok (.ret u), z =>
    obtain ⟨v, H1, os, bare, un, hok1, ru, hv⟩ := z
    obtain rfl : v = .bl true := hv
    obtain rfl : u = Value.bool true := ru
    refine ⟨rfl, OldK.of_keep fun b ob q => ?_, os, bare⟩
    rcases hO b with c | ⟨oc, xs, c⟩
    · exact un.keep b ob q c (fun z => nomatch z) (by simp)
    · obtain ⟨c1, _⟩ := hok b _ c
      obtain ⟨c2, _⟩ := hok1 b _ (un.frzs b oc _ c)
      rw [q] at c1
      cases c1
      exact c2
theorem law_callG (KX : K.In s.heap) (hns : s.heap.Ns mainGlobals mg) (hb : s.heap.Ns builtinsNs mb) (hbb : ∀ y : Str, y ≠ "__name__" → mb y = bootBuiltins y) (hlim : s.heap.NoLimit) (hgen : s.gens = #[])
    (ha : s.heap.get? a = some { cls := .type "list", data := .seq vs.toArray }) (hi : IntsAre vs ns) (hl : ns.length ≤ sizeLine) (hr : Room n callerA)
    (F : ∀ base : Heap, K.In base → base.Ns mainGlobals mg → FnG P w K mg base CT n fa fd [x] sp) (hbind : ∀ (s : Shared) (u : Value), BindsTo s fd ⟨[u], []⟩ [(x, u)])
    (hsp : ∀ H : Hp, Only H → SqL K H a (ns.map V.int) → sp [.ref a] H (fun v _ => v = .bl true) fun _ _ _ => False) (hCT : ∀ H e s', CT [] H s (fun _ _ _ => False) e s' → False) :
    codeAny (model P w) callerA (.call (.ref fa) ⟨[.ref a], []⟩) (EndT s) s := by
  have rv : Vals (ns.map V.int) vs := vals_ints hi
  have hsz : (ns.map V.int).length ≤ sizeLine := by rwa [List.length_map]
  by_cases hk : ∃ ob, K.lookup a = some ob
  · obtain ⟨ob, hk⟩ := hk
    have q := KX a ob hk
    rw [ha] at q
    cases q
    have hO : Only fun _ => none := fun _ => .inl rfl
    exact law_at KX hns hb hbb hlim hgen ha hr F hbind hCT hO (hsp _ hO (.inr ⟨_, vs.toArray, _, hk, rfl, rfl, rfl, by rw [List.size_toArray, ← rv.length]; exact hsz, by simpa using rv⟩)) (fun b u z => nomatch z) (fun _ _ => rfl) fun z => absurd rfl z
  · let H : Hp := upd (fun _ => none) a (.frz { cls := .type "list", data := .seq vs.toArray } (.lst (ns.map V.int)))
    have e1 : H a = some (.frz { cls := .type "list", data := .seq vs.toArray } (.lst (ns.map V.int))) := upd_same
    have e2 : ∀ b, b ≠ a → H b = none := fun b z => upd_ne z
    have hO : Only H := fun b => by
      by_cases z : b = a
      · rw [z]; exact .inr ⟨_, _, e1⟩
      · exact .inl (e2 b z)
    refine law_at KX hns hb hbb hlim hgen ha hr F hbind hCT hO (hsp H hO (.inl (.inr ⟨_, e1⟩))) ?_ e2 fun _ => ?_
    · intro b u z
      by_cases zb : b = a
      · subst zb
        rw [e1] at z
        cases z
        exact ⟨ha, hsz, vs, _, rv, ha⟩
      · rw [e2 b zb] at z; cases z
    · cases z : K.lookup a with
      | none => rfl
      | some ob => exact absurd ⟨ob, z⟩ hk
end
theorem walk_ofG {l : PySem.W.OpenLaw} {z n : Nat} {q : Program} {loose : List Str} {XP : (Str → Option Value) → Heap → Prop} {YP : World → Heap → Prop} {d : DefRec} {K : Params → PySem.W.Frag} {CT : World → CXT} {sp : World → Sp} {x : Str}
    (hz : l.most = some z) (hz2 : z ≤ sizeLine) (hdf : d.params.defaults = []) (hr : Room n callerA) (hY : ∀ (w : World) (h : Heap), YP w h → (K w.params).In h)
    (F : ∀ (w : World) (mg : Str → Option Value) (fa : Addr) (h : Heap), (K w.params).In h → h.Ns mainGlobals mg → mg d.name = some (.ref fa) →
      ∃ fd : FuncData, (∀ (s : Shared) (u : Value), BindsTo s fd ⟨[u], []⟩ [(x, u)]) ∧ ∀ base : Heap, (K w.params).In base → base.Ns mainGlobals mg → FnG l.prog w (K w.params) mg base (CT w) n fa fd [x] (sp w))
    (hsp : ∀ (w : World) (H : Hp) (a : Addr) (ns : List Int), ns.length ≤ z → (∀ i ∈ ns, Builtin.Int.intBits i ≤ 1048576) → Only H → SqL (K w.params) H a (ns.map V.int) → sp w [.ref a] H (fun v _ => v = .bl true) fun _ _ _ => False)
    (hCT : ∀ (w : World) (H : Hp) (s : Shared) (e : Value) (s' : Shared), CT w [] H s (fun _ _ _ => False) e s' → False) : PySem.W.WalkO q loose XP YP l.row.toRowW d [] (fun f vs => PySem.call f vs) := by
  refine Att.attach_callB hz hdf ?_
  intro w s₀ s mg mb fa o pm cd doc a vs ns G Y ho hd hcd hmg hobj hints hlen hbits hgen
  have inK := hY w _ Y
  obtain ⟨fd, hbind, hF⟩ := F w mg fa _ inK G.T.g hmg
  exact law_callG inK G.T.g G.T.b G.T.builtins G.T.nolimit hgen hobj hints (Nat.le_trans hlen hz2) hr hF hbind (fun H hO hS => hsp w H a ns hlen hbits hO hS) fun H e s' => hCT w H s e s'
end DL
/-! DLa: a layer of data over the hand layer: data as trees, cells that change, readings by data. -/
namespace DL
open PySem PySem.Spec PyProof.Rows L2

/-- data: trees of what does not change; slst: a list of the module or the script; own: a cell that may change; opq: anything else -/
inductive D where
  | non | bl (b : Bool) | int (i : Int) | str (x : Str)
  | lst (xs : List D) | tup (xs : List D) | slst (xs : List D)
  | obj (C : Addr) (ks : List Str) (xs : List D)
  | own (a : Addr)
  | opq (v : V)

/-- what stands in a cell -/
inductive Cell where
  | lst (xs : List D)
  | dic (kvs : List (Key × D))
  | ins (C : Addr) (ks : List Str) (xs : List D)
  /-- a table of code objects of the name q; cs: some of them -/
  | tbl (q : Str) (cs : List Addr)

abbrev CS := Addr → Option Cell
def put (C : CS) (a : Addr) (c : Cell) : CS := fun b => if b = a then some c else C b
def del (C : CS) (a : Addr) : CS := fun b => if b = a then none else C b
theorem put_same {C : CS} {a : Addr} {c : Cell} : put C a c a = some c := by unfold put; rw [if_pos rfl]
theorem put_ne {C : CS} {a b : Addr} {c : Cell} (h : b ≠ a) : put C a c b = C b := by unfold put; rw [if_neg h]
theorem put_put {C : CS} {a : Addr} {c d : Cell} : put (put C a c) a d = put C a d := by
  funext b; unfold put; split <;> rfl
theorem del_same {C : CS} {a : Addr} : del C a a = none := by unfold del; rw [if_pos rfl]
theorem del_ne {C : CS} {a b : Addr} (h : b ≠ a) : del C a b = C b := by unfold del; rw [if_neg h]
theorem del_put {C : CS} {a : Addr} {c : Cell} (h : C a = none) : del (put C a c) a = C := by
  funext b; unfold del put; split
  · rename_i e; rw [e, h]
  · rfl
theorem cell_ne {C : CS} {a b : Addr} {c : Cell} (h : C a = some c) (h' : C b = none) : a ≠ b := by
  intro e; subst e; rw [h] at h'; cases h'

mutual
inductive Dat (K : PySem.W.Frag) (G : Hp) : V → D → Prop
  | non : Dat K G .non .non
  | bl (b : Bool) : Dat K G (.bl b) (.bl b)
  | int (i : Int) : Dat K G (.int i) (.int i)
  | str (x : Str) : Dat K G (.str x) (.str x)
  | lst {a : Addr} {xs : List V} {ds : List D} : G a = some (.lst xs) → DatAll K G xs ds → Dat K G (.ref a) (.lst ds)
  | slst {a : Addr} {xs : List V} {ds : List D} : SqL K G a xs → DatAll K G xs ds → Dat K G (.ref a) (.slst ds)
  | tup {a : Addr} {xs : List V} {ds : List D} : SqT K G a xs → DatAll K G xs ds → Dat K G (.ref a) (.tup ds)
  | obj {a C dx : Addr} {fs : List (Str × V)} {ks : List Str} {ds : List D} : G a = some (.ins C dx fs) → fs.map (·.1) = ks → DatAll K G (fs.map (·.2)) ds → Dat K G (.ref a) (.obj C ks ds)
  | own (a : Addr) : Dat K G (.ref a) (.own a)
  | opq (v : V) : Dat K G v (.opq v)
inductive DatAll (K : PySem.W.Frag) (G : Hp) : List V → List D → Prop
  | nil : DatAll K G [] []
  | cons {v : V} {vs : List V} {d : D} {ds : List D} : Dat K G v d → DatAll K G vs ds → DatAll K G (v :: vs) (d :: ds)
end

theorem Same.sqT {K : PySem.W.Frag} {H H' : Hp} {a : Addr} {xs : List V} (e : Same H H') (h : SqT K H a xs) : SqT K H' a xs := by
  rcases h with (h | ⟨o, h⟩) | h
  · exact .inl (.inl (e _ _ h))
  · exact .inl (.inr ⟨o, e _ _ h⟩)
  · exact .inr h

section
variable {K : PySem.W.Frag} {G G' : Hp}
mutual
theorem Dat.mono (e : Same G G') : ∀ (d : D) {v : V}, Dat K G v d → Dat K G' v d
  | .non, _, h => by cases h; exact .non
  | .bl _, _, h => by cases h; exact .bl _
  | .int _, _, h => by cases h; exact .int _
  | .str _, _, h => by cases h; exact .str _
  | .lst ds, _, h => by
    cases h with
    | lst a b => exact .lst (e _ _ a) (DatAll.mono e ds b)
  | .slst ds, _, h => by
    cases h with
    | slst a b => exact .slst (e.seq a) (DatAll.mono e ds b)
  | .tup ds, _, h => by
    cases h with
    | tup a b => exact .tup (Same.sqT e a) (DatAll.mono e ds b)
  | .obj _ _ ds, _, h => by
    cases h with
    | obj a b c => exact .obj (e _ _ a) b (DatAll.mono e ds c)
  | .own _, _, h => by cases h; exact .own _
  | .opq _, _, h => by cases h; exact .opq _
theorem DatAll.mono (e : Same G G') : ∀ (ds : List D) {vs : List V}, DatAll K G vs ds → DatAll K G' vs ds
  | [], _, h => by cases h; exact .nil
  | d :: ds, _, h => by
    cases h with
    | cons a b => exact .cons (Dat.mono e d a) (DatAll.mono e ds b)
end
theorem DatAll.length : ∀ {vs : List V} {ds : List D}, DatAll K G vs ds → vs.length = ds.length
  | _, [], h => by cases h; rfl
  | _, d :: ds, h => by
    cases h with
    | cons a b => simp [DatAll.length b]
theorem DatAll.get : ∀ {vs : List V} {ds : List D} {i : Nat} {d : D}, DatAll K G vs ds → ds[i]? = some d → ∃ v, vs[i]? = some v ∧ Dat K G v d
  | _, [], i, d, h, e => by simp at e
  | _, x :: ds, i, d, h, e => by
    cases h with
    | cons a b =>
      cases i with
      | zero => simp at e; subst e; exact ⟨_, rfl, a⟩
      | succ i =>
        obtain ⟨v, h1, h2⟩ := DatAll.get (i := i) b (by simpa using e)
        exact ⟨v, by simpa using h1, h2⟩
theorem DatAll.append : ∀ {vs ws : List V} {ds es : List D}, DatAll K G vs ds → DatAll K G ws es → DatAll K G (vs ++ ws) (ds ++ es)
  | _, _, [], _, h, k => by cases h; exact k
  | _, _, d :: ds, _, h, k => by
    cases h with
    | cons a b => exact .cons a (DatAll.append b k)
theorem DatAll.take : ∀ {vs : List V} {ds : List D} (n : Nat), DatAll K G vs ds → DatAll K G (vs.take n) (ds.take n)
  | _, [], n, h => by cases h; simp; exact .nil
  | _, d :: ds, 0, h => by simp; exact .nil
  | _, d :: ds, n + 1, h => by
    cases h with
    | cons a b => exact .cons a (DatAll.take n b)
theorem DatAll.drop : ∀ {vs : List V} {ds : List D} (n : Nat), DatAll K G vs ds → DatAll K G (vs.drop n) (ds.drop n)
  | _, [], n, h => by cases h; simp; exact .nil
  | _, d :: ds, 0, h => h
  | _, d :: ds, n + 1, h => by
    cases h with
    | cons a b => exact DatAll.drop n b
theorem DatAll.set : ∀ {vs : List V} {ds : List D} {v : V} {d : D} (i : Nat), DatAll K G vs ds → Dat K G v d → DatAll K G (vs.set i v) (ds.set i d)
  | _, [], _, _, i, h, k => by cases h; simp; exact .nil
  | _, x :: ds, _, _, 0, h, k => by
    cases h with
    | cons a b => exact .cons k b
  | _, x :: ds, _, _, i + 1, h, k => by
    cases h with
    | cons a b => exact .cons a (DatAll.set i b k)
theorem DatAll.rev {vs : List V} {ds : List D} (h : DatAll K G vs ds) : DatAll K G vs.reverse ds.reverse := by
  induction ds generalizing vs with
  | nil => cases h; exact .nil
  | cons d ds ih =>
    cases h with
    | cons a b => simpa using DatAll.append (ih b) (.cons a .nil)
end

/-! ### the world -/
/-- a table of code objects; each of them bears the name q, and stands still -/
def TabG (G H : Hp) (a : Addr) (q : Str) (cs : List Addr) : Prop := ∃ ps : Array Value, H a = some (.tbl ps) ∧ TriplesOk ps.toList ∧ (∀ (pos : Pos) (cv : Value), codeAmong pos ps.toList = some cv → ∃ c, cv = .ref c ∧ G c = some (LamX.CodeO c q)) ∧ ∀ c ∈ cs, G c = some (LamX.CodeO c q)
def CellR (K : PySem.W.Frag) (G H : Hp) (a : Addr) : Cell → Prop
  | .lst ds => ∃ vs, H a = some (.lst vs) ∧ DatAll K G vs ds
  | .dic kvs => ∃ kw : List (Key × V), H a = some (.dK kw) ∧ kw.map (·.1) = kvs.map (·.1) ∧ DatAll K G (kw.map (·.2)) (kvs.map (·.2))
  | .ins C ks ds => ∃ (dx : Addr) (fs : List (Str × V)), H a = some (.ins C dx fs) ∧ fs.map (·.1) = ks ∧ DatAll K G (fs.map (·.2)) ds
  | .tbl q cs => TabG G H a q cs
theorem CellR.mono {K : PySem.W.Frag} {G G' H H' : Hp} {a : Addr} {c : Cell} (e : Same G G') (h : H' a = H a) (r : CellR K G H a c) : CellR K G' H' a c := by
  cases c with
  | lst ds => obtain ⟨vs, h1, h2⟩ := r; exact ⟨vs, h.trans h1, h2.mono e⟩
  | dic kvs => obtain ⟨vs, h1, h2, h3⟩ := r; exact ⟨vs, h.trans h1, h2, h3.mono e⟩
  | ins C ks ds => obtain ⟨dx, fs, h1, h2, h3⟩ := r; exact ⟨dx, fs, h.trans h1, h2, h3.mono e⟩
  | tbl q cs =>
    obtain ⟨ps, h1, h2, h3, h4⟩ := r
    refine ⟨ps, h.trans h1, h2, fun pos cv hc => ?_, fun c hc => e _ _ (h4 c hc)⟩
    obtain ⟨c, e1, e2⟩ := h3 pos cv hc
    exact ⟨c, e1, e _ _ e2⟩
theorem CellR.some {K : PySem.W.Frag} {G H : Hp} {a : Addr} {c : Cell} (r : CellR K G H a c) : ∃ o, H a = some o := by
  cases c with
  | lst ds => obtain ⟨vs, h1, h2⟩ := r; exact ⟨_, h1⟩
  | dic kvs => obtain ⟨vs, h1, h2, h3⟩ := r; exact ⟨_, h1⟩
  | ins C ks ds => obtain ⟨dx, fs, h1, h2, h3⟩ := r; exact ⟨_, h1⟩
  | tbl q cs => obtain ⟨ps, h1, _⟩ := r; exact ⟨_, h1⟩

structure Wld (K : PySem.W.Frag) (G : Hp) (C : CS) (H : Hp) : Prop where
  ex : Same G H
  cell : ∀ a c, C a = some c → G a = none ∧ CellR K G H a c
  /-- no table stands still -/
  nt : ∀ a ps, G a ≠ some (.tbl ps)

/-- what a piece of code leaves as it was -/
structure Fr (G : Hp) (C : CS) (H G' : Hp) (C' : CS) (H' : Hp) : Prop where
  exG : Same G G'
  /-- all but the tables of code objects -/
  keep : ∀ a o, H a = some o → C a = none → (∀ ps, o ≠ .tbl ps) → H' a = some o
  dom : ∀ a, H a ≠ none → H' a ≠ none
  newC : ∀ a, H a ≠ none → C' a ≠ none → C a ≠ none
  newG : ∀ a, H a ≠ none → G' a ≠ none → G a ≠ none ∨ C a ≠ none

section
variable {K : PySem.W.Frag} {G G1 G2 H H1 H2 : Hp} {C C1 C2 : CS} {a : Addr}
theorem Fr.refl (G : Hp) (C : CS) (H : Hp) : Fr G C H G C H := ⟨fun _ _ h => h, fun _ _ h _ _ => h, fun _ h => h, fun _ _ h => h, fun _ _ h => .inl h⟩
theorem Fr.trans (x : Fr G C H G1 C1 H1) (y : Fr G1 C1 H1 G2 C2 H2) : Fr G C H G2 C2 H2 where
  exG := x.exG.trans y.exG
  keep := fun a o h1 h2 h3 => y.keep a o (x.keep a o h1 h2 h3) (by
    cases q : C1 a with
    | none => rfl
    | some c => exact absurd h2 (x.newC a (by rw [h1]; simp) (by rw [q]; simp))) h3
  dom := fun a h => y.dom a (x.dom a h)
  newC := fun a h k => x.newC a h (y.newC a (x.dom a h) k)
  newG := fun a h k => (y.newG a (x.dom a h) k).elim (x.newG a h) fun k => .inr (x.newC a h k)
theorem Wld.ne (w : Wld K G C H) {a : Addr} (h : H a = none) : G a = none ∧ C a = none := by
  refine ⟨w.ex.free h, ?_⟩
  cases q : C a with
  | none => rfl
  | some c =>
    obtain ⟨o, e⟩ := (w.cell a c q).2.some
    rw [h] at e; cases e
/-- a new object that will not change -/
theorem Wld.newG (w : Wld K G C H) {p : Addr} (h : H p = none) (o : HO) (ho : ∀ ps, o ≠ .tbl ps := by intro _ z; cases z) : Wld K (upd G p o) C (upd H p o) ∧ Fr G C H (upd G p o) C (upd H p o) ∧ Same G (upd G p o) := by
  obtain ⟨g, c⟩ := w.ne h
  have sG : Same G (upd G p o) := fun b u e => by rw [upd_ne (ne_of_none e g)]; exact e
  refine ⟨⟨fun b u e => ?_, fun b c' e => ?_, fun b ps z => ?_⟩, ⟨sG, fun b u e _ _ => by rw [upd_ne (ne_of_none e h)]; exact e, fun b e => ?_, fun _ _ k => k, fun b hb k => ?_⟩, sG⟩
  · by_cases q : b = p
    · subst q; rw [upd_same] at e ⊢; exact e
    · rw [upd_ne q] at e ⊢; exact w.ex b u e
  · have ne : b ≠ p := cell_ne e c
    obtain ⟨h1, h2⟩ := w.cell b c' e
    exact ⟨by rw [upd_ne ne]; exact h1, h2.mono sG (upd_ne ne)⟩
  · by_cases q : b = p
    · subst q; rw [upd_same] at z; exact ho ps (Option.some.inj z)
    · rw [upd_ne q] at z; exact w.nt b ps z
  · by_cases q : b = p
    · subst q; exact absurd h e
    · rw [upd_ne q]; exact e
  · by_cases q : b = p
    · subst q; exact absurd h hb
    · rw [upd_ne q] at k; exact .inl k
/-- a new cell -/
theorem Wld.newC (w : Wld K G C H) {p : Addr} (h : H p = none) {o : HO} {c : Cell} (r : ∀ H', H' p = some o → CellR K G H' p c) : Wld K G (put C p c) (upd H p o) ∧ Fr G C H G (put C p c) (upd H p o) := by
  obtain ⟨g, c0⟩ := w.ne h
  refine ⟨⟨fun b u e => ?_, fun b c' e => ?_, w.nt⟩, ⟨fun _ _ h => h, fun b u e _ _ => by rw [upd_ne (ne_of_none e h)]; exact e, fun b e => ?_, fun b hb k => ?_, fun b _ k => .inl k⟩⟩
  · rw [upd_ne (ne_of_none e g)]; exact w.ex b u e
  · by_cases q : b = p
    · subst q; rw [put_same] at e; cases e; exact ⟨g, r _ upd_same⟩
    · rw [put_ne q] at e
      obtain ⟨h1, h2⟩ := w.cell b c' e
      exact ⟨h1, h2.mono (fun _ _ h => h) (upd_ne q)⟩
  · by_cases q : b = p
    · subst q; exact absurd h e
    · rw [upd_ne q]; exact e
  · by_cases q : b = p
    · subst q; exact absurd h hb
    · rw [put_ne q] at k; exact k
/-- a cell is changed -/
theorem Wld.write (w : Wld K G C H) {p : Addr} {c c' : Cell} (h : C p = some c) {o : HO} (r : ∀ H', H' p = some o → CellR K G H' p c') : Wld K G (put C p c') (upd H p o) ∧ Fr G C H G (put C p c') (upd H p o) := by
  obtain ⟨g, r0⟩ := w.cell p c h
  refine ⟨⟨fun b u e => ?_, fun b d e => ?_, w.nt⟩, ⟨fun _ _ h => h, fun b u e k _ => ?_, fun b e => ?_, fun b hb k => ?_, fun b _ k => .inl k⟩⟩
  · rw [upd_ne (ne_of_none e g)]; exact w.ex b u e
  · by_cases q : b = p
    · subst q; rw [put_same] at e; cases e; exact ⟨g, r _ upd_same⟩
    · rw [put_ne q] at e
      obtain ⟨h1, h2⟩ := w.cell b d e
      exact ⟨h1, h2.mono (fun _ _ h => h) (upd_ne q)⟩
  · have : b ≠ p := fun q => by subst q; rw [h] at k; cases k
    rw [upd_ne this]; exact e
  · by_cases q : b = p
    · subst q; rw [upd_same]; simp
    · rw [upd_ne q]; exact e
  · by_cases q : b = p
    · subst q; rw [h]; simp
    · rw [put_ne q] at k; exact k
/-- cells are forgotten -/
theorem Wld.sub (w : Wld K G C H) (h : ∀ a c, C1 a = some c → C a = some c) : Wld K G C1 H ∧ Fr G C H G C1 H :=
  ⟨⟨w.ex, fun a c e => w.cell a c (h a c e), w.nt⟩, ⟨fun _ _ h => h, fun _ _ h _ _ => h, fun _ h => h, fun a _ k => by
    cases q : C1 a with
    | none => exact absurd q k
    | some c => rw [h a c q]; simp, fun _ _ h => .inl h⟩⟩
/-- a list's cell is frozen -/
theorem Wld.freeze (w : Wld K G C H) {p : Addr} {ds : List D} (h : C p = some (.lst ds)) : ∃ G', Wld K G' (del C p) H ∧ Fr G C H G' (del C p) H ∧ Dat K G' (.ref p) (.lst ds) := by
  obtain ⟨g, vs, e, r⟩ := w.cell p _ h
  have sG : Same G (upd G p (.lst vs)) := fun b u e => by rw [upd_ne (ne_of_none e g)]; exact e
  refine ⟨upd G p (.lst vs), ⟨fun b u q => ?_, fun b c q => ?_, fun b ps z => ?_⟩, ⟨sG, fun _ _ h _ _ => h, fun _ h => h, fun b _ k => ?_, fun b _ k => ?_⟩, .lst upd_same (r.mono sG)⟩
  · by_cases z : b = p
    · subst z; rw [upd_same] at q; rw [e]; exact q
    · rw [upd_ne z] at q; exact w.ex b u q
  · have ne : b ≠ p := fun z => by subst z; rw [del_same] at q; cases q
    rw [del_ne ne] at q
    obtain ⟨h1, h2⟩ := w.cell b c q
    exact ⟨by rw [upd_ne ne]; exact h1, h2.mono sG rfl⟩
  · by_cases q : b = p
    · subst q; rw [upd_same] at z; cases z
    · rw [upd_ne q] at z; exact w.nt b ps z
  · by_cases z : b = p
    · subst z; rw [h]; simp
    · rw [del_ne z] at k; exact k
  · by_cases z : b = p
    · subst z; right; rw [h]; simp
    · rw [upd_ne z] at k; exact .inl k
end
end DL
/-! DLb: judgements by data: expressions, tests, arguments, statements. -/
namespace DL
open PySem PySem.Spec PyProof.Rows L2

abbrev DEnv := List (Option D)
def EnvR (K : PySem.W.Frag) (G : Hp) (env : DEnv) (σ : L2.St) : Prop := env.length = σ.length ∧ ∀ (i : Nat) (d : D), env[i]? = some (some d) → ∃ v, σ[i]? = some (some v) ∧ Dat K G v d
abbrev KD := D → CS → Prop
def Kont (K : PySem.W.Frag) (G : Hp) (C : CS) (H : Hp) (k : KD) (Q : VK) : Prop :=
  ∀ v G' C' H' d, Fr G C H G' C' H' → Wld K G' C' H' → Dat K G' v d → k d C' → Q v H'
def KontB (K : PySem.W.Frag) (G : Hp) (C : CS) (H : Hp) (k : Bool → CS → Prop) (Q : Bool → Hp → Prop) : Prop :=
  ∀ b G' C' H', Fr G C H G' C' H' → Wld K G' C' H' → k b C' → Q b H'
def KontA (K : PySem.W.Frag) (G : Hp) (C : CS) (H : Hp) (k : List D → CS → Prop) (Q : List V → Hp → Prop) : Prop :=
  ∀ vs G' C' H' ds, Fr G C H G' C' H' → Wld K G' C' H' → DatAll K G' vs ds → k ds C' → Q vs H'
def Ev (K : PySem.W.Frag) (te : TE) (env : DEnv) (C : CS) (k : KD) : Prop := ∀ G σ H Q, Wld K G C H → EnvR K G env σ → Kont K G C H k Q → te σ H Q
def EvB (K : PySem.W.Frag) (te : TT) (env : DEnv) (C : CS) (k : Bool → CS → Prop) : Prop := ∀ G σ H Q, Wld K G C H → EnvR K G env σ → KontB K G C H k Q → te σ H Q
def EvA (K : PySem.W.Frag) (te : TA) (env : DEnv) (C : CS) (k : List D → CS → Prop) : Prop := ∀ G σ H Q, Wld K G C H → EnvR K G env σ → KontA K G C H k Q → te σ H Q

/-- the widest readings -/
def tS (X : Cx) (e : Expr) : TE := fun σ H Q => ∀ pins s, Inv X pins σ H s → wpAny (model X.prog X.w) X.A (eval e X.env) (EP X pins σ Q) X.xe s
def tT (X : Cx) (e : Expr) : TT := fun σ H Q => ∀ pins s, Inv X pins σ H s → wpAny (model X.prog X.w) X.A (isTrue e X.env (eval e X.env)) (TP X pins σ Q) X.xe s
def tW (X : Cx) (e : Expr) : TT := fun σ H Q => ∀ whole pins s, Inv X pins σ H s → wpAny (model X.prog X.w) X.A (isTrue e X.env whole) (TP X pins σ Q) X.xe s
def tAr (X : Cx) (es : List Expr) : TA := fun σ H Q => ∀ (pos : Pos) pins s, Inv X pins σ H s → wpAny (model X.prog X.w) X.A (spliced (backTo pos (starEach es X.env))) (AP X pins σ Q) X.xe s
def tX (X : Cx) (st : Stmt) : TS := fun D σ H => ∀ pins s, Inv X pins σ H s → wpAny (model X.prog X.w) X.A (exec st X.env) (SP X pins D) X.xe s
def tXs (X : Cx) (st : List Stmt) : TS := fun D σ H => ∀ pins s, Inv X pins σ H s → wpAny (model X.prog X.w) X.A (execs st X.env) (SP X pins D) X.xe s
section
variable {X : Cx} {e : Expr} {es : List Expr} {st : Stmt} {sts : List Stmt}
theorem pe_tS : PE X e (tS X e) := ⟨fun pins s σ H Q I h => h pins s I⟩
theorem pt_tT : PT X e (tT X e) := ⟨fun pins s σ H Q I h => h pins s I⟩
theorem pw_tW : PW X e (tW X e) := ⟨fun wh pins s σ H Q I h => h wh pins s I⟩
theorem pa_tAr : PA X es (tAr X es) := ⟨fun pos pins s σ H Q I h => h pos pins s I⟩
theorem ps_tX : PS X st (tX X st) := ⟨fun pins s σ H D I h => h pins s I⟩
theorem pss_tXs : PSs X sts (tXs X sts) := ⟨fun pins s σ H D I h => h pins s I⟩
end
def WE (X : Cx) (e : Expr) (env : DEnv) (C : CS) (k : KD) : Prop := Ev X.K (tS X e) env C k
def WT (X : Cx) (e : Expr) (env : DEnv) (C : CS) (k : Bool → CS → Prop) : Prop := EvB X.K (tT X e) env C k
def WW (X : Cx) (e : Expr) (env : DEnv) (C : CS) (k : Bool → CS → Prop) : Prop := EvB X.K (tW X e) env C k
def WA (X : Cx) (es : List Expr) (env : DEnv) (C : CS) (k : List D → CS → Prop) : Prop := EvA X.K (tAr X es) env C k

structure DEnds where
  nx : DEnv → CS → Prop
  rt : KD
  bk : DEnv → CS → Prop := fun _ _ => False
  ct : DEnv → CS → Prop := fun _ _ => False
def KontE (K : PySem.W.Frag) (G : Hp) (C : CS) (H : Hp) (k : DEnv → CS → Prop) (Q : L2.St → Hp → Prop) : Prop :=
  ∀ G' C' H' σ env, Fr G C H G' C' H' → Wld K G' C' H' → EnvR K G' env σ → k env C' → Q σ H'
structure KontS (K : PySem.W.Frag) (G : Hp) (C : CS) (H : Hp) (E : DEnds) (D : Ends) : Prop where
  nx : KontE K G C H E.nx D.nx
  rt : Kont K G C H E.rt D.rt
  bk : KontE K G C H E.bk D.bk
  ct : KontE K G C H E.ct D.ct
def EvS (K : PySem.W.Frag) (ts : TS) (env : DEnv) (C : CS) (E : DEnds) : Prop := ∀ G σ H D, Wld K G C H → EnvR K G env σ → KontS K G C H E D → ts D σ H
def WS (X : Cx) (st : Stmt) (env : DEnv) (C : CS) (E : DEnds) : Prop := EvS X.K (tX X st) env C E
def WSs (X : Cx) (sts : List Stmt) (env : DEnv) (C : CS) (E : DEnds) : Prop := EvS X.K (tXs X sts) env C E

section
variable {K : PySem.W.Frag} {G G1 H H1 : Hp} {C C1 : CS} {env : DEnv} {σ : L2.St}
theorem EnvR.mono (h : EnvR K G env σ) (e : Same G G1) : EnvR K G1 env σ := ⟨h.1, fun i d q => let ⟨v, a, b⟩ := h.2 i d q; ⟨v, a, b.mono e⟩⟩
theorem Kont.after {k : KD} {Q : VK} (q : Kont K G C H k Q) (f : Fr G C H G1 C1 H1) : Kont K G1 C1 H1 k Q := fun v G' C' H' d f' => q v G' C' H' d (f.trans f')
theorem KontB.after {k : Bool → CS → Prop} {Q : Bool → Hp → Prop} (q : KontB K G C H k Q) (f : Fr G C H G1 C1 H1) : KontB K G1 C1 H1 k Q := fun v G' C' H' f' => q v G' C' H' (f.trans f')
theorem KontA.after {k : List D → CS → Prop} {Q : List V → Hp → Prop} (q : KontA K G C H k Q) (f : Fr G C H G1 C1 H1) : KontA K G1 C1 H1 k Q := fun v G' C' H' d f' => q v G' C' H' d (f.trans f')
theorem KontE.after {k : DEnv → CS → Prop} {Q : L2.St → Hp → Prop} (q : KontE K G C H k Q) (f : Fr G C H G1 C1 H1) : KontE K G1 C1 H1 k Q := fun G' C' H' s d f' => q G' C' H' s d (f.trans f')
theorem KontS.after {E : DEnds} {D : Ends} (q : KontS K G C H E D) (f : Fr G C H G1 C1 H1) : KontS K G1 C1 H1 E D := ⟨q.nx.after f, q.rt.after f, q.bk.after f, q.ct.after f⟩
theorem EnvR.set (h : EnvR K G env σ) {v : V} {d : D} (i : Nat) (r : Dat K G v d) : EnvR K G (env.set i (some d)) (σ.set i (some v)) := by
  refine ⟨by simp [h.1], fun j d' q => ?_⟩
  by_cases e : i = j
  · subst e
    by_cases l : i < env.length
    · rw [List.getElem?_set_self l] at q
      cases q
      exact ⟨v, by rw [List.getElem?_set_self (by rw [← h.1]; exact l)], r⟩
    · rw [List.getElem?_eq_none (by simp; omega)] at q; cases q
  · rw [List.getElem?_set_ne e] at q ⊢
    exact h.2 j d' q
end

/-! ### from a rule of the hand layer -/
section
variable {X : Cx} {e : Expr} {es : List Expr} {st : Stmt} {sts : List Stmt} {env : DEnv} {C : CS}
theorem WE.of {te : TE} {k : KD} (h : PE X e te) (hv : Ev X.K te env C k) : WE X e env C k := fun G σ H Q w er q pins s I => h.run pins s σ H Q I (hv G σ H Q w er q)
theorem WT.of {te : TT} {k : Bool → CS → Prop} (h : PT X e te) (hv : EvB X.K te env C k) : WT X e env C k := fun G σ H Q w er q pins s I => h.run pins s σ H Q I (hv G σ H Q w er q)
theorem WW.of {te : TT} {k : Bool → CS → Prop} (h : PW X e te) (hv : EvB X.K te env C k) : WW X e env C k := fun G σ H Q w er q wh pins s I => h.run wh pins s σ H Q I (hv G σ H Q w er q)
theorem WA.of {te : TA} {k : List D → CS → Prop} (h : PA X es te) (hv : EvA X.K te env C k) : WA X es env C k := fun G σ H Q w er q pos pins s I => h.run pos pins s σ H Q I (hv G σ H Q w er q)
theorem WS.of {te : TS} {E : DEnds} (h : PS X st te) (hv : EvS X.K te env C E) : WS X st env C E := fun G σ H D w er q pins s I => h.run pins s σ H D I (hv G σ H D w er q)
theorem WSs.of {te : TS} {E : DEnds} (h : PSs X sts te) (hv : EvS X.K te env C E) : WSs X sts env C E := fun G σ H D w er q pins s I => h.run pins s σ H D I (hv G σ H D w er q)
theorem WE.imp {k k' : KD} (h : WE X e env C k) (hk : ∀ d C', k d C' → k' d C') : WE X e env C k' := fun G σ H Q w er q => h G σ H Q w er fun v G' C' H' d f w' r z => q v G' C' H' d f w' r (hk d C' z)
theorem WT.imp {k k' : Bool → CS → Prop} (h : WT X e env C k) (hk : ∀ d C', k d C' → k' d C') : WT X e env C k' := fun G σ H Q w er q => h G σ H Q w er fun v G' C' H' f w' z => q v G' C' H' f w' (hk v C' z)
theorem WA.imp {k k' : List D → CS → Prop} (h : WA X es env C k) (hk : ∀ d C', k d C' → k' d C') : WA X es env C k' := fun G σ H Q w er q => h G σ H Q w er fun v G' C' H' d f w' r z => q v G' C' H' d f w' r (hk d C' z)
end

/-! ### readings by data, compositionally -/
abbrev OpD := D → D → CS → KD → Prop
/-- a two-place operation on values is one on data -/
def R2D (K : PySem.W.Frag) (r : R2) (p : OpD) : Prop := ∀ (x y : V) (a b : D) (G : Hp) (C : CS) (H : Hp) (k : KD) (Q : VK), Wld K G C H → Dat K G x a → Dat K G y b → p a b C k → Kont K G C H k Q → r x y H Q
def R1D (K : PySem.W.Frag) (r : V → Hp → VK → Prop) (p : D → CS → KD → Prop) : Prop := ∀ (x : V) (a : D) (G : Hp) (C : CS) (H : Hp) (k : KD) (Q : VK), Wld K G C H → Dat K G x a → p a C k → Kont K G C H k Q → r x H Q
def RLD (K : PySem.W.Frag) (r : List V → Hp → VK → Prop) (p : List D → CS → KD → Prop) : Prop := ∀ (xs : List V) (ds : List D) (G : Hp) (C : CS) (H : Hp) (k : KD) (Q : VK), Wld K G C H → DatAll K G xs ds → p ds C k → Kont K G C H k Q → r xs H Q
def RMD (K : PySem.W.Frag) (r : V → List V → Hp → VK → Prop) (p : D → List D → CS → KD → Prop) : Prop := ∀ (x : V) (a : D) (xs : List V) (ds : List D) (G : Hp) (C : CS) (H : Hp) (k : KD) (Q : VK), Wld K G C H → Dat K G x a → DatAll K G xs ds → p a ds C k → Kont K G C H k Q → r x xs H Q
section
variable {K : PySem.W.Frag} {env : DEnv} {C : CS} {ta tb te : TE} {k : KD} {r : R2} {p : OpD} {t u : TT} {kb : Bool → CS → Prop} {tr : TA}
theorem ev_op (hr : R2D K r p) (h : Ev K ta env C fun x C1 => Ev K tb env C1 fun y C2 => p x y C2 k) : Ev K (tOp r ta tb) env C k := fun G σ H Q w er q =>
  h G σ H _ w er fun v G1 C1 H1 x f1 w1 d1 hb => hb G1 σ H1 _ w1 (er.mono f1.exG) fun y' G2 C2 H2 y f2 w2 d2 hp => hr v y' x y G2 C2 H2 k Q w2 (d1.mono f2.exG) d2 hp (q.after (f1.trans f2))
theorem ev_un {r : V → Hp → VK → Prop} {p : D → CS → KD → Prop} (hr : R1D K r p) (h : Ev K ta env C fun x C1 => p x C1 k) : Ev K (tUn r ta) env C k := fun G σ H Q w er q =>
  h G σ H _ w er fun v G1 C1 H1 x f1 w1 d1 hb => hr v x G1 C1 H1 k Q w1 d1 hb (q.after f1)
theorem ev_cb {r : List V → Hp → VK → Prop} {p : List D → CS → KD → Prop} (hr : RLD K r p) (h : EvA K tr env C fun ds C1 => p ds C1 k) : Ev K (tCB r tr) env C k := fun G σ H Q w er q =>
  h G σ H _ w er fun vs G1 C1 H1 ds f1 w1 d1 hb => hr vs ds G1 C1 H1 k Q w1 d1 hb (q.after f1)
theorem eb_test (h : Ev K te env C fun x C1 => ∃ b, x = .bl b ∧ kb b C1) : EvB K (tTest te) env C kb := fun G σ H Q w er q =>
  h G σ H _ w er fun v G1 C1 H1 x f1 w1 d1 hb => by
    obtain ⟨b, rfl, hb⟩ := hb
    cases d1
    exact ⟨b, rfl, q b G1 C1 H1 f1 w1 hb⟩
theorem eb_B (h : Ev K te env C fun x C1 => ∃ b, x = .bl b ∧ kb b C1) : EvB K (tB te) env C kb := eb_test h
theorem eb_not (h : EvB K t env C fun b C1 => kb (!b) C1) : EvB K (tNot t) env C kb := fun G σ H Q w er q => h G σ H _ w er fun b G1 C1 H1 f1 w1 hb => q _ G1 C1 H1 f1 w1 hb
end
end DL
/-! DLc: the rules by data: names, operators, comparisons, displays, subscripts, tests. -/
namespace DL
open PySem PySem.Spec PyProof.Rows L2

/-! ### views of data -/
def seqL (C : CS) : D → Option (List D)
  | .lst xs => some xs
  | .own a => match C a with
    | some (.lst xs) => some xs
    | _ => none
  | _ => none
def seqR (C : CS) : D → Option (List D)
  | .slst xs => some xs
  | .lst xs => some xs
  | .own a => match C a with
    | some (.lst xs) => some xs
    | _ => none
  | _ => none
theorem seqL_own {C : CS} {a : Addr} {xs : List D} (h : C a = some (.lst xs)) : seqL C (.own a) = some xs := by unfold seqL; simp only [h]
theorem seqR_own {C : CS} {a : Addr} {xs : List D} (h : C a = some (.lst xs)) : seqR C (.own a) = some xs := by unfold seqR; simp only [h]
theorem own_seqL {C : CS} {a : Addr} {xs : List D} (h : seqL C (.own a) = some xs) : C a = some (.lst xs) := by
  unfold seqL at h
  cases q : C a with
  | none => simp [q] at h
  | some c => cases c <;> simp [q] at h; subst h; rfl
theorem own_seqR {C : CS} {a : Addr} {xs : List D} (h : seqR C (.own a) = some xs) : C a = some (.lst xs) := by
  unfold seqR at h
  cases q : C a with
  | none => simp [q] at h
  | some c => cases c <;> simp [q] at h; subst h; rfl
section
variable {K : PySem.W.Frag} {G H : Hp} {C : CS} {v : V} {d : D} {ds : List D}
theorem Wld.lst (w : Wld K G C H) (r : Dat K G v d) (e : seqL C d = some ds) : ∃ a xs, v = .ref a ∧ H a = some (.lst xs) ∧ DatAll K G xs ds := by
  cases r with
  | lst a b => simp [seqL] at e; subst e; exact ⟨_, _, rfl, w.ex _ _ a, b⟩
  | own a =>
    obtain ⟨_, vs, h1, h2⟩ := w.cell a _ (own_seqL e)
    exact ⟨a, vs, rfl, h1, h2⟩
  | _ => simp [seqL] at e
theorem Wld.seq (w : Wld K G C H) (r : Dat K G v d) (e : seqR C d = some ds) : ∃ a xs, v = .ref a ∧ SqL K H a xs ∧ DatAll K G xs ds := by
  cases r with
  | lst a b => simp [seqR] at e; subst e; exact ⟨_, _, rfl, SqL.of (w.ex _ _ a), b⟩
  | slst a b => simp [seqR] at e; subst e; exact ⟨_, _, rfl, w.ex.seq a, b⟩
  | own a =>
    obtain ⟨_, vs, h1, h2⟩ := w.cell a _ (own_seqR e)
    exact ⟨a, vs, rfl, SqL.of h1, h2⟩
  | _ => simp [seqR] at e
theorem Wld.tup (w : Wld K G C H) (r : Dat K G v (.tup ds)) : ∃ a xs, v = .ref a ∧ SqT K H a xs ∧ DatAll K G xs ds := by
  cases r with
  | tup a b => exact ⟨_, _, rfl, Same.sqT w.ex a, b⟩
end

mutual
def D.py : D → PyData
  | .non => .none
  | .bl b => .bool b
  | .int i => .int i
  | .str x => .str x
  | .lst xs => .list (pyL xs)
  | .slst xs => .list (pyL xs)
  | .tup xs => .tuple (pyL xs)
  | _ => .none
def pyL : List D → List PyData
  | [] => []
  | d :: ds => d.py :: pyL ds
end
mutual
def D.isPy : D → Bool
  | .non | .bl _ | .int _ | .str _ => true
  | .lst xs => allPy xs
  | .slst xs => allPy xs
  | .tup xs => allPy xs
  | _ => false
def allPy : List D → Bool
  | [] => true
  | d :: ds => d.isPy && allPy ds
end
section
variable {K : PySem.W.Frag} {G H : Hp}
mutual
theorem Dat.dp (e : Same G H) : ∀ (d : D) {v : V}, Dat K G v d → d.isPy = true → Dp K H v d.py
  | .non, _, h, _ => by cases h; exact .non
  | .bl _, _, h, _ => by cases h; exact .bl _
  | .int _, _, h, _ => by cases h; exact .int _
  | .str _, _, h, _ => by cases h; exact .str _
  | .lst ds, _, h, p => by
    cases h with
    | lst a b => exact .lst (SqL.of (e _ _ a)) (DatAll.dp e ds b (by simpa [D.isPy] using p))
  | .slst ds, _, h, p => by
    cases h with
    | slst a b => exact .lst (e.seq a) (DatAll.dp e ds b (by simpa [D.isPy] using p))
  | .tup ds, _, h, p => by
    cases h with
    | tup a b => exact .tup (Same.sqT e a) (DatAll.dp e ds b (by simpa [D.isPy] using p))
  | .obj _ _ ds, _, h, p => by simp [D.isPy] at p
  | .own _, _, h, p => by simp [D.isPy] at p
  | .opq _, _, h, p => by simp [D.isPy] at p
theorem DatAll.dp (e : Same G H) : ∀ (ds : List D) {vs : List V}, DatAll K G vs ds → allPy ds = true → DpAll K H vs (pyL ds)
  | [], _, h, _ => by cases h; exact .nil
  | d :: ds, _, h, p => by
    rw [allPy, Bool.and_eq_true] at p
    cases h with
    | cons a b => exact .cons (Dat.dp e d a p.1) (DatAll.dp e ds b p.2)
end
end
/-- the data that an operand stands for -/
def pyC (C : CS) : D → Option PyData
  | .own a => match C a with
    | some (.lst ds) => if allPy ds = true then some (.list (pyL ds)) else none
    | _ => none
  | d => if d.isPy = true then some d.py else none
theorem Wld.dp {K : PySem.W.Frag} {G H : Hp} {C : CS} {v : V} {d : D} {y : PyData} (w : Wld K G C H) (r : Dat K G v d) (e : pyC C d = some y) : Dp K H v y := by
  cases d with
  | own a =>
    cases r
    unfold pyC at e
    cases q : C a with
    | none => simp [q] at e
    | some c =>
      cases c with
      | lst ds =>
        simp [q] at e
        obtain ⟨p, rfl⟩ := e
        obtain ⟨_, vs, h1, h2⟩ := w.cell a _ q
        exact .lst (SqL.of h1) (h2.dp w.ex _ p)
      | _ => simp [q] at e
  | _ =>
    unfold pyC at e
    simp only [Option.ite_none_right_eq_some, Option.some.injEq] at e
    obtain ⟨p, rfl⟩ := e
    exact r.dp w.ex _ p

/-! ### more readings -/
section
variable {K : PySem.W.Frag} {env : DEnv} {C : CS} {ta tb te : TE} {k : KD} {t u : TT} {kb : Bool → CS → Prop} {tr : TA} {ka : List D → CS → Prop}
theorem eb_and2 (h : EvB K t env C fun b C1 => (b = true → EvB K u env C1 kb) ∧ (b = false → kb false C1)) : EvB K (tAnd t u) env C kb := fun G σ H Q w er q => h G σ H _ w er fun b G1 C1 H1 f1 w1 hb => by
  cases b with
  | true => exact iteT (hb.1 rfl G1 σ H1 Q w1 (er.mono f1.exG) (q.after f1))
  | false => exact iteF (q _ G1 C1 H1 f1 w1 (hb.2 rfl))
theorem eb_or2 (h : EvB K t env C fun b C1 => (b = true → kb true C1) ∧ (b = false → EvB K u env C1 kb)) : EvB K (tOr t u) env C kb := fun G σ H Q w er q => h G σ H _ w er fun b G1 C1 H1 f1 w1 hb => by
  cases b with
  | true => exact iteT (q _ G1 C1 H1 f1 w1 (hb.1 rfl))
  | false => exact iteF (hb.2 rfl G1 σ H1 Q w1 (er.mono f1.exG) (q.after f1))
theorem ev_andV (h : Ev K ta env C fun x C1 => ∃ b, x = .bl b ∧ (b = true → Ev K tb env C1 k) ∧ (b = false → k (.bl false) C1)) : Ev K (tAndV ta tb) env C k := fun G σ H Q w er q => h G σ H _ w er fun v G1 C1 H1 x f1 w1 d1 hb => by
  obtain ⟨b, rfl, h1, h2⟩ := hb
  cases d1
  refine ⟨b, rfl, ?_⟩
  cases b with
  | true => exact iteT (h1 rfl G1 σ H1 Q w1 (er.mono f1.exG) (q.after f1))
  | false => exact iteF (q _ G1 C1 H1 _ f1 w1 (.bl false) (h2 rfl))
theorem ev_orV (h : Ev K ta env C fun x C1 => ∃ b, x = .bl b ∧ (b = true → k (.bl true) C1) ∧ (b = false → Ev K tb env C1 k)) : Ev K (tOrV ta tb) env C k := fun G σ H Q w er q => h G σ H _ w er fun v G1 C1 H1 x f1 w1 d1 hb => by
  obtain ⟨b, rfl, h1, h2⟩ := hb
  cases d1
  refine ⟨b, rfl, ?_⟩
  cases b with
  | true => exact iteT (q _ G1 C1 H1 _ f1 w1 (.bl true) (h1 rfl))
  | false => exact iteF (h2 rfl G1 σ H1 Q w1 (er.mono f1.exG) (q.after f1))
theorem ev_notV (h : Ev K ta env C fun x C1 => ∃ b, x = .bl b ∧ k (.bl (!b)) C1) : Ev K (tNotV ta) env C k := fun G σ H Q w er q => h G σ H _ w er fun v G1 C1 H1 x f1 w1 d1 hb => by
  obtain ⟨b, rfl, h1⟩ := hb
  cases d1
  exact ⟨b, rfl, q _ G1 C1 H1 _ f1 w1 (.bl _) h1⟩
theorem ev_if (h : EvB K t env C fun b C1 => (b = true → Ev K ta env C1 k) ∧ (b = false → Ev K tb env C1 k)) : Ev K (tIf t ta tb) env C k := fun G σ H Q w er q => h G σ H _ w er fun b G1 C1 H1 f1 w1 hb => by
  cases b with
  | true => exact iteT (hb.1 rfl G1 σ H1 Q w1 (er.mono f1.exG) (q.after f1))
  | false => exact iteF (hb.2 rfl G1 σ H1 Q w1 (er.mono f1.exG) (q.after f1))
theorem ea_nil (h : ka [] C) : EvA K tNil env C ka := fun G σ H Q w er q => q [] G C H [] (Fr.refl ..) w .nil h
theorem ea_cons (h : Ev K ta env C fun x C1 => EvA K tr env C1 fun ds C2 => ka (x :: ds) C2) : EvA K (tCons ta tr) env C ka := fun G σ H Q w er q =>
  h G σ H _ w er fun v G1 C1 H1 x f1 w1 d1 hb => hb G1 σ H1 _ w1 (er.mono f1.exG) fun vs G2 C2 H2 ds f2 w2 d2 hp => q (v :: vs) G2 C2 H2 (x :: ds) (f1.trans f2) w2 (.cons (d1.mono f2.exG) d2) hp
theorem ev_tup (h : EvA K tr env C fun ds C1 => ds.length ≤ sizeLine ∧ k (.tup ds) C1) : Ev K (tTup tr) env C k := fun G σ H Q w er q =>
  h G σ H _ w er fun vs G1 C1 H1 ds f1 w1 d1 hb => ⟨by rw [d1.length]; exact hb.1, fun p hp => by
    obtain ⟨w2, f2, s2⟩ := w1.newG hp (.tup vs)
    exact q _ _ _ _ _ (f1.trans f2) w2 (.tup (SqT.of upd_same) (d1.mono s2)) hb.2⟩
theorem ev_lst (h : EvA K tr env C fun ds C1 => ds.length ≤ sizeLine ∧ ∀ p, C1 p = none → k (.own p) (put C1 p (.lst ds))) : Ev K (tLst tr) env C k := fun G σ H Q w er q =>
  h G σ H _ w er fun vs G1 C1 H1 ds f1 w1 d1 hb => ⟨by rw [d1.length]; exact hb.1, fun p hp => by
    obtain ⟨w2, f2⟩ := w1.newC hp (o := .lst vs) (c := .lst ds) fun H' e => ⟨vs, e, d1⟩
    exact q _ _ _ _ _ (f1.trans f2) w2 (.own p) (hb.2 p (w1.ne hp).2)⟩
theorem ev_lstF (h : EvA K tr env C fun ds C1 => ds.length ≤ sizeLine ∧ k (.lst ds) C1) : Ev K (tLst tr) env C k := fun G σ H Q w er q =>
  h G σ H _ w er fun vs G1 C1 H1 ds f1 w1 d1 hb => ⟨by rw [d1.length]; exact hb.1, fun p hp => by
    obtain ⟨w2, f2, s2⟩ := w1.newG hp (.lst vs)
    exact q _ _ _ _ _ (f1.trans f2) w2 (.lst upd_same (d1.mono s2)) hb.2⟩
/-- a list that an expression gives is frozen -/
theorem ev_frz (h : Ev K te env C fun d C1 => ∃ ds, seqL C1 d = some ds ∧ ((∃ a, d = .own a ∧ k (.lst ds) (del C1 a)) ∨ (d = .lst ds ∧ k (.lst ds) C1))) : Ev K te env C k := fun G σ H Q w er q =>
  h G σ H _ w er fun v G1 C1 H1 d f1 w1 d1 hb => by
    obtain ⟨ds, e, h2⟩ := hb
    rcases h2 with ⟨a, rfl, h2⟩ | ⟨rfl, h2⟩
    · cases d1
      obtain ⟨G2, w2, f2, r2⟩ := w1.freeze (own_seqL e)
      exact q _ _ _ _ _ (f1.trans f2) w2 r2 h2
    · exact q _ _ _ _ _ f1 w1 d1 h2
end

/-! ### names, constants -/
section
variable {X : Cx} {e a b : Expr} {es : List Expr} {env : DEnv} {C : CS} {k : KD} {kb : Bool → CS → Prop} {ka : List D → CS → Prop} {pos : Pos}
theorem we_var {i : Nat} {x : Str} {d : D} (hN : X.N[i]? = some x) (hv : Vis X.env.scope x) (he : env[i]? = some (some d)) (h : k d C) (hd : (x == ("__debug__" : Str)) = false := by decide) (hcd : (x == ("__classdict__" : Str)) = false := by decide) : WE X (.Name x pos) env C k :=
  .of (pe_var hN hv hd hcd) fun G σ H Q w er q => by
    obtain ⟨v, h1, h2⟩ := er.2 i d he
    exact ⟨v, h1, q v G C H d (Fr.refl ..) w h2 h⟩
theorem we_int {i j} (h : k (.int i) C) : WE X (.Constant (.int i) j pos) env C k := .of pe_int fun G σ H Q w er q => q _ G C H _ (Fr.refl ..) w (.int i) h
theorem we_bl {b j} (h : k (.bl b) C) : WE X (.Constant (.bool b) j pos) env C k := .of pe_bl fun G σ H Q w er q => q _ G C H _ (Fr.refl ..) w (.bl b) h
theorem we_non {j} (h : k .non C) : WE X (.Constant .none j pos) env C k := .of pe_non fun G σ H Q w er q => q _ G C H _ (Fr.refl ..) w .non h
theorem we_str {x j} (h : k (.str x) C) : WE X (.Constant (.str x) j pos) env C k := .of pe_str fun G σ H Q w er q => q _ G C H _ (Fr.refl ..) w (.str x) h
/-- a constant of the module -/
def MgD (X : Cx) (x : Str) (d : D) : Prop := ∃ u v, X.mg x = some u ∧ RelV v u ∧ ∀ G, Dat X.K G v d
theorem we_glob {x : Str} {d : D} (hm : MgD X x d) (hg : Gl X x) (h : k d C) (hd : (x == ("__debug__" : Str)) = false := by decide) : WE X (.Name x pos) env C k := by
  obtain ⟨u, v, h1, h2, h3⟩ := hm
  exact .of (pe_glob hg h1 h2 hd) fun G σ H Q w er q => q _ G C H _ (Fr.refl ..) w (h3 G) h
/-- the name of a built-in class -/
theorem we_bty {x : Str} {T : String} (hm : X.mg x = none) (hg : Gl X x) (hv : bootBuiltins x = some (.type T)) (h : k (.opq (.ty T)) C) (hn : x ≠ "__name__" := by decide) (hd : (x == ("__debug__" : Str)) = false := by decide) : WE X (.Name x pos) env C k :=
  .of (pe_bltn hg hm hv (v := .ty T) rfl hn hd) fun G σ H Q w er q => q _ G C H _ (Fr.refl ..) w (.opq _) h

theorem we_op {op : Operator} {r : R2} {p : OpD} (ho : OpR X (binaryOp op) r) (hr : R2D X.K r p) (h : WE X a env C fun x C1 => WE X b env C1 fun y C2 => p x y C2 k) : WE X (.BinOp a op b pos) env C k := .of (pe_op ho pe_tS pe_tS) (ev_op hr h)
theorem we_un {op : UnaryOp} {r : V → Hp → VK → Prop} {p : D → CS → KD → Prop} (ho : UnR X (unaryOp op) r) (hr : R1D X.K r p) (h : WE X a env C fun x C1 => p x C1 k) : WE X (.UnaryOp op a pos) env C k := .of (pe_un ho pe_tS) (ev_un hr h)
theorem we_cmp {op : CmpOp} {r : R2} {p : OpD} (ho : OpR X (compareOp op) r) (hr : R2D X.K r p) (h : WE X a env C fun x C1 => WE X b env C1 fun y C2 => p x y C2 k) (hm : behindInMarks op b = false) : WE X (.Compare a [op] [b] pos) env C k := .of (pe_cmpR ho pe_tS pe_tS hm) (ev_op hr h)
theorem wt_cmp {op : CmpOp} {r : R2} {p : OpD} (ho : OpR X (compareOp op) r) (hr : R2D X.K r p) (h : WE X a env C fun x C1 => WE X b env C1 fun y C2 => p x y C2 fun d C3 => ∃ t, d = .bl t ∧ kb t C3) (hm : behindInMarks op b = false) : WT X (.Compare a [op] [b] pos) env C kb := .of (pt_cmpR ho pe_tS pe_tS hm) (eb_test (ev_op hr h))
theorem wt_val (h : WE X e env C fun d C1 => ∃ t, d = .bl t ∧ kb t C1) (he : ∀ whole, isTrue e X.env whole = (do let v ← whole; standAt e.pos; holding [v] (truthy v)) := by intro _; rfl) : WT X e env C kb := .of (pt_val pe_tS he) (eb_B h)
theorem wt_not (h : WT X a env C fun t C1 => kb (!t) C1) : WT X (.UnaryOp .Not a pos) env C kb := .of (pt_not pt_tT) (eb_not h)
theorem wt_ww (h : WW X e env C kb) : WT X e env C kb := .of (PW.pt pw_tW) h
theorem ww_and1 (h : WT X a env C kb) : WW X (.BoolOp .And [a] pos) env C kb := .of (pw_and1 pt_tT) h
theorem ww_or1 (h : WT X a env C kb) : WW X (.BoolOp .Or [a] pos) env C kb := .of (pw_or1 pt_tT) h
theorem ww_and {rest : List Expr} (h : WT X a env C fun t C1 => (t = true → WW X (.BoolOp .And (b :: rest) pos) env C1 kb) ∧ (t = false → kb false C1)) : WW X (.BoolOp .And (a :: b :: rest) pos) env C kb := .of (pw_and pt_tT pw_tW) (eb_and2 h)
theorem ww_or {rest : List Expr} (h : WT X a env C fun t C1 => (t = true → kb true C1) ∧ (t = false → WW X (.BoolOp .Or (b :: rest) pos) env C1 kb)) : WW X (.BoolOp .Or (a :: b :: rest) pos) env C kb := .of (pw_or pt_tT pw_tW) (eb_or2 h)
theorem we_one {op} (h : WE X a env C k) : WE X (.BoolOp op [a] pos) env C k := .of (pe_one pe_tS) h
theorem we_and {rest : List Expr} (h : WE X a env C fun x C1 => ∃ t, x = .bl t ∧ (t = true → WE X (.BoolOp .And (b :: rest) pos) env C1 k) ∧ (t = false → k (.bl false) C1)) : WE X (.BoolOp .And (a :: b :: rest) pos) env C k := .of (pe_and pe_tS pe_tS) (ev_andV h)
theorem we_or {rest : List Expr} (h : WE X a env C fun x C1 => ∃ t, x = .bl t ∧ (t = true → k (.bl true) C1) ∧ (t = false → WE X (.BoolOp .Or (b :: rest) pos) env C1 k)) : WE X (.BoolOp .Or (a :: b :: rest) pos) env C k := .of (pe_or pe_tS pe_tS) (ev_orV h)
theorem we_not (h : WE X a env C fun x C1 => ∃ t, x = .bl t ∧ k (.bl (!t)) C1) : WE X (.UnaryOp .Not a pos) env C k := .of (pe_not pe_tS) (ev_notV h)
theorem we_if {c : Expr} (h : WT X c env C fun t C1 => (t = true → WE X a env C1 k) ∧ (t = false → WE X b env C1 k)) : WE X (.IfExp c a b pos) env C k := .of (pe_ifExp pt_tT pe_tS pe_tS) (ev_if h)
theorem wa_nil (h : ka [] C) : WA X [] env C ka := .of pa_nil (ea_nil h)
theorem we_tup {x1} (h : WA X es env C fun ds C1 => ds.length ≤ sizeLine ∧ k (.tup ds) C1) : WE X (.Tuple es x1 pos) env C k := .of (pe_tup pa_tAr) (ev_tup h)
theorem we_lst (h : WA X es env C fun ds C1 => ds.length ≤ sizeLine ∧ ∀ p, C1 p = none → k (.own p) (put C1 p (.lst ds))) : WE X (.List es pos) env C k := .of (pe_lst pa_tAr) (ev_lst h)
theorem we_lstF (h : WA X es env C fun ds C1 => ds.length ≤ sizeLine ∧ k (.lst ds) C1) : WE X (.List es pos) env C k := .of (pe_lst pa_tAr) (ev_lstF h)
theorem we_frz (h : WE X e env C fun d C1 => ∃ ds, seqL C1 d = some ds ∧ ((∃ a, d = .own a ∧ k (.lst ds) (del C1 a)) ∨ (d = .lst ds ∧ k (.lst ds) C1))) : WE X e env C k := ev_frz h
end
end DL
/-! DLd: operators, subscripts, built-in calls and methods by data; statements; loops; calls of defs. -/
namespace DL
open PySem PySem.Spec PyProof.Rows L2

section
variable {K : PySem.W.Frag}
/-! ### operators -/
def dI2 (f : Int → Int → Int) (P : Int → Int → Prop) : OpD := fun x y C k => ∃ i j, x = .int i ∧ y = .int j ∧ P i j ∧ k (.int (f i j)) C
theorem r2_I {f : Int → Int → Int} {P : Int → Int → Prop} : R2D K (rI P fun i j => .int (f i j)) (dI2 f P) := by
  rintro x y a b G C H k Q w da db ⟨i, j, rfl, rfl, hp, hk⟩ q
  cases da; cases db
  exact ⟨i, j, rfl, rfl, hp, q _ _ _ _ _ (Fr.refl ..) w (.int _) hk⟩
theorem r2_I0 {f : Int → Int → Int} : R2D K (rI0 fun i j => .int (f i j)) (dI2 f fun _ _ => True) := by
  rintro x y a b G C H k Q w da db ⟨i, j, rfl, rfl, hp, hk⟩ q
  cases da; cases db
  exact ⟨i, j, rfl, rfl, q _ _ _ _ _ (Fr.refl ..) w (.int _) hk⟩
def dB2 (f : Int → Int → Bool) : OpD := fun x y C k => ∃ i j, x = .int i ∧ y = .int j ∧ k (.bl (f i j)) C
theorem r2_B {f : Int → Int → Bool} : R2D K (rI0 fun i j => .bl (f i j)) (dB2 f) := by
  rintro x y a b G C H k Q w da db ⟨i, j, rfl, rfl, hk⟩ q
  cases da; cases db
  exact ⟨i, j, rfl, rfl, q _ _ _ _ _ (Fr.refl ..) w (.bl _) hk⟩
/-- + of ints, texts, tuples, lists -/
def dAdd : OpD := fun x y C k => match x, y with
  | .int i, .int j => k (.int (i + j)) C
  | .str a, .str b => a.length + b.length ≤ sizeLine ∧ k (.str (a ++ b)) C
  | .tup xs, .tup ys => xs.length + ys.length ≤ sizeLine ∧ k (.tup (xs ++ ys)) C
  | x, y => ∃ xs ys, seqL C x = some xs ∧ seqL C y = some ys ∧ xs.length + ys.length ≤ sizeLine ∧ ∀ p, C p = none → k (.own p) (put C p (.lst (xs ++ ys)))
def rAddA (K : PySem.W.Frag) : R2 := fun x y H Q => (∃ i j, x = .int i ∧ y = .int j ∧ Q (.int (i + j)) H) ∨ (∃ i j, x = .str i ∧ y = .str j ∧ i.length + j.length ≤ sizeLine ∧ Q (.str (i ++ j)) H) ∨ rCatA K x y H Q ∨ rCat x y H Q
theorem op_addA {X : Cx} : OpR X (binaryOp .Add) (rAddA X.K) := OpR.or op_add (OpR.or op_add_str (OpR.or op_catA op_cat))
theorem seqL_ints {C : CS} {x : D} {xs : List D} (h : seqL C x = some xs) : (∀ i, x ≠ .int i) ∧ (∀ s, x ≠ .str s) ∧ ∀ ts, x ≠ .tup ts := by
  refine ⟨fun i e => ?_, fun i e => ?_, fun i e => ?_⟩ <;> (subst e; simp [seqL] at h)
theorem catL {x y : V} {a b : D} {xs ys : List D} {G : Hp} {C : CS} {H : Hp} {k : KD} {Q : VK} (w : Wld K G C H) (da : Dat K G x a) (db : Dat K G y b) (e1 : seqL C a = some xs) (e2 : seqL C b = some ys) (hl : xs.length + ys.length ≤ sizeLine)
    (hk : ∀ p, C p = none → k (.own p) (put C p (.lst (xs ++ ys)))) (q : Kont K G C H k Q) : rCat x y H Q := by
  obtain ⟨l, vs, rfl, h1, r1⟩ := w.lst da e1
  obtain ⟨m, us, rfl, h2, r2⟩ := w.lst db e2
  refine ⟨l, m, vs, us, rfl, rfl, h1, h2, by rw [r1.length, r2.length]; exact hl, fun p hp => ?_⟩
  obtain ⟨w2, f2⟩ := w.newC hp (o := .lst (vs ++ us)) (c := .lst (xs ++ ys)) fun H' e => ⟨_, e, r1.append r2⟩
  exact q _ _ _ _ _ f2 w2 (.own p) (hk p (w.ne hp).2)
theorem r2_add : R2D K (rAddA K) dAdd := by
  intro x y a b G C H k Q w da db h q
  unfold dAdd at h
  split at h
  · cases da; cases db
    exact .inl ⟨_, _, rfl, rfl, q _ _ _ _ _ (Fr.refl ..) w (.int _) h⟩
  · cases da; cases db
    exact .inr (.inl ⟨_, _, rfl, rfl, h.1, q _ _ _ _ _ (Fr.refl ..) w (.str _) h.2⟩)
  · rename_i xs ys
    obtain ⟨l, vs, rfl, h1, r1⟩ := w.tup da
    obtain ⟨m, us, rfl, h2, r2⟩ := w.tup db
    refine .inr (.inr (.inl ⟨l, m, vs, us, rfl, rfl, h1, h2, by rw [r1.length, r2.length]; exact h.1, fun e => ?_, fun _ e => ?_, fun _ _ p hp => ?_⟩))
    · subst e; cases xs with
      | nil => exact q _ _ _ _ _ (Fr.refl ..) w db h.2
      | cons _ _ => cases r1
    · subst e; cases ys with
      | nil => exact q _ _ _ _ _ (Fr.refl ..) w da (by simpa using h.2)
      | cons _ _ => cases r2
    · obtain ⟨w2, f2, s2⟩ := w.newG hp (.tup (vs ++ us))
      exact q _ _ _ _ _ f2 w2 (.tup (SqT.of upd_same) ((r1.append r2).mono s2)) h.2
  · obtain ⟨xs, ys, e1, e2, hl, hk⟩ := h
    exact .inr (.inr (.inr (catL w da db e1 e2 hl hk q)))
theorem add_lst {x y : D} {C : CS} {k : KD} {xs ys : List D} (e1 : seqL C x = some xs) (e2 : seqL C y = some ys) (hl : xs.length + ys.length ≤ sizeLine) (h : ∀ p, C p = none → k (.own p) (put C p (.lst (xs ++ ys)))) : dAdd x y C k := by
  obtain ⟨n1, n2, n3⟩ := seqL_ints e1
  unfold dAdd
  split
  · exact absurd rfl (n1 _)
  · exact absurd rfl (n2 _)
  · exact absurd rfl (n3 _)
  · exact ⟨xs, ys, e1, e2, hl, h⟩
/-- * of ints; a list by an int -/
def dMul : OpD := fun x y C k => match x, y with
  | .int i, .int j => CMul i j ∧ k (.int (i * j)) C
  | x, .int n => ∃ xs, seqL C x = some xs ∧ -(2 ^ 63) ≤ n ∧ n < 2 ^ 63 ∧ xs.length * n.toNat ≤ sizeLine ∧ ∀ p, C p = none → k (.own p) (put C p (.lst (List.replicate n.toNat xs).flatten))
  | _, _ => False
theorem datAll_rep {G : Hp} {vs : List V} {ds : List D} (r : DatAll K G vs ds) : ∀ n : Nat, DatAll K G (List.replicate n vs).flatten (List.replicate n ds).flatten
  | 0 => .nil
  | n + 1 => by
    rw [List.replicate_succ, List.replicate_succ, List.flatten_cons, List.flatten_cons]
    exact r.append (datAll_rep r n)
def rMulA : R2 := fun x y H Q => rI CMul (fun i j => .int (i * j)) x y H Q ∨ rRep x y H Q
theorem op_mulA {X : Cx} : OpR X (binaryOp .Mult) rMulA := OpR.or op_mul op_rep
theorem r2_mul : R2D K rMulA dMul := by
  intro x y a b G C H k Q w da db h q
  unfold dMul at h
  split at h
  · cases da; cases db
    exact .inl ⟨_, _, rfl, rfl, h.1, q _ _ _ _ _ (Fr.refl ..) w (.int _) h.2⟩
  · obtain ⟨xs, e, h1, h2, h3, h4⟩ := h
    obtain ⟨l, vs, rfl, hH, r1⟩ := w.lst da e
    cases db
    refine .inr ⟨l, _, vs, rfl, rfl, hH, h1, h2, by rw [r1.length]; exact h3, fun p hp => ?_⟩
    obtain ⟨w2, f2⟩ := w.newC hp (o := .lst _) (c := .lst _) fun H' e => ⟨_, e, datAll_rep r1 _⟩
    exact q _ _ _ _ _ f2 w2 (.own p) (h4 p (w.ne hp).2)
  · exact h.elim

/-! ### comparisons -/
def dEq0 (neg : Bool) : OpD := fun x y C k => ∃ a b, pyC C x = some a ∧ pyC C y = some b ∧ SeqAt.shaped a = true ∧ SeqAt.shaped b = true ∧ k (.bl (if neg = true then !PyData.eqv a b else PyData.eqv a b)) C
theorem r2_eq0 : R2D K (rEqD K) (dEq0 false) := by
  rintro x y a b G C H k Q w da db ⟨d, e, h1, h2, h3, h4, h5⟩ q
  exact ⟨d, e, w.dp da h1, w.dp db h2, h3, h4, q _ _ _ _ _ (Fr.refl ..) w (.bl _) h5⟩
theorem r2_ne0 : R2D K (rNeD K) (dEq0 true) := by
  rintro x y a b G C H k Q w da db ⟨d, e, h1, h2, h3, h4, h5⟩ q
  exact ⟨d, e, w.dp da h1, w.dp db h2, h3, h4, q _ _ _ _ _ (Fr.refl ..) w (.bl _) h5⟩
/-- .. of texts, whatever their signs -/
def dEqS (neg : Bool) : OpD := fun x y C k => ∃ s t, x = .str s ∧ y = .str t ∧ k (.bl (if neg = true then !(s == t) else s == t)) C
def dEq (neg : Bool) : OpD := fun x y C k => dEq0 neg x y C k ∨ dEqS neg x y C k
theorem dec_st {s t : Str} : decide (V.str s = V.str t) = (s == t) := by
  by_cases h : s = t
  · subst h; simp
  · simp [h]
theorem r2_eq : R2D K (fun x y H Q => rEqD K x y H Q ∨ rEq x y H Q) (dEq false) := by
  rintro x y a b G C H k Q w da db (h | ⟨s, t, rfl, rfl, h⟩) q
  · exact .inl (r2_eq0 x y a b G C H k Q w da db h q)
  · cases da; cases db
    refine .inr ⟨rfl, ?_⟩
    rw [dec_st]
    exact q _ _ _ _ _ (Fr.refl ..) w (.bl _) h
theorem r2_ne : R2D K (fun x y H Q => rNeD K x y H Q ∨ rNe x y H Q) (dEq true) := by
  rintro x y a b G C H k Q w da db (h | ⟨s, t, rfl, rfl, h⟩) q
  · exact .inl (r2_ne0 x y a b G C H k Q w da db h q)
  · cases da; cases db
    refine .inr ⟨rfl, ?_⟩
    rw [dec_st]
    exact q _ _ _ _ _ (Fr.refl ..) w (.bl _) h
/-- is None -/
def dIsN (neg : Bool) : OpD := fun x y C k => y = .non ∧ match x with
  | .opq _ => False
  | .non => k (.bl (!neg)) C
  | _ => k (.bl neg) C
theorem r2_isN : R2D K (fun x y H Q => y = .non ∧ Q (.bl (decide (x = .non))) H) (dIsN false) := by
  rintro x y a b G C H k Q w da db ⟨rfl, h⟩ q
  cases db
  refine ⟨rfl, ?_⟩
  cases da <;> first | exact h.elim | exact q _ _ _ _ _ (Fr.refl ..) w (.bl _) h
theorem r2_notN : R2D K (fun x y H Q => y = .non ∧ Q (.bl (!decide (x = .non))) H) (dIsN true) := by
  rintro x y a b G C H k Q w da db ⟨rfl, h⟩ q
  cases db
  refine ⟨rfl, ?_⟩
  cases da <;> first | exact h.elim | exact q _ _ _ _ _ (Fr.refl ..) w (.bl _) h
/-- in, not in: a list of data; one sign in a text -/
def dInL (neg : Bool) : OpD := fun x y C k => ∃ a ds, pyC C x = some a ∧ pyC C y = some (.list ds) ∧ SeqAt.shaped a = true ∧ SeqAt.shaped (.list ds) = true ∧ k (.bl (if neg = true then !ds.any fun z => PyData.eqv z a else ds.any fun z => PyData.eqv z a)) C
theorem r2_inL : R2D K (rInD K) (dInL false) := by
  rintro x y a b G C H k Q w da db ⟨d, e, h1, h2, h3, h4, h5⟩ q
  exact ⟨d, e, w.dp da h1, w.dp db h2, h3, h4, q _ _ _ _ _ (Fr.refl ..) w (.bl _) h5⟩
theorem r2_ninL : R2D K (rNotInD K) (dInL true) := by
  rintro x y a b G C H k Q w da db ⟨d, e, h1, h2, h3, h4, h5⟩ q
  exact ⟨d, e, w.dp da h1, w.dp db h2, h3, h4, q _ _ _ _ _ (Fr.refl ..) w (.bl _) h5⟩
def dInS (neg : Bool) : OpD := fun x y C k => ∃ (c : Nat) (z : Str), x = .str ⟨#[c]⟩ ∧ y = .str z ∧ k (.bl (if neg = true then !decide (c ∈ z.cps.toList) else decide (c ∈ z.cps.toList))) C
theorem r2_inS : R2D K (fun x y H Q => ∃ (c : Nat) (z : Str), x = .str ⟨#[c]⟩ ∧ y = .str z ∧ Q (.bl (decide (c ∈ z.cps.toList))) H) (dInS false) := by
  rintro x y a b G C H k Q w da db ⟨c, z, rfl, rfl, h⟩ q
  cases da; cases db
  exact ⟨c, z, rfl, rfl, q _ _ _ _ _ (Fr.refl ..) w (.bl _) h⟩
theorem r2_ninS : R2D K (fun x y H Q => ∃ (c : Nat) (z : Str), x = .str ⟨#[c]⟩ ∧ y = .str z ∧ Q (.bl (!decide (c ∈ z.cps.toList))) H) (dInS true) := by
  rintro x y a b G C H k Q w da db ⟨c, z, rfl, rfl, h⟩ q
  cases da; cases db
  exact ⟨c, z, rfl, rfl, q _ _ _ _ _ (Fr.refl ..) w (.bl _) h⟩

/-! ### subscripts -/
def dIx : OpD := fun x y C k => match x, y with
  | .tup xs, .int i => ∃ d, atI xs i = some d ∧ k d C
  | .str z, .int i => z.length ≤ sizeLine ∧ ∃ c, atI z.cps.toList i = some c ∧ k (.str ⟨#[c]⟩) C
  | x, .int i => ∃ xs d, seqR C x = some xs ∧ atI xs i = some d ∧ k d C
  | _, _ => False
theorem datAll_at {G : Hp} {vs : List V} {ds : List D} {i : Int} {d : D} (r : DatAll K G vs ds) (h : atI ds i = some d) : ∃ v, atI vs i = some v ∧ Dat K G v d := by
  unfold atI at h ⊢
  rw [r.length]
  cases q : ixN ds.length i with
  | none => rw [q] at h; cases h
  | some j =>
    rw [q] at h
    exact r.get (show ds[j]? = some d from h)
theorem r2_ix : R2D K (rIx K) dIx := by
  intro x y a b G C H k Q w da db h q
  unfold dIx at h
  split at h
  · obtain ⟨d, h1, h2⟩ := h
    obtain ⟨l, vs, rfl, h3, r1⟩ := w.tup da
    cases db
    obtain ⟨v, h4, h5⟩ := datAll_at r1 h1
    exact .inr (.inl ⟨l, vs, _, v, rfl, rfl, h3, h4, q _ _ _ _ _ (Fr.refl ..) w h5 h2⟩)
  · obtain ⟨hz, c, h1, h2⟩ := h
    cases da; cases db
    exact .inr (.inr ⟨_, _, c, rfl, rfl, hz, h1, q _ _ _ _ _ (Fr.refl ..) w (.str _) h2⟩)
  · obtain ⟨xs, d, e, h1, h2⟩ := h
    obtain ⟨l, vs, rfl, h3, r1⟩ := w.seq da e
    cases db
    obtain ⟨v, h4, h5⟩ := datAll_at r1 h1
    exact .inl ⟨l, vs, _, v, rfl, rfl, h3, h4, q _ _ _ _ _ (Fr.refl ..) w h5 h2⟩
  · exact h.elim
def cutD (xs : List D) (lo hi : Option Int) : List D := (xs.drop (HT.sIx xs.length 0 lo)).take (HT.sIx xs.length xs.length hi - HT.sIx xs.length 0 lo)
theorem cut_datAll {G : Hp} {vs : List V} {ds : List D} (r : DatAll K G vs ds) (lo hi : Option Int) : DatAll K G (cutV vs lo hi) (cutD ds lo hi) := by
  unfold cutV cutD
  rw [r.length]
  exact (r.drop _).take _
def dSl (x : D) (lo hi : Option Int) (C : CS) (k : KD) : Prop := match x with
  | .tup xs => k (.tup (cutD xs lo hi)) C
  | .str z => z.length ≤ sizeLine ∧ k (.str (cutS z lo hi)) C
  | x => ∃ xs, seqR C x = some xs ∧ ∀ p, C p = none → k (.own p) (put C p (.lst (cutD xs lo hi)))
def rSlAll (K : PySem.W.Frag) : V → Option Int → Option Int → Hp → VK → Prop := fun x lo hi H Q => rSlL K x lo hi H Q ∨ (rSlS x lo hi H Q ∨ rSlA K x lo hi H Q)
theorem sl_all {X : Cx} : SlR X (rSlAll X.K) := SlR.or sl_list (SlR.or sl_str sl_tupA)
theorem sl_ok {x : V} {a : D} {lo hi : Option Int} {G : Hp} {C : CS} {H : Hp} {k : KD} {Q : VK} (w : Wld K G C H) (da : Dat K G x a) (h : dSl a lo hi C k) (q : Kont K G C H k Q) : rSlAll K x lo hi H Q := by
  unfold dSl at h
  split at h
  · rename_i xs
    obtain ⟨l, vs, rfl, h3, r1⟩ := w.tup da
    refine .inr (.inr ⟨l, vs, rfl, h3, fun e => ?_, fun _ p hp => ?_⟩)
    · rw [r1.length] at e
      have : cutD xs lo hi = xs := by
        unfold cutD
        rw [e.1, e.2]
        simp
      rw [this] at h
      exact q _ _ _ _ _ (Fr.refl ..) w da h
    · obtain ⟨w2, f2, s2⟩ := w.newG hp (.tup (cutV vs lo hi))
      exact q _ _ _ _ _ f2 w2 (.tup (SqT.of upd_same) ((cut_datAll r1 lo hi).mono s2)) h
  · cases da
    exact .inr (.inl ⟨_, rfl, h.1, q _ _ _ _ _ (Fr.refl ..) w (.str _) h.2⟩)
  · obtain ⟨xs, e, h⟩ := h
    obtain ⟨l, vs, rfl, h3, r1⟩ := w.seq da e
    refine .inl ⟨l, vs, rfl, h3, fun p hp => ?_⟩
    obtain ⟨w2, f2⟩ := w.newC hp (o := .lst (cutV vs lo hi)) (c := .lst (cutD xs lo hi)) fun H' e => ⟨_, e, cut_datAll r1 lo hi⟩
    exact q _ _ _ _ _ f2 w2 (.own p) (h p (w.ne hp).2)
end
section
variable {X : Cx} {e a b : Expr} {es : List Expr} {env : DEnv} {C : CS} {k : KD} {kb : Bool → CS → Prop} {ka : List D → CS → Prop} {pos : Pos}
theorem we_ix (h : WE X a env C fun x C1 => WE X b env C1 fun y C2 => dIx x y C2 k) (hs : PlainIx b := by intro _ _; rfl) : WE X (.Subscript a b pos) env C k := .of (pe_ix ix_seq pe_tS pe_tS hs) (ev_op r2_ix h)
/-- a part of a slice -/
def WO (X : Cx) (e : Option Expr) (env : DEnv) (C : CS) (k : Option Int → CS → Prop) : Prop := match e with
  | none => k none C
  | some e => WE X e env C fun d C1 => ∃ i, d = .int i ∧ k (some i) C1
def tO (X : Cx) (e : Option Expr) : TO := match e with
  | none => tNoPart
  | some e => tPart (tS X e)
theorem po_tO {o : Option Expr} : PO X o (tO X o) := by
  cases o with
  | none => exact po_none
  | some e => exact po_some pe_tS
theorem wo_use {o : Option Expr} {ko : Option Int → CS → Prop} (h : WO X o env C ko) {G : Hp} {σ : L2.St} {H : Hp} {Q : Option Int → Hp → Prop} (w : Wld X.K G C H) (er : EnvR X.K G env σ) (q : ∀ i G' C' H', Fr G C H G' C' H' → Wld X.K G' C' H' → ko i C' → Q i H') : tO X o σ H Q := by
  cases o with
  | none => exact q none G C H (Fr.refl ..) w h
  | some e =>
    refine h G σ H _ w er fun v G' C' H' d f w' r z => ?_
    obtain ⟨i, rfl, z⟩ := z
    cases r
    exact ⟨i, rfl, q _ _ _ _ f w' z⟩
theorem we_slice {lo hi : Option Expr} {p2 : Pos} (h : WE X a env C fun x C1 => WO X lo env C1 fun l C2 => WO X hi env C2 fun u C3 => dSl x l u C3 k) : WE X (.Subscript a (.Slice lo hi none p2) pos) env C k :=
  .of (pe_slice sl_all pe_tS po_tO po_tO) fun G σ H Q w er q => h G σ H _ w er fun v G1 C1 H1 x f1 w1 d1 h1 =>
    wo_use h1 w1 (er.mono f1.exG) fun l G2 C2 H2 f2 w2 h2 => wo_use h2 w2 (er.mono (f1.trans f2).exG) fun u G3 C3 H3 f3 w3 h3 =>
      sl_ok w3 (d1.mono (f2.trans f3).exG) h3 (q.after ((f1.trans f2).trans f3))
theorem wa_cons (h : WE X e env C fun x C1 => WA X es env C1 fun ds C2 => ka (x :: ds) C2) (hs : starEach (e :: es) X.env = (false, eval e X.env) :: starEach es X.env := by rfl) : WA X (e :: es) env C ka := .of (pa_cons pe_tS pa_tAr hs) (ea_cons h)

/-! ### built-in calls -/
theorem we_cb {x : Str} {id : String} {p0 : Pos} {r : List V → Hp → VK → Prop} {p : List D → CS → KD → Prop} (hm : X.mg x = none) (hc : CallR X (.builtin id) r) (hr : RLD X.K r p) (hg : Gl X x) (hv : bootBuiltins x = some (.builtin id)) (h : WA X (e :: es) env C fun ds C1 => p ds C1 k)
    (hn : x ≠ "__name__" := by decide) (hdb : (x == ("__debug__" : Str)) = false := by decide)
    (he : starEach (e :: es) X.env = (false, eval e X.env) :: starEach es X.env := by rfl) (hpl : (backTo pos (starEach es X.env)).any (·.1) = false := by rfl) : WE X (.Call (.Name x p0) (e :: es) [] pos) env C k :=
  .of (pe_callB hc hg hm hv pa_tAr hn hdb he hpl) (ev_cb hr h)
theorem we_ct {x : Str} {T : String} {p0 : Pos} {r : List V → Hp → VK → Prop} {p : List D → CS → KD → Prop} (hm : X.mg x = none) (hc : CallR X (.type T) r) (hr : RLD X.K r p) (hg : Gl X x) (hv : bootBuiltins x = some (.type T)) (h : WA X (e :: es) env C fun ds C1 => p ds C1 k)
    (hn : x ≠ "__name__" := by decide) (hdb : (x == ("__debug__" : Str)) = false := by decide)
    (he : starEach (e :: es) X.env = (false, eval e X.env) :: starEach es X.env := by rfl) (hpl : (backTo pos (starEach es X.env)).any (·.1) = false := by rfl) : WE X (.Call (.Name x p0) (e :: es) [] pos) env C k :=
  .of (pe_callTy hc hg hm hv pa_tAr hn hdb he hpl) (ev_cb hr h)
end
end DL
/-! DLe: statements, loops, comprehensions, calls of defs. -/
namespace DL
open PySem PySem.Spec PyProof.Rows L2

section
variable {X : Cx} {e a b : Expr} {es : List Expr} {st : Stmt} {sts rest : List Stmt} {env : DEnv} {C : CS} {k : KD} {kb : Bool → CS → Prop} {ka : List D → CS → Prop} {pos : Pos} {E : DEnds}

/-! ### statements -/
theorem wss_nil (h : E.nx env C) : WSs X [] env C E := .of pss_nil fun G σ H D w er q => q.nx G C H σ env (Fr.refl ..) w er h
theorem wss_cons (h : WS X st env C { E with nx := fun env' C' => WSs X rest env' C' E }) : WSs X (st :: rest) env C E :=
  .of (pss_cons ps_tX pss_tXs) fun G σ H D w er q => h G σ H { D with nx := tXs X rest D } w er
    ⟨fun G1 C1 H1 σ1 env1 f1 w1 er1 h1 => h1 G1 σ1 H1 D w1 er1 (q.after f1), q.rt, q.bk, q.ct⟩
theorem ws_pass (h : E.nx env C) : WS X (.Pass pos) env C E := .of ps_pass fun G σ H D w er q => q.nx G C H σ env (Fr.refl ..) w er h
theorem ws_break (h : E.bk env C) : WS X (.Break pos) env C E := .of ps_break fun G σ H D w er q => q.bk G C H σ env (Fr.refl ..) w er h
theorem ws_continue (h : E.ct env C) : WS X (.Continue pos) env C E := .of ps_continue fun G σ H D w er q => q.ct G C H σ env (Fr.refl ..) w er h
theorem ws_expr (h : WE X e env C fun _ C1 => E.nx env C1) (hs : swapsWith e none pos.line X.env = pure false := by rfl) : WS X (.Expr e pos) env C E :=
  .of (ps_expr pe_tS hs) fun G σ H D w er q => h G σ H _ w er fun v G1 C1 H1 d f1 w1 r1 z => q.nx G1 C1 H1 σ env f1 w1 (er.mono f1.exG) z
theorem ws_ret (h : WE X e env C E.rt) : WS X (.Return (some e) pos) env C E := .of (ps_ret pe_tS) fun G σ H D w er q => h G σ H _ w er q.rt
theorem ws_retN (h : E.rt .non C) : WS X (.Return none pos) env C E := .of ps_retN fun G σ H D w er q => q.rt .non G C H .non (Fr.refl ..) w .non h
theorem ws_if {c : Expr} {s1 s2 : List Stmt} (h : WT X c env C fun t C1 => (t = true → WSs X s1 env C1 E) ∧ (t = false → WSs X s2 env C1 E)) : WS X (.If c s1 s2 pos) env C E :=
  .of (ps_if pt_tT pss_tXs pss_tXs) fun G σ H D w er q => h G σ H _ w er fun b G1 C1 H1 f1 w1 hb => by
    cases b with
    | true => exact iteT (hb.1 rfl G1 σ H1 D w1 (er.mono f1.exG) (q.after f1))
    | false => exact iteF (hb.2 rfl G1 σ H1 D w1 (er.mono f1.exG) (q.after f1))
/-! ### targets -/
def EvG (K : PySem.W.Frag) (g : TG) (d : D) (env : DEnv) (C : CS) (k : DEnv → CS → Prop) : Prop := ∀ G σ H v Q, Wld K G C H → EnvR K G env σ → Dat K G v d → KontE K G C H k Q → g v σ H Q
def tGt (X : Cx) (target : Expr) : TG := fun v σ H Q => ∀ pins s u, Inv X pins σ H s → RelV v u → wpAny (model X.prog X.w) X.A (assign target X.env u) (fun _ s' => ∃ σ' H', Inv X pins σ' H' s' ∧ Q σ' H') X.xe s
theorem pg_tGt {tg : Expr} : PG X tg (tGt X tg) := ⟨fun pins s σ H v u Q I r h => h pins s u I r⟩
def tGts (X : Cx) (ts : List Expr) : TGs := fun vs σ H Q => ∀ pins s us, Inv X pins σ H s → Vals vs us → wpAny (model X.prog X.w) X.A (assignInOrder ((assignEach ts X.env).map (·.2)) us) (fun _ s' => ∃ σ' H', Inv X pins σ' H' s' ∧ Q σ' H') X.xe s
theorem pgs_tGts {ts : List Expr} : PGs X ts (tGts X ts) := ⟨fun pins s σ H vs us Q I r h => h pins s us I r⟩
def WG (X : Cx) (tg : Expr) (d : D) (env : DEnv) (C : CS) (k : DEnv → CS → Prop) : Prop := EvG X.K (tGt X tg) d env C k
def WGs (X : Cx) (ts : List Expr) (ds : List D) (env : DEnv) (C : CS) (k : DEnv → CS → Prop) : Prop := ∀ G σ H vs Q, Wld X.K G C H → EnvR X.K G env σ → DatAll X.K G vs ds → KontE X.K G C H k Q → tGts X ts vs σ H Q
theorem WG.of {tg : Expr} {g : TG} {d : D} {kE : DEnv → CS → Prop} (h : PG X tg g) (hv : EvG X.K g d env C kE) : WG X tg d env C kE := fun G σ H v Q w er r q pins s u I ru => h.run pins s σ H v u Q I ru (hv G σ H v Q w er r q)
theorem wg_name {i : Nat} {x : Str} {d : D} {kE : DEnv → CS → Prop} (hN : X.N.Nodup) (hi : X.N[i]? = some x) (hx : Loc X.env.scope x) (h : kE (env.set i (some d)) C) (hf : X.fn x = true ∨ X.env.scope.names.lookup x = some .local := by first | exact .inl rfl | exact .inr rfl | assumption) : WG X (.Name x pos) d env C kE :=
  .of (pg_name hN hi hx hf) fun G σ H v Q w er r q => q G C H _ _ (Fr.refl ..) w (er.set i r) h
theorem wgs_nil {kE : DEnv → CS → Prop} (h : kE env C) : WGs X [] [] env C kE := fun G σ H vs Q w er r q pins s us I ru => by
  cases r; cases ru
  exact (pgs_nil (X := X)).run pins s σ H [] [] Q I .nil ⟨rfl, q G C H σ env (Fr.refl ..) w er h⟩
theorem wgs_cons {t : Expr} {ts : List Expr} {d : D} {ds : List D} {kE : DEnv → CS → Prop} (h : WG X t d env C fun env1 C1 => WGs X ts ds env1 C1 kE) (hs : (assignEach (t :: ts) X.env).map (·.2) = assign t X.env :: (assignEach ts X.env).map (·.2) := by rfl) : WGs X (t :: ts) (d :: ds) env C kE := fun G σ H vs Q w er r q pins s us I ru => by
  cases r with
  | @cons v vr _ _ r1 r2 =>
    refine (pgs_cons (X := X) pg_tGt pgs_tGts hs).run pins s σ H (v :: vr) us Q I ru ⟨v, vr, rfl, ?_⟩
    exact h G σ H v _ w er r1 fun G1 C1 H1 σ1 env1 f1 w1 er1 h1 => h1 G1 σ1 H1 vr Q w1 er1 (r2.mono f1.exG) (q.after f1)
theorem wg_tup {ts : List Expr} {n : Nat} {ds : List D} {kE : DEnv → CS → Prop} (hc : X.calm = true) (hl : ds.length = (assignEach ts X.env).length) (h : WGs X ts ds env C kE) (hst : (assignEach ts X.env).findIdx? (·.1) = none := by rfl) : WG X (.Tuple ts n pos) (.tup ds) env C kE :=
  .of (pg_tup hc pgs_tGts rfl hst) fun G σ H v Q w er r q => by
    cases r with
    | tup h1 h2 => exact ⟨_, _, rfl, Same.sqT w.ex h1, by rw [h2.length]; exact hl, h G σ H _ Q w er h2 q⟩
theorem ws_asg {tg : Expr} (h : WE X e env C fun d C1 => WG X tg d env C1 E.nx) (hs : swapsWithSole [tg] e pos.line X.env = pure false := by rfl) (hw : swappedStores [tg] e X.env = pure none := by rfl)
    (h1 : (assignEach [tg] X.env).map (·.2) = [assign tg X.env] := by rfl) : WS X (.Assign [tg] e pos) env C E :=
  .of (ps_asg pe_tS pg_tGt hs hw h1) fun G σ H D w er q => h G σ H _ w er fun v G1 C1 H1 d f1 w1 r1 z => z G1 σ H1 v _ w1 (er.mono f1.exG) r1 (q.nx.after f1)
/-- name = value -/
theorem ws_set {i : Nat} {x : Str} {pos' : Pos} (hN : X.N.Nodup) (hi : X.N[i]? = some x) (hx : Loc X.env.scope x) (h : WE X e env C fun d C1 => E.nx (env.set i (some d)) C1) (hs : swapsWith e (some (.Name x pos')) pos.line X.env = pure false := by rfl) (hf : X.fn x = true ∨ X.env.scope.names.lookup x = some .local := by first | exact .inl rfl | exact .inr rfl | assumption) :
    WS X (.Assign [.Name x pos'] e pos) env C E :=
  .of (ps_set hN hi hx pe_tS hs hf) fun G σ H D w er q => h G σ H _ w er fun v G1 C1 H1 d f1 w1 r1 z => q.nx G1 C1 H1 _ _ f1 w1 ((er.mono f1.exG).set i r1) z
/-- a, b = x, y: two plain local names -/
theorem ws_par {i j : Nat} {x y : Str} {px py pt : Pos} {kt k2 : Nat} {pt2 : Pos} (hc : X.calm = true) (hN : X.N.Nodup) (hi : X.N[i]? = some x) (hj : X.N[j]? = some y) (hij : i ≠ j)
    (hx : X.env.scope.names.lookup x = some .local) (hy : X.env.scope.names.lookup y = some .local) (h : WA X [a, b] env C fun ds C1 => ∃ u v, ds = [u, v] ∧ E.nx ((env.set i (some u)).set j (some v)) C1)
    (hw : swappedStores [.Tuple [.Name x px, .Name y py] kt pt] (.Tuple [a, b] k2 pt2) X.env = pure (some [x, y]))
    (hs : swapsWithSole [.Tuple [.Name x px, .Name y py] kt pt] (.Tuple [a, b] k2 pt2) pos.line X.env = pure false := by rfl) :
    WS X (.Assign [.Tuple [.Name x px, .Name y py] kt pt] (.Tuple [a, b] k2 pt2) pos) env C E :=
  .of (ps_par hc hN hi hj hij hx hy pa_tAr hw hs) fun G σ H D w er q => h G σ H _ w er fun vs G1 C1 H1 ds f1 w1 r1 z => by
    obtain ⟨u, v, rfl, z⟩ := z
    cases r1 with
    | @cons u' _ _ _ r1 r2 =>
      cases r2 with
      | @cons v' _ _ _ r2 r3 =>
        cases r3
        exact ⟨u', v', rfl, q.nx G1 C1 H1 _ _ f1 w1 (((er.mono f1.exG).set i r1).set j r2) z⟩
/-- name op= value -/
def RID (K : PySem.W.Frag) (r : TIp) (p : OpD) : Prop := R2D K r p
theorem ws_aug {i : Nat} {x : Str} {op : Operator} {ti : TIp} {p : OpD} {d : D} {pos' : Pos} (hN : X.N.Nodup) (hi : X.N[i]? = some x) (hx : Loc X.env.scope x) (ho : PIp X op ti) (hr : RID X.K ti p) (he : env[i]? = some (some d)) (h : WE X e env C fun y C1 => p d y C1 fun z C2 => E.nx (env.set i (some z)) C2)
    (hf : X.fn x = true ∨ X.env.scope.names.lookup x = some .local := by first | exact .inl rfl | exact .inr rfl | assumption) : WS X (.AugAssign (.Name x pos') op e pos) env C E :=
  .of (ps_aug hN hi hx pe_tS ho hf) fun G σ H D w er q => by
    obtain ⟨v, h1, h2⟩ := er.2 i d he
    refine ⟨v, h1, ?_⟩
    exact h G σ H _ w er fun y' G1 C1 H1 y f1 w1 r1 z => hr v y' d y G1 C1 H1 _ _ w1 (h2.mono f1.exG) r1 z fun z' G2 C2 H2 z f2 w2 r2 hz => q.nx G2 C2 H2 _ _ (f1.trans f2) w2 ((er.mono (f1.trans f2).exG).set i r2) hz
/-- o[i] = value, a list -/
theorem set_ok {p : Addr} {xs : List D} {G : Hp} {H : Hp} {n : Int} {j : Nat} {x i v : V} {d : D} {Q : Hp → Prop} {K : PySem.W.Frag} (w : Wld K G C H) (hp : C p = some (.lst xs)) (hx : Dat K G x (.own p)) (hi : Dat K G i (.int n)) (hv : Dat K G v d) (hj : ixN xs.length n = some j)
    (q : ∀ H', Fr G C H G (put C p (.lst (xs.set j d))) H' → Wld K G (put C p (.lst (xs.set j d))) H' → Q H') : rSetL x i v H Q := by
  cases hx; cases hi
  obtain ⟨_, vs, h1, h2⟩ := w.cell p _ hp
  refine ⟨p, vs, n, j, rfl, rfl, h1, by rw [h2.length]; exact hj, ?_⟩
  obtain ⟨w2, f2⟩ := w.write hp (o := .lst (vs.set j v)) (c' := .lst (xs.set j d)) fun H' e => ⟨_, e, h2.set j hv⟩
  exact q _ f2 w2
theorem wg_setL {o i : Expr} {d : D} {kE : DEnv → CS → Prop} (h : WE X o env C fun x C1 => WE X i env C1 fun y C2 => ∃ p n xs j, x = .own p ∧ y = .int n ∧ C2 p = some (.lst xs) ∧ ixN xs.length n = some j ∧ kE env (put C2 p (.lst (xs.set j d))))
    (ha : ∀ v, assign (.Subscript o i pos) X.env v = (do
      let ov ← holding [v] (eval o X.env)
      let iv ← holding [v, ov] (eval i X.env)
      standAt pos
      holding [v, ov, iv] (setItem ov iv v)
      release [v, ov, iv] []) := by intro _; rfl) : WG X (.Subscript o i pos) d env C kE :=
  .of (pg_sub pe_tS pe_tS set_list ha) fun G σ H v Q w er r q => h G σ H _ w er fun x' G1 C1 H1 x f1 w1 r1 h1 => h1 G1 σ H1 _ w1 (er.mono f1.exG) fun y' G2 C2 H2 y f2 w2 r2 h2 => by
    obtain ⟨p, n, xs, j, rfl, rfl, hp, hj, hk⟩ := h2
    exact set_ok w2 hp (r1.mono f2.exG) r2 (r.mono (f1.trans f2).exG) hj fun H' f3 w3 => q _ _ _ _ _ ((f1.trans f2).trans f3) w3 (er.mono (f1.trans f2).exG) hk

/-! ### while -/
theorem ws_while {c : Expr} {body : List Stmt} (hp : PassesOwn (model X.prog X.w) X.A X.env X.xe) (Iv : Nat → DEnv → CS → Prop) (h0 : ∃ m, Iv m env C)
    (h : ∀ m env C, Iv m env C → WT X c env C fun t C1 => (t = true → WSs X body env C1 { nx := fun env' C' => ∃ m', m' < m ∧ Iv m' env' C', rt := E.rt, bk := E.nx, ct := fun env' C' => ∃ m', m' < m ∧ Iv m' env' C' }) ∧ (t = false → E.nx env C1)) : WS X (.While c body [] pos) env C E :=
  .of (ps_while hp pt_tT pss_tXs) fun G σ H D w er q => by
    obtain ⟨m0, i0⟩ := h0
    refine ⟨fun m σ1 H1 => ∃ G1 C1 env1, Fr G C H G1 C1 H1 ∧ Wld X.K G1 C1 H1 ∧ EnvR X.K G1 env1 σ1 ∧ Iv m env1 C1, ⟨m0, G, C, env, Fr.refl .., w, er, i0⟩, ?_⟩
    rintro m σ1 H1 ⟨G1, C1, env1, f1, w1, er1, i1⟩
    refine h m env1 C1 i1 G1 σ1 H1 _ w1 er1 fun b G2 C2 H2 f2 w2 hb => ?_
    cases b with
    | false => exact iteF (q.nx G2 C2 H2 σ1 env1 (f1.trans f2) w2 (er1.mono f2.exG) (hb.2 rfl))
    | true =>
      refine iteT ⟨fun σ' H' => ∃ m', m' < m ∧ ∃ G1 C1 env1, Fr G C H G1 C1 H' ∧ Wld X.K G1 C1 H' ∧ EnvR X.K G1 env1 σ' ∧ Iv m' env1 C1, fun σ' H' h => h, ?_⟩
      have fin : KontE X.K G2 C2 H2 (fun env' C' => ∃ m', m' < m ∧ Iv m' env' C') (fun σ' H' => ∃ m', m' < m ∧ ∃ G1 C1 env1, Fr G C H G1 C1 H' ∧ Wld X.K G1 C1 H' ∧ EnvR X.K G1 env1 σ' ∧ Iv m' env1 C1) := fun G3 C3 H3 σ3 env3 f3 w3 er3 ⟨m', hm, i3⟩ => ⟨m', hm, G3, C3, env3, (f1.trans f2).trans f3, w3, er3, i3⟩
      exact hb.1 rfl G2 σ1 H2 _ w2 (er1.mono f2.exG) ⟨fin, q.rt.after (f1.trans f2), q.nx.after (f1.trans f2), fin⟩
end

/-! ### what is walked -/
/-- while Pc holds of the cells, the walk J gives these data -/
def IterD (K : PySem.W.Frag) (J : It) (xs : List D) (Pc : CS → Prop) (G : Hp) : Prop := ∀ G' C' H', Same G G' → Wld K G' C' H' → Pc C' →
  (∀ i d, xs[i]? = some d → J.go i H' ∧ ∀ x H2, J.yld i H' x H2 → ∃ G2, Fr G' C' H' G2 C' H2 ∧ Wld K G2 C' H2 ∧ Dat K G2 x d) ∧ (∀ i, xs.length ≤ i → J.stop i H')
abbrev KI := List D → (CS → Prop) → CS → Prop
def EvI (K : PySem.W.Frag) (wi : TI) (env : DEnv) (C : CS) (kI : KI) : Prop := ∀ G σ H R, Wld K G C H → EnvR K G env σ → (∀ J G' C' H' xs Pc, Fr G C H G' C' H' → Wld K G' C' H' → IterD K J xs Pc G' → kI xs Pc C' → R J H') → wi σ H R
def WI (X : Cx) (tg iter : Expr) (env : DEnv) (C : CS) (kI : KI) : Prop := ∃ wi, PI X tg iter wi ∧ EvI X.K wi env C kI
theorem iterD_list {K : PySem.W.Frag} {G : Hp} {a : Addr} {vs : List V} {ds : List D} (h : SqL K G a vs) (r : DatAll K G vs ds) : IterD K (Itl K a) ds (fun _ => True) G := by
  intro G' C' H' e w _
  have hq : SqL K H' a vs := w.ex.seq (e.seq h)
  refine ⟨fun i d hd => ?_, fun i hi => ⟨vs, hq, by rw [r.length]; exact hi⟩⟩
  obtain ⟨v, h1, h2⟩ := r.get hd
  refine ⟨⟨vs, v, hq, h1⟩, ?_⟩
  rintro x H2 ⟨rfl, hx⟩
  have e1 := hx vs hq
  rw [h1] at e1; cases e1
  exact ⟨G', Fr.refl .., w, h2.mono e⟩
theorem iterD_own {K : PySem.W.Frag} {G : Hp} {a : Addr} {ds : List D} : IterD K (Itl K a) ds (fun C => C a = some (.lst ds)) G := by
  intro G' C' H' e w p
  obtain ⟨_, vs, h1, r⟩ := w.cell a _ p
  have hq : SqL K H' a vs := SqL.of h1
  refine ⟨fun i d hd => ?_, fun i hi => ⟨vs, hq, by rw [r.length]; exact hi⟩⟩
  obtain ⟨v, g1, h2⟩ := r.get hd
  refine ⟨⟨vs, v, hq, g1⟩, ?_⟩
  rintro x H2 ⟨rfl, hx⟩
  have e1 := hx vs hq
  rw [g1] at e1; cases e1
  exact ⟨G', Fr.refl .., w, h2⟩
theorem iterD_tup {K : PySem.W.Frag} {G : Hp} {a : Addr} {vs : List V} {ds : List D} (h : SqT K G a vs) (r : DatAll K G vs ds) : IterD K (Itt K a) ds (fun _ => True) G := by
  intro G' C' H' e w _
  have hq : SqT K H' a vs := Same.sqT w.ex (Same.sqT e h)
  refine ⟨fun i d hd => ?_, fun i hi => ⟨vs, hq, by rw [r.length]; exact hi⟩⟩
  obtain ⟨v, h1, h2⟩ := r.get hd
  refine ⟨⟨vs, v, hq, h1⟩, ?_⟩
  rintro x H2 ⟨rfl, hx⟩
  have e1 := hx vs hq
  rw [h1] at e1; cases e1
  exact ⟨G', Fr.refl .., w, h2.mono e⟩
def intsFrom (lo : Int) (n : Nat) : List D := (List.range n).map fun i => D.int (lo + (i : Nat))
theorem intsFrom_get {lo : Int} {n i : Nat} {d : D} (h : (intsFrom lo n)[i]? = some d) : i < n ∧ d = .int (lo + (i : Nat)) := by
  unfold intsFrom at h
  rw [List.getElem?_map] at h
  by_cases hi : i < n
  · rw [List.getElem?_range hi] at h; exact ⟨hi, (Option.some.inj h).symm⟩
  · rw [List.getElem?_eq_none (by simpa using hi)] at h; cases h
theorem intsFrom_length {lo : Int} {n : Nat} : (intsFrom lo n).length = n := by unfold intsFrom; simp
theorem iterD_rng {K : PySem.W.Frag} {G : Hp} {lo : Int} {n : Nat} : IterD K (Itr lo n) (intsFrom lo n) (fun _ => True) G := by
  intro G' C' H' e w _
  refine ⟨fun i d hd => ?_, fun i hi => by rw [intsFrom_length] at hi; exact hi⟩
  obtain ⟨h1, rfl⟩ := intsFrom_get hd
  refine ⟨h1, ?_⟩
  rintro x H2 ⟨rfl, rfl⟩
  exact ⟨G', Fr.refl .., w, .int _⟩
def signsOf (x : Str) : List D := x.cps.toList.map fun c => D.str ⟨#[c]⟩
theorem iterD_str {K : PySem.W.Frag} {G : Hp} {x : Str} : IterD K (Its x) (signsOf x) (fun _ => True) G := by
  intro G' C' H' e w _
  refine ⟨fun i d hd => ?_, fun i hi => show x.cps.size ≤ i by simpa [signsOf] using hi⟩
  unfold signsOf at hd
  rw [List.getElem?_map] at hd
  cases q : x.cps.toList[i]? with
  | none => rw [q] at hd; cases hd
  | some c =>
    rw [q] at hd
    obtain rfl := Option.some.inj hd
    have hc : x.cps[i]? = some c := by simpa using q
    refine ⟨(Array.getElem?_eq_some_iff.mp hc).1, ?_⟩
    rintro v H2 ⟨rfl, c', h1, rfl⟩
    rw [hc] at h1; cases h1
    exact ⟨G', Fr.refl .., w, .str _⟩
section
variable {X : Cx} {e a b : Expr} {es : List Expr} {tg iter : Expr} {body : List Stmt} {env : DEnv} {C : CS} {k : KD} {pos : Pos} {E : DEnds} {kI : KI}
theorem wi_list (h : WE X e env C fun d C1 => (∃ xs, seqR C1 d = some xs ∧ match d with
    | .own a => kI xs (fun C => C a = some (.lst xs)) C1
    | _ => kI xs (fun _ => True) C1)) : WI X tg e env C kI := by
  refine ⟨_, pi_list pe_tS, fun G σ H R w er q => h G σ H _ w er fun v G1 C1 H1 d f1 w1 r1 z => ?_⟩
  obtain ⟨xs, hs, z⟩ := z
  cases r1 with
  | lst x1 x2 =>
    simp [seqR] at hs; subst hs
    exact ⟨_, rfl, ⟨_, w1.ex.seq (SqL.of x1)⟩, q _ _ _ _ _ _ f1 w1 (iterD_list (SqL.of x1) x2) z⟩
  | slst x1 x2 =>
    simp [seqR] at hs; subst hs
    exact ⟨_, rfl, ⟨_, w1.ex.seq x1⟩, q _ _ _ _ _ _ f1 w1 (iterD_list x1 x2) z⟩
  | own a =>
    have hc := own_seqR hs
    obtain ⟨_, vs, y1, y2⟩ := w1.cell a _ hc
    exact ⟨_, rfl, ⟨_, SqL.of y1⟩, q _ _ _ _ _ _ f1 w1 iterD_own z⟩
  | _ => simp [seqR] at hs
theorem wi_tup (h : WE X e env C fun d C1 => ∃ xs, d = .tup xs ∧ kI xs (fun _ => True) C1) : WI X tg e env C kI := by
  refine ⟨_, pi_tup pe_tS, fun G σ H R w er q => h G σ H _ w er fun v G1 C1 H1 d f1 w1 r1 z => ?_⟩
  obtain ⟨xs, rfl, z⟩ := z
  cases r1 with
  | tup x1 x2 => exact ⟨_, rfl, ⟨_, Same.sqT w1.ex x1⟩, q _ _ _ _ _ _ f1 w1 (iterD_tup x1 x2) z⟩
theorem wi_str (h : WE X e env C fun d C1 => ∃ x, d = .str x ∧ kI (signsOf x) (fun _ => True) C1) : WI X tg e env C kI := by
  refine ⟨_, pi_str pe_tS, fun G σ H R w er q => h G σ H _ w er fun v G1 C1 H1 d f1 w1 r1 z => ?_⟩
  obtain ⟨x, rfl, z⟩ := z
  cases r1
  exact ⟨_, rfl, q _ _ _ _ _ _ f1 w1 iterD_str z⟩
theorem wi_range1 {p : Pos} (hm : X.mg "range" = none) (hg : Gl X "range") (h : WA X [a] env C fun ds C1 => ∃ j : Int, ds = [.int j] ∧ -(2 ^ 62) ≤ j ∧ j < 2 ^ 62 ∧ kI (intsFrom 0 j.toNat) (fun _ => True) C1) (hs : starEach [a] X.env = [(false, eval a X.env)] := by rfl) :
    WI X tg (.Call (.Name "range" p) [a] [] pos) env C kI := by
  refine ⟨_, pi_range1 hg hm pa_tAr hs, fun G σ H R w er q => h G σ H _ w er fun v G1 C1 H1 d f1 w1 r1 z => ?_⟩
  obtain ⟨j, rfl, z1, z2, z⟩ := z
  cases r1 with
  | cons r1 r2 => cases r1; cases r2; exact ⟨j, rfl, z1, z2, q _ _ _ _ _ _ f1 w1 iterD_rng z⟩
/-- for: an invariant over the turn -/
theorem ws_for (hp : PassesOwn (model X.prog X.w) X.A X.env X.xe) (hc : X.calm = true)
    (h : WI X tg iter env C fun xs Pc C1 => ∃ Iv : Nat → DEnv → CS → Prop, Iv 0 env C1 ∧ (∀ i env C, Iv i env C → Pc C) ∧
      (∀ i d env C, xs[i]? = some d → Iv i env C → WG X tg d env C fun env' C' => WSs X body env' C' { nx := Iv (i + 1), rt := E.rt, bk := E.nx, ct := Iv (i + 1) }) ∧ (∀ env C, Iv xs.length env C → E.nx env C))
    (hs : ∀ x, foldedSetIterable iter X.env x = pure x := by intro _; rfl) : WS X (.For tg iter body [] pos) env C E := by
  obtain ⟨wi, hi, h⟩ := h
  refine .of (ps_for hp hc hi pg_tGt pss_tXs hs) fun G σ H D w er q => h G σ H _ w er fun J G1 C1 H1 xs Pc f1 w1 it z => ?_
  obtain ⟨Iv, i0, hP, turn, done⟩ := z
  let Wn : Nat → L2.St → Hp → Prop := fun i σ2 H2 => i ≤ xs.length ∧ ∃ G2 C2 env2, Fr G C H G2 C2 H2 ∧ Same G1 G2 ∧ Wld X.K G2 C2 H2 ∧ EnvR X.K G2 env2 σ2 ∧ Iv i env2 C2
  refine ⟨fun i m σ2 H2 => m = xs.length - i ∧ Wn i σ2 H2, ⟨xs.length, rfl, Nat.zero_le _, G1, C1, env, f1, fun _ _ h => h, w1, er.mono f1.exG, i0⟩, ?_⟩
  rintro i m σ2 H2 ⟨rfl, hi2, G2, C2, env2, f2, s2, w2, er2, i2⟩
  obtain ⟨go, stop⟩ := it G2 C2 H2 s2 w2 (hP _ _ _ i2)
  by_cases hlt : i < xs.length
  · obtain ⟨hgo, hy⟩ := go i xs[i] (by simp [hlt])
    refine .inr ⟨hgo, Wn (i + 1), fun σ' H' h' => ⟨xs.length - (i + 1), by omega, rfl, h'⟩, fun x H3 hx => ?_⟩
    obtain ⟨G3, f3, w3, r3⟩ := hy x H3 hx
    refine turn i xs[i] env2 C2 (by simp [hlt]) i2 G3 σ2 H3 x _ w3 (er2.mono f3.exG) r3 fun G4 C4 H4 σ4 env4 f4 w4 er4 h4 => ?_
    have nx : KontE X.K G4 C4 H4 (Iv (i + 1)) (Wn (i + 1)) := fun G5 C5 H5 σ5 env5 f5 w5 er5 h5 => ⟨hlt, G5, C5, env5, ((f2.trans f3).trans f4).trans f5, ((s2.trans f3.exG).trans f4.exG).trans f5.exG, w5, er5, h5⟩
    exact h4 G4 σ4 H4 _ w4 er4 ⟨nx, q.rt.after ((f2.trans f3).trans f4), q.nx.after ((f2.trans f3).trans f4), nx⟩
  · have e : i = xs.length := by omega
    subst e
    exact .inl ⟨stop _ (Nat.le_refl _), q.nx G2 C2 H2 σ2 env2 f2 w2 er2 (done _ _ i2)⟩
end
end DL
/-! DLf: comprehensions, defs and their calls, built-in calls and methods. -/
namespace DL
open PySem PySem.Spec PyProof.Rows L2

/-! ### comprehensions -/
theorem wipe_get (σ : L2.St) (j : Nat) : ∀ vs : List Nat, (wipe σ vs)[j]? = if j ∈ vs then (if j < σ.length then some none else none) else σ[j]?
  | [] => by simp [wipe]
  | v :: vs => by
    unfold wipe
    by_cases e : v = j
    · subst e
      simp only [List.mem_cons, true_or, if_true]
      by_cases l : v < σ.length
      · rw [List.getElem?_set_self (by rw [wipe_length]; exact l), if_pos l]
      · rw [List.getElem?_eq_none (by rw [List.length_set, wipe_length]; omega), if_neg l]
    · rw [List.getElem?_set_ne e, wipe_get σ j vs]
      have : (j ∈ v :: vs) = (j ∈ vs) := by simp [List.mem_cons, Ne.symm e]
      simp only [this]
theorem wipe_ext {σ σ' : L2.St} {vs : List Nat} (hl : σ'.length = σ.length) (h : ∀ j, j ∉ vs → σ'[j]? = σ[j]?) : wipe σ' vs = wipe σ vs := by
  apply List.ext_getElem?
  intro j
  rw [wipe_get, wipe_get, hl]
  by_cases e : j ∈ vs
  · rw [if_pos e, if_pos e]
  · rw [if_neg e, if_neg e, h j e]
theorem wipe_wipe_set {σ : L2.St} {vs : List Nat} {i : Nat} {x : Option V} (hi : i ∈ vs) : wipe ((wipe σ vs).set i x) vs = wipe σ vs := by
  apply wipe_ext
  · rw [List.length_set, wipe_length]
  · intro j hj
    have : i ≠ j := fun e => hj (e ▸ hi)
    rw [List.getElem?_set_ne this, wipe_get, if_neg hj]
def wipeD (env : DEnv) : List Nat → DEnv
  | [] => env
  | v :: vs => (wipeD env vs).set v none
theorem EnvR.wipe {K : PySem.W.Frag} {G : Hp} {env : DEnv} {σ : L2.St} (h : EnvR K G env σ) : ∀ vs : List Nat, EnvR K G (wipeD env vs) (L2.wipe σ vs)
  | [] => h
  | v :: vs => by
    have ih := EnvR.wipe h vs
    refine ⟨by simp [wipeD, L2.wipe, ih.1], fun i d q => ?_⟩
    unfold wipeD at q
    unfold L2.wipe
    by_cases e : v = i
    · subst e
      by_cases l : v < (wipeD env vs).length
      · rw [List.getElem?_set_self l] at q; cases q
      · rw [List.getElem?_eq_none (by simpa using l)] at q; cases q
    · rw [List.getElem?_set_ne e] at q ⊢
      exact ih.2 i d q

/-- the contexts of a comprehension's block -/
def Blk (X : Cx) (scope : Scope) (X' : Cx) : Prop := ∃ (s : Shared) (H : Hp) (C : Addr) (cl : List (Str × Addr)) (fp : List Addr), X' = X.blk s H scope (compEnvC scope cl C X.env) fp
/-- a target of a comprehension -/
def EvGW (K : PySem.W.Frag) (g : TG) (vs : List Nat) (d : D) (env : DEnv) (C : CS) (kE : DEnv → CS → Prop) : Prop :=
  ∀ G σ H v Q, Wld K G C H → EnvR K G env σ → Dat K G v d → KontE K G C H kE Q → g v (wipe σ vs) H fun σ2 H2 => wipe σ2 vs = wipe σ vs ∧ Q σ2 H2
theorem gw_name {K : PySem.W.Frag} {i : Nat} {vs : List Nat} {d : D} {env : DEnv} {C : CS} {kE : DEnv → CS → Prop} (hi : i ∈ vs) (h : kE ((wipeD env vs).set i (some d)) C) : EvGW K (gName i) vs d env C kE := fun G σ H v Q w er r q =>
  ⟨wipe_wipe_set hi, q G C H _ _ (Fr.refl ..) w ((er.wipe vs).set i r) h⟩
theorem gw_tup2 {K : PySem.W.Frag} {i j : Nat} {vs : List Nat} {d1 d2 : D} {env : DEnv} {C : CS} {kE : DEnv → CS → Prop} (hi : i ∈ vs) (hj : j ∈ vs) (h : kE (((wipeD env vs).set i (some d1)).set j (some d2)) C) : EvGW K (gTup K 2 (gCons (gName i) (gCons (gName j) gNil))) vs (.tup [d1, d2]) env C kE := fun G σ H v Q w er r q => by
  cases r with
  | tup h1 h2 =>
    cases h2 with
    | @cons v1 _ _ _ r1 h2 =>
      cases h2 with
      | @cons v2 _ _ _ r2 h2 =>
        cases h2
        refine ⟨_, _, rfl, Same.sqT w.ex h1, rfl, v1, [v2], rfl, v2, [], rfl, rfl, ?_, q G C H _ _ (Fr.refl ..) w (((er.wipe vs).set i r1).set j r2) h⟩
        apply wipe_ext
        · rw [List.length_set, List.length_set, wipe_length]
        · intro n hn
          have n1 : j ≠ n := fun e => hn (e ▸ hj)
          have n2 : i ≠ n := fun e => hn (e ▸ hi)
          rw [List.getElem?_set_ne n1, List.getElem?_set_ne n2, wipe_get, if_neg hn]
def tPIf (X : Cx) (ifs : List Expr) : TT := fun σ H Q => ∀ pins s, Inv X pins σ H s → wpAny (model X.prog X.w) X.A (forIn ifs true fun c r => if r = true then do let ok ← isTrue c X.env (eval c X.env); pure (ForInStep.yield ok) else pure (ForInStep.yield r)) (TP X pins σ Q) X.xe s
def WIf (X : Cx) (ifs : List Expr) (env : DEnv) (C : CS) (k : Bool → CS → Prop) : Prop := EvB X.K (tPIf X ifs) env C k
theorem wif_nil {X : Cx} {env : DEnv} {C : CS} {k : Bool → CS → Prop} (h : k true C) : WIf X [] env C k := fun G σ H Q w er q pins s I => pts_nil.run pins s σ H Q I (q true G C H (Fr.refl ..) w h)
theorem WIf.imp {X : Cx} {ifs : List Expr} {env : DEnv} {C : CS} {k k' : Bool → CS → Prop} (h : WIf X ifs env C k) (hk : ∀ t C', k t C' → k' t C') : WIf X ifs env C k' := fun G σ H Q w er q => h G σ H Q w er fun b G' C' H' f w z => q b G' C' H' f w (hk b C' z)
theorem wif_one {X : Cx} {c : Expr} {env : DEnv} {C : CS} {k : Bool → CS → Prop} (h : WT X c env C k) : WIf X [c] env C k := fun G σ H Q w er q pins s I => (pts_one pt_tT).run pins s σ H Q I (h G σ H Q w er q)
section
variable {X : Cx} {elt tg iter : Expr} {ifs : List Expr} {scope : Scope} {own : List (Str × Nat)} {env : DEnv} {C : CS} {k : KD} {pos : Pos} {g : TG}
/-- an invariant over the turn and what is made so far -/
def LcI (X : Cx) (elt : Expr) (ifs : List Expr) (scope : Scope) (vs : List Nat) (g : TG) (env : DEnv) (xs : List D) (Pc : CS → Prop) (C1 : CS) (k : KD) : Prop := ∃ Iv : Nat → List D → CS → Prop, Iv 0 [] C1 ∧ (∀ j acc C, Iv j acc C → Pc C) ∧
  (∀ j d acc C, xs[j]? = some d → Iv j acc C → EvGW X.K g vs d env C fun env2 C2 => ∀ X', Blk X scope X' → WIf X' ifs env2 C2 fun t C3 => (t = true → ∀ X', Blk X scope X' → WE X' elt env2 C3 fun y C4 => acc.length < sizeLine ∧ Iv (j + 1) (acc ++ [y]) C4) ∧ (t = false → Iv (j + 1) acc C3)) ∧
  (∀ acc C, Iv xs.length acc C → ∀ p, C p = none → k (.own p) (put C p (.lst acc)))
theorem Fr.fresh {G H : Hp} {C : CS} {p : Addr} {o : HO} (h : H p = none) : Fr G C H G C (upd H p o) :=
  ⟨fun _ _ h => h, fun b u e _ _ => by rw [upd_ne (ne_of_none e h)]; exact e, fun b e => by
    by_cases q : b = p
    · subst q; exact absurd h e
    · rw [upd_ne q]; exact e, fun _ _ k => k, fun _ _ k => .inl k⟩
/-- a fresh list becomes a cell -/
theorem Wld.claim {K : PySem.W.Frag} {G G1 H H1 : Hp} {C C1 : CS} {p : Addr} {vs : List V} {ds : List D} (f : Fr G C H G1 C1 H1) (w : Wld K G1 C1 H1) (h0 : H p = none) (h1 : H1 p = some (.lst vs)) (r : DatAll K G1 vs ds) (c : C1 p = none) (g : G1 p = none) :
    Fr G C H G1 (put C1 p (.lst ds)) H1 ∧ Wld K G1 (put C1 p (.lst ds)) H1 := by
  refine ⟨⟨f.exG, f.keep, f.dom, fun a ha k => ?_, f.newG⟩, ⟨w.ex, fun a c' e => ?_, w.nt⟩⟩
  · by_cases q : a = p
    · subst q; exact absurd h0 ha
    · rw [put_ne q] at k; exact f.newC a ha k
  · by_cases q : a = p
    · subst q; rw [put_same] at e; cases e; exact ⟨g, vs, h1, r⟩
    · rw [put_ne q] at e; exact w.cell a c' e
theorem ev_lc {wi : TI} (hwi : EvI X.K wi env C fun xs Pc C1 => LcI X elt ifs scope (own.map (·.2)) g env xs Pc C1 k) :
    Ev X.K (tLc wi g (fun σ H Q => ∀ X', Blk X scope X' → tPIf X' ifs σ H Q) (fun σ H Q => ∀ X', Blk X scope X' → tS X' elt σ H Q) (own.map (·.2))) env C k := fun G σ H Q w er q => by
  refine hwi G σ H _ w er fun J G1 C1 H1 xs Pc f1 w1 it z Da hD => ?_
  obtain ⟨Iv, i0, hP, turn, done⟩ := z
  have hn := w1.ne hD
  let Wn : Nat → Hp → Prop := fun i H2 => i ≤ xs.length ∧ ∃ G2 C2 acc vs, Fr G1 C1 H1 G2 C2 H2 ∧ Wld X.K G2 C2 H2 ∧ H2 Da = some (.lst vs) ∧ DatAll X.K G2 vs acc ∧ Iv i acc C2 ∧ C2 Da = none ∧ G2 Da = none
  have wD : Wld X.K G1 C1 (upd H1 Da (.lst [])) := ⟨fun a o e => by rw [upd_ne (ne_of_none e hn.1)]; exact w1.ex a o e, fun a c e => by
    obtain ⟨h1, h2⟩ := w1.cell a c e
    exact ⟨h1, h2.mono (fun _ _ h => h) (upd_ne (cell_ne e hn.2))⟩, w1.nt⟩
  refine ⟨fun i m H2 => m = xs.length - i ∧ Wn i H2, ⟨xs.length, rfl, Nat.zero_le _, G1, C1, [], [], Fr.fresh hD, wD, upd_same, .nil, i0, hn.2, hn.1⟩, ?_⟩
  rintro i m H2 ⟨rfl, hi2, G2, C2, acc, vs, f2, w2, hd2, r2, i2, c2, g2⟩
  obtain ⟨go, stop⟩ := it G2 C2 H2 f2.exG w2 (hP _ _ _ i2)
  have keepD : ∀ {G3 C3 H3}, Fr G2 C2 H2 G3 C3 H3 → H3 Da = some (.lst vs) ∧ C3 Da = none ∧ G3 Da = none := fun {G3 C3 H3} f => by
    refine ⟨f.keep _ _ hd2 c2 (by intro _ z; cases z), ?_, ?_⟩
    · cases e : C3 Da with
      | none => rfl
      | some c => exact absurd c2 (f.newC Da (by rw [hd2]; simp) (by rw [e]; simp))
    · cases e : G3 Da with
      | none => rfl
      | some c => exact ((f.newG Da (by rw [hd2]; simp) (by rw [e]; simp)).elim (fun z => z g2) fun z => z c2).elim
  by_cases hlt : i < xs.length
  · obtain ⟨hgo, hy⟩ := go i xs[i] (by simp [hlt])
    refine .inr ⟨hgo, Wn (i + 1), fun H' h' => ⟨xs.length - (i + 1), by omega, rfl, h'⟩, fun x H3 hx => ?_⟩
    obtain ⟨G3, f3, w3, r3⟩ := hy x H3 hx
    refine turn i xs[i] acc C2 (by simp [hlt]) i2 G3 σ H3 x _ w3 (er.mono (f1.exG.trans (f2.exG.trans f3.exG))) r3 fun G4 C4 H4 σ4 env4 f4 w4 er4 h4 X' hX => ?_
    have h5 := h4 X' hX
    obtain ⟨s0, H0, Ca, cl, fp, rfl⟩ := hX
    refine h5 G4 σ4 H4 _ w4 er4 fun t G5 C5 H5 f5 w5 ht => ?_
    have f35 := (f3.trans f4).trans f5
    cases t with
    | true =>
      refine iteT fun X' hX => ?_
      have h6 := ht.1 rfl X' hX
      obtain ⟨s1, H01, Ca1, cl1, fp1, rfl⟩ := hX
      refine h6 G5 σ4 H5 _ w5 (er4.mono f5.exG) fun y G6 C6 H6 d6 f6 w6 r6 h7 => ?_
      obtain ⟨hd6, c6, g6⟩ := keepD (f35.trans f6)
      have rr := r2.mono (f35.trans f6).exG
      refine ⟨vs, hd6, by rw [rr.length]; exact h7.1, hlt, G6, C6, acc ++ [d6], vs ++ [y], ?_, ?_, upd_same, rr.append (.cons r6 .nil), h7.2, c6, g6⟩
      · have F := f2.trans (f35.trans f6)
        refine ⟨F.exG, fun a o e c nt => ?_, fun a e => ?_, F.newC, F.newG⟩
        · by_cases q : a = Da
          · subst q; rw [hD] at e; cases e
          · rw [upd_ne q]; exact F.keep a o e c nt
        · by_cases q : a = Da
          · subst q; rw [upd_same]; simp
          · rw [upd_ne q]; exact F.dom a e
      · exact ⟨fun a o e => by rw [upd_ne (ne_of_none e g6)]; exact w6.ex a o e, fun a c e => by
          obtain ⟨h1, h2⟩ := w6.cell a c e
          exact ⟨h1, h2.mono (fun _ _ h => h) (upd_ne (cell_ne e c6))⟩, w6.nt⟩
    | false =>
      obtain ⟨hd5, c5, g5⟩ := keepD f35
      exact iteF ⟨hlt, G5, C5, acc, vs, f2.trans f35, w5, hd5, r2.mono f35.exG, ht.2 rfl, c5, g5⟩
  · have e : i = xs.length := by omega
    subst e
    have h0 : H Da = none := by
      cases e : H Da with
      | none => rfl
      | some o => exact absurd hD (f1.dom Da (by rw [e]; simp))
    obtain ⟨F, w3⟩ := w2.claim (f1.trans f2) h0 hd2 r2 c2 g2
    exact .inl ⟨stop _ (Nat.le_refl _), q _ _ _ _ _ F w3 (.own Da) (done acc C2 i2 Da c2)⟩
end
end DL
/-! DLg: comprehensions as expressions, defs and their calls, built-in calls and methods. -/
namespace DL
open PySem PySem.Spec PyProof.Rows L2

section
variable {X : Cx} {elt tg iter : Expr} {ifs : List Expr} {scope : Scope} {own : List (Str × Nat)} {env : DEnv} {C : CS} {k : KD} {pos : Pos} {g : TG} {E : DEnds}
theorem we_lc (own : List (Str × Nat)) (hc : X.calm = true) (hN : X.N.Nodup) (ok : BlkOk X.N X.env.scope scope own) (hg : ∀ (s : Shared) (H : Hp) (C : Addr) (cl : List (Str × Addr)) (fp : List Addr), PG (X.blk s H scope (compEnvC scope cl C X.env) fp) tg g)
    (h : WI X tg iter env C fun xs Pc C1 => LcI X elt ifs scope (own.map (·.2)) g env xs Pc C1 k) (hs : ∀ x, foldedSetIterable iter X.env x = pure x := by intro _; rfl) : WE X (.ListComp elt [⟨tg, iter, ifs, 0⟩] scope pos) env C k := by
  obtain ⟨wi, hi, hw⟩ := h
  refine .of (pe_lc (own := own) (g := g) (tt := fun σ H Q => ∀ X', Blk X scope X' → tPIf X' ifs σ H Q) (te := fun σ H Q => ∀ X', Blk X scope X' → tS X' elt σ H Q) hc hN hi ok hg ?_ ?_ hs) (ev_lc hw)
  · exact fun s H C cl fp => ⟨fun pins s' σ H Q I h => h _ ⟨_, _, _, _, _, rfl⟩ pins s' I⟩
  · exact fun s H C cl fp => ⟨fun pins s' σ H Q I h => h _ ⟨_, _, _, _, _, rfl⟩ pins s' I⟩
theorem ws_setLc (own : List (Str × Nat)) {i : Nat} {y : Str} {py spos : Pos} (hc : X.calm = true) (hN : X.N.Nodup) (hy : X.N[i]? = some y) (hyl : X.env.scope.names.lookup y = some .local)
    (hsw : swapsWith (.ListComp elt [⟨tg, iter, ifs, 0⟩] scope pos) (some (.Name y py)) spos.line X.env = pure true) (ok : BlkOk X.N X.env.scope scope own) (hg : ∀ (s : Shared) (H : Hp) (C : Addr) (cl : List (Str × Addr)) (fp : List Addr), PG (X.blk s H scope (compEnvC scope cl C X.env) fp) tg g)
    (h : WI X tg iter env C fun xs Pc C1 => LcI X elt ifs scope (own.map (·.2)) g env xs Pc C1 fun d C2 => E.nx (env.set i (some d)) C2) (hs : ∀ x, foldedSetIterable iter X.env x = pure x := by intro _; rfl) :
    WS X (.Assign [.Name y py] (.ListComp elt [⟨tg, iter, ifs, 0⟩] scope pos) spos) env C E := by
  obtain ⟨wi, hi, hw⟩ := h
  refine .of (ps_setLc (i := i) (own := own) (g := g) (tt := fun σ H Q => ∀ X', Blk X scope X' → tPIf X' ifs σ H Q) (te := fun σ H Q => ∀ X', Blk X scope X' → tS X' elt σ H Q) hc hN hy hyl hsw hi ok hg ?_ ?_ hs) ?_
  · exact fun s H C cl fp => ⟨fun pins s' σ H Q I h => h _ ⟨_, _, _, _, _, rfl⟩ pins s' I⟩
  · exact fun s H C cl fp => ⟨fun pins s' σ H Q I h => h _ ⟨_, _, _, _, _, rfl⟩ pins s' I⟩
  · exact fun G σ H D w er q => ev_lc hw G σ H _ w er fun v G1 C1 H1 d f1 w1 r1 z => q.nx G1 C1 H1 _ _ f1 w1 ((er.mono f1.exG).set i r1) z
end

/-! ### defs -/
abbrev DSp := List D → CS → KD → Prop
def toSp (K : PySem.W.Frag) (S : DSp) : Sp := fun vs H Q _ => ∃ G C ds k, Wld K G C H ∧ DatAll K G vs ds ∧ S ds C k ∧ Kont K G C H k Q
def startD (N : List Str) (ds : List D) : DEnv := ds.map some ++ List.replicate (N.length - ds.length) none
theorem envR_start {K : PySem.W.Frag} {G : Hp} {N : List Str} {vs : List V} {ds : List D} (r : DatAll K G vs ds) : EnvR K G (startD N ds) (L2.start N vs) := by
  refine ⟨by unfold startD L2.start; simp [r.length], fun i d h => ?_⟩
  unfold startD at h
  unfold L2.start
  have hl := r.length
  by_cases hi : i < ds.length
  · rw [List.getElem?_append_left (by simpa using hi), List.getElem?_map] at h
    rw [List.getElem?_append_left (by simpa [hl] using hi), List.getElem?_map]
    cases q : ds[i]? with
    | none => rw [q] at h; cases h
    | some d' =>
      rw [q] at h
      obtain rfl := Option.some.inj (Option.some.inj h)
      obtain ⟨v, h1, h2⟩ := r.get q
      exact ⟨v, by rw [h1]; rfl, h2⟩
  · rw [List.getElem?_append_right (by simpa using hi)] at h
    rw [List.getElem?_replicate] at h
    split at h <;> cases h
section
variable {P : Program} {w : World} {K : PySem.W.Frag} {mg : Str → Option Value} {base : Heap}
theorem fnD {x qual : Str} {st : Stmt} {f : Addr} {fd : FuncData} {N ps : List Str} {n : Nat} {S : DSp} (F : Fun K x qual st f fd) (sc : FnScope N ps (defScope st)) (hl : ∀ ds C k, S ds C k → ds.length = ps.length)
    (hb : ∀ (cdv : Value) (A : Around) (outer : List Env) (s : Shared) (H : Hp) (E : XK) (ds : List D) (C : CS) (k : KD), A.guards = some [] → Room n (A.deeper (envOfC qual (defScope st) s.heap.objs.size f cdv)) → S ds C k →
      WSs (cxOf CX0 P w K mg base N qual (defScope st) f cdv A outer s H E).nox (defBody st) (startD N ds) C { nx := fun _ C' => k .non C', rt := k }) : FnG P w K mg base CX0 (n + 1) f fd ps (toSp K S) := by
  refine fnG_of F sc (fun vs H Q E h => ?_) (fun cdv A outer s H vs Q E hgd hr h => ?_)
  · obtain ⟨G, C, ds, k, _, r, hS, _⟩ := h
    rw [r.length]
    exact hl _ _ _ hS
  · obtain ⟨G, C, ds, k, wl, r, hS, q⟩ := h
    refine ⟨_, PSs.nox pss_tXs, ?_⟩
    refine hb cdv A outer s H E ds C k hgd hr hS G _ H _ wl (envR_start r) ⟨?_, q, ?_, ?_⟩
    · exact fun G' C' H' σ env f w' er z => q .non G' C' H' .non f w' .non z
    · exact fun G' C' H' σ env f w' er z => z.elim
    · exact fun G' C' H' σ env f w' er z => z.elim
/-- a def that keeps a promise by data -/
def FnC (P : Program) (w : World) (K : PySem.W.Frag) (mg : Str → Option Value) (base : Heap) (x : Str) (n : Nat) (S : DSp) : Prop :=
  ∃ (f : Addr) (fd : FuncData) (ps : List Str), FnG P w K mg base CX0 n f fd ps (toSp K S) ∧ mg x = some (.ref f) ∧ PySem.W.keepIn K (.ref f) = true ∧ Binds K fd ps []
end
section
variable {X : Cx} {e a b o : Expr} {es : List Expr} {env : DEnv} {C : CS} {k : KD} {pos : Pos}
theorem call_ok {n : Nat} {f : Addr} {fd : FuncData} {ps : List Str} {S : DSp} {ta : TA} (h : EvA X.K ta env C fun ds C1 => S ds C1 k) : Ev X.K (tCall (toSp X.K S) [] E0 ta) env C k := fun G σ H Q w er q =>
  h G σ H _ w er fun vs G1 C1 H1 ds f1 w1 r1 z => ⟨G1, C1, ds, k, w1, by rw [List.append_nil]; exact r1, z, q.after f1⟩
theorem we_call {x : Str} {n m : Nat} {S : DSp} {p : Pos} (h : FnC X.prog X.w X.K X.mg X.base x n S) (hgd : X.A.guards = some []) (hr : Room m X.A) (hg : Gl X x) (ha : WA X (e :: es) env C fun ds C1 => S ds C1 k) (hle : n ≤ m := by decide)
    (hdb : (x == ("__debug__" : Str)) = false := by decide) (he : starEach (e :: es) X.env = (false, eval e X.env) :: starEach es X.env := by rfl) (hpl : (backTo pos (starEach es X.env)).any (·.1) = false := by rfl) : WE X (.Call (.Name x p) (e :: es) [] pos) env C k := by
  obtain ⟨f, fd, ps, F, hm, hk, hb⟩ := h
  exact .of (pe_callG F hgd (hr.mono hle) hg hm hk hb pass0 pa_tAr hdb he hpl) (call_ok (n := n) (f := f) (fd := fd) (ps := ps) ha)
/-! ### methods of built-in types -/
def tyD (T : String) (C : CS) (x : D) : Prop := match x with
  | .str _ => T = "str"
  | .lst _ => T = "list"
  | .own a => (T = "list" ∧ ∃ xs, C a = some (.lst xs)) ∨ (T = "dict" ∧ ∃ kvs, C a = some (.dic kvs))
  | _ => False
theorem tyD_ok {K : PySem.W.Frag} {T : String} {G H : Hp} {x : V} {d : D} (w : Wld K G C H) (r : Dat K G x d) (h : tyD T C d) : tyV K T x H := by
  cases r with
  | str x => exact h
  | lst h1 h2 => exact .inl ⟨h, _, SqL.of (w.ex _ _ h1)⟩
  | own a =>
    rcases h with ⟨h, xs, hx⟩ | ⟨h, kvs, hx⟩
    · obtain ⟨_, vs, h1, _⟩ := w.cell a _ hx
      exact .inl ⟨h, vs, SqL.of h1⟩
    · obtain ⟨_, vs, h1, _⟩ := w.cell a _ hx
      exact .inr (.inr (.inl ⟨h, .inl ⟨vs, h1⟩⟩))
  | _ => exact h.elim
theorem we_bm {T : String} {name : Str} {id : String} {apos cpos : Pos} {r : V → List V → Hp → VK → Prop} {p : D → List D → CS → KD → Prop} (pa : PlainAttrs T) (slot : Slot T name id) (hty : typeOf (.builtin id) = pure (.type "method_descriptor")) (hm : MtR X id r) (hr : RMD X.K r p)
    (h : WE X o env C fun x C1 => tyD T C1 x ∧ WA X (e :: es) env C1 fun ds C2 => p x ds C2 k)
    (hbase : attributeBase o name X.env (eval o X.env) = eval o X.env := by rfl)
    (hfew : ((backTo cpos (starEach (e :: es) X.env)).all (fun x => !x.1) && (backToKw cpos (keywordEach [] X.env)).all (fun x => x.1.isSome)
      && decide ((e :: es).length + ([] : List Keyword).length + (if ([] : List Keyword).isEmpty then 0 else 1) < 30)) = true := by rfl)
    (hline : (apos.endLine == cpos.line) = true := by rfl) (hs : starEach (e :: es) X.env = (false, eval e X.env) :: starEach es X.env := by rfl) (hplain : (backTo cpos (starEach es X.env)).any (·.1) = false := by rfl) :
    WE X (.Call (.Attribute o name apos) (e :: es) [] cpos) env C k :=
  .of (pe_bm pa slot hty hm pe_tS pa_tAr hbase hfew hline hs hplain) fun G σ H Q w er q => h G σ H _ w er fun v G1 C1 H1 d f1 w1 r1 z => ⟨tyD_ok w1 r1 z.1, z.2 G1 σ H1 _ w1 (er.mono f1.exG) fun vs G2 C2 H2 ds f2 w2 r2 hp => hr v d vs ds G2 C2 H2 k Q w2 (r1.mono f2.exG) r2 hp (q.after (f1.trans f2))⟩
theorem we_bm0 {T : String} {name : Str} {id : String} {apos cpos : Pos} {r : V → List V → Hp → VK → Prop} {p : D → List D → CS → KD → Prop} (pa : PlainAttrs T) (slot : Slot T name id) (hty : typeOf (.builtin id) = pure (.type "method_descriptor")) (hm : MtR X id r) (hr : RMD X.K r p)
    (h : WE X o env C fun x C1 => tyD T C1 x ∧ p x [] C1 k) (hbase : attributeBase o name X.env (eval o X.env) = eval o X.env := by rfl) (hline : (apos.endLine == cpos.line) = true := by rfl) : WE X (.Call (.Attribute o name apos) [] [] cpos) env C k :=
  .of (pe_bm0 pa slot hty hm pe_tS hbase hline) fun G σ H Q w er q => h G σ H _ w er fun v G1 C1 H1 d f1 w1 r1 z => ⟨tyD_ok w1 r1 z.1, hr v d [] [] G1 C1 H1 k Q w1 r1 .nil z.2 (q.after f1)⟩
end

/-! ### what built-ins and methods give -/
section
variable {K : PySem.W.Frag}
def dAppend : D → List D → CS → KD → Prop := fun x ds C k => ∃ a xs y, x = .own a ∧ ds = [y] ∧ C a = some (.lst xs) ∧ xs.length < sizeLine ∧ k .non (put C a (.lst (xs ++ [y])))
theorem rm_append : RMD K rAppend dAppend := by
  rintro x a xs ds G C H k Q w r rs ⟨p, ys, y, rfl, rfl, hp, hl, hk⟩ q
  cases r
  cases rs with
  | cons r1 r2 =>
    cases r2
    obtain ⟨_, vs, h1, h2⟩ := w.cell p _ hp
    refine ⟨p, vs, _, rfl, rfl, h1, by rw [h2.length]; exact hl, ?_⟩
    obtain ⟨w2, f2⟩ := w.write hp (o := .lst _) (c' := .lst _) fun H' e => ⟨_, e, h2.append (.cons r1 .nil)⟩
    exact q _ _ _ _ _ f2 w2 .non hk
def dInsert : D → List D → CS → KD → Prop := fun x ds C k => ∃ a xs y i, x = .own a ∧ ds = [.int i, y] ∧ C a = some (.lst xs) ∧ xs.length < sizeLine ∧ 0 ≤ i ∧ i < 2 ^ 63 ∧ k .non (put C a (.lst (xs.take i.toNat ++ [y] ++ xs.drop i.toNat)))
theorem rm_insert : RMD K (fun x vs H Q => ∃ (l : Addr) (xs : List V) (i : Int) (y : V), x = .ref l ∧ vs = [.int i, y] ∧ H l = some (.lst xs) ∧ xs.length < sizeLine ∧ 0 ≤ i ∧ i < 2 ^ 63 ∧ Q .non (upd H l (.lst (xs.take i.toNat ++ [y] ++ xs.drop i.toNat)))) dInsert := by
  rintro x a xs ds G C H k Q w r rs ⟨p, ys, y, i, rfl, rfl, hp, hl, h0, h63, hk⟩ q
  cases r
  cases rs with
  | cons r1 r2 =>
    cases r2 with
    | cons r2 r3 =>
      cases r3; cases r1
      obtain ⟨_, vs, h1, h2⟩ := w.cell p _ hp
      refine ⟨p, vs, i, _, rfl, rfl, h1, by rw [h2.length]; exact hl, h0, h63, ?_⟩
      obtain ⟨w2, f2⟩ := w.write hp (o := .lst _) (c' := .lst _) fun H' e => ⟨_, e, ((h2.take i.toNat).append (.cons r2 .nil)).append (h2.drop i.toNat)⟩
      exact q _ _ _ _ _ f2 w2 .non hk
def dPopAt : D → List D → CS → KD → Prop := fun x ds C k => ∃ a xs i j y, x = .own a ∧ ds = [.int i] ∧ C a = some (.lst xs) ∧ -(2 ^ 63) ≤ i ∧ i < 2 ^ 63 ∧ seqIndex? i xs.length = some j ∧ xs[j]? = some y ∧ k y (put C a (.lst (xs.eraseIdx j)))
theorem datAll_erase {G : Hp} : ∀ {vs : List V} {ds : List D} (i : Nat), DatAll K G vs ds → DatAll K G (vs.eraseIdx i) (ds.eraseIdx i)
  | _, [], i, h => by cases h; simp; exact .nil
  | _, d :: ds, 0, h => by
    cases h with
    | cons a b => exact b
  | _, d :: ds, i + 1, h => by
    cases h with
    | cons a b => exact .cons a (datAll_erase i b)
theorem rm_popAt : RMD K rPopAt dPopAt := by
  rintro x a xs ds G C H k Q w r rs ⟨p, ys, i, j, y, rfl, rfl, hp, h0, h63, hj, hy, hk⟩ q
  cases r
  cases rs with
  | cons r1 r2 =>
    cases r2; cases r1
    obtain ⟨_, vs, h1, h2⟩ := w.cell p _ hp
    obtain ⟨v, g1, g2⟩ := h2.get hy
    refine ⟨p, vs, i, j, v, rfl, rfl, h1, h0, h63, by rw [h2.length]; exact hj, g1, ?_⟩
    obtain ⟨w2, f2⟩ := w.write hp (o := .lst _) (c' := .lst _) fun H' e => ⟨_, e, datAll_erase j h2⟩
    exact q _ _ _ _ _ f2 w2 g2 hk
theorem datAll_strs {G : Hp} : ∀ {vs : List V} {ys : List Str}, DatAll K G vs (ys.map D.str) → vs = ys.map V.str
  | _, [], h => by cases h; rfl
  | _, y :: ys, h => by
    cases h with
    | cons a b => cases a; rw [datAll_strs b]; rfl
theorem datAll_ints {G : Hp} : ∀ {vs : List V} {ys : List Int}, DatAll K G vs (ys.map D.int) → vs = ys.map V.int
  | _, [], h => by cases h; rfl
  | _, y :: ys, h => by
    cases h with
    | cons a b => cases a; rw [datAll_ints b]; rfl
theorem datAll_bls {G : Hp} : ∀ {vs : List V} {ys : List Bool}, DatAll K G vs (ys.map D.bl) → vs = ys.map V.bl
  | _, [], h => by cases h; rfl
  | _, y :: ys, h => by
    cases h with
    | cons a b => cases a; rw [datAll_bls b]; rfl
def dJoin : D → List D → CS → KD → Prop := fun x ds C k => ∃ a y, ∃ ys : List Str, x = .str a ∧ ds = [y] ∧ seqR C y = some (ys.map D.str) ∧ (ys.map (·.length)).sum + ys.length * a.length ≤ 16777216 ∧ k (.str (Txt.join a ys)) C
theorem rm_join : RMD K (fun x xs H Q => ∃ a p, ∃ ys : List Str, x = .str a ∧ xs = [.ref p] ∧ (SqL K H p (ys.map V.str) ∨ SqT K H p (ys.map V.str)) ∧ (ys.map (·.length)).sum + ys.length * a.length ≤ 16777216 ∧ Q (.str (Txt.join a ys)) H) dJoin := by
  rintro x a xs ds G C H k Q w r rs ⟨b, y, ys, rfl, rfl, hs, hl, hk⟩ q
  cases r
  cases rs with
  | cons r1 r2 =>
    cases r2
    obtain ⟨p, vs, rfl, h1, h2⟩ := w.seq r1 hs
    have := datAll_strs h2
    subst this
    exact ⟨b, p, ys, rfl, rfl, .inl h1, hl, q _ _ _ _ _ (Fr.refl ..) w (.str _) hk⟩
def dSIndex : D → List D → CS → KD → Prop := fun x ds C k => ∃ a b i rest, x = .str a ∧ ds = [.str b] ∧ Builtin.Str.occurrences a b 0 a.length 1 = i :: rest ∧ k (.int (i : Nat)) C
theorem rm_sindex : RMD K (fun x xs H Q => ∃ a b i rest, x = .str a ∧ xs = [.str b] ∧ Builtin.Str.occurrences a b 0 a.length 1 = i :: rest ∧ Q (.int (i : Nat)) H) dSIndex := by
  rintro x a xs ds G C H k Q w r rs ⟨b, c, i, rest, rfl, rfl, ho, hk⟩ q
  cases r
  cases rs with
  | cons r1 r2 => cases r2; cases r1; exact ⟨b, c, i, rest, rfl, rfl, ho, q _ _ _ _ _ (Fr.refl ..) w (.int _) hk⟩

def lenD (C : CS) (x : D) (n : Nat) : Prop := match x with
  | .str y => y.length ≤ sizeLine ∧ n = y.length
  | .tup xs => n = xs.length
  | x => ∃ xs, seqR C x = some xs ∧ n = xs.length
def dLen : List D → CS → KD → Prop := fun ds C k => ∃ x n, ds = [x] ∧ lenD C x n ∧ k (.int (n : Nat)) C
theorem rl_len : RLD K (fun xs H Q => ∃ x n, xs = [x] ∧ LenV K x H n ∧ Q (.int n) H) dLen := by
  rintro xs ds G C H k Q w rs ⟨x, n, rfl, hl, hk⟩ q
  cases rs with
  | @cons v _ _ _ r1 r2 =>
    cases r2
    refine ⟨v, n, rfl, ?_, q _ _ _ _ _ (Fr.refl ..) w (.int _) hk⟩
    unfold lenD at hl
    split at hl
    · cases r1; exact hl
    · obtain ⟨a, vs, rfl, h1, h2⟩ := w.tup r1
      exact .inr ⟨vs, h1, by rw [h2.length]; exact hl⟩
    · obtain ⟨ys, h0, h3⟩ := hl
      obtain ⟨a, vs, rfl, h1, h2⟩ := w.seq r1 h0
      exact .inl ⟨vs, h1, by rw [h2.length]; exact h3⟩
def dInt1 (f : Int → Int) : List D → CS → KD → Prop := fun ds C k => ∃ i, ds = [.int i] ∧ k (.int (f i)) C
theorem rl_int1 {f : Int → Int} : RLD K (fun xs H Q => ∃ i, xs = [.int i] ∧ Q (.int (f i)) H) (dInt1 f) := by
  rintro xs ds G C H k Q w rs ⟨i, rfl, hk⟩ q
  cases rs with
  | cons r1 r2 => cases r2; cases r1; exact ⟨i, rfl, q _ _ _ _ _ (Fr.refl ..) w (.int _) hk⟩
def dInt2 (f : Int → Int → Int) : List D → CS → KD → Prop := fun ds C k => ∃ i j, ds = [.int i, .int j] ∧ k (.int (f i j)) C
theorem rl_int2 {f : Int → Int → Int} : RLD K (fun xs H Q => ∃ i j, xs = [.int i, .int j] ∧ Q (.int (f i j)) H) (dInt2 f) := by
  rintro xs ds G C H k Q w rs ⟨i, j, rfl, hk⟩ q
  cases rs with
  | cons r1 r2 =>
    cases r2 with
    | cons r2 r3 => cases r3; cases r1; cases r2; exact ⟨i, j, rfl, q _ _ _ _ _ (Fr.refl ..) w (.int _) hk⟩
/-- int(n), int(flag) -/
def dInt : List D → CS → KD → Prop := fun ds C k => (∃ i, ds = [.int i] ∧ k (.int i) C) ∨ ∃ b : Bool, ds = [.bl b] ∧ k (.int (if b then 1 else 0)) C
theorem rl_int : RLD K (fun xs H Q => (∃ i, xs = [.int i] ∧ Q (.int i) H) ∨ ∃ k, xs = [.bl k] ∧ Q (.int (if k then 1 else 0)) H) dInt := by
  rintro xs ds G C H k Q w rs (⟨i, rfl, hk⟩ | ⟨i, rfl, hk⟩) q
  · cases rs with
    | cons r1 r2 => cases r2; cases r1; exact .inl ⟨i, rfl, q _ _ _ _ _ (Fr.refl ..) w (.int _) hk⟩
  · cases rs with
    | cons r1 r2 => cases r2; cases r1; exact .inr ⟨i, rfl, q _ _ _ _ _ (Fr.refl ..) w (.int _) hk⟩
def dStrInt : List D → CS → KD → Prop := fun ds C k => ∃ i : Int, ds = [.int i] ∧ i.natAbs.log2 < 1920 ∧ k (.str (toString i)) C
theorem rl_str : RLD K (fun xs H Q => ∃ i : Int, xs = [.int i] ∧ i.natAbs.log2 < 1920 ∧ Q (.str (toString i)) H) dStrInt := by
  rintro xs ds G C H k Q w rs ⟨i, rfl, h, hk⟩ q
  cases rs with
  | cons r1 r2 => cases r2; cases r1; exact ⟨i, rfl, h, q _ _ _ _ _ (Fr.refl ..) w (.str _) hk⟩
/-- tuple(xs) -/
def dTuple : List D → CS → KD → Prop := fun ds C k => ∃ x, ds = [x] ∧ match x with
  | .tup xs => k (.tup xs) C
  | x => ∃ xs, seqR C x = some xs ∧ k (.tup xs) C
theorem rl_tuple : RLD K (fun xs H Q => ∃ p ys, xs = [.ref p] ∧ ((SqL K H p ys ∧ ∀ l, H l = none → Q (.ref l) (upd H l (.tup ys))) ∨ (SqT K H p ys ∧ Q (.ref p) H))) dTuple := by
  rintro xs ds G C H k Q w rs ⟨x, rfl, hk⟩ q
  cases rs with
  | cons r1 r2 =>
    cases r2
    split at hk
    · obtain ⟨a, vs, rfl, h1, h2⟩ := w.tup r1
      exact ⟨a, vs, rfl, .inr ⟨h1, q _ _ _ _ _ (Fr.refl ..) w r1 hk⟩⟩
    · obtain ⟨ys, h0, hk⟩ := hk
      obtain ⟨a, vs, rfl, h1, h2⟩ := w.seq r1 h0
      refine ⟨a, vs, rfl, .inl ⟨h1, fun p hp => ?_⟩⟩
      obtain ⟨w2, f2, s2⟩ := w.newG hp (.tup vs)
      exact q _ _ _ _ _ f2 w2 (.tup (SqT.of upd_same) (h2.mono s2)) hk
/-- list(xs) -/
def seqA (C : CS) : D → Option (List D)
  | .tup xs => some xs
  | d => seqR C d
theorem Wld.seqA {G H : Hp} {C : CS} {v : V} {d : D} {ds : List D} (w : Wld K G C H) (r : Dat K G v d) (e : seqA C d = some ds) : ∃ a xs, v = .ref a ∧ (SqL K H a xs ∨ SqT K H a xs) ∧ DatAll K G xs ds := by
  unfold DL.seqA at e
  split at e
  · cases e
    obtain ⟨a, vs, rfl, h1, h2⟩ := w.tup r
    exact ⟨a, vs, rfl, .inr h1, h2⟩
  · obtain ⟨a, vs, rfl, h1, h2⟩ := w.seq r e
    exact ⟨a, vs, rfl, .inl h1, h2⟩
def dList : List D → CS → KD → Prop := fun ds C k => ∃ x xs, ds = [x] ∧ seqA C x = some xs ∧ ∀ p, C p = none → k (.own p) (put C p (.lst xs))
theorem rl_list : RLD K (fun xs H Q => ∃ p ys, xs = [.ref p] ∧ (SqL K H p ys ∨ SqT K H p ys) ∧ ∀ l, H l = none → Q (.ref l) (upd H l (.lst ys))) dList := by
  rintro xs ds G C H k Q w rs ⟨x, ys, rfl, hs, hk⟩ q
  cases rs with
  | cons r1 r2 =>
    cases r2
    obtain ⟨a, vs, rfl, h1, h2⟩ := w.seqA r1 hs
    refine ⟨a, vs, rfl, h1, fun p hp => ?_⟩
    obtain ⟨w2, f2⟩ := w.newC hp (o := .lst vs) (c := .lst ys) fun H' e => ⟨vs, e, h2⟩
    exact q _ _ _ _ _ f2 w2 (.own p) (hk p (w.ne hp).2)
def dAny : List D → CS → KD → Prop := fun ds C k => ∃ x, ∃ bs : List Bool, ds = [x] ∧ seqR C x = some (bs.map D.bl) ∧ k (.bl (bs.any id)) C
theorem rl_any : RLD K (rAny K) dAny := by
  rintro xs ds G C H k Q w rs ⟨x, bs, rfl, hs, hk⟩ q
  cases rs with
  | cons r1 r2 =>
    cases r2
    obtain ⟨a, vs, rfl, h1, h2⟩ := w.seq r1 hs
    have := datAll_bls h2
    subst this
    exact ⟨a, bs, rfl, h1, q _ _ _ _ _ (Fr.refl ..) w (.bl _) hk⟩
def dAll : List D → CS → KD → Prop := fun ds C k => ∃ x, ∃ bs : List Bool, ds = [x] ∧ seqR C x = some (bs.map D.bl) ∧ k (.bl (bs.all id)) C
theorem rl_all : RLD K (rAll K) dAll := by
  rintro xs ds G C H k Q w rs ⟨x, bs, rfl, hs, hk⟩ q
  cases rs with
  | cons r1 r2 =>
    cases r2
    obtain ⟨a, vs, rfl, h1, h2⟩ := w.seq r1 hs
    have := datAll_bls h2
    subst this
    exact ⟨a, bs, rfl, h1, q _ _ _ _ _ (Fr.refl ..) w (.bl _) hk⟩
def dSum : List D → CS → KD → Prop := fun ds C k => ∃ x, ∃ ns : List Int, ds = [x] ∧ seqR C x = some (ns.map D.int) ∧ k (.int ns.sum) C
theorem rl_sum : RLD K (rSum K) dSum := by
  rintro xs ds G C H k Q w rs ⟨x, ns, rfl, hs, hk⟩ q
  cases rs with
  | cons r1 r2 =>
    cases r2
    obtain ⟨a, vs, rfl, h1, h2⟩ := w.seq r1 hs
    have := datAll_ints h2
    subst this
    exact ⟨a, ns, rfl, h1, q _ _ _ _ _ (Fr.refl ..) w (.int _) hk⟩
def dMinL : List D → CS → KD → Prop := fun ds C k => ∃ x, ∃ ns : List Int, ds = [x] ∧ seqR C x = some (ns.map D.int) ∧ 0 < ns.length ∧ ∀ m, m ∈ ns → (∀ y, y ∈ ns → m ≤ y) → k (.int m) C
theorem rl_minL : RLD K (rMin K) dMinL := by
  rintro xs ds G C H k Q w rs ⟨x, ns, rfl, hs, h0, hk⟩ q
  cases rs with
  | cons r1 r2 =>
    cases r2
    obtain ⟨a, vs, rfl, h1, h2⟩ := w.seq r1 hs
    have := datAll_ints h2
    subst this
    exact ⟨a, ns, rfl, h1, h0, fun m hm hy => q _ _ _ _ _ (Fr.refl ..) w (.int _) (hk m hm hy)⟩
/-- isinstance -/
def tyN (C : CS) : D → Option String
  | .non => some "NoneType"
  | .bl _ => some "bool"
  | .int _ => some "int"
  | .str _ => some "str"
  | .lst _ => some "list"
  | .slst _ => some "list"
  | .tup _ => some "tuple"
  | .own a => match C a with
    | some (.lst _) => some "list"
    | some (.dic _) => some "dict"
    | _ => none
  | _ => none
theorem sqL_ty {H : Hp} {a : Addr} {vs : List V} (h : SqL K H a vs) : TyX K H (.ref a) (.type "list") := by
  rcases h with (h | ⟨o, h⟩) | ⟨o, its, n, h, h1, _⟩
  · exact .base (.lst h)
  · exact .base (.frz h)
  · exact .kList h h1
theorem sqT_ty {H : Hp} {a : Addr} {vs : List V} (h : SqT K H a vs) : TyX K H (.ref a) (.type "tuple") := by
  rcases h with (h | ⟨o, h⟩) | ⟨o, its, n, h, h1, _⟩
  · exact .base (.tup h)
  · exact .fTuple h
  · exact .kTuple h h1
theorem tyN_ok {G H : Hp} {C : CS} {v : V} {d : D} {T : String} (w : Wld K G C H) (r : Dat K G v d) (e : tyN C d = some T) : TyX K H v (.type T) := by
  cases r with
  | non => simp [tyN] at e; subst e; exact .base .non
  | bl b => simp [tyN] at e; subst e; exact .base (.bl b)
  | int b => simp [tyN] at e; subst e; exact .base (.int b)
  | str b => simp [tyN] at e; subst e; exact .base (.str b)
  | lst a b => simp [tyN] at e; subst e; exact .base (.lst (w.ex _ _ a))
  | slst a b => simp [tyN] at e; subst e; exact sqL_ty (w.ex.seq a)
  | tup a b => simp [tyN] at e; subst e; exact sqT_ty (Same.sqT w.ex a)
  | own a =>
    unfold tyN at e
    cases q : C a with
    | none => simp [q] at e
    | some c =>
      obtain ⟨_, hc⟩ := w.cell a c q
      cases c with
      | lst ds => simp [q] at e; subst e; obtain ⟨vs, h1, _⟩ := hc; exact .base (.lst h1)
      | dic ds => simp [q] at e; subst e; obtain ⟨vs, h1, _⟩ := hc; exact .base (.dK h1)
      | ins _ _ _ => simp [q] at e
      | tbl _ _ => simp [q] at e
  | _ => simp [tyN] at e
def dIsi : List D → CS → KD → Prop := fun ds C k => ∃ x T U b, ds = [x, .opq (.ty U)] ∧ tyN C x = some T ∧ kitB T U = some b ∧ k (.bl b) C
theorem rl_isi : RLD K (rIsi K) dIsi := by
  rintro xs ds G C H k Q w rs ⟨x, T, U, b, rfl, ht, hb, hk⟩ q
  cases rs with
  | cons r1 r2 =>
    cases r2 with
    | cons r2 r3 =>
      cases r3; cases r2
      exact ⟨_, _, .type T, .type U, b, rfl, .ty U, tyN_ok w r1 ht, kit_ty hb, q _ _ _ _ _ (Fr.refl ..) w (.bl _) hk⟩
end
end DL
/-! DLh: the rules in the forms that a walk by syntax applies. -/
namespace DL
open PySem PySem.Spec PyProof.Rows L2

/-- the module leaves these built-in names alone -/
structure Zs (mg : Str → Option Value) : Prop where
  int : mg "int" = none
  bool : mg "bool" = none
  str : mg "str" = none
  list : mg "list" = none
  tuple : mg "tuple" = none
  len : mg "len" = none
  isi : mg "isinstance" = none
  abs : mg "abs" = none
  min : mg "min" = none
  max : mg "max" = none
  any : mg "any" = none
  all : mg "all" = none
  sum : mg "sum" = none
  range : mg "range" = none
  zip : mg "zip" = none
  enum : mg "enumerate" = none
  repr : mg "repr" = none
  sorted : mg "sorted" = none
  dict : mg "dict" = none
theorem bt_int : bootBuiltins "int" = some (.type "int") := by first | exact boot_int | exact PyProof.Rows.boot_int | decide +kernel
theorem bt_bool : bootBuiltins "bool" = some (.type "bool") := boot_bool
theorem bt_str : bootBuiltins "str" = some (.type "str") := boot_str
theorem bt_list : bootBuiltins "list" = some (.type "list") := boot_list
theorem bt_tuple : bootBuiltins "tuple" = some (.type "tuple") := by first | exact boot_tuple | exact PyProof.Rows.boot_tuple | decide +kernel
theorem bt_len : bootBuiltins "len" = some (.builtin "len") := PySem.boot_len
theorem bt_isi : bootBuiltins "isinstance" = some (.builtin "isinstance") := PyProof.Rows.boot_isinstance
theorem bt_abs : bootBuiltins "abs" = some (.builtin "abs") := boot_abs
theorem bt_min : bootBuiltins "min" = some (.builtin "min") := boot_min
theorem bt_max : bootBuiltins "max" = some (.builtin "max") := boot_max
theorem bt_any : bootBuiltins "any" = some (.builtin "any") := boot_any
theorem bt_all : bootBuiltins "all" = some (.builtin "all") := boot_all
theorem bt_sum : bootBuiltins "sum" = some (.builtin "sum") := boot_sum

/-- ** of ints of at most a thousand bits -/
def CPowW (i j : Int) : Prop := 0 ≤ j ∧ j ≤ 100 ∧ i.natAbs < 2 ^ 1000
theorem op_powW {X : Cx} : OpR X (binaryOp .Pow) (rI CPowW fun i j => .int (i ^ j.toNat)) := opI fun i j _ _ _ _ _ hc q => pow_int hc.1 (by
  obtain ⟨h0, h1, h2⟩ := hc
  have b : Builtin.Int.intBits i ≤ 1000 := by
    unfold Builtin.Int.intBits
    split
    · exact Nat.zero_le _
    · rename_i h
      have := (Nat.log2_lt (n := i.natAbs) (k := 1000) (by simpa using h)).mpr h2
      omega
  have : (Builtin.Int.intBits i : Int) * j ≤ 1000 * 100 := Int.mul_le_mul (by omega) h1 h0 (by decide)
  exact Int.le_trans this (by decide)) q
section
variable {X : Cx} {e a b : Expr} {es : List Expr} {env : DEnv} {C : CS} {k : KD} {pos p p1 p2 : Pos} {kb : Bool → CS → Prop}
theorem we_len (Z : Zs X.mg) (hg : Gl X "len") (h : WA X (e :: es) env C fun ds C1 => dLen ds C1 k) (he : starEach (e :: es) X.env = (false, eval e X.env) :: starEach es X.env := by rfl) (hpl : (backTo pos (starEach es X.env)).any (·.1) = false := by rfl) : WE X (.Call (.Name "len" p) (e :: es) [] pos) env C k := we_cb Z.len call_len rl_len hg bt_len h (he := he) (hpl := hpl)
theorem we_isi (Z : Zs X.mg) (hg : Gl X "isinstance") (h : WA X (e :: es) env C fun ds C1 => dIsi ds C1 k) (he : starEach (e :: es) X.env = (false, eval e X.env) :: starEach es X.env := by rfl) (hpl : (backTo pos (starEach es X.env)).any (·.1) = false := by rfl) : WE X (.Call (.Name "isinstance" p) (e :: es) [] pos) env C k := we_cb Z.isi call_isi rl_isi hg bt_isi h (he := he) (hpl := hpl)
theorem we_abs (Z : Zs X.mg) (hg : Gl X "abs") (h : WA X (e :: es) env C fun ds C1 => dInt1 (fun i => if i < 0 then -i else i) ds C1 k) (he : starEach (e :: es) X.env = (false, eval e X.env) :: starEach es X.env := by rfl) (hpl : (backTo pos (starEach es X.env)).any (·.1) = false := by rfl) : WE X (.Call (.Name "abs" p) (e :: es) [] pos) env C k := we_cb Z.abs call_abs rl_int1 hg bt_abs h (he := he) (hpl := hpl)
theorem we_max2 (hc : X.calm = true) (Z : Zs X.mg) (hg : Gl X "max") (h : WA X [a, b] env C fun ds C1 => dInt2 (fun i j => if j > i then j else i) ds C1 k) (he : starEach [a, b] X.env = (false, eval a X.env) :: starEach [b] X.env := by rfl) (hpl : (backTo pos (starEach [b] X.env)).any (·.1) = false := by rfl) : WE X (.Call (.Name "max" p) [a, b] [] pos) env C k := we_cb Z.max (call_max2 hc) rl_int2 hg bt_max h (he := he) (hpl := hpl)
theorem we_min2 (hc : X.calm = true) (Z : Zs X.mg) (hg : Gl X "min") (h : WA X [a, b] env C fun ds C1 => dInt2 (fun i j => if j < i then j else i) ds C1 k) (he : starEach [a, b] X.env = (false, eval a X.env) :: starEach [b] X.env := by rfl) (hpl : (backTo pos (starEach [b] X.env)).any (·.1) = false := by rfl) : WE X (.Call (.Name "min" p) [a, b] [] pos) env C k := we_cb Z.min (call_min2 hc) rl_int2 hg bt_min h (he := he) (hpl := hpl)
theorem we_minL (hc : X.calm = true) (Z : Zs X.mg) (hg : Gl X "min") (h : WA X [a] env C fun ds C1 => dMinL ds C1 k) (he : starEach [a] X.env = (false, eval a X.env) :: starEach [] X.env := by rfl) (hpl : (backTo pos (starEach [] X.env)).any (·.1) = false := by rfl) : WE X (.Call (.Name "min" p) [a] [] pos) env C k := we_cb Z.min (cr_min hc) rl_minL hg bt_min h (he := he) (hpl := hpl)
theorem we_any (hc : X.calm = true) (Z : Zs X.mg) (hg : Gl X "any") (h : WA X (e :: es) env C fun ds C1 => dAny ds C1 k) (he : starEach (e :: es) X.env = (false, eval e X.env) :: starEach es X.env := by rfl) (hpl : (backTo pos (starEach es X.env)).any (·.1) = false := by rfl) : WE X (.Call (.Name "any" p) (e :: es) [] pos) env C k := we_cb Z.any (cr_any hc) rl_any hg bt_any h (he := he) (hpl := hpl)
theorem we_all (hc : X.calm = true) (Z : Zs X.mg) (hg : Gl X "all") (h : WA X (e :: es) env C fun ds C1 => dAll ds C1 k) (he : starEach (e :: es) X.env = (false, eval e X.env) :: starEach es X.env := by rfl) (hpl : (backTo pos (starEach es X.env)).any (·.1) = false := by rfl) : WE X (.Call (.Name "all" p) (e :: es) [] pos) env C k := we_cb Z.all (cr_all hc) rl_all hg bt_all h (he := he) (hpl := hpl)
theorem we_sum (hc : X.calm = true) (Z : Zs X.mg) (hg : Gl X "sum") (h : WA X (e :: es) env C fun ds C1 => dSum ds C1 k) (he : starEach (e :: es) X.env = (false, eval e X.env) :: starEach es X.env := by rfl) (hpl : (backTo pos (starEach es X.env)).any (·.1) = false := by rfl) : WE X (.Call (.Name "sum" p) (e :: es) [] pos) env C k := we_cb Z.sum (cr_sum hc) rl_sum hg bt_sum h (he := he) (hpl := hpl)
theorem we_intC (Z : Zs X.mg) (hg : Gl X "int") (h : WA X (e :: es) env C fun ds C1 => dInt ds C1 k) (he : starEach (e :: es) X.env = (false, eval e X.env) :: starEach es X.env := by rfl) (hpl : (backTo pos (starEach es X.env)).any (·.1) = false := by rfl) : WE X (.Call (.Name "int" p) (e :: es) [] pos) env C k := we_ct Z.int call_int1 rl_int hg bt_int h (he := he) (hpl := hpl)
theorem we_strC (Z : Zs X.mg) (hg : Gl X "str") (h : WA X (e :: es) env C fun ds C1 => dStrInt ds C1 k) (he : starEach (e :: es) X.env = (false, eval e X.env) :: starEach es X.env := by rfl) (hpl : (backTo pos (starEach es X.env)).any (·.1) = false := by rfl) : WE X (.Call (.Name "str" p) (e :: es) [] pos) env C k := we_ct Z.str call_str_int rl_str hg bt_str h (he := he) (hpl := hpl)
theorem we_tupleC (Z : Zs X.mg) (hg : Gl X "tuple") (h : WA X (e :: es) env C fun ds C1 => dTuple ds C1 k) (he : starEach (e :: es) X.env = (false, eval e X.env) :: starEach es X.env := by rfl) (hpl : (backTo pos (starEach es X.env)).any (·.1) = false := by rfl) : WE X (.Call (.Name "tuple" p) (e :: es) [] pos) env C k := we_ct Z.tuple call_tuple_of rl_tuple hg bt_tuple h (he := he) (hpl := hpl)
theorem we_listC (Z : Zs X.mg) (hg : Gl X "list") (h : WA X (e :: es) env C fun ds C1 => dList ds C1 k) (he : starEach (e :: es) X.env = (false, eval e X.env) :: starEach es X.env := by rfl) (hpl : (backTo pos (starEach es X.env)).any (·.1) = false := by rfl) : WE X (.Call (.Name "list" p) (e :: es) [] pos) env C k := we_ct Z.list call_list_of rl_list hg bt_list h (he := he) (hpl := hpl)
theorem we_tyInt (Z : Zs X.mg) (hg : Gl X "int") (h : k (.opq (.ty "int")) C) : WE X (.Name "int" pos) env C k := we_bty Z.int hg bt_int h
theorem we_tyBool (Z : Zs X.mg) (hg : Gl X "bool") (h : k (.opq (.ty "bool")) C) : WE X (.Name "bool" pos) env C k := we_bty Z.bool hg bt_bool h
theorem we_tyStr (Z : Zs X.mg) (hg : Gl X "str") (h : k (.opq (.ty "str")) C) : WE X (.Name "str" pos) env C k := we_bty Z.str hg bt_str h
theorem we_tyList (Z : Zs X.mg) (hg : Gl X "list") (h : k (.opq (.ty "list")) C) : WE X (.Name "list" pos) env C k := we_bty Z.list hg bt_list h
theorem we_tyTuple (Z : Zs X.mg) (hg : Gl X "tuple") (h : k (.opq (.ty "tuple")) C) : WE X (.Name "tuple" pos) env C k := we_bty Z.tuple hg bt_tuple h

/-! operators by their sign -/
theorem we_add (h : WE X a env C fun x C1 => WE X b env C1 fun y C2 => dAdd x y C2 k) : WE X (.BinOp a .Add b pos) env C k := we_op op_addA r2_add h
theorem we_sub' (h : WE X a env C fun x C1 => WE X b env C1 fun y C2 => dI2 (fun i j => i - j) (fun _ _ => True) x y C2 k) : WE X (.BinOp a .Sub b pos) env C k := we_op op_sub r2_I0 h
theorem we_mul (h : WE X a env C fun x C1 => WE X b env C1 fun y C2 => dMul x y C2 k) : WE X (.BinOp a .Mult b pos) env C k := we_op op_mulA r2_mul h
theorem we_mod (h : WE X a env C fun x C1 => WE X b env C1 fun y C2 => dI2 (fun i j => i % j) (fun _ j => 0 < j) x y C2 k) : WE X (.BinOp a .Mod b pos) env C k := we_op op_mod r2_I h
theorem we_fdiv (h : WE X a env C fun x C1 => WE X b env C1 fun y C2 => dI2 (fun i j => i / j) CDiv x y C2 k) : WE X (.BinOp a .FloorDiv b pos) env C k := we_op op_fdiv r2_I h
theorem we_pow (h : WE X a env C fun x C1 => WE X b env C1 fun y C2 => dI2 (fun i j => i ^ j.toNat) CPowW x y C2 k) : WE X (.BinOp a .Pow b pos) env C k := we_op op_powW r2_I h
theorem we_neg (h : WE X a env C fun x C1 => ∃ i, x = .int i ∧ k (.int (-i)) C1) : WE X (.UnaryOp .USub a pos) env C k := we_un (p := fun x C k => ∃ i, x = .int i ∧ k (.int (-i)) C) un_neg (by
  rintro x d G C H k Q w r ⟨i, rfl, hk⟩ q
  cases r
  exact ⟨i, rfl, q _ _ _ _ _ (Fr.refl ..) w (.int _) hk⟩) h
theorem we_lt (h : WE X a env C fun x C1 => WE X b env C1 fun y C2 => dB2 (fun i j => decide (i < j)) x y C2 k) : WE X (.Compare a [.Lt] [b] pos) env C k := we_cmp op_lt r2_B h (nomark _)
theorem we_le (h : WE X a env C fun x C1 => WE X b env C1 fun y C2 => dB2 (fun i j => decide (i ≤ j)) x y C2 k) : WE X (.Compare a [.LtE] [b] pos) env C k := we_cmp op_le r2_B h (nomark _)
theorem we_gt (h : WE X a env C fun x C1 => WE X b env C1 fun y C2 => dB2 (fun i j => decide (j < i)) x y C2 k) : WE X (.Compare a [.Gt] [b] pos) env C k := we_cmp op_gt r2_B h (nomark _)
theorem we_ge (h : WE X a env C fun x C1 => WE X b env C1 fun y C2 => dB2 (fun i j => decide (j ≤ i)) x y C2 k) : WE X (.Compare a [.GtE] [b] pos) env C k := we_cmp op_ge r2_B h (nomark _)
theorem we_eq {m : Nat} (hr : Room m X.A) (h : WE X a env C fun x C1 => WE X b env C1 fun y C2 => dEq false x y C2 k) : WE X (.Compare a [.Eq] [b] pos) env C k := we_cmp (OpR.or (op_eqD hr.units) op_eq) r2_eq h (nomark _)
theorem we_ne {m : Nat} (hr : Room m X.A) (h : WE X a env C fun x C1 => WE X b env C1 fun y C2 => dEq true x y C2 k) : WE X (.Compare a [.NotEq] [b] pos) env C k := we_cmp (OpR.or (op_neD hr.units) op_ne) r2_ne h (nomark _)
theorem we_is (h : WE X a env C fun x C1 => WE X b env C1 fun y C2 => dIsN false x y C2 k) : WE X (.Compare a [.Is] [b] pos) env C k := we_cmp op_isN r2_isN h (nomark _)
theorem we_isnot (h : WE X a env C fun x C1 => WE X b env C1 fun y C2 => dIsN true x y C2 k) : WE X (.Compare a [.IsNot] [b] pos) env C k := we_cmp op_notN r2_notN h (nomark _)
theorem Room.u65 {m : Nat} {A : Around} (r : Room m A) : A.units + 65 < cLine := by have := r.un; omega
/-! ### a text in a tuple of texts -/
def dInT (neg : Bool) : OpD := fun x y C k => ∃ (z : Str) (zs : List Str), x = .str z ∧ y = .tup (zs.map D.str) ∧ k (.bl (if neg = true then !decide (z ∈ zs) else decide (z ∈ zs))) C
theorem inV_strs (z : Str) : ∀ zs : List Str, inV (.str z) (zs.map V.str) = decide (z ∈ zs)
  | [] => rfl
  | y :: zs => by
    unfold inV
    rw [List.map_cons, List.any_cons]
    have ih := inV_strs z zs
    unfold inV at ih
    rw [ih]
    by_cases h : y = z
    · subst h; simp [eqV]
    · have h' : ¬ z = y := fun e => h e.symm
      simp [eqV, h, h']
theorem flat_strs : ∀ zs : List Str, (zs.map V.str).all flatV = true
  | [] => rfl
  | y :: zs => by rw [List.map_cons, List.all_cons, flat_strs zs]; rfl
theorem r2_inT {K : PySem.W.Frag} : R2D K (rIn K false) (dInT false) := by
  rintro x y a b G C H k Q w da db ⟨z, zs, rfl, rfl, h⟩ q
  cases da
  obtain ⟨l, vs, rfl, h1, h2⟩ := w.tup db
  have := datAll_strs h2
  subst this
  refine ⟨l, _, rfl, .inr h1, rfl, flat_strs zs, ?_⟩
  rw [if_neg (by decide), inV_strs]
  exact q _ _ _ _ _ (Fr.refl ..) w (.bl _) h
theorem r2_ninT {K : PySem.W.Frag} : R2D K (rIn K true) (dInT true) := by
  rintro x y a b G C H k Q w da db ⟨z, zs, rfl, rfl, h⟩ q
  cases da
  obtain ⟨l, vs, rfl, h1, h2⟩ := w.tup db
  have := datAll_strs h2
  subst this
  refine ⟨l, _, rfl, .inr h1, rfl, flat_strs zs, ?_⟩
  rw [if_pos rfl, inV_strs]
  exact q _ _ _ _ _ (Fr.refl ..) w (.bl _) h
def dIn (neg : Bool) : OpD := fun x y C k => match y with
  | .str _ => dInS neg x y C k
  | .tup _ => dInT neg x y C k
  | _ => dInL neg x y C k
theorem r2_in {K : PySem.W.Frag} : R2D K (fun x y H Q => rInD K x y H Q ∨ (∃ (c : Nat) (z : Str), x = .str ⟨#[c]⟩ ∧ y = .str z ∧ Q (.bl (decide (c ∈ z.cps.toList))) H) ∨ rIn K false x y H Q) (dIn false) := by
  intro x y a b G C H k Q w da db h q
  unfold dIn at h
  split at h
  · exact .inr (.inl (r2_inS (K := K) x y a _ G C H k Q w da db h q))
  · exact .inr (.inr (r2_inT x y a _ G C H k Q w da db h q))
  · exact .inl (r2_inL x y a _ G C H k Q w da db h q)
theorem r2_nin {K : PySem.W.Frag} : R2D K (fun x y H Q => rNotInD K x y H Q ∨ (∃ (c : Nat) (z : Str), x = .str ⟨#[c]⟩ ∧ y = .str z ∧ Q (.bl (!decide (c ∈ z.cps.toList))) H) ∨ rIn K true x y H Q) (dIn true) := by
  intro x y a b G C H k Q w da db h q
  unfold dIn at h
  split at h
  · exact .inr (.inl (r2_ninS (K := K) x y a _ G C H k Q w da db h q))
  · exact .inr (.inr (r2_ninT x y a _ G C H k Q w da db h q))
  · exact .inl (r2_ninL x y a _ G C H k Q w da db h q)
theorem we_in {m : Nat} (hr : Room m X.A) (h : WE X a env C fun x C1 => WE X b env C1 fun y C2 => dIn false x y C2 k) (hm : behindInMarks .In b = false := by rfl) : WE X (.Compare a [.In] [b] pos) env C k := we_cmp (OpR.or (op_inD (Room.u65 hr)) (OpR.or op_in_sign op_in_seq)) r2_in h hm
theorem we_nin {m : Nat} (hr : Room m X.A) (h : WE X a env C fun x C1 => WE X b env C1 fun y C2 => dIn true x y C2 k) (hm : behindInMarks .NotIn b = false := by rfl) : WE X (.Compare a [.NotIn] [b] pos) env C k := we_cmp (OpR.or (op_notInD (Room.u65 hr)) (OpR.or op_notIn_sign op_notIn_seq)) r2_nin h hm
abbrev tb (kb : Bool → CS → Prop) : KD := fun d C => ∃ t, d = .bl t ∧ kb t C
theorem wt_lt (h : WE X a env C fun x C1 => WE X b env C1 fun y C2 => dB2 (fun i j => decide (i < j)) x y C2 (tb kb)) : WT X (.Compare a [.Lt] [b] pos) env C kb := wt_cmp op_lt r2_B h (nomark _)
theorem wt_le (h : WE X a env C fun x C1 => WE X b env C1 fun y C2 => dB2 (fun i j => decide (i ≤ j)) x y C2 (tb kb)) : WT X (.Compare a [.LtE] [b] pos) env C kb := wt_cmp op_le r2_B h (nomark _)
theorem wt_gt (h : WE X a env C fun x C1 => WE X b env C1 fun y C2 => dB2 (fun i j => decide (j < i)) x y C2 (tb kb)) : WT X (.Compare a [.Gt] [b] pos) env C kb := wt_cmp op_gt r2_B h (nomark _)
theorem wt_ge (h : WE X a env C fun x C1 => WE X b env C1 fun y C2 => dB2 (fun i j => decide (j ≤ i)) x y C2 (tb kb)) : WT X (.Compare a [.GtE] [b] pos) env C kb := wt_cmp op_ge r2_B h (nomark _)
theorem wt_eq {m : Nat} (hr : Room m X.A) (h : WE X a env C fun x C1 => WE X b env C1 fun y C2 => dEq false x y C2 (tb kb)) : WT X (.Compare a [.Eq] [b] pos) env C kb := wt_cmp (OpR.or (op_eqD hr.units) op_eq) r2_eq h (nomark _)
theorem wt_ne {m : Nat} (hr : Room m X.A) (h : WE X a env C fun x C1 => WE X b env C1 fun y C2 => dEq true x y C2 (tb kb)) : WT X (.Compare a [.NotEq] [b] pos) env C kb := wt_cmp (OpR.or (op_neD hr.units) op_ne) r2_ne h (nomark _)
theorem wt_is (h : WE X a env C fun x C1 => WE X b env C1 fun y C2 => dIsN false x y C2 (tb kb)) : WT X (.Compare a [.Is] [b] pos) env C kb := wt_cmp op_isN r2_isN h (nomark _)
theorem wt_isnot (h : WE X a env C fun x C1 => WE X b env C1 fun y C2 => dIsN true x y C2 (tb kb)) : WT X (.Compare a [.IsNot] [b] pos) env C kb := wt_cmp op_notN r2_notN h (nomark _)
theorem wt_in {m : Nat} (hr : Room m X.A) (h : WE X a env C fun x C1 => WE X b env C1 fun y C2 => dIn false x y C2 (tb kb)) (hm : behindInMarks .In b = false := by rfl) : WT X (.Compare a [.In] [b] pos) env C kb := wt_cmp (OpR.or (op_inD (Room.u65 hr)) (OpR.or op_in_sign op_in_seq)) r2_in h hm
theorem wt_nin {m : Nat} (hr : Room m X.A) (h : WE X a env C fun x C1 => WE X b env C1 fun y C2 => dIn true x y C2 (tb kb)) (hm : behindInMarks .NotIn b = false := by rfl) : WT X (.Compare a [.NotIn] [b] pos) env C kb := wt_cmp (OpR.or (op_notInD (Room.u65 hr)) (OpR.or op_notIn_sign op_notIn_seq)) r2_nin h hm
end

/-! ### names by place -/
/-- a name's value, found by syntax -/
inductive Get : List Str → Str → DEnv → D → Prop where
  | here (x : Str) (N : List Str) (d : D) (l : DEnv) : Get (x :: N) x (some d :: l) d
  | there (y : Str) (o : Option D) {x : Str} {N : List Str} {l : DEnv} {d : D} (h : Get N x l d) : Get (y :: N) x (o :: l) d
/-- the places behind a store -/
inductive Put : List Str → Str → DEnv → (D → DEnv) → Prop where
  | here (x : Str) (N : List Str) (o : Option D) (l : DEnv) : Put (x :: N) x (o :: l) fun d => some d :: l
  | there (y : Str) (o : Option D) {x : Str} {N : List Str} {l : DEnv} {f : D → DEnv} (h : Put N x l f) : Put (y :: N) x (o :: l) fun d => o :: f d
theorem Get.get {N : List Str} {x : Str} {env : DEnv} {d : D} (h : Get N x env d) : ∃ i : Nat, N[i]? = some x ∧ env[i]? = some (some d) := by
  induction h with
  | here => exact ⟨0, rfl, rfl⟩
  | there y o _ ih => obtain ⟨i, h1, h2⟩ := ih; exact ⟨i + 1, by simpa using h1, by simpa using h2⟩
theorem Put.set {N : List Str} {x : Str} {env : DEnv} {f : D → DEnv} (h : Put N x env f) : ∃ i : Nat, N[i]? = some x ∧ (∀ d, env.set i (some d) = f d) ∧ ∀ d, (wipeD env [i]).set i (some d) = f d := by
  induction h with
  | here => exact ⟨0, rfl, fun _ => rfl, fun _ => rfl⟩
  | there y o _ ih =>
    obtain ⟨i, h1, h2, h3⟩ := ih
    refine ⟨i + 1, by simpa using h1, fun d => by simpa using h2 d, fun d => ?_⟩
    have := h3 d
    simp only [wipeD] at this ⊢
    simpa using this
/-- x stands in a written list -/
inductive Mem : Str → List Str → Prop where
  | here (x : Str) (l : List Str) : Mem x (x :: l)
  | there (y : Str) {x : Str} {l : List Str} (h : Mem x l) : Mem x (y :: l)
theorem Mem.mem {x : Str} {l : List Str} (h : Mem x l) : x ∈ l := by
  induction h with
  | here => exact List.mem_cons_self
  | there y _ ih => exact List.mem_cons_of_mem _ ih
/-- a context's own names: by place; those that are read -/
structure Nms (X : Cx) (N M : List Str) : Prop where
  n : X.N = N
  nd : X.N.Nodup
  vis : ∀ y ∈ M, Vis X.env.scope y
  ndb : ∀ y ∈ M, (y == ("__debug__" : Str)) = false
  ncd : ∀ y ∈ M, (y == ("__classdict__" : Str)) = false
/-- .. those that may be stored -/
structure Sts (X : Cx) (N M : List Str) : Prop where
  n : X.N = N
  nd : X.N.Nodup
  loc : ∀ y ∈ M, Loc X.env.scope y
  fn : ∀ y ∈ M, X.fn y = true ∨ X.env.scope.names.lookup y = some .local
section
variable {X : Cx} {e : Expr} {env : DEnv} {C : CS} {k : KD} {pos pos' : Pos} {E : DEnds} {N M : List Str} {i : Nat} {x : Str} {d : D} {f : D → DEnv}
theorem we_nm (B : Nms X N M) (hm' : Mem x M) (hi : Get N x env d) (h : k d C) : WE X (.Name x pos) env C k := by
  obtain ⟨i, h1, h2⟩ := hi.get
  have hm : x ∈ M := hm'.mem
  exact we_var (by rw [B.n]; exact h1) (B.vis x hm) h2 h (B.ndb x hm) (B.ncd x hm)
theorem ws_nm (B : Sts X N M) (hm' : Mem x M) (hi : Put N x env f) (h : WE X e env C fun d C1 => E.nx (f d) C1) (hs : swapsWith e (some (.Name x pos')) pos.line X.env = pure false := by rfl) : WS X (.Assign [.Name x pos'] e pos) env C E := by
  obtain ⟨i, h1, h2, _⟩ := hi.set
  have hm : x ∈ M := hm'.mem
  exact ws_set (i := i) B.nd (by rw [B.n]; exact h1) (B.loc x hm) (h.imp fun d C' z => by rw [h2]; exact z) hs (B.fn x hm)
theorem wg_nm {kE : DEnv → CS → Prop} (B : Sts X N M) (hm' : Mem x M) (hi : Put N x env f) (h : kE (f d) C) : WG X (.Name x pos) d env C kE := by
  obtain ⟨i, h1, h2, _⟩ := hi.set
  have hm : x ∈ M := hm'.mem
  exact wg_name (i := i) B.nd (by rw [B.n]; exact h1) (B.loc x hm) (by rw [h2]; exact h) (B.fn x hm)
theorem ws_augNm {op : Operator} {ti : TIp} {p : OpD} (B : Sts X N M) (hm' : Mem x M) (hg : Get N x env d) (hi : Put N x env f) (ho : PIp X op ti) (hr : RID X.K ti p) (h : WE X e env C fun y C1 => p d y C1 fun z C2 => E.nx (f z) C2) : WS X (.AugAssign (.Name x pos') op e pos) env C E := by
  obtain ⟨i, h1, h2, _⟩ := hi.set
  obtain ⟨j, h3, h4⟩ := hg.get
  have hm : x ∈ M := hm'.mem
  have nd := B.nd
  rw [B.n] at nd
  have hij : i = j := nodup_ix nd h1 h3
  subst hij
  exact ws_aug (i := i) B.nd (by rw [B.n]; exact h1) (B.loc x hm) ho hr h4 (by simpa only [h2] using h) (B.fn x hm)
theorem ws_augAdd (B : Sts X N M) (hm' : Mem x M) (hg : Get N x env d) (hi : Put N x env f) (h : WE X e env C fun y C1 => dI2 (fun i j => i + j) (fun _ _ => True) d y C1 fun z C2 => E.nx (f z) C2) : WS X (.AugAssign (.Name x pos') .Add e pos) env C E :=
  ws_augNm B hm' hg hi ip_add (p := dI2 (fun i j => i + j) fun _ _ => True) (by
    rintro x y a b G C H k Q w da db ⟨i, j, rfl, rfl, _, hk⟩ q
    cases da; cases db
    exact ⟨i, j, rfl, rfl, q _ _ _ _ _ (Fr.refl ..) w (.int _) hk⟩) h
/-- the globals that a context reads -/
structure Gls (X : Cx) (gs : List Str) : Prop where
  gl : ∀ y ∈ gs, Gl X y
end
theorem Gls.at {X : Cx} {gs : List Str} {x : Str} (B : Gls X gs) (h : Mem x gs) : Gl X x := B.gl x h.mem

/-- looks at a scope, by computation -/
def locC (sc : Scope) (N : List Str) : Bool := N.all fun y => (sc.names.lookup y == some .local || sc.names.lookup y == some .cell) && !(y == ("__debug__" : Str)) && !(y == ("__classdict__" : Str))
def visC (sc : Scope) (N : List Str) : Bool := N.all fun y => (sc.names.lookup y == some .local || sc.names.lookup y == some .cell || sc.names.lookup y == some .free) && !(y == ("__debug__" : Str)) && !(y == ("__classdict__" : Str))
def onlyC (sc : Scope) (N : List Str) : Bool := N.all fun y => sc.names.lookup y == some .local
def glC (sc : Scope) (gs : List Str) : Bool := gs.all fun y => sc.names.lookup y == some .globalImplicit
theorem nk_eq {a b : Option NameKind} (h : (a == b) = true) : a = b := by
  cases a <;> cases b <;> first | rfl | (rename_i x y; cases x <;> cases y <;> first | rfl | (exact absurd h (by decide))) | (exact absurd h (by decide)) | (rename_i x; cases x <;> exact absurd h (by decide))
theorem nms_of {X : Cx} {N M : List Str} {sc : Scope} (hn : X.N = N) (hs : X.env.scope = sc) (nd : X.N.Nodup) (h : visC sc M = true) : Nms X N M := by
  unfold visC at h
  rw [List.all_eq_true] at h
  refine ⟨hn, nd, fun y hy => ?_, fun y hy => ?_, fun y hy => ?_⟩
  · have q := h y hy
    simp only [Bool.and_eq_true, Bool.or_eq_true] at q
    rw [hs]
    rcases q.1.1 with (q | q) | q
    · exact .inl (nk_eq q)
    · exact .inr (.inl (nk_eq q))
    · exact .inr (.inr (nk_eq q))
  · have q := h y hy
    simp only [Bool.and_eq_true, Bool.not_eq_true'] at q
    exact q.1.2
  · have q := h y hy
    simp only [Bool.and_eq_true, Bool.not_eq_true'] at q
    exact q.2
theorem sts_of {X : Cx} {N M : List Str} {sc : Scope} (hn : X.N = N) (hs : X.env.scope = sc) (nd : X.N.Nodup) (h : locC sc M = true) (hf : ∀ y, X.fn y = true) : Sts X N M := by
  unfold locC at h
  rw [List.all_eq_true] at h
  refine ⟨hn, nd, fun y hy => ?_, fun y _ => .inl (hf y)⟩
  have q := h y hy
  simp only [Bool.and_eq_true, Bool.or_eq_true] at q
  rw [hs]
  rcases q.1.1 with q | q
  · exact .inl (nk_eq q)
  · exact .inr (nk_eq q)
theorem gls_of {X : Cx} {gs : List Str} {sc : Scope} (hs : X.env.scope = sc) (h : glC sc gs = true) : Gls X gs := by
  unfold glC at h
  rw [List.all_eq_true] at h
  refine ⟨fun y hy => ?_⟩
  show X.env.kindOf y = some .globalImplicit
  unfold Env.kindOf
  rw [hs]
  exact nk_eq (h y hy)
end DL
/-! DLi: small steps by data. -/
namespace DL
open PySem PySem.Spec PyProof.Rows L2

def D.isIntB : D → Bool
  | .int _ => true
  | .bl _ => true
  | _ => false
def D.isBl : D → Bool
  | .bl _ => true
  | _ => false
def D.isStr : D → Bool
  | .str _ => true
  | _ => false
def D.isLst : D → Bool
  | .lst _ => true
  | .slst _ => true
  | _ => false
def D.isTup : D → Bool
  | .tup _ => true
  | _ => false
def D.isNon : D → Bool
  | .non => true
  | _ => false
/-- data whose kind shows -/
def D.kind : D → Bool
  | .non | .bl _ | .int _ | .str _ | .lst _ | .slst _ | .tup _ => true
  | _ => false
theorem kind_of_py {x : D} (h : x.isPy = true) : x.kind = true := by cases x <;> first | rfl | (simp [D.isPy] at h)
section
variable {C : CS} {k : KD} {kb : Bool → CS → Prop} {x y : D} {i j : Int} {b : Bool} {xs ys : List D} {s t : Str} {a : Addr}
theorem isi_int (h : x.kind = true) (q : k (.bl x.isIntB) C) : dIsi [x, .opq (.ty "int")] C k := by
  cases x <;> first | exact ⟨_, _, _, true, rfl, rfl, by decide +kernel, q⟩ | exact ⟨_, _, _, false, rfl, rfl, by decide +kernel, q⟩ | (simp [D.kind] at h; done)
theorem isi_bool (h : x.kind = true) (q : k (.bl x.isBl) C) : dIsi [x, .opq (.ty "bool")] C k := by
  cases x <;> first | exact ⟨_, _, _, true, rfl, rfl, by decide +kernel, q⟩ | exact ⟨_, _, _, false, rfl, rfl, by decide +kernel, q⟩ | (simp [D.kind] at h; done)
theorem isi_str (h : x.kind = true) (q : k (.bl x.isStr) C) : dIsi [x, .opq (.ty "str")] C k := by
  cases x <;> first | exact ⟨_, _, _, true, rfl, rfl, by decide +kernel, q⟩ | exact ⟨_, _, _, false, rfl, rfl, by decide +kernel, q⟩ | (simp [D.kind] at h; done)
theorem isi_list (h : x.kind = true) (q : k (.bl x.isLst) C) : dIsi [x, .opq (.ty "list")] C k := by
  cases x <;> first | exact ⟨_, _, _, true, rfl, rfl, by decide +kernel, q⟩ | exact ⟨_, _, _, false, rfl, rfl, by decide +kernel, q⟩ | (simp [D.kind] at h; done)
theorem isi_tuple (h : x.kind = true) (q : k (.bl x.isTup) C) : dIsi [x, .opq (.ty "tuple")] C k := by
  cases x <;> first | exact ⟨_, _, _, true, rfl, rfl, by decide +kernel, q⟩ | exact ⟨_, _, _, false, rfl, rfl, by decide +kernel, q⟩ | (simp [D.kind] at h; done)
theorem i2_ok {f : Int → Int → Int} {P : Int → Int → Prop} (h : P i j) (q : k (.int (f i j)) C) : dI2 f P (.int i) (.int j) C k := ⟨i, j, rfl, rfl, h, q⟩
theorem b2_ok {f : Int → Int → Bool} (q : k (.bl (f i j)) C) : dB2 f (.int i) (.int j) C k := ⟨i, j, rfl, rfl, q⟩
theorem add_ii (q : k (.int (i + j)) C) : dAdd (.int i) (.int j) C k := q
theorem add_ss (h : s.length + t.length ≤ sizeLine) (q : k (.str (s ++ t)) C) : dAdd (.str s) (.str t) C k := ⟨h, q⟩
theorem add_tt (h : xs.length + ys.length ≤ sizeLine) (q : k (.tup (xs ++ ys)) C) : dAdd (.tup xs) (.tup ys) C k := ⟨h, q⟩
theorem mul_ii (h : CMul i j) (q : k (.int (i * j)) C) : dMul (.int i) (.int j) C k := ⟨h, q⟩
theorem tb_ok (q : kb b C) : tb kb (.bl b) C := ⟨b, rfl, q⟩
theorem len_tup (q : k (.int (xs.length : Nat)) C) : dLen [.tup xs] C k := ⟨_, _, rfl, rfl, q⟩
theorem len_str (h : s.length ≤ sizeLine) (q : k (.int (s.length : Nat)) C) : dLen [.str s] C k := ⟨_, _, rfl, ⟨h, rfl⟩, q⟩
theorem len_fr (q : k (.int (xs.length : Nat)) C) : dLen [.lst xs] C k := ⟨_, _, rfl, ⟨xs, rfl, rfl⟩, q⟩
theorem len_sl (q : k (.int (xs.length : Nat)) C) : dLen [.slst xs] C k := ⟨_, _, rfl, ⟨xs, rfl, rfl⟩, q⟩
theorem len_own (h : C a = some (.lst xs)) (q : k (.int (xs.length : Nat)) C) : dLen [.own a] C k := ⟨_, _, rfl, ⟨xs, seqR_own h, rfl⟩, q⟩
theorem ix_t {d : D} (h : atI xs i = some d) (q : k d C) : dIx (.tup xs) (.int i) C k := ⟨d, h, q⟩
theorem ix_f {d : D} (h : atI xs i = some d) (q : k d C) : dIx (.lst xs) (.int i) C k := ⟨xs, d, rfl, h, q⟩
theorem ix_s {d : D} (h : atI xs i = some d) (q : k d C) : dIx (.slst xs) (.int i) C k := ⟨xs, d, rfl, h, q⟩
theorem ix_o {d : D} (hc : C a = some (.lst xs)) (h : atI xs i = some d) (q : k d C) : dIx (.own a) (.int i) C k := ⟨xs, d, seqR_own hc, h, q⟩
theorem ix_z {c : Nat} (hl : s.length ≤ sizeLine) (h : atI s.cps.toList i = some c) (q : k (.str ⟨#[c]⟩) C) : dIx (.str s) (.int i) C k := ⟨hl, c, h, q⟩
theorem sl_t {lo hi : Option Int} (q : k (.tup (cutD xs lo hi)) C) : dSl (.tup xs) lo hi C k := q
theorem sl_z {lo hi : Option Int} (hl : s.length ≤ sizeLine) (q : k (.str (cutS s lo hi)) C) : dSl (.str s) lo hi C k := ⟨hl, q⟩
theorem sl_f {lo hi : Option Int} (q : ∀ p, C p = none → k (.own p) (put C p (.lst (cutD xs lo hi)))) : dSl (.lst xs) lo hi C k := ⟨xs, rfl, q⟩
theorem sl_o {lo hi : Option Int} (hc : C a = some (.lst xs)) (q : ∀ p, C p = none → k (.own p) (put C p (.lst (cutD xs lo hi)))) : dSl (.own a) lo hi C k := ⟨xs, seqR_own hc, q⟩
theorem isn_k (h : x.kind = true) (q : k (.bl x.isNon) C) : dIsN false x .non C k := by
  refine ⟨rfl, ?_⟩
  cases x <;> first | exact q | (simp [D.kind] at h)
theorem nisn_k (h : x.kind = true) (q : k (.bl (!x.isNon)) C) : dIsN true x .non C k := by
  refine ⟨rfl, ?_⟩
  cases x <;> first | exact q | (simp [D.kind] at h)
theorem int1_ok {f : Int → Int} (q : k (.int (f i)) C) : dInt1 f [.int i] C k := ⟨i, rfl, q⟩
theorem int2_ok {f : Int → Int → Int} (q : k (.int (f i j)) C) : dInt2 f [.int i, .int j] C k := ⟨i, j, rfl, q⟩
theorem int_i (q : k (.int i) C) : dInt [.int i] C k := .inl ⟨i, rfl, q⟩
theorem int_b (q : k (.int (if b then 1 else 0)) C) : dInt [.bl b] C k := .inr ⟨b, rfl, q⟩
theorem ins_c {c : Nat} (q : k (.bl (decide (c ∈ s.cps.toList))) C) : dIn false (.str ⟨#[c]⟩) (.str s) C k := ⟨c, s, rfl, rfl, q⟩
theorem tup_t (q : k (.tup xs) C) : dTuple [.tup xs] C k := ⟨_, rfl, q⟩
theorem tup_f (q : k (.tup xs) C) : dTuple [.lst xs] C k := ⟨_, rfl, xs, rfl, q⟩
theorem tup_o (hc : C a = some (.lst xs)) (q : k (.tup xs) C) : dTuple [.own a] C k := ⟨_, rfl, xs, seqR_own hc, q⟩
/-- equality of data -/
def D.ok (x : D) : Bool := x.isPy && SeqAt.shaped x.py
theorem eq_ok (hx : x.ok = true) (hy : y.ok = true) (q : k (.bl (PyData.eqv x.py y.py)) C) : dEq false x y C k := by
  unfold D.ok at hx hy
  rw [Bool.and_eq_true] at hx hy
  refine .inl ⟨x.py, y.py, ?_, ?_, hx.2, hy.2, q⟩
  · cases x <;> first | (unfold pyC; simp only [hx.1]; rfl) | (simp [D.isPy] at hx)
  · cases y <;> first | (unfold pyC; simp only [hy.1]; rfl) | (simp [D.isPy] at hy)
theorem ne_ok (hx : x.ok = true) (hy : y.ok = true) (q : k (.bl (!PyData.eqv x.py y.py)) C) : dEq true x y C k := by
  unfold D.ok at hx hy
  rw [Bool.and_eq_true] at hx hy
  refine .inl ⟨x.py, y.py, ?_, ?_, hx.2, hy.2, q⟩
  · cases x <;> first | (unfold pyC; simp only [hx.1]; rfl) | (simp [D.isPy] at hx)
  · cases y <;> first | (unfold pyC; simp only [hy.1]; rfl) | (simp [D.isPy] at hy)
theorem eq_sS (q : k (.bl (s == t)) C) : dEq false (.str s) (.str t) C k := .inr ⟨s, t, rfl, rfl, q⟩
theorem eq_ii (q : k (.bl (i == j)) C) : dEq false (.int i) (.int j) C k := .inl ⟨.int i, .int j, rfl, rfl, rfl, rfl, by simpa [PyData.eqv] using q⟩
theorem ne_ii (q : k (.bl (!(i == j))) C) : dEq true (.int i) (.int j) C k := .inl ⟨.int i, .int j, rfl, rfl, rfl, rfl, by simpa [PyData.eqv] using q⟩
end
end DL
namespace DL
theorem and_T {A B : Prop} (a : A) : (true = true → A) ∧ (true = false → B) := ⟨fun _ => a, fun h => Bool.noConfusion h⟩
theorem and_F {A B : Prop} (b : B) : (false = true → A) ∧ (false = false → B) := ⟨fun h => Bool.noConfusion h, fun _ => b⟩
theorem and_S {b : Bool} {A B : Prop} (h1 : b = true → A) (h2 : b = false → B) : (b = true → A) ∧ (b = false → B) := ⟨h1, h2⟩
theorem ex_bl {b : Bool} {A : Bool → Prop} (h : A b) : ∃ t, D.bl b = D.bl t ∧ A t := ⟨b, rfl, h⟩
theorem ex_int {i : Int} {A : Int → Prop} (h : A i) : ∃ t, D.int i = D.int t ∧ A t := ⟨i, rfl, h⟩
end DL
/-! DLj: comprehensions by names. -/
namespace DL
open PySem PySem.Spec PyProof.Rows L2

/-- a def's context -/
structure Dfc (X : Cx) (N : List Str) (dsc : Scope) : Prop where
  n : X.N = N
  nd : X.N.Nodup
  sc : X.env.scope = dsc
  calm : X.calm = true
def LcB (X : Cx) (elt : Expr) (ifs : List Expr) (scope : Scope) (N M gs : List Str) (f : D → DEnv) (xs : List D) (Pc : CS → Prop) (C1 : CS) (k : KD) : Prop := ∃ Iv : Nat → List D → CS → Prop, Iv 0 [] C1 ∧ (∀ j acc C, Iv j acc C → Pc C) ∧
  (∀ j d acc C, xs[j]? = some d → Iv j acc C → ∀ X', Blk X scope X' → Nms X' N M → Gls X' gs → WIf X' ifs (f d) C fun t C3 => (t = true → ∀ X', Blk X scope X' → Nms X' N M → Gls X' gs → WE X' elt (f d) C3 fun y C4 => acc.length < sizeLine ∧ Iv (j + 1) (acc ++ [y]) C4) ∧ (t = false → Iv (j + 1) acc C3)) ∧
  (∀ acc C, Iv xs.length acc C → ∀ p, C p = none → k (.own p) (put C p (.lst acc)))
section
variable {X : Cx} {elt iter : Expr} {ifs : List Expr} {scope dsc : Scope} {env : DEnv} {C C1 : CS} {k : KD} {pos px : Pos} {E : DEnds} {N M gs : List Str} {x : Str} {f : D → DEnv} {xs : List D} {Pc : CS → Prop}
theorem blk_nms (D0 : Dfc X N dsc) (hv : visC (relS scope dsc) M = true) : ∀ X', Blk X scope X' → Nms X' N M := by
  rintro X' ⟨s, H, Ca, cl, fp, rfl⟩
  exact nms_of (sc := relS scope dsc) D0.n (by rw [← D0.sc]; rfl) D0.nd hv
theorem blk_gls (D0 : Dfc X N dsc) (hg : glC (relS scope dsc) gs = true) : ∀ X', Blk X scope X' → Gls X' gs := by
  rintro X' ⟨s, H, Ca, cl, fp, rfl⟩
  exact gls_of (sc := relS scope dsc) (by rw [← D0.sc]; rfl) hg
theorem lcB_I (D0 : Dfc X N dsc) (hP : Put N x env f) (hv : visC (relS scope dsc) M = true) (hg : glC (relS scope dsc) gs = true) (h : LcB X elt ifs scope N M gs f xs Pc C1 k) : ∃ i, N[i]? = some x ∧ LcI X elt ifs scope [i] (gName i) env xs Pc C1 k := by
  obtain ⟨i, h1, h2, h3⟩ := hP.set
  refine ⟨i, h1, ?_⟩
  obtain ⟨Iv, i0, hp, turn, done⟩ := h
  refine ⟨Iv, i0, hp, fun j d acc C hd hi => gw_name (List.mem_singleton.mpr rfl) ?_, done⟩
  rw [h3]
  exact fun X' hX => WIf.imp (turn j d acc C hd hi X' hX (blk_nms D0 hv X' hX) (blk_gls D0 hg X' hX)) fun t C3 z => ⟨fun ht X'' hX'' => z.1 ht X'' hX'' (blk_nms D0 hv X'' hX'') (blk_gls D0 hg X'' hX''), z.2⟩
theorem idxOf_of {α : Type} [BEq α] [LawfulBEq α] {l : List α} (nd : l.Nodup) {i : Nat} {x : α} (h : l[i]? = some x) : l.idxOf x = i := by
  obtain ⟨hi, rfl⟩ := List.getElem?_eq_some_iff.mp h
  exact nd.idxOf_getElem i hi
theorem lc_own (D0 : Dfc X N dsc) {i : Nat} (h1 : N[i]? = some x) (ok : blkC N dsc scope [(x, N.idxOf x)] = true) : BlkOk X.N X.env.scope scope [(x, i)] := by
  have nd : N.Nodup := by rw [← D0.n]; exact D0.nd
  rw [idxOf_of nd h1] at ok
  rw [D0.n, D0.sc]
  exact blkOk_by ok
theorem lc_pg (D0 : Dfc X N dsc) {i : Nat} (h1 : N[i]? = some x) (hx : onlyC (relS scope dsc) [x] = true) (s : Shared) (H : Hp) (Ca : Addr) (cl : List (Str × Addr)) (fp : List Addr) : PG (X.blk s H scope (compEnvC scope cl Ca X.env) fp) (.Name x px) (gName i) := by
  have e : (relS scope dsc).names.lookup x = some .local := by
    unfold onlyC at hx
    simp only [List.all_cons, List.all_nil, Bool.and_true] at hx
    exact nk_eq hx
  have e2 : (X.blk s H scope (compEnvC scope cl Ca X.env) fp).env.scope.names.lookup x = some .local := by
    have : (X.blk s H scope (compEnvC scope cl Ca X.env) fp).env.scope = relS scope dsc := by rw [← D0.sc]; rfl
    rw [this]; exact e
  exact pg_name D0.nd (by rw [show (X.blk s H scope (compEnvC scope cl Ca X.env) fp).N = N from D0.n]; exact h1) (.inl e2) (.inr e2)
theorem lc1 (M gs : List Str) (D0 : Dfc X N dsc) (hP : Put N x env f) (ok : blkC N dsc scope [(x, N.idxOf x)] = true) (hv : visC (relS scope dsc) M = true) (hg : glC (relS scope dsc) gs = true) (hx : onlyC (relS scope dsc) [x] = true)
    (h : WI X (.Name x px) iter env C fun xs Pc C1 => LcB X elt ifs scope N M gs f xs Pc C1 k) (hs : ∀ x, foldedSetIterable iter X.env x = pure x := by intro _; rfl) : WE X (.ListComp elt [⟨.Name x px, iter, ifs, 0⟩] scope pos) env C k := by
  obtain ⟨i, h1, _⟩ := hP.set
  have nd : N.Nodup := by rw [← D0.n]; exact D0.nd
  refine we_lc [(x, i)] D0.calm D0.nd (lc_own D0 h1 ok) (lc_pg D0 h1 hx) ?_ hs
  obtain ⟨wi, hi, hw⟩ := h
  refine ⟨wi, hi, fun G σ H R w er q => hw G σ H R w er fun J G' C' H' xs Pc f1 w1 it z => ?_⟩
  obtain ⟨j, h2, h3⟩ := lcB_I D0 hP hv hg z
  have : i = j := nodup_ix nd h1 h2
  subst this
  exact q J G' C' H' xs Pc f1 w1 it h3
/-- y = [..] -/
theorem ws_lc1 (M gs : List Str) {M0 : List Str} {y : Str} {py spos : Pos} {fy : D → DEnv} (D0 : Dfc X N dsc) (hy : Put N y env fy) (hyl : onlyC dsc [y] = true)
    (hP : Put N x env f) (ok : blkC N dsc scope [(x, N.idxOf x)] = true) (hv : visC (relS scope dsc) M = true) (hg : glC (relS scope dsc) gs = true) (hx : onlyC (relS scope dsc) [x] = true)
    (hsw : swapsWith (.ListComp elt [⟨.Name x px, iter, ifs, 0⟩] scope pos) (some (.Name y py)) spos.line X.env = pure true)
    (h : WI X (.Name x px) iter env C fun xs Pc C1 => LcB X elt ifs scope N M gs f xs Pc C1 fun d C2 => E.nx (fy d) C2) (hs : ∀ x, foldedSetIterable iter X.env x = pure x := by intro _; rfl) :
    WS X (.Assign [.Name y py] (.ListComp elt [⟨.Name x px, iter, ifs, 0⟩] scope pos) spos) env C E := by
  obtain ⟨i, h1, _⟩ := hP.set
  obtain ⟨iy, g1, g2, _⟩ := hy.set
  have nd : N.Nodup := by rw [← D0.n]; exact D0.nd
  have e : X.env.scope.names.lookup y = some .local := by
    unfold onlyC at hyl
    simp only [List.all_cons, List.all_nil, Bool.and_true] at hyl
    rw [D0.sc]; exact nk_eq hyl
  refine ws_setLc [(x, i)] (i := iy) D0.calm D0.nd (by rw [D0.n]; exact g1) e hsw (lc_own D0 h1 ok) (lc_pg D0 h1 hx) ?_ hs
  obtain ⟨wi, hi, hw⟩ := h
  refine ⟨wi, hi, fun G σ H R w er q => hw G σ H R w er fun J G' C' H' xs Pc f1 w1 it z => ?_⟩
  obtain ⟨j, h2, h3⟩ := lcB_I D0 hP hv hg z
  have : i = j := nodup_ix nd h1 h2
  subst this
  refine q J G' C' H' xs Pc f1 w1 it ?_
  show LcI X elt ifs scope [i] (gName i) env xs Pc C' fun d C2 => E.nx (env.set iy (some d)) C2
  rw [show (fun (d : D) (C2 : CS) => E.nx (env.set iy (some d)) C2) = fun d C2 => E.nx (fy d) C2 from by funext d C2; rw [g2]]
  exact h3
/-- each item gives a value, nothing changes -/
theorem LcB.map (g : D → D) (hP : Pc C1) (hl : xs.length ≤ sizeLine) (hx : ∀ d ∈ xs, ∀ X', Blk X scope X' → Nms X' N M → Gls X' gs → WE X' elt (f d) C1 fun y C' => y = g d ∧ C' = C1)
    (hk : ∀ p, C1 p = none → k (.own p) (put C1 p (.lst (xs.map g)))) : LcB X elt [] scope N M gs f xs Pc C1 k := by
  refine ⟨fun j acc C => C = C1 ∧ acc = (xs.take j).map g, ⟨rfl, rfl⟩, fun j acc C h => by rw [h.1]; exact hP, ?_, ?_⟩
  · rintro j d acc C hd ⟨rfl, rfl⟩ X' hX B G
    refine wif_nil ⟨fun _ X' hX B G => (hx d (List.mem_of_getElem? hd) X' hX B G).imp fun y C' z => ?_, fun h => Bool.noConfusion h⟩
    obtain ⟨rfl, rfl⟩ := z
    have hj : j < xs.length := (List.getElem?_eq_some_iff.mp hd).1
    refine ⟨by simp; omega, rfl, ?_⟩
    rw [List.take_add_one, hd, List.map_append]
    rfl
  · rintro acc C ⟨rfl, rfl⟩ p hp
    rw [List.take_length]
    exact hk p hp
/-- .. with a test -/
theorem LcB.filter {c : Expr} (t : D → Bool) (g : D → D) (hP : Pc C1) (hl : xs.length ≤ sizeLine) (ht : ∀ d ∈ xs, ∀ X', Blk X scope X' → Nms X' N M → Gls X' gs → WT X' c (f d) C1 fun b C' => b = t d ∧ C' = C1)
    (hx : ∀ d ∈ xs, t d = true → ∀ X', Blk X scope X' → Nms X' N M → Gls X' gs → WE X' elt (f d) C1 fun y C' => y = g d ∧ C' = C1)
    (hk : ∀ p, C1 p = none → k (.own p) (put C1 p (.lst ((xs.filter t).map g)))) : LcB X elt [c] scope N M gs f xs Pc C1 k := by
  refine ⟨fun j acc C => C = C1 ∧ acc = ((xs.take j).filter t).map g, ⟨rfl, rfl⟩, fun j acc C h => by rw [h.1]; exact hP, ?_, ?_⟩
  · rintro j d acc C hd ⟨rfl, rfl⟩ X' hX B G
    have hj : j < xs.length := (List.getElem?_eq_some_iff.mp hd).1
    refine wif_one ((ht d (List.mem_of_getElem? hd) X' hX B G).imp fun b C' z => ?_)
    obtain ⟨rfl, rfl⟩ := z
    refine ⟨fun hb X' hX B G => (hx d (List.mem_of_getElem? hd) hb X' hX B G).imp fun y C' z => ?_, fun hb => ⟨rfl, ?_⟩⟩
    · obtain ⟨rfl, rfl⟩ := z
      refine ⟨?_, rfl, ?_⟩
      · have h1 := List.length_filter_le t (xs.take j)
        rw [List.length_take] at h1
        rw [List.length_map]
        omega
      · rw [List.take_add_one, hd, List.filter_append, List.map_append]
        simp [hb]
    · rw [List.take_add_one, hd, List.filter_append]
      simp [hb]
  · rintro acc C ⟨rfl, rfl⟩ p hp
    rw [List.take_length]
    exact hk p hp
/-- frozen where it stands -/
def Frz (k : KD) : KD := fun d C1 => ∃ ds, seqL C1 d = some ds ∧ ((∃ a, d = .own a ∧ k (.lst ds) (del C1 a)) ∨ (d = .lst ds ∧ k (.lst ds) C1))
theorem we_fz {e : Expr} (h : WE X e env C (Frz k)) : WE X e env C k := we_frz h
theorem frz_ok {ds : List D} {p : Addr} (h : C p = none) (q : k (.lst ds) C) : Frz k (.own p) (put C p (.lst ds)) :=
  ⟨ds, seqL_own put_same, .inl ⟨p, rfl, by rw [del_put h]; exact q⟩⟩
end
end DL
/-! DLk: the context of a body as one fact; the rules over it; defs. -/
namespace DL
open PySem PySem.Spec PyProof.Rows L2

/-- a body runs: the module's facts, room for m calls -/
structure Ctx (P : Program) (w : World) (K : PySem.W.Frag) (mg : Str → Option Value) (base : Heap) (m : Nat) (X : Cx) : Prop where
  prog : X.prog = P
  w : X.w = w
  K : X.K = K
  mg : X.mg = mg
  base : X.base = base
  room : Room m X.A
  guards : X.A.guards = some []
  calm : X.calm = true
section
variable {P : Program} {w : World} {K : PySem.W.Frag} {mg : Str → Option Value} {base : Heap} {m n : Nat} {X X' : Cx} {scope : Scope} {x : Str} {S : DSp} {d : D}
theorem Ctx.blk (h : Ctx P w K mg base m X) (hX : Blk X scope X') : Ctx P w K mg base m X' := by
  obtain ⟨s, H, Ca, cl, fp, rfl⟩ := hX
  exact ⟨h.prog, h.w, h.K, h.mg, h.base, h.room, h.guards, h.calm⟩
theorem Ctx.zs (h : Ctx P w K mg base m X) (Z : Zs mg) : Zs X.mg := by rw [h.mg]; exact Z
theorem Ctx.fn (h : Ctx P w K mg base m X) (F : FnC P w K mg base x n S) : FnC X.prog X.w X.K X.mg X.base x n S := by rw [h.prog, h.w, h.K, h.mg, h.base]; exact F
/-- a constant of the module -/
def MgK (K : PySem.W.Frag) (mg : Str → Option Value) (x : Str) (d : D) : Prop := ∃ u v, mg x = some u ∧ RelV v u ∧ ∀ G, Dat K G v d
theorem Ctx.mgd (h : Ctx P w K mg base m X) (F : MgK K mg x d) : MgD X x d := by unfold MgD; rw [h.mg, h.K]; exact F
theorem mgk_int {i : Int} {t : Tok} (h : mg x = some (.int i t)) : MgK K mg x (.int i) := ⟨_, .int i, h, ⟨t, rfl⟩, fun _ => .int i⟩
theorem mgk_str {z : Str} {t : Tok} (h : mg x = some (.str z t)) : MgK K mg x (.str z) := ⟨_, .str z, h, ⟨t, rfl⟩, fun _ => .str z⟩
end
section
variable {P : Program} {w : World} {K : PySem.W.Frag} {mg : Str → Option Value} {base : Heap} {m n : Nat} {X : Cx} {e a b o : Expr} {es : List Expr} {env : DEnv} {C : CS} {k : KD} {pos p p1 p2 : Pos} {kb : Bool → CS → Prop} {E : DEnds}
theorem x_len (hx : Ctx P w K mg base m X) (Z : Zs mg) (hg : Gl X "len") (h : WA X (e :: es) env C fun ds C1 => dLen ds C1 k) (he : starEach (e :: es) X.env = (false, eval e X.env) :: starEach es X.env := by rfl) (hpl : (backTo pos (starEach es X.env)).any (·.1) = false := by rfl) : WE X (.Call (.Name "len" p) (e :: es) [] pos) env C k := we_len (hx.zs Z) hg h he hpl
theorem x_isi (hx : Ctx P w K mg base m X) (Z : Zs mg) (hg : Gl X "isinstance") (h : WA X (e :: es) env C fun ds C1 => dIsi ds C1 k) (he : starEach (e :: es) X.env = (false, eval e X.env) :: starEach es X.env := by rfl) (hpl : (backTo pos (starEach es X.env)).any (·.1) = false := by rfl) : WE X (.Call (.Name "isinstance" p) (e :: es) [] pos) env C k := we_isi (hx.zs Z) hg h he hpl
theorem x_abs (hx : Ctx P w K mg base m X) (Z : Zs mg) (hg : Gl X "abs") (h : WA X (e :: es) env C fun ds C1 => dInt1 (fun i => if i < 0 then -i else i) ds C1 k) (he : starEach (e :: es) X.env = (false, eval e X.env) :: starEach es X.env := by rfl) (hpl : (backTo pos (starEach es X.env)).any (·.1) = false := by rfl) : WE X (.Call (.Name "abs" p) (e :: es) [] pos) env C k := we_abs (hx.zs Z) hg h he hpl
theorem x_any (hx : Ctx P w K mg base m X) (Z : Zs mg) (hg : Gl X "any") (h : WA X (e :: es) env C fun ds C1 => dAny ds C1 k) (he : starEach (e :: es) X.env = (false, eval e X.env) :: starEach es X.env := by rfl) (hpl : (backTo pos (starEach es X.env)).any (·.1) = false := by rfl) : WE X (.Call (.Name "any" p) (e :: es) [] pos) env C k := we_any hx.calm (hx.zs Z) hg h he hpl
theorem x_all (hx : Ctx P w K mg base m X) (Z : Zs mg) (hg : Gl X "all") (h : WA X (e :: es) env C fun ds C1 => dAll ds C1 k) (he : starEach (e :: es) X.env = (false, eval e X.env) :: starEach es X.env := by rfl) (hpl : (backTo pos (starEach es X.env)).any (·.1) = false := by rfl) : WE X (.Call (.Name "all" p) (e :: es) [] pos) env C k := we_all hx.calm (hx.zs Z) hg h he hpl
theorem x_sum (hx : Ctx P w K mg base m X) (Z : Zs mg) (hg : Gl X "sum") (h : WA X (e :: es) env C fun ds C1 => dSum ds C1 k) (he : starEach (e :: es) X.env = (false, eval e X.env) :: starEach es X.env := by rfl) (hpl : (backTo pos (starEach es X.env)).any (·.1) = false := by rfl) : WE X (.Call (.Name "sum" p) (e :: es) [] pos) env C k := we_sum hx.calm (hx.zs Z) hg h he hpl
theorem x_intC (hx : Ctx P w K mg base m X) (Z : Zs mg) (hg : Gl X "int") (h : WA X (e :: es) env C fun ds C1 => dInt ds C1 k) (he : starEach (e :: es) X.env = (false, eval e X.env) :: starEach es X.env := by rfl) (hpl : (backTo pos (starEach es X.env)).any (·.1) = false := by rfl) : WE X (.Call (.Name "int" p) (e :: es) [] pos) env C k := we_intC (hx.zs Z) hg h he hpl
theorem x_strC (hx : Ctx P w K mg base m X) (Z : Zs mg) (hg : Gl X "str") (h : WA X (e :: es) env C fun ds C1 => dStrInt ds C1 k) (he : starEach (e :: es) X.env = (false, eval e X.env) :: starEach es X.env := by rfl) (hpl : (backTo pos (starEach es X.env)).any (·.1) = false := by rfl) : WE X (.Call (.Name "str" p) (e :: es) [] pos) env C k := we_strC (hx.zs Z) hg h he hpl
theorem x_tupleC (hx : Ctx P w K mg base m X) (Z : Zs mg) (hg : Gl X "tuple") (h : WA X (e :: es) env C fun ds C1 => dTuple ds C1 k) (he : starEach (e :: es) X.env = (false, eval e X.env) :: starEach es X.env := by rfl) (hpl : (backTo pos (starEach es X.env)).any (·.1) = false := by rfl) : WE X (.Call (.Name "tuple" p) (e :: es) [] pos) env C k := we_tupleC (hx.zs Z) hg h he hpl
theorem x_listC (hx : Ctx P w K mg base m X) (Z : Zs mg) (hg : Gl X "list") (h : WA X (e :: es) env C fun ds C1 => dList ds C1 k) (he : starEach (e :: es) X.env = (false, eval e X.env) :: starEach es X.env := by rfl) (hpl : (backTo pos (starEach es X.env)).any (·.1) = false := by rfl) : WE X (.Call (.Name "list" p) (e :: es) [] pos) env C k := we_listC (hx.zs Z) hg h he hpl
theorem x_max2 (hx : Ctx P w K mg base m X) (Z : Zs mg) (hg : Gl X "max") (h : WA X [a, b] env C fun ds C1 => dInt2 (fun i j => if j > i then j else i) ds C1 k) (he : starEach [a, b] X.env = (false, eval a X.env) :: starEach [b] X.env := by rfl) (hpl : (backTo pos (starEach [b] X.env)).any (·.1) = false := by rfl) : WE X (.Call (.Name "max" p) [a, b] [] pos) env C k := we_max2 hx.calm (hx.zs Z) hg h he hpl
theorem x_min2 (hx : Ctx P w K mg base m X) (Z : Zs mg) (hg : Gl X "min") (h : WA X [a, b] env C fun ds C1 => dInt2 (fun i j => if j < i then j else i) ds C1 k) (he : starEach [a, b] X.env = (false, eval a X.env) :: starEach [b] X.env := by rfl) (hpl : (backTo pos (starEach [b] X.env)).any (·.1) = false := by rfl) : WE X (.Call (.Name "min" p) [a, b] [] pos) env C k := we_min2 hx.calm (hx.zs Z) hg h he hpl
theorem x_minL (hx : Ctx P w K mg base m X) (Z : Zs mg) (hg : Gl X "min") (h : WA X [a] env C fun ds C1 => dMinL ds C1 k) (he : starEach [a] X.env = (false, eval a X.env) :: starEach [] X.env := by rfl) (hpl : (backTo pos (starEach [] X.env)).any (·.1) = false := by rfl) : WE X (.Call (.Name "min" p) [a] [] pos) env C k := we_minL hx.calm (hx.zs Z) hg h he hpl
theorem x_tyInt (hx : Ctx P w K mg base m X) (Z : Zs mg) (hg : Gl X "int") (h : k (.opq (.ty "int")) C) : WE X (.Name "int" pos) env C k := we_tyInt (hx.zs Z) hg h
theorem x_tyBool (hx : Ctx P w K mg base m X) (Z : Zs mg) (hg : Gl X "bool") (h : k (.opq (.ty "bool")) C) : WE X (.Name "bool" pos) env C k := we_tyBool (hx.zs Z) hg h
theorem x_tyStr (hx : Ctx P w K mg base m X) (Z : Zs mg) (hg : Gl X "str") (h : k (.opq (.ty "str")) C) : WE X (.Name "str" pos) env C k := we_tyStr (hx.zs Z) hg h
theorem x_tyList (hx : Ctx P w K mg base m X) (Z : Zs mg) (hg : Gl X "list") (h : k (.opq (.ty "list")) C) : WE X (.Name "list" pos) env C k := we_tyList (hx.zs Z) hg h
theorem x_tyTuple (hx : Ctx P w K mg base m X) (Z : Zs mg) (hg : Gl X "tuple") (h : k (.opq (.ty "tuple")) C) : WE X (.Name "tuple" pos) env C k := we_tyTuple (hx.zs Z) hg h
theorem x_eq (hx : Ctx P w K mg base m X) (h : WE X a env C fun x C1 => WE X b env C1 fun y C2 => dEq false x y C2 k) : WE X (.Compare a [.Eq] [b] pos) env C k := we_eq hx.room h
theorem xt_eq (hx : Ctx P w K mg base m X) (h : WE X a env C fun x C1 => WE X b env C1 fun y C2 => dEq false x y C2 (tb kb)) : WT X (.Compare a [.Eq] [b] pos) env C kb := wt_eq hx.room h
theorem x_ne (hx : Ctx P w K mg base m X) (h : WE X a env C fun x C1 => WE X b env C1 fun y C2 => dEq true x y C2 k) : WE X (.Compare a [.NotEq] [b] pos) env C k := we_ne hx.room h
theorem xt_ne (hx : Ctx P w K mg base m X) (h : WE X a env C fun x C1 => WE X b env C1 fun y C2 => dEq true x y C2 (tb kb)) : WT X (.Compare a [.NotEq] [b] pos) env C kb := wt_ne hx.room h
theorem x_in (hx : Ctx P w K mg base m X) (h : WE X a env C fun x C1 => WE X b env C1 fun y C2 => dIn false x y C2 k) (hm : behindInMarks .In b = false := by rfl) : WE X (.Compare a [.In] [b] pos) env C k := we_in hx.room h hm
theorem xt_in (hx : Ctx P w K mg base m X) (h : WE X a env C fun x C1 => WE X b env C1 fun y C2 => dIn false x y C2 (tb kb)) (hm : behindInMarks .In b = false := by rfl) : WT X (.Compare a [.In] [b] pos) env C kb := wt_in hx.room h hm
theorem x_nin (hx : Ctx P w K mg base m X) (h : WE X a env C fun x C1 => WE X b env C1 fun y C2 => dIn true x y C2 k) (hm : behindInMarks .NotIn b = false := by rfl) : WE X (.Compare a [.NotIn] [b] pos) env C k := we_nin hx.room h hm
theorem xt_nin (hx : Ctx P w K mg base m X) (h : WE X a env C fun x C1 => WE X b env C1 fun y C2 => dIn true x y C2 (tb kb)) (hm : behindInMarks .NotIn b = false := by rfl) : WT X (.Compare a [.NotIn] [b] pos) env C kb := wt_nin hx.room h hm
theorem x_call {x : Str} {S : DSp} (hx : Ctx P w K mg base m X) (h : FnC P w K mg base x n S) (hg : Gl X x) (ha : WA X (e :: es) env C fun ds C1 => S ds C1 k) (hle : n ≤ m := by decide)
    (hdb : (x == ("__debug__" : Str)) = false := by decide) (he : starEach (e :: es) X.env = (false, eval e X.env) :: starEach es X.env := by rfl) (hpl : (backTo pos (starEach es X.env)).any (·.1) = false := by rfl) : WE X (.Call (.Name x p) (e :: es) [] pos) env C k := we_call (hx.fn h) hx.guards hx.room hg ha hle hdb he hpl
theorem x_glob {x : Str} {d : D} (hx : Ctx P w K mg base m X) (hm : MgK K mg x d) (hg : Gl X x) (h : k d C) (hd : (x == ("__debug__" : Str)) = false := by decide) : WE X (.Name x pos) env C k := we_glob (hx.mgd hm) hg h hd

/-! walks -/
variable {tg iter : Expr} {body : List Stmt} {kI : KI}
theorem x_range1 (hx : Ctx P w K mg base m X) (Z : Zs mg) (hg : Gl X "range") (h : WA X [a] env C fun ds C1 => ∃ j : Int, ds = [.int j] ∧ -(2 ^ 62) ≤ j ∧ j < 2 ^ 62 ∧ kI (intsFrom 0 j.toNat) (fun _ => True) C1) (hs : starEach [a] X.env = [(false, eval a X.env)] := by rfl) :
    WI X tg (.Call (.Name "range" p) [a] [] pos) env C kI := wi_range1 (hx.zs Z).range hg h hs
/-- no exception leaves -/
structure Nox (X : Cx) : Prop where
  xe : X.xe = fun _ _ => False
theorem Nox.passes (h : Nox X) : PassesOwn (model X.prog X.w) X.A X.env X.xe := by rw [h.xe]; exact PassesOwn.never
theorem x_for (hx : Ctx P w K mg base m X) (hn : Nox X)
    (h : WI X tg iter env C fun xs Pc C1 => ∃ Iv : Nat → DEnv → CS → Prop, Iv 0 env C1 ∧ (∀ i env C, Iv i env C → Pc C) ∧
      (∀ i d env C, xs[i]? = some d → Iv i env C → WG X tg d env C fun env' C' => WSs X body env' C' { nx := Iv (i + 1), rt := E.rt, bk := E.nx, ct := Iv (i + 1) }) ∧ (∀ env C, Iv xs.length env C → E.nx env C))
    (hs : ∀ x, foldedSetIterable iter X.env x = pure x := by intro _; rfl) : WS X (.For tg iter body [] pos) env C E := ws_for hn.passes hx.calm h hs
theorem x_while {c : Expr} (hn : Nox X) (Iv : Nat → DEnv → CS → Prop) (h0 : ∃ m, Iv m env C)
    (h : ∀ m env C, Iv m env C → WT X c env C fun t C1 => (t = true → WSs X body env C1 { nx := fun env' C' => ∃ m', m' < m ∧ Iv m' env' C', rt := E.rt, bk := E.nx, ct := fun env' C' => ∃ m', m' < m ∧ Iv m' env' C' }) ∧ (t = false → E.nx env C1)) : WS X (.While c body [] pos) env C E := ws_while hn.passes Iv h0 h
end

/-! ### stores of two or three names at once -/
def envOf (sc : Scope) : Env := { scope := sc, locals := 0, globals := 0, cells := [], qual := "", func := none, code := .none, frame := none, builtins := 0 }
theorem sst_env {env : Env} {sc : Scope} (h : env.scope = sc) (ts : List Expr) (v : Expr) : swappedStores ts v env = swappedStores ts v (envOf sc) := by
  have e1 : env.blockKind = (envOf sc).blockKind := by unfold Env.blockKind; rw [h]; rfl
  have e2 : env.kindOf = (envOf sc).kindOf := by funext x; unfold Env.kindOf; rw [h]; rfl
  unfold swappedStores
  rw [e1, e2]
theorem sww_env {env : Env} {sc : Scope} (h : env.scope = sc) (v : Expr) (t : Option Expr) (l : Nat) : swapsWith v t l env = swapsWith v t l (envOf sc) := by
  have e1 : env.blockKind = (envOf sc).blockKind := by unfold Env.blockKind; rw [h]; rfl
  have e2 : env.kindOf = (envOf sc).kindOf := by funext x; unfold Env.kindOf; rw [h]; rfl
  have e3 : env.scope = (envOf sc).scope := h
  unfold swapsWith
  rw [e1, e2, e3]
end DL
/-! DLl: stores of several names; defs by an opaque context. -/
namespace DL
open PySem PySem.Spec PyProof.Rows L2

/-- a, b, c = x, y, z with plain local names: stored from the right -/
theorem ps_par3 {X : Cx} {pos : Pos} {i j l : Nat} {x y z : Str} {a b c : Expr} {ta : TA} {px py pz pt : Pos} {kt k2 pt2} (hc : X.calm = true) (hN : X.N.Nodup) (hi : X.N[i]? = some x) (hj : X.N[j]? = some y) (hl : X.N[l]? = some z)
    (hx : X.env.scope.names.lookup x = some .local) (hy : X.env.scope.names.lookup y = some .local) (hz : X.env.scope.names.lookup z = some .local) (ha : PA X [a, b, c] ta)
    (hw : swappedStores [.Tuple [.Name x px, .Name y py, .Name z pz] kt pt] (.Tuple [a, b, c] k2 pt2) X.env = pure (some [x, y, z]))
    (hs : swapsWithSole [.Tuple [.Name x px, .Name y py, .Name z pz] kt pt] (.Tuple [a, b, c] k2 pt2) pos.line X.env = pure false := by rfl) :
    PS X (.Assign [.Tuple [.Name x px, .Name y py, .Name z pz] kt pt] (.Tuple [a, b, c] k2 pt2) pos) (fun D σ H => ta σ H fun vs H1 => ∃ v w u, vs = [v, w, u] ∧ D.nx (((σ.set l (some u)).set j (some w)).set i (some v)) H1) := by
  refine ⟨fun pins s σ H D I h => ?_⟩
  rw [exec_Assign_arm]
  refine wpAny_bind (wpAny_standAt ?_)
  rw [hs]
  refine wpAny_bind (wpAny_pure ?_)
  rw [if_neg (by decide)]
  refine wpAny_bind (Tuple_ (L2.thn (ha.run _ pins s σ H _ I h) fun us s1 ⟨vs, H1, I1, r1, q1⟩ => ?_))
  obtain ⟨v, w, u, e1, q1⟩ := q1
  subst e1
  obtain ⟨u1, u2, u3, rfl, rv, rw', ru⟩ : ∃ u1 u2 u3, us = [u1, u2, u3] ∧ RelV v u1 ∧ RelV w u2 ∧ RelV u u3 := by
    cases r1 with
    | cons p q =>
      cases q with
      | cons p' q' =>
        cases q' with
        | cons p'' q'' =>
          cases q''
          exact ⟨_, _, _, rfl, p, p', p''⟩
  refine wpAny_newObj_type ?_ (by show 3 ≤ sizeLine; decide)
  have I2 : Inv X pins σ H1 { s1 with heap := s1.heap.push { cls := .type "tuple", data := .seq [u1, u2, u3].toArray } } := I1.kept (t' := s1.toks) fun b o e => Heap.get?_push_of_some _ e
  rw [hw]
  refine wpAny_bind (wpAny_pure ?_)
  show wpAny (model X.prog X.w) X.A (do rule "assign.swapped-stores"; let items ← unpackItems (.ref s1.heap.objs.size) 3 none; assignInOrder [fun v => bindName X.env z v, fun v => bindName X.env y v, fun v => bindName X.env x v] items.reverse; pure Flow.next) _ _ _
  refine wpAny_bind (wpAny_rule (wpAny_bind (unpackItems_tuple (items := #[u1, u2, u3]) (I.ok.hd hc) (IsTup.new s1.heap _) fun h' hx' => ?_)))
  have I3 := I2.kept (h' := h') (t' := s1.toks) fun b o e => hx' b o (Nat.ne_of_lt (Heap.lt_size e)) e
  show wpAny _ _ (assignInOrder [fun v => bindName X.env z v, fun v => bindName X.env y v, fun v => bindName X.env x v] [u3, u2, u1] >>= fun _ => pure Flow.next) _ _ _
  refine wpAny_bind (assignInOrder_cons (wpAny_bindName (store_ok I3 hN hl (.inl hz) ru (fun s2 I4 => ?_) (.inr hz))))
  refine assignInOrder_cons (wpAny_bindName (store_ok I4 hN hj (.inl hy) rw' (fun s3 I5 => ?_) (.inr hy)))
  refine assignInOrder_cons (wpAny_bindName (store_ok I5 hN hi (.inl hx) rv (fun s4 I6 => assignInOrder_nil (wpAny_pure ?_)) (.inr hx)))
  exact ⟨_, H1, I6, q1⟩

section
variable {X : Cx} {e a b c : Expr} {env : DEnv} {C : CS} {k : KD} {pos : Pos} {E : DEnds} {N : List Str} {dsc : Scope}
theorem only_loc {y : Str} (D0 : Dfc X N dsc) (h : onlyC dsc [y] = true) : X.env.scope.names.lookup y = some .local := by
  unfold onlyC at h
  simp only [List.all_cons, List.all_nil, Bool.and_true] at h
  rw [D0.sc]; exact nk_eq h
theorem x_par2 {x y : Str} {px py pt : Pos} {kt k2 : Nat} {pt2 : Pos} {f : D → DEnv} {g : D → D → DEnv} (D0 : Dfc X N dsc) (h1 : Put N y env f) (h2 : ∀ v, Put N x (f v) fun u => g u v) (hx : onlyC dsc [x] = true) (hy : onlyC dsc [y] = true) (hne : (x == y) = false)
    (hw : swappedStores [.Tuple [.Name x px, .Name y py] kt pt] (.Tuple [a, b] k2 pt2) (envOf dsc) = pure (some [x, y]))
    (h : WA X [a, b] env C fun ds C1 => ∃ u v, ds = [u, v] ∧ E.nx (g u v) C1)
    (hs : swapsWithSole [.Tuple [.Name x px, .Name y py] kt pt] (.Tuple [a, b] k2 pt2) pos.line X.env = pure false := by rfl) :
    WS X (.Assign [.Tuple [.Name x px, .Name y py] kt pt] (.Tuple [a, b] k2 pt2) pos) env C E := by
  obtain ⟨j, n1, s1, _⟩ := h1.set
  have ne : x ≠ y := fun e => by rw [e] at hne; simp at hne
  have hi : ∃ i : Nat, N[i]? = some x ∧ ∀ u v, (env.set j (some v)).set i (some u) = g u v := by
    obtain ⟨i, n2, _, _⟩ := (h2 .non).set
    refine ⟨i, n2, fun u v => ?_⟩
    obtain ⟨i', n3, s3, _⟩ := (h2 v).set
    have nd : N.Nodup := by rw [← D0.n]; exact D0.nd
    have : i = i' := nodup_ix nd n2 n3
    subst this
    rw [s1, s3]
  obtain ⟨i, n2, s2⟩ := hi
  have hij : i ≠ j := fun e => ne (by rw [e, n1] at n2; exact (Option.some.inj n2).symm)
  refine ws_par (i := i) (j := j) D0.calm D0.nd (by rw [D0.n]; exact n2) (by rw [D0.n]; exact n1) hij (only_loc D0 hx) (only_loc D0 hy) (h.imp fun ds C' z => ?_) (by rw [sst_env D0.sc]; exact hw) hs
  obtain ⟨u, v, e1, z⟩ := z
  exact ⟨u, v, e1, by rw [List.set_comm _ _ hij, s2]; exact z⟩
theorem x_par3 {x y z : Str} {px py pz pt : Pos} {kt k2 : Nat} {pt2 : Pos} {f : D → DEnv} {g : D → D → DEnv} {g3 : D → D → D → DEnv} (D0 : Dfc X N dsc) (h1 : Put N z env f) (h2 : ∀ v, Put N y (f v) fun u => g u v) (h3 : ∀ u v, Put N x (g u v) fun t => g3 t u v)
    (hx : onlyC dsc [x] = true) (hy : onlyC dsc [y] = true) (hz : onlyC dsc [z] = true)
    (hw : swappedStores [.Tuple [.Name x px, .Name y py, .Name z pz] kt pt] (.Tuple [a, b, c] k2 pt2) (envOf dsc) = pure (some [x, y, z]))
    (h : WA X [a, b, c] env C fun ds C1 => ∃ t u v, ds = [t, u, v] ∧ E.nx (g3 t u v) C1)
    (hs : swapsWithSole [.Tuple [.Name x px, .Name y py, .Name z pz] kt pt] (.Tuple [a, b, c] k2 pt2) pos.line X.env = pure false := by rfl) :
    WS X (.Assign [.Tuple [.Name x px, .Name y py, .Name z pz] kt pt] (.Tuple [a, b, c] k2 pt2) pos) env C E := by
  have nd : N.Nodup := by rw [← D0.n]; exact D0.nd
  obtain ⟨l, n1, s1, _⟩ := h1.set
  obtain ⟨j, n2, _, _⟩ := (h2 .non).set
  obtain ⟨i, n3, _, _⟩ := (h3 .non .non).set
  have all : ∀ t u v, ((env.set l (some v)).set j (some u)).set i (some t) = g3 t u v := fun t u v => by
    obtain ⟨j', m2, r2, _⟩ := (h2 v).set
    obtain ⟨i', m3, r3, _⟩ := (h3 u v).set
    have e1 : j = j' := nodup_ix nd n2 m2
    have e2 : i = i' := nodup_ix nd n3 m3
    subst e1; subst e2
    rw [s1, r2, r3]
  refine .of (ps_par3 (i := i) (j := j) (l := l) D0.calm D0.nd (by rw [D0.n]; exact n3) (by rw [D0.n]; exact n2) (by rw [D0.n]; exact n1) (only_loc D0 hx) (only_loc D0 hy) (only_loc D0 hz) pa_tAr (by rw [sst_env D0.sc]; exact hw) hs) fun G σ H D w er q => h G σ H _ w er fun vs G1 C1 H1 ds f1 w1 r1 zz => ?_
  obtain ⟨t, u, v, rfl, zz⟩ := zz
  cases r1 with
  | @cons t' _ _ _ r1 r2 =>
    cases r2 with
    | @cons u' _ _ _ r2 r3 =>
      cases r3 with
      | @cons v' _ _ _ r3 r4 =>
        cases r4
        exact ⟨t', u', v', rfl, q.nx G1 C1 H1 _ _ f1 w1 ((((er.mono f1.exG).set l r3).set j r2).set i r1) (by rw [all]; exact zz)⟩
end

/-! ### defs by an opaque context -/
section
variable {P : Program} {w : World} {K : PySem.W.Frag} {mg : Str → Option Value} {base : Heap}
structure Bdy (P : Program) (w : World) (K : PySem.W.Frag) (mg : Str → Option Value) (base : Heap) (n : Nat) (N M Ds : List Str) (dsc : Scope) (X : Cx) : Prop where
  x : Ctx P w K mg base n X
  b : Nms X N M
  s : Sts X N M
  g : Gls X Ds
  d : Dfc X N dsc
  nox : Nox X
theorem fnX {x qual : Str} {st : Stmt} {f : Addr} {fd : FuncData} {N M Ds ps : List Str} {n : Nat} {S : DSp} (F : Fun K x qual st f fd) (sc : FnScope N ps (defScope st)) (hv : visC (defScope st) M = true) (hlc : locC (defScope st) M = true) (hg : glC (defScope st) Ds = true)
    (hl : ∀ ds C k, S ds C k → ds.length = ps.length)
    (hb : ∀ (X : Cx), Bdy P w K mg base n N M Ds (defScope st) X → ∀ (ds : List D) (C : CS) (k : KD), S ds C k → WSs X (defBody st) (startD N ds) C { nx := fun _ C' => k .non C', rt := k }) : FnG P w K mg base CX0 (n + 1) f fd ps (toSp K S) :=
  fnD F sc hl fun cdv A outer s H E ds C k hgd hr h => hb _ ⟨⟨rfl, rfl, rfl, rfl, rfl, hr, hgd, rfl⟩, nms_of rfl (sc := defScope st) rfl sc.nd hv, sts_of rfl (sc := defScope st) rfl sc.nd hlc (fun _ => rfl), gls_of (sc := defScope st) rfl hg, ⟨rfl, sc.nd, rfl, rfl⟩, ⟨rfl⟩⟩ ds C k h
end
end DL
namespace DL
open PySem L2
theorem wo_n {X : Cx} {env : DEnv} {C : CS} {k : Option Int → CS → Prop} (h : k none C) : WO X none env C k := h
theorem wo_s {X : Cx} {e : Expr} {env : DEnv} {C : CS} {k : Option Int → CS → Prop} (h : WE X e env C fun d C1 => ∃ i, d = .int i ∧ k (some i) C1) : WO X (some e) env C k := h
theorem ex_2 {a b : D} {A : D → D → Prop} (h : A a b) : ∃ u v, [a, b] = [u, v] ∧ A u v := ⟨a, b, rfl, h⟩
theorem ex_3 {a b c : D} {A : D → D → D → Prop} (h : A a b c) : ∃ t u v, [a, b, c] = [t, u, v] ∧ A t u v := ⟨a, b, c, rfl, h⟩
end DL
/-! DLm: a test that stores; data that is fit for ==. -/
namespace DL
open PySem PySem.Spec PyProof.Rows L2
section
variable {X : Cx} {e a b c : Expr} {env : DEnv} {C : CS} {k : KD} {pos p1 p2 py pc : Pos} {E : DEnds} {N M : List Str} {s1 s2 : List Stmt}
/-- if (y := e) op b: .. -/
theorem x_ifW {y : Str} {op : CmpOp} {r : R2} {p : OpD} {f : D → DEnv} (B : Sts X N M) (hm' : Mem y M) (hP : Put N y env f) (ho : OpR X (compareOp op) r) (hr : R2D X.K r p)
    (h : WE X e env C fun d C1 => WE X b (f d) C1 fun z C2 => p d z C2 fun t' C3 => ∃ t, t' = .bl t ∧ (t = true → WSs X s1 (f d) C3 E) ∧ (t = false → WSs X s2 (f d) C3 E)) (hm : behindInMarks op b = false) :
    WS X (.If (.Compare (.NamedExpr (.Name y py) e p1) [op] [b] pc) s1 s2 pos) env C E := by
  obtain ⟨i, h1, h2, _⟩ := hP.set
  refine .of (ps_ifW (ptw_cmp ho (pew_named (i := i) B.nd (by rw [B.n]; exact h1) (B.loc y hm'.mem) (pew_of pe_tS) (B.fn y hm'.mem)) pe_tS hm) pss_tXs pss_tXs) fun G σ H D w er q => ?_
  refine h G σ H _ w er fun v G1 C1 H1 d f1 w1 r1 z => ?_
  have er1 : EnvR X.K G1 (f d) (σ.set i (some v)) := by rw [← h2]; exact (er.mono f1.exG).set i r1
  refine z G1 _ H1 _ w1 er1 fun u G2 C2 H2 y2 f2 w2 r2 z2 => ?_
  refine hr v u d y2 G2 C2 H2 _ _ w2 (r1.mono f2.exG) r2 z2 fun t' G3 C3 H3 d3 f3 w3 r3 z3 => ?_
  obtain ⟨t, rfl, z3⟩ := z3
  cases r3
  have F := (f1.trans f2).trans f3
  refine ⟨t, rfl, ?_⟩
  cases t with
  | true => exact iteT (z3.1 rfl G3 _ H3 D w3 (er1.mono (f2.trans f3).exG) (q.after F))
  | false => exact iteF (z3.2 rfl G3 _ H3 D w3 (er1.mono (f2.trans f3).exG) (q.after F))
theorem x_ifWge {y : Str} {f : D → DEnv} (B : Sts X N M) (hm' : Mem y M) (hP : Put N y env f)
    (h : WE X e env C fun d C1 => WE X b (f d) C1 fun z C2 => dB2 (fun i j => decide (j ≤ i)) d z C2 fun t' C3 => ∃ t, t' = .bl t ∧ (t = true → WSs X s1 (f d) C3 E) ∧ (t = false → WSs X s2 (f d) C3 E)) :
    WS X (.If (.Compare (.NamedExpr (.Name y py) e p1) [.GtE] [b] pc) s1 s2 pos) env C E := x_ifW B hm' hP op_ge r2_B h (nomark _)
end

/-! ### data fit for == -/
mutual
/-- built of what == compares, at most so deep -/
def D.fit : Nat → D → Bool
  | _, .non | _, .bl _ | _, .int _ => true
  | _, .str x => PyData.strOk x
  | 0, .lst _ | 0, .slst _ | 0, .tup _ => false
  | n + 1, .lst xs => fitL n xs
  | n + 1, .slst xs => fitL n xs
  | n + 1, .tup xs => fitL n xs
  | _, _ => false
def fitL : Nat → List D → Bool
  | _, [] => true
  | n, d :: ds => d.fit n && fitL n ds
end
theorem fitL_all {n : Nat} : ∀ {ds : List D}, fitL n ds = true ↔ ∀ d ∈ ds, d.fit n = true
  | [] => by simp [fitL]
  | d :: ds => by simp [fitL, fitL_all (ds := ds)]
mutual
theorem fit_py : ∀ (d : D) {n : Nat}, d.fit n = true → d.isPy = true
  | .non, _, _ | .bl _, _, _ | .int _, _, _ | .str _, _, _ => rfl
  | .lst xs, 0, h | .slst xs, 0, h | .tup xs, 0, h => by simp [D.fit] at h
  | .lst xs, n + 1, h => by unfold D.isPy; exact fitL_py xs (n := n) (by simpa [D.fit] using h)
  | .slst xs, n + 1, h => by unfold D.isPy; exact fitL_py xs (n := n) (by simpa [D.fit] using h)
  | .tup xs, n + 1, h => by unfold D.isPy; exact fitL_py xs (n := n) (by simpa [D.fit] using h)
  | .obj _ _ _, n, h => by cases n <;> simp [D.fit] at h
  | .own _, n, h => by cases n <;> simp [D.fit] at h
  | .opq _, n, h => by cases n <;> simp [D.fit] at h
theorem fitL_py : ∀ (ds : List D) {n : Nat}, fitL n ds = true → allPy ds = true
  | [], _, _ => rfl
  | d :: ds, n, h => by
    simp only [fitL, Bool.and_eq_true] at h
    simp only [allPy, Bool.and_eq_true]
    exact ⟨fit_py d h.1, fitL_py ds h.2⟩
end
mutual
theorem fit_lay : ∀ (d : D) {n : Nat}, d.fit n = true → d.py.canLay0 = true
  | .non, _, _ | .bl _, _, _ | .int _, _, _ => rfl
  | .str x, n, h => by cases n <;> exact h
  | .lst xs, 0, h | .slst xs, 0, h | .tup xs, 0, h => by simp [D.fit] at h
  | .lst xs, n + 1, h => by simp only [D.py, PyData.canLay0]; exact fitL_lay xs (n := n) (by simpa [D.fit] using h)
  | .slst xs, n + 1, h => by simp only [D.py, PyData.canLay0]; exact fitL_lay xs (n := n) (by simpa [D.fit] using h)
  | .tup xs, n + 1, h => by simp only [D.py, PyData.canLay0]; exact fitL_lay xs (n := n) (by simpa [D.fit] using h)
  | .obj _ _ _, n, h => by cases n <;> simp [D.fit] at h
  | .own _, n, h => by cases n <;> simp [D.fit] at h
  | .opq _, n, h => by cases n <;> simp [D.fit] at h
theorem fitL_lay : ∀ (ds : List D) {n : Nat}, fitL n ds = true → PyData.canLayAll0 (pyL ds) = true
  | [], _, _ => rfl
  | d :: ds, n, h => by
    simp only [fitL, Bool.and_eq_true] at h
    simp only [pyL, PyData.canLayAll0, Bool.and_eq_true]
    exact ⟨fit_lay d h.1, fitL_lay ds h.2⟩
end
mutual
theorem fit_depth : ∀ (d : D) {n : Nat}, d.fit n = true → d.py.depth ≤ n
  | .non, _, _ | .bl _, _, _ | .int _, _, _ | .str _, _, _ => Nat.zero_le _
  | .lst xs, 0, h | .slst xs, 0, h | .tup xs, 0, h => by simp [D.fit] at h
  | .lst xs, n + 1, h => Nat.succ_le_succ (fitL_depth xs (n := n) (by simpa [D.fit] using h))
  | .slst xs, n + 1, h => Nat.succ_le_succ (fitL_depth xs (n := n) (by simpa [D.fit] using h))
  | .tup xs, n + 1, h => Nat.succ_le_succ (fitL_depth xs (n := n) (by simpa [D.fit] using h))
  | .obj _ _ _, n, h => by cases n <;> simp [D.fit] at h
  | .own _, n, h => by cases n <;> simp [D.fit] at h
  | .opq _, n, h => by cases n <;> simp [D.fit] at h
theorem fitL_depth : ∀ (ds : List D) {n : Nat}, fitL n ds = true → PyData.depthAll (pyL ds) ≤ n
  | [], _, _ => Nat.zero_le _
  | d :: ds, n, h => by
    simp only [fitL, Bool.and_eq_true] at h
    exact Nat.max_le.mpr ⟨fit_depth d h.1, fitL_depth ds h.2⟩
end
theorem fit_ok {d : D} {n : Nat} (h : d.fit n = true) (hn : n ≤ 64 := by decide) : d.ok = true := by
  unfold D.ok SeqAt.shaped
  simp only [Bool.and_eq_true, decide_eq_true_eq]
  exact ⟨fit_py d h, fit_lay d h, Nat.le_trans (fit_depth d h) hn⟩
mutual
theorem fit_mono : ∀ (d : D) {n m : Nat}, d.fit n = true → n ≤ m → d.fit m = true
  | .non, _, _, _, _ | .bl _, _, _, _, _ | .int _, _, _, _, _ => by simp [D.fit]
  | .str x, n, m, h, _ => by
    have : PyData.strOk x = true := by cases n <;> exact h
    cases m <;> exact this
  | .lst xs, 0, _, h, _ | .slst xs, 0, _, h, _ | .tup xs, 0, _, h, _ => by simp [D.fit] at h
  | .lst xs, n + 1, 0, h, l | .slst xs, n + 1, 0, h, l | .tup xs, n + 1, 0, h, l => absurd l (by omega)
  | .lst xs, n + 1, m + 1, h, l => by simp only [D.fit] at h ⊢; exact fitL_mono xs h (by omega)
  | .slst xs, n + 1, m + 1, h, l => by simp only [D.fit] at h ⊢; exact fitL_mono xs h (by omega)
  | .tup xs, n + 1, m + 1, h, l => by simp only [D.fit] at h ⊢; exact fitL_mono xs h (by omega)
  | .obj _ _ _, n, _, h, _ => by cases n <;> simp [D.fit] at h
  | .own _, n, _, h, _ => by cases n <;> simp [D.fit] at h
  | .opq _, n, _, h, _ => by cases n <;> simp [D.fit] at h
theorem fitL_mono : ∀ (ds : List D) {n m : Nat}, fitL n ds = true → n ≤ m → fitL m ds = true
  | [], _, _, _, _ => rfl
  | d :: ds, n, m, h, l => by
    simp only [fitL, Bool.and_eq_true] at h ⊢
    exact ⟨fit_mono d h.1 l, fitL_mono ds h.2 l⟩
end
theorem eq_fit {C : CS} {k : KD} {x y : D} {n m : Nat} (hx : x.fit n = true) (hy : y.fit m = true) (q : k (.bl (PyData.eqv x.py y.py)) C) (hn : n ≤ 64 := by decide) (hm : m ≤ 64 := by decide) : dEq false x y C k := eq_ok (fit_ok hx hn) (fit_ok hy hm) q
theorem ne_fit {C : CS} {k : KD} {x y : D} {n m : Nat} (hx : x.fit n = true) (hy : y.fit m = true) (q : k (.bl (!PyData.eqv x.py y.py)) C) (hn : n ≤ 64 := by decide) (hm : m ≤ 64 := by decide) : dEq true x y C k := ne_ok (fit_ok hx hn) (fit_ok hy hm) q
end DL
namespace DL
open PySem L2
theorem wt_bo {X : Cx} {op : PySem.BoolOp} {es : List Expr} {env : DEnv} {C : CS} {kb : Bool → CS → Prop} {pos : Pos} (h : WW X (.BoolOp op es pos) env C kb) : WT X (.BoolOp op es pos) env C kb := wt_ww h
end DL
namespace DL
open PySem L2
theorem isStr_eq {x : D} (h : x.isStr = true) : ∃ s, x = .str s := by cases x <;> first | exact ⟨_, rfl⟩ | (simp [D.isStr] at h; done)
theorem fit_tup {xs : List D} {n : Nat} (h : (D.tup xs).fit n = true) : ∃ m, n = m + 1 ∧ ∀ d ∈ xs, d.fit m = true := by
  cases n with
  | zero => simp [D.fit] at h
  | succ m => exact ⟨m, rfl, fitL_all.mp (by simpa [D.fit] using h)⟩
end DL
namespace DL
open PySem L2
theorem sIx_nat' (n d k : Nat) : HT.sIx n d (some (k : Int)) = min k n := HT.sIx_nat n d k
def eqL (xs ys : List D) : Bool := PyData.eqvAll (pyL xs) (pyL ys)
theorem fit_tupI {xs : List D} {n : Nat} (h : ∀ d ∈ xs, d.fit n = true) : (D.tup xs).fit (n + 1) = true := by simp only [D.fit]; exact fitL_all.mpr h
theorem fit_lstI {xs : List D} {n : Nat} (h : ∀ d ∈ xs, d.fit n = true) : (D.lst xs).fit (n + 1) = true := by simp only [D.fit]; exact fitL_all.mpr h
end DL
namespace DL
open PySem L2
theorem all_map {C : CS} {k : KD} {xs : List D} {f : D → Bool} (q : k (.bl (xs.all f)) C) : dAll [.lst (xs.map fun d => .bl (f d))] C k :=
  ⟨_, xs.map f, rfl, by simp only [seqR, List.map_map]; rfl, by rw [List.all_map]; exact q⟩
end DL
namespace DL
open PySem L2
theorem sz_ok {n : Nat} {B : Prop} (h : Nat.ble n 1000 = true) (q : B) : n ≤ sizeLine ∧ B := ⟨Nat.le_trans (Nat.le_of_ble_eq_true h) (by decide), q⟩
theorem sz_as {n : Nat} {B : Prop} (h : n ≤ sizeLine) (q : B) : n ≤ sizeLine ∧ B := ⟨h, q⟩
theorem dec_t {p : Prop} [Decidable p] (h : decide p = true) : p := of_decide_eq_true h
theorem dec_f {p : Prop} [Decidable p] (h : decide p = false) : ¬ p := of_decide_eq_false h
end DL
namespace DL
open PySem PySem.Spec PyProof.Rows L2
section
variable {X : Cx} {e a b o : Expr} {es : List Expr} {env : DEnv} {C : CS} {k : KD} {pos apos cpos : Pos} {kb : Bool → CS → Prop}
theorem we_nil (h : ∀ p, C p = none → k (.own p) (put C p (.lst []))) : WE X (.List [] pos) env C k := we_lst (wa_nil ⟨Nat.zero_le _, h⟩)
abbrev H1 (X : Cx) (o e : Expr) (name : Str) (apos cpos : Pos) : Prop := attributeBase o name X.env (eval o X.env) = eval o X.env
theorem x_append (h : WE X o env C fun x C1 => tyD "list" C1 x ∧ WE X e env C1 fun y C2 => dAppend x [y] C2 k)
    (hbase : attributeBase o "append" X.env (eval o X.env) = eval o X.env := by rfl)
    (hfew : ((backTo cpos (starEach (e :: []) X.env)).all (fun x => !x.1) && (backToKw cpos (keywordEach [] X.env)).all (fun x => x.1.isSome)
      && decide ((e :: []).length + ([] : List Keyword).length + (if ([] : List Keyword).isEmpty then 0 else 1) < 30)) = true := by rfl)
    (hline : (apos.endLine == cpos.line) = true := by rfl) (hs : starEach (e :: []) X.env = (false, eval e X.env) :: starEach [] X.env := by rfl) (hplain : (backTo cpos (starEach [] X.env)).any (·.1) = false := by rfl) :
    WE X (.Call (.Attribute o "append" apos) [e] [] cpos) env C k :=
  we_bm PySem.F.plainAttrs_list PySem.F.slot_list_append PySem.F.type_list_append mt_append rm_append (h.imp fun x C1 z => ⟨z.1, wa_cons (z.2.imp fun y C2 q => wa_nil q) hs⟩) hbase hfew hline hs hplain
theorem app_ok {p : Addr} {xs : List D} {y : D} (hc : C p = some (.lst xs)) (hl : xs.length < sizeLine) (q : k .non (put C p (.lst (xs ++ [y])))) : dAppend (.own p) [y] C k := ⟨p, xs, y, rfl, rfl, hc, hl, q⟩
theorem app_put {p : Addr} {xs : List D} {y : D} (hl : xs.length < sizeLine) (q : k .non (put C p (.lst (xs ++ [y])))) : dAppend (.own p) [y] (put C p (.lst xs)) k := ⟨p, xs, y, rfl, rfl, put_same, hl, by rw [put_put]; exact q⟩
theorem ty_own {p : Addr} {xs : List D} {B : Prop} (hc : C p = some (.lst xs)) (q : B) : tyD "list" C (.own p) ∧ B := ⟨.inl ⟨rfl, xs, hc⟩, q⟩
theorem ty_put {p : Addr} {xs : List D} {B : Prop} (q : B) : tyD "list" (put C p (.lst xs)) (.own p) ∧ B := ⟨.inl ⟨rfl, xs, put_same⟩, q⟩
theorem tuple_A {x : D} {rs : List D} (h : seqA C x = some rs) (q : k (.tup rs) C) : dTuple [x] C k := by
  refine ⟨x, rfl, ?_⟩
  cases x <;> simp only [seqA, Option.some.injEq] at h ⊢ <;> first | (subst h; exact q) | exact ⟨rs, h, q⟩
end
end DL
namespace DL
open PySem PySem.Spec PyProof.Rows L2
theorem x_gtup {P : Program} {w : World} {K : PySem.W.Frag} {mg : Str → Option Value} {base : Heap} {m : Nat} {X : Cx} {env : DEnv} {C : CS} {pos : Pos} {ts : List Expr} {n : Nat} {ds : List D} {kE : DEnv → CS → Prop} (hx : Ctx P w K mg base m X) (hl : ds.length = (assignEach ts X.env).length) (h : WGs X ts ds env C kE) (hst : (assignEach ts X.env).findIdx? (·.1) = none := by rfl) : WG X (.Tuple ts n pos) (.tup ds) env C kE := wg_tup hx.calm hl h hst
end DL
namespace DL
open PySem L2
theorem ix_p {C : CS} {k : KD} {p : Addr} {xs : List D} {i : Int} {d : D} (h : atI xs i = some d) (q : k d (put C p (.lst xs))) : dIx (.own p) (.int i) (put C p (.lst xs)) k := ix_o put_same h q
theorem setL_p {C : CS} {p : Addr} {xs : List D} {n : Int} {j : Nat} {d : D} {env : DEnv} {kE : DEnv → CS → Prop} (hj : ixN xs.length n = some j) (q : kE env (put C p (.lst (xs.set j d)))) : ∃ p' n' ys j', D.own p = .own p' ∧ D.int n = .int n' ∧ (put C p (.lst xs)) p' = some (.lst ys) ∧ ixN ys.length n' = some j' ∧ kE env (put (put C p (.lst xs)) p' (.lst (ys.set j' d))) :=
  ⟨p, n, xs, j, rfl, rfl, put_same, hj, by rw [put_put]; exact q⟩
theorem setL_o {C : CS} {p : Addr} {xs : List D} {n : Int} {j : Nat} {d : D} {env : DEnv} {kE : DEnv → CS → Prop} (hc : C p = some (.lst xs)) (hj : ixN xs.length n = some j) (q : kE env (put C p (.lst (xs.set j d)))) : ∃ p' n' ys j', D.own p = .own p' ∧ D.int n = .int n' ∧ C p' = some (.lst ys) ∧ ixN ys.length n' = some j' ∧ kE env (put C p' (.lst (ys.set j' d))) :=
  ⟨p, n, xs, j, rfl, rfl, hc, hj, q⟩
theorem len_put {C : CS} {k : KD} {p : Addr} {xs : List D} (q : k (.int (xs.length : Nat)) (put C p (.lst xs))) : dLen [.own p] (put C p (.lst xs)) k := len_own put_same q
end DL
namespace DL
open PySem PySem.Spec PyProof.Rows L2
theorem ws_asgD {X : Cx} {N : List Str} {dsc : Scope} {e tg : Expr} {env : DEnv} {C : CS} {pos : Pos} {E : DEnds} (D0 : Dfc X N dsc) (h : WE X e env C fun d C1 => WG X tg d env C1 E.nx) (hw : swappedStores [tg] e (envOf dsc) = pure none) (hs : swapsWithSole [tg] e pos.line X.env = pure false := by rfl)
    (h1 : (assignEach [tg] X.env).map (·.2) = [assign tg X.env] := by rfl) : WS X (.Assign [tg] e pos) env C E := ws_asg h hs (by rw [sst_env D0.sc]; exact hw) h1
end DL
/-! DLn: methods by their names; texts. -/
namespace DL
open PySem PySem.Spec PyProof.Rows L2
section
variable {X : Cx} {e a b o : Expr} {es : List Expr} {env : DEnv} {C : CS} {k : KD} {pos apos cpos : Pos} {kb : Bool → CS → Prop}
theorem x_join (h : WE X o env C fun x C1 => tyD "str" C1 x ∧ WA X (e :: es) env C1 fun ds C2 => dJoin x ds C2 k)
    (hbase : attributeBase o "join" X.env (eval o X.env) = eval o X.env := by rfl)
    (hfew : ((backTo cpos (starEach (e :: es) X.env)).all (fun x => !x.1) && (backToKw cpos (keywordEach [] X.env)).all (fun x => x.1.isSome)
      && decide ((e :: es).length + ([] : List Keyword).length + (if ([] : List Keyword).isEmpty then 0 else 1) < 30)) = true := by rfl)
    (hline : (apos.endLine == cpos.line) = true := by rfl) (hs : starEach (e :: es) X.env = (false, eval e X.env) :: starEach es X.env := by rfl) (hplain : (backTo cpos (starEach es X.env)).any (·.1) = false := by rfl) :
    WE X (.Call (.Attribute o "join" apos) (e :: es) [] cpos) env C k :=
  we_bm PySem.F.plainAttrs_str PySem.F.slot_str_join PySem.F.type_str_join mt_join rm_join h hbase hfew hline hs hplain
theorem x_sindex (h : WE X o env C fun x C1 => tyD "str" C1 x ∧ WA X (e :: es) env C1 fun ds C2 => dSIndex x ds C2 k)
    (hbase : attributeBase o "index" X.env (eval o X.env) = eval o X.env := by rfl)
    (hfew : ((backTo cpos (starEach (e :: es) X.env)).all (fun x => !x.1) && (backToKw cpos (keywordEach [] X.env)).all (fun x => x.1.isSome)
      && decide ((e :: es).length + ([] : List Keyword).length + (if ([] : List Keyword).isEmpty then 0 else 1) < 30)) = true := by rfl)
    (hline : (apos.endLine == cpos.line) = true := by rfl) (hs : starEach (e :: es) X.env = (false, eval e X.env) :: starEach es X.env := by rfl) (hplain : (backTo cpos (starEach es X.env)).any (·.1) = false := by rfl) :
    WE X (.Call (.Attribute o "index" apos) (e :: es) [] cpos) env C k :=
  we_bm PySem.F.plainAttrs_str PySem.F.slot_str_index PySem.F.type_str_index mt_sindex rm_sindex h hbase hfew hline hs hplain
theorem x_insert (h : WE X o env C fun x C1 => tyD "list" C1 x ∧ WA X (e :: es) env C1 fun ds C2 => dInsert x ds C2 k)
    (hbase : attributeBase o "insert" X.env (eval o X.env) = eval o X.env := by rfl)
    (hfew : ((backTo cpos (starEach (e :: es) X.env)).all (fun x => !x.1) && (backToKw cpos (keywordEach [] X.env)).all (fun x => x.1.isSome)
      && decide ((e :: es).length + ([] : List Keyword).length + (if ([] : List Keyword).isEmpty then 0 else 1) < 30)) = true := by rfl)
    (hline : (apos.endLine == cpos.line) = true := by rfl) (hs : starEach (e :: es) X.env = (false, eval e X.env) :: starEach es X.env := by rfl) (hplain : (backTo cpos (starEach es X.env)).any (·.1) = false := by rfl) :
    WE X (.Call (.Attribute o "insert" apos) (e :: es) [] cpos) env C k :=
  we_bm PySem.F.plainAttrs_list PySem.F.slot_list_insert PySem.F.type_list_insert mt_insert rm_insert h hbase hfew hline hs hplain
theorem x_popAt (h : WE X o env C fun x C1 => tyD "list" C1 x ∧ WA X (e :: es) env C1 fun ds C2 => dPopAt x ds C2 k)
    (hbase : attributeBase o "pop" X.env (eval o X.env) = eval o X.env := by rfl)
    (hfew : ((backTo cpos (starEach (e :: es) X.env)).all (fun x => !x.1) && (backToKw cpos (keywordEach [] X.env)).all (fun x => x.1.isSome)
      && decide ((e :: es).length + ([] : List Keyword).length + (if ([] : List Keyword).isEmpty then 0 else 1) < 30)) = true := by rfl)
    (hline : (apos.endLine == cpos.line) = true := by rfl) (hs : starEach (e :: es) X.env = (false, eval e X.env) :: starEach es X.env := by rfl) (hplain : (backTo cpos (starEach es X.env)).any (·.1) = false := by rfl) :
    WE X (.Call (.Attribute o "pop" apos) (e :: es) [] cpos) env C k :=
  we_bm PySem.F.plainAttrs_list PySem.F.slot_list_pop PySem.F.type_list_pop mt_popAt rm_popAt h hbase hfew hline hs hplain
end
theorem x_ixL {X : Cx} {es : List Expr} {b : Expr} {env : DEnv} {C : CS} {k : KD} {pos p1 : Pos} (h : WA X es env C fun ds C1 => ds.length ≤ sizeLine ∧ WE X b env C1 fun y C2 => dIx (.lst ds) y C2 k) (hs : PlainIx b := by intro _ _; rfl) : WE X (.Subscript (.List es p1) b pos) env C k := we_ix (we_lstF h) hs
theorem ty_str {C : CS} {z : Str} {B : Prop} (q : B) : tyD "str" C (.str z) ∧ B := ⟨rfl, q⟩
/-- a text of signs -/
def sg (c : Nat) : Str := ⟨#[c]⟩
theorem joinL_sg : ∀ cs : List Nat, TL.joinL [] (cs.map fun c => [c]) = cs
  | [] => rfl
  | [c] => rfl
  | c :: d :: r => by
    show [c] ++ ([] ++ TL.joinL [] ((d :: r).map fun c => [c])) = _
    rw [joinL_sg (d :: r)]
    rfl
theorem join_sg (cs : List Nat) : (Txt.join "" (cs.map sg)).cps.toList = cs := by
  refine (congrArg TL.tl (TL.join_eq "" (cs.map sg))).trans ?_
  rw [TL.tl_join, List.map_map]
  have e : TL.tl ("" : Str) = [] := by decide +kernel
  rw [e]
  exact joinL_sg cs
theorem join_ok {C : CS} {k : KD} {x : D} {cs : List Nat} (hs : seqR C x = some (cs.map fun c => D.str (sg c))) (hl : cs.length ≤ 1000000) (q : ∀ z : Str, z.cps.toList = cs → k (.str z) C) : dJoin (.str "") [x] C k := by
  refine ⟨"", x, cs.map sg, rfl, rfl, by rw [hs, List.map_map]; rfl, ?_, q _ (join_sg cs)⟩
  have e : ("" : Str).length = 0 := by decide +kernel
  rw [e, Nat.mul_zero, Nat.add_zero, List.map_map]
  have : ∀ cs : List Nat, (cs.map ((fun x : Str => x.length) ∘ sg)).sum = cs.length := by
    intro cs
    induction cs with
    | nil => rfl
    | cons c cs ih => rw [List.map_cons, List.sum_cons, ih, List.length_cons]; show 1 + _ = _; omega
  rw [this]
  omega
theorem str_ext {x y : Str} (h : x.cps.toList = y.cps.toList) : x = y := by
  cases x with
  | mk a => cases y with
    | mk b => exact congrArg Str.mk (Array.toList_inj.mp h)
theorem str_app (x y : Str) : (x ++ y).cps.toList = x.cps.toList ++ y.cps.toList := by
  show (x.cps ++ y.cps).toList = _
  rw [Array.toList_append]
theorem str_len (x : Str) : x.length = x.cps.toList.length := by
  show x.cps.size = _
  rw [Array.length_toList]
/-- cells forgotten -/
def Sub (C2 C1 : CS) : Prop := ∀ a c, C2 a = some c → C1 a = some c
theorem Sub.refl (C : CS) : Sub C C := fun _ _ h => h
theorem Sub.trans {C1 C2 C3 : CS} (a : Sub C1 C2) (b : Sub C2 C3) : Sub C1 C3 := fun x c h => b x c (a x c h)
theorem Sub.put {C C1 : CS} (h : Sub C C1) (a : Addr) (c : Cell) : Sub (put C a c) (put C1 a c) := fun x d e => by
  by_cases q : x = a
  · subst q; rw [put_same] at e ⊢; exact e
  · rw [put_ne q] at e ⊢; exact h x d e
theorem Sub.new {C C1 : CS} {a : Addr} {c : Cell} (h : Sub C C1) (ha : C a = none) : Sub C (DL.put C1 a c) := fun x d e => by
  have : x ≠ a := fun q => by subst q; rw [ha] at e; cases e
  rw [put_ne this]; exact h x d e
theorem fnS {P : Program} {w : World} {K : PySem.W.Frag} {mg : Str → Option Value} {base : Heap} {x qual : Str} {st : Stmt} {f : Addr} {fd : FuncData} {N M Ds ps : List Str} {n : Nat} {S : DSp} (F : Fun K x qual st f fd) (sc : FnScope N ps (defScope st)) (hv : visC (defScope st) M = true) (hlc : locC (defScope st) M = true) (hg : glC (defScope st) Ds = true)
    (hl : ∀ ds C k, S ds C k → ds.length = ps.length)
    (hb : ∀ (X : Cx), Bdy P w K mg base n N M Ds (defScope st) X → ∀ (ds : List D) (C : CS) (k : KD), S ds C k → WSs X (defBody st) (startD N ds) C { nx := fun _ C1 => ∃ C2, Sub C2 C1 ∧ k .non C2, rt := fun d C1 => ∃ C2, Sub C2 C1 ∧ k d C2 }) : FnG P w K mg base CX0 (n + 1) f fd ps (toSp K S) :=
  fnX F sc hv hlc hg hl fun X hB ds C k hS G σ H D0 wl er q => hb X hB ds C k hS G σ H D0 wl er
    ⟨fun G' C' H' σ' env f' w' er' ⟨C2, hs, z⟩ => let ⟨w2, f2⟩ := w'.sub hs; q.nx G' C2 H' σ' env (f'.trans f2) w2 er' z,
     fun v G' C' H' d f' w' r ⟨C2, hs, z⟩ => let ⟨w2, f2⟩ := w'.sub hs; q.rt v G' C2 H' d (f'.trans f2) w2 r z, fun G' C' H' σ' env f' w' er' z => z.elim, fun G' C' H' σ' env f' w' er' z => z.elim⟩
theorem nodup_sub {α : Type} [DecidableEq α] : ∀ (xs ys : List α), xs.Nodup → (∀ x ∈ xs, x ∈ ys) → xs.length ≤ ys.length
  | [], _, _, _ => Nat.zero_le _
  | x :: xs, ys, nd, h => by
    have hx := h x List.mem_cons_self
    have nd' := List.nodup_cons.mp nd
    have := nodup_sub xs (ys.erase x) nd'.2 fun y hy => (List.mem_erase_of_ne (fun e => by subst e; exact nd'.1 hy)).mpr (h y (List.mem_cons_of_mem _ hy))
    rw [List.length_erase_of_mem hx] at this
    have hp : 0 < ys.length := List.length_pos_of_mem hx
    rw [List.length_cons]
    omega
end DL
/-! DLo: classes in a tuple; zip; two names in a comprehension. -/
namespace DL
open PySem PySem.Spec PyProof.Rows L2 RZ
/-- isinstance with a tuple of classes, wherever the tuple stands -/
def rIsiU (K : PySem.W.Frag) : List V → Hp → VK → Prop := fun xs H Q => ∃ (x : V) (tp : Addr) (cs : List V) (t : Value) (us : List Value) (b : Bool), xs = [x, .ref tp] ∧ SqT K H tp cs ∧ Paired ClsV cs us ∧ TyX K H x t ∧ PySem.W.kitAny K t us = some b ∧ Q (.bl b) H
theorem call_isiU {X : Cx} : CallR X (.builtin "isinstance") (rIsiU X.K) := by
  rintro pins s σ H xs us Q I r ⟨x, tp, cs, t, ws, b, rfl, hT, hcs, ty, e, q⟩
  obtain ⟨u1, u2, rfl, r1, r2⟩ := vals2 r
  obtain rfl : u2 = Value.ref tp := r2
  obtain ⟨P, hZ, hp, hne⟩ := kit_of I r1 ty
  obtain ⟨its, rv, ⟨⟨oc, od, dt, sl⟩, g1, g2, n, g3⟩, _⟩ := I.tuple hT
  obtain rfl := ClsV.all hcs rv
  simp only at g2 g3
  subst g2
  subst g3
  refine PySem.W.kia_tup hZ I.kIn hp g1 e hne ?_
  intro tk
  exact ⟨V.bl b, H, I.tok tk, rfl, q⟩
def kitL (T : String) : List String → Option Bool
  | [] => some false
  | U :: Us => match kitB T U with
    | some true => some true
    | some false => kitL T Us
    | none => none
theorem kitL_ok {K : PySem.W.Frag} {T : String} {b : Bool} : ∀ {Us : List String}, kitL T Us = some b → PySem.W.kitAny K (.type T) (Us.map fun U => .type U) = some b
  | [], h => by cases h; exact kitAny_nil
  | U :: Us, h => by
    unfold kitL at h
    cases e : kitB T U with
    | none => rw [e] at h; cases h
    | some t =>
      rw [e] at h
      cases t with
      | true => exact kitAny_cons (kit_ty e) (fun z => by cases z) fun _ => by cases h; rfl
      | false => exact kitAny_cons (kit_ty e) (fun _ => kitL_ok h) fun z => by cases z
def tysD (Us : List String) : List D := Us.map fun U => .opq (.ty U)
def dIsiT : List D → CS → KD → Prop := fun ds C k => ∃ x T Us b, ds = [x, .tup (tysD Us)] ∧ tyN C x = some T ∧ kitL T Us = some b ∧ k (.bl b) C
theorem dat_tys {K : PySem.W.Frag} {G : Hp} : ∀ {Us : List String} {vs : List V}, DatAll K G vs (tysD Us) → Paired ClsV vs (Us.map fun U => .type U)
  | [], _, h => by cases h; exact .nil
  | U :: Us, _, h => by
    cases h with
    | cons h1 h2 => cases h1; exact .cons (.ty U) (dat_tys h2)
theorem rl_isiT {K : PySem.W.Frag} : RLD K (rIsiU K) dIsiT := by
  rintro xs ds G C H k Q w rs ⟨x, T, Us, b, rfl, ht, hb, hk⟩ q
  cases rs with
  | cons r1 r2 =>
    cases r2 with
    | cons r2 r3 =>
      cases r3
      obtain ⟨a, vs, rfl, h1, h2⟩ := w.tup r2
      exact ⟨_, a, vs, .type T, _, b, rfl, h1, dat_tys h2, tyN_ok w r1 ht, kitL_ok hb, q _ _ _ _ _ (Fr.refl ..) w (.bl _) hk⟩
section
variable {X : Cx} {a e e2 elt iter : Expr} {ts es : List Expr} {env : DEnv} {C C1 : CS} {k : KD} {pos p p2 : Pos} {n m : Nat} {P : Program} {w : World} {K : PySem.W.Frag} {mg : Str → Option Value} {base : Heap}
theorem x_isiT (hx : Ctx P w K mg base m X) (Z : Zs mg) (hg : Gl X "isinstance") (h : WA X [a, .Tuple ts n p2] env C fun ds C1 => dIsiT ds C1 k) (he : starEach [a, .Tuple ts n p2] X.env = (false, eval a X.env) :: starEach [.Tuple ts n p2] X.env := by rfl)
    (hpl : (backTo pos (starEach [.Tuple ts n p2] X.env)).any (·.1) = false := by rfl) : WE X (.Call (.Name "isinstance" p) [a, .Tuple ts n p2] [] pos) env C k :=
  we_cb (hx.zs Z).isi call_isiU rl_isiT hg bt_isi h (he := he) (hpl := hpl)
end
section
variable {C : CS} {k : KD} {x : D}
theorem isi_lt (h : x.kind = true) (q : k (.bl (x.isLst || x.isTup)) C) : dIsiT [x, .tup [.opq (.ty "list"), .opq (.ty "tuple")]] C k := by
  cases x <;> first | exact ⟨_, _, ["list", "tuple"], true, rfl, rfl, by decide +kernel, q⟩ | exact ⟨_, _, ["list", "tuple"], false, rfl, rfl, by decide +kernel, q⟩ | (simp [D.kind] at h; done)
theorem isi_ownLT {a : Addr} {xs : List D} (h : C a = some (.lst xs)) (q : k (.bl true) C) : dIsiT [.own a, .tup [.opq (.ty "list"), .opq (.ty "tuple")]] C k :=
  ⟨_, "list", ["list", "tuple"], true, rfl, by simp [tyN, h], by decide +kernel, q⟩
end
/-! ### zip -/
/-- while P holds of the cells, a is the list of these data -/
def SeqOf (K : PySem.W.Frag) (a : Addr) (xs : List D) (Pc : CS → Prop) (G : Hp) : Prop := ∀ G' C' H', Same G G' → Wld K G' C' H' → Pc C' → ∃ vs, SqL K H' a vs ∧ DatAll K G' vs xs
/-- what a list's name says of the cells -/
def ownP (d : D) (xs : List D) : CS → Prop := fun C => ∀ a, d = .own a → C a = some (.lst xs)
theorem seqOf_dat {K : PySem.W.Frag} {G H : Hp} {C : CS} {v : V} {d : D} {xs : List D} (w : Wld K G C H) (r : Dat K G v d) (h : seqR C d = some xs) : ∃ a, v = .ref a ∧ SeqOf K a xs (ownP d xs) G ∧ ∃ vs, SqL K H a vs := by
  cases r with
  | lst x1 x2 =>
    simp [seqR] at h; subst h
    exact ⟨_, rfl, fun G' C' H' e w' _ => ⟨_, w'.ex.seq (e.seq (SqL.of x1)), x2.mono e⟩, _, w.ex.seq (SqL.of x1)⟩
  | slst x1 x2 =>
    simp [seqR] at h; subst h
    exact ⟨_, rfl, fun G' C' H' e w' _ => ⟨_, w'.ex.seq (e.seq x1), x2.mono e⟩, _, w.ex.seq x1⟩
  | own a =>
    obtain ⟨_, vs, y1, y2⟩ := w.cell a _ (own_seqR h)
    refine ⟨a, rfl, fun G' C' H' e w' p => ?_, _, SqL.of y1⟩
    obtain ⟨_, vs, z1, z2⟩ := w'.cell a _ (p a rfl)
    exact ⟨vs, SqL.of z1, z2⟩
  | _ => simp [seqR] at h
section
variable {X : Cx} {a b e e2 elt iter : Expr} {ts es : List Expr} {env : DEnv} {C C1 : CS} {k : KD} {kI : KI} {pos p p2 tpos : Pos} {n m : Nat} {P : Program} {w : World} {K : PySem.W.Frag} {mg : Str → Option Value} {base : Heap}
end
/-! ### a comprehension with two names -/
def pairF (env : DEnv) (f : D → D → DEnv) : D → DEnv
  | .tup [a, b] => f a b
  | _ => env
theorem set_two {env : DEnv} {i j : Nat} (h : i ≠ j) (a b : D) : ((wipeD env [i, j]).set i (some a)).set j (some b) = (env.set i (some a)).set j (some b) := by
  show ((((env.set j none).set i none).set i (some a)).set j (some b)) = _
  rw [List.set_set, List.set_comm _ _ h.symm, List.set_set]
section
variable {X : Cx} {elt iter : Expr} {ifs : List Expr} {scope dsc : Scope} {env : DEnv} {C C1 : CS} {k : KD} {pos px py pt : Pos} {n : Nat} {E : DEnds} {N M gs : List Str} {x y : Str} {f1 : D → DEnv} {f2 : D → D → DEnv} {xs : List D} {Pc : CS → Prop}
theorem lcB_I2 (D0 : Dfc X N dsc) (hP : Put N x env f1) (hQ : ∀ d, Put N y (f1 d) (f2 d)) (hxy : x ≠ y) (hv : visC (relS scope dsc) M = true) (hg : glC (relS scope dsc) gs = true) (hp2 : ∀ d ∈ xs, ∃ a b, d = .tup [a, b])
    (h : LcB X elt ifs scope N M gs (pairF env f2) xs Pc C1 k) : ∃ i j, N[i]? = some x ∧ N[j]? = some y ∧ LcI X elt ifs scope [i, j] (gTup X.K 2 (gCons (gName i) (gCons (gName j) gNil))) env xs Pc C1 k := by
  obtain ⟨i, h1, h2, _⟩ := hP.set
  obtain ⟨j, g1, _⟩ := (hQ .non).set
  have hij : i ≠ j := fun e => by subst e; rw [h1] at g1; exact hxy (Option.some.inj g1)
  have nd : N.Nodup := by rw [← D0.n]; exact D0.nd
  have e2 : ∀ a b, (env.set i (some a)).set j (some b) = f2 a b := by
    intro a b
    obtain ⟨j', k1, k2, _⟩ := (hQ a).set
    obtain rfl := nodup_ix nd k1 g1
    rw [h2, k2]
  refine ⟨i, j, h1, g1, ?_⟩
  obtain ⟨Iv, i0, hp, turn, done⟩ := h
  refine ⟨Iv, i0, hp, fun m d acc C hd hi => ?_, done⟩
  obtain ⟨a, b, rfl⟩ := hp2 d (List.mem_of_getElem? hd)
  refine gw_tup2 (by simp) (by simp) ?_
  rw [set_two hij, e2]
  exact fun X' hX => WIf.imp (turn m _ acc C hd hi X' hX (blk_nms D0 hv X' hX) (blk_gls D0 hg X' hX)) fun t C3 z => ⟨fun ht X'' hX'' => z.1 ht X'' hX'' (blk_nms D0 hv X'' hX'') (blk_gls D0 hg X'' hX''), z.2⟩
theorem lc2 (M gs : List Str) (D0 : Dfc X N dsc) (hP : Put N x env f1) (hQ : ∀ d, Put N y (f1 d) (f2 d)) (hxy : x ≠ y) (ok : blkC N dsc scope [(x, N.idxOf x), (y, N.idxOf y)] = true) (hv : visC (relS scope dsc) M = true) (hg : glC (relS scope dsc) gs = true)
    (hx : onlyC (relS scope dsc) [x] = true) (hy : onlyC (relS scope dsc) [y] = true)
    (h : WI X (.Tuple [.Name x px, .Name y py] n pt) iter env C fun xs Pc C1 => (∀ d ∈ xs, ∃ a b, d = .tup [a, b]) ∧ LcB X elt ifs scope N M gs (pairF env f2) xs Pc C1 k) (hs : ∀ x, foldedSetIterable iter X.env x = pure x := by intro _; rfl) :
    WE X (.ListComp elt [⟨.Tuple [.Name x px, .Name y py] n pt, iter, ifs, 0⟩] scope pos) env C k := by
  obtain ⟨i, h1, _⟩ := hP.set
  obtain ⟨j, g1, _⟩ := (hQ .non).set
  have nd : N.Nodup := by rw [← D0.n]; exact D0.nd
  have ok' : BlkOk X.N X.env.scope scope [(x, i), (y, j)] := by
    rw [idxOf_of nd h1, idxOf_of nd g1] at ok
    rw [D0.n, D0.sc]
    exact blkOk_by ok
  refine we_lc [(x, i), (y, j)] (g := gTup X.K 2 (gCons (gName i) (gCons (gName j) gNil))) D0.calm D0.nd ok' (fun s H Ca cl fp => ?_) ?_ hs
  · exact pg_tup (show X.calm = true from D0.calm) (pgs_cons (lc_pg D0 h1 hx s H Ca cl fp) (pgs_cons (lc_pg D0 g1 hy s H Ca cl fp) pgs_nil))
  · obtain ⟨wi, hi, hw⟩ := h
    refine ⟨wi, hi, fun G σ H R w er q => hw G σ H R w er fun J G' C' H' xs Pc f w1 it z => ?_⟩
    obtain ⟨i', j', a1, a2, h3⟩ := lcB_I2 D0 hP hQ hxy hv hg z.1 z.2
    obtain rfl := nodup_ix nd a1 h1
    obtain rfl := nodup_ix nd a2 g1
    exact q J G' C' H' xs Pc f w1 it h3
end
section
variable {C : CS} {k : KD} {x : D} {xs : List D}
theorem isi_ltT (h : x.kind = true) (h2 : (x.isLst || x.isTup) = true) (q : k (.bl true) C) : dIsiT [x, .tup [.opq (.ty "list"), .opq (.ty "tuple")]] C k := isi_lt h (by rw [h2]; exact q)
theorem isi_ltF (h : x.kind = true) (h2 : (x.isLst || x.isTup) = false) (q : k (.bl false) C) : dIsiT [x, .tup [.opq (.ty "list"), .opq (.ty "tuple")]] C k := isi_lt h (by rw [h2]; exact q)
theorem isi_ls (h : seqR C x = some xs) (q : k (.bl true) C) : dIsi [x, .opq (.ty "list")] C k := by
  cases x with
  | lst xs => exact ⟨_, "list", _, true, rfl, rfl, by decide +kernel, q⟩
  | slst xs => exact ⟨_, "list", _, true, rfl, rfl, by decide +kernel, q⟩
  | own a =>
    have h' := own_seqR h
    exact ⟨_, "list", _, true, rfl, by simp [tyN, h'], by decide +kernel, q⟩
  | _ => simp [seqR] at h
theorem isi_lsT (h : seqR C x = some xs) (q : k (.bl false) C) : dIsi [x, .opq (.ty "tuple")] C k := by
  cases x with
  | lst xs => exact ⟨_, "list", _, false, rfl, rfl, by decide +kernel, q⟩
  | slst xs => exact ⟨_, "list", _, false, rfl, rfl, by decide +kernel, q⟩
  | own a =>
    have h' := own_seqR h
    exact ⟨_, "list", _, false, rfl, by simp [tyN, h'], by decide +kernel, q⟩
  | _ => simp [seqR] at h
theorem isiT_ls (h : seqR C x = some xs) (q : k (.bl true) C) : dIsiT [x, .tup [.opq (.ty "list"), .opq (.ty "tuple")]] C k := by
  cases x with
  | lst xs => exact isi_lt rfl q
  | slst xs => exact isi_lt rfl q
  | own a =>
    have h' := own_seqR h
    exact isi_ownLT h' q
  | _ => simp [seqR] at h
theorem len_ls (h : seqR C x = some xs) (q : k (.int (xs.length : Nat)) C) : dLen [x] C k := by
  cases x with
  | lst xs => exact ⟨_, _, rfl, ⟨_, h, rfl⟩, q⟩
  | slst xs => exact ⟨_, _, rfl, ⟨_, h, rfl⟩, q⟩
  | own a =>
    have h' := own_seqR h
    exact ⟨_, _, rfl, ⟨_, h, rfl⟩, q⟩
  | _ => simp [seqR] at h
theorem eq_bb {a b : Bool} (q : k (.bl (a == b)) C) : dEq false (.bl a) (.bl b) C k := eq_ok (by cases a <;> rfl) (by cases b <;> rfl) (by cases a <;> cases b <;> exact q)
theorem ne_bb {a b : Bool} (q : k (.bl (a != b)) C) : dEq true (.bl a) (.bl b) C k := ne_ok (by cases a <;> rfl) (by cases b <;> rfl) (by cases a <;> cases b <;> exact q)
end
/-! ### the same data -/
def Sm (C : CS) : Nat → D → D → Prop
  | 0, x, y => x = y ∧ x.fit 0 = true
  | n + 1, x, y => (x = y ∧ x.fit 0 = true) ∨ ∃ xs ys, xs.length = ys.length ∧ xs.length ≤ sizeLine ∧ ((seqR C x = some xs ∧ seqR C y = some ys) ∨ (x = .tup xs ∧ y = .tup ys)) ∧ ∀ (i : Nat) (a b : D), xs[i]? = some a → ys[i]? = some b → Sm C n a b
/-- trees of lists that are not too long -/
def Sz : Nat → D → Prop
  | 0, x => x.fit 0 = true
  | n + 1, x => x.fit 0 = true ∨ ∃ xs : List D, xs.length ≤ sizeLine ∧ (x = .lst xs ∨ x = .slst xs ∨ x = .tup xs) ∧ ∀ a ∈ xs, Sz n a
theorem Sm.of {C : CS} : ∀ {n : Nat} {x : D}, Sz n x → Sm C n x x
  | 0, _, h => ⟨rfl, h⟩
  | n + 1, x, h => by
    rcases h with h | ⟨xs, h1, h2, h3⟩
    · exact .inl ⟨rfl, h⟩
    · refine .inr ⟨xs, xs, rfl, h1, ?_, fun i a b ha hb => ?_⟩
      · rcases h2 with rfl | rfl | rfl
        · exact .inl ⟨rfl, rfl⟩
        · exact .inl ⟨rfl, rfl⟩
        · exact .inr ⟨rfl, rfl⟩
      · rw [ha] at hb; cases hb
        exact Sm.of (h3 a (List.mem_of_getElem? ha))
end DL
/-! DLp: lists unpacked; lists made and frozen by * and +. -/
namespace DL
open PySem PySem.Spec PyProof.Rows L2
section
variable {X : Cx} {a b e : Expr} {es ts : List Expr} {env : DEnv} {C : CS} {k : KD} {pos p1 p2 p3 : Pos} {n m : Nat} {P : Program} {w : World} {K : PySem.W.Frag} {mg : Str → Option Value} {base : Heap} {op : Operator}
end
section
variable {C : CS} {k : KD} {xs ys : List D} {i : Int} {p : Addr} {d : D}
theorem rep_len (n : Nat) (xs : List D) : (List.replicate n xs).flatten.length = n * xs.length := by simp
end
/-! ### a text times an int -/
theorem op_mulS {X : Cx} : OpR X (binaryOp .Mult) (fun x y H Q => ∃ z n, x = .str z ∧ y = .int n ∧ MulOk z n ∧ Q (.str (Txt.mul z n)) H) := by
  rintro pins s σ H x y v u Q I rx ry ⟨z, n, rfl, rfl, hok, q⟩
  obtain ⟨t, rfl⟩ := rx
  obtain ⟨t', rfl⟩ := ry
  exact SB.mul hok fun t' k => ⟨.str (Txt.mul z n), H, I.tok _, ⟨_, rfl⟩, q⟩
def dMulS : OpD := fun x y C k => ∃ z n, x = .str z ∧ y = .int n ∧ MulOk z n ∧ k (.str (Txt.mul z n)) C
theorem r2_mulS {K : PySem.W.Frag} : R2D K (fun x y H Q => ∃ z n, x = .str z ∧ y = .int n ∧ MulOk z n ∧ Q (.str (Txt.mul z n)) H) dMulS := by
  rintro x y a b G C H k Q w da db ⟨z, n, rfl, rfl, h1, h2⟩ q
  cases da
  cases db
  exact ⟨z, n, rfl, rfl, h1, q _ _ _ _ _ (Fr.refl ..) w (.str _) h2⟩
theorem x_mulS {X : Cx} {b : Expr} {env : DEnv} {C : CS} {k : KD} {pos p1 : Pos} {z : Str} {j : Nat} (h : WE X b env C fun y C1 => dMulS (.str z) y C1 k) : WE X (.BinOp (.Constant (.str z) j p1) .Mult b pos) env C k := we_op op_mulS r2_mulS (we_str h)
theorem mul_s {C : CS} {k : KD} {z : Str} {n : Int} (h : MulOk z n) (q : k (.str (Txt.mul z n)) C) : dMulS (.str z) (.int n) C k := ⟨z, n, rfl, rfl, h, q⟩
end DL
/-! DLq: repr of data. -/
namespace DL
open PySem PySem.Spec PyProof.Rows L2 RZ
/-- repr of a list or a tuple of data -/
def rRepr (K : PySem.W.Frag) : List V → Hp → VK → Prop := fun xs H Q => ∃ (v : V) (d : PyData), xs = [v] ∧ Dp K H v d ∧ isDisplay d = true ∧ d.showable = true ∧ d.hasDict = false ∧ d.depth ≤ 60 ∧ d.shown.length ≤ sizeLine ∧ Q (.str d.shown) H
theorem call_reprD {X : Cx} (hgd : X.A.guards = some []) (hu : X.A.units + 65 < cLine) : CallR X (.builtin "repr") (rRepr X.K) := by
  rintro pins s σ H xs us Q I r ⟨v, d, rfl, hd, hdis, hs, hnd, hdp, hsz, q⟩
  cases r with
  | cons r1 r2 =>
    cases r2
    obtain ⟨as, rd⟩ := Dp.reads I d v _ hd r1
    obtain ⟨a, rfl⟩ := isRef_of_reads rd hdis
    refine repr_of_reads' rd hs (PyData.noDict_hsm hnd) hgd (by omega) (fun _ _ e => e) ?_ hsz
    intro h' u tk hk
    exact ⟨.str d.shown, H, I.kept (t' := tk) hk, ⟨u, rfl⟩, q⟩
/-- repr of data -/
def rReprA (K : PySem.W.Frag) : List V → Hp → VK → Prop := fun xs H Q => ∃ (v : V) (d : PyData), xs = [v] ∧ Dp K H v d ∧ d.showable = true ∧ d.hasDict = false ∧ d.depth ≤ 60 ∧ d.shown.length ≤ sizeLine ∧ Q (.str d.shown) H
theorem call_reprA {X : Cx} (hgd : X.A.guards = some []) (hu : X.A.units + 65 < cLine) : CallR X (.builtin "repr") (rReprA X.K) := by
  rintro pins s σ H xs us Q I r ⟨v, d, rfl, hd, hs, hnd, hdp, hsz, q⟩
  by_cases hdis : isDisplay d = true
  · exact call_reprD hgd hu pins s σ H [v] us Q I r ⟨v, d, rfl, hd, hdis, hs, hnd, hdp, hsz, q⟩
  · cases r with
    | cons r1 r2 =>
      cases r2
      have fin : EP X pins σ Q (.str d.shown s.toks) { s with toks := s.toks + 1 } := ⟨.str d.shown, H, I.tok _, ⟨_, rfl⟩, q⟩
      cases hd with
      | non =>
        obtain rfl : _ = Value.none := r1
        exact P.repr_of_none fin
      | bl b =>
        obtain rfl : _ = Value.bool b := r1
        exact P.repr_of_bool fin
      | int i =>
        obtain ⟨t, rfl⟩ := r1
        exact P.repr_of_int (by simpa [PyData.showable] using hs) fin
      | str z =>
        obtain ⟨t, rfl⟩ := r1
        exact P.repr_of_str fin hsz
      | _ => exact absurd rfl hdis
def dRepr : List D → CS → KD → Prop := fun ds C k => ∃ x d, ds = [x] ∧ pyC C x = some d ∧ d.showable = true ∧ d.hasDict = false ∧ d.depth ≤ 60 ∧ d.shown.length ≤ sizeLine ∧ k (.str d.shown) C
theorem rl_repr {K : PySem.W.Frag} : RLD K (rReprA K) dRepr := by
  rintro xs ds G C H k Q w rs ⟨x, d, rfl, hd, h1, h2, h3, h4, hk⟩ q
  cases rs with
  | cons r1 r2 =>
    cases r2
    exact ⟨_, d, rfl, w.dp r1 hd, h1, h2, h3, h4, q _ _ _ _ _ (Fr.refl ..) w (.str _) hk⟩
section
variable {X : Cx} {e : Expr} {es : List Expr} {env : DEnv} {C : CS} {k : KD} {pos p : Pos} {m : Nat} {P : Program} {w : World} {K : PySem.W.Frag} {mg : Str → Option Value} {base : Heap}
theorem x_repr (hx : Ctx P w K mg base m X) (Z : Zs mg) (hg : Gl X "repr") (h : WA X (e :: es) env C fun ds C1 => dRepr ds C1 k) (he : starEach (e :: es) X.env = (false, eval e X.env) :: starEach es X.env := by rfl) (hpl : (backTo pos (starEach es X.env)).any (·.1) = false := by rfl) :
    WE X (.Call (.Name "repr" p) (e :: es) [] pos) env C k := we_cb (hx.zs Z).repr (call_reprA hx.guards (by have := hx.room.units; have := hx.room.un; omega)) rl_repr hg bootS_repr h (he := he) (hpl := hpl)
end
end DL
/-! DLr: comprehensions with any number of fors. -/
namespace DL
open PySem PySem.Spec PyProof.Rows L2
section
variable {elt t0 i0 t1 i1 : Expr} {ifs0 ifs1 : List Expr} {gens : List Comprehension} {scope : Scope} {pos : Pos} {it acc : Value} {env : Env} {i : Nat}
theorem turn_mid (h0 : gens[i]? = some ⟨t0, i0, ifs0, 0⟩) (h1 : gens[i + 1]? = some ⟨t1, i1, ifs1, 0⟩) : compTurn (.ListComp elt gens scope pos) i it acc env = (do
    standAt i0.pos
    match ← pyNext it with
    | none => pure (.done .next)
    | some v =>
      letOwnedTupleGo t0 it v
      assign t0 env v
      let mut ok := true
      for c in ifs0 do
        if ok then ok ← isTrue c env (eval c env)
      if ok then
        let x ← eval i1 env
        standAt i1.pos
        let x ← foldedSetIterable i1 env x
        let _ ← runOwn (.compStart (.ListComp elt gens scope pos) (i + 1) (← holding [x] (pyIter x)) acc env) env
      again (.compLoop (.ListComp elt gens scope pos) i it acc env)) := by
  unfold compTurn
  simp only [h0, h1]
  rfl
theorem turn_last (h0 : gens[i]? = some ⟨t0, i0, ifs0, 0⟩) (h1 : gens[i + 1]? = none) : compTurn (.ListComp elt gens scope pos) i it acc env = (do
    standAt i0.pos
    match ← pyNext it with
    | none => pure (.done .next)
    | some v =>
      letOwnedTupleGo t0 it v
      assign t0 env v
      let mut ok := true
      for c in ifs0 do
        if ok then ok ← isTrue c env (eval c env)
      if ok then
        (do let _ ← call (.builtin "list.append") [acc, ← eval elt env])
      again (.compLoop (.ListComp elt gens scope pos) i it acc env)) := by
  unfold compTurn
  simp only [h0, h1]
  rfl
end
section
variable {prog : Program} {w : World} {A : Around} {R : Result → Shared → Prop} {s : Shared} {elt t0 i0 t1 i1 : Expr} {ifs0 ifs1 : List Expr} {gens : List Comprehension} {scope : Scope} {pos : Pos} {it acc : Value} {env : Env} {i : Nat}
/-- what is raised in a comprehension's turn -/
def Nb (prog : Program) (w : World) (A : Around) (env : Env) (R : Result → Shared → Prop) : Value → Shared → Prop := notedBy (model prog w) A env fun e s' => R (.error e) s'
/-- the tests of a clause -/
def tests (env : Env) (ifs : List Expr) : Sem Bool := forIn ifs true fun c r => if r = true then do let ok ← isTrue c env (eval c env); pure (ForInStep.yield ok) else pure (ForInStep.yield r)
/-- a turn up to the tests -/
def TurnW (prog : Program) (w : World) (A : Around) (env : Env) (R : Result → Shared → Prop) (t : Expr) (ifs : List Expr) (it : Value) (B N : Shared → Prop) (s : Shared) : Prop :=
  wpAny (model prog w) A (pyNext it) (fun r s1 => match r with
    | none => R (.ok .next) s1
    | some v => wpAny (model prog w) A (letOwnedTupleGo t it v) (fun _ s2 => wpAny (model prog w) A (assign t env v) (fun _ s3 =>
        wpAny (model prog w) A (tests env ifs) (fun ok s4 => if ok = true then B s4 else N s4) (Nb prog w A env R) s3) (Nb prog w A env R) s2) (Nb prog w A env R) s1) (Nb prog w A env R) s
theorem loop_mid (h0 : gens[i]? = some ⟨t0, i0, ifs0, 0⟩) (h1 : gens[i + 1]? = some ⟨t1, i1, ifs1, 0⟩) (hs : ∀ x, foldedSetIterable i1 env x = pure x) (I : Nat → Shared → Prop)
    (turn : ∀ n s, I n s → TurnW prog w A env R t0 ifs0 it (fun s4 => wpAny (model prog w) A (eval i1 env) (fun x s5 => wpAny (model prog w) A (pyIter x) (fun it1 s6 =>
      codeAny (model prog w) A (.compStart (.ListComp elt gens scope pos) (i + 1) it1 acc env) (fun r s' => match r with
        | .ok _ => ∃ m, m < n ∧ I m s'
        | .error _ => False) s6) (Nb prog w A env R) s5) (Nb prog w A env R) s4) (fun s4 => ∃ m, m < n ∧ I m s4) s) (n : Nat) (h : I n s) :
    codeAny (model prog w) A (.compLoop (.ListComp elt gens scope pos) i it acc env) R s := by
  refine codeAny_loop rfl I ?_ n h
  intro n s hI
  show wpAny _ A ((compTurn (.ListComp elt gens scope pos) i it acc env).onRaise (fun x => do noteFrame x env; theTreesLotGoes x)) _ _ s
  refine wpAny_noted ?_
  rw [turn_mid h0 h1]
  have go := turn n s hI
  refine wpAny_bind (wpAny_standAt (wpAny_bind (wpAny_mono go ?_ fun _ _ z => z)))
  intro r s1 g1
  match r, g1 with
  | none, g1 => exact wpAny_pure g1
  | some v, g1 =>
    refine wpAny_bind (wpAny_mono g1 (fun _ s2 g2 => wpAny_bind (wpAny_mono g2 (fun _ s3 g3 => wpAny_bind (wpAny_mono g3 ?_ fun _ _ z => z)) fun _ _ z => z)) fun _ _ z => z)
    intro ok s4 g4
    match ok, g4 with
    | false, g4 => exact wpAny_pure ⟨rfl, g4⟩
    | true, g4 =>
      refine wpAny_bind (wpAny_mono g4 ?_ fun _ _ z => z)
      intro x s5 g5
      refine wpAny_bind (wpAny_standAt (wpAny_bind (wpAny_of_eq (hs x) (wpAny_bind (wpAny_holding (wpAny_mono g5 ?_ fun _ _ z => z))))))
      intro it1 s6 g6
      refine wpAny_bind (wpAny_runOwn ?_)
      rw [Around.mark_none]
      refine codeAny_mono g6 ?_
      intro r s' z
      match r, z with
      | .ok f, z => first | exact wpAny_pure ⟨rfl, z⟩ | exact wpAny_bind (wpAny_pure (wpAny_pure ⟨rfl, z⟩))
theorem loop_last (h0 : gens[i]? = some ⟨t0, i0, ifs0, 0⟩) (h1 : gens[i + 1]? = none) (I : Nat → Shared → Prop)
    (turn : ∀ n s, I n s → TurnW prog w A env R t0 ifs0 it (fun s4 => wpAny (model prog w) A (eval elt env) (fun x s5 => wpAny (model prog w) A (call (.builtin "list.append") [acc, x]) (fun _ s6 => ∃ m, m < n ∧ I m s6) (Nb prog w A env R) s5) (Nb prog w A env R) s4)
      (fun s4 => ∃ m, m < n ∧ I m s4) s) (n : Nat) (h : I n s) : codeAny (model prog w) A (.compLoop (.ListComp elt gens scope pos) i it acc env) R s := by
  refine codeAny_loop rfl I ?_ n h
  intro n s hI
  show wpAny _ A ((compTurn (.ListComp elt gens scope pos) i it acc env).onRaise (fun x => do noteFrame x env; theTreesLotGoes x)) _ _ s
  refine wpAny_noted ?_
  rw [turn_last h0 h1]
  have go := turn n s hI
  refine wpAny_bind (wpAny_standAt (wpAny_bind (wpAny_mono go ?_ fun _ _ z => z)))
  intro r s1 g1
  match r, g1 with
  | none, g1 => exact wpAny_pure g1
  | some v, g1 =>
    refine wpAny_bind (wpAny_mono g1 (fun _ s2 g2 => wpAny_bind (wpAny_mono g2 (fun _ s3 g3 => wpAny_bind (wpAny_mono g3 ?_ fun _ _ z => z)) fun _ _ z => z)) fun _ _ z => z)
    intro ok s4 g4
    match ok, g4 with
    | false, g4 => exact wpAny_pure ⟨rfl, g4⟩
    | true, g4 => exact wpAny_bind (wpAny_bind (wpAny_mono g4 (fun x s5 g5 => wpAny_bind (wpAny_mono g5 (fun _ s6 g6 => wpAny_pure (wpAny_pure ⟨rfl, g6⟩)) fun _ _ z => z)) fun _ _ z => z))
/-- an inner clause's start -/
theorem start_in (h0 : gens[i]? = some ⟨t0, i0, ifs0, 0⟩) (hl : codeAny (model prog w) A (.compLoop (.ListComp elt gens scope pos) i it acc env) R s)
    (hi : wpAny (model prog w) A (pyIter it) (fun it' s' => codeAny (model prog w) A (.compLoop (.ListComp elt gens scope pos) i it' acc env) R s') (Nb prog w A env R) s) : codeAny (model prog w) A (.compStart (.ListComp elt gens scope pos) i it acc env) R s := by
  have hc : (clausesOf (.ListComp elt gens scope pos))[i]? = some ⟨t0, i0, ifs0, 0⟩ := h0
  refine codeAny_of_tree ?_
  show wpAny _ _ ((compStart (.ListComp elt gens scope pos) i it acc env).onRaise (fun x => do noteFrame x env; standAt theWindowsPlace)) _ _ s
  refine wpAny_notedAt ?_
  unfold compStart
  simp only [hc, Option.elim_some]
  show wpAny _ _ (ask >>= _) _ _ s
  refine wpAny_bind (wpAny_askSetting (wpAny_ite ?_))
  split
  · first | exact wpAny_bind (wpAny_pure (wpAny_pure (And.intro rfl hl))) | exact wpAny_pure (And.intro rfl hl)
  · refine wpAny_bind (wpAny_rule ?_)
    show wpAny _ _ (standAt i0.pos >>= _) _ _ s
    exact wpAny_bind (wpAny_standAt (wpAny_bind (wpAny_mono hi (fun it' s' z => wpAny_pure (And.intro rfl z)) fun _ _ z => z)))
end
/-! ### the inner clauses -/
/-- a clause and its readings -/
structure Lv where
  tg : Expr
  iter : Expr
  ifs : List Expr
  wi : TI
  g : TG
  tt : TT
  vs : List Nat
def Lv.c (l : Lv) : Comprehension := ⟨l.tg, l.iter, l.ifs, 0⟩
structure LvOk (Y : Cx) (l : Lv) : Prop where
  pi : PI Y l.tg l.iter l.wi
  pg : PG Y l.tg l.g
  pt : PTs Y l.ifs l.tt
  fs : ∀ x, foldedSetIterable l.iter Y.env x = pure x
def restV : List Lv → List Nat
  | [] => []
  | l :: ls => l.vs ++ restV ls
theorem wipe_app (σ : L2.St) (us : List Nat) : ∀ vs : List Nat, wipe σ (vs ++ us) = wipe (wipe σ us) vs
  | [] => rfl
  | v :: vs => by
    show (wipe σ (vs ++ us)).set v none = (wipe (wipe σ us) vs).set v none
    rw [wipe_app σ us vs]
theorem wipe_two (σ : L2.St) (vs : List Nat) : wipe (wipe σ vs) vs = wipe σ vs := by
  apply wipe_ext
  · rw [wipe_length]
  · intro j hj
    rw [wipe_get, if_neg hj]
def tIn (D : Addr) (te : TE) : List Lv → L2.St → Hp → (Hp → Prop) → Prop
  | [], σ, H, Nx => te σ H fun y H1 => ∃ acc, H1 D = some (.lst acc) ∧ acc.length < sizeLine ∧ Nx (upd H1 D (.lst (acc ++ [y])))
  | l :: ls, σ, H, Nx => l.wi σ H fun J H1 => ∃ W : Nat → Nat → Hp → Prop, (∃ m, W 0 m H1) ∧ ∀ j k H, W j k H → (J.stop j H ∧ Nx H) ∨ (J.go j H ∧ ∃ N1 : Hp → Prop, (∀ H', N1 H' → ∃ k', k' < k ∧ W (j + 1) k' H') ∧
      ∀ x H', J.yld j H x H' → l.g x (wipe σ (restV (l :: ls))) H' fun σ2 H2 => wipe σ2 (restV (l :: ls)) = wipe σ (restV (l :: ls)) ∧ l.tt σ2 H2 fun b H3 => if b = true then tIn D te ls σ2 H3 N1 else N1 H3)
section
variable {Y : Cx} {elt : Expr} {te : TE} {scope : Scope} {pos : Pos} {gens : List Comprehension} {D : Addr}
/-- behind an inner clause -/
def Beh (Y : Cx) (pins : List (Addr × Obj)) (V : List Nat) (σ : L2.St) (Nx : Hp → Prop) (s' : Shared) : Prop := ∃ σ' H', Inv Y pins σ' H' s' ∧ wipe σ' V = wipe σ V ∧ Nx H'
/-- what a turn goes on with -/
def Body (Y : Cx) (elt : Expr) (scope : Scope) (pos : Pos) (gens : List Comprehension) (D : Addr) (R : Result → Shared → Prop) (P : Shared → Prop) (i : Nat) : List Lv → Shared → Prop
  | [], s => wpAny (model Y.prog Y.w) Y.A (eval elt Y.env) (fun x s1 => wpAny (model Y.prog Y.w) Y.A (call (.builtin "list.append") [.ref D, x]) (fun _ s2 => P s2) (Nb Y.prog Y.w Y.A Y.env R) s1) (Nb Y.prog Y.w Y.A Y.env R) s
  | l :: _, s => wpAny (model Y.prog Y.w) Y.A (eval l.iter Y.env) (fun x s1 => wpAny (model Y.prog Y.w) Y.A (pyIter x) (fun it s2 => codeAny (model Y.prog Y.w) Y.A (.compStart (.ListComp elt gens scope pos) i it (.ref D) Y.env) (fun r s' => match r with
      | .ok _ => P s'
      | .error _ => False) s2) (Nb Y.prog Y.w Y.A Y.env R) s1) (Nb Y.prog Y.w Y.A Y.env R) s
/-- the loop of a clause, from what the clauses behind it do -/
theorem loopLv {l : Lv} {ls : List Lv} {i : Nat} (hxe : Y.xe = fun _ _ => False) (hc : Y.calm = true) (hd : gens.drop i = (l :: ls).map Lv.c) (hfs : ∀ l' ∈ ls, ∀ x, foldedSetIterable l'.iter Y.env x = pure x) (opg : PG Y l.tg l.g) (opt : PTs Y l.ifs l.tt)
    (ih : ∀ (pins : List (Addr × Obj)) (σ : L2.St) (H : Hp) (s : Shared) (Nx : Hp → Prop) (R : Result → Shared → Prop) (P : Shared → Prop), Inv Y pins σ H s → tIn D te ls σ H Nx → (∀ s', Beh Y pins (restV ls) σ Nx s' → P s') → Body Y elt scope pos gens D R P (i + 1) ls s)
    {pins : List (Addr × Obj)} {σ : L2.St} {V : List Nat} (hV : restV (l :: ls) = V) {it : Addr} {fp : List Addr} {tn : Nat → Heap → Prop} {J : It} (T : Turn Y.prog Y.w Y.K l.tg J fp it tn) {Nx : Hp → Prop} {R : Result → Shared → Prop}
    (fin : ∀ s', Beh Y pins V σ Nx s' → R (.ok .next) s') {W : Nat → Nat → Hp → Prop} (stat : ∀ {H' : Hp} {s' : Shared} {σ' : L2.St}, Inv Y pins σ' H' s' → (∀ b ∈ fp, H' b = none) → ∀ b ∈ fp, FpOk Y pins H' b)
    (turn : ∀ j k H, W j k H → (J.stop j H ∧ Nx H) ∨ (J.go j H ∧ ∃ N1 : Hp → Prop, (∀ H', N1 H' → ∃ k', k' < k ∧ W (j + 1) k' H') ∧
      ∀ x H', J.yld j H x H' → l.g x (wipe σ V) H' fun σ2 H2 => wipe σ2 V = wipe σ V ∧ l.tt σ2 H2 fun b H3 => if b = true then tIn D te ls σ2 H3 N1 else N1 H3))
    {m0 : Nat} {H2 : Hp} {s2 : Shared} (I2 : Inv Y pins (wipe σ V) H2 s2) (st2 : tn 0 s2.heap) (n2 : ∀ b ∈ fp, H2 b = none) (w0 : W 0 m0 H2) :
    codeAny (model Y.prog Y.w) Y.A (.compLoop (.ListComp elt gens scope pos) i (.ref it) (.ref D) Y.env) R s2 := by
  have h0 : gens[i]? = some l.c := by
    have := congrArg (fun x : List Comprehension => x[0]?) hd
    simpa [List.getElem?_drop] using this
  have hd1 : gens.drop (i + 1) = ls.map Lv.c := by
    have := congrArg List.tail hd
    simpa [List.tail_drop] using this
  have hV' : V = l.vs ++ restV ls := hV.symm
  let Iv : Nat → Shared → Prop := fun k s' => ∃ j H', Inv Y pins (wipe σ V) H' s' ∧ tn j s'.heap ∧ (∀ b ∈ fp, H' b = none) ∧ W j k H'
  have turnW : ∀ n s, Iv n s → TurnW Y.prog Y.w Y.A Y.env R l.tg l.ifs (.ref it) (fun s4 => Body Y elt scope pos gens D R (fun s' => ∃ m, m < n ∧ Iv m s') (i + 1) ls s4) (fun s4 => ∃ m, m < n ∧ Iv m s4) s := by
    intro n s ⟨j, H3, I3, st3, n3, w3⟩
    rcases turn j n H3 w3 with ⟨stop, nx⟩ | ⟨go, N1, hN1, step⟩
    · refine thnF (T.done Y rfl rfl rfl hc j pins s (wipe σ V) H3 (fun _ _ => False) I3 (stat I3 n3) st3 stop) fun r s4 z => ?_
      obtain ⟨rfl, I4⟩ := z
      exact fin s4 ⟨_, _, I4, wipe_two σ V, nx⟩
    · refine thnF (T.item Y rfl rfl rfl hc j pins s (wipe σ V) H3 (fun _ _ => False) I3 (stat I3 n3) st3 go) fun r s4 z => ?_
      obtain ⟨u, rfl, z⟩ := z
      refine thnF z fun _ s5 ⟨x, H5, I5, r5, y5, st5, n5⟩ => ?_
      have I6 := I5.pinned (stat I5 n5) (T.obj _ _ st5)
      have pg := opg.run _ s5 (wipe σ V) H5 x u _ I6 r5 (step x H5 y5)
      rw [hxe] at pg
      refine thnF pg fun _ s6 ⟨σ6, H6, I7, hw6, q6⟩ => ?_
      have pt := opt.run _ s6 σ6 H6 _ I7 q6
      rw [hxe] at pt
      refine thnF pt fun b s7 ⟨H7, I8, q8⟩ => ?_
      have back : ∀ {s' : Shared} {σ' : L2.St} {H' : Hp}, Inv Y (pins ++ pinsAt fp s5.heap) σ' H' s' → wipe σ' (restV ls) = wipe σ6 (restV ls) → N1 H' → ∃ m, m < n ∧ Iv m s' := by
        intro s' σ' H' I' hw' nx
        obtain ⟨m', hm, w'⟩ := hN1 H' nx
        have hw2 : wipe σ' V = wipe σ V := by
          rw [hV', wipe_app, hw', ← wipe_app, ← hV']; exact hw6
        have pin' : ∀ b ∈ fp, ∀ ob, s5.heap.get? b = some ob → s'.heap.get? b = some ob ∧ H' b = none := fun b hb ob e =>
          let z := I'.pin (b, ob) (List.mem_append_right _ (List.mem_append_right _ (mem_pinsAt hb e)))
          ⟨z.1, z.2.1⟩
        refine ⟨m', hm, j + 1, H', I'.unpinned.weak ?_ ?_, T.keep _ _ _ st5 fun b hb ob e => (pin' b hb ob e).1, fun b hb => ?_, w'⟩
        · rw [← hw2, wipe_length]
        · intro k v e
          rw [← hw2] at e
          exact (wipe_some e).1
        · obtain ⟨ob, e, _⟩ := T.obj _ _ st5 b hb
          exact (pin' b hb ob e).2
      match b, q8 with
      | false, q8 => exact back I8 rfl q8
      | true, q8 => exact ih _ σ6 H7 s7 N1 R _ I8 q8 fun s' ⟨σ', H', I', hw', nx⟩ => back I' hw' nx
  match ls, hd1, turnW, hfs with
  | [], hd1, turnW, _ =>
    have h1 : gens[i + 1]? = none := by
      have := congrArg (fun x : List Comprehension => x[0]?) hd1
      simpa [List.getElem?_drop] using this
    exact loop_last h0 h1 Iv turnW m0 ⟨0, H2, I2, st2, n2, w0⟩
  | l' :: ls', hd1, turnW, hfs =>
    have h1 : gens[i + 1]? = some l'.c := by
      have := congrArg (fun x : List Comprehension => x[0]?) hd1
      simpa [List.getElem?_drop] using this
    exact loop_mid h0 h1 (hfs l' (by simp)) Iv turnW m0 ⟨0, H2, I2, st2, n2, w0⟩
theorem inner (hxe : Y.xe = fun _ _ => False) (hc : Y.calm = true) (he : PE Y elt te) : ∀ (ls : List Lv) (i : Nat), gens.drop i = ls.map Lv.c → (∀ l ∈ ls, LvOk Y l) → ∀ (pins : List (Addr × Obj)) (σ : L2.St) (H : Hp) (s : Shared) (Nx : Hp → Prop) (R : Result → Shared → Prop) (P : Shared → Prop),
    Inv Y pins σ H s → tIn D te ls σ H Nx → (∀ s', Beh Y pins (restV ls) σ Nx s' → P s') → Body Y elt scope pos gens D R P i ls s
  | [], i, hd, ok, pins, σ, H, s, Nx, R, P, I, q, fin => by
    have run := he.run pins s σ H _ I q
    rw [hxe] at run
    refine thnF run fun x s1 z => ?_
    obtain ⟨y, H1, I1, r1, acc, h1, h2, h3⟩ := z
    exact L2.app_ok (X := Y) I1 h1 h2 r1 fun s2 I2 => fin s2 ⟨σ, _, I2, rfl, h3⟩
  | l :: ls, i, hd, ok, pins, σ, H, s, Nx, R, P, I, q, fin => by
    have o := ok l List.mem_cons_self
    have h0 : gens[i]? = some l.c := by
      have := congrArg (fun x : List Comprehension => x[0]?) hd
      simpa [List.getElem?_drop] using this
    have hd1 : gens.drop (i + 1) = ls.map Lv.c := by
      have := congrArg List.tail hd
      simpa [List.tail_drop] using this
    have run := o.pi.run pins s σ H _ I q
    rw [hxe] at run
    refine thnF run fun xv s1 hx => thnF hx fun itv s2 h2 => ?_
    obtain ⟨it, fp, tn, J, H2, e, I2, T, st2, f2, W, ⟨m0, w0⟩, turn⟩ := h2
    subst e
    have loop := loopLv (D := D) (te := te) (elt := elt) (scope := scope) (pos := pos) (R := fun r s' => match r with
        | .ok _ => P s'
        | .error _ => False) hxe hc hd (fun l' hl' => (ok l' (List.mem_cons_of_mem _ hl')).fs) o.pg o.pt (inner hxe hc he ls (i + 1) hd1 fun l' hl' => ok l' (List.mem_cons_of_mem _ hl')) rfl T (fun s' z => fin s' z)
        (fun _ hn b hb => ⟨hn b hb, (f2 b hb).2⟩) turn (I2.weak (wipe_length _ _) (fun j v e => (wipe_some e).1)) st2 (fun b hb => (f2 b hb).1) w0
    exact start_in h0 loop (T.self Y.A 0 _ _ _ st2 loop)
end
/-! ### the whole -/
def tLcN (wi : TI) (l : Lv) (ls : List Lv) (te : TE) : TE := fun σ H Q => wi σ H fun J H1 => ∀ D, H1 D = none → ∃ W : Nat → Nat → Hp → Prop, (∃ m, W 0 m (upd H1 D (.lst []))) ∧ ∀ j k H, W j k H →
  (J.stop j H ∧ Q (.ref D) H) ∨ (J.go j H ∧ ∃ N1 : Hp → Prop, (∀ H', N1 H' → ∃ k', k' < k ∧ W (j + 1) k' H') ∧
    ∀ x H', J.yld j H x H' → l.g x (wipe σ (restV (l :: ls))) H' fun σ2 H2 => wipe σ2 (restV (l :: ls)) = wipe σ (restV (l :: ls)) ∧ l.tt σ2 H2 fun b H3 => if b = true then tIn D te ls σ2 H3 N1 else N1 H3)
section
variable {X : Cx} {elt : Expr} {te : TE} {scope : Scope} {pos : Pos} {own : List (Str × Nat)} {l : Lv} {ls : List Lv} {wi : TI}
theorem pe_lcN (hc : X.calm = true) (hN : X.N.Nodup) (hi : PI X l.tg l.iter wi) (hs : ∀ x, foldedSetIterable l.iter X.env x = pure x) (ok : BlkOk X.N X.env.scope scope own) (hV : restV (l :: ls) = own.map (·.2))
    (hl : ∀ (s : Shared) (H : Hp) (C : Addr) (cl : List (Str × Addr)) (fp : List Addr), let Y := X.blk s H scope (compEnvC scope cl C X.env) fp; PG Y l.tg l.g ∧ PTs Y l.ifs l.tt ∧ PE Y elt te ∧ ∀ l' ∈ ls, LvOk Y l') :
    PE X (.ListComp elt (l.c :: ls.map Lv.c) scope pos) (tLcN wi l ls te) := by
  refine ⟨fun pins s σ H Q I h => ?_⟩
  rw [eval_ListComp]
  have hfree : ∀ y ∈ scope.names, y.2 = .free → ∃ c, X.env.cells.lookup y.1 = some c := fun y hy e => (ok.free y hy e).elim (fun k => I.ok.has _ (.inl k)) fun k => I.ok.has _ (.inr k)
  refine wpAny_comprehension_free (g := l.c) (gs := ls.map Lv.c) rfl hs (closure_ok hfree) ok.kind (fun y hy e => by rw [ok.uniq y hy, e]) (thn (hi.run pins s σ H _ I h) fun xv s1 hx => thn hx fun itv s2 h2 => ?_)
  obtain ⟨it, fp, tn, J, H2, e, I2, T, st2, f2, q⟩ := h2
  subst e
  refine wpAny_newObj_type (newEnv_comp ?_) (by show 0 ≤ sizeLine; decide)
  generalize hD : s2.heap.objs.size = D
  have hDn : H2 D = none := I2.hok.fresh (Nat.le_of_eq hD)
  obtain ⟨W, ⟨m0, w0⟩, turn⟩ := q D hDn
  generalize hs3 : ({ s2 with heap := s2.heap.push { cls := .type "list", data := .seq ([] : List Value).toArray } } : Shared) = s3
  have h3 : s3.heap = s2.heap.push { cls := .type "list", data := .seq ([] : List Value).toArray } := by rw [← hs3]
  have I3 : Inv X pins σ (upd H2 D (.lst [])) s3 := by
    rw [← hs3]
    refine I2.laid (t' := s2.toks) (fun b o e => Heap.get?_push_of_some _ e) (Nat.le_of_eq hD) ⟨Nat.zero_le _, [], 0, .nil, ?_⟩
    rw [← hD]
    exact Heap.get?_push_size _ rfl
  have lt2 : ∀ b ∈ fp, b < s2.heap.objs.size := fun b hb => let ⟨o, e, _⟩ := T.obj _ _ st2 b hb; Heap.lt_size e
  have f3 : ∀ b ∈ fp, FpOk X pins (upd H2 D (.lst [])) b ∧ b < s3.heap.objs.size := fun b hb => by
    have hlt := lt2 b hb
    refine ⟨⟨?_, (f2 b hb).2⟩, by rw [h3, Heap.size_push]; exact Nat.lt_succ_of_lt hlt⟩
    rw [upd_ne (by rw [← hD]; exact Nat.ne_of_lt hlt)]
    exact (f2 b hb).1
  have st3 : tn 0 s3.heap := T.keep _ _ _ st2 fun b _ o e => by rw [h3]; exact Heap.get?_push_of_some _ e
  have I4 := block_start I3 ok hN f3
  have hY := hl s3 (upd H2 D (.lst [])) s3.heap.objs.size (cellsFrom (s3.heap.objs.size + 1) scope.names (cloFrom X.env.cells scope.names [])) fp
  show codeAny _ _ (.compStart (.ListComp elt (l.c :: ls.map Lv.c) scope pos) 0 (.ref it) (.ref D) (compEnvC scope (cellsFrom (s3.heap.objs.size + 1) scope.names (cloFrom X.env.cells scope.names [])) s3.heap.objs.size X.env)) (compPost (model X.prog X.w) X.A X.xe none _ (.ref D) s3.heap.objs.size) { s3 with heap := pushCells (s3.heap.push { cls := .type "dict", data := .dict #[] }) scope.names }
  have nfp : ∀ b ∈ fp, (upd H2 D (.lst [])) b = none := fun b hb => (f3 b hb).1.1
  generalize hce : compEnvC scope (cellsFrom (s3.heap.objs.size + 1) scope.names (cloFrom X.env.cells scope.names [])) s3.heap.objs.size X.env = ce at I4 hY ⊢
  have cL : ce.locals = s3.heap.objs.size := by subst hce; rfl
  generalize hs4 : ({ s3 with heap := pushCells (s3.heap.push { cls := .type "dict", data := .dict #[] }) scope.names } : Shared) = s4 at I4 ⊢
  have st4 : tn 0 s4.heap := T.keep _ _ _ st3 fun b _ o e => by rw [← hs4]; exact pushCells_keeps _ _ _ _ (Heap.get?_push_of_some _ e)
  obtain ⟨y1, y2, y3, y4⟩ := hY
  have loop := loopLv (Y := X.blk s3 (upd H2 D (.lst [])) scope ce fp) (l := l) (ls := ls) (i := 0) (D := D) (te := te) (elt := elt) (scope := scope) (pos := pos) (gens := l.c :: ls.map Lv.c) (pins := []) (σ := σ) (V := own.map (·.2)) (fp := fp) (tn := tn) (J := J) (it := it)
    (Nx := fun H' => Q (.ref D) H') (R := compPost (model X.prog X.w) X.A X.xe none (EP X pins σ Q) (.ref D) s3.heap.objs.size) (W := W) (m0 := m0) (H2 := upd H2 D (.lst [])) (s2 := s4)
    rfl hc rfl (fun l' hl' => (y4 l' hl').fs) y1 y2 (inner (Y := X.blk s3 (upd H2 D (.lst [])) scope ce fp) rfl hc y3 ls 1 rfl y4) hV T ?fin ?stat (by rw [← hV]; exact turn) I4 st4 nfp w0
  case fin =>
    rintro s6 ⟨σ', H5, I6, hw, qq⟩
    have I7 : Inv X pins σ H5 s6 := I3.call' (ch := fp) I6.os I6.base I6.hok I6.bare fun b hb => ⟨(f3 b hb).1.2.2.2.1, (f3 b hb).1.2.1, (f3 b hb).1.2.2.2.2.1, (f3 b hb).1.2.2.2.2.2⟩
    have nC : H5 s3.heap.objs.size = none := by
      have z : H5 ce.locals = none := I6.free
      rwa [cL] at z
    obtain ⟨m, hn, _⟩ := I6.loc
    have hn : s6.heap.Ns ce.locals m := hn
    rw [cL] at hn
    obtain ⟨g0, g1, g2, g3, g4, g5⟩ := I3.fpOk (Nat.le_refl _) nC
    exact ⟨m, hn, fun h'' sb => ⟨.ref D, H5, I7.turned (t' := s6.toks) (fun b o hb e => (sb.2 b hb).trans e) nC g1 g3 g4 g5, rfl, qq⟩⟩
  case stat =>
    intro H' s' σ' I' hn b hb
    exact ⟨hn b hb, (I'.ok.exf b hb).1, I'.ok.exfs b hb, .inl hb, fun x c e => (I'.ok.exf b hb).2 x c e, fun p hp => absurd (show p ∈ ([] : List (Addr × Obj)) ++ [] from hp) (by simp)⟩
  exact codeAny_compStart_list loop (T.self X.A 0 _ _ _ st4 loop)
end
end DL
/-! DLs: comprehensions with any number of fors, by data. -/
namespace DL
open PySem PySem.Spec PyProof.Rows L2
/-- a source as it runs -/
def tI (X : Cx) (tg iter : Expr) : TI := fun σ H R => ∀ pins s, Inv X pins σ H s → wpAny (model X.prog X.w) X.A (eval iter X.env) (fun v s1 => wpAny (model X.prog X.w) X.A (pyIter v) (PIE X pins σ tg R) X.xe s1) X.xe s
theorem pi_tI {X : Cx} {tg iter : Expr} : PI X tg iter (tI X tg iter) := ⟨fun pins s σ H R I h => h pins s I⟩
theorem WI.ev {X : Cx} {tg iter : Expr} {env : DEnv} {C : CS} {kI : KI} (h : WI X tg iter env C kI) : EvI X.K (tI X tg iter) env C kI := fun G σ H R w er q pins s I => by
  obtain ⟨wi, hi, hw⟩ := h
  exact hi.run pins s σ H R I (hw G σ H R w er q)
/-- a clause by syntax: its target's reading and its names -/
structure Cl where
  tg : Expr
  iter : Expr
  ifs : List Expr
  g : TG
  vs : List Nat
def Cl.lv (X : Cx) (scope : Scope) (c : Cl) : Lv := ⟨c.tg, c.iter, c.ifs, fun σ H R => ∀ X', Blk X scope X' → tI X' c.tg c.iter σ H R, c.g, fun σ H Q => ∀ X', Blk X scope X' → tPIf X' c.ifs σ H Q, c.vs⟩
def restC (cs : List Cl) : List Nat := (cs.map (·.vs)).flatten
theorem restV_lv {X : Cx} {scope : Scope} : ∀ cs : List Cl, restV (cs.map (Cl.lv X scope)) = restC cs
  | [] => rfl
  | c :: cs => by
    show c.vs ++ restV (cs.map (Cl.lv X scope)) = _
    rw [restV_lv cs]; rfl
def DIn (X : Cx) (scope : Scope) (elt : Expr) : List Cl → DEnv → List D → CS → (List D → CS → Prop) → Prop
  | [], env, acc, C, k => ∀ X', Blk X scope X' → WE X' elt env C fun y C1 => acc.length < sizeLine ∧ k (acc ++ [y]) C1
  | c :: cs, env, acc, C, k => ∀ X', Blk X scope X' → WI X' c.tg c.iter env C fun xs Pc C1 => ∃ Iv : Nat → List D → CS → Prop, Iv 0 acc C1 ∧ (∀ j acc C, Iv j acc C → Pc C) ∧
      (∀ j d acc C, xs[j]? = some d → Iv j acc C → EvGW X.K c.g (restC (c :: cs)) d env C fun env2 C2 => ∀ X', Blk X scope X' → WIf X' c.ifs env2 C2 fun t C3 => (t = true → DIn X scope elt cs env2 acc C3 (Iv (j + 1))) ∧ (t = false → Iv (j + 1) acc C3)) ∧
      (∀ acc C, Iv xs.length acc C → k acc C)
/-- the world with the hidden list -/
structure Hd (K : PySem.W.Frag) (G0 : Hp) (C0 : CS) (H0 : Hp) (Da : Addr) (G : Hp) (C : CS) (H : Hp) (acc : List D) : Prop where
  f : Fr G0 C0 H0 G C H
  w : Wld K G C H
  l : ∃ vs, H Da = some (.lst vs) ∧ DatAll K G vs acc
  c : C Da = none
  g : G Da = none
section
variable {K : PySem.W.Frag} {G0 H0 : Hp} {C0 : CS} {Da : Addr} {G H G' H' : Hp} {C C' : CS} {acc : List D}
theorem Hd.step (h : Hd K G0 C0 H0 Da G C H acc) (f : Fr G C H G' C' H') (w : Wld K G' C' H') : Hd K G0 C0 H0 Da G' C' H' acc := by
  obtain ⟨vs, h1, h2⟩ := h.l
  refine ⟨h.f.trans f, w, ⟨vs, f.keep _ _ h1 h.c (by intro _ z; cases z), h2.mono f.exG⟩, ?_, ?_⟩
  · cases e : C' Da with
    | none => rfl
    | some c => exact absurd h.c (f.newC Da (by rw [h1]; simp) (by rw [e]; simp))
  · cases e : G' Da with
    | none => rfl
    | some c => exact ((f.newG Da (by rw [h1]; simp) (by rw [e]; simp)).elim (fun z => z h.g) fun z => z h.c).elim
theorem Hd.add (hD : H0 Da = none) (h : Hd K G0 C0 H0 Da G C H acc) {v : V} {y : D} {vs : List V} (hv : H Da = some (.lst vs)) (r : DatAll K G vs acc) (ry : Dat K G v y) : Hd K G0 C0 H0 Da G C (upd H Da (.lst (vs ++ [v]))) (acc ++ [y]) := by
  refine ⟨⟨h.f.exG, fun a o e c nt => ?_, fun a e => ?_, h.f.newC, h.f.newG⟩, ⟨fun a o e => by rw [upd_ne (ne_of_none e h.g)]; exact h.w.ex a o e, fun a c e => ?_, h.w.nt⟩, ⟨_, upd_same, r.append (.cons ry .nil)⟩, h.c, h.g⟩
  · by_cases q : a = Da
    · subst q; rw [hD] at e; cases e
    · rw [upd_ne q]; exact h.f.keep a o e c nt
  · by_cases q : a = Da
    · subst q; rw [upd_same]; simp
    · rw [upd_ne q]; exact h.f.dom a e
  · obtain ⟨h1, h2⟩ := h.w.cell a c e
    exact ⟨h1, h2.mono (fun _ _ h => h) (upd_ne (cell_ne e h.c))⟩
end
section
variable {X : Cx} {scope : Scope} {elt : Expr} {G0 H0 : Hp} {C0 : CS} {Da : Addr}
theorem inD (hD : H0 Da = none) : ∀ (cs : List Cl) (env : DEnv) (acc : List D) (C : CS) (k : List D → CS → Prop) (σ : L2.St) (G H : Hp) (Nx : Hp → Prop), Hd X.K G0 C0 H0 Da G C H acc → EnvR X.K G env σ → DIn X scope elt cs env acc C k →
    (∀ G' C' H' acc', Same G G' → Hd X.K G0 C0 H0 Da G' C' H' acc' → k acc' C' → Nx H') → tIn Da (fun σ H Q => ∀ X', Blk X scope X' → tS X' elt σ H Q) (cs.map (Cl.lv X scope)) σ H Nx
  | [], env, acc, C, k, σ, G, H, Nx, hd, er, h, fin => fun X' hX => by
    have h1 := h X' hX
    obtain ⟨s, H1, Ca, cl, fp, rfl⟩ := hX
    refine h1 G σ H _ hd.w er fun y G6 C6 H6 d6 f6 w6 r6 z => ?_
    have hd6 := hd.step f6 w6
    obtain ⟨vs, hv, hr⟩ := hd6.l
    exact ⟨vs, hv, by rw [hr.length]; exact z.1, fin _ _ _ _ f6.exG (hd6.add hD hv hr r6) z.2⟩
  | c :: cs, env, acc, C, k, σ, G, H, Nx, hd, er, h, fin => fun X' hX => by
    have h1 := (h X' hX).ev
    obtain ⟨s, H1, Ca, cl, fp, rfl⟩ := hX
    refine h1 G σ H _ hd.w er fun J G1 C1 H1 xs Pc f1 w1 it z => ?_
    obtain ⟨Iv, i0, hP, turn, done⟩ := z
    have hd1 := hd.step f1 w1
    refine ⟨fun i m H2 => m = xs.length - i ∧ i ≤ xs.length ∧ ∃ G2 C2 acc2, Same G1 G2 ∧ Hd X.K G0 C0 H0 Da G2 C2 H2 acc2 ∧ Iv i acc2 C2, ⟨xs.length, rfl, Nat.zero_le _, G1, C1, acc, fun _ _ h => h, hd1, i0⟩, ?_⟩
    rintro i m H2 ⟨rfl, hi2, G2, C2, acc2, s2, hd2, i2⟩
    obtain ⟨go, stop⟩ := it G2 C2 H2 s2 hd2.w (hP _ _ _ i2)
    by_cases hlt : i < xs.length
    · obtain ⟨hgo, hy⟩ := go i xs[i] (by simp [hlt])
      refine .inr ⟨hgo, fun H' => i + 1 ≤ xs.length ∧ ∃ G2 C2 acc2, Same G1 G2 ∧ Hd X.K G0 C0 H0 Da G2 C2 H' acc2 ∧ Iv (i + 1) acc2 C2, fun H' z => ⟨xs.length - (i + 1), by omega, rfl, z⟩, fun x H3 hx => ?_⟩
      obtain ⟨G3, f3, w3, r3⟩ := hy x H3 hx
      have hd3 := hd2.step f3 w3
      have t1 := turn i xs[i] acc2 C2 (by simp [hlt]) i2 G3 σ H3 x
      change c.g x (wipe σ (restV (Cl.lv X scope c :: cs.map (Cl.lv X scope)))) H3 _
      rw [show restV (Cl.lv X scope c :: cs.map (Cl.lv X scope)) = restC (c :: cs) from restV_lv (c :: cs)]
      refine t1 _ w3 (er.mono (f1.exG.trans (s2.trans f3.exG))) r3 ?_
      intro G4 C4 H4 σ4 env4 f4 w4 er4 h4 X' hX
      have h5 := h4 X' hX
      have hd4 := hd3.step f4 w4
      obtain ⟨s0, H00, Ca, cl, fp, rfl⟩ := hX
      refine h5 G4 σ4 H4 _ w4 er4 fun t G5 C5 H5 f5 w5 ht => ?_
      have hd5 := hd4.step f5 w5
      have s5 : Same G1 G5 := s2.trans (f3.exG.trans (f4.exG.trans f5.exG))
      cases t with
      | true => exact iteT (inD hD cs env4 acc2 C5 (Iv (i + 1)) σ4 G5 H5 _ hd5 (er4.mono f5.exG) (ht.1 rfl) fun G' C' H' acc' ss hh kk => ⟨hlt, G', C', acc', s5.trans ss, hh, kk⟩)
      | false => exact iteF ⟨hlt, G5, C5, acc2, s5, hd5, ht.2 rfl⟩
    · have e : i = xs.length := by omega
      subst e
      exact .inl ⟨stop _ (Nat.le_refl _), fin _ _ _ _ (f1.exG.trans s2) hd2 (done acc2 C2 i2)⟩
/-- the whole, by data -/
def WIn (X : Cx) (scope : Scope) (elt : Expr) (c : Cl) (cs : List Cl) (env : DEnv) (C : CS) (k : KD) : Prop := WI X c.tg c.iter env C fun xs Pc C1 => ∃ Iv : Nat → List D → CS → Prop, Iv 0 [] C1 ∧ (∀ j acc C, Iv j acc C → Pc C) ∧
  (∀ j d acc C, xs[j]? = some d → Iv j acc C → EvGW X.K c.g (restC (c :: cs)) d env C fun env2 C2 => ∀ X', Blk X scope X' → WIf X' c.ifs env2 C2 fun t C3 => (t = true → DIn X scope elt cs env2 acc C3 (Iv (j + 1))) ∧ (t = false → Iv (j + 1) acc C3)) ∧
  (∀ acc C, Iv xs.length acc C → ∀ p, C p = none → k (.own p) (put C p (.lst acc)))
theorem ev_lcN {c : Cl} {cs : List Cl} {env : DEnv} {C : CS} {k : KD} (h : WIn X scope elt c cs env C k) :
    Ev X.K (tLcN (tI X c.tg c.iter) (c.lv X scope) (cs.map (Cl.lv X scope)) (fun σ H Q => ∀ X', Blk X scope X' → tS X' elt σ H Q)) env C k := fun G σ H Q w er q => by
  refine WI.ev h G σ H _ w er fun J G1 C1 H1 xs Pc f1 w1 it z Da hD => ?_
  obtain ⟨Iv, i0, hP, turn, done⟩ := z
  have hn := w1.ne hD
  have h0 : H Da = none := by
    cases e : H Da with
    | none => rfl
    | some o => exact absurd hD (f1.dom Da (by rw [e]; simp))
  have hd1 : Hd X.K G C H Da G1 C1 (upd H1 Da (.lst [])) [] := ⟨f1.trans (Fr.fresh hD), ⟨fun a o e => by rw [upd_ne (ne_of_none e hn.1)]; exact w1.ex a o e, fun a c e => by
    obtain ⟨h1, h2⟩ := w1.cell a c e
    exact ⟨h1, h2.mono (fun _ _ h => h) (upd_ne (cell_ne e hn.2))⟩, w1.nt⟩, ⟨[], upd_same, .nil⟩, hn.2, hn.1⟩
  refine ⟨fun i m H2 => m = xs.length - i ∧ i ≤ xs.length ∧ ∃ G2 C2 acc2, Same G1 G2 ∧ Hd X.K G C H Da G2 C2 H2 acc2 ∧ Iv i acc2 C2, ⟨xs.length, rfl, Nat.zero_le _, G1, C1, [], fun _ _ h => h, hd1, i0⟩, ?_⟩
  rintro i m H2 ⟨rfl, hi2, G2, C2, acc2, s2, hd2, i2⟩
  obtain ⟨go, stop⟩ := it G2 C2 H2 s2 hd2.w (hP _ _ _ i2)
  by_cases hlt : i < xs.length
  · obtain ⟨hgo, hy⟩ := go i xs[i] (by simp [hlt])
    refine .inr ⟨hgo, fun H' => i + 1 ≤ xs.length ∧ ∃ G2 C2 acc2, Same G1 G2 ∧ Hd X.K G C H Da G2 C2 H' acc2 ∧ Iv (i + 1) acc2 C2, fun H' z => ⟨xs.length - (i + 1), by omega, rfl, z⟩, fun x H3 hx => ?_⟩
    obtain ⟨G3, f3, w3, r3⟩ := hy x H3 hx
    have hd3 := hd2.step f3 w3
    have t1 := turn i xs[i] acc2 C2 (by simp [hlt]) i2 G3 σ H3 x
    change c.g x (wipe σ (restV (Cl.lv X scope c :: cs.map (Cl.lv X scope)))) H3 _
    rw [show restV (Cl.lv X scope c :: cs.map (Cl.lv X scope)) = restC (c :: cs) from restV_lv (c :: cs)]
    refine t1 _ w3 (er.mono (f1.exG.trans (s2.trans f3.exG))) r3 ?_
    intro G4 C4 H4 σ4 env4 f4 w4 er4 h4 X' hX
    have h5 := h4 X' hX
    have hd4 := hd3.step f4 w4
    obtain ⟨s0, H00, Ca, cl, fp, rfl⟩ := hX
    refine h5 G4 σ4 H4 _ w4 er4 fun t G5 C5 H5 f5 w5 ht => ?_
    have hd5 := hd4.step f5 w5
    have s5 : Same G1 G5 := s2.trans (f3.exG.trans (f4.exG.trans f5.exG))
    cases t with
    | true => exact iteT (inD h0 cs env4 acc2 C5 (Iv (i + 1)) σ4 G5 H5 _ hd5 (er4.mono f5.exG) (ht.1 rfl) fun G' C' H' acc' ss hh kk => ⟨hlt, G', C', acc', s5.trans ss, hh, kk⟩)
    | false => exact iteF ⟨hlt, G5, C5, acc2, s5, hd5, ht.2 rfl⟩
  · have e : i = xs.length := by omega
    subst e
    obtain ⟨vs, hv, hr⟩ := hd2.l
    obtain ⟨F, w3⟩ := hd2.w.claim hd2.f h0 hv hr hd2.c hd2.g
    exact .inl ⟨stop _ (Nat.le_refl _), q _ _ _ _ _ F w3 (.own Da) (done acc2 C2 i2 Da hd2.c)⟩
theorem we_lcN {own : List (Str × Nat)} {c : Cl} {cs : List Cl} {env : DEnv} {C : CS} {k : KD} {pos : Pos} (hc : X.calm = true) (hN : X.N.Nodup) (ok : BlkOk X.N X.env.scope scope own) (hV : restC (c :: cs) = own.map (·.2))
    (hg : ∀ Y, Blk X scope Y → PG Y c.tg c.g ∧ ∀ c' ∈ cs, PG Y c'.tg c'.g) (hfs : ∀ Y, Blk X scope Y → ∀ c' ∈ cs, ∀ x, foldedSetIterable c'.iter Y.env x = pure x) (hs : ∀ x, foldedSetIterable c.iter X.env x = pure x)
    (h : WIn X scope elt c cs env C k) : WE X (.ListComp elt (⟨c.tg, c.iter, c.ifs, 0⟩ :: cs.map fun c' => ⟨c'.tg, c'.iter, c'.ifs, 0⟩) scope pos) env C k := by
  have p := pe_lcN (X := X) (elt := elt) (te := fun σ H Q => ∀ X', Blk X scope X' → tS X' elt σ H Q) (pos := pos) (l := c.lv X scope) (ls := cs.map (Cl.lv X scope)) hc hN pi_tI hs ok (by rw [← hV]; exact restV_lv (c :: cs)) (fun s H Ca cl fp => by
    have hb : Blk X scope (X.blk s H scope (compEnvC scope cl Ca X.env) fp) := ⟨s, H, Ca, cl, fp, rfl⟩
    obtain ⟨g1, g2⟩ := hg _ hb
    refine ⟨g1, ⟨fun pins s' σ H Q I z => z _ hb pins s' I⟩, ⟨fun pins s' σ H Q I z => z _ hb pins s' I⟩, fun l' hl' => ?_⟩
    obtain ⟨c', hc', rfl⟩ := List.mem_map.mp hl'
    exact ⟨⟨fun pins s' σ H R I z => z _ hb pins s' I⟩, g2 c' hc', ⟨fun pins s' σ H Q I z => z _ hb pins s' I⟩, hfs _ hb c' hc'⟩)
  have e : (c.lv X scope).c :: (cs.map (Cl.lv X scope)).map Lv.c = (⟨c.tg, c.iter, c.ifs, 0⟩ : Comprehension) :: cs.map fun c' => ⟨c'.tg, c'.iter, c'.ifs, 0⟩ := by rw [List.map_map]; rfl
  rw [← e]
  exact .of p (ev_lcN h)
end
theorem wi_ls {X : Cx} {tg e : Expr} {env : DEnv} {C : CS} {kI : KI} (h : WE X e env C fun d C1 => ∃ xs, seqR C1 d = some xs ∧ kI xs (ownP d xs) C1) : WI X tg e env C kI := by
  refine wi_list (h.imp ?_)
  rintro d C1 ⟨xs, hs, hk⟩
  refine ⟨xs, hs, ?_⟩
  have e1 : (∀ a, d ≠ .own a) → ownP d xs = fun _ => True := fun hn => by
    funext C2
    exact propext ⟨fun _ => trivial, fun _ a z => absurd z (hn a)⟩
  cases d with
  | own a =>
    have : ownP (.own a) xs = fun C2 => C2 a = some (.lst xs) := by
      funext C2
      exact propext ⟨fun z => z a rfl, fun z b e => by cases e; exact z⟩
    rw [this] at hk
    exact hk
  | lst ys => rw [e1 (fun _ => by simp)] at hk; exact hk
  | slst ys => rw [e1 (fun _ => by simp)] at hk; exact hk
  | _ => simp [seqR] at hs
end DL
/-! DLt: what is made and then stands still: lists frozen wherever they are made; == of lists' cells; repr's bound. -/
namespace DL
open PySem PySem.Spec PyProof.Rows L2 RZ
/-- a value is taken on, a list's cell frozen -/
def FrzA (k : KD) : KD := fun d C1 => (∃ a ds, d = .own a ∧ C1 a = some (.lst ds) ∧ k (.lst ds) (del C1 a)) ∨ ((∀ a, d ≠ .own a) ∧ k d C1)
theorem ev_frzA {K : PySem.W.Frag} {te : TE} {env : DEnv} {C : CS} {k : KD} (h : Ev K te env C (FrzA k)) : Ev K te env C k := fun G σ H Q w er q =>
  h G σ H _ w er fun v G1 C1 H1 d f1 w1 d1 hb => by
    rcases hb with ⟨a, ds, rfl, hc, h2⟩ | ⟨_, h2⟩
    · cases d1
      obtain ⟨G2, w2, f2, r2⟩ := w1.freeze hc
      exact q _ _ _ _ _ (f1.trans f2) w2 r2 h2
    · exact q _ _ _ _ _ f1 w1 d1 h2
section
variable {X : Cx} {e a b : Expr} {es : List Expr} {env : DEnv} {C : CS} {k : KD} {pos p p1 p2 : Pos} {P : Program} {w : World} {K : PySem.W.Frag} {mg : Str → Option Value} {base : Heap} {m : Nat}
theorem we_fa (h : WE X e env C (FrzA k)) : WE X e env C k := ev_frzA h
theorem x_addA (h : WE X a env C fun x C1 => WE X b env C1 fun y C2 => dAdd x y C2 (FrzA k)) : WE X (.BinOp a .Add b pos) env C k := we_fa (we_add h)
theorem x_mulA (h : WE X a env C fun x C1 => WE X b env C1 fun y C2 => dMul x y C2 (FrzA k)) : WE X (.BinOp a .Mult b pos) env C k := we_fa (we_mul h)
theorem x_sliceA {lo hi : Option Expr} {p2 : Pos} (h : WE X a env C fun x C1 => WO X lo env C1 fun l C2 => WO X hi env C2 fun u C3 => dSl x l u C3 (FrzA k)) : WE X (.Subscript a (.Slice lo hi none p2) pos) env C k := we_fa (we_slice h)
theorem x_listA (hx : Ctx P w K mg base m X) (Z : Zs mg) (hg : Gl X "list") (h : WA X (e :: es) env C fun ds C1 => dList ds C1 (FrzA k)) (he : starEach (e :: es) X.env = (false, eval e X.env) :: starEach es X.env := by rfl) (hpl : (backTo pos (starEach es X.env)).any (·.1) = false := by rfl) : WE X (.Call (.Name "list" p) (e :: es) [] pos) env C k := we_fa (x_listC hx Z hg h he hpl)
end
section
variable {C : CS} {k : KD} {x : D} {xs ys : List D} {i j : Int} {p : Addr} {s t : Str} {lo hi : Option Int} {b : Bool}
theorem fa_int (q : k (.int i) C) : FrzA k (.int i) C := .inr ⟨fun _ z => (by cases z), q⟩
theorem fa_str (q : k (.str s) C) : FrzA k (.str s) C := .inr ⟨fun _ z => (by cases z), q⟩
theorem fa_bl (q : k (.bl b) C) : FrzA k (.bl b) C := .inr ⟨fun _ z => (by cases z), q⟩
theorem fa_non (q : k .non C) : FrzA k .non C := .inr ⟨fun _ z => (by cases z), q⟩
theorem fa_tup (q : k (.tup xs) C) : FrzA k (.tup xs) C := .inr ⟨fun _ z => (by cases z), q⟩
theorem fa_lst (q : k (.lst xs) C) : FrzA k (.lst xs) C := .inr ⟨fun _ z => (by cases z), q⟩
theorem fa_put (h : C p = none) (q : k (.lst xs) C) : FrzA k (.own p) (put C p (.lst xs)) := .inl ⟨p, xs, rfl, put_same, by rw [del_put h]; exact q⟩
theorem slA_o {a : Addr} (hc : C a = some (.lst xs)) (q : k (.lst (cutD xs lo hi)) C) : dSl (.own a) lo hi C (FrzA k) := sl_o hc fun _ hp => fa_put hp q
theorem slA_p (q : k (.lst (cutD xs lo hi)) (put C p (.lst xs))) : dSl (.own p) lo hi (put C p (.lst xs)) (FrzA k) := slA_o put_same q
theorem slA_f (q : k (.lst (cutD xs lo hi)) C) : dSl (.lst xs) lo hi C (FrzA k) := sl_f fun _ hp => fa_put hp q
theorem slA_t (q : k (.tup (cutD xs lo hi)) C) : dSl (.tup xs) lo hi C (FrzA k) := sl_t (fa_tup q)
theorem slA_z (hl : s.length ≤ sizeLine) (q : k (.str (cutS s lo hi)) C) : dSl (.str s) lo hi C (FrzA k) := sl_z hl (fa_str q)
theorem addA_ll (h : xs.length + ys.length ≤ sizeLine) (q : k (.lst (xs ++ ys)) C) : dAdd (.lst xs) (.lst ys) C (FrzA k) := add_lst rfl rfl h fun _ hp => fa_put hp q
theorem addA_ol {a : Addr} (hc : C a = some (.lst xs)) (h : xs.length + ys.length ≤ sizeLine) (q : k (.lst (xs ++ ys)) C) : dAdd (.own a) (.lst ys) C (FrzA k) := add_lst (seqL_own hc) rfl h fun _ hp => fa_put hp q
theorem addA_pl (h : xs.length + ys.length ≤ sizeLine) (q : k (.lst (xs ++ ys)) (put C p (.lst xs))) : dAdd (.own p) (.lst ys) (put C p (.lst xs)) (FrzA k) := addA_ol put_same h q
theorem addA_ii (q : k (.int (i + j)) C) : dAdd (.int i) (.int j) C (FrzA k) := add_ii (fa_int q)
theorem addA_ss (h : s.length + t.length ≤ sizeLine) (q : k (.str (s ++ t)) C) : dAdd (.str s) (.str t) C (FrzA k) := add_ss h (fa_str q)
theorem addA_tt (h : xs.length + ys.length ≤ sizeLine) (q : k (.tup (xs ++ ys)) C) : dAdd (.tup xs) (.tup ys) C (FrzA k) := add_tt h (fa_tup q)
theorem mulA_ii (h : CMul i j) (q : k (.int (i * j)) C) : dMul (.int i) (.int j) C (FrzA k) := mul_ii h (fa_int q)
theorem listA_o {a : Addr} (hc : C a = some (.lst xs)) (q : k (.lst xs) C) : dList [.own a] C (FrzA k) := ⟨_, _, rfl, seqR_own hc, fun _ hp => fa_put hp q⟩
theorem listA_p (q : k (.lst xs) (put C p (.lst xs))) : dList [.own p] (put C p (.lst xs)) (FrzA k) := listA_o put_same q
theorem listA_l (q : k (.lst xs) C) : dList [.lst xs] C (FrzA k) := ⟨_, _, rfl, rfl, fun _ hp => fa_put hp q⟩
theorem listA_t (q : k (.lst xs) C) : dList [.tup xs] C (FrzA k) := ⟨_, _, rfl, rfl, fun _ hp => fa_put hp q⟩
end
/-! ### == of lists' cells -/
theorem eqL_refl {xs : List D} {n : Nat} (h : ∀ d ∈ xs, d.fit n = true) : eqL xs xs = true := SeqAt.eqvAll_refl _ (fitL_lay xs (fitL_all.mpr h))
theorem pyC_own {C : CS} {a : Addr} {xs : List D} {n : Nat} (hc : C a = some (.lst xs)) (h : ∀ d ∈ xs, d.fit n = true) : pyC C (.own a) = some (.list (pyL xs)) := by
  unfold pyC
  simp only [hc]
  rw [if_pos (fitL_py xs (fitL_all.mpr h))]
theorem shaped_lst {xs : List D} {n : Nat} (h : ∀ d ∈ xs, d.fit n = true) (hn : n < 64) : SeqAt.shaped (.list (pyL xs)) = true := by
  have := fit_ok (d := .lst xs) (n := n + 1) (fit_lstI h) (by omega)
  unfold D.ok at this
  rw [Bool.and_eq_true] at this
  exact this.2
section
variable {C : CS} {k : KD} {a b : Addr} {xs ys : List D} {n m : Nat}
theorem eq_ol (ha : C a = some (.lst xs)) (hx : ∀ d ∈ xs, d.fit n = true) (hy : ∀ d ∈ ys, d.fit m = true) (hn : n < 64) (hm : m < 64) (q : k (.bl (eqL xs ys)) C) : dEq false (.own a) (.lst ys) C k := by
  refine .inl ⟨_, .list (pyL ys), pyC_own ha hx, ?_, shaped_lst hx hn, shaped_lst hy hm, q⟩
  unfold pyC
  simp only [D.isPy, fitL_py ys (fitL_all.mpr hy), if_true, D.py]
theorem eq_ll (hx : ∀ d ∈ xs, d.fit n = true) (hy : ∀ d ∈ ys, d.fit m = true) (hn : n < 64) (hm : m < 64) (q : k (.bl (eqL xs ys)) C) : dEq false (.lst xs) (.lst ys) C k := eq_fit (fit_lstI hx) (fit_lstI hy) q (by omega) (by omega)
end
/-! ### repr: data whose text is short -/
mutual
/-- how many parts it has (signs of texts among them) -/
def D.wt : D → Nat
  | .int _ => 200
  | .str x => x.cps.size
  | .lst xs | .slst xs | .tup xs => wtL xs
  | _ => 0
def wtL : List D → Nat
  | [] => 0
  | d :: ds => d.wt + 1 + wtL ds
end
mutual
/-- its ints have at most sixty figures -/
def D.shI : D → Bool
  | .int i => decide (i.natAbs < 10 ^ 60)
  | .lst xs | .slst xs | .tup xs => shL xs
  | _ => true
def shL : List D → Bool
  | [] => true
  | d :: ds => d.shI && shL ds
end
theorem shL_all : ∀ {ds : List D}, shL ds = true ↔ ∀ d ∈ ds, d.shI = true
  | [] => by simp [shL]
  | d :: ds => by simp [shL, shL_all (ds := ds)]
theorem int_log {i : Int} (h : i.natAbs < 10 ^ 60) : (if (i == 0) = true then 0 else i.natAbs.log2 + 1) ≤ 200 := by
  split
  · omega
  · rename_i z
    have z : i.natAbs ≠ 0 := by simpa using z
    have := (Nat.log2_lt (n := i.natAbs) (k := 200) z).mpr (Nat.lt_trans h (by decide +kernel))
    omega
mutual
theorem wt_py : ∀ (d : D) {n : Nat}, d.fit n = true → d.shI = true → d.py.weight ≤ d.wt ∧ d.py.leavesShort 61 = true ∧ d.py.showable = true ∧ d.py.hasDict = false
  | .non, _, _, _ | .bl _, _, _, _ => ⟨Nat.le_refl _, rfl, rfl, rfl⟩
  | .int i, _, _, h => by
    have h : i.natAbs < 10 ^ 60 := by simpa [D.shI] using h
    refine ⟨int_log h, ?_, ?_, rfl⟩
    · simp only [D.py, PyData.leavesShort, decide_eq_true_eq]
      have e := int_text_length_le10 (k := 60) (by decide) h
      show (Str.ofString (toString i)).length ≤ 61
      rw [PySem.ofString_length]; exact e
    · simp only [D.py, PyData.showable, decide_eq_true_eq]
      by_cases z : i.natAbs = 0
      · rw [z]; decide
      · exact (Nat.log2_lt z).mpr (Nat.lt_trans h (by decide +kernel))
  | .str x, n, h, _ => by
    have hx : PyData.strOk x = true := by cases n <;> exact h
    exact ⟨Nat.le_refl _, PyData.leavesShort_of_canLay0 61 (.str x) hx rfl, rfl, rfl⟩
  | .lst xs, 0, h, _ | .slst xs, 0, h, _ | .tup xs, 0, h, _ => by simp [D.fit] at h
  | .lst xs, n + 1, h, s => wtL_py xs (n := n) (by simpa [D.fit] using h) (by simpa [D.shI] using s)
  | .slst xs, n + 1, h, s => wtL_py xs (n := n) (by simpa [D.fit] using h) (by simpa [D.shI] using s)
  | .tup xs, n + 1, h, s => wtL_py xs (n := n) (by simpa [D.fit] using h) (by simpa [D.shI] using s)
  | .obj _ _ _, n, h, _ => by cases n <;> simp [D.fit] at h
  | .own _, n, h, _ => by cases n <;> simp [D.fit] at h
  | .opq _, n, h, _ => by cases n <;> simp [D.fit] at h
theorem wtL_py : ∀ (ds : List D) {n : Nat}, fitL n ds = true → shL ds = true → PyData.weightAll (pyL ds) ≤ wtL ds ∧ PyData.leavesShortAll 61 (pyL ds) = true ∧ PyData.showableAll (pyL ds) = true ∧ PyData.hasDictAll (pyL ds) = false
  | [], _, _, _ => ⟨Nat.le_refl _, rfl, rfl, rfl⟩
  | d :: ds, n, h, s => by
    simp only [fitL, shL, Bool.and_eq_true] at h s
    obtain ⟨a, b, c, e⟩ := wt_py d h.1 s.1
    obtain ⟨a', b', c', e'⟩ := wtL_py ds h.2 s.2
    refine ⟨?_, ?_, ?_, ?_⟩
    · simp only [pyL, PyData.weightAll, wtL]; omega
    · simp only [pyL, PyData.leavesShortAll, b, b', Bool.and_self]
    · simp only [pyL, PyData.showableAll, c, c', Bool.and_self]
    · simp only [pyL, PyData.hasDictAll, e, e', Bool.or_self]
end
section
variable {C : CS} {k : KD} {x : D} {n : Nat} {a : Addr} {xs : List D}
end
end DL
namespace DL
open PySem PySem.Spec PyProof.Rows L2
/-- a list that a name has is frozen -/
theorem wss_frzI {X : Cx} {sts : List Stmt} {env : DEnv} {C : CS} {E : DEnds} (i : Nat) {p : Addr} {ds : List D} (he : env[i]? = some (some (.own p))) (hc : C p = some (.lst ds)) (h : WSs X sts (env.set i (some (.lst ds))) (del C p) E) : WSs X sts env C E := fun G σ H D0 w er q => by
  obtain ⟨G2, w2, f2, r2⟩ := w.freeze hc
  obtain ⟨v, h1, h2⟩ := er.2 i _ he
  cases h2
  have er2 : EnvR X.K G2 (env.set i (some (.lst ds))) σ := by
    have := (er.mono f2.exG).set i r2
    have hσ : σ.set i (some (.ref p)) = σ := by
      apply List.ext_getElem?
      intro j
      by_cases e : i = j
      · subst e
        rw [List.getElem?_set_self (List.getElem?_eq_some_iff.mp h1).1, h1]
      · rw [List.getElem?_set_ne e]
    rw [hσ] at this
    exact this
  exact h G2 σ H D0 w2 er2 (q.after f2)
end DL
/-! DLu: chains of comparisons; tuples backwards; texts in a tuple; tuples of the module; upper. -/
namespace DL
open PySem PySem.Spec PyProof.Rows L2
/-! ### a op b op' c -/
section
variable {K : PySem.W.Frag} {env : DEnv} {C : CS} {ta tb tc : TE} {k : KD} {r r' : R2} {p p' : OpD}
theorem ev_chain (hr : R2D K r p) (hr' : R2D K r' p') (h : Ev K ta env C fun x C1 => Ev K tb env C1 fun y C2 => p x y C2 fun z C3 => ∃ t, z = .bl t ∧ (t = true → Ev K tc env C3 fun w C4 => p' y w C4 k) ∧ (t = false → k (.bl false) C3)) : Ev K (tChain r r' ta tb tc) env C k := fun G σ H Q w er q =>
  h G σ H _ w er fun v G1 C1 H1 x f1 w1 d1 h1 => h1 G1 σ H1 _ w1 (er.mono f1.exG) fun u G2 C2 H2 y f2 w2 d2 h2 => hr v u x y G2 C2 H2 _ _ w2 (d1.mono f2.exG) d2 h2 fun z' G3 C3 H3 z f3 w3 d3 h3 => by
    obtain ⟨t, rfl, h4, h5⟩ := h3
    cases d3
    refine ⟨t, rfl, ?_⟩
    have F := (f1.trans f2).trans f3
    cases t with
    | true => exact iteT (h4 rfl G3 σ H3 _ w3 (er.mono F.exG) fun w' G4 C4 H4 d f4 w4 d4 h6 => hr' u w' y d G4 C4 H4 k Q w4 (d2.mono (f3.trans f4).exG) d4 h6 (q.after (F.trans f4)))
    | false => exact iteF (q _ G3 C3 H3 _ F w3 (.bl false) (h5 rfl))
end
section
variable {X : Cx} {a b c e : Expr} {env : DEnv} {C : CS} {k : KD} {kb : Bool → CS → Prop} {pos : Pos}
theorem we_lele (h : WE X a env C fun x C1 => WE X b env C1 fun y C2 => dB2 (fun i j => decide (i ≤ j)) x y C2 fun z C3 => ∃ t, z = .bl t ∧ (t = true → WE X c env C3 fun w C4 => dB2 (fun i j => decide (i ≤ j)) y w C4 k) ∧ (t = false → k (.bl false) C3))
    (hm : lastMarks [.LtE, .LtE] [b, c] = false := by with_unfolding_all rfl) : WE X (.Compare a [.LtE, .LtE] [b, c] pos) env C k := .of (pe_chain op_le op_le pe_tS pe_tS pe_tS hm) (ev_chain r2_B r2_B h)
theorem wt_lele (h : WE X a env C fun x C1 => WE X b env C1 fun y C2 => dB2 (fun i j => decide (i ≤ j)) x y C2 fun z C3 => ∃ t, z = .bl t ∧ (t = true → WE X c env C3 fun w C4 => dB2 (fun i j => decide (i ≤ j)) y w C4 (tb kb)) ∧ (t = false → kb false C3))
    (hm : lastMarks [.LtE, .LtE] [b, c] = false := by with_unfolding_all rfl) : WT X (.Compare a [.LtE, .LtE] [b, c] pos) env C kb :=
  .of (pt_chain op_le op_le pe_tS pe_tS pe_tS hm) (eb_test (ev_chain r2_B r2_B (h.imp fun x C1 z => WE.imp z fun y C2 z => by
    obtain ⟨i, j, rfl, rfl, t, e, h1, h2⟩ := z
    exact ⟨i, j, rfl, rfl, t, e, h1, fun ht => ⟨false, rfl, h2 ht⟩⟩)))
end
/-! ### t[::-1] -/
section
variable {prog : Program} {w : World} {A : Around} {E : Value → Shared → Prop} {s : Shared}
theorem sliceApplied_back {sl : Addr} {vl vu vs : Value} {n : Nat} {Q : Int × Int × Nat → Shared → Prop} (hs : s.heap.IsSliceOf sl vl vu vs) (pl : IsPart vl none) (pu : IsPart vu none) (ps : IsPart vs (some (-1)))
    (h : Q ((n : Int) - 1, -1, n) s) : wpAny (model prog w) A (Builtin.Slice.sliceApplied (.ref sl) (pure (n : Int))) Q E s := by
  obtain ⟨os, hos, hcs, hds⟩ := id hs
  unfold Builtin.Slice.sliceApplied Builtin.Slice.sliceFields
  refine wpAny_bind (wpAny_bind (wpAny_field hos hds (x := vl) rfl (wpAny_bind (wpAny_field hos hds (x := vu) rfl (wpAny_bind (wpAny_field hos hds (x := vs) rfl (wpAny_pure ?_)))))))
  refine wpAny_bind (HT.slicePart_ ps ?_)
  show wpAny _ _ (if ((-1 : Int) == 0) = true then _ else _) _ _ s
  rw [if_neg (by decide)]
  refine wpAny_bind (HT.slicePart_ pl (wpAny_bind (HT.slicePart_ pu (wpAny_bind (wpAny_pure ?_)))))
  show wpAny _ _ (match Builtin.Slice.sliceAdjust none none (-1) (n : Int) with | (lo, hi) => pure (lo, (-1 : Int), Builtin.Slice.slicePlaces lo hi (-1))) _ _ s
  have e1 : Builtin.Slice.sliceAdjust none none (-1) (n : Int) = ((n : Int) - 1, -1) := rfl
  rw [e1]
  show wpAny _ _ (pure ((n : Int) - 1, (-1 : Int), Builtin.Slice.slicePlaces ((n : Int) - 1) (-1) (-1))) _ _ s
  have e2 : Builtin.Slice.slicePlaces ((n : Int) - 1) (-1) (-1) = n := by
    unfold Builtin.Slice.slicePlaces
    rw [if_neg (by decide), show -(-1 : Int) = 1 from rfl, Int.ediv_one]
    split <;> omega
  rw [e2]
  exact wpAny_pure h
theorem pick_back (xs : Array Value) : ((List.range xs.size).filterMap fun (m : Nat) => xs[(((xs.size : Nat) : Int) - 1 + (m : Int) * (-1)).toNat]?).toArray = xs.toList.reverse.toArray := by
  congr 1
  apply List.ext_getElem?
  have e : ((List.range xs.size).filterMap fun (m : Nat) => xs[(((xs.size : Nat) : Int) - 1 + (m : Int) * (-1)).toNat]?) = (List.range xs.size).map fun m => xs.toList.reverse.getD m .none := by
    have : ∀ l : List Nat, (∀ m ∈ l, m < xs.size) → (l.filterMap fun (m : Nat) => xs[(((xs.size : Nat) : Int) - 1 + (m : Int) * (-1)).toNat]?) = l.map fun m => xs.toList.reverse.getD m .none := by
      intro l
      induction l with
      | nil => intro _; rfl
      | cons m l ih =>
        intro hl
        have hm := hl m List.mem_cons_self
        have e1 : (((xs.size : Nat) : Int) - 1 + (m : Int) * (-1)).toNat = xs.size - 1 - m := by omega
        have e2 : xs[xs.size - 1 - m]? = some (xs.toList.reverse.getD m .none) := by
          rw [List.getD_eq_getElem?_getD, List.getElem?_reverse (by simpa using hm), Array.length_toList, Array.getElem?_toList]
          rw [Array.getElem?_eq_getElem (by omega)]
          rfl
        rw [List.filterMap_cons, e1, e2, List.map_cons, ih fun m hm => hl m (List.mem_cons_of_mem _ hm)]
    exact this _ fun m hm => List.mem_range.mp hm
  intro i
  rw [e, List.getElem?_map]
  by_cases hi : i < xs.size
  · rw [List.getElem?_range hi, List.getElem?_eq_getElem (by simpa using hi)]
    simp [List.getD_eq_getElem?_getD, List.getElem?_eq_getElem (show i < xs.toList.reverse.length by simpa using hi)]
  · rw [List.getElem?_eq_none (by simpa using hi), List.getElem?_eq_none (by simpa using hi)]; rfl
theorem getItem_tuple_back {t sl : Addr} {items : Array Value} {vl vu vs : Value} {Q : Value → Shared → Prop} (ht : IsTup s.heap t items) (hs : s.heap.IsSliceOf sl vl vu vs) (pl : IsPart vl none) (pu : IsPart vu none) (ps : IsPart vs (some (-1)))
    (h : Q (.ref s.heap.objs.size) { s with heap := s.heap.push { cls := .type "tuple", data := .seq items.toList.reverse.toArray } })
    (hsz : items.size ≤ sizeLine) : wpAny (model prog w) A (getItem (.ref t) (.ref sl)) Q E s := by
  have htake : sizeOk (.seq items.toList.reverse.toArray) := by
    show items.toList.reverse.toArray.size ≤ sizeLine
    rw [List.size_toArray, List.length_reverse, Array.length_toList]
    exact hsz
  obtain ⟨os, hos, hcs, hds⟩ := id hs
  have hTs : s.TypeIs (.ref sl) "slice" := ⟨os, hos, hcs⟩
  unfold getItem
  try with_reducible refine wpAny_holding ?_
  first | refine wpAny_bind (wpAny_pure ?_) | skip
  refine wpAny_bind (wpAny_sequenceKey ht.typeIs (by decide) ?_)
  refine wpAny_bind (wpAny_callSpecial?_slot (name := Str.ofString "__getitem__") ht.typeIs PyProof.Rows.slot_tuple_getitem
    (wpAny_call_entry PyProof.Rows.slot_tuple_getitem ht.typeIs entry_tuple_getitem ?_ (args_tuple_getitem _ _)))
  show wpAny _ _ (Builtin.Tuple.tupleItemsOf (.ref t) >>= _) _ _ s
  refine wpAny_bind (tupleItemsOf_ ht ?_)
  refine wpAny_bind (wpAny_typeOf hTs ?_)
  rw [if_pos (by decide)]
  refine wpAny_bind (sliceApplied_back hs pl pu ps ?_)
  have hno : ¬ ((((items.size : Nat) : Int) - 1 == 0 && (-1 : Int) == 1 && items.size == items.size) = true) := by
    rw [show ((-1 : Int) == 1) = false from rfl, Bool.and_false, Bool.false_and]
    exact Bool.false_ne_true
  show wpAny _ _ (if (((items.size : Nat) : Int) - 1 == 0 && (-1 : Int) == 1 && items.size == items.size) = true then _ else _) _ _ s
  rw [if_neg hno, pick_back]
  first
    | exact wpAny_bind (m := Builtin.Tuple.tupleExact _) (wpAny_newObj_type (wpAny_pure ⟨_, rfl, wpAny_pure h⟩) htake)
    | exact wpAny_bind (m := Builtin.Tuple.tupleExact _) (wpAny_newObj_type (wpAny_bind (wpAny_pure (wpAny_pure ⟨_, rfl, wpAny_pure h⟩))) htake)
    | exact wpAny_bind (wpAny_bind (m := Builtin.Tuple.tupleExact _) (wpAny_newObj_type (wpAny_pure (wpAny_pure ⟨_, rfl, wpAny_pure h⟩)) htake))
    | exact wpAny_bind (wpAny_bind (m := Builtin.Tuple.tupleExact _) (wpAny_newObj_type (wpAny_pure ⟨_, rfl, wpAny_pure h⟩) htake))
end
def tRevT (K : PySem.W.Frag) (te : TE) : TE := fun σ H Q => te σ H fun x H1 => ∃ a xs, x = .ref a ∧ SqT K H1 a xs ∧ ∀ p, H1 p = none → Q (.ref p) (upd H1 p (.tup xs.reverse))
theorem pe_revT {X : Cx} {e : Expr} {te : TE} {k : Nat} {p1 p2 p3 pos : Pos} (he : PE X e te) : PE X (.Subscript e (.Slice none none (some (.UnaryOp .USub (.Constant (.int 1) k p1) p2)) p3) pos) (tRevT X.K te) := by
  refine ⟨fun pins s σ H Q I h => ?_⟩
  refine Subscript_ (L2.thn (he.run pins s σ H _ I h) fun v s1 ⟨x, H1, I1, r1, q1⟩ => ?_)
  obtain ⟨a, xs, ex, hx, q⟩ := q1
  subst ex
  cases r1
  have hst : PO X (some (.UnaryOp .USub (.Constant (.int 1) k p1) p2)) (tPart (tUn (rU fun i => .int (-i)) (tC (.int 1)))) := po_some (pe_un un_neg pe_int)
  refine wpAny_Slice (L2.thn (po_none.run pins s1 σ H1 (fun o H2 => o = none ∧ H2 = H1) I1 ⟨rfl, rfl⟩) fun vl s2 ⟨l, H2, I2, pl, el, e2⟩ => ?_)
  subst el e2
  refine L2.thn (po_none.run pins s2 σ H2 (fun o H3 => o = none ∧ H3 = H2) I2 ⟨rfl, rfl⟩) fun vu s3 ⟨u, H3, I3, pu, eu, e3⟩ => ?_
  subst eu e3
  refine L2.thn (hst.run pins s3 σ H3 (fun o H4 => o = some (-1) ∧ H4 = H3) I3 ⟨1, rfl, -1, rfl, rfl, rfl⟩) fun vs s4 ⟨o, H4, I4, ps, eo, e4⟩ => ?_
  subst eo e4
  have I5 : Inv X pins σ H4 { s4 with heap := s4.heap.push { cls := .type "slice", data := .fields #[vl, vu, vs] } } := I4.kept (t' := s4.toks) fun b ob q => Heap.get?_push_of_some _ q
  obtain ⟨its, r, ht, hz⟩ := I5.tuple hx
  have hlen := r.length
  show wpAny (model X.prog X.w) X.A (subscriptTail e (.Slice none none (some (.UnaryOp .USub (.Constant (.int 1) k p1) p2)) p3) (.ref a) (.ref s4.heap.objs.size)) (EP X pins σ Q) X.xe { s4 with heap := s4.heap.push { cls := .type "slice", data := .fields #[vl, vu, vs] } }
  refine tail_any (ops := [.ref a, .ref s4.heap.objs.size]) ht.typeIs (PyProof.Rows.slot_tuple_getitem.lookup) ?_ (by with_unfolding_all rfl)
  refine getItem_tuple_back ht (Heap.IsSliceOf.new _ vl vu vs) pl pu ps ?_ (by rw [List.size_toArray]; omega)
  refine ⟨.ref _, _, I5.laid (t' := s4.toks) (o := .tup xs.reverse) (fun b ob q => Heap.get?_push_of_some _ q) (Nat.le_refl _) ?_, rfl, q _ (I5.hok.fresh (Nat.le_refl _))⟩
  exact ⟨by rw [List.length_reverse]; exact hz, _, r.reverse, IsTup.new _ _⟩
section
variable {X : Cx} {e : Expr} {env : DEnv} {C : CS} {k : KD} {pos p1 p2 p3 : Pos} {j : Nat}
theorem we_revT (h : WE X e env C fun d C1 => ∃ xs, d = .tup xs ∧ k (.tup xs.reverse) C1) : WE X (.Subscript e (.Slice none none (some (.UnaryOp .USub (.Constant (.int 1) j p1) p2)) p3) pos) env C k :=
  .of (pe_revT pe_tS) fun G σ H Q w er q => h G σ H _ w er fun v G1 C1 H1 d f1 w1 r1 z => by
    obtain ⟨xs, rfl, z⟩ := z
    obtain ⟨a, vs, rfl, h1, h2⟩ := w1.tup r1
    refine ⟨a, vs, rfl, h1, fun p hp => ?_⟩
    obtain ⟨w2, f2, s2⟩ := w1.newG hp (.tup vs.reverse)
    exact q _ _ _ _ _ (f1.trans f2) w2 (.tup (SqT.of upd_same) (h2.rev.mono s2)) z
end
/-! ### tuples of texts -/
/-! ### tuples of the module -/
theorem datAll_strsI {K : PySem.W.Frag} {G : Hp} : ∀ zs : List Str, DatAll K G (zs.map V.str) (zs.map D.str)
  | [] => .nil
  | z :: zs => .cons (.str z) (datAll_strsI zs)
/-! ### upper -/
def dUpper : D → List D → CS → KD → Prop := fun x ds C k => ∃ z, x = .str z ∧ ds = [] ∧ z.length ≤ 5592405 ∧ k (.str (Txt.upper z)) C
theorem rm_upper {K : PySem.W.Frag} : RMD K (fun x xs H Q => ∃ a, x = .str a ∧ xs = [] ∧ a.length ≤ 5592405 ∧ Q (.str (Txt.upper a)) H) dUpper := by
  rintro x a xs ds G C H k Q w r rs ⟨z, rfl, rfl, h, hk⟩ q
  cases r; cases rs
  exact ⟨z, rfl, rfl, h, q _ _ _ _ _ (Fr.refl ..) w (.str _) hk⟩
theorem x_upper {X : Cx} {o : Expr} {env : DEnv} {C : CS} {k : KD} {apos cpos : Pos} (h : WE X o env C fun x C1 => tyD "str" C1 x ∧ dUpper x [] C1 k) (hbase : attributeBase o "upper" X.env (eval o X.env) = eval o X.env := by rfl) (hline : (apos.endLine == cpos.line) = true := by rfl) :
    WE X (.Call (.Attribute o "upper" apos) [] [] cpos) env C k := we_bm0 PySem.F.plainAttrs_str PySem.F.slot_str_upper PySem.F.type_str_upper mt_upper rm_upper h hbase hline
end DL
/-! DLv: instances by data: fields, methods, makings, properties. -/
namespace DL
open PySem PySem.Spec PyProof.Rows L2
section
variable {X : Cx} {CT : CXT} {n : Nat} {fa Ca : Addr} {fd : FuncData} {ps : List Str} {sp : Sp} {E : XK} {x m : Str} {p pos apos : Pos} {e o : Expr} {es : List Expr} {ta : TE} {t : TA} {dvs : List V} {ds : List Value}
theorem goD {pins : List (Addr × Obj)} {σ : L2.St} {H : Hp} {s : Shared} {Q : VK} {us : List Value} {as : List V} (F : FnG X.prog X.w X.K X.mg X.base CT n fa fd ps sp) (hgd : X.A.guards = some []) (hr : Room n X.A) (hb : Binds X.K fd ps ds) (hd : Vals dvs ds) (hx : Passes CT X E)
    (I : Inv X pins σ H s) (r : Vals as us) (h : sp (as ++ dvs) H Q E) : wpAny (model X.prog X.w) X.A (call (.ref fa) us) (EP X pins σ Q) X.xe s := by
  have r2 : Vals (as ++ dvs) (us ++ ds) := r.append hd
  have hlen : (us ++ ds).length = ps.length := by
    rw [← r2.length]
    exact F.len _ _ _ _ h
  refine wpAny_call (codeAny_mono (F.run hgd hr I.env0 (hb s us I.kIn hlen) r2 h) ?_)
  intro res s' z
  match res, z with
  | .error e, z => exact hx pins σ H s e s' I z
  | .ok (.ret u), z => exact I.after z
/-- o.m(e, ..) -/
theorem pe_methG {pl : Sem Bool} (he : PE X o ta) (c : Cls X.K Ca) (hm : Meth X.K Ca m fa) (F : FnG X.prog X.w X.K X.mg X.base CT n fa fd ps sp) (hgd : X.A.guards = some []) (hr : Room n X.A) (hb : Binds X.K fd ps ds) (hd : Vals dvs ds) (hx : Passes CT X E) (ha : PA X (e :: es) t)
    (hst : starEach (e :: es) X.env = (false, eval e X.env) :: starEach es X.env := by rfl) (hpl : (backTo pos (starEach es X.env)).any (·.1) = false := by rfl)
    (ht : eval (.Call (.Attribute o m apos) (e :: es) [] pos) X.env = (do
      let ov ← eval o X.env
      standAt apos.atName
      let (f, first) ← holding [ov] (getMethod ov m pl)
      callWith pos f first (backTo pos (starEach (e :: es) X.env)) (backToKw pos (keywordEach [] X.env))) := by rfl) :
    PE X (.Call (.Attribute o m apos) (e :: es) [] pos) (tMeth Ca m sp dvs E ta t) := by
  refine ⟨fun pins s σ H Q I h => ?_⟩
  refine PySem.W.methodCall_KW (pl := pl) (thn (he.run pins s σ H _ I h) fun u s1 ⟨x, H1, I1, rx, a, dx, fs, ex, ea, l, q⟩ => ?_) ht
  subst ex
  obtain rfl : u = Value.ref a := rx
  refine getmeth_ok I1 ea c hm l ?_
  refine PySem.W.callWith_K (first := [.ref a]) (h₀ := X.base) I.ok.mod.kin hm.kp (thn (ha.run pos pins s1 σ H1 _ I1 q) fun us s2 ⟨vs, H2, I2, r, q2⟩ => ⟨I2.kIn, ?_⟩) hst hpl
  exact goD (us := .ref a :: us) (as := .ref a :: vs) F hgd hr hb hd hx I2 (.cons rfl r) q2
/-- o.m() -/
theorem pe_methG0 {pl : Sem Bool} (he : PE X o ta) (c : Cls X.K Ca) (hm : Meth X.K Ca m fa) (F : FnG X.prog X.w X.K X.mg X.base CT n fa fd ps sp) (hgd : X.A.guards = some []) (hr : Room n X.A) (hb : Binds X.K fd ps ds) (hd : Vals dvs ds) (hx : Passes CT X E)
    (ht : eval (.Call (.Attribute o m apos) [] [] pos) X.env = (do
      let ov ← eval o X.env
      standAt apos.atName
      let (f, first) ← holding [ov] (getMethod ov m pl)
      callWith pos f first (backTo pos (starEach [] X.env)) (backToKw pos (keywordEach [] X.env))) := by rfl) :
    PE X (.Call (.Attribute o m apos) [] [] pos) (tMeth Ca m sp dvs E ta tNil) := by
  refine ⟨fun pins s σ H Q I h => ?_⟩
  refine PySem.W.methodCall_KW (pl := pl) (thn (he.run pins s σ H _ I h) fun u s1 ⟨x, H1, I1, rx, a, dx, fs, ex, ea, l, q⟩ => ?_) ht
  subst ex
  obtain rfl : u = Value.ref a := rx
  refine getmeth_ok I1 ea c hm l ?_
  exact PySem.W.callWith_K0 (first := [.ref a]) I1.kIn hm.kp (goD (us := [.ref a]) (as := [.ref a]) F hgd hr hb hd hx I1 (.cons rfl .nil) q)
theorem makeG {pins : List (Addr × Obj)} {σ : L2.St} {H : Hp} {s : Shared} {Q : VK} {us : List Value} {vs : List V} (M : Mk X.K Ca fa) (F : FnG X.prog X.w X.K X.mg X.base CT n fa fd ps sp) (hgd : X.A.guards = some []) (hr : Room (n + 1) X.A) (hb : Binds X.K fd ps ds) (hd : Vals dvs ds)
    (hx : Passes CT X E) (I : Inv X pins σ H s) (r : Vals vs us)
    (h : ∀ x dx, H x = none → H dx = none → dx ≠ x → sp (.ref x :: (vs ++ dvs)) (upd (upd H dx (.own x)) x (.ins Ca dx [])) (fun v H2 => v = .non ∧ Q (.ref x) H2) E) :
    wpAny (model X.prog X.w) X.A (call (.ref Ca) us) (EP X pins σ Q) X.xe s := by
  have hq := h (s.heap.objs.size + 1) s.heap.objs.size (I.hok.fresh (Nat.le_succ _)) (I.hok.fresh (Nat.le_refl _)) (Nat.ne_of_lt (Nat.lt_succ_self _))
  have I2 := Inv.made (C := Ca) I
  have r2 : Vals (V.ref (s.heap.objs.size + 1) :: (vs ++ dvs)) (Value.ref (s.heap.objs.size + 1) :: (us ++ ds)) := .cons rfl (r.append hd)
  have hl : (Value.ref (s.heap.objs.size + 1) :: us ++ ds).length = ps.length := by
    have e := r2.length
    rw [F.len _ _ _ _ hq] at e
    exact e.symm
  refine wpAny_call (make_map (f := fa) I.kIn M.makes M.init (beq_iff_eq.mp M.fn) (codeAny_mono (F.run (by exact hgd) (hr.make Ca us []) (I2.env0.make Ca us []) (hb _ (Value.ref (s.heap.objs.size + 1) :: us) I2.kIn hl) r2 hq) fun r s' hq' => ?_))
  cases r with
  | error e => exact hx pins σ _ _ e s' I2 hq'
  | ok fl =>
    cases fl with
    | ret u =>
      obtain ⟨v, H', I3, rv, ev, q3⟩ := I2.after hq'
      subst ev
      exact ⟨rv, ⟨V.ref (s.heap.objs.size + 1), H', I3, rfl, q3⟩⟩
    | next => exact False.elim hq'
    | brk => exact False.elim hq'
    | cont => exact False.elim hq'
theorem pe_makeG (M : Mk X.K Ca fa) (F : FnG X.prog X.w X.K X.mg X.base CT n fa fd ps sp) (hgd : X.A.guards = some []) (hr : Room (n + 1) X.A) (hg : Gl X x) (hm : X.mg x = some (.ref Ca)) (hb : Binds X.K fd ps ds) (hd : Vals dvs ds) (hx : Passes CT X E)
    (ha : PA X (e :: es) t) (hdb : (x == ("__debug__" : Str)) = false := by decide) (he : starEach (e :: es) X.env = (false, eval e X.env) :: starEach es X.env := by rfl) (hpl : (backTo pos (starEach es X.env)).any (·.1) = false := by rfl) :
    PE X (.Call (.Name x p) (e :: es) [] pos) (tMake Ca sp dvs E t) := by
  refine ⟨fun pins s σ H Q I h => ?_⟩
  refine wpAny_Call_Name_kw (ld_glob I hg hm ?_ hdb)
  refine PySem.W.callWith_K (h₀ := X.base) I.ok.mod.kin M.kp (thn (ha.run pos pins s σ H _ I h) fun us s1 ⟨vs, H1, I1, r, q⟩ => ⟨I1.kIn, ?_⟩) he hpl
  exact makeG M F hgd hr hb hd hx I1 r q
theorem pe_makeG0 (M : Mk X.K Ca fa) (F : FnG X.prog X.w X.K X.mg X.base CT n fa fd ps sp) (hgd : X.A.guards = some []) (hr : Room (n + 1) X.A) (hg : Gl X x) (hm : X.mg x = some (.ref Ca)) (hb : Binds X.K fd ps ds) (hd : Vals dvs ds) (hx : Passes CT X E)
    (hdb : (x == ("__debug__" : Str)) = false := by decide) : PE X (.Call (.Name x p) [] [] pos) (tMake Ca sp dvs E tNil) := by
  refine ⟨fun pins s σ H Q I h => ?_⟩
  refine wpAny_Call_Name_kw (ld_glob I hg hm ?_ hdb)
  exact PySem.W.callWith_K0 I.kIn M.kp (makeG (us := []) M F hgd hr hb hd hx I .nil h)
theorem getpropG {pins : List (Addr × Obj)} {σ : L2.St} {H : Hp} {s : Shared} {Q : VK} {b : Bool} {E' : Value → Shared → Prop} {a dx pa g : Addr} {fs : List (Str × V)} {f : Str} (I : Inv X pins σ H s) (ea : H a = some (.ins Ca dx fs)) (c : Cls X.K Ca) (hp : PropOf X.K Ca f pa g)
    (F : FnG X.prog X.w X.K X.mg X.base CT n g fd ps sp) (hgd : X.A.guards = some []) (hr : Room (n + 1) X.A) (hb : Binds X.K fd ps ds) (hd : Vals dvs ds) (hx : Passes CT X.nox E) (h : sp (.ref a :: dvs) H Q E) :
    wpAny (model X.prog X.w) X.A (getAttr (.ref a) f b) (EP X pins σ Q) E' s := by
  obtain ⟨mA, O, _, _, _, _⟩ := ins_get I.hok ea
  obtain ⟨od, J, _⟩ := O.look
  obtain ⟨rest, hrec⟩ := hp.rec_
  have I1 := I.tok (s.toks + 1)
  have hl : ([Value.ref a] ++ ds).length = ps.length := by
    rw [← F.len _ _ _ _ h]
    show ds.length + 1 = dvs.length + 1
    rw [hd.length]
  have hc : (PySem.W.clsIn X.K Ca).isSome = true := by
    obtain ⟨cd, hc, _⟩ := PySem.W.any_some c.hd
    rw [hc]
    rfl
  refine PySem.W.get_bind I.kIn J (PySem.W.plainGet_of (c.get f)).1 (PySem.W.findObj_data hc hp.at_ hp.get hp.tak) (PySem.W.plainGet_of (c.get f)).2 (wpAny_call (PySem.W.prop_get (s := { s with toks := s.toks + 1 }) I.kIn hrec ?_))
  refine codeAny_mono (F.run (us := .ref a :: ds) (as := .ref a :: dvs) (by exact hgd) hr.in1 I1.env0.in1 (hb _ [.ref a] I1.kIn hl) (.cons rfl hd) h) fun r s' hq => ?_
  cases r with
  | error er => exact False.elim (hx pins σ H { s with toks := s.toks + 1 } er s' (I1.wish _) hq)
  | ok fl =>
    cases fl with
    | ret u =>
      obtain ⟨v, H', I3, rv, q3⟩ := I1.after hq
      show wpAny _ _ (handedOut u) _ _ _
      rw [PySem.W.handedOut_of (handed_of rv)]
      exact wpAny_pure ⟨v, H', I3, rv, q3⟩
    | next => exact False.elim hq
    | brk => exact False.elim hq
    | cont => exact False.elim hq
theorem pe_propG {pa g : Addr} {f : Str} (he : PE X e ta) (c : Cls X.K Ca) (hp : PropOf X.K Ca f pa g) (F : FnG X.prog X.w X.K X.mg X.base CT n g fd ps sp) (hgd : X.A.guards = some []) (hr : Room (n + 1) X.A) (hb : Binds X.K fd ps ds) (hd : Vals dvs ds) (hx : Passes CT X.nox E)
    (hab : attributeBase e f X.env (eval e X.env) = eval e X.env) : PE X (.Attribute e f pos) (tProp Ca sp dvs E ta) := by
  refine ⟨fun pins s σ H Q I h => ?_⟩
  refine attr_of hab (thn (he.run pins s σ H _ I h) fun u s1 ⟨x, H1, I1, rx, a, dx, fs, ex, ea, q⟩ => ?_)
  subst ex
  obtain rfl : u = Value.ref a := rx
  exact getpropG I1 ea c hp F hgd hr hb hd hx q
end

/-! ### fields by data -/
/-- a field's value, found by syntax -/
inductive FGet : List Str → List D → Str → D → Prop where
  | here (f : Str) (ks : List Str) (d : D) (xs : List D) : FGet (f :: ks) (d :: xs) f d
  | there {g f : Str} {ks : List Str} {x d : D} {xs : List D} (hne : (f == g) = false) (h : FGet ks xs f d) : FGet (g :: ks) (x :: xs) f d
/-- the fields behind a store -/
inductive FPut (f : Str) (d : D) : List Str → List D → List Str → List D → Prop where
  | nil : FPut f d [] [] [f] [d]
  | here (ks : List Str) (x : D) (xs : List D) : FPut f d (f :: ks) (x :: xs) (f :: ks) (d :: xs)
  | there {g : Str} {ks ks' : List Str} {x : D} {xs xs' : List D} (hne : (g == f) = false) (h : FPut f d ks xs ks' xs') : FPut f d (g :: ks) (x :: xs) (g :: ks') (x :: xs')
section
variable {K : PySem.W.Frag} {G H : Hp}
theorem FGet.look {f : Str} {d : D} : ∀ {fs : List (Str × V)} {ks : List Str} {xs : List D}, FGet ks xs f d → fs.map (·.1) = ks → DatAll K G (fs.map (·.2)) xs → ∃ v, fs.lookup f = some v ∧ Dat K G v d
  | [], _, _, h, e, r => by cases e; cases h
  | (g, v) :: fs, _, _, h, e, r => by
    cases e
    cases h with
    | here =>
      cases r with
      | cons r1 r2 => exact ⟨v, by simp, r1⟩
    | there hne h =>
      cases r with
      | cons r1 r2 =>
        obtain ⟨u, h1, h2⟩ := FGet.look h rfl r2
        exact ⟨u, by rw [List.lookup_cons, hne]; exact h1, h2⟩
theorem FPut.put {f : Str} {d : D} {y : V} (ry : Dat K G y d) : ∀ {fs : List (Str × V)} {ks ks' : List Str} {xs xs' : List D}, FPut f d ks xs ks' xs' → fs.map (·.1) = ks → DatAll K G (fs.map (·.2)) xs → (putF f y fs).map (·.1) = ks' ∧ DatAll K G ((putF f y fs).map (·.2)) xs'
  | [], _, _, _, _, h, e, r => by cases e; cases h; exact ⟨rfl, .cons ry .nil⟩
  | (g, v) :: fs, _, _, _, _, h, e, r => by
    cases e
    cases h with
    | here =>
      cases r with
      | cons r1 r2 =>
        unfold putF
        rw [if_pos rfl]
        exact ⟨rfl, .cons ry r2⟩
    | there hne h =>
      cases r with
      | cons r1 r2 =>
        obtain ⟨h1, h2⟩ := FPut.put ry h rfl r2
        have : g ≠ f := fun z => by rw [z] at hne; simp at hne
        unfold putF
        rw [if_neg this]
        exact ⟨by rw [List.map_cons, h1], .cons r1 h2⟩
theorem look_none {f : Str} : ∀ {fs : List (Str × V)} {ks : List Str}, fs.map (·.1) = ks → f ∉ ks → fs.lookup f = none
  | [], _, _, _ => rfl
  | (g, v) :: fs, _, e, h => by
    cases e
    have h1 : f ≠ g := fun z => h (by simp [z])
    rw [List.lookup_cons, beq_eq_false_iff_ne.mpr h1]
    exact look_none rfl fun z => h (by simp at z ⊢; exact .inr z)
end
/-- an instance: a cell, or frozen -/
def insD (C : CS) : D → Option (Addr × List Str × List D)
  | .obj Cl ks xs => some (Cl, ks, xs)
  | .own a => match C a with
    | some (.ins Cl ks xs) => some (Cl, ks, xs)
    | _ => none
  | _ => none
theorem insD_own {C : CS} {a Cl : Addr} {ks : List Str} {xs : List D} (h : C a = some (.ins Cl ks xs)) : insD C (.own a) = some (Cl, ks, xs) := by unfold insD; simp only [h]
theorem Wld.ins {K : PySem.W.Frag} {G H : Hp} {C : CS} {v : V} {d : D} {Cl : Addr} {ks : List Str} {xs : List D} (w : Wld K G C H) (r : Dat K G v d) (e : insD C d = some (Cl, ks, xs)) : ∃ a dx fs, v = .ref a ∧ H a = some (.ins Cl dx fs) ∧ fs.map (·.1) = ks ∧ DatAll K G (fs.map (·.2)) xs := by
  cases r with
  | obj a b c => simp [insD] at e; obtain ⟨rfl, rfl, rfl⟩ := e; exact ⟨_, _, _, rfl, w.ex _ _ a, b, c⟩
  | own a =>
    unfold insD at e
    cases q : C a with
    | none => simp [q] at e
    | some c =>
      cases c with
      | ins Cl' ks' xs' =>
        simp [q] at e
        obtain ⟨rfl, rfl, rfl⟩ := e
        obtain ⟨_, dx, fs, h1, h2, h3⟩ := w.cell a _ q
        exact ⟨a, dx, fs, rfl, h1, h2, h3⟩
      | _ => simp [q] at e
  | _ => simp [insD] at e
def FldC (K : PySem.W.Frag) (Cl : Addr) (f : Str) : Prop := Cls K Cl ∧ NoAttr K Cl f
/-- a def by its address; dfl: what fills up the parameters -/
def FnA (P : Program) (w : World) (K : PySem.W.Frag) (mg : Str → Option Value) (base : Heap) (f : Addr) (n : Nat) (dfl : List D) (S : DSp) : Prop :=
  ∃ (fd : FuncData) (ps : List Str) (ds : List Value) (dvs : List V), FnG P w K mg base CX0 n f fd ps (toSp K S) ∧ Binds K fd ps ds ∧ Vals dvs ds ∧ ∀ G, DatAll K G dvs dfl
def MthC (P : Program) (w : World) (K : PySem.W.Frag) (mg : Str → Option Value) (base : Heap) (Cl : Addr) (m : Str) (n : Nat) (dfl : List D) (S : DSp) : Prop := Cls K Cl ∧ ∃ f, Meth K Cl m f ∧ FnA P w K mg base f n dfl S
def MakC (P : Program) (w : World) (K : PySem.W.Frag) (mg : Str → Option Value) (base : Heap) (x : Str) (Cl : Addr) (n : Nat) (dfl : List D) (S : DSp) : Prop := mg x = some (.ref Cl) ∧ ∃ f, Mk K Cl f ∧ FnA P w K mg base f n dfl S
def PrpC (P : Program) (w : World) (K : PySem.W.Frag) (mg : Str → Option Value) (base : Heap) (Cl : Addr) (m : Str) (n : Nat) (S : DSp) : Prop := Cls K Cl ∧ ∃ p f, PropOf K Cl m p f ∧ FnA P w K mg base f n [] S
section
variable {P : Program} {w : World} {K : PySem.W.Frag} {mg : Str → Option Value} {base : Heap} {j n : Nat} {X : Cx} {Cl : Addr} {m f x : Str} {S : DSp} {dfl : List D} {e o v : Expr} {es : List Expr} {env : DEnv} {C : CS} {k : KD} {pos p apos pos' : Pos} {E : DEnds}
theorem toSp_ok {G G' : Hp} {C' : CS} {H' : Hp} {vs dvs : List V} {ds : List D} {Q : VK} {X0 : XK} {C0 : CS} {H0 : Hp} (w1 : Wld K G' C' H') (r : DatAll K G' vs ds) (rd : ∀ G, DatAll K G dvs dfl) (f1 : Fr G C0 H0 G' C' H') (q : Kont K G C0 H0 k Q) (z : S (ds ++ dfl) C' k) : toSp K S (vs ++ dvs) H' Q X0 :=
  ⟨G', C', ds ++ dfl, k, w1, r.append (rd G'), z, q.after f1⟩
theorem x_fld (hx : Ctx P w K mg base j X) (h : WE X e env C fun d C1 => ∃ Cl ks xs v, insD C1 d = some (Cl, ks, xs) ∧ FldC K Cl f ∧ FGet ks xs f v ∧ k v C1) (hb : attributeBase e f X.env (eval e X.env) = eval e X.env := by rfl) : WE X (.Attribute e f pos) env C k :=
  .of (pe_fld pe_tS hb) fun G σ H Q w er q => h G σ H _ w er fun u G1 C1 H1 d f1 w1 r1 z => by
    obtain ⟨Cl, ks, xs, v, hi, ⟨hc, hn⟩, hg, hk⟩ := z
    obtain ⟨a, dx, fs, rfl, h1, h2, h3⟩ := w1.ins r1 hi
    obtain ⟨v', g1, g2⟩ := hg.look h2 h3
    exact ⟨a, Cl, dx, fs, v', rfl, h1, by rw [hx.K]; exact hc, by rw [hx.K]; exact hn, g1, q _ _ _ _ _ f1 w1 g2 hk⟩
theorem x_setFld (hx : Ctx P w K mg base j X) (h : WE X v env C fun y C1 => WE X o env C1 fun d C2 => ∃ p Cl ks xs ks' xs', d = .own p ∧ C2 p = some (.ins Cl ks xs) ∧ FldC K Cl f ∧ ks.length < 1000 ∧ FPut f y ks xs ks' xs' ∧ E.nx env (put C2 p (.ins Cl ks' xs')))
    (hs : swapsWith v (some (.Attribute o f pos')) pos.line X.env = pure false := by rfl) : WS X (.Assign [.Attribute o f pos'] v pos) env C E :=
  .of (ps_fld pe_tS pe_tS hs) fun G σ H D w er q => h G σ H _ w er fun y' G1 C1 H1 y f1 w1 r1 h1 => h1 G1 σ H1 _ w1 (er.mono f1.exG) fun o' G2 C2 H2 d f2 w2 r2 z => by
    obtain ⟨p, Cl, ks, xs, ks', xs', rfl, hp, ⟨hc, hn⟩, hl, hput, hk⟩ := z
    cases r2
    obtain ⟨_, dx, fs, g1, g2, g3⟩ := w2.cell p _ hp
    obtain ⟨u1, u2⟩ := hput.put (r1.mono f2.exG) g2 g3
    obtain ⟨w3, f3⟩ := w2.write hp (o := .ins Cl dx (putF f y' fs)) (c' := .ins Cl ks' xs') fun H' e => ⟨dx, _, e, u1, u2⟩
    exact ⟨p, Cl, dx, fs, rfl, g1, by rw [hx.K]; exact hc, by rw [hx.K]; exact hn, by rw [← List.length_map (f := (·.1)), g2]; exact hl, q.nx _ _ _ _ _ ((f1.trans f2).trans f3) w3 (er.mono ((f1.trans f2).trans f3).exG) hk⟩
theorem x_meth (hx : Ctx P w K mg base j X) (hM : MthC P w K mg base Cl m n dfl S) (h : WE X o env C fun d C1 => (∃ ks xs, insD C1 d = some (Cl, ks, xs) ∧ m ∉ ks) ∧ WA X (e :: es) env C1 fun ds C2 => S (d :: (ds ++ dfl)) C2 k) (hle : n ≤ j := by decide)
    (hst : starEach (e :: es) X.env = (false, eval e X.env) :: starEach es X.env := by rfl) (hpl : (backTo pos (starEach es X.env)).any (·.1) = false := by rfl) {pl : Sem Bool}
    (ht : eval (.Call (.Attribute o m apos) (e :: es) [] pos) X.env = (do
      let ov ← eval o X.env
      standAt apos.atName
      let (f, first) ← holding [ov] (getMethod ov m pl)
      callWith pos f first (backTo pos (starEach (e :: es) X.env)) (backToKw pos (keywordEach [] X.env))) := by rfl) : WE X (.Call (.Attribute o m apos) (e :: es) [] pos) env C k := by
  obtain ⟨hc, fa, hm, fd, ps, ds, dvs, F, hb, hd, hdat⟩ := hM
  have hroom := hx.room
  obtain ⟨e1, e2, e3, e4, e5, _, hgd, hcalm⟩ := hx
  subst e1 e2 e3 e4 e5
  refine .of (pe_methG pe_tS hc hm F hgd (hroom.mono hle) hb hd pass0 pa_tAr hst hpl ht) fun G σ H Q w er q => h G σ H _ w er fun u G1 C1 H1 d f1 w1 r1 z => ?_
  obtain ⟨⟨ks, xs, hi, hnk⟩, z⟩ := z
  obtain ⟨a, dx, fs, rfl, h1, h2, h3⟩ := w1.ins r1 hi
  refine ⟨a, dx, fs, rfl, h1, look_none h2 hnk, z G1 σ H1 _ w1 (er.mono f1.exG) fun vs G2 C2 H2 ds2 f2 w2 r2 zz => ?_⟩
  exact toSp_ok (ds := d :: ds2) w2 (.cons (r1.mono f2.exG) r2) hdat (f1.trans f2) q zz
theorem x_meth0 (hx : Ctx P w K mg base j X) (hM : MthC P w K mg base Cl m n dfl S) (h : WE X o env C fun d C1 => (∃ ks xs, insD C1 d = some (Cl, ks, xs) ∧ m ∉ ks) ∧ S (d :: dfl) C1 k) (hle : n ≤ j := by decide) {pl : Sem Bool}
    (ht : eval (.Call (.Attribute o m apos) [] [] pos) X.env = (do
      let ov ← eval o X.env
      standAt apos.atName
      let (f, first) ← holding [ov] (getMethod ov m pl)
      callWith pos f first (backTo pos (starEach [] X.env)) (backToKw pos (keywordEach [] X.env))) := by rfl) : WE X (.Call (.Attribute o m apos) [] [] pos) env C k := by
  obtain ⟨hc, fa, hm, fd, ps, ds, dvs, F, hb, hd, hdat⟩ := hM
  have hroom := hx.room
  obtain ⟨e1, e2, e3, e4, e5, _, hgd, hcalm⟩ := hx
  subst e1 e2 e3 e4 e5
  refine .of (pe_methG0 pe_tS hc hm F hgd (hroom.mono hle) hb hd pass0 ht) fun G σ H Q w er q => h G σ H _ w er fun u G1 C1 H1 d f1 w1 r1 z => ?_
  obtain ⟨⟨ks, xs, hi, hnk⟩, z⟩ := z
  obtain ⟨a, dx, fs, rfl, h1, h2, h3⟩ := w1.ins r1 hi
  exact ⟨a, dx, fs, rfl, h1, look_none h2 hnk, toSp_ok (ds := [d]) (vs := [.ref a]) (X0 := E0) w1 (.cons r1 .nil) hdat f1 q z⟩
theorem made_ok {G H : Hp} {a dx : Addr} (w1 : Wld K G C H) (ha : H a = none) (hd : H dx = none) (hne : dx ≠ a) : Wld K G (put C a (.ins Cl [] [])) (upd (upd H dx (.own a)) a (.ins Cl dx [])) ∧ Fr G C H G (put C a (.ins Cl [] [])) (upd (upd H dx (.own a)) a (.ins Cl dx [])) := by
  have w2 : Wld K G C (upd H dx (.own a)) := by
    obtain ⟨g, c⟩ := w1.ne hd
    exact ⟨fun b o e => by rw [upd_ne (ne_of_none e g)]; exact w1.ex b o e, fun b c' e => by
      obtain ⟨h1, h2⟩ := w1.cell b c' e
      exact ⟨h1, h2.mono (fun _ _ h => h) (upd_ne (cell_ne e c))⟩, w1.nt⟩
  have f2 : Fr G C H G C (upd H dx (.own a)) := Fr.fresh hd
  have ha2 : upd H dx (.own a) a = none := by rw [upd_ne hne.symm]; exact ha
  obtain ⟨w3, f3⟩ := w2.newC ha2 (o := .ins Cl dx []) (c := .ins Cl [] []) fun H' e => ⟨dx, [], e, rfl, .nil⟩
  exact ⟨w3, f2.trans f3⟩
theorem x_make (hx : Ctx P w K mg base j X) (hM : MakC P w K mg base x Cl n dfl S) (hg : Gl X x) (h : WA X (e :: es) env C fun ds C1 => ∀ a, C1 a = none → S (.own a :: (ds ++ dfl)) (put C1 a (.ins Cl [] [])) fun d C2 => d = .non ∧ k (.own a) C2) (hle : n + 1 ≤ j := by decide)
    (hdb : (x == ("__debug__" : Str)) = false := by decide) (he : starEach (e :: es) X.env = (false, eval e X.env) :: starEach es X.env := by rfl) (hpl : (backTo pos (starEach es X.env)).any (·.1) = false := by rfl) : WE X (.Call (.Name x p) (e :: es) [] pos) env C k := by
  obtain ⟨hmg, fa, hm, fd, ps, ds, dvs, F, hb, hd, hdat⟩ := hM
  have hroom := hx.room
  obtain ⟨e1, e2, e3, e4, e5, _, hgd, hcalm⟩ := hx
  subst e1 e2 e3 e4 e5
  refine .of (pe_makeG hm F hgd (hroom.mono hle) hg hmg hb hd pass0 pa_tAr hdb he hpl) fun G σ H Q w er q => h G σ H _ w er fun vs G1 C1 H1 ds1 f1 w1 r1 z => fun a dx ha hdx hne => ?_
  obtain ⟨w3, f3⟩ := made_ok (Cl := Cl) w1 ha hdx hne
  refine toSp_ok (ds := .own a :: ds1) (vs := .ref a :: vs) (k := fun d C2 => d = .non ∧ k (.own a) C2) w3 (.cons (.own a) (r1.mono f3.exG)) hdat (Fr.refl ..) ?_ (z a (w1.ne ha).2)
  rintro v G2 C2 H2 d f2 w2 r2 ⟨rfl, zk⟩
  cases r2
  exact ⟨rfl, q _ _ _ _ _ ((f1.trans f3).trans f2) w2 (.own a) zk⟩
theorem x_make0 (hx : Ctx P w K mg base j X) (hM : MakC P w K mg base x Cl n dfl S) (hg : Gl X x) (h : ∀ a, C a = none → S (.own a :: dfl) (put C a (.ins Cl [] [])) fun d C2 => d = .non ∧ k (.own a) C2) (hle : n + 1 ≤ j := by decide)
    (hdb : (x == ("__debug__" : Str)) = false := by decide) : WE X (.Call (.Name x p) [] [] pos) env C k := by
  obtain ⟨hmg, fa, hm, fd, ps, ds, dvs, F, hb, hd, hdat⟩ := hM
  have hroom := hx.room
  obtain ⟨e1, e2, e3, e4, e5, _, hgd, hcalm⟩ := hx
  subst e1 e2 e3 e4 e5
  refine .of (pe_makeG0 hm F hgd (hroom.mono hle) hg hmg hb hd pass0 hdb) fun G σ H Q w1 er q => fun a dx ha hdx hne => ?_
  obtain ⟨w3, f3⟩ := made_ok (Cl := Cl) w1 ha hdx hne
  refine toSp_ok (ds := [.own a]) (vs := [.ref a]) (k := fun d C2 => d = .non ∧ k (.own a) C2) w3 (.cons (.own a) .nil) hdat (Fr.refl ..) ?_ (h a (w1.ne ha).2)
  rintro v G2 C2 H2 d f2 w2 r2 ⟨rfl, zk⟩
  cases r2
  exact ⟨rfl, q _ _ _ _ _ (f3.trans f2) w2 (.own a) zk⟩
theorem x_prop (hx : Ctx P w K mg base j X) (hn : Nox X) (hM : PrpC P w K mg base Cl f n S) (h : WE X e env C fun d C1 => (∃ ks xs, insD C1 d = some (Cl, ks, xs)) ∧ S [d] C1 k) (hle : n + 1 ≤ j := by decide)
    (hab : attributeBase e f X.env (eval e X.env) = eval e X.env := by rfl) : WE X (.Attribute e f pos) env C k := by
  obtain ⟨hc, pa, fa, hm, fd, ps, ds, dvs, F, hb, hd, hdat⟩ := hM
  have hroom := hx.room
  obtain ⟨e1, e2, e3, e4, e5, _, hgd, hcalm⟩ := hx
  subst e1 e2 e3 e4 e5
  refine .of (pe_propG pe_tS hc hm F hgd (hroom.mono hle) hb hd pass0 hab) fun G σ H Q w er q => h G σ H _ w er fun u G1 C1 H1 d f1 w1 r1 z => ?_
  obtain ⟨⟨ks, xs, hi⟩, z⟩ := z
  obtain ⟨a, dx, fs, rfl, h1, h2, h3⟩ := w1.ins r1 hi
  have := toSp_ok (ds := [d]) (vs := [.ref a]) (X0 := E0) w1 (.cons r1 .nil) hdat f1 q (by simpa using z)
  exact ⟨a, dx, fs, rfl, h1, this⟩
end
end DL
/-! DLw: dicts by data (keys ints and texts). -/
namespace DL
open PySem PySem.Spec PyProof.Rows L2
/-- a key as data -/
def kD : Key → D
  | .inl i => .int i
  | .inr s => .str s
def valD (kvs : List (Key × D)) (k : Key) : Option D := (kvs.find? fun kv => decide (kv.1 = k)).map (·.2)
def putD (kvs : List (Key × D)) (k : Key) (v : D) : List (Key × D) :=
  if (kvs.any fun kv => decide (kv.1 = k)) = true then kvs.map (fun kv => if kv.1 = k then (kv.1, v) else kv) else kvs ++ [(k, v)]
def dropD (kvs : List (Key × D)) (k : Key) : List (Key × D) := kvs.filter fun kv => decide (kv.1 ≠ k)
section
variable {K : PySem.W.Frag} {G H : Hp} {C : CS}
theorem dat_key {v : V} {k : Key} (r : Dat K G v (kD k)) : v = kV k := by
  cases k <;> (cases r; rfl)
theorem rel_val {k : Key} : ∀ {kw : List (Key × V)} {kvs : List (Key × D)}, kw.map (·.1) = kvs.map (·.1) → DatAll K G (kw.map (·.2)) (kvs.map (·.2)) → (valD kvs k = none → valV kw k = none) ∧ (∀ d, valD kvs k = some d → ∃ v, valV kw k = some v ∧ Dat K G v d) ∧ (valV kw k).isSome = (valD kvs k).isSome
  | [], [], _, _ => ⟨fun _ => rfl, fun d h => (by cases h), rfl⟩
  | (a, v) :: kw, (b, d) :: kvs, e, r => by
    simp only [List.map_cons, List.cons.injEq] at e
    obtain ⟨rfl, e⟩ := e
    cases r with
    | cons r1 r2 =>
      obtain ⟨h1, h2, h3⟩ := rel_val (k := k) e r2
      by_cases hk : a = k
      · have e1 : valV ((a, v) :: kw) k = some v := valV_pos (p := (a, v)) hk
        have e2 : valD ((a, d) :: kvs) k = some d := by simp [valD, List.find?_cons, hk]
        refine ⟨fun z => (by rw [e2] at z; cases z), fun d' z => ?_, by rw [e1, e2]; rfl⟩
        rw [e2] at z; cases z
        exact ⟨v, e1, r1⟩
      · have e1 : valV ((a, v) :: kw) k = valV kw k := valV_neg (p := (a, v)) hk
        have e2 : valD ((a, d) :: kvs) k = valD kvs k := by simp [valD, List.find?_cons, hk]
        rw [e1, e2]
        exact ⟨h1, h2, h3⟩
  | [], _ :: _, e, _ => by simp at e
  | _ :: _, [], e, _ => by simp at e
theorem any_rel {k : Key} : ∀ {kw : List (Key × V)} {kvs : List (Key × D)}, kw.map (·.1) = kvs.map (·.1) → (kw.any fun kv => decide (kv.1 = k)) = (kvs.any fun kv => decide (kv.1 = k))
  | [], [], _ => rfl
  | (a, v) :: kw, (b, d) :: kvs, e => by
    simp only [List.map_cons, List.cons.injEq] at e
    obtain ⟨rfl, e⟩ := e
    rw [List.any_cons, List.any_cons, any_rel e]
  | [], _ :: _, e => by simp at e
  | _ :: _, [], e => by simp at e
theorem map_rel {k : Key} {y : V} {z : D} (rz : Dat K G y z) : ∀ {kw : List (Key × V)} {kvs : List (Key × D)}, kw.map (·.1) = kvs.map (·.1) → DatAll K G (kw.map (·.2)) (kvs.map (·.2)) →
    (kw.map fun kv => if kv.1 = k then (kv.1, y) else kv).map (·.1) = (kvs.map fun kv => if kv.1 = k then (kv.1, z) else kv).map (·.1) ∧ DatAll K G ((kw.map fun kv => if kv.1 = k then (kv.1, y) else kv).map (·.2)) ((kvs.map fun kv => if kv.1 = k then (kv.1, z) else kv).map (·.2))
  | [], [], _, _ => ⟨rfl, .nil⟩
  | (a, v) :: kw, (b, d) :: kvs, e, r => by
    simp only [List.map_cons, List.cons.injEq] at e
    obtain ⟨rfl, e⟩ := e
    cases r with
    | cons r1 r2 =>
      obtain ⟨h1, h2⟩ := map_rel (k := k) rz e r2
      by_cases hk : a = k
      · subst hk
        simp only [List.map_cons, if_true]
        exact ⟨by rw [h1], .cons rz h2⟩
      · simp only [List.map_cons, hk, if_false]
        exact ⟨by rw [h1], .cons r1 h2⟩
  | [], _ :: _, e, _ => by simp at e
  | _ :: _, [], e, _ => by simp at e
theorem put_rel {k : Key} {y : V} {z : D} (rz : Dat K G y z) {kw : List (Key × V)} {kvs : List (Key × D)} (e : kw.map (·.1) = kvs.map (·.1)) (r : DatAll K G (kw.map (·.2)) (kvs.map (·.2))) : (L2.putK kw k y).map (·.1) = (putD kvs k z).map (·.1) ∧ DatAll K G ((L2.putK kw k y).map (·.2)) ((putD kvs k z).map (·.2)) := by
  unfold L2.putK putD
  rw [any_rel e]
  split
  · exact map_rel rz e r
  · rw [List.map_append, List.map_append, List.map_append, List.map_append, e]
    exact ⟨rfl, r.append (.cons rz .nil)⟩
theorem drop_rel {k : Key} : ∀ {kw : List (Key × V)} {kvs : List (Key × D)}, kw.map (·.1) = kvs.map (·.1) → DatAll K G (kw.map (·.2)) (kvs.map (·.2)) → (dropK kw k).map (·.1) = (dropD kvs k).map (·.1) ∧ DatAll K G ((dropK kw k).map (·.2)) ((dropD kvs k).map (·.2))
  | [], [], _, _ => ⟨rfl, .nil⟩
  | (a, v) :: kw, (b, d) :: kvs, e, r => by
    simp only [List.map_cons, List.cons.injEq] at e
    obtain ⟨rfl, e⟩ := e
    cases r with
    | cons r1 r2 =>
      obtain ⟨h1, h2⟩ := drop_rel (k := k) e r2
      unfold dropK dropD at *
      by_cases hk : a = k
      · rw [List.filter_cons_of_neg (by simp [hk]), List.filter_cons_of_neg (by simp [hk])]
        exact ⟨h1, h2⟩
      · rw [List.filter_cons_of_pos (by simp [hk]), List.filter_cons_of_pos (by simp [hk]), List.map_cons, List.map_cons, List.map_cons, List.map_cons, h1]
        exact ⟨rfl, .cons r1 h2⟩
  | [], _ :: _, e, _ => by simp at e
  | _ :: _, [], e, _ => by simp at e
theorem Wld.dic {v : V} {a : Addr} {kvs : List (Key × D)} (w : Wld K G C H) (r : Dat K G v (.own a)) (e : C a = some (.dic kvs)) : v = .ref a ∧ ∃ kw : List (Key × V), H a = some (.dK kw) ∧ kw.map (·.1) = kvs.map (·.1) ∧ DatAll K G (kw.map (·.2)) (kvs.map (·.2)) := by
  cases r
  obtain ⟨_, kw, h1, h2, h3⟩ := w.cell a _ e
  exact ⟨rfl, kw, h1, h2, h3⟩
end
/-! ### d[k], lists and dicts alike -/
def rIxD : R2 := fun x y H Q => ∃ a v, x = .ref a ∧ DGet H a y (some v) ∧ Q v H
theorem ix_dict {X : Cx} (hu : X.A.units + 1 < cLine) : IxR X rIxD := by
  intro value slice pins s σ H x y v u Q I rx ry h hs
  obtain ⟨a, z, rfl, g, q⟩ := h
  obtain rfl : v = Value.ref a := rx
  have hT := dict_typeIs I g
  have h2 : wpAny (model X.prog X.w) X.A (getItem (.ref a) u) (EP X pins σ Q) X.xe s := d_getItem hu I g ry fun w' s3 I3 rw' => ⟨z, H, I3, rw', q⟩
  unfold subscriptTail
  refine wpAny_bind ?_
  rw [getitemInPython_of_ne hT.not_modules]
  refine wpAny_bind (wpAny_specialOf hT PySem.F.slot_dict_getitem.lookup ?_)
  have fin : wpAny (model X.prog X.w) X.A (subscripted slice false (.ref a) u) (fun r s₃ => wpAny (model X.prog X.w) X.A (letTemporaryGo value (.ref a) r >>= fun _ => pure r) (EP X pins σ Q) X.xe s₃) X.xe s := by
    rw [hs]
    exact wpAny_operating (wpAny_mono h2 (fun r s₃ h₃ => wpAny_bind (wpAny_letTemporaryGo (wpAny_pure h₃))) fun _ _ x => x)
  first
    | exact wpAny_pure (wpAny_bind fin)
    | exact wpAny_bind (wpAny_pure (wpAny_bind fin))
    | exact wpAny_bind fin
theorem IxR.or {X : Cx} {r r' : R2} (h : IxR X r) (h' : IxR X r') : IxR X fun x y H Q => r x y H Q ∨ r' x y H Q := by
  intro value slice pins s σ H x y v u Q I rx ry hq hs
  rcases hq with hq | hq
  · exact h value slice pins s σ H x y v u Q I rx ry hq hs
  · exact h' value slice pins s σ H x y v u Q I rx ry hq hs
def dGetD : OpD := fun x y C k => ∃ a kvs ky d, x = .own a ∧ y = kD ky ∧ C a = some (.dic kvs) ∧ valD kvs ky = some d ∧ k d C
def dIxD : OpD := fun x y C k => dIx x y C k ∨ dGetD x y C k
theorem r2_ixD {K : PySem.W.Frag} : R2D K (fun x y H Q => rIx K x y H Q ∨ rIxD x y H Q) dIxD := by
  rintro x y a b G C H k Q w da db (h | ⟨p, kvs, ky, d, rfl, rfl, hp, hv, hk⟩) q
  · exact .inl (r2_ix x y a b G C H k Q w da db h q)
  · obtain ⟨rfl, kw, h1, h2, h3⟩ := w.dic da hp
    obtain rfl := dat_key db
    obtain ⟨_, g2, _⟩ := rel_val (k := ky) h2 h3
    obtain ⟨v, e, r⟩ := g2 d hv
    refine .inr ⟨p, v, rfl, ?_, q _ _ _ _ _ (Fr.refl ..) w r hk⟩
    rw [← e]
    exact DGet.k h1
/-! ### in -/
def rInDk (neg : Bool) : R2 := fun y x H Q => ∃ a o, x = .ref a ∧ DGet H a y o ∧ Q (.bl (if neg = true then !o.isSome else o.isSome)) H
theorem op_inDk {X : Cx} (hu : X.A.units + 1 < cLine) : OpR X (compareOp .In) (rInDk false) := by
  rintro pins s σ H y x u v Q I ry rx ⟨a, o, rfl, g, q⟩
  obtain rfl : v = Value.ref a := rx
  exact d_in hu I g ry fun s3 I3 => ⟨.bl o.isSome, H, I3, rfl, q⟩
theorem op_ninDk {X : Cx} (hu : X.A.units + 1 < cLine) : OpR X (compareOp .NotIn) (rInDk true) := by
  rintro pins s σ H y x u v Q I ry rx ⟨a, o, rfl, g, q⟩
  obtain rfl : v = Value.ref a := rx
  exact d_notIn hu I g ry fun s3 I3 => ⟨.bl (!o.isSome), H, I3, rfl, q⟩
def dInDk (neg : Bool) : OpD := fun y x C k => ∃ a kvs ky, x = .own a ∧ y = kD ky ∧ C a = some (.dic kvs) ∧ k (.bl (if neg = true then !(valD kvs ky).isSome else (valD kvs ky).isSome)) C
theorem r2_inDk {K : PySem.W.Frag} {neg : Bool} : R2D K (rInDk neg) (dInDk neg) := by
  rintro y x b a G C H k Q w db da ⟨p, kvs, ky, rfl, rfl, hp, hk⟩ q
  obtain ⟨rfl, kw, h1, h2, h3⟩ := w.dic da hp
  obtain rfl := dat_key db
  obtain ⟨_, _, g3⟩ := rel_val (k := ky) h2 h3
  refine ⟨p, valV kw ky, rfl, DGet.k h1, ?_⟩
  rw [g3]
  exact q _ _ _ _ _ (Fr.refl ..) w (.bl _) hk
def dInX (neg : Bool) : OpD := fun x y C k => dIn neg x y C k ∨ dInDk neg x y C k
theorem OpD.or {K : PySem.W.Frag} {r r' : R2} {p p' : OpD} (h : R2D K r p) (h' : R2D K r' p') : R2D K (fun x y H Q => r x y H Q ∨ r' x y H Q) fun x y C k => p x y C k ∨ p' x y C k := by
  rintro x y a b G C H k Q w da db (z | z) q
  · exact .inl (h x y a b G C H k Q w da db z q)
  · exact .inr (h' x y a b G C H k Q w da db z q)
/-! ### d[k] = v -/
def rSetD : TSet := fun x i v H Q => ∃ a H', x = .ref a ∧ DPut H a i v H' ∧ Q H'
theorem set_dict {X : Cx} (hu : X.A.units + 1 < cLine) : PSet X rSetD := by
  intro pins s σ H o i v ov iv u Q I ro ri rv h
  obtain ⟨a, H', rfl, g, q⟩ := h
  obtain rfl : ov = Value.ref a := ro
  exact d_setItem hu I g ri rv fun s4 I4 => ⟨H', I4, q⟩
theorem PSet.or {X : Cx} {t t' : TSet} (h : PSet X t) (h' : PSet X t') : PSet X fun x i v H Q => t x i v H Q ∨ t' x i v H Q := by
  intro pins s σ H o i v ov iv u Q I ro ri rv hq
  rcases hq with hq | hq
  · exact h pins s σ H o i v ov iv u Q I ro ri rv hq
  · exact h' pins s σ H o i v ov iv u Q I ro ri rv hq
def dSetX (x y d : D) (C : CS) (kC : CS → Prop) : Prop := (∃ p n xs j, x = .own p ∧ y = .int n ∧ C p = some (.lst xs) ∧ ixN xs.length n = some j ∧ kC (put C p (.lst (xs.set j d)))) ∨
  ∃ p kvs ky, x = .own p ∧ y = kD ky ∧ C p = some (.dic kvs) ∧ kvs.length < sizeLine ∧ kC (put C p (.dic (putD kvs ky d)))
section
variable {P : Program} {w : World} {K : PySem.W.Frag} {mg : Str → Option Value} {base : Heap} {j n : Nat} {X : Cx} {a b e o i : Expr} {es : List Expr} {env : DEnv} {C : CS} {k : KD} {kb : Bool → CS → Prop} {pos p apos cpos tpos p0 : Pos} {E : DEnds}
theorem Ctx.hu (hx : Ctx P w K mg base j X) : X.A.units + 1 < cLine := by have := hx.room.units; have := hx.room.un; omega
theorem x_ixD (hx : Ctx P w K mg base j X) (h : WE X a env C fun x C1 => WE X b env C1 fun y C2 => dIxD x y C2 k) (hs : PlainIx b := by intro _ _; rfl) : WE X (.Subscript a b pos) env C k := .of (pe_ix (IxR.or ix_seq (ix_dict hx.hu)) pe_tS pe_tS hs) (ev_op r2_ixD h)
theorem x_inX (hx : Ctx P w K mg base j X) (h : WE X a env C fun x C1 => WE X b env C1 fun y C2 => dInX false x y C2 k) (hm : behindInMarks .In b = false := by rfl) : WE X (.Compare a [.In] [b] pos) env C k := we_cmp (OpR.or (OpR.or (op_inD (Room.u65 hx.room)) (OpR.or op_in_sign op_in_seq)) (op_inDk hx.hu)) (OpD.or r2_in r2_inDk) h hm
theorem xt_inX (hx : Ctx P w K mg base j X) (h : WE X a env C fun x C1 => WE X b env C1 fun y C2 => dInX false x y C2 (tb kb)) (hm : behindInMarks .In b = false := by rfl) : WT X (.Compare a [.In] [b] pos) env C kb := wt_cmp (OpR.or (OpR.or (op_inD (Room.u65 hx.room)) (OpR.or op_in_sign op_in_seq)) (op_inDk hx.hu)) (OpD.or r2_in r2_inDk) h hm
theorem x_ninX (hx : Ctx P w K mg base j X) (h : WE X a env C fun x C1 => WE X b env C1 fun y C2 => dInX true x y C2 k) (hm : behindInMarks .NotIn b = false := by rfl) : WE X (.Compare a [.NotIn] [b] pos) env C k := we_cmp (OpR.or (OpR.or (op_notInD (Room.u65 hx.room)) (OpR.or op_notIn_sign op_notIn_seq)) (op_ninDk hx.hu)) (OpD.or r2_nin r2_inDk) h hm
theorem xt_ninX (hx : Ctx P w K mg base j X) (h : WE X a env C fun x C1 => WE X b env C1 fun y C2 => dInX true x y C2 (tb kb)) (hm : behindInMarks .NotIn b = false := by rfl) : WT X (.Compare a [.NotIn] [b] pos) env C kb := wt_cmp (OpR.or (OpR.or (op_notInD (Room.u65 hx.room)) (OpR.or op_notIn_sign op_notIn_seq)) (op_ninDk hx.hu)) (OpD.or r2_nin r2_inDk) h hm
theorem set_dat {G H : Hp} {x i' v : V} {dx di dv : D} {kC : CS → Prop} {Q : Hp → Prop} (w1 : Wld K G C H) (rx : Dat K G x dx) (ri : Dat K G i' di) (rv : Dat K G v dv) (h : dSetX dx di dv C kC) (q : ∀ C' H', Fr G C H G C' H' → Wld K G C' H' → kC C' → Q H') : rSetL x i' v H Q ∨ rSetD x i' v H Q := by
  rcases h with ⟨p, n, xs, j, rfl, rfl, hp, hj, hk⟩ | ⟨p, kvs, ky, rfl, rfl, hp, hl, hk⟩
  · exact .inl (set_ok w1 hp rx ri rv hj fun H' f w' => q _ H' f w' hk)
  · obtain ⟨rfl, kw, h1, h2, h3⟩ := w1.dic rx hp
    obtain rfl := dat_key ri
    obtain ⟨g1, g2⟩ := put_rel (k := ky) rv h2 h3
    have hlen : kw.length = kvs.length := by rw [← List.length_map (f := (·.1)) (as := kw), h2, List.length_map]
    obtain ⟨w3, f3⟩ := w1.write hp (o := .dK (L2.putK kw ky v)) (c' := .dic (putD kvs ky dv)) fun H' e => ⟨_, e, g1, g2⟩
    exact .inr ⟨p, _, rfl, DPut.k h1 (by rw [hlen]; exact hl), q _ _ f3 w3 hk⟩
theorem x_setX (hx : Ctx P w K mg base j X) {d : D} {kE : DEnv → CS → Prop} (h : WE X o env C fun x C1 => WE X i env C1 fun y C2 => dSetX x y d C2 (kE env))
    (ha : ∀ v, assign (.Subscript o i pos) X.env v = (do
      let ov ← holding [v] (eval o X.env)
      let iv ← holding [v, ov] (eval i X.env)
      standAt pos
      holding [v, ov, iv] (setItem ov iv v)
      release [v, ov, iv] []) := by intro _; rfl) : WG X (.Subscript o i pos) d env C kE :=
  .of (pg_sub pe_tS pe_tS (PSet.or set_list (set_dict hx.hu)) ha) fun G σ H v Q w er r q => h G σ H _ w er fun x' G1 C1 H1 x f1 w1 r1 h1 => h1 G1 σ H1 _ w1 (er.mono f1.exG) fun y' G2 C2 H2 y f2 w2 r2 h2 =>
    set_dat w2 (r1.mono f2.exG) r2 (r.mono (f1.trans f2).exG) h2 fun C' H' f3 w3 hk => q _ _ _ _ _ ((f1.trans f2).trans f3) w3 (er.mono (f1.trans f2).exG) hk
/-- {} -/
theorem x_dnew (h : ∀ a, C a = none → k (.own a) (put C a (.dic []))) : WE X (.Dict [] [] pos) env C k := .of pe_dnewK fun G σ H Q w er q p hp => by
  obtain ⟨w3, f3⟩ := w.newC hp (o := .dK []) (c := .dic []) fun H' e => ⟨[], e, rfl, .nil⟩
  exact q _ _ _ _ _ f3 w3 (.own p) (h p (w.ne hp).2)
/-- d.get(k, x) -/
theorem x_dget2 (hx : Ctx P w K mg base j X) (h : WE X o env C fun x C1 => ∃ p kvs, x = .own p ∧ C1 p = some (.dic kvs) ∧ WE X a env C1 fun y C2 => WE X b env C2 fun z C3 => ∃ kvs ky, y = kD ky ∧ C3 p = some (.dic kvs) ∧ k ((valD kvs ky).getD z) C3)
    (m : M2 X o "get" apos a b cpos) : WE X (.Call (.Attribute o "get" apos) [a, b] [] cpos) env C k :=
  .of (pe_dget2 hx.hu pe_tS pe_tS pe_tS m) fun G σ H Q w er q => h G σ H _ w er fun x' G1 C1 H1 x f1 w1 r1 z => by
    obtain ⟨p, kvs, rfl, hp, z⟩ := z
    obtain ⟨rfl, kw, h1, h2, h3⟩ := w1.dic r1 hp
    refine ⟨p, rfl, .inl ⟨kw, .inl h1⟩, z G1 σ H1 _ w1 (er.mono f1.exG) fun y' G2 C2 H2 y f2 w2 r2 z2 => z2 G2 σ H2 _ w2 (er.mono (f1.trans f2).exG) fun z' G3 C3 H3 zd f3 w3 r3 z3 => ?_⟩
    obtain ⟨kvs', ky, rfl, hp', hk⟩ := z3
    obtain ⟨_, kw', g1, g2, g3⟩ := w3.dic (.own p) hp'
    have e := dat_key r2
    subst e
    obtain ⟨u1, u2, u3⟩ := rel_val (k := ky) g2 g3
    refine ⟨valV kw' ky, DGet.k g1, ?_⟩
    cases hv : valD kvs' ky with
    | none =>
      rw [u1 hv]
      rw [hv] at hk
      exact q _ _ _ _ _ ((f1.trans f2).trans f3) w3 r3 hk
    | some d =>
      obtain ⟨v, e1, e2⟩ := u2 d hv
      rw [e1]
      rw [hv] at hk
      exact q _ _ _ _ _ ((f1.trans f2).trans f3) w3 e2 hk
/-- d.pop(k), there -/
theorem x_dpop1 (h : WE X o env C fun x C1 => ∃ p kvs, x = .own p ∧ C1 p = some (.dic kvs) ∧ WE X a env C1 fun y C2 => ∃ kvs ky d, y = kD ky ∧ C2 p = some (.dic kvs) ∧ valD kvs ky = some d ∧ k d (put C2 p (.dic (dropD kvs ky))))
    (m : M1 X o "pop" apos a cpos) : WE X (.Call (.Attribute o "pop" apos) [a] [] cpos) env C k :=
  .of (pe_dpop1 pe_tS pe_tS m) fun G σ H Q w er q => h G σ H _ w er fun x' G1 C1 H1 x f1 w1 r1 z => by
    obtain ⟨p, kvs, rfl, hp, z⟩ := z
    obtain ⟨rfl, kw, h1, h2, h3⟩ := w1.dic r1 hp
    refine ⟨p, rfl, .inl ⟨kw, .inl h1⟩, z G1 σ H1 _ w1 (er.mono f1.exG) fun y' G2 C2 H2 y f2 w2 r2 z2 => ?_⟩
    obtain ⟨kvs', ky, d, rfl, hp', hv, hk⟩ := z2
    obtain ⟨_, kw', g1, g2, g3⟩ := w2.dic (.own p) hp'
    obtain rfl := dat_key r2
    obtain ⟨_, u2, _⟩ := rel_val (k := ky) g2 g3
    obtain ⟨v, e1, e2⟩ := u2 d hv
    obtain ⟨v1, v2⟩ := drop_rel (k := ky) g2 g3
    obtain ⟨w3, f3⟩ := w2.write hp' (o := .dK (dropK kw' ky)) (c' := .dic (dropD kvs' ky)) fun H' e => ⟨_, e, v1, v2⟩
    exact ⟨kw', ky, v, g1, rfl, e1, q _ _ _ _ _ ((f1.trans f2).trans f3) w3 e2 hk⟩
/-- del d[k] -/
theorem x_ddel (h : WE X o env C fun x C1 => WE X i env C1 fun y C2 => ∃ p kvs ky, x = .own p ∧ y = kD ky ∧ C2 p = some (.dic kvs) ∧ (valD kvs ky).isSome = true ∧ E.nx env (put C2 p (.dic (dropD kvs ky)))) : WS X (.Delete [.Subscript o i tpos] pos) env C E :=
  .of (ps_ddel pe_tS pe_tS) fun G σ H D w er q => h G σ H _ w er fun x' G1 C1 H1 x f1 w1 r1 h1 => h1 G1 σ H1 _ w1 (er.mono f1.exG) fun y' G2 C2 H2 y f2 w2 r2 z => by
    obtain ⟨p, kvs, ky, rfl, rfl, hp, hv, hk⟩ := z
    obtain ⟨rfl, kw, g1, g2, g3⟩ := w2.dic (r1.mono f2.exG) hp
    obtain rfl := dat_key r2
    obtain ⟨_, _, u3⟩ := rel_val (k := ky) g2 g3
    obtain ⟨v1, v2⟩ := drop_rel (k := ky) g2 g3
    obtain ⟨w3, f3⟩ := w2.write hp (o := .dK (dropK kw ky)) (c' := .dic (dropD kvs ky)) fun H' e => ⟨_, e, v1, v2⟩
    exact ⟨p, kw, ky, rfl, g1, rfl, by rw [u3]; exact hv, q.nx _ _ _ _ _ ((f1.trans f2).trans f3) w3 (er.mono ((f1.trans f2).trans f3).exG) hk⟩
end
/-! ### len, sorted, list of a dict -/
def dLenK : List D → CS → KD → Prop := fun ds C k => ∃ a kvs, ds = [.own a] ∧ C a = some (.dic kvs) ∧ k (.int (kvs.length : Nat)) C
theorem rl_lenK {K : PySem.W.Frag} : RLD K (fun xs H Q => ∃ a kvs, xs = [V.ref a] ∧ H a = some (.dK kvs) ∧ Q (.int kvs.length) H) dLenK := by
  rintro xs ds G C H k Q w rs ⟨a, kvs, rfl, hp, hk⟩ q
  cases rs with
  | cons r1 r2 =>
    cases r2
    obtain ⟨rfl, kw, h1, h2, _⟩ := w.dic r1 hp
    have hlen : kw.length = kvs.length := by rw [← List.length_map (f := (·.1)) (as := kw), h2, List.length_map]
    exact ⟨a, kw, rfl, h1, by rw [hlen]; exact q _ _ _ _ _ (Fr.refl ..) w (.int _) hk⟩
def dLenX : List D → CS → KD → Prop := fun ds C k => dLen ds C k ∨ dLenK ds C k
theorem CallR.or {X : Cx} {f : Value} {r r' : List V → Hp → VK → Prop} (h : CallR X f r) (h' : CallR X f r') : CallR X f fun xs H Q => r xs H Q ∨ r' xs H Q := by
  intro pins s σ H xs us Q I rv hq
  rcases hq with hq | hq
  · exact h pins s σ H xs us Q I rv hq
  · exact h' pins s σ H xs us Q I rv hq
theorem RLD.or {K : PySem.W.Frag} {r r' : List V → Hp → VK → Prop} {p p' : List D → CS → KD → Prop} (h : RLD K r p) (h' : RLD K r' p') : RLD K (fun xs H Q => r xs H Q ∨ r' xs H Q) fun ds C k => p ds C k ∨ p' ds C k := by
  rintro xs ds G C H k Q w rs (z | z) q
  · exact .inl (h xs ds G C H k Q w rs z q)
  · exact .inr (h' xs ds G C H k Q w rs z q)
/-- sorted(d), keys texts -/
def dSortedK : List D → CS → KD → Prop := fun ds C k => ∃ (a : Addr) (kvs : List (Key × D)) (ks : List Str), ds = [.own a] ∧ C a = some (.dic kvs) ∧ kvs.map (·.1) = ks.map Sum.inr ∧ ks.length < 64 ∧ ∀ ys p, ys.Perm ks → sortedS ys = true → C p = none → k (.own p) (put C p (.lst (ys.map D.str)))
theorem rl_sortedK {K : PySem.W.Frag} : RLD K (fun xs H Q => ∃ (a : Addr) (kvs : List (Key × V)) (ks : List Str), xs = [.ref a] ∧ Rd H a (.dK kvs) ∧ kvs.map (·.1) = ks.map Sum.inr ∧ ks.length < 64 ∧
    ∀ ys p, ys.Perm ks → sortedS ys = true → H p = none → Q (.ref p) (upd H p (.lst (ys.map V.str)))) dSortedK := by
  rintro xs ds G C H k Q w rs ⟨a, kvs, ks, rfl, hp, hks, h64, hk⟩ q
  cases rs with
  | cons r1 r2 =>
    cases r2
    obtain ⟨rfl, kw, h1, h2, _⟩ := w.dic r1 hp
    refine ⟨a, kw, ks, rfl, .inl h1, h2.trans hks, h64, fun ys p hperm hs hp => ?_⟩
    obtain ⟨w3, f3⟩ := w.newC hp (o := .lst (ys.map V.str)) (c := .lst (ys.map D.str)) fun H' e => ⟨_, e, datAll_strsI ys⟩
    exact q _ _ _ _ _ f3 w3 (.own p) (hk ys p hperm hs (w.ne hp).2)
section
variable {P : Program} {w : World} {K : PySem.W.Frag} {mg : Str → Option Value} {base : Heap} {j n : Nat} {X : Cx} {e : Expr} {es : List Expr} {env : DEnv} {C : CS} {k : KD} {pos p : Pos}
theorem x_lenX (hx : Ctx P w K mg base j X) (Z : Zs mg) (hg : Gl X "len") (h : WA X (e :: es) env C fun ds C1 => dLenX ds C1 k) (he : starEach (e :: es) X.env = (false, eval e X.env) :: starEach es X.env := by rfl) (hpl : (backTo pos (starEach es X.env)).any (·.1) = false := by rfl) : WE X (.Call (.Name "len" p) (e :: es) [] pos) env C k := we_cb (hx.zs Z).len (CallR.or call_len call_lenD) (RLD.or rl_len rl_lenK) hg bt_len h (he := he) (hpl := hpl)
theorem x_sortedK (hx : Ctx P w K mg base j X) (Z : Zs mg) (hg : Gl X "sorted") (h : WA X (e :: es) env C fun ds C1 => dSortedK ds C1 k) (he : starEach (e :: es) X.env = (false, eval e X.env) :: starEach es X.env := by rfl) (hpl : (backTo pos (starEach es X.env)).any (·.1) = false := by rfl) : WE X (.Call (.Name "sorted" p) (e :: es) [] pos) env C k := we_cb (hx.zs Z).sorted (call_sortedD hx.calm) rl_sortedK hg (by decide +kernel) h (he := he) (hpl := hpl)
end
end DL
/-! DLx: enumerate of a tuple; own __len__ and __contains__; strip with signs; dict of pairs. -/
namespace PySem
open Sem (wp)
open AutoSeq1 (wpAny_loadPart')
section
variable {prog : Program} {w : World} {A : Around} {E : Value → Shared → Prop} {s : Shared}
end
end PySem

namespace L2
open PySem PySem.Spec PyProof.Rows
end L2

namespace L2
open PySem PySem.Spec PyProof.Rows
section
variable {X : Cx} {CT : CXT} {n : Nat} {fa Ca : Addr} {fd : FuncData} {ps : List Str} {sp : Sp} {E : XK} {dvs : List V} {ds : List Value}
end
end L2
namespace DL
open PySem PySem.Spec PyProof.Rows L2
section
variable {P : Program} {w : World} {K : PySem.W.Frag} {mg : Str → Option Value} {base : Heap} {j n m : Nat} {X : Cx} {Cl : Addr} {S : DSp} {dfl : List D} {a b e o : Expr} {ts es : List Expr} {env : DEnv} {C : CS} {k : KD} {kI : KI} {kb : Bool → CS → Prop} {pos p apos tpos cpos : Pos}
/-! ### strip -/
def dStripC : D → List D → CS → KD → Prop := fun x ds C k => ∃ z y, x = .str z ∧ ds = [.str y] ∧ z.length ≤ sizeLine ∧ k (.str (Txt.stripChars z y)) C
theorem rm_stripC {K : PySem.W.Frag} : RMD K (fun x xs H Q => ∃ a b, x = .str a ∧ xs = [.str b] ∧ a.length ≤ sizeLine ∧ Q (.str (Txt.stripChars a b)) H) dStripC := by
  rintro x a xs ds G C H k Q w da rs ⟨z, y, rfl, rfl, hl, hk⟩ q
  cases da
  cases rs with
  | cons r1 r2 =>
    cases r2
    cases r1
    exact ⟨z, y, rfl, rfl, hl, q _ _ _ _ _ (Fr.refl ..) w (.str _) hk⟩
theorem x_stripC (h : WE X o env C fun x C1 => tyD "str" C1 x ∧ WA X (e :: es) env C1 fun ds C2 => dStripC x ds C2 k) (hbase : attributeBase o "strip" X.env (eval o X.env) = eval o X.env := by rfl)
    (hfew : ((backTo cpos (starEach (e :: es) X.env)).all (fun x => !x.1) && (backToKw cpos (keywordEach [] X.env)).all (fun x => x.1.isSome)
      && decide ((e :: es).length + ([] : List Keyword).length + (if ([] : List Keyword).isEmpty then 0 else 1) < 30)) = true := by rfl)
    (hline : (apos.endLine == cpos.line) = true := by rfl) (hs : starEach (e :: es) X.env = (false, eval e X.env) :: starEach es X.env := by rfl) (hplain : (backTo cpos (starEach es X.env)).any (·.1) = false := by rfl) :
    WE X (.Call (.Attribute o "strip" apos) (e :: es) [] cpos) env C k :=
  we_bm PySem.F.plainAttrs_str PySem.F.slot_str_strip PySem.F.type_str_strip mt_stripChars rm_stripC h hbase hfew hline hs hplain
end
/-! ### dict of pairs -/
def mergeD (kvs more : List (Key × D)) : List (Key × D) := more.foldl (fun acc kv => putD acc kv.1 kv.2) kvs
section
variable {K : PySem.W.Frag} {G H : Hp} {C : CS}
theorem merge_rel : ∀ {mw : List (Key × V)} {more : List (Key × D)} {kw : List (Key × V)} {kvs : List (Key × D)}, mw.map (·.1) = more.map (·.1) → DatAll K G (mw.map (·.2)) (more.map (·.2)) → kw.map (·.1) = kvs.map (·.1) → DatAll K G (kw.map (·.2)) (kvs.map (·.2)) →
    (mergeK kw mw).map (·.1) = (mergeD kvs more).map (·.1) ∧ DatAll K G ((mergeK kw mw).map (·.2)) ((mergeD kvs more).map (·.2))
  | [], [], _, _, _, _, e, r => ⟨e, r⟩
  | (a, v) :: mw, (b, d) :: more, kw, kvs, e1, r1, e, r => by
    simp only [List.map_cons, List.cons.injEq] at e1
    obtain ⟨rfl, e1⟩ := e1
    cases r1 with
    | cons r1 r2 =>
      obtain ⟨g1, g2⟩ := put_rel (k := a) r1 e r
      exact merge_rel (mw := mw) (more := more) e1 r2 g1 g2
  | [], _ :: _, _, _, e, _, _, _ => by simp at e
  | _ :: _, [], _, _, e, _, _, _ => by simp at e
theorem pairs_dat : ∀ {vs : List V} {kvs : List (Key × D)}, DatAll K G vs (kvs.map fun kv => D.tup [kD kv.1, kv.2]) → (∀ a o, G a = some o → H a = some o) → ∃ (ps : List Addr) (kw : List (Key × V)), vs = ps.map V.ref ∧ Paired (fun p kv => SqT K H p [kV kv.1, kv.2]) ps kw ∧ kw.map (·.1) = kvs.map (·.1) ∧ DatAll K G (kw.map (·.2)) (kvs.map (·.2))
  | [], [], _, _ => ⟨[], [], rfl, .nil, rfl, .nil⟩
  | v :: vs, (ky, d) :: kvs, r, e => by
    cases r with
    | cons r1 r2 =>
      obtain ⟨ps, kw, h1, h2, h3, h4⟩ := pairs_dat (vs := vs) (kvs := kvs) r2 e
      cases r1 with
      | @tup p us _ x1 x2 =>
        cases x2 with
        | @cons u1 _ us' _ y1 y2 =>
          cases y2 with
          | @cons u2 _ us'' _ z1 z2 =>
            cases z2
            obtain rfl := dat_key y1
            exact ⟨p :: ps, (ky, u2) :: kw, by rw [h1]; rfl, .cons (Same.sqT e x1) h2, by simp [h3], .cons z1 h4⟩
  | [], _ :: _, r, _ => by cases r
  | _ :: _, [], r, _ => by cases r
def dDictP : List D → CS → KD → Prop := fun ds C k => ∃ (d : D) (kvs : List (Key × D)), ds = [d] ∧ seqR C d = some (kvs.map fun kv => D.tup [kD kv.1, kv.2]) ∧ ∀ p, C p = none → k (.own p) (put C p (.dic (mergeD [] kvs)))
theorem rl_dictP : RLD K (fun xs H Q => ∃ (a : Addr) (ps : List Addr) (kvs : List (Key × V)), xs = [.ref a] ∧ SqL K H a (ps.map V.ref) ∧ Paired (fun p kv => SqT K H p [kV kv.1, kv.2]) ps kvs ∧
    ∀ p, H p = none → Q (.ref p) (upd H p (.dK (mergeK [] kvs)))) dDictP := by
  rintro xs ds G C H k Q w rs ⟨d, kvs, rfl, hs, hk⟩ q
  cases rs with
  | @cons v1 _ vs1 _ r1 r2 =>
    cases r2
    obtain ⟨a, rfl, g1, vs', t1⟩ := seqOf_dat w r1 hs
    obtain ⟨vs, h1, h2⟩ : ∃ vs, SqL K H a vs ∧ DatAll K G vs (kvs.map fun kv => D.tup [kD kv.1, kv.2]) := by
      cases r1 with
      | lst x1 x2 => simp [seqR] at hs; subst hs; exact ⟨_, w.ex.seq (SqL.of x1), x2⟩
      | slst x1 x2 => simp [seqR] at hs; subst hs; exact ⟨_, w.ex.seq x1, x2⟩
      | own a =>
        obtain ⟨_, vs, y1, y2⟩ := w.cell a _ (own_seqR hs)
        exact ⟨vs, SqL.of y1, y2⟩
      | _ => simp [seqR] at hs
    obtain ⟨ps, kw, rfl, g2, g3, g4⟩ := pairs_dat h2 w.ex
    refine ⟨a, ps, kw, rfl, h1, g2, fun p hp => ?_⟩
    obtain ⟨m1, m2⟩ := merge_rel (kw := []) (kvs := []) g3 g4 rfl .nil
    obtain ⟨w3, f3⟩ := w.newC hp (o := .dK (mergeK [] kw)) (c := .dic (mergeD [] kvs)) fun H' e => ⟨_, e, m1, m2⟩
    exact q _ _ _ _ _ f3 w3 (.own p) (hk p (w.ne hp).2)
end
section
variable {P : Program} {w : World} {K : PySem.W.Frag} {mg : Str → Option Value} {base : Heap} {j n m : Nat} {X : Cx} {e : Expr} {es : List Expr} {env : DEnv} {C : CS} {k : KD} {pos p : Pos}
theorem x_dictP (hx : Ctx P w K mg base j X) (Z : Zs mg) (hg : Gl X "dict") (h : WA X (e :: es) env C fun ds C1 => dDictP ds C1 k) (he : starEach (e :: es) X.env = (false, eval e X.env) :: starEach es X.env := by rfl) (hpl : (backTo pos (starEach es X.env)).any (·.1) = false := by rfl) :
    WE X (.Call (.Name "dict" p) (e :: es) [] pos) env C k := we_ct (hx.zs Z).dict (call_dictP hx.calm) rl_dictP hg (by decide +kernel) h (he := he) (hpl := hpl)
end
/-! ### short answers -/
section
variable {C C1 : CS} {k : KD} {kC : CS → Prop} {K : PySem.W.Frag} {Cl p a : Addr} {ks : List Str} {xs : List D} {f s : Str} {d v : D} {kvs : List (Key × D)} {q : D → Prop}
theorem fld_ok (h1 : insD C d = some (Cl, ks, xs)) (h2 : FldC K Cl f) (h3 : FGet ks xs f v) (h : q v) : ∃ Cl ks xs v, insD C d = some (Cl, ks, xs) ∧ FldC K Cl f ∧ FGet ks xs f v ∧ q v := ⟨_, _, _, _, h1, h2, h3, h⟩
theorem ixD_ok (h1 : C a = some (.dic kvs)) (h2 : valD kvs (Sum.inr s) = some d) (h : k d C) : dIxD (.own a) (.str s) C k := .inr ⟨_, _, Sum.inr s, _, rfl, rfl, h1, h2, h⟩
theorem inX_ok (h1 : C a = some (.dic kvs)) (h : k (.bl (valD kvs (Sum.inr s)).isSome) C) : dInX false (.str s) (.own a) C k := .inr ⟨_, _, Sum.inr s, rfl, rfl, h1, h⟩
theorem ninX_ok (h1 : C a = some (.dic kvs)) (h : k (.bl (!(valD kvs (Sum.inr s)).isSome)) C) : dInX true (.str s) (.own a) C k := .inr ⟨_, _, Sum.inr s, rfl, rfl, h1, h⟩
theorem lenX_ok (h1 : C a = some (.dic kvs)) (h : k (.int (kvs.length : Nat)) C) : dLenX [.own a] C k := .inr ⟨_, _, rfl, h1, h⟩
end
end DL
/-! DLy: targets with a star. -/
namespace PySem
open Sem (wp)
open PyProof.Rows
theorem Walks.shift {prog : Program} {w : World} {A : Around} {I : Addr} {fp wr : List Addr} {n : Nat} {P : Nat → Value → Prop} {St : Nat → Heap → Prop} (W : Walks prog w A I fp wr n P St) (i : Nat) (hi : i ≤ n) :
    Walks prog w A I fp wr (n - i) (fun j => P (i + j)) (fun j => St (i + j)) where
  sub := W.sub
  frame := fun j => W.frame (i + j)
  item := fun j s Q E hj st hQ => W.item (i + j) s Q E (by omega) st hQ
  done := fun s Q E st hQ => W.done s Q E (by rw [show i + (n - i) = n by omega] at st; exact st) hQ
  self := fun j => W.self (i + j)
section
variable {prog : Program} {w : World} {A : Around} {E : Value → Shared → Prop} {s : Shared}
theorem items_acc {items : Array Value} {acc : Array Value} {i : Nat} (h : ItemsOf (fun j v => items[i + j]? = some v) acc (items.size - i)) : acc.toList = items.toList.drop i := by
  apply List.ext_getElem?
  intro j
  rw [List.getElem?_drop, Array.getElem?_toList, Array.getElem?_toList]
  by_cases hj : j < acc.size
  · have e : acc[j]? = some acc[j] := by simp [hj]
    rw [e, h.2 j _ e]
  · have e1 : acc[j]? = none := by simp; omega
    have hs := h.1
    have e2 : items[i + j]? = none := by simp; omega
    rw [e1, e2]
theorem unpackItems_star {t : Addr} {items : Array Value} {n i : Nat} {Q : List Value → Shared → Prop} (hh : A.handled = none) (ht : PyProof.Rows.IsTup s.heap t items) (hi : i < n) (hn : n ≤ items.size + 1) (hsz : items.size ≤ sizeLine)
    (hQ : ∀ (h' : Heap) (tk : Nat), (∀ b o, s.heap.get? b = some o → h'.get? b = some o) →
      Q (items.toList.take i ++ [.ref h'.objs.size] ++ items.toList.drop (items.size - (n - 1 - i))) { s with heap := h'.push { cls := .type "list", data := .seq ((items.toList.drop i).take (items.size - (n - 1))).toArray }, toks := tk }) : wpAny (model prog w) A (unpackItems (.ref t) n (some i)) Q E s := by
  have hlt : t ≠ s.heap.objs.size := by obtain ⟨o, ho, _⟩ := ht; exact Nat.ne_of_lt (Heap.lt_size ho)
  unfold unpackItems
  refine wpAny_bind ?_
  unfold notIterableAtAll
  refine wpAny_bind (wpAny_specialOf ht.typeIs slot_tuple_iter.lookup ?_)
  refine wpAny_pure ?_
  simp only [Bool.false_eq_true, if_false]
  refine wpAny_bind (wpAny_holding (iter_tuple ht ?_))
  refine wpAny_bind (wpAny_holding (draw_tuple hlt i 0 _ _ ⟨_, Heap.get?_push_size _ rfl, rfl, rfl⟩ (ht.push _) (by omega) fun h₁ hit₁ hs₁ => ?_))
  have hall : List.take i (List.drop 0 items.toList) = items.toList.take i := by rw [List.drop_zero]
  rw [hall]
  rw [if_neg (by simp; omega)]
  have ht₁ : PyProof.Rows.IsTup h₁ t items := (ht.push _).extBut hs₁.extBut hlt
  have W := ((Walks.tuple (prog := prog) (w := w) (A := A.in1) hh s.heap.objs.size t hlt items).shift i (by omega)).toS
  have hst : (fun (j : Nat) (s' : Shared) => s'.heap.IsTupleIter s.heap.objs.size t (i + j) ∧ s'.heap.IsTuple t items) 0 { s with heap := h₁ } := ⟨by have h0 := hit₁; rw [Nat.zero_add] at h0; exact h0, ht₁⟩
  have hsz1 : h₁.objs.size = s.heap.objs.size + 1 := by rw [hs₁.1, Heap.size_push]
  refine wpAny_bind (wpAny_holding (wpAny_collect_iter (s := { s with heap := h₁ }) (.inr (.inr (.inr rfl))) W (fun j s' st => let ⟨o, ho, hc, _⟩ := st.1; ⟨o, ho, hc⟩) hst (fun b hb => ?_) (by simp) (fun s' acc hm hacc => ?_) (by omega)))
  · have e' : b = s.heap.objs.size ∨ b = t := by simpa using hb
    show b < h₁.objs.size
    rw [hsz1]
    rcases e' with rfl | rfl
    · exact Nat.lt_succ_self _
    · obtain ⟨o, ho, _⟩ := ht
      exact Nat.lt_succ_of_lt (Heap.lt_size ho)
  · have hl := items_acc hacc
    rw [hl]
    have hlen : (items.toList.drop i).length = items.size - i := by simp
    rw [hlen, if_neg (by omega)]
    refine wpAny_bind (wpAny_newList ?_ (by simp; omega))
    refine wpAny_pure ?_
    have e1 : items.size - i - (n - 1 - i) = items.size - (n - 1) := by omega
    have e2 : List.drop (items.size - i - (n - 1 - i)) (List.drop i items.toList) = items.toList.drop (items.size - (n - 1 - i)) := by
      rw [List.drop_drop]; congr 1; omega
    rw [e2, e1]
    obtain ⟨hh1, hg, hdr, ho, _⟩ := hm
    obtain ⟨hp', g', d', tk', os'⟩ := s'
    simp only at hg hdr ho
    subst hg hdr ho
    refine hQ _ tk' fun b o e => ?_
    have hb : b ≠ s.heap.objs.size := Nat.ne_of_lt (Heap.lt_size e)
    exact hh1 b o (by simpa using hb) (hs₁.extBut b o hb (Heap.get?_push_of_some _ e))
theorem unpack_star {t : Addr} {items : Array Value} {targets : List (Bool × (Value → Sem Unit))} {n i : Nat} {Q : Unit → Shared → Prop} (hh : A.handled = none) (ht : PyProof.Rows.IsTup s.heap t items) (hn : targets.length = n) (hstar : targets.findIdx? (·.1) = some i) (hi : i < n) (hn' : n ≤ items.size + 1) (hsz : items.size ≤ sizeLine)
    (h : ∀ (h' : Heap) (tk : Nat), (∀ b o, s.heap.get? b = some o → h'.get? b = some o) →
      wpAny (model prog w) A (assignInOrder (targets.map (·.2)) (items.toList.take i ++ [.ref h'.objs.size] ++ items.toList.drop (items.size - (n - 1 - i)))) Q E { s with heap := h'.push { cls := .type "list", data := .seq ((items.toList.drop i).take (items.size - (n - 1))).toArray }, toks := tk }) :
    wpAny (model prog w) A (unpack (.ref t) targets) Q E s := by
  unfold unpack
  rw [hn, hstar]
  exact wpAny_bind (wpAny_holding (unpackItems_star hh ht hi hn' hsz h))
end
end PySem
namespace L2
open PySem PySem.Spec PyProof.Rows
/-- (a, *b, c) = a tuple: n targets, the i-th has the star -/
def gStar (K : PySem.W.Frag) (n i : Nat) (t : TGs) : TG := fun v σ H Q => ∃ a xs, v = .ref a ∧ SqT K H a xs ∧ i < n ∧ n ≤ xs.length + 1 ∧
  ∀ q, H q = none → t (xs.take i ++ [.ref q] ++ xs.drop (xs.length - (n - 1 - i))) σ (upd H q (.lst ((xs.drop i).take (xs.length - (n - 1))))) Q
theorem pg_star {X : Cx} {es : List Expr} {k : Nat} {t : TGs} {n i : Nat} {pos : Pos} (hc : X.calm = true) (h : PGs X es t)
    (hn : (assignEach es X.env).length = n := by rfl) (hst : (assignEach es X.env).findIdx? (·.1) = some i := by rfl) : PG X (.Tuple es k pos) (gStar X.K n i t) := by
  refine ⟨fun pins s σ H v u Q I r hw => ?_⟩
  obtain ⟨a, xs, e1, hq, hi, hl, hw⟩ := hw
  subst e1
  cases r
  obtain ⟨its, rv, ht, hz⟩ := I.tuple hq
  have hlen := rv.length
  rw [assign_Tuple]
  refine wpAny_bind (wpAny_standAt (PySem.unpack_star (n := n) (i := i) (I.ok.hd hc) ht hn hst hi (by simp; omega) (by rw [List.size_toArray, ← hlen]; exact hz) fun h' tk hx => ?_))
  have I1 : Inv X pins σ H { s with heap := h' } := I.kept (t' := s.toks) hx
  have hf : H h'.objs.size = none := I1.hok.fresh (Nat.le_refl _)
  have rm : Vals ((xs.drop i).take (xs.length - (n - 1))) ((its.drop i).take (its.length - (n - 1))) := by rw [hlen]; exact (rv.drop i).take _
  have hz2 : ((xs.drop i).take (xs.length - (n - 1))).length ≤ sizeLine := Nat.le_trans (by simp; omega) hz
  have e1 : its.toArray.toList = its := by simp
  have e2 : its.toArray.size = its.length := by simp
  rw [e1, e2]
  have I2 : Inv X pins σ (upd H h'.objs.size (.lst ((xs.drop i).take (xs.length - (n - 1))))) { s with heap := h'.push { cls := .type "list", data := .seq ((its.drop i).take (its.length - (n - 1))).toArray }, toks := tk } :=
    I1.laid (t' := tk) (fun b u e => Heap.get?_push_of_some _ e) (Nat.le_refl _) ⟨hz2, _, 0, rm, Heap.get?_push_size _ rfl⟩
  have rv2 : Vals (xs.take i ++ [.ref h'.objs.size] ++ xs.drop (xs.length - (n - 1 - i))) (its.take i ++ [.ref h'.objs.size] ++ its.drop (its.length - (n - 1 - i))) := by
    rw [hlen]
    have r1 : Vals [V.ref h'.objs.size] [Value.ref h'.objs.size] := .cons rfl .nil
    exact ((rv.take i).append r1).append (rv.drop _)
  exact h.run pins _ σ _ _ _ Q I2 rv2 (hw _ hf)
end L2
namespace L2
open PySem PySem.Spec PyProof.Rows
theorem pgs_consS {X : Cx} {e : Expr} {es : List Expr} {t : TG} {u : TGs} {p : Pos} (h1 : PG X e t) (h2 : PGs X es u)
    (hs : (assignEach (.Starred e p :: es) X.env).map (·.2) = assign e X.env :: (assignEach es X.env).map (·.2) := by rfl) : PGs X (.Starred e p :: es) (gCons t u) := by
  refine ⟨fun pins s σ H vs us Q I r h => ?_⟩
  obtain ⟨v, vr, e1, h⟩ := h
  subst e1
  cases r with
  | cons r rr =>
    rw [hs]
    refine assignInOrder_cons (thn (h1.run pins s σ H _ _ _ I r h) fun _ s1 ⟨σ1, H1, I1, q1⟩ => ?_)
    exact h2.run pins s1 σ1 H1 _ _ Q I1 rr q1
end L2
namespace DL
open PySem PySem.Spec PyProof.Rows L2
section
variable {X : Cx} {env : DEnv} {C : CS} {pos p : Pos} {K : PySem.W.Frag} {G : Hp}
theorem datAll_take' : ∀ {vs : List V} {ds : List D} (n : Nat), DatAll K G vs ds → DatAll K G (vs.take n) (ds.take n)
  | _, _, 0, _ => by rw [List.take_zero, List.take_zero]; exact .nil
  | _, _, n + 1, .nil => .nil
  | _, _, n + 1, .cons a r => .cons a (datAll_take' n r)
theorem datAll_drop' : ∀ {vs : List V} {ds : List D} (n : Nat), DatAll K G vs ds → DatAll K G (vs.drop n) (ds.drop n)
  | _, _, 0, r => r
  | _, _, n + 1, .nil => .nil
  | _, _, n + 1, .cons a r => datAll_drop' n r
theorem wgs_consS {t : Expr} {ts : List Expr} {d : D} {ds : List D} {kE : DEnv → CS → Prop} (h : WG X t d env C fun env1 C1 => WGs X ts ds env1 C1 kE) (hs : (assignEach (.Starred t p :: ts) X.env).map (·.2) = assign t X.env :: (assignEach ts X.env).map (·.2) := by rfl) : WGs X (.Starred t p :: ts) (d :: ds) env C kE := fun G σ H vs Q w er r q pins s us I ru => by
  cases r with
  | @cons v vr _ _ r1 r2 =>
    refine (pgs_consS (X := X) pg_tGt pgs_tGts hs).run pins s σ H (v :: vr) us Q I ru ⟨v, vr, rfl, ?_⟩
    exact h G σ H v _ w er r1 fun G1 C1 H1 σ1 env1 f1 w1 er1 h1 => h1 G1 σ1 H1 vr Q w1 er1 (r2.mono f1.exG) (q.after f1)
/-- (a, *b, c) = a tuple; b is a new list -/
theorem wg_tupS {ts : List Expr} {n m i : Nat} {ds : List D} {kE : DEnv → CS → Prop} (hc : X.calm = true) (hm : (assignEach ts X.env).length = m) (hst : (assignEach ts X.env).findIdx? (·.1) = some i) (hi : i < m) (hl : m ≤ ds.length + 1)
    (h : ∀ q, C q = none → WGs X ts (ds.take i ++ [.own q] ++ ds.drop (ds.length - (m - 1 - i))) env (put C q (.lst ((ds.drop i).take (ds.length - (m - 1))))) kE) : WG X (.Tuple ts n pos) (.tup ds) env C kE :=
  .of (pg_star hc pgs_tGts hm hst) fun G σ H v Q w er r q => by
    cases r with
    | tup h1 h2 =>
      have hlen := h2.length
      refine ⟨_, _, rfl, Same.sqT w.ex h1, hi, by rw [hlen]; exact hl, fun a ha => ?_⟩
      rw [hlen]
      obtain ⟨w3, f3⟩ := w.newC ha (o := .lst _) (c := .lst ((ds.drop i).take (ds.length - (m - 1)))) fun H' e => ⟨_, e, datAll_take' _ (datAll_drop' i h2)⟩
      have r1 : DatAll X.K G [V.ref a] [D.own a] := .cons (.own a) .nil
      have h2' := h2.mono f3.exG
      exact h a (w.ne ha).2 G σ _ _ Q w3 (er.mono f3.exG) (((datAll_take' i h2').append r1).append (datAll_drop' _ h2')) (q.after f3)
/-- f(.., *e, ..), (.., *e, ..) -/
theorem wa_star {e : Expr} {es : List Expr} {ka : List D → CS → Prop} (h : WE X e env C fun d C1 => ∃ xs, seqA C1 d = some xs ∧ WA X es env C1 fun ds C2 => ka (xs ++ ds) C2) (hs : starEach (.Starred e p :: es) X.env = (true, eval e X.env) :: starEach es X.env := by rfl) : WA X (.Starred e p :: es) env C ka :=
  .of (StX.pa_star pe_tS pa_tAr hs) fun G σ H Q w er q => h G σ H _ w er fun v G1 C1 H1 x f1 w1 d1 hb => by
    obtain ⟨ds0, hsq, hb⟩ := hb
    obtain ⟨a, vs0, rfl, h1, h2⟩ := w1.seqA d1 hsq
    exact ⟨a, vs0, rfl, h1.symm, hb G1 σ H1 _ w1 (er.mono f1.exG) fun vs G2 C2 H2 ds f2 w2 d2 hp => q (vs0 ++ vs) G2 C2 H2 (ds0 ++ ds) (f1.trans f2) w2 ((h2.mono f2.exG).append d2) hp⟩
end
end DL
/-! DLz: f-strings and split by data. -/
namespace DL
open PySem PySem.Spec PyProof.Rows L2
section
variable {X : Cx} {env : DEnv} {C : CS} {k : KD} {pos p apos cpos : Pos} {K : PySem.W.Frag} {e o : Expr} {es : List Expr}
/-- {e} -/
theorem x_fmt (h : WE X e env C fun d C1 => (∃ y, d = .str y ∧ y.length ≤ sizeLine ∧ k (.str y) C1) ∨ ∃ i : Int, d = .int i ∧ i.natAbs.log2 < 1920 ∧ k (.str (toString i)) C1) : WE X (.FormattedValue e (-1) none pos) env C k :=
  .of (pe_fmt pe_tS) fun G σ H Q w er q => h G σ H _ w er fun v G1 C1 H1 d f1 w1 r1 z => by
    rcases z with ⟨y, rfl, hl, hk⟩ | ⟨i, rfl, hl, hk⟩
    · cases r1; exact .inl ⟨y, rfl, hl, q _ _ _ _ _ f1 w1 (.str y) hk⟩
    · cases r1; exact .inr ⟨i, rfl, hl, q _ _ _ _ _ f1 w1 (.str _) hk⟩
def WJs (X : Cx) : List Expr → Str → DEnv → CS → (Str → CS → Prop) → Prop
  | [], acc, _, C, k => k acc C
  | e :: es, acc, env, C, k => WE X e env C fun d C1 => ∃ y : Str, d = .str y ∧ (acc ++ y).length ≤ sizeLine ∧ WJs X es (acc ++ y) env C1 k
theorem pj_tS : ∀ es : List Expr, ∃ ts, PJ X es ts ∧ ∀ (acc : Str) (env : DEnv) (C : CS) (kj : Str → CS → Prop) (G : Hp) (σ : L2.St) (H : Hp) (Q : Str → Hp → Prop), WJs X es acc env C kj → Wld X.K G C H → EnvR X.K G env σ →
    (∀ G' C' H' y, Fr G C H G' C' H' → Wld X.K G' C' H' → kj y C' → Q y H') → tJs ts acc σ H Q
  | [] => ⟨[], .nil, fun acc env C kj G σ H Q h w er q => q G C H acc (Fr.refl ..) w h⟩
  | e :: es => by
    obtain ⟨ts, hp, hh⟩ := pj_tS es
    refine ⟨_ :: ts, .cons pe_tS hp, fun acc env C kj G σ H Q h w er q => ?_⟩
    refine h G σ H _ w er fun v G1 C1 H1 d f1 w1 r1 z => ?_
    obtain ⟨y, rfl, hl, z⟩ := z
    cases r1
    exact ⟨y, rfl, hl, hh (acc ++ y) env C1 kj G1 σ H1 Q z w1 (er.mono f1.exG) fun G2 C2 H2 y2 f2 w2 k2 => q G2 C2 H2 y2 (f1.trans f2) w2 k2⟩
/-- f".." of two or more parts -/
theorem x_joined {v1 v2 : Expr} {rest : List Expr} (h : WJs X (v1 :: v2 :: rest) Str.empty env C fun out C1 => k (.str out) C1) : WE X (.JoinedStr (v1 :: v2 :: rest) pos) env C k := by
  obtain ⟨ts, hp, hh⟩ := pj_tS (X := X) (v1 :: v2 :: rest)
  exact .of (pe_joined hp) fun G σ H Q w er q => hh _ _ _ _ G σ H _ h w er fun G1 C1 H1 y f1 w1 z => q _ _ _ _ _ f1 w1 (.str y) z
/-! ### split -/
def dSplit : D → List D → CS → KD → Prop := fun x ds C k => ∃ z y, x = .str z ∧ ds = [.str y] ∧ (y.length == 0) = false ∧ z.length + 2 ≤ sizeLine ∧ ∀ p, C p = none → k (.own p) (put C p (.lst ((Txt.split z y).map D.str)))
theorem rm_split : RMD K (fun x xs H Q => ∃ a b, x = .str a ∧ xs = [.str b] ∧ (b.length == 0) = false ∧ a.length + 2 ≤ sizeLine ∧ rNewStrs (Txt.split a b) H Q) dSplit := by
  rintro x a xs ds G C H k Q w da rs ⟨z, y, rfl, rfl, hb, hl, hk⟩ q
  cases da
  cases rs with
  | cons r1 r2 =>
    cases r2
    cases r1
    refine ⟨z, y, rfl, rfl, hb, hl, fun p hp => ?_⟩
    obtain ⟨w2, f2⟩ := w.newC hp (o := .lst ((Txt.split z y).map V.str)) (c := .lst ((Txt.split z y).map D.str)) fun H' e => ⟨_, e, datAll_strsI _⟩
    exact q _ _ _ _ _ f2 w2 (.own p) (hk p (w.ne hp).2)
theorem x_split (h : WE X o env C fun x C1 => tyD "str" C1 x ∧ WA X (e :: es) env C1 fun ds C2 => dSplit x ds C2 k) (hbase : attributeBase o "split" X.env (eval o X.env) = eval o X.env := by rfl)
    (hfew : ((backTo cpos (starEach (e :: es) X.env)).all (fun x => !x.1) && (backToKw cpos (keywordEach [] X.env)).all (fun x => x.1.isSome)
      && decide ((e :: es).length + ([] : List Keyword).length + (if ([] : List Keyword).isEmpty then 0 else 1) < 30)) = true := by rfl)
    (hline : (apos.endLine == cpos.line) = true := by rfl) (hs : starEach (e :: es) X.env = (false, eval e X.env) :: starEach es X.env := by rfl) (hplain : (backTo cpos (starEach es X.env)).any (·.1) = false := by rfl) :
    WE X (.Call (.Attribute o "split" apos) (e :: es) [] cpos) env C k :=
  we_bm PySem.F.plainAttrs_str PySem.F.slot_str_split PySem.F.type_str_split mt_split rm_split h hbase hfew hline hs hplain
/-! ### short answers -/
theorem wjs_cons {acc : Str} {kj : Str → CS → Prop} (h : WE X e env C fun d C1 => ∃ y : Str, d = .str y ∧ (acc ++ y).length ≤ sizeLine ∧ WJs X es (acc ++ y) env C1 kj) : WJs X (e :: es) acc env C kj := h
theorem wjs_nil {acc : Str} {kj : Str → CS → Prop} (h : kj acc C) : WJs X [] acc env C kj := h
end
end DL
/-! DMa: extend; classmethods; a class in a local name; cells that stay. -/
namespace DL
open PySem PySem.Spec PyProof.Rows L2
section
variable {X : Cx} {env : DEnv} {C : CS} {k : KD} {pos p apos cpos : Pos} {K : PySem.W.Frag} {e o : Expr} {es : List Expr}
/-! ### extend -/
def dExtend : D → List D → CS → KD → Prop := fun x ds C k => ∃ a xs y zs, x = .own a ∧ ds = [y] ∧ C a = some (.lst xs) ∧ seqL C y = some zs ∧ xs.length + zs.length ≤ sizeLine ∧ k .non (put C a (.lst (xs ++ zs)))
theorem rm_extend : RMD K rExtend dExtend := by
  rintro x a xs ds G C H k Q w r rs ⟨p, ys, y, zs, rfl, rfl, hp, hy, hl, hk⟩ q
  cases r
  cases rs with
  | cons r1 r2 =>
    cases r2
    obtain ⟨_, vs, h1, h2⟩ := w.cell p _ hp
    obtain ⟨b, us, rfl, h3, h4⟩ := w.lst r1 hy
    refine ⟨p, b, vs, us, rfl, rfl, h1, h3, by rw [h2.length, h4.length]; exact hl, ?_⟩
    obtain ⟨w2, f2⟩ := w.write hp (o := .lst (vs ++ us)) (c' := .lst (ys ++ zs)) fun H' e => ⟨_, e, h2.append h4⟩
    exact q _ _ _ _ _ f2 w2 .non hk
theorem x_extend (h : WE X o env C fun x C1 => tyD "list" C1 x ∧ WA X (e :: es) env C1 fun ds C2 => dExtend x ds C2 k) (hbase : attributeBase o "extend" X.env (eval o X.env) = eval o X.env := by rfl)
    (hfew : ((backTo cpos (starEach (e :: es) X.env)).all (fun x => !x.1) && (backToKw cpos (keywordEach [] X.env)).all (fun x => x.1.isSome)
      && decide ((e :: es).length + ([] : List Keyword).length + (if ([] : List Keyword).isEmpty then 0 else 1) < 30)) = true := by rfl)
    (hline : (apos.endLine == cpos.line) = true := by rfl) (hs : starEach (e :: es) X.env = (false, eval e X.env) :: starEach es X.env := by rfl) (hplain : (backTo cpos (starEach es X.env)).any (·.1) = false := by rfl) :
    WE X (.Call (.Attribute o "extend" apos) (e :: es) [] cpos) env C k :=
  we_bm PySem.F.plainAttrs_list PySem.F.slot_list_extend PySem.F.type_list_extend mt_extend rm_extend h hbase hfew hline hs hplain
end
/-! ### classmethods -/
section
variable {X : Cx} {CT : CXT} {n : Nat} {fa Ca pa : Addr} {mc : Value} {fd : FuncData} {ps : List Str} {sp : Sp} {E : XK} {x m : Str} {p pos apos : Pos} {e o : Expr} {es : List Expr} {ta : TE} {t : TA} {dvs : List V} {ds : List Value}
end
section
variable {P : Program} {w : World} {K : PySem.W.Frag} {mg : Str → Option Value} {base : Heap} {j n : Nat} {X : Cx} {Cl : Addr} {m f x : Str} {S : DSp} {dfl : List D} {e o v : Expr} {es : List Expr} {env : DEnv} {C : CS} {k : KD} {pos p apos pos' : Pos} {E : DEnds}
end
/-! ### cells that stay: all but bs -/
def Fx (bs : List Addr) (C C' : CS) : Prop := ∀ q, q ∉ bs → C q ≠ none → C' q = C q
theorem Fx.refl {bs : List Addr} (C : CS) : Fx bs C C := fun _ _ _ => rfl
theorem Fx.trans {bs : List Addr} {C C1 C2 : CS} (h1 : Fx bs C C1) (h2 : Fx bs C1 C2) : Fx bs C C2 := fun q a b => by
  have e := h1 q a b
  rw [h2 q a (by rw [e]; exact b), e]
theorem Fx.mono {bs cs : List Addr} {C C1 : CS} (h : Fx bs C C1) (hs : ∀ q, q ∈ bs → q ∈ cs) : Fx cs C C1 := fun q a b => h q (fun z => a (hs q z)) b
theorem Fx.put {bs : List Addr} {C C1 : CS} {a : Addr} {c : Cell} (h : Fx bs C C1) (ha : a ∈ bs ∨ C a = none) : Fx bs C (DL.put C1 a c) := fun q x y => by
  by_cases e : q = a
  · subst e
    rcases ha with ha | ha
    · exact absurd ha x
    · exact absurd ha y
  · rw [put_ne e]; exact h q x y
theorem Fx.at {bs : List Addr} {C C1 : CS} {a : Addr} {c : Cell} (h : Fx bs C C1) (ha : a ∉ bs) (e : C a = some c) : C1 a = some c := by rw [h a ha (by rw [e]; simp)]; exact e
theorem Fx.new {bs : List Addr} {a : Addr} {C C1 C2 : CS} (h2 : Fx (a :: bs) C1 C2) (h : Fx bs C C1) (ha : C a = none) : Fx bs C C2 := fun q x y => by
  have hq : q ≠ a := fun e => y (e ▸ ha)
  have e := h q x y
  rw [h2 q (by simp [hq, x]) (by rw [e]; exact y), e]
theorem Fx.del {bs : List Addr} {C C1 : CS} {a : Addr} (h : Fx bs C C1) (ha : a ∈ bs ∨ C a = none) : Fx bs C (DL.del C1 a) := fun q x y => by
  by_cases e : q = a
  · subst e
    rcases ha with ha | ha
    · exact absurd ha x
    · exact absurd ha y
  · rw [del_ne e]; exact h q x y
end DL
/-! DMb: a place where a walk stops. -/
namespace DL
open PySem PySem.Spec PyProof.Rows L2
/-- what follows, not looked into -/
def WSh (X : Cx) (sts : List Stmt) (env : DEnv) (C : CS) (E : DEnds) : Prop := WSs X sts env C E
theorem wss_consH {X : Cx} {st : Stmt} {rest : List Stmt} {env : DEnv} {C : CS} {E : DEnds} (h : WS X st env C { E with nx := fun env' C' => WSh X rest env' C' E }) : WSs X (st :: rest) env C E := wss_cons h
theorem wsh_go {X : Cx} {sts : List Stmt} {env : DEnv} {C : CS} {E : DEnds} (h : WSs X sts env C E) : WSh X sts env C E := h
section
variable {C : CS} {k : KD} {a b : Addr} {xs ys : List D} {n m : Nat}
theorem ne_ol (ha : C a = some (.lst xs)) (hx : ∀ d ∈ xs, d.fit n = true) (hy : ∀ d ∈ ys, d.fit m = true) (hn : n < 64) (hm : m < 64) (q : k (.bl (!eqL xs ys)) C) : dEq true (.own a) (.lst ys) C k := by
  refine .inl ⟨_, .list (pyL ys), pyC_own ha hx, ?_, shaped_lst hx hn, shaped_lst hy hm, q⟩
  unfold pyC
  simp only [D.isPy, fitL_py ys (fitL_all.mpr hy), if_true, D.py]
end
end DL
/-! DMc: own ==; x or y by truth; methods with keywords. -/
namespace L2
open PySem PySem.Spec PyProof.Rows
section
variable {X : Cx} {CT : CXT} {n : Nat} {fa Ca : Addr} {fd : FuncData} {ps : List Str} {sp : Sp} {E : XK} {dvs : List V} {ds : List Value}
end
end L2
namespace DL
open PySem PySem.Spec PyProof.Rows L2
section
variable {P : Program} {w : World} {K : PySem.W.Frag} {mg : Str → Option Value} {base : Heap} {j n : Nat} {X : Cx} {Cl : Addr} {S : DSp} {dfl : List D} {a b : Expr} {env : DEnv} {C : CS} {k : KD} {kb : Bool → CS → Prop} {pos : Pos}
end
/-! ### x or y, by truth: None, ints -/
section
variable {X : Cx} {a b : Expr} {rest : List Expr} {env : DEnv} {C : CS} {k : KD} {pos : Pos} {K : PySem.W.Frag}
end
end DL
/-! DMd: methods and makings with keywords. -/
namespace DL
open PySem PySem.Spec PyProof.Rows L2
section
variable {X : Cx} {CT : CXT} {n np : Nat} {fa Ca : Addr} {fd : FuncData} {ps ks : List Str} {sp : Sp} {E : XK} {x m : Str} {p pos apos kpos : Pos} {e o : Expr} {es : List Expr} {kws : List Keyword} {ta te : TE} {t tk : TA} {g : List Value → List Value → List Value} {gV : List V → List V → List V} {nm : Option Str}
/-- the widest reading of keywords -/
def tKr (X : Cx) (kws : List Keyword) : TA := fun σ H Q => ∀ (pos : Pos) pins s, Inv X pins σ H s → wpAny (model X.prog X.w) X.A (evalAll ((backToKw pos (keywordEach kws X.env)).map (·.2))) (AP X pins σ Q) X.xe s
theorem pk_tKr : PK X kws (tKr X kws) := ⟨fun pos pins s σ H Q I h => h pos pins s I⟩
def WK (X : Cx) (kws : List Keyword) (env : DEnv) (C : CS) (ka : List D → CS → Prop) : Prop := EvA X.K (tKr X kws) env C ka
theorem WK.of {te : TA} {env : DEnv} {C : CS} {ka : List D → CS → Prop} (h : PK X kws te) (hv : EvA X.K te env C ka) : WK X kws env C ka := fun G σ H Q w er q pos pins s I => h.run pos pins s σ H Q I (hv G σ H Q w er q)
theorem wk_nil {env : DEnv} {C : CS} {ka : List D → CS → Prop} (h : ka [] C) : WK X [] env C ka := .of pk_nil (ea_nil h)
theorem wk_cons {env : DEnv} {C : CS} {ka : List D → CS → Prop} (h : WE X e env C fun x C1 => WK X kws env C1 fun ds C2 => ka (x :: ds) C2) : WK X (⟨nm, e, kpos⟩ :: kws) env C ka := .of (pk_cons pe_tS pk_tKr) (ea_cons h)
theorem goDK {pins : List (Addr × Obj)} {σ : L2.St} {H : Hp} {s : Shared} {Q : VK} {us ws : List Value} {vs zs : List V} (F : FnG X.prog X.w X.K X.mg X.base CT n fa fd ps sp) (hgd : X.A.guards = some []) (hr : Room n X.A) (hb : KBn X.K fd ps np ks g gV) (hx : Passes CT X E)
    (I : Inv X pins σ H s) (r : Vals vs us) (rz : Vals zs ws) (l1 : vs.length = np) (l2 : zs.length = ks.length) (h : sp (gV vs zs) H Q E) : wpAny (model X.prog X.w) X.A (call (.ref fa) us (ks.zip ws)) (EP X pins σ Q) X.xe s := by
  refine wpAny_call (codeAny_mono (F.run hgd hr I.env0 (hb.to s us ws I.kIn (r.length.symm.trans l1) (rz.length.symm.trans l2)) (hb.rel r rz) h) ?_)
  intro res s' z
  match res, z with
  | .error e, z => exact hx pins σ H s e s' I z
  | .ok (.ret u), z => exact I.after z
/-- o.m(e, .., k = v, ..) -/
def tMethK (C : Addr) (m : Str) (np nk : Nat) (sp : Sp) (gV : List V → List V → List V) (E : XK) (ta : TE) (t tk : TA) : TE := fun σ H Q => ta σ H fun x H1 => ∃ a dx fs, x = .ref a ∧ H1 a = some (.ins C dx fs) ∧ fs.lookup m = none ∧
  t σ H1 fun vs H2 => tk σ H2 fun zs H3 => vs.length = np ∧ zs.length = nk ∧ sp (gV (x :: vs) zs) H3 Q E
theorem pe_methGK {pl : Sem Bool} (he : PE X o ta) (c : Cls X.K Ca) (hm : Meth X.K Ca m fa) (F : FnG X.prog X.w X.K X.mg X.base CT n fa fd ps sp) (hgd : X.A.guards = some []) (hr : Room n X.A) (hb : KBn X.K fd ps (np + 1) ks g gV) (hx : Passes CT X E) (ha : PA X (e :: es) t) (hkw : PK X kws tk)
    (hall : (backToKw pos (keywordEach kws X.env)).all (·.1.isSome) = true := by rfl) (hks : (backToKw pos (keywordEach kws X.env)).filterMap (·.1) = ks := by rfl)
    (hst : starEach (e :: es) X.env = (false, eval e X.env) :: starEach es X.env := by rfl)
    (hpl : ((backTo pos (starEach (e :: es) X.env)).any (·.1) || (backToKw pos (keywordEach kws X.env)).any (·.1.isNone)) = false := by rfl)
    (ht : eval (.Call (.Attribute o m apos) (e :: es) kws pos) X.env = (do
      let ov ← eval o X.env
      standAt apos.atName
      let (f, first) ← holding [ov] (getMethod ov m pl)
      callWith pos f first (backTo pos (starEach (e :: es) X.env)) (backToKw pos (keywordEach kws X.env))) := by rfl) :
    PE X (.Call (.Attribute o m apos) (e :: es) kws pos) (tMethK Ca m np ks.length sp gV E ta t tk) := by
  refine ⟨fun pins s σ H Q I h => ?_⟩
  refine PySem.W.methodCall_KW (pl := pl) (thn (he.run pins s σ H _ I h) fun u s1 ⟨x, H1, I1, rx, a, dx, fs, ex, ea, l, q⟩ => ?_) ht
  subst ex
  obtain rfl : u = Value.ref a := rx
  refine getmeth_ok I1 ea c hm l ?_
  refine PySem.W.callWith_KW (first := [.ref a]) (h₀ := X.base) I1.ok.mod.kin hm.kp hall (thn (ha.run pos pins s1 σ H1 _ I1 q) fun us s2 ⟨vs, H2, I2, r, q2⟩ => ?_) hpl hst
  refine thn (hkw.run pos pins s2 σ H2 _ I2 q2) fun ws s3 ⟨zs, H3, I3, rz, l1, l2, q3⟩ => ⟨I3.kIn, ?_⟩
  rw [hks]
  exact goDK (us := .ref a :: us) (vs := .ref a :: vs) F hgd hr hb hx I3 (.cons rfl r) rz (by rw [List.length_cons, l1]) l2 q3
end
/-- a def by its address, called with np positional values and the keywords ks -/
def FnK (P : Program) (w : World) (K : PySem.W.Frag) (mg : Str → Option Value) (base : Heap) (f : Addr) (n np : Nat) (ks : List Str) (gD : List D → List D → List D) (S : DSp) : Prop :=
  ∃ (fd : FuncData) (ps : List Str) (g : List Value → List Value → List Value) (gV : List V → List V → List V), FnG P w K mg base CX0 n f fd ps (toSp K S) ∧ KBn K fd ps np ks g gV ∧
    ∀ G vs ds zs es, DatAll K G vs ds → DatAll K G zs es → ds.length = np → es.length = ks.length → DatAll K G (gV vs zs) (gD ds es)
def MthK (P : Program) (w : World) (K : PySem.W.Frag) (mg : Str → Option Value) (base : Heap) (Cl : Addr) (m : Str) (n np : Nat) (ks : List Str) (gD : List D → List D → List D) (S : DSp) : Prop := Cls K Cl ∧ ∃ f, Meth K Cl m f ∧ FnK P w K mg base f n (np + 1) ks gD S
section
variable {P : Program} {w : World} {K : PySem.W.Frag} {mg : Str → Option Value} {base : Heap} {j n np : Nat} {X : Cx} {Cl : Addr} {m f x : Str} {S : DSp} {gD : List D → List D → List D} {ks : List Str} {e o v : Expr} {es : List Expr} {kws : List Keyword} {env : DEnv} {C : CS} {k : KD} {pos p apos pos' : Pos} {E : DEnds}
theorem toSp_ok1 {G G' : Hp} {C' : CS} {H' : Hp} {vs : List V} {ds : List D} {Q : VK} {X0 : XK} {C0 : CS} {H0 : Hp} (w1 : Wld K G' C' H') (r : DatAll K G' vs ds) (f1 : Fr G C0 H0 G' C' H') (q : Kont K G C0 H0 k Q) (z : S ds C' k) : toSp K S vs H' Q X0 :=
  ⟨G', C', ds, k, w1, r, z, q.after f1⟩
theorem x_methK (hx : Ctx P w K mg base j X) (hM : MthK P w K mg base Cl m n np ks gD S) (h : WE X o env C fun d C1 => (∃ kk xs, insD C1 d = some (Cl, kk, xs) ∧ m ∉ kk) ∧ WA X (e :: es) env C1 fun ds C2 => WK X kws env C2 fun zs C3 => ds.length = np ∧ zs.length = ks.length ∧ S (gD (d :: ds) zs) C3 k) (hle : n ≤ j := by decide)
    (hall : (backToKw pos (keywordEach kws X.env)).all (·.1.isSome) = true := by rfl) (hks : (backToKw pos (keywordEach kws X.env)).filterMap (·.1) = ks := by rfl)
    (hst : starEach (e :: es) X.env = (false, eval e X.env) :: starEach es X.env := by rfl)
    (hpl : ((backTo pos (starEach (e :: es) X.env)).any (·.1) || (backToKw pos (keywordEach kws X.env)).any (·.1.isNone)) = false := by rfl) {pl : Sem Bool}
    (ht : eval (.Call (.Attribute o m apos) (e :: es) kws pos) X.env = (do
      let ov ← eval o X.env
      standAt apos.atName
      let (f, first) ← holding [ov] (getMethod ov m pl)
      callWith pos f first (backTo pos (starEach (e :: es) X.env)) (backToKw pos (keywordEach kws X.env))) := by rfl) : WE X (.Call (.Attribute o m apos) (e :: es) kws pos) env C k := by
  obtain ⟨hc, fa, hm, fd, ps, g, gV, F, hb, hdat⟩ := hM
  have hroom := hx.room
  obtain ⟨e1, e2, e3, e4, e5, _, hgd, hcalm⟩ := hx
  subst e1 e2 e3 e4 e5
  refine .of (pe_methGK pe_tS hc hm F hgd (hroom.mono hle) hb pass0 pa_tAr pk_tKr hall hks hst hpl ht) fun G σ H Q w er q => h G σ H _ w er fun u G1 C1 H1 d f1 w1 r1 z => ?_
  obtain ⟨⟨kk, xs, hi, hnk⟩, z⟩ := z
  obtain ⟨a, dx, fs, rfl, h1, h2, h3⟩ := w1.ins r1 hi
  refine ⟨a, dx, fs, rfl, h1, look_none h2 hnk, z G1 σ H1 _ w1 (er.mono f1.exG) fun vs G2 C2 H2 ds2 f2 w2 r2 zz => ?_⟩
  refine zz G2 σ H2 _ w2 (er.mono (f1.trans f2).exG) fun zs G3 C3 H3 es3 f3 w3 r3 zzz => ?_
  exact ⟨r2.length.trans zzz.1, r3.length.trans zzz.2.1, toSp_ok1 w3 (hdat _ _ (d :: ds2) _ _ (.cons (r1.mono (f2.trans f3).exG) (r2.mono f3.exG)) r3 (congrArg Nat.succ zzz.1) zzz.2.1) ((f1.trans f2).trans f3) q zzz.2.2⟩
end
end DL
/-! DMe: != of instances with an own == and no own !=. -/
namespace L2
open PySem PySem.Spec PyProof.Rows
section
variable {prog : Program} {w : World} {A A₀ : Around} {E : Value → Shared → Prop} {s : Shared} {K : PySem.W.Frag} {x C L f : Addr} {h₀ : Heap} {m : Str → Option Value} {ox : Obj} {od : Option Obj} {name : Str} {b tb : Value}
end
end L2
namespace L2
open PySem PySem.Spec PyProof.Rows
section
variable {X : Cx} {CT : CXT} {n : Nat} {fa Ca : Addr} {fd : FuncData} {ps : List Str} {sp : Sp} {E : XK} {dvs : List V} {ds : List Value}
end
end L2
namespace DL
open PySem PySem.Spec PyProof.Rows L2
section
variable {P : Program} {w : World} {K : PySem.W.Frag} {mg : Str → Option Value} {base : Heap} {j n : Nat} {X : Cx} {Cl : Addr} {S : DSp} {dfl : List D} {a b : Expr} {env : DEnv} {C : CS} {k : KD} {kb : Bool → CS → Prop} {pos : Pos}
end
end DL
/-! DMf: for k, v in d.items(): the cell d stands away in the loop. -/
namespace DL
open PySem PySem.Spec PyProof.Rows L2
section
variable {K : PySem.W.Frag} {G G2 H H2 : Hp} {C C2 : CS} {p : Addr} {od : Obj} {kvs : List (Key × D)} {kw : List (Key × V)}
theorem Wld.lock (w : Wld K G C H) (hp : C p = some (.dic kvs)) (o : HO) : Wld K G (del C p) (upd H p o) := by
  obtain ⟨g, _⟩ := w.cell p _ hp
  refine ⟨fun b u q => ?_, fun b c q => ?_, w.nt⟩
  · have ne : b ≠ p := ne_of_none q g
    rw [upd_ne ne]; exact w.ex b u q
  · have ne : b ≠ p := fun z => by subst z; rw [del_same] at q; cases q
    rw [del_ne ne] at q
    obtain ⟨h1, h2⟩ := w.cell b c q
    exact ⟨h1, h2.mono (fun _ _ h => h) (upd_ne ne)⟩
theorem Wld.unlock {o : HO} (w : Wld K G C H) (hp : C p = some (.dic kvs)) (e1 : kw.map (·.1) = kvs.map (·.1)) (e2 : DatAll K G (kw.map (·.2)) (kvs.map (·.2))) (f : Fr G (del C p) (upd H p o) G2 C2 H2) (w2 : Wld K G2 C2 H2) :
    Wld K G2 (put C2 p (.dic kvs)) (upd H2 p (.dK kw)) ∧ Fr G C H G2 (put C2 p (.dic kvs)) (upd H2 p (.dK kw)) := by
  obtain ⟨g, _⟩ := w.cell p _ hp
  have hHp : upd H p o p ≠ none := by rw [upd_same]; simp
  have g2 : G2 p = none := by
    cases q : G2 p with
    | none => rfl
    | some u =>
      rcases f.newG p hHp (by rw [q]; simp) with z | z
      · exact absurd g z
      · exact absurd del_same z
  refine ⟨⟨fun b u q => ?_, fun b c q => ?_, w2.nt⟩, ⟨f.exG, fun b u q n nt => ?_, fun b q => ?_, fun b q n => ?_, fun b q n => ?_⟩⟩
  · have ne : b ≠ p := ne_of_none q g2
    rw [upd_ne ne]; exact w2.ex b u q
  · by_cases z : b = p
    · subst z
      rw [put_same] at q
      cases q
      exact ⟨g2, kw, upd_same, e1, e2.mono f.exG⟩
    · rw [put_ne z] at q
      obtain ⟨h1, h2⟩ := w2.cell b c q
      exact ⟨h1, h2.mono (fun _ _ h => h) (upd_ne z)⟩
  · have ne : b ≠ p := fun z => by subst z; rw [hp] at n; cases n
    rw [upd_ne ne]
    exact f.keep b u (by rw [upd_ne ne]; exact q) (by rw [del_ne ne]; exact n) nt
  · by_cases z : b = p
    · subst z; rw [upd_same]; simp
    · rw [upd_ne z]; exact f.dom b (by rw [upd_ne z]; exact q)
  · by_cases z : b = p
    · subst z; rw [hp]; simp
    · rw [put_ne z] at n
      have := f.newC b (by rw [upd_ne z]; exact q) n
      rwa [del_ne z] at this
  · by_cases z : b = p
    · subst z; right; rw [hp]; simp
    · rcases f.newG b (by rw [upd_ne z]; exact q) n with y | y
      · exact .inl y
      · rw [del_ne z] at y; exact .inr y
end
section
variable {P : Program} {w : World} {K : PySem.W.Frag} {mg : Str → Option Value} {base : Heap} {m : Nat} {X : Cx} {e : Expr} {elts : List Expr} {kk : Nat} {body : List Stmt} {env : DEnv} {C : CS} {E : DEnds} {p : Addr} {kvs : List (Key × D)} {tpos apos cpos pos : Pos}
theorem get_key : ∀ {kw : List (Key × V)} {kvs : List (Key × D)} {i : Nat} {ky : Key} {v : V}, kw.map (·.1) = kvs.map (·.1) → DatAll K G (kw.map (·.2)) (kvs.map (·.2)) → kw[i]? = some (ky, v) → ∃ d, kvs[i]? = some (ky, d) ∧ Dat K G v d
  | [], _, _, _, _, _, _, h => by simp at h
  | (a, u) :: kw, [], _, _, _, e, _, _ => by simp at e
  | (a, u) :: kw, (b, d) :: kvs, i, ky, v, e, r, h => by
    simp at e
    obtain ⟨rfl, e⟩ := e
    simp at r
    cases r with
    | cons r1 r2 =>
      cases i with
      | zero => simp at h; obtain ⟨rfl, rfl⟩ := h; exact ⟨d, rfl, r1⟩
      | succ i => exact get_key (i := i) e r2 (by simpa using h)
theorem dat_kV (G : Hp) (ky : Key) : Dat K G (kV ky) (kD ky) := by
  cases ky with
  | inl i => exact .int i
  | inr s => exact .str s
end
end DL
/-! DMg: isinstance of an own class; displays of dicts with pairs. -/
namespace DL
open PySem PySem.Spec PyProof.Rows L2
section
variable {P : Program} {w : World} {K : PySem.W.Frag} {mg : Str → Option Value} {base : Heap} {m : Nat} {X : Cx} {Cl : Addr} {cn : Str} {e : Expr} {env : DEnv} {C : CS} {k : KD} {pos p p2 : Pos}
def dIsC (Cl : Addr) : List D → CS → KD → Prop := fun ds C k => ∃ d ks xs, ds = [d, .opq (.ref Cl)] ∧ insD C d = some (Cl, ks, xs) ∧ k (.bl true) C
theorem rl_isC : RLD K (fun xs H Q => ∃ a dx fs, xs = [V.ref a, .ref Cl] ∧ H a = some (.ins Cl dx fs) ∧ Q (.bl true) H) (dIsC Cl) := by
  rintro xs ds G C H k Q w rs ⟨d, ks, ys, rfl, hi, hk⟩ q
  cases rs with
  | cons r1 r2 =>
    cases r2 with
    | cons r2 r3 =>
      cases r3; cases r2
      obtain ⟨a, dx, fs, rfl, h1, h2, h3⟩ := w.ins r1 hi
      exact ⟨a, dx, fs, rfl, h1, q _ _ _ _ _ (Fr.refl ..) w (.bl true) hk⟩
theorem x_isC (hx : Ctx P w K mg base m X) (Z : Zs mg) (hg : Gl X "isinstance") (hI : C8.InsC K Cl) (hm : mg cn = some (.ref Cl)) (hg2 : Gl X cn) (h : WE X e env C fun d C1 => (∃ ks xs, insD C1 d = some (Cl, ks, xs)) ∧ k (.bl true) C1)
    (hd : (cn == ("__debug__" : Str)) = false := by decide) (he : starEach [e, .Name cn p2] X.env = (false, eval e X.env) :: starEach [.Name cn p2] X.env := by rfl) (he2 : starEach [.Name cn p2] X.env = (false, eval (.Name cn p2) X.env) :: starEach [] X.env := by rfl)
    (hpl : (backTo pos (starEach [.Name cn p2] X.env)).any (·.1) = false := by rfl) : WE X (.Call (.Name "isinstance" p) [e, .Name cn p2] [] pos) env C k := by
  have hI' : C8.InsC X.K Cl := by rw [hx.K]; exact hI
  refine we_cb (hx.zs Z).isi (C8.call_isC hI') rl_isC hg bt_isi (wa_cons (fun G σ H Q w er q => h G σ H _ w er fun v G1 C1 H1 d f1 w1 r1 z => q v G1 C1 H1 d f1 w1 r1 (wa_cons (.of (C8.pe_gc hg2 ⟨.ref Cl, by rw [hx.mg]; exact hm, show RelV (.ref Cl) (.ref Cl) from rfl⟩ hd) fun G σ H Q w er q => q _ G _ H _ (Fr.refl ..) w (.opq (.ref Cl)) (wa_nil ?_)) he2)) he) (he := he) (hpl := hpl)
  obtain ⟨⟨ks, xs, hi⟩, hk⟩ := z
  exact ⟨d, ks, xs, rfl, hi, hk⟩
end
/-! ### {k: v, ..} -/
abbrev DD (K : PySem.W.Frag) (G : Hp) : List (V × V) → List (D × D) → Prop := Paired fun v d => Dat K G v.1 d.1 ∧ Dat K G v.2 d.2
section
variable {K : PySem.W.Frag} {X : Cx} {env : DEnv} {C : CS} {k : KD} {e v : Expr} {keys : List (Option Expr)} {values : List Expr} {pos : Pos} {kp : List (D × D) → CS → Prop}
theorem DD.mono {G G' : Hp} {vs : List (V × V)} {ds : List (D × D)} (s : Same G G') (r : DD K G vs ds) : DD K G' vs ds := by
  unfold DD at *
  induction r with
  | nil => exact .nil
  | cons a b ih => exact .cons ⟨a.1.mono s, a.2.mono s⟩ ih
end
end DL
/-! DMh: a limit or 0. -/
namespace DL
open PySem PySem.Spec PyProof.Rows L2
section
variable {X : Cx} {a : Expr} {env : DEnv} {C : CS} {k : KD} {z : Nat} {p1 p2 : Pos}
end
end DL
/-! DMi: own exception classes over any built-in one, with one field that their __init__ stores. -/
namespace DL
open PySem PySem.Spec PyProof.Rows L2
end DL
namespace PySem
namespace DLX
open PySem.W PySem.Calls PyProof.Rows PySem.HandSPX
section
open Builtin Builtin.ObjectAttr
variable {prog : Program} {w : World} {A : Around} {E : Value → Shared → Prop} {R : Result → Shared → Prop} {hp : Heap} {g : Array GenState} {d : Drawn} {t : Nat} {os : OsState}
end
end DLX
end PySem
namespace DL
open PySem PySem.Spec PyProof.Rows L2
section
variable {X : Cx} {pins : List (Addr × Obj)} {σ : L2.St} {H : Hp} {s : Shared} {a C dx : Addr} {f : Str} {y : V} {u : Value} {E : Value → Shared → Prop} {A : Around} {B newId initId : String} {bm : List Value}
end
section
variable {X : Cx} {o e : Expr} {es : List Expr} {to te : TE} {ta : TA} {f bn : Str} {p p' p1 p2 pos : Pos} {B newId initId : String} {bm : List Value}
end
end DL
/-! DMj: raising and catching by data: what stands since an anchor (the entry of a def or of a try). -/
namespace DL
open PySem PySem.Spec PyProof.Rows L2
abbrev KX := Value → List (Str × D) → CS → Prop
abbrev DSpX := List D → CS → KD → KX → Prop
/-- an exception's fields, told by its dict -/
def ExR (K : PySem.W.Frag) (G : Hp) (C : CS) (H : Hp) (od : Option Addr) (fs : List (Str × D)) : Prop :=
  (od = none ∧ fs = []) ∨ ∃ (dd : Addr) (fv : List (Str × V)), od = some dd ∧ H dd = some (.xd fv) ∧ C dd = none ∧ fv.map (·.1) = fs.map (·.1) ∧ DatAll K G (fv.map (·.2)) (fs.map (·.2))
theorem ExR.fr {K : PySem.W.Frag} {G G1 : Hp} {C C1 : CS} {H H1 : Hp} {od : Option Addr} {fs : List (Str × D)} (h : ExR K G C H od fs) (f : Fr G C H G1 C1 H1) : ExR K G1 C1 H1 od fs := by
  rcases h with h | ⟨dd, fv, e, h1, h2, h3, h4⟩
  · exact .inl h
  · refine .inr ⟨dd, fv, e, f.keep dd _ h1 h2 (by intro _ z; cases z), ?_, h3, h4.mono f.exG⟩
    cases q : C1 dd with
    | none => rfl
    | some c => exact absurd h2 (f.newC dd (by rw [h1]; simp) (by rw [q]; simp))
structure Anc where
  G : Hp
  C : CS
  H : Hp
abbrev Anc.fr (A : Anc) (G : Hp) (C : CS) (H : Hp) : Prop := Fr A.G A.C A.H G C H
section
variable {X : Cx} {A : Anc} {e : Expr} {st : Stmt} {sts rest s1 s2 : List Stmt} {env : DEnv} {C : CS} {k : KD} {E : DEnds} {pos : Pos} {kx : DEnv → KX}
end
/-! ### raise -/
section
variable {P : Program} {w : World} {K : PySem.W.Frag} {mg : Str → Option Value} {base : Heap} {j n : Nat} {X : Cx} {A : Anc} {e : Expr} {env : DEnv} {C : CS} {E : DEnds} {pos p pos' : Pos} {kx : DEnv → KX} {x f : Str} {Cl : Addr}
end
end DL
/-! DMk: defs that raise, calls of them, try. -/
namespace DL
open PySem PySem.Spec PyProof.Rows L2
section
variable {P : Program} {w : World} {K : PySem.W.Frag} {mg : Str → Option Value} {base : Heap}
end
section
variable {X : Cx} {n : Nat} {fa Ca : Addr} {fd : FuncData} {ps : List Str} {sp : Sp} {ds : List Value} {dvs : List V} {W : WX} {x m : Str} {p pos apos : Pos} {e o : Expr} {es : List Expr} {ta : TE} {t : TA}
theorem PA.nox {es : List Expr} {t : TA} (h : PA X.nox es t) : PA X es t := ⟨fun pos pins s σ H Q I hw =>
  wpAny_mono (h.run pos pins s σ H Q (I.wish _) hw) (fun _ _ ⟨v, H', I', r, q⟩ => ⟨v, H', I'.unwish, r, q⟩) fun _ _ z => False.elim z⟩
end
section
variable {P : Program} {w : World} {K : PySem.W.Frag} {mg : Str → Option Value} {base : Heap} {j n : Nat} {X : Cx} {A : Anc} {Cl : Addr} {m x : Str} {S : DSpX} {dfl : List D} {e o : Expr} {es : List Expr} {env : DEnv} {C : CS} {k : KD} {kx : DEnv → KX} {pos apos p : Pos}
end
end DL
/-! DMl: try: body, except x as n: suite. -/
namespace DL
open PySem PySem.Spec PyProof.Rows L2
section
variable {P : Program} {w : World} {K : PySem.W.Frag} {mg : Str → Option Value} {base : Heap} {j : Nat} {X : Cx} {N M gs : List Str} {dsc : Scope} {body suite : List Stmt} {b₀ : Stmt} {x n : Str} {i : Nat} {Cl : Addr} {env : DEnv} {C : CS} {E : DEnds} {np pos pos' : Pos}
theorem Ctx.tr (h : Ctx P w K mg base j X) (pn : List (Addr × Obj)) (xe : Value → Shared → Prop) : Ctx P w K mg base j (X.tr pn xe) := ⟨h.prog, h.w, h.K, h.mg, h.base, h.room, h.guards, h.calm⟩
theorem Nms.tr (h : Nms X N M) (pn : List (Addr × Obj)) (xe : Value → Shared → Prop) : Nms (X.tr pn xe) N M := ⟨h.n, h.nd, h.vis, h.ndb, h.ncd⟩
theorem Sts.tr (h : Sts X N M) (pn : List (Addr × Obj)) (xe : Value → Shared → Prop) : Sts (X.tr pn xe) N M := ⟨h.n, h.nd, h.loc, h.fn⟩
theorem Gls.tr (h : Gls X gs) (pn : List (Addr × Obj)) (xe : Value → Shared → Prop) : Gls (X.tr pn xe) gs := ⟨h.gl⟩
theorem Dfc.tr (h : Dfc X N dsc) (pn : List (Addr × Obj)) (xe : Value → Shared → Prop) : Dfc (X.tr pn xe) N dsc := ⟨h.n, h.nd, h.sc, h.calm⟩
/-- the context of a try's body, seen from a def's -/
structure BdT (P : Program) (w : World) (K : PySem.W.Frag) (mg : Str → Option Value) (base : Heap) (m : Nat) (N M Ds : List Str) (dsc : Scope) (X : Cx) : Prop where
  x : Ctx P w K mg base m X
  b : Bdy P w K mg base m N M Ds dsc X.nox
theorem Bdy.tr {m : Nat} {Ds : List Str} (h : Bdy P w K mg base m N M Ds dsc X) (pn : List (Addr × Obj)) (xe : Value → Shared → Prop) : BdT P w K mg base m N M Ds dsc (X.tr pn xe) := ⟨h.x.tr pn xe, h.x.tr pn _, h.b.tr pn _, h.s.tr pn _, h.g.tr pn _, h.d.tr pn _, ⟨rfl⟩⟩
end
/-! ### in a suite -/
section
variable {X : Cx} {A : Anc} {a b e : Expr} {env : DEnv} {C : CS} {k : KD} {pos p : Pos}
end
end DL
/-! DMm: the caught exception's fields; defs with a try. -/
namespace DL
open PySem PySem.Spec PyProof.Rows L2
section
variable {P : Program} {w : World} {K : PySem.W.Frag} {mg : Str → Option Value} {base : Heap} {X : Cx} {A : Anc} {a Cl : Addr} {oe : Obj} {od : Option Addr} {pn : List (Addr × Obj)} {o : Expr} {f : Str} {fs : List (Str × D)} {env : DEnv} {C : CS} {k : KD} {pos : Pos}
/-- names and builtins within a suite -/
theorem Nms.suite {N M : List Str} (h : Nms X N M) (a : Addr) (pn : List (Addr × Obj)) : Nms (X.suite a pn) N M := ⟨h.n, h.nd, h.vis, h.ndb, h.ncd⟩
theorem Gls.suite {gs : List Str} (h : Gls X gs) (a : Addr) (pn : List (Addr × Obj)) : Gls (X.suite a pn) gs := ⟨h.gl⟩
end
end DL
/-! DMn: isinstance of a caught exception; anchored flow; own == of others; own str and repr. -/
namespace L2
open PySem PySem.Spec PyProof.Rows
def XdOk (H : Hp) (od : Option Addr) : Prop := od = none ∨ ∃ (dd : Addr) (fs : List (Str × V)), od = some dd ∧ H dd = some (.xd fs)
/-! own ==, str, repr -/
section
variable {X : Cx} {CT : CXT} {n : Nat} {fa Ca : Addr} {fd : FuncData} {ps : List Str} {sp : Sp} {E : XK} {dvs : List V} {ds : List Value}
end
end L2
namespace DL
open PySem PySem.Spec PyProof.Rows L2
section
variable {P : Program} {w : World} {K : PySem.W.Frag} {mg : Str → Option Value} {base : Heap} {j n m : Nat} {X : Cx} {Cl : Addr} {S : DSp} {dfl : List D} {a b e o : Expr} {es : List Expr} {env : DEnv} {C : CS} {k : KD} {kb : Bool → CS → Prop} {pos p p2 : Pos} {cn : Str}
end
/-! ### anchored flow -/
section
variable {X : Cx} {A : Anc} {a b e c : Expr} {rest : List Expr} {s1 s2 : List Stmt} {env : DEnv} {C : CS} {k : KD} {kb : Bool → CS → Prop} {E : DEnds} {pos p pos' : Pos} {N M : List Str} {x : Str} {f : D → DEnv}
theorem Sts.suite {N M : List Str} (h : Sts X N M) (a : Addr) (pn : List (Addr × Obj)) : Sts (X.suite a pn) N M := ⟨h.n, h.nd, h.loc, h.fn⟩
end
/-! ### isinstance(e, ..) in a suite -/
section
variable {P : Program} {w : World} {K : PySem.W.Frag} {mg : Str → Option Value} {base : Heap} {m : Nat} {X : Cx} {A : Anc} {a Cl : Addr} {oe : Obj} {od : Option Addr} {pn : List (Addr × Obj)} {o c : Expr} {es : List Expr} {fs : List (Str × D)} {env : DEnv} {C : CS} {k : KD} {pos p p2 : Pos} {nt : Nat}
theorem ExR.xd {G G1 : Hp} {C C1 : CS} {H H1 : Hp} (hE : ExR K G C H od fs) (f : Fr G C H G1 C1 H1) : XdOk H1 od := by
  rcases hE.fr f with ⟨h, _⟩ | ⟨dd, fv, h, h1, _⟩
  · exact .inl h
  · exact .inr ⟨dd, fv, h, h1⟩
end
end DL
/-! DMo: raising methods with keywords; loops whose bodies may raise. -/
namespace DL
open PySem PySem.Spec PyProof.Rows L2
section
variable {P : Program} {w : World} {K : PySem.W.Frag} {mg : Str → Option Value} {base : Heap}
end
section
variable {X : Cx} {n np : Nat} {fa Ca : Addr} {fd : FuncData} {ps ks : List Str} {sp : Sp} {W : WX} {m : Str} {pos apos : Pos} {o : Expr} {kws : List Keyword} {ta : TE} {tk : TA} {g : List Value → List Value → List Value} {gV : List V → List V → List V}
theorem PK.nox (h : PK X.nox kws tk) : PK X kws tk := ⟨fun pos pins s σ H Q I hw =>
  wpAny_mono (h.run pos pins s σ H Q (I.wish _) hw) (fun _ _ ⟨v, H', I', r, q⟩ => ⟨v, H', I'.unwish, r, q⟩) fun _ _ z => False.elim z⟩
end
section
variable {P : Program} {w : World} {K : PySem.W.Frag} {mg : Str → Option Value} {base : Heap} {j n : Nat} {X : Cx} {A : Anc} {Cl : Addr} {m : Str} {S : DSpX} {gD : List D → List D → List D} {ks : List Str} {o : Expr} {kws : List Keyword} {env : DEnv} {C : CS} {k : KD} {kx : DEnv → KX} {pos apos : Pos}
end
/-! ### loops -/
section
variable {P : Program} {w : World} {K : PySem.W.Frag} {mg : Str → Option Value} {base : Heap} {m : Nat} {X : Cx} {A : Anc} {e tg iter : Expr} {elts : List Expr} {kk : Nat} {body : List Stmt} {env : DEnv} {C : CS} {E : DEnds} {p : Addr} {kvs : List (Key × D)} {tpos apos cpos pos : Pos}
theorem Fr.lock {G H : Hp} {C : CS} {c : Cell} {p : Addr} (w : Wld K G C H) (hp : C p = some c) (o : HO) : Fr G C H G (del C p) (upd H p o) := by
  refine ⟨fun _ _ h => h, fun b u q n _ => ?_, fun b q => ?_, fun b q n => ?_, fun b q n => .inl n⟩
  · have ne : b ≠ p := fun z => by subst z; rw [hp] at n; cases n
    rw [upd_ne ne]; exact q
  · by_cases z : b = p
    · subst z; rw [upd_same]; simp
    · rw [upd_ne z]; exact q
  · by_cases z : b = p
    · subst z; rw [del_same] at n; exact absurd rfl n
    · rw [del_ne z] at n; exact n
end
end DL
/-! DMp: several except clauses, each with a name. -/
namespace L2
open PySem PySem.Spec PyProof.Rows
abbrev HdL := List (Value × Nat × (Addr → Value → Option Addr → TS))
section
variable {X : Cx} {body : List Stmt} {h₀ : ExceptHandler} {hds : List ExceptHandler} {l : HdL} {pos : Pos} {tb : WX → TS} {Wout : WX}
end
end L2
namespace DL
open PySem PySem.Spec PyProof.Rows L2
section
variable {P : Program} {w : World} {K : PySem.W.Frag} {mg : Str → Option Value} {base : Heap} {X : Cx} {N M : List Str} {dsc : Scope} {body : List Stmt} {h₀ : ExceptHandler} {hds : List ExceptHandler} {l : List (Addr × Nat × List Stmt)} {env : DEnv} {C : CS} {E : DEnds} {pos : Pos}
end
end DL
/-! DMq: raise X(), X an own exception class without own __init__. -/
namespace L2
open PySem PySem.Spec PyProof.Rows
end L2
namespace DL
open PySem PySem.Spec PyProof.Rows L2
section
variable {P : Program} {w : World} {K : PySem.W.Frag} {mg : Str → Option Value} {base : Heap} {j : Nat} {X : Cx} {A : Anc} {env : DEnv} {C : CS} {E : DEnds} {pos p pos' : Pos} {kx : DEnv → KX} {x : Str} {Cl : Addr}
end
end DL
/-! DMr: in and not in with a tuple of data; a statement's end; what raises below an attribute; == as a test in a suite. -/
namespace L2
open PySem PySem.Spec PyProof.Rows
section
variable {X : Cx}
end
end L2
namespace DL
open PySem PySem.Spec PyProof.Rows L2
section
variable {P : Program} {w : World} {K : PySem.W.Frag} {mg : Str → Option Value} {base : Heap} {m : Nat} {X : Cx} {A : Anc} {a b o : Expr} {env : DEnv} {C : CS} {k : KD} {kb : Bool → CS → Prop} {pos p : Pos} {f : Str}
theorem WS.imp {X : Cx} {st : Stmt} {env : DEnv} {C : CS} {E1 E2 : DEnds} (h : WS X st env C E1) (hn : ∀ env' C', E1.nx env' C' → E2.nx env' C') (hr : E1.rt = E2.rt := by rfl) (hb : E1.bk = E2.bk := by rfl) (hc : E1.ct = E2.ct := by rfl) : WS X st env C E2 := fun G σ H D w er q =>
  h G σ H D w er ⟨fun G1 C1 H1 σ1 env1 f1 w1 er1 z => q.nx G1 C1 H1 σ1 env1 f1 w1 er1 (hn _ _ z), by rw [hr]; exact q.rt, by rw [hb]; exact q.bk, by rw [hc]; exact q.ct⟩
end
end DL
/-! DMs: xs[::-1] of a list. -/
namespace DL
open PySem PySem.Spec PyProof.Rows L2
/-! xs[::-1] of a list: a new list -/
section
variable {X : Cx} {e : Expr} {env : DEnv} {C : CS} {k : KD} {pos p1 p2 p3 : Pos} {j : Nat}
end
end DL
/-! DMt: a lambda's code, entered from the def that got it; the caller's guards stand. -/
namespace DL
open PySem PySem.Spec PyProof.Rows L2 LamX
section
variable {X : Cx} {pins : List (Addr × Obj)} {σ : L2.St} {H HZ : Hp} {s s1 : Shared} {A1 : Around} {outer1 : List Env} {E : XK} {scope : Scope} {f c' : Addr} {params : Arguments} {body : Expr} {pm ctv : Value} {k : Nat} {tb : TE} {Q : VK}
end
section
variable {P : Program} {w : World} {K : PySem.W.Frag} {mg : Str → Option Value} {base : Heap} {X : Cx} {N M : List Str} {dsc : Scope} {body : List Stmt} {h₀ : ExceptHandler} {hds : List ExceptHandler} {l : List (Addr × Nat × List Stmt)} {env : DEnv} {C : CS} {E : DEnds} {pos : Pos}
end
end DL
/-! DMu: a lambda is made; what becomes of the one table is told outright. -/
namespace DL
open PySem PySem.Spec PySem.W PyProof.Rows L2 LamX
/-- the heap behind the making: the old one, or the table is longer by a new code object -/
inductive Made (R : Addr → Prop) (H : Hp) (P c' : Addr) (q : Str) (ps : Array Value) : Hp → Array Value → Prop
  | hit : R c' → Made R H P c' q ps H ps
  | new (pos : Pos) : H c' = none → c' ≠ P → Made R H P c' q ps (upd (upd H P (.tbl (ps ++ #[rawInt pos.line, rawInt pos.col, .ref c']))) c' (CodeO c' q)) (ps ++ #[rawInt pos.line, rawInt pos.col, .ref c'])
section
variable {X : Cx} {pins : List (Addr × Obj)} {σ : L2.St} {H : Hp} {s : Shared} {c P : Addr} {ps : Array Value} {params : Arguments} {body : Expr} {scope : Scope} {pos : Pos} {E : Value → Shared → Prop} {Qv : Value → Shared → Prop} {R : Addr → Prop}
end
section
variable {K : PySem.W.Frag} {G H H1 : Hp} {C : CS} {P c' : Addr} {q : Str} {cs : List Addr} {ps ps1 : Array Value}
/-- the world behind the making -/
theorem Wld.made (w : Wld K G C H) (hC : C P = some (.tbl q cs)) (hP : H P = some (.tbl ps)) (ht : TriplesOk ps.toList) (ha : ∀ (pos : Pos) (cv : Value), codeAmong pos ps.toList = some cv → ∃ c0, cv = .ref c0 ∧ G c0 = some (CodeO c0 q))
    (m : Made (fun c0 => G c0 = some (CodeO c0 q)) H P c' q ps H1 ps1) : ∃ G', Wld K G' (put C P (.tbl q (c' :: cs))) H1 ∧ Fr G C H G' (put C P (.tbl q (c' :: cs))) H1 ∧ G' c' = some (CodeO c' q) := by
  obtain ⟨gP, ⟨_, _, _, _, hcs⟩⟩ := w.cell P _ hC
  cases m with
  | hit hR =>
    refine ⟨G, ⟨w.ex, fun a d e => ?_, w.nt⟩, ⟨fun _ _ h => h, fun _ _ h _ _ => h, fun _ h => h, fun a _ k => ?_, fun _ _ k => .inl k⟩, hR⟩
    · by_cases z : a = P
      · subst z
        rw [put_same] at e
        cases e
        exact ⟨gP, ps, hP, ht, ha, fun d hd => (List.mem_cons.mp hd).elim (fun z => by rw [z]; exact hR) (hcs d)⟩
      · rw [put_ne z] at e
        exact w.cell a d e
    · by_cases z : a = P
      · subst z; rw [hC]; simp
      · rw [put_ne z] at k; exact k
  | new pos nCc nPc =>
    obtain ⟨gc, cc⟩ := w.ne nCc
    have sG : Same G (upd G c' (CodeO c' q)) := fun b u e => by rw [upd_ne (ne_of_none e gc)]; exact e
    have eH : ∀ {b : Addr}, b ≠ c' → b ≠ P → (upd (upd H P (.tbl (ps ++ #[rawInt pos.line, rawInt pos.col, .ref c']))) c' (CodeO c' q)) b = H b := fun h1 h2 => by rw [upd_ne h1, upd_ne h2]
    have eLt : (ps ++ #[rawInt pos.line, rawInt pos.col, .ref c']).toList = ps.toList ++ [rawInt pos.line, rawInt pos.col, .ref c'] := by simp
    refine ⟨upd G c' (CodeO c' q), ⟨fun b u e => ?_, fun a d e => ?_, fun b ps' e => ?_⟩, ⟨sG, fun a o e n _ => ?_, fun a e => ?_, fun a _ k => ?_, fun a e k => ?_⟩, upd_same⟩
    · by_cases z : b = c'
      · subst z; rw [upd_same] at e ⊢; exact e
      · rw [upd_ne z] at e
        rw [eH z (fun y => by rw [y, gP] at e; cases e)]
        exact w.ex b u e
    · by_cases z : a = P
      · subst z
        rw [put_same] at e
        cases e
        refine ⟨by rw [upd_ne nPc.symm]; exact gP, _, by rw [upd_ne nPc.symm, upd_same], by rw [eLt]; exact PySem.TriplesOk_snoc _ _ _ _ ht, fun p' cv hcv => ?_, fun d hd => ?_⟩
        · rw [eLt] at hcv
          rcases among_app _ ht hcv with y | y
          · obtain ⟨c0, e1, e2⟩ := ha p' cv y
            exact ⟨c0, e1, sG _ _ e2⟩
          · exact ⟨c', y, upd_same⟩
        · rcases List.mem_cons.mp hd with rfl | hd
          · exact upd_same
          · exact sG _ _ (hcs d hd)
      · rw [put_ne z] at e
        obtain ⟨g1, g2⟩ := w.cell a d e
        have nc : a ≠ c' := fun y => by rw [y, cc] at e; cases e
        exact ⟨by rw [upd_ne nc]; exact g1, g2.mono sG (eH nc z)⟩
    · by_cases z : b = c'
      · subst z
        rw [upd_same] at e
        exact codeO_ne _ (Option.some.inj e)
      · rw [upd_ne z] at e
        exact w.nt b ps' e
    · rw [eH (fun y => by rw [y, nCc] at e; cases e) (fun y => by rw [y, hC] at n; cases n)]
      exact e
    · by_cases z : a = c'
      · subst z; rw [upd_same]; simp
      · by_cases y : a = P
        · subst y; rw [upd_ne z, upd_same]; simp
        · rw [eH z y]; exact e
    · by_cases z : a = P
      · subst z; rw [hC]; simp
      · rw [put_ne z] at k; exact k
    · by_cases z : a = c'
      · subst z; exact absurd nCc e
      · rw [upd_ne z] at k; exact .inl k
end
end DL
/-! DMv: x(lambda: body), x a def of the module that calls what it got. -/
namespace DL
open PySem PySem.Spec PyProof.Rows L2 LamX
section
variable {P : Program} {w : World} {K : PySem.W.Frag} {mg : Str → Option Value} {base : Heap} {X : Cx} {j k : Nat} {x a : Str} {st : Stmt} {g cT Pt : Addr} {fd : FuncData} {Ng M Ds : List Str} {params : Arguments} {body : Expr} {scope : Scope} {lps p pos : Pos} {env : DEnv} {C : CS} {kd : KD} {cs : List Addr} {S : DEnv → CS → KD → KX → Prop}
end
end DL
/-! DMw: a law whose def makes lambdas: its body with its own code object, its end with the table. -/
namespace DL
open PySem PySem.Spec PyProof.Rows L2 LamX
section
variable {P : Program} {w : World} {K : PySem.W.Frag} {mg mb : Str → Option Value} {base : Heap} {CT : CXT} {n : Nat} {fa a ct Pt : Addr} {fd : FuncData} {x : Str} {sp : Sp} {s : Shared} {vs : List Value} {ns : List Int}
end
/-! anchored displays -/
section
variable {X : Cx} {A : Anc} {e : Expr} {es : List Expr} {env : DEnv} {C : CS} {k : KD} {ka : List D → CS → Prop} {pos : Pos} {x1 : Nat}
end
end DL
/-! DMx: y = [.. for a, b in ..]. -/
namespace DL
open PySem PySem.Spec PyProof.Rows L2
section
variable {X : Cx} {elt iter : Expr} {ifs : List Expr} {scope dsc : Scope} {env : DEnv} {C C1 : CS} {k : KD} {pos px py pt : Pos} {n : Nat} {E : DEnds} {N M gs : List Str} {x y : Str} {f1 : D → DEnv} {f2 : D → D → DEnv} {xs : List D} {Pc : CS → Prop}
end
/-! sorted(a list of texts) -/
section
variable {P : Program} {w : World} {K : PySem.W.Frag} {mg : Str → Option Value} {base : Heap} {j n : Nat} {X : Cx} {e : Expr} {es : List Expr} {env : DEnv} {C : CS} {k : KD} {pos p : Pos}
end
/-- what stands behind is not looked into -/
theorem wss_gen {X : Cx} {sts : List Stmt} {env : DEnv} {C : CS} {E : DEnds} (h : ∀ E' : DEnds, (∀ env' C', E.nx env' C' → E'.nx env' C') → (∀ d C', E.rt d C' → E'.rt d C') → WSs X sts env C E') : WSs X sts env C E := h E (fun _ _ h => h) fun _ _ h => h
end DL
/-! DMy: classes straight below KeyError: their __new__ is LookupError's. -/
namespace PySem
namespace DLX
open PySem.W PySem.Calls PyProof.Rows PySem.HandSPX Builtin Builtin.ObjectAttr
section
variable {M : Model} {A : Around} {E : Value → Shared → Prop} {h : Heap} {g : Array GenState} {d : Drawn} {t : Nat} {os : OsState} {nm q : Str} {C N : Addr} {bs bm bmB : List Value} {hdct : Bool} {sn : List Str} {sub : List Value} {ab : Bool} {col : Option Bool} {dd : Option Addr} {k0 k1 k2 k3 k5 : Option Value} {B newId initId : String}
variable {prog : Program} {w : World} {R : Result → Shared → Prop}
end
end DLX
end PySem
namespace DL
open PySem PySem.Spec PyProof.Rows L2 PySem.F PySem.DLX PySem.HandSPX
section
variable {M : Model} {A : Around} {E : Value → Shared → Prop} {h : Heap} {g : Array GenState} {d : Drawn} {t : Nat} {os : OsState} {nm q : Str} {C N : Addr} {bs bm : List Value} {hdct : Bool} {sn : List Str} {sub : List Value} {ab : Bool} {col : Option Bool} {dd : Option Addr} {k0 k1 k2 k3 k5 : Option Value} {B newId initId : String}
end
end DL
/-! DMz: zip(a, b, strict=True) of two tuples of one length. -/
namespace DLZ
open PySem RZ
open PySem.Sem (wp)
/-- a zip that asks that all end together -/
abbrev ZipS (hp : Heap) (zz TI TO : Addr) (f0 : Value) : Prop := hp.get? zz = some { cls := .type "zip", dict := none, data := .fields #[f0, .bool false, .bool true, .ref TI, .ref TO], slots := #[] }
section
variable {prog : Program} {w : World} {A : Around} {E : Value → Shared → Prop} {s : Shared}
theorem noe_item {it l : Addr} {i : Nat} {items : Array Value} {x : Value} {Q : Option Value → Shared → Prop} (hit : s.heap.IsTupleIter it l i) (hl : s.heap.IsTuple l items) (hx : items[i]? = some x)
    (hQ : ∀ h', h'.IsTupleIter it l (i + 1) → Heap.SameBut it s.heap h' → Q (some x) { s with heap := h' }) : wpAny (model prog w) A (Builtin.SmallTypes.nextOrEnd (.ref it)) Q E s := by
  unfold Builtin.SmallTypes.nextOrEnd
  refine wpAny_bind (wpAny_attempt (nextOf_tuple_item hit hl hx ?_))
  intro h' a b
  exact wpAny_pure (hQ h' a b)
theorem noe_end {it l : Addr} {i : Nat} {items : Array Value} {Q : Option Value → Shared → Prop} (hh : A.handled = none) (hit : s.heap.IsTupleIter it l i) (hl : s.heap.IsTuple l items) (hx : items[i]? = none)
    (hQ : ∀ h', Heap.ExtBut it s.heap h' → Q none { s with heap := h' }) : wpAny (model prog w) A (Builtin.SmallTypes.nextOrEnd (.ref it)) Q E s := by
  unfold Builtin.SmallTypes.nextOrEnd
  refine wpAny_bind (wpAny_attempt (nextOf_tuple_end hh hit hl hx ?_))
  intro h' e hk he
  obtain ⟨o, ho, hc⟩ := he
  refine wpAny_bind (wpAny_isInstance (T := "StopIteration") (b := true) ⟨o, ho, hc⟩ isSubtype_stop ?_)
  exact wpAny_pure (hQ _ hk)
theorem nextS_item {zz TI TO i1 i2 l1 l2 : Addr} {k1 k2 : Nat} {xs ys : Array Value} {x y a b : Value} {Q : Value → Shared → Prop} (ap : ZipApart zz TI TO i1 i2 l1 l2) (az : ZipS s.heap zz TI TO .none) (pI : IsPair s.heap TI (.ref i1) (.ref i2)) (pO : IsPair s.heap TO a b)
    (t1 : s.heap.IsTupleIter i1 l1 k1) (t2 : s.heap.IsTupleIter i2 l2 k2) (u1 : s.heap.IsTuple l1 xs) (u2 : s.heap.IsTuple l2 ys) (hx : xs[k1]? = some x) (hy : ys[k2]? = some y)
    (hQ : ∀ h', ZipS h' zz TI TO (rawInt s.heap.objs.size) → IsPair h' TO x y → h'.IsTupleIter i1 l1 (k1 + 1) → h'.IsTupleIter i2 l2 (k2 + 1) → IsPair h' s.heap.objs.size x y → h'.objs.size = s.heap.objs.size + 1 →
      (∀ c o, c ≠ zz → c ≠ TO → c ≠ i1 → c ≠ i2 → s.heap.get? c = some o → h'.get? c = some o) → Q (.ref s.heap.objs.size) { s with heap := h' }) :
    wpAny (model prog w) A (Builtin.«zip.__next__» ⟨[.ref zz], []⟩) (fun fin s' => ∃ v, fin = .done (.ret v) ∧ Q v s') E s := by
  show wpAny _ _ (field (.ref zz) 2 >>= _) _ _ _
  refine wpAny_bind (wpAny_field az rfl (x := .bool true) rfl ?_)
  show wpAny _ _ (field (.ref zz) 3 >>= _) _ _ _
  refine wpAny_bind (wpAny_field az rfl (x := .ref TI) rfl ?_)
  refine wpAny_bind (wpAny_seqItems pI rfl ?_)
  show wpAny _ _ (Builtin.SmallTypes.ownedTupleIsFree (.ref zz) >>= _) _ _ _
  refine wpAny_bind ?_
  unfold Builtin.SmallTypes.ownedTupleIsFree
  refine wpAny_bind (wpAny_field az rfl (x := .none) rfl (wpAny_pure ?_))
  simp only [if_true]
  refine wpAny_bind (wpAny_rule ?_)
  refine wpAny_bind (wpAny_field az rfl (x := .ref TO) rfl ?_)
  refine wpAny_bind (wpAny_setField_rec az (by simp) ?_)
  intro j1 z1 e1
  replace z1 : ZipS j1 zz TI TO .ellipsis := z1
  refine wpAny_bind ?_
  simp only [List.zipIdx_cons, List.zipIdx_nil, List.forIn_cons, List.forIn_nil]
  refine wpAny_bind (wpAny_bind (wpAny_onRaise ?_))
  show wpAny _ _ (Builtin.SmallTypes.nextOrEnd (.ref i1)) _ _ _
  refine noe_item (t1.extBut e1.extBut ap.i1z) (u1.extBut e1.extBut ap.l1z) hx ?_
  intro j2 v1 e2
  have o2 : IsPair j2 TO a b := e2.extBut _ _ ap.TOi1 (e1.extBut _ _ ap.TOz pO)
  refine wpAny_bind (wpAny_seqItems o2 rfl ?_)
  refine wpAny_bind (wpAny_updateSeq_pair o2 ?_)
  intro j3 o3 e3
  replace o3 : IsPair j3 TO x b := o3
  refine wpAny_bind (wpAny_letGo (wpAny_pure ?_))
  refine wpAny_bind (wpAny_bind (wpAny_onRaise ?_))
  show wpAny _ _ (Builtin.SmallTypes.nextOrEnd (.ref i2)) _ _ _
  refine noe_item (((t2.extBut e1.extBut ap.i2z).extBut e2.extBut ap.i12.symm).extBut e3.extBut ap.TOi2.symm) (((u2.extBut e1.extBut ap.l2z).extBut e2.extBut ap.l2i1).extBut e3.extBut ap.l2TO) hy ?_
  intro j4 v2 e4
  have o4 : IsPair j4 TO x b := e4.extBut _ _ ap.TOi2 o3
  refine wpAny_bind (wpAny_seqItems o4 rfl ?_)
  refine wpAny_bind (wpAny_updateSeq_pair o4 ?_)
  intro j5 o5 e5
  replace o5 : IsPair j5 TO x y := o5
  refine wpAny_bind (wpAny_letGo (wpAny_pure (wpAny_pure ?_)))
  refine wpAny_bind (wpAny_seqItems o5 rfl ?_)
  refine wpAny_bind (wpAny_newTuple ?_)
  have hsz : j5.objs.size = s.heap.objs.size := by rw [e5.1, e4.1, e3.1, e2.1, e1.1]
  have z5 : ZipS j5 zz TI TO .ellipsis := e5.extBut _ _ ap.TOz.symm (e4.extBut _ _ ap.i2z.symm (e3.extBut _ _ ap.TOz.symm (e2.extBut _ _ ap.i1z.symm z1)))
  have k5 : ∀ c o, c ≠ zz → c ≠ TO → c ≠ i1 → c ≠ i2 → s.heap.get? c = some o → j5.get? c = some o := by
    intro c o c1 c2 c3 c4 e
    exact e5.extBut _ _ c2 (e4.extBut _ _ c4 (e3.extBut _ _ c2 (e2.extBut _ _ c3 (e1.extBut _ _ c1 e))))
  have w1 : j5.IsTupleIter i1 l1 (k1 + 1) := ((v1.extBut e3.extBut ap.TOi1.symm).extBut e4.extBut ap.i12).extBut e5.extBut ap.TOi1.symm
  have w2 : j5.IsTupleIter i2 l2 (k2 + 1) := v2.extBut e5.extBut ap.TOi2.symm
  have zlt : zz < j5.objs.size := Heap.lt_size z5
  have olt : TO < j5.objs.size := Heap.lt_size o5
  show wpAny _ _ (Builtin.SmallTypes.ownedTupleHandOut (.ref zz) (.ref j5.objs.size) >>= _) _ _ _
  refine wpAny_bind ?_
  unfold Builtin.SmallTypes.ownedTupleHandOut
  have z6 : ZipS (j5.push { cls := .type "tuple", data := .seq #[x, y] }) zz TI TO .ellipsis := Heap.get?_push_of_some _ z5
  refine wpAny_bind (wpAny_setField_rec z6 (by simp) ?_)
  intro j7 z7 e7
  replace z7 : ZipS j7 zz TI TO (rawInt j5.objs.size) := z7
  refine wpAny_setField_rec z7 (by simp) ?_
  intro j8 z8 e8
  replace z8 : ZipS j8 zz TI TO (rawInt j5.objs.size) := z8
  have up : ∀ c o, c ≠ zz → j5.get? c = some o → j8.get? c = some o := by
    intro c o c1 e
    exact e8.extBut _ _ c1 (e7.extBut _ _ c1 (Heap.get?_push_of_some _ e))
  have T8 : IsPair j8 j5.objs.size x y := e8.extBut _ _ (Nat.ne_of_gt zlt) (e7.extBut _ _ (Nat.ne_of_gt zlt) (Heap.get?_push_size _ rfl))
  have s8 : j8.objs.size = j5.objs.size + 1 := by rw [e8.1, e7.1, Heap.size_push]
  rw [hsz] at z8 T8 s8
  refine wpAny_pure ⟨_, rfl, ?_⟩
  show Q (.ref j5.objs.size) _
  rw [hsz]
  refine hQ j8 z8 (up _ _ ap.TOz o5) (w1.at ?_) (w2.at ?_) T8 s8 ?_
  · intro o e
    exact up _ o ap.i1z e
  · intro o e
    exact up _ o ap.i2z e
  · intro c o c1 c2 c3 c4 e
    exact up c o c1 (k5 c o c1 c2 c3 c4 e)
theorem nextS_end {zz TI TO i1 i2 l1 l2 : Addr} {k1 k2 : Nat} {xs ys : Array Value} {a b : Value} {Q : Fin → Shared → Prop} (hh : A.handled = none) (ap : ZipApart zz TI TO i1 i2 l1 l2) (az : ZipS s.heap zz TI TO .none) (pI : IsPair s.heap TI (.ref i1) (.ref i2)) (pO : IsPair s.heap TO a b)
    (t1 : s.heap.IsTupleIter i1 l1 k1) (t2 : s.heap.IsTupleIter i2 l2 k2) (u1 : s.heap.IsTuple l1 xs) (u2 : s.heap.IsTuple l2 ys) (hx : xs[k1]? = none) (hy : ys[k2]? = none)
    (hE : ∀ h' e, (∀ c o, c ≠ zz → c ≠ TO → c ≠ i1 → c ≠ i2 → s.heap.get? c = some o → h'.get? c = some o) → (∃ o, h'.get? e = some o ∧ o.cls = .type "StopIteration") → E (.ref e) { s with heap := h' }) :
    wpAny (model prog w) A (Builtin.«zip.__next__» ⟨[.ref zz], []⟩) Q E s := by
  show wpAny _ _ (field (.ref zz) 2 >>= _) _ _ _
  refine wpAny_bind (wpAny_field az rfl (x := .bool true) rfl ?_)
  show wpAny _ _ (field (.ref zz) 3 >>= _) _ _ _
  refine wpAny_bind (wpAny_field az rfl (x := .ref TI) rfl ?_)
  refine wpAny_bind (wpAny_seqItems pI rfl ?_)
  show wpAny _ _ (Builtin.SmallTypes.ownedTupleIsFree (.ref zz) >>= _) _ _ _
  refine wpAny_bind ?_
  unfold Builtin.SmallTypes.ownedTupleIsFree
  refine wpAny_bind (wpAny_field az rfl (x := .none) rfl (wpAny_pure ?_))
  simp only [if_true]
  refine wpAny_bind (wpAny_rule ?_)
  refine wpAny_bind (wpAny_field az rfl (x := .ref TO) rfl ?_)
  refine wpAny_bind (wpAny_setField_rec az (by simp) ?_)
  intro j1 z1 e1
  replace z1 : ZipS j1 zz TI TO .ellipsis := z1
  refine wpAny_bind ?_
  simp only [List.zipIdx_cons, List.zipIdx_nil, List.forIn_cons, List.forIn_nil]
  refine wpAny_bind (wpAny_bind (wpAny_onRaise ?_))
  show wpAny _ _ (Builtin.SmallTypes.nextOrEnd (.ref i1)) _ _ _
  refine noe_end hh (t1.extBut e1.extBut ap.i1z) (u1.extBut e1.extBut ap.l1z) hx ?_
  intro j2 e2
  have z2 : ZipS j2 zz TI TO .ellipsis := e2 _ _ ap.i1z.symm z1
  refine wpAny_bind (wpAny_setField_rec z2 (by simp) ?_)
  intro j3 z3 e3
  refine wpAny_bind (wpAny_bind ?_)
  first
    | (show wpAny _ _ (if 0 > 0 then _ else _) _ _ _
       rw [if_neg (by decide)])
    | (show wpAny _ _ ((if 0 > 0 then _ else _) >>= _) _ _ _
       rw [if_neg (by decide)])
    | wp_step
  have v2 : j3.IsTupleIter i2 l2 k2 := (((t2.extBut e1.extBut ap.i2z).extBut e2 ap.i12.symm).extBut e3.extBut ap.i2z)
  have w2 : j3.IsTuple l2 ys := (((u2.extBut e1.extBut ap.l2z).extBut e2 ap.l2i1).extBut e3.extBut ap.l2z)
  simp only [List.drop_succ_cons, List.drop_zero, List.zipIdx_cons, List.zipIdx_nil, List.forIn'_cons, List.forIn'_nil]
  refine wpAny_bind (wpAny_bind (noe_end hh v2 w2 hy ?_))
  intro j4 e4
  rw [if_neg (by decide)]
  refine wpAny_pure (wpAny_pure (wpAny_bind (wpAny_rule ?_)))
  unfold Builtin.SmallTypes.stopIteration
  show wpAny _ _ (newExc (.type "StopIteration") [] >>= _) _ _ _
  refine wpAny_bind ?_
  simp only [newExc, newTuple]
  refine wpAny_bind (wpAny_newObj_type ?_ (by size_fits))
  refine wpAny_bind (m := firstArgMember _ _) (wpAny_of_eq (a := Value.none) (by first | rfl | (simp only [firstArgMember]; rfl)) ?_)
  refine wpAny_newObj_type ?_ (by size_fits)
  simp only [raiseNew]
  refine wpAny_bind (wpAny_handled ?_)
  first
    | rw [show A.in1.handled = none from hh]
    | rw [hh]
  refine wpAny_bind (wpAny_pure (wpAny_throw ?_))
  refine hE _ _ ?_ ⟨_, Heap.get?_push_size _ rfl, rfl⟩
  intro c o c1 c2 c3 c4 e
  exact Heap.get?_push_of_some _ (Heap.get?_push_of_some _ (e4 _ _ c4 (e3.extBut _ _ c1 (e2 _ _ c3 (e1.extBut _ _ c1 e)))))
theorem pyNextS_item {zz TI TO i1 i2 l1 l2 : Addr} {k1 k2 : Nat} {xs ys : Array Value} {x y a b : Value} {Q : Option Value → Shared → Prop} (ap : ZipApart zz TI TO i1 i2 l1 l2) (az : ZipS s.heap zz TI TO .none) (pI : IsPair s.heap TI (.ref i1) (.ref i2)) (pO : IsPair s.heap TO a b)
    (t1 : s.heap.IsTupleIter i1 l1 k1) (t2 : s.heap.IsTupleIter i2 l2 k2) (u1 : s.heap.IsTuple l1 xs) (u2 : s.heap.IsTuple l2 ys) (hx : xs[k1]? = some x) (hy : ys[k2]? = some y)
    (hQ : ∀ h', ZipS h' zz TI TO (rawInt s.heap.objs.size) → IsPair h' TO x y → h'.IsTupleIter i1 l1 (k1 + 1) → h'.IsTupleIter i2 l2 (k2 + 1) → IsPair h' s.heap.objs.size x y → h'.objs.size = s.heap.objs.size + 1 →
      (∀ c o, c ≠ zz → c ≠ TO → c ≠ i1 → c ≠ i2 → s.heap.get? c = some o → h'.get? c = some o) → Q (some (.ref s.heap.objs.size)) { s with heap := h' }) : wpAny (model prog w) A (pyNext (.ref zz)) Q E s := by
  have ty : s.TypeIs (.ref zz) "zip" := ⟨_, az, rfl⟩
  unfold pyNext
  refine wpAny_bind (wpAny_attempt (wpAny_callSpecial?_slot (name := Str.ofString "__next__") ty F.slot_zip_next (wpAny_call_entry F.slot_zip_next ty F.entry_zip_next (nextS_item ap az pI pO t1 t2 u1 u2 hx hy ?_) (F.args_zip_next_1 _))))
  intro h' a1 a2 a3 a4 a5 a6 a7
  exact wpAny_pure (hQ h' a1 a2 a3 a4 a5 a6 a7)
theorem pyNextS_end {zz TI TO i1 i2 l1 l2 : Addr} {k1 k2 : Nat} {xs ys : Array Value} {a b : Value} {Q : Option Value → Shared → Prop} (hh : A.handled = none) (ap : ZipApart zz TI TO i1 i2 l1 l2) (az : ZipS s.heap zz TI TO .none) (pI : IsPair s.heap TI (.ref i1) (.ref i2)) (pO : IsPair s.heap TO a b)
    (t1 : s.heap.IsTupleIter i1 l1 k1) (t2 : s.heap.IsTupleIter i2 l2 k2) (u1 : s.heap.IsTuple l1 xs) (u2 : s.heap.IsTuple l2 ys) (hx : xs[k1]? = none) (hy : ys[k2]? = none)
    (hQ : ∀ h', (∀ c o, c ≠ zz → c ≠ TO → c ≠ i1 → c ≠ i2 → s.heap.get? c = some o → h'.get? c = some o) → Q none { s with heap := h' }) : wpAny (model prog w) A (pyNext (.ref zz)) Q E s := by
  have ty : s.TypeIs (.ref zz) "zip" := ⟨_, az, rfl⟩
  unfold pyNext
  refine wpAny_bind (wpAny_attempt (wpAny_callSpecial?_slot (name := Str.ofString "__next__") ty F.slot_zip_next (wpAny_call_entry F.slot_zip_next ty F.entry_zip_next (nextS_end hh ap az pI pO t1 t2 u1 u2 hx hy ?_) (F.args_zip_next_1 _))))
  intro h' e hk he
  obtain ⟨o, ho, hc⟩ := he
  refine wpAny_bind (wpAny_isInstance (T := "StopIteration") (b := true) ⟨o, ho, hc⟩ isSubtype_stop ?_)
  exact wpAny_pure (hQ _ hk)
theorem goS {elts : List Expr} {x1 : Nat} {pos : Pos} {zz TI TO T : Addr} {Q : Unit → Shared → Prop} (az : ZipS s.heap zz TI TO (rawInt T)) (hQ : ∀ h', ZipS h' zz TI TO .none → Heap.SameBut zz s.heap h' → Q () { s with heap := h' }) :
    wpAny (model prog w) A (letOwnedTupleGo (.Tuple elts x1 pos) (.ref zz) (.ref T)) Q E s := by
  unfold letOwnedTupleGo
  refine wpAny_bind (wpAny_load az ?_)
  show wpAny _ _ (if (["enumerate", "zip", "dict_itemiterator", "dict_reverseitemiterator", "odict_iterator", "itertools.zip_longest", "itertools.pairwise"].contains "zip" && (#[rawInt T, .bool false, .bool true, .ref TI, .ref TO] : Array Value)[0]? == some (rawInt T)) = true then _ else _) Q E s
  rw [if_pos (by simp)]
  refine wpAny_bind (wpAny_rule ?_)
  show wpAny _ _ (setField (.ref zz) 0 .none) Q E s
  refine wpAny_setField_rec az (by simp) ?_
  intro h' a1 a2
  exact hQ h' a1 a2
theorem iterS {zz TI TO : Addr} {f0 : Value} {Q : Value → Shared → Prop} (az : ZipS s.heap zz TI TO f0) (h : Q (.ref zz) s) : wpAny (model prog w) A (pyIter (.ref zz)) Q E s := by
  have ty : s.TypeIs (.ref zz) "zip" := ⟨_, az, rfl⟩
  refine wpAny_pyIter_slot ty F.slot_zip_iter (wpAny_call_entry F.slot_zip_iter ty F.entry_zip_iter ?_ (F.args_zip_iter_1 _))
  show wpAny _ _ (ret (.ref zz)) _ _ s
  exact wpAny_pure ⟨_, rfl, "zip", _, ty, F.slot_zip_next.lookup, h⟩
/-- the heap behind zip(a, b, strict=True) -/
abbrev hp5 (h : Heap) (l1 l2 : Addr) : Heap := (zipTH4 h l1 l2).push { cls := .type "zip", data := .fields #[.none, .bool false, .bool true, .ref (zipTH2 h l1 l2).objs.size, .ref (zipTH3 h l1 l2).objs.size] }
theorem meetsS (l1 l2 : Addr) (xs ys : Array Value) : Meets (Builtin.«zip.__new__» ⟨[.type "zip", .ref l1, .ref l2], [("strict", .bool true)]⟩) (fun _ R s => s.heap.IsTuple l1 xs ∧ s.heap.IsTuple l2 ys ∧ R (.ok (.ret (.ref (zipTH4 s.heap l1 l2).objs.size))) { s with heap := hp5 s.heap l1 l2 }) := by
  refine .of_wp ?_
  intro prog w A R s h
  obtain ⟨hp, g, d, tk, os⟩ := s
  obtain ⟨hl1, hl2, h⟩ := h
  have sb := sub_zip
  have hL1 : Heap.IsTuple (Shared.heap ⟨hp, g, d, tk, os⟩) l1 xs := hl1
  have hL2 : Heap.IsTuple (Shared.heap ⟨hp.push { cls := .type "tuple_iterator", data := .fields #[.ref l1, .int 0 0] }, g, d, tk, os⟩) l2 ys := Heap.IsTuple.push hl2 _
  wp_walk using wpAny_pyIter_tuple hL1, wpAny_pyIter_tuple hL2
  exact ⟨_, rfl, h⟩
theorem tcS (a b : Value) : checkTypeCall "zip" ⟨[a, b], [("strict", .bool true)]⟩ = pure () := by kernel_rfl
theorem ncS (a b : Value) : checkBuiltinCall "zip.__new__" ⟨[.type "zip", a, b], [("strict", .bool true)]⟩ = pure () := by kernel_rfl
abbrev kwS : List (Str × Value) := [("strict", .bool true)]
theorem argsS (o a b : Value) : argsOk "object.__init__" ⟨[o, a, b], kwS⟩ := by
  unfold argsOk
  rw [signature?_of (id := "object.__init__") (n := ['_', '_', 't', 'i', 'n', 'i', '_', '_']) (o := ['t', 'c', 'e', 'j', 'b', 'o']) (by kernel_rfl) F.owner_object]
  kernel_rfl
theorem initS {self a : Value} {rest : List Value} (hl : typeLookup (.type "zip") "__init__" = pure (some (.builtin "object.__init__"))) (hm : Bind.madeBy (.type "zip") = pure (some "zip.__new__")) :
    Meets (Builtin.«object.__init__» ⟨self :: a :: rest, kwS⟩) (fun _ R s => s.TypeIs self "zip" ∧ R (.ok (.ret .none)) s) := by
  refine Meets.of_wp ?_
  intro prog w A R s hs
  obtain ⟨hT, hq⟩ := hs
  have hne : (some "zip.__new__" != some "object.__new__") = true := by decide
  repeat (any_goals (first
    | assumption
    | wp_step))
  exact ⟨_, rfl, hq⟩
theorem callS {l1 l2 : Addr} {xs ys : Array Value} {Q : Value → Shared → Prop} (u1 : s.heap.IsTuple l1 xs) (u2 : s.heap.IsTuple l2 ys) (h : (⟨hp5 s.heap l1 l2, s.gens, s.drawn, s.toks, s.os⟩ : Shared).TypeIs (.ref (zipTH4 s.heap l1 l2).objs.size) "zip" → Q (.ref (zipTH4 s.heap l1 l2).objs.size) { s with heap := hp5 s.heap l1 l2 }) :
    wpAny (model prog w) A (call (.type "zip") [.ref l1, .ref l2] kwS) Q E s := by
  have ft := F.called_zip
  obtain ⟨c, tl, hmro⟩ := ft.mro
  have hmade := ft.made
  have hsub := ft.sub
  refine wpAny_call (codeAny_of_tree ?_)
  show wpAny _ _ (callAny (.type "zip") _) _ _ _
  refine wpAny_pure ⟨Code.quiet_builtin _ (by decide +kernel), codeAny_builtin F.entry_type_call ?_⟩
  rw [Around.under_plain (weight_type_call_type "zip" [.ref l1, .ref l2] kwS) (units_type_call_type "zip" [.ref l1, .ref l2] kwS)]
  have n1 := ft.notType
  have n2 := ft.canCreate
  have c1 := tcS (.ref l1) (.ref l2)
  repeat (any_goals (first
    | assumption
    | wp_step))
  have tz : (⟨hp5 s.heap l1 l2, s.gens, s.drawn, s.toks, s.os⟩ : Shared).TypeIs (.ref (zipTH4 s.heap l1 l2).objs.size) "zip" := ⟨_, Heap.get?_push_size _ rfl, rfl⟩
  have made := meetsS l1 l2 xs ys prog w A.in1 (wants (fun obj s1 => obj = .ref (zipTH4 s.heap l1 l2).objs.size ∧ s1 = { s with heap := hp5 s.heap l1 l2 }) E) s ⟨u1, u2, ⟨rfl, rfl⟩⟩
  refine codeAny_mono (codeAny_call_builtin ft.plain F.entry_zip_new (wpAny_of_eq (ncS (.ref l1) (.ref l2)) made)) ?_
  intro r s1 hr
  cases r with
  | error e => exact hr
  | ok fl =>
    cases fl with
    | ret obj =>
      obtain ⟨rfl, rfl⟩ := hr
      have lk := ft.init.lookup
      have bd := ft.init.bind (.ref (zipTH4 s.heap l1 l2).objs.size)
      repeat (any_goals (first
        | assumption
        | wp_step))
      refine codeAny_mono (codeAny_call_builtin ft.init.plain F.entry_object_init (ft.init.check _ _ _ _ _ _ _ _ tz (argsS _ _ _) (initS lk hmade prog w A.in1 (wants (fun r s2 => r = .none ∧ s2 = { s with heap := hp5 s.heap l1 l2 }) E) _ ⟨tz, ⟨rfl, rfl⟩⟩))) ?_
      intro r2 s2 hr2
      cases r2 with
      | error e => exact hr2
      | ok fl2 =>
        cases fl2 with
        | ret r =>
          obtain ⟨rfl, rfl⟩ := hr2
          have hq := h tz
          repeat (any_goals (first
            | assumption
            | wp_step))
        | _ => exact hr2.elim
    | _ => exact hr.elim
end
end DLZ
namespace DLZ
open PySem PySem.Spec PyProof.Rows L2 RZ
/-- as ItzT; they end together -/
def ItzS (K : PySem.W.Frag) (a b : Addr) : It :=
  ⟨(ItzT K a b).go, (ItzT K a b).yld, fun i H => ∃ xs ys : List V, SqT K H a xs ∧ SqT K H b ys ∧ xs.length ≤ i ∧ ys.length ≤ i⟩
theorem turnS {P : Program} {w : World} {K : PySem.W.Frag} {elts : List Expr} {kk : Nat} {tpos : Pos} {a b zz TI TO i1 i2 : Addr} (ap : ZipApart zz TI TO i1 i2 a b) :
    Turn P w K (.Tuple elts kk tpos) (ItzS K a b) [zz, TI, TO, i1, i2] zz (fun i h => ZipS h zz TI TO .none ∧ IsPair h TI (.ref i1) (.ref i2) ∧ (∃ x y, IsPair h TO x y) ∧ h.IsTupleIter i1 a i ∧ h.IsTupleIter i2 b i) where
  mem := by simp
  obj := by
    rintro i h ⟨az, pI, ⟨x, y, pO⟩, ⟨o1, e1, _, d1⟩, ⟨o2, e2, _, d2⟩⟩ c hc
    simp only [List.mem_cons, List.not_mem_nil, or_false] at hc
    rcases hc with rfl | rfl | rfl | rfl | rfl
    · exact ⟨_, az, fun v q => nomatch q⟩
    · exact ⟨_, pI, fun v q => nomatch q⟩
    · exact ⟨_, pO, fun v q => nomatch q⟩
    · exact ⟨o1, e1, fun v q => by rw [d1] at q; cases q⟩
    · exact ⟨o2, e2, fun v q => by rw [d2] at q; cases q⟩
  keep := by
    rintro i h h' ⟨az, pI, ⟨x, y, pO⟩, v1, v2⟩ k
    exact ⟨k zz (by simp) _ az, k TI (by simp) _ pI, ⟨x, y, k TO (by simp) _ pO⟩, v1.at fun o q => k i1 (by simp) o q, v2.at fun o q => k i2 (by simp) o q⟩
  item := by
    intro X hP hw hK hc i pins s σ H E I hf st hg
    subst hP hw hK
    obtain ⟨az, pI, ⟨x0, y0, pO⟩, v1, v2⟩ := st
    obtain ⟨xs, ys, x, y, hqx, hqy, hx, hy⟩ := hg
    obtain ⟨its, rv, p, _⟩ := I.tuple hqx
    obtain ⟨its2, rv2, p2, _⟩ := I.tuple hqy
    obtain ⟨u, hu, ru⟩ := rv.get hx
    obtain ⟨u2, hu2, ru2⟩ := rv2.get hy
    have zl : zz < s.heap.objs.size := Heap.lt_size az
    refine pyNextS_item ap az pI pO v1 v2 p p2 (x := u) (y := u2) (by simpa using hu) (by simpa using hu2) ?_
    intro h' z' TO' h1' h2' hT hsz hk
    refine ⟨_, rfl, goS (s := { s with heap := h' }) z' ?_⟩
    intro h'' z'' sb
    have T2 : h''.get? s.heap.objs.size = some { cls := .type "tuple", data := .seq #[u, u2] } := (sb.2 _ (Nat.ne_of_gt zl)).trans hT
    have new : ObjOk X.prog X.w (upd H s.heap.objs.size (.tup [x, y])) h'' s.heap.objs.size (.tup [x, y]) := ⟨by show 2 ≤ sizeLine; decide, [u, u2], .cons ru (.cons ru2 .nil), ⟨_, T2, rfl, _, rfl⟩⟩
    have I1 : Inv X pins σ (upd H s.heap.objs.size (.tup [x, y])) { s with heap := h'' } := I.turnedNew (t' := s.toks) (ch := [zz, TI, TO, i1, i2])
      (fun c o hb q => (sb.2 c (fun q' => hb (by simp [q']))).trans (hk c o (fun q' => hb (by simp [q'])) (fun q' => hb (by simp [q'])) (fun q' => hb (by simp [q'])) (fun q' => hb (by simp [q'])) q)) hf (Nat.le_refl _) new
    refine ⟨.ref s.heap.objs.size, _, I1, rfl, ⟨_, x, y, rfl, I.hok.fresh (Nat.le_refl _), rfl, fun l hl => by rw [I.tuple_inj hl hqx]; exact hx, fun l hl => by rw [I.tuple_inj hl hqy]; exact hy⟩, ⟨z'', ?_, ⟨u, u2, ?_⟩, ?_, ?_⟩, ?_⟩
    · exact (sb.2 _ ap.TIz).trans (hk _ _ ap.TIz ap.TITO ap.TIi1 ap.TIi2 pI)
    · exact (sb.2 _ ap.TOz).trans TO'
    · exact h1'.at fun o q => (sb.2 _ ap.i1z).trans q
    · exact h2'.at fun o q => (sb.2 _ ap.i2z).trans q
    · intro c hcm
      have lt : c < s.heap.objs.size := by
        have hc := hcm
        simp only [List.mem_cons, List.not_mem_nil, or_false] at hc
        rcases hc with rfl | rfl | rfl | rfl | rfl
        · exact zl
        · exact Heap.lt_size pI
        · exact Heap.lt_size pO
        · obtain ⟨_, e1, _⟩ := v1; exact Heap.lt_size e1
        · obtain ⟨_, e2, _⟩ := v2; exact Heap.lt_size e2
      rw [upd_ne (Nat.ne_of_lt lt)]
      exact (hf c hcm).1
  done := by
    intro X hP hw hK hc i pins s σ H E I hf st hg
    subst hP hw hK
    obtain ⟨az, pI, ⟨x0, y0, pO⟩, v1, v2⟩ := st
    obtain ⟨xs, ys, hqx, hqy, g1, g2⟩ := hg
    obtain ⟨its, rv, p, _⟩ := I.tuple hqx
    obtain ⟨its2, rv2, p2, _⟩ := I.tuple hqy
    have l1 := rv.length
    have l2 := rv2.length
    refine pyNextS_end (I.ok.hd hc) ap az pI pO v1 v2 p p2 (by simp; omega) (by simp; omega) ?_
    intro h' hk
    exact ⟨rfl, I.turnedL (t' := s.toks) (ch := [zz, TI, TO, i1, i2]) (fun c o hb q => hk c o (fun q' => hb (by simp [q'])) (fun q' => hb (by simp [q'])) (fun q' => hb (by simp [q'])) (fun q' => hb (by simp [q'])) q) hf⟩
  self := fun A i s Q E st h => iterS st.1 h
end DLZ
namespace DLZ
open PySem PySem.Spec PyProof.Rows L2 RZ
theorem cwType {M : Model} {A : Around} {E : Value → Shared → Prop} {s : Shared} {pos : Pos} {T : String} {first : List Value} {args : List (Bool × Sem Value)} {kws : List (Option Str × Sem Value)} {Q : Value → Shared → Prop} (hpl : args.any (·.1) = false) (hnone : kws.any (·.1.isNone) = false)
    (h : wpAny M A (evalArgs (.type T) true args kws) (fun a s1 => wpAny M A (call (.type T) (first ++ a.pos) a.kw) Q E s1) E s) : wpAny M A (callWith pos (.type T) first args kws) Q E s := by
  unfold callWith
  refine wpAny_bind (wpAny_holding (wpAny_mono h ?_ fun _ _ x => x))
  intro a s1 h1
  refine wpAny_bind (wpAny_standAt ?_)
  simp only [hpl, hnone, Bool.or_false]
  refine wpAny_bind (wpAny_pure ?_)
  refine wpAny_bind (wpAny_mono h1 ?_ fun _ _ x => x)
  intro r s2 hr
  exact wpAny_bind (wpAny_holding (wpAny_point (wpAny_pure hr)))
theorem hp5_at (h : Heap) (l1 l2 : Addr) : (zipTH4 h l1 l2).objs.size = h.objs.size + 4 ∧ ZipS (hp5 h l1 l2) (h.objs.size + 4) (h.objs.size + 2) (h.objs.size + 3) .none ∧ IsPair (hp5 h l1 l2) (h.objs.size + 2) (.ref h.objs.size) (.ref (h.objs.size + 1)) ∧ IsPair (hp5 h l1 l2) (h.objs.size + 3) .none .none ∧
    (hp5 h l1 l2).IsTupleIter h.objs.size l1 0 ∧ (hp5 h l1 l2).IsTupleIter (h.objs.size + 1) l2 0 ∧ ∀ c o, h.get? c = some o → (hp5 h l1 l2).get? c = some o := by
  have z1 : (zipTH1 h l1).objs.size = h.objs.size + 1 := Heap.size_push ..
  have z2 : (zipTH2 h l1 l2).objs.size = h.objs.size + 2 := by rw [Heap.size_push, z1]
  have z3 : (zipTH3 h l1 l2).objs.size = h.objs.size + 3 := by rw [Heap.size_push, z2]
  have z4 : (zipTH4 h l1 l2).objs.size = h.objs.size + 4 := by rw [Heap.size_push, z3]
  have g5 : (hp5 h l1 l2).get? (zipTH4 h l1 l2).objs.size = some _ := Heap.get?_push_size _ rfl
  have g4 : (hp5 h l1 l2).get? (zipTH3 h l1 l2).objs.size = some _ := Heap.get?_push_of_some _ (Heap.get?_push_size _ rfl)
  have g3 : (hp5 h l1 l2).get? (zipTH2 h l1 l2).objs.size = some _ := Heap.get?_push_of_some _ (Heap.get?_push_of_some _ (Heap.get?_push_size _ rfl))
  have g2 : (hp5 h l1 l2).get? (zipTH1 h l1).objs.size = some _ := Heap.get?_push_of_some _ (Heap.get?_push_of_some _ (Heap.get?_push_of_some _ (Heap.get?_push_size _ rfl)))
  have g1 : (hp5 h l1 l2).get? h.objs.size = some _ := Heap.get?_push_of_some _ (Heap.get?_push_of_some _ (Heap.get?_push_of_some _ (Heap.get?_push_of_some _ (Heap.get?_push_size _ rfl))))
  rw [z2, z3, z4] at g5
  rw [z3] at g4
  rw [z1, z2] at g3
  rw [z1] at g2
  refine ⟨z4, g5, g3, g4, ⟨_, g1, rfl, rfl⟩, ⟨_, g2, rfl, rfl⟩, ?_⟩
  intro c o e
  exact Heap.get?_push_of_some _ (Heap.get?_push_of_some _ (Heap.get?_push_of_some _ (Heap.get?_push_of_some _ (Heap.get?_push_of_some _ e))))
def iZipS (K : PySem.W.Frag) (ta tk : TA) : TI := fun σ H R => ta σ H fun vs H1 => tk σ H1 fun zs H2 => ∃ a b xs ys, vs = [.ref a, .ref b] ∧ zs = [.bl true] ∧ SqT K H2 a xs ∧ SqT K H2 b ys ∧ R (ItzS K a b) H2
theorem pi_zipS {X : Cx} {e e2 : Expr} {kws : List Keyword} {ta tk : TA} {p pos tpos : Pos} {elts : List Expr} {kk : Nat} (hg : Gl X "zip") (hm : X.mg "zip" = none) (ha : PA X [e, e2] ta) (hk : PK X kws tk)
    (hs : backTo pos (starEach [e, e2] X.env) = (false, eval e X.env) :: backTo pos (starEach [e2] X.env) := by rfl) (hpl : (backTo pos (starEach [e, e2] X.env)).any (·.1) = false := by rfl)
    (hall : (backToKw pos (keywordEach kws X.env)).all (·.1.isSome) = true := by rfl) (hnone : (backToKw pos (keywordEach kws X.env)).any (·.1.isNone) = false := by rfl) (hks : (backToKw pos (keywordEach kws X.env)).filterMap (·.1) = (["strict"] : List Str) := by rfl) :
    PI X (.Tuple elts kk tpos) (.Call (.Name "zip" p) [e, e2] kws pos) (iZipS X.K ta tk) := by
  refine ⟨fun pins s σ H R I h => ?_⟩
  refine wpAny_Call_Name_kw (ld_blt I hg hm PyProof.Rows.boot_zip ?_)
  refine cwType hpl hnone ?_
  rw [hs]
  refine evalArgs_kw hall ?_
  rw [← hs]
  refine thn (ha.run pos pins s σ H _ I h) ?_
  intro us s1 z1
  obtain ⟨vs, H1, I1, r1, q1⟩ := z1
  refine thn (hk.run pos pins s1 σ H1 _ I1 q1) ?_
  intro ws s2 z2
  obtain ⟨zs, H2, I2, r2, a, b, xs, ys, rfl, rfl, hqx, hqy, q⟩ := z2
  rw [hks]
  cases r1 with
  | cons ra rr =>
    cases rr with
    | cons rb rr =>
      cases rr
      cases ra
      cases rb
      cases r2 with
      | cons rt rr =>
        cases rr
        cases rt
        have fresh5 : ∀ c, c ∈ [s2.heap.objs.size + 4, s2.heap.objs.size + 2, s2.heap.objs.size + 3, s2.heap.objs.size, s2.heap.objs.size + 1] → FpOk X pins H2 c := by
          intro c hcm
          have hle : s2.heap.objs.size ≤ c := by
            simp only [List.mem_cons, List.not_mem_nil, or_false] at hcm
            omega
          exact I2.fpOk hle (I2.hok.fresh hle)
        obtain ⟨its, rv, p1, _⟩ := I2.tuple hqx
        obtain ⟨its2, rv2, p2, _⟩ := I2.tuple hqy
        obtain ⟨o1, ho1, _⟩ := id p1
        obtain ⟨o2, ho2, _⟩ := id p2
        refine callS (show s2.heap.IsTuple a its.toArray from p1) (show s2.heap.IsTuple b its2.toArray from p2) ?_
        intro tz
        obtain ⟨f0, f1, f2, f3, f4, f5, f6⟩ := hp5_at s2.heap a b
        rw [f0]
        refine iterS f1 ?_
        have I3 : Inv X pins σ H2 { s2 with heap := hp5 s2.heap a b } := I2.kept (t' := s2.toks) f6
        exact ⟨s2.heap.objs.size + 4, [s2.heap.objs.size + 4, s2.heap.objs.size + 2, s2.heap.objs.size + 3, s2.heap.objs.size, s2.heap.objs.size + 1], _, _, H2, rfl, I3, turnS (PySem.W.ktu_apart s2.heap.objs.size a b (Heap.lt_size ho1) (Heap.lt_size ho2)), ⟨f1, f2, ⟨_, _, f3⟩, f4, f5⟩, fresh5, q⟩
end DLZ
/-! DNa: zip(a, b, strict=True) over data; makings by keywords that may raise. -/
namespace DL
open PySem PySem.Spec PyProof.Rows L2
open DLZ (ItzS iZipS pi_zipS)
section
variable {X : Cx} {a b : Expr} {ts : List Expr} {kws : List Keyword} {env : DEnv} {C : CS} {kI : KI} {pos p tpos : Pos} {n m : Nat} {P : Program} {w : World} {K : PySem.W.Frag} {mg : Str → Option Value} {base : Heap}
end
section
variable {X : Cx} {n np : Nat} {fa Ca : Addr} {fd : FuncData} {ps ks : List Str} {sp : Sp} {W : WX} {x : Str} {pos p : Pos} {kws : List Keyword} {tk : TA} {g : List Value → List Value → List Value} {gV : List V → List V → List V}
end
section
variable {P : Program} {w : World} {K : PySem.W.Frag} {mg : Str → Option Value} {base : Heap} {j n : Nat} {X : Cx} {A : Anc} {Cl : Addr} {x : Str} {S : DSpX} {gD : List D → List D → List D} {ks : List Str} {kws : List Keyword} {env : DEnv} {C : CS} {k : KD} {kx : DEnv → KX} {pos p : Pos}
end
end DL
/-! DNb: a tuple many times over. -/
namespace DL
open PySem PySem.Spec PyProof.Rows L2
end DL
/-! DNc: dicts: or by truth, dict(d), d.get(k), comprehensions over a dict that is empty. -/
namespace DL
open PySem PySem.Spec PyProof.Rows L2
section
variable {X : Cx} {a b e o : Expr} {es rest : List Expr} {env : DEnv} {C : CS} {k : KD} {pos p apos cpos : Pos} {K : PySem.W.Frag}
end
section
variable {P : Program} {w : World} {K : PySem.W.Frag} {mg : Str → Option Value} {base : Heap} {j n : Nat} {X : Cx} {a b e o : Expr} {es : List Expr} {env : DEnv} {C : CS} {k : KD} {pos p apos cpos : Pos}
end
/-! comprehensions over a dict that is empty -/
section
variable {X : Cx} {kx vx elt tg iter : Expr} {ifs : List Expr} {scope : Scope} {own : List (Str × Nat)} {env : DEnv} {C : CS} {k : KD} {pos : Pos} {p : Addr}
end
section
variable {X : Cx} {kx vx elt iter : Expr} {scope dsc : Scope} {env : DEnv} {C : CS} {k : KD} {pos px : Pos} {p : Addr} {N : List Str} {x : Str} {ifs : List Expr}
end
end DL
/-! DNd: d.get(k) where the keys of d are texts and k is something else. -/
namespace DLO
open PySem PySem.SeqAt
section
variable {prog : Program} {w : World} {A : Around} {E : Value → Shared → Prop} {s : Shared}
/-- a key that is no text -/
structure OddK (s : Shared) (A : Around) (k : NestedKey) (v : Value) : Prop where
  is : NestedIs s.heap k v
  ne : ∀ x, k ≠ .text x
  dp : k.depth ≤ 8
  hu : A.units + k.depth < cLine
theorem odd_eq {k : NestedKey} {v : Value} {x : Str} {t : Tok} {Q : Bool → Shared → Prop} (O : OddK s A k v) (h : Q false s) : wpAny (model prog w) A (eqBool (.str x t) v) Q E s := by
  refine eqAt_key (.text x) k A s _ v (.text x t) O.is ?_ prog w E Q ?_
  · have := O.hu
    show A.units + min 0 k.depth < cLine
    omega
  · have : NestedKey.beq (.text x) k = false := by
      cases hk : k with
      | text y => exact absurd hk (O.ne y)
      | _ => rfl
    rw [this]
    exact h
abbrev Texts (es : Array DictEntry) : Prop := ∀ e ∈ es, ∃ x t, e.key = Value.str x t
theorem odd_plain {d : Addr} {o : Obj} {es : Array DictEntry} {ep : Nat} {k : NestedKey} {v : Value} {hs : Int} {ps : List Nat} {Q : Option Nat → Shared → Prop} (ho : s.heap.get? d = some o) (hd : o.data = .dict es ep) (hes : Texts es) (O : OddK s A k v) (h : Q none s) :
    wpAny (model prog w) A (dictWalkPlain d v hs es ps) Q E s := by
  unfold dictWalkPlain
  refine wpAny_bind ?_
  refine wpAny_forIn_list _ (fun _ b s' => s' = s ∧ b = (none, ())) _ ?_ ?_ _ _ ⟨rfl, rfl⟩
  · rintro x rest b s' ⟨rfl, rfl⟩
    cases hx : es[x]? with
    | none => exact wpAny_pure ⟨rfl, rfl⟩
    | some e =>
      obtain ⟨y, t, hy⟩ := hes e (Array.mem_of_getElem? hx)
      dsimp only
      by_cases hh : (e.hash == hs) = true
      · rw [if_pos hh, hy]
        refine wpAny_bind (wpAny_dictEpoch ho hd (wpAny_bind (odd_eq O (wpAny_bind (wpAny_dictEpoch ho hd ?_)))))
        show wpAny _ _ (if (ep != ep) = true then _ else _) _ E _
        rw [if_neg (by simp)]
        exact wpAny_bind (wpAny_rule (wpAny_pure ⟨rfl, rfl⟩))
      · rw [if_neg hh]
        exact wpAny_pure ⟨rfl, rfl⟩
  · rintro b s' ⟨rfl, rfl⟩
    exact wpAny_pure h
theorem odd_tell {k : NestedKey} {v : Value} {stored : List Value} {Q : Bool → Shared → Prop} (O : OddK s A k v) (hst : ∀ u ∈ stored, carriedByValue u = true) (h : Q false s) : wpAny (model prog w) A (tableMayTell v stored) Q E s := by
  unfold tableMayTell
  split
  · exact wpAny_pure h
  · refine wpAny_bind (quiet_key k v 8 s O.is O.dp A E _ ?_)
    simp only [Bool.not_true, Bool.false_eq_true, if_false]
    refine wpAny_bind ?_
    refine wpAny_forIn_list _ (fun rest r s' => s' = s ∧ r = (none, ()) ∧ ∀ u ∈ rest, carriedByValue u = true) _ ?_ ?_ _ _ ⟨rfl, rfl, hst⟩
    · rintro x rest r s' ⟨rfl, rfl, hr⟩
      refine wpAny_bind (QuietAt.byValue (hr x List.mem_cons_self) A E _ ?_)
      simp only [Bool.not_true, Bool.false_eq_true, if_false]
      exact wpAny_pure ⟨rfl, rfl, fun u hu => hr u (List.mem_cons_of_mem _ hu)⟩
    · rintro r s' ⟨rfl, rfl, _⟩
      exact wpAny_pure h
theorem odd_find {d : Addr} {o : Obj} {es : Array DictEntry} {ep : Nat} {k : NestedKey} {v : Value} {hs : Int} {Q : Option Nat → Shared → Prop} (ho : s.heap.get? d = some o) (hd : o.data = .dict es ep) (hes : Texts es) (O : OddK s A k v) (h : Q none s) :
    wpAny (model prog w) A (dictFind d v hs) Q E s := by
  have hby : ∀ u ∈ (placesWithHash es.size (fun i => es[i]?.map (·.hash)) hs).filterMap (fun i => es[i]?.map (·.key)), carriedByValue u = true := by
    intro u hu
    obtain ⟨i, _, hi⟩ := List.mem_filterMap.mp hu
    cases hei : es[i]? with
    | none => rw [hei] at hi; cases hi
    | some e =>
      rw [hei] at hi
      obtain rfl : e.key = u := by simpa using hi
      obtain ⟨y, t, hy⟩ := hes e (Array.mem_of_getElem? hei)
      rw [hy]; rfl
  have hnr : ∀ a, ∀ u ∈ (placesWithHash es.size (fun i => es[i]?.map (·.hash)) hs).filterMap (fun i => es[i]?.map (·.key)), u ≠ .ref a := by
    intro a u hu e
    have := hby u hu
    rw [e] at this
    cases this
  unfold dictFind
  try with_reducible refine wpAny_holding ?_
  refine wpAny_bind (wpAny_dictEntries ho hd ?_)
  obtain ⟨is, ne, dp, hu⟩ := id O
  cases is with
  | text x t => exact absurd rfl (ne x)
  | none =>
    dsimp only
    rw [if_pos (by rw [List.all_cons, List.all_eq_true.mpr hby]; rfl)]
    exact odd_plain ho hd hes O h
  | bool hb =>
    dsimp only
    rw [if_pos (by rw [List.all_cons, List.all_eq_true.mpr hby]; rfl)]
    exact odd_plain ho hd hes O h
  | int i t =>
    dsimp only
    rw [if_pos (by rw [List.all_cons, List.all_eq_true.mpr hby]; rfl)]
    exact odd_plain ho hd hes O h
  | @tup a o' vs n ks h1 h2 h3 h4 =>
    dsimp only
    rw [if_neg (show ¬ ((Value.ref a :: (placesWithHash es.size (fun i => es[i]?.map (·.hash)) hs).filterMap (fun i => es[i]?.map (·.key))).all carriedByValue) = true by simp [carriedByValue])]
    have hany : ¬ (es.any fun e => e.key == Value.ref a && e.hash != hs) = true := by
      rw [← Array.any_toList, List.any_eq_true]
      rintro ⟨e, hin, hc⟩
      obtain ⟨y, t, hy⟩ := hes e (Array.mem_toList_iff.mp hin)
      rw [hy] at hc
      simp at hc
    rw [if_neg hany]
    have hone : ¬ (((placesWithHash es.size (fun i => es[i]?.map (·.hash)) hs).filterMap (fun i => es[i]?.map (·.key))) == [Value.ref a]) = true := by
      intro e
      rw [beq_iff_eq] at e
      exact hnr a (.ref a) (by rw [e]; exact List.mem_singleton.mpr rfl) rfl
    rw [if_neg hone]
    refine wpAny_bind (odd_tell O hby ?_)
    rw [if_neg (by simp)]
    refine wpAny_bind ?_
    refine wpAny_forIn_list _ (fun _ b s' => s' = s ∧ b = (none, none)) _ ?_ ?_ _ _ ⟨rfl, rfl⟩
    · rintro x rest b s' ⟨rfl, rfl⟩
      cases hx : es[x]? with
      | none => exact wpAny_pure ⟨rfl, rfl⟩
      | some e =>
        obtain ⟨y, t, hy⟩ := hes e (Array.mem_of_getElem? hx)
        dsimp only
        by_cases hh : (e.hash == hs) = true
        · rw [if_pos hh, hy]
          refine wpAny_bind (wpAny_dictEpoch ho hd (wpAny_bind (odd_eq O (wpAny_bind (wpAny_dictEpoch ho hd ?_)))))
          show wpAny _ _ (if (ep != ep) = true then _ else _) _ E _
          rw [if_neg (by simp)]
          simp only [Bool.false_eq_true, if_false]
          refine wpAny_bind (wpAny_rule ?_)
          first | rw [if_neg (by simp)] | skip
          first
            | exact wpAny_pure ⟨rfl, rfl⟩
            | exact wpAny_bind (wpAny_pure (wpAny_pure ⟨rfl, rfl⟩))
        · rw [if_neg hh]
          exact wpAny_pure ⟨rfl, rfl⟩
    · rintro b s' ⟨rfl, rfl⟩
      exact wpAny_pure h
theorem odd_get {d : Addr} {o : Obj} {es : Array DictEntry} {ep : Nat} {k : NestedKey} {v : Value} {Q : Option Value → Shared → Prop} (ho : s.heap.get? d = some o) (hd : o.data = .dict es ep) (hes : Texts es) (O : OddK s A k v) (h : Q none { s with toks := s.toks + k.draws }) :
    wpAny (model prog w) A (dictGet d v) Q E s := by
  unfold dictGet
  try with_reducible refine wpAny_holding ?_
  refine wpAny_bind (pyHash_key k v A s _ O.is O.hu ?_)
  refine wpAny_bind (odd_find (s := { s with toks := s.toks + k.draws }) ho hd hes ⟨O.is, O.ne, O.dp, O.hu⟩ ?_)
  exact wpAny_pure h
end
end DLO
namespace DLO
open PySem PySem.Spec PyProof.Rows L2
/-- what is no text -/
def OddV (K : PySem.W.Frag) (H : Hp) (y : V) : Prop := (∃ b, y = .bl b) ∨ (∃ i, y = .int i) ∨ ∃ (b : Addr) (xs : List Str), y = .ref b ∧ SqT K H b (xs.map V.str)
theorem nested_strs {h : Heap} : ∀ {xs : List Str} {us : List Value}, Vals (xs.map V.str) us → NestedAll h (xs.map NestedKey.text) us
  | [], us, r => by cases r; exact .nil
  | x :: xs, us, r => by
    cases r with
    | cons r1 r2 =>
      obtain ⟨t, rfl⟩ := r1
      exact .cons (.text x t) (nested_strs r2)
theorem depth_texts : ∀ xs : List Str, NestedKey.depthAll (xs.map NestedKey.text) = 0
  | [] => rfl
  | x :: xs => by
    show max (NestedKey.depth (.text x)) (NestedKey.depthAll (xs.map NestedKey.text)) = 0
    rw [depth_texts xs]
    rfl
section
variable {X : Cx} {pins : List (Addr × Obj)} {σ : L2.St} {H : Hp} {s : Shared} {a : Addr} {y : V} {u : Value} {A : Around} {E : Value → Shared → Prop}
theorem odd_of (I : Inv X pins σ H s) (hy : OddV X.K H y) (r : RelV y u) (hu : A.units + 1 < cLine) : ∃ k, OddK s A k u := by
  rcases hy with ⟨b, rfl⟩ | ⟨i, rfl⟩ | ⟨b, xs, rfl, hT⟩
  · obtain rfl : u = .bool b := r
    exact ⟨.num (if b = true then 1 else 0), .bool rfl, (fun _ e => nomatch e), by show 0 ≤ 8; decide, by show A.units + 0 < cLine; omega⟩
  · obtain ⟨t, rfl⟩ := r
    exact ⟨.num i, .int i t, (fun _ e => nomatch e), by show 0 ≤ 8; decide, by show A.units + 0 < cLine; omega⟩
  · obtain rfl : u = .ref b := r
    obtain ⟨its, rv, ⟨⟨cls, dd, data, sl⟩, ho, hc, n, hd⟩, hs⟩ := I.tuple hT
    refine ⟨.tup (xs.map NestedKey.text), .tup ho hc hd (by simpa using nested_strs rv), (fun _ e => nomatch e), ?_, ?_⟩
    · show NestedKey.depthAll _ + 1 ≤ 8
      rw [depth_texts]; decide
    · show A.units + (NestedKey.depthAll _ + 1) < cLine
      rw [depth_texts]; exact hu
theorem texts_of {prog : Program} {w : World} : ∀ {kvs : List (Key × V)} {vs : List (Key × Value)} {es : List DictEntry}, KV kvs vs → (∀ e ∈ kvs, ∃ x, e.1 = Sum.inr x) → Pairs (mixKind prog w) es vs → ∀ e ∈ es, ∃ x t, e.key = Value.str x t
  | _, _, _, .nil, _, .nil, e, he => by simp at he
  | _, _, _, .cons h1 h2, hx, .cons p1 p2 p3, e, he => by
    rcases List.mem_cons.mp he with rfl | he
    · obtain ⟨x, hx1⟩ := hx _ List.mem_cons_self
      rcases keyIs_shape p1 with ⟨i, t, e1, e2⟩ | ⟨y, t, e1, e2⟩
      · rw [h1.1] at hx1
        rw [hx1] at e1
        cases e1
      · exact ⟨y, t, e2⟩
    · exact texts_of h2 (fun e he => hx e (List.mem_cons_of_mem _ he)) p3 e he
theorem d_getO {kvs : List (Key × V)} {Q : Value → Shared → Prop} (hu : A.units + 2 < cLine) (I : Inv X pins σ H s) (e : Rd H a (.dK kvs)) (hx : ∀ kv ∈ kvs, ∃ x, kv.1 = Sum.inr x) (hy : OddV X.K H y) (ry : RelV y u) (h : ∀ s', Inv X pins σ H s' → Q .none s') :
    wpAny (model X.prog X.w) A (call (.builtin "dict.get") [.ref a, u]) Q E s := by
  obtain ⟨z, hd, vs, rel, dd⟩ := dk_rd I.hok e
  obtain ⟨k, O⟩ := odd_of (A := A.in1) I hy ry (by show A.units + 1 + 1 < cLine; exact hu)
  have dd' := dd
  obtain ⟨o, es, ep, h1, h2, h3, h4, h5, h6⟩ := dd'
  have ht : Texts es := fun e he => texts_of rel hx h5 e (Array.mem_toList_iff.mpr he)
  refine call_meetsIn PySem.F.slot_dict_get dd.typeIs PySem.F.entry_dict_get (PySem.F.args_dict_get_2 _ _) (S := fun A' R s' => A' = A ∧ s' = s ∧ R (.ok (.ret .none)) { s with toks := s.toks + k.draws }) ?_ ⟨rfl, rfl, h _ (I.tok _)⟩
  refine .of_wp fun A' R s' hh => ?_
  obtain ⟨rfl, rfl, hR⟩ := hh
  show wpAny _ _ (dictGet a u >>= _) _ _ s'
  refine wpAny_bind (odd_get h1 h3 ht O ?_)
  show wpAny _ _ (Builtin.Dict.missed a u >>= _) _ _ _
  exact wpAny_bind (wpAny_missed_other hd (wpAny_pure ⟨.none, rfl, hR⟩))
end
def tDGetO (K : PySem.W.Frag) (td ty : TE) : TE := fun σ H Q => td σ H fun x H1 => ∃ a, x = .ref a ∧ IsD H1 a ∧ ty σ H1 fun y H2 => ∃ kvs, Rd H2 a (.dK kvs) ∧ (∀ kv ∈ kvs, ∃ x, kv.1 = Sum.inr x) ∧ OddV K H2 y ∧ Q .non H2
theorem pe_dgetO {X : Cx} {o e : Expr} {apos cpos : Pos} {td ty : TE} (hu : X.A.units + 2 < cLine) (ho : PE X o td) (he : PE X e ty) (m : M1 X o "get" apos e cpos) : PE X (.Call (.Attribute o "get" apos) [e] [] cpos) (tDGetO X.K td ty) := by
  refine ⟨fun pins s σ H Q I h => ?_⟩
  refine wpAny_Call_method m.base m.few m.line PySem.F.plainAttrs_dict PySem.F.slot_dict_get PySem.F.type_dict_get (thn (ho.run pins s σ H _ I h) fun u s1 ⟨x, H1, I1, rx, a, ex, d, q1⟩ => ?_)
  subst ex
  obtain rfl : u = Value.ref a := rx
  obtain ⟨t1, t2, _⟩ := isD_at I1 d
  refine ⟨t1, t2, ?_⟩
  rw [m.trees]
  refine Calls.callWith_builtin rfl (Calls.evalArgs_plain (Calls.spliced_cons (thn (he.run pins s1 σ H1 _ I1 q1) fun iv s2 ⟨y, H2, I2, ry, kvs, g, hx, hy, q2⟩ => Calls.spliced_nil ?_)))
  exact d_getO hu I2 g hx hy ry fun s3 I3 => ⟨.non, H2, I3, rfl, q2⟩
end DLO
namespace DL
open PySem PySem.Spec PyProof.Rows L2
open DLO (OddV pe_dgetO)
end DL
/-! DNe: makings that may raise, by places; a def that may raise where it does not. -/
namespace DL
open PySem PySem.Spec PyProof.Rows L2
section
variable {X : Cx} {n : Nat} {fa Ca : Addr} {fd : FuncData} {ps : List Str} {sp : Sp} {W : WX} {x : Str} {pos p : Pos} {e : Expr} {es : List Expr} {t : TA} {ds : List Value} {dvs : List V}
end
section
variable {P : Program} {w : World} {K : PySem.W.Frag} {mg : Str → Option Value} {base : Heap} {j n : Nat} {X : Cx} {A : Anc} {Cl : Addr} {x : Str} {S : DSpX} {dfl : List D} {e : Expr} {es : List Expr} {env : DEnv} {C : CS} {k : KD} {kx : DEnv → KX} {pos p : Pos}
end
end DL
namespace L2
open PySem PySem.Spec PyProof.Rows
section
variable {X : Cx}
end
end L2
namespace DL
open PySem PySem.Spec PyProof.Rows L2
section
variable {P : Program} {w : World} {K : PySem.W.Frag} {mg : Str → Option Value} {base : Heap} {j : Nat} {X : Cx} {a b : Expr} {env : DEnv} {C : CS} {k : KD} {kb : Bool → CS → Prop} {pos : Pos}
end
end DL
/-! DNg: a def with positional defaults, one of them None, that may raise. -/
namespace DL
open PySem PySem.Spec PyProof.Rows L2
/-- a def, whatever its defaults -/
structure FunW (K : PySem.W.Frag) (x qual : Str) (st : Stmt) (f : Addr) (fd : FuncData) : Prop where
  ex : ∃ (oc : Value) (od : Option Addr) (dV kV doc pm : Value) (an : Option Addr) (cdv ct : Value) (osl : Array (Option Value)),
    fd = PySem.W.fnOf x qual (defArgs st) (defBody st) (defScope st) dV kV doc pm an cdv ct ∧ K.lookup f = some ⟨oc, od, .func fd, osl⟩ ∧ PySem.W.codeIn K cdv qual = true
  kp : PySem.W.keepIn K (.ref f) = true
theorem FunW.of {K : PySem.W.Frag} {x qual : Str} {st : Stmt} {dvs : List V} {kws : List (Str × V)} {f : Addr} {fd : FuncData} (F : FunD K x qual (defArgs st) (defBody st) (defScope st) dvs kws f fd) : FunW K x qual st f fd := by
  obtain ⟨oc, od, dV, kV, doc, pm, an, cdv, ct, osl, e, l, c, _, _⟩ := F.ex
  exact ⟨⟨oc, od, dV, kV, doc, pm, an, cdv, ct, osl, e, l, c⟩, F.kp⟩
section
variable {P : Program} {w : World} {K : PySem.W.Frag} {mg : Str → Option Value} {base : Heap} {CT : CXT} {n m : Nat} {fa : Addr} {fd : FuncData} {ps : List Str} {sp : Sp}
theorem fnG_ofW {x qual : Str} {st : Stmt} {N : List Str} (F : FunW K x qual st fa fd) (S : FnScope N ps (defScope st)) (len : ∀ as H Q E, sp as H Q E → as.length = ps.length)
    (hb : ∀ (cdv : Value) (A : Around) (out : List Env) (s : Shared) (H : Hp) (as : List V) (Q : VK) (E : XK), A.guards = some [] → Room n (A.deeper (envOfC qual (defScope st) s.heap.objs.size fa cdv)) → sp as H Q E →
      ∃ t, PSs (cxOf CT P w K mg base N qual (defScope st) fa cdv A out s H E) (defBody st) t ∧ t { nx := fun _ H1 => Q .non H1, rt := Q } (start N as) H) : FnG P w K mg base CT (n + 1) fa fd ps sp := by
  obtain ⟨oc, od, dV, kV, doc, pm, an, cdv, ct, osl, rfl, hlook, hcode⟩ := F.ex
  refine ⟨len, ?_⟩
  intro A out s H ar us as Q E hguard hroom env0 hbind hvals hsp
  have inK : K.In s.heap := env0.mod.kin.keeps fun a o q => (env0.bs a o q).1
  have noLim : s.heap.NoLimit := env0.mod.nolimit.keeps fun a o q => (env0.bs a o q).1
  refine codeAny_call_function hroom.depth (inK _ _ hlook) rfl S.co S.gen rfl (PySem.W.codeRec_of inK hcode) (hbind _ _ _ _ ?_)
  refine wpAny_newFunctionEnv_cells S.kind ?_ ?_
  · rintro ⟨nm, v⟩ hin
    rcases S.par nm (List.of_mem_zip hin).1 with q | q
    · exact .inl q
    · exact .inr ⟨q, PySem.W.cellsFrom_some _ _ _ (.inl q)⟩
  · intro env henv s1 inc
    subst henv
    refine ⟨noLim.keeps inc.toInCall.keep, codeAny_func ?_⟩
    obtain ⟨t, pt, qt⟩ := hb cdv A out s H as Q E hguard (hroom.deeper _) hsp
    have inv := inv_start (E := E) (CX := CT) S hroom.hd env0 (len _ _ _ _ hsp) hvals inc
    refine wpAny_mono (pt.run [] s1 (start N as) H _ inv qt) ?_ fun e s' z => z
    intro fl s' z
    cases fl with
    | ret u =>
      obtain ⟨v, _, H1, J, rv, q⟩ := z
      exact ⟨v, H1, J.os, J.bare, J.base, J.hok, rv, q⟩
    | next =>
      obtain ⟨_, H1, J, q⟩ := z
      exact ⟨V.non, H1, J.os, J.bare, J.base, J.hok, rfl, q⟩
    | brk => exact z.elim fun _ z => z.elim fun _ z => z.2.elim
    | cont => exact z.elim fun _ z => z.elim fun _ z => z.2.elim
end
section
variable {P : Program} {w : World} {K : PySem.W.Frag} {mg : Str → Option Value} {base : Heap}
end
end DL
/-! DNh: o.f += n, l.pop(), {a: b for x, y in d.items()}. -/
namespace DL
open PySem PySem.Spec PyProof.Rows L2
section
variable {P : Program} {w : World} {K : PySem.W.Frag} {mg : Str → Option Value} {base : Heap} {j : Nat} {X : Cx} {f : Str} {o v : Expr} {env : DEnv} {C : CS} {k : KD} {pos tpos apos cpos : Pos} {E : DEnds}
theorem x_augFld (hx : Ctx P w K mg base j X) (h : WE X o env C fun d C1 => ∃ p Cl ks xs i, d = .own p ∧ C1 p = some (.ins Cl ks xs) ∧ FldC K Cl f ∧ FGet ks xs f (.int i) ∧
    WE X v env C1 fun y C2 => ∃ i2 ks2 xs2 ks' xs', y = .int i2 ∧ C2 p = some (.ins Cl ks2 xs2) ∧ ks2.length < 1000 ∧ FPut f (.int (i + i2)) ks2 xs2 ks' xs' ∧ E.nx env (put C2 p (.ins Cl ks' xs'))) : WS X (.AugAssign (.Attribute o f tpos) .Add v pos) env C E :=
  .of (ps_fldaug pe_tS pe_tS in_add) fun G σ H D w er q => h G σ H _ w er fun o' G1 C1 H1 d f1 w1 r1 z => by
    obtain ⟨p, Cl, ks, xs, i, rfl, hp, ⟨hc, hn⟩, hg, h1⟩ := z
    cases r1
    obtain ⟨_, dx, fs, g1, g2, g3⟩ := w1.cell p _ hp
    obtain ⟨v', e1, e2⟩ := hg.look g2 g3
    cases e2
    refine ⟨p, Cl, dx, fs, _, rfl, g1, by rw [hx.K]; exact hc, by rw [hx.K]; exact hn, e1, ?_⟩
    refine h1 G1 σ H1 _ w1 (er.mono f1.exG) fun y' G2 C2 H2 y f2 w2 r2 z => ?_
    obtain ⟨i2, ks2, xs2, ks', xs', rfl, hp2, hl, hput, hk⟩ := z
    cases r2
    refine ⟨i, i2, rfl, rfl, ?_⟩
    obtain ⟨_, dx2, fs2, q1, q2, q3⟩ := w2.cell p _ hp2
    obtain ⟨u1, u2⟩ := hput.put (.int (i + i2)) q2 q3
    obtain ⟨w3, f3⟩ := w2.write hp2 (o := .ins Cl dx2 (putF f (.int (i + i2)) fs2)) (c' := .ins Cl ks' xs') fun H' e => ⟨dx2, _, e, u1, u2⟩
    exact ⟨dx2, fs2, q1, by rw [← List.length_map (f := (·.1)), q2]; exact hl, q.nx _ _ _ _ _ ((f1.trans f2).trans f3) w3 (er.mono ((f1.trans f2).trans f3).exG) hk⟩
end
/-- l.pop() -/
def dPop0 : D → List D → CS → KD → Prop := fun x ds C k => ∃ a xs y, x = .own a ∧ ds = [] ∧ C a = some (.lst (xs ++ [y])) ∧ k y (put C a (.lst xs))
theorem rm_pop0 {K : PySem.W.Frag} : RMD K rPop dPop0 := by
  rintro x a xs ds G C H k Q w r rs ⟨p, ys, y, rfl, rfl, hp, hk⟩ q
  cases r
  cases rs
  obtain ⟨_, vs, h1, h2⟩ := w.cell p _ hp
  have hl : vs.length = ys.length + 1 := by rw [h2.length, List.length_append]; rfl
  obtain ⟨v, g1, g2⟩ := h2.get (i := ys.length) (d := y) (by simp)
  refine ⟨p, vs, v, rfl, rfl, h1, by rw [hl]; exact g1, ?_⟩
  have hd : DatAll K G vs.dropLast ys := by
    have := datAll_erase (K := K) ys.length h2
    rw [show (ys ++ [y]).eraseIdx ys.length = ys by simp [List.eraseIdx_append_of_length_le]] at this
    rwa [show vs.eraseIdx ys.length = vs.dropLast by rw [show ys.length = vs.length - 1 by omega, List.eraseIdx_length_sub_one]] at this
  obtain ⟨w2, f2⟩ := w.write hp (o := .lst vs.dropLast) (c' := .lst ys) fun H' e => ⟨_, e, hd⟩
  exact q _ _ _ _ _ f2 w2 g2 hk
theorem x_pop0 {X : Cx} {o : Expr} {env : DEnv} {C : CS} {k : KD} {apos cpos : Pos} (h : WE X o env C fun x C1 => tyD "list" C1 x ∧ dPop0 x [] C1 k) (hbase : attributeBase o "pop" X.env (eval o X.env) = eval o X.env := by rfl) (hline : (apos.endLine == cpos.line) = true := by rfl) :
    WE X (.Call (.Attribute o "pop" apos) [] [] cpos) env C k := we_bm0 PySem.F.plainAttrs_list PySem.F.slot_list_pop PySem.F.type_list_pop mt_pop rm_pop0 h hbase hline
/-- a fresh dict becomes a cell -/
theorem Wld.claimD {K : PySem.W.Frag} {G G1 H H1 : Hp} {C C1 : CS} {p : Addr} {kw : List (Key × V)} {kvs : List (Key × D)} (f : Fr G C H G1 C1 H1) (w : Wld K G1 C1 H1) (h0 : H p = none) (h1 : H1 p = some (.dK kw)) (e1 : kw.map (·.1) = kvs.map (·.1)) (r : DatAll K G1 (kw.map (·.2)) (kvs.map (·.2))) (c : C1 p = none) (g : G1 p = none) :
    Fr G C H G1 (put C1 p (.dic kvs)) H1 ∧ Wld K G1 (put C1 p (.dic kvs)) H1 := by
  refine ⟨⟨f.exG, f.keep, f.dom, fun a ha k => ?_, f.newG⟩, ⟨w.ex, fun a c' e => ?_, w.nt⟩⟩
  · by_cases q : a = p
    · subst q; exact absurd h0 ha
    · rw [put_ne q] at k; exact f.newC a ha k
  · by_cases q : a = p
    · subst q; rw [put_same] at e; cases e; exact ⟨g, kw, h1, e1, r⟩
    · rw [put_ne q] at e; exact w.cell a c' e
section
variable {X : Cx} {kx vx e : Expr} {elts : List Expr} {kk : Nat} {ifs : List Expr} {scope : Scope} {own : List (Str × Nat)} {env : DEnv} {C : CS} {k : KD} {pos tpos apos cpos : Pos} {p : Addr} {kvs : List (Key × D)} {g : TG}
theorem we_dcItems (own : List (Str × Nat)) (hc : X.calm = true) (hN : X.N.Nodup) (ok : BlkOk X.N X.env.scope scope own) (hg : ∀ (s : Shared) (H : Hp) (C : Addr) (cl : List (Str × Addr)) (fp : List Addr), PG (X.blk s H scope (compEnvC scope cl C X.env) fp) (.Tuple elts kk tpos) g) (hp : C p = some (.dic kvs))
    (h : WE X e env (del C p) fun d C1 => d = .own p ∧ ∃ Iv : Nat → List (Key × D) → CS → Prop, Iv 0 [] C1 ∧
      (∀ i ky d acc C, kvs[i]? = some (ky, d) → Iv i acc C → EvGW X.K g (own.map (·.2)) (.tup [kD ky, d]) env C fun env2 C2 => ∀ X', Blk X scope X' → WIf X' ifs env2 C2 fun t C3 => (t = true → ∀ X', Blk X scope X' → WE X' kx env2 C3 fun y C4 => ∀ X', Blk X scope X' → WE X' vx env2 C4 fun z C5 => ∃ ky2, y = kD ky2 ∧ acc.length < sizeLine ∧ Iv (i + 1) (putD acc ky2 z) C5) ∧ (t = false → Iv (i + 1) acc C3)) ∧
      (∀ acc C, Iv kvs.length acc C → ∀ a, C a = none → a ≠ p → k (.own a) (put (put C p (.dic kvs)) a (.dic acc))))
    (hbase : attributeBase e "items" X.env (eval e X.env) = eval e X.env := by rfl) (hline : (apos.endLine == cpos.line) = true := by rfl)
    (hs : ∀ x, foldedSetIterable (.Call (.Attribute e "items" apos) [] [] cpos) X.env x = pure x := by intro _; rfl) : WE X (.DictComp kx vx [⟨.Tuple elts kk tpos, .Call (.Attribute e "items" apos) [] [] cpos, ifs, 0⟩] scope pos) env C k := by
  refine .of (pe_lock (pe_dc (own := own) (g := g) (tt := fun σ H Q => ∀ X', Blk X scope X' → tPIf X' ifs σ H Q) (tk := fun σ H Q => ∀ X', Blk X scope X' → tS X' kx σ H Q) (tv := fun σ H Q => ∀ X', Blk X scope X' → tS X' vx σ H Q) hc hN (pi_items pe_tS hbase hline) ok hg ?_ ?_ ?_ hs)) fun G σ H Q w er q => ?_
  · exact fun s H C cl fp => ⟨fun pins s' σ H Q I h => h _ ⟨_, _, _, _, _, rfl⟩ pins s' I⟩
  · exact fun s H C cl fp => ⟨fun pins s' σ H Q I h => h _ ⟨_, _, _, _, _, rfl⟩ pins s' I⟩
  · exact fun s H C cl fp => ⟨fun pins s' σ H Q I h => h _ ⟨_, _, _, _, _, rfl⟩ pins s' I⟩
  obtain ⟨_, kw, hH, e1, e2⟩ := w.cell p _ hp
  have hlen : kw.length = kvs.length := by rw [← List.length_map (f := (·.1)) (as := kw), e1, List.length_map]
  refine ⟨p, .dK kw, hH, trivial, fun od => ?_⟩
  have w0 := w.lock hp (.frz od (.dK kw))
  refine h G σ _ _ w0 er fun u G1 C1 H1 d f1 w1 r1 z => ?_
  obtain ⟨rfl, Iv, i0, turn, done⟩ := z
  cases r1
  have frz : ∀ {G2 : Hp} {C2 : CS} {H2 : Hp}, Fr G (del C p) (upd H p (.frz od (.dK kw))) G2 C2 H2 → H2 p = some (.frz od (.dK kw)) := fun f2 => f2.keep p _ upd_same del_same (by intro _ z; cases z)
  refine ⟨p, od, kw, rfl, frz f1, fun Da hD => ?_⟩
  have hne : Da ≠ p := fun e => by rw [e, frz f1] at hD; cases hD
  have hn := w1.ne hD
  let Wn : Nat → Hp → Prop := fun i H2 => i ≤ kvs.length ∧ ∃ G2 C2 acc aw, Fr G1 C1 H1 G2 C2 H2 ∧ Wld X.K G2 C2 H2 ∧ H2 Da = some (.dK aw) ∧ aw.map (·.1) = acc.map (·.1) ∧ DatAll X.K G2 (aw.map (·.2)) (acc.map (·.2)) ∧ Iv i acc C2 ∧ C2 Da = none ∧ G2 Da = none
  have wD : Wld X.K G1 C1 (upd H1 Da (.dK [])) := ⟨fun a o e => by rw [upd_ne (ne_of_none e hn.1)]; exact w1.ex a o e, fun a c e => by
    obtain ⟨h1, h2⟩ := w1.cell a c e
    exact ⟨h1, h2.mono (fun _ _ h => h) (upd_ne (cell_ne e hn.2))⟩, w1.nt⟩
  refine ⟨fun i m H2 => m = kvs.length - i ∧ Wn i H2, ⟨kvs.length, rfl, Nat.zero_le _, G1, C1, [], [], Fr.fresh hD, wD, upd_same, rfl, .nil, i0, hn.2, hn.1⟩, ?_⟩
  rintro i m H2 ⟨rfl, hi2, G2, C2, acc, aw, f2, w2, hd2, k2, r2, i2, c2, g2⟩
  have keepD : ∀ {G3 C3 H3}, Fr G2 C2 H2 G3 C3 H3 → H3 Da = some (.dK aw) ∧ C3 Da = none ∧ G3 Da = none := fun {G3 C3 H3} f => by
    refine ⟨f.keep _ _ hd2 c2 (by intro _ z; cases z), ?_, ?_⟩
    · cases e : C3 Da with
      | none => rfl
      | some c => exact absurd c2 (f.newC Da (by rw [hd2]; simp) (by rw [e]; simp))
    · cases e : G3 Da with
      | none => rfl
      | some c => exact ((f.newG Da (by rw [hd2]; simp) (by rw [e]; simp)).elim (fun z => z g2) fun z => z c2).elim
  by_cases hlt : i < kvs.length
  · refine .inr ⟨⟨frz (f1.trans f2), by rw [hlen]; exact hlt⟩, Wn (i + 1), fun H' h' => ⟨kvs.length - (i + 1), by omega, rfl, h'⟩, fun x H3 hx => ?_⟩
    obtain ⟨T, ky, v, hk, rfl, hT, rfl⟩ := hx
    obtain ⟨d, hd, rd⟩ := get_key e1 (e2.mono (f1.exG.trans f2.exG)) hk
    obtain ⟨w3, f3, s3⟩ := w2.newG hT (.tup [kV ky, v])
    refine turn i ky d acc C2 hd i2 _ σ _ _ _ w3 (er.mono (f1.exG.trans (f2.exG.trans f3.exG))) (.tup (SqT.of upd_same) (.cons (dat_kV _ ky) (.cons (rd.mono s3) .nil))) fun G4 C4 H4 σ4 env4 f4 w4 er4 h4 X' hX => ?_
    have h5 := h4 X' hX
    obtain ⟨s0, H0, Ca, cl, fp, rfl⟩ := hX
    refine h5 G4 σ4 H4 _ w4 er4 fun t G5 C5 H5 f5 w5 ht => ?_
    have f35 := (f3.trans f4).trans f5
    cases t with
    | true =>
      refine iteT fun X' hX => ?_
      have h6 := ht.1 rfl X' hX
      obtain ⟨s1, H01, Ca1, cl1, fp1, rfl⟩ := hX
      refine h6 G5 σ4 H5 _ w5 (er4.mono f5.exG) fun y G6 C6 H6 d6 f6 w6 r6 h7 X' hX => ?_
      have h8 := h7 X' hX
      obtain ⟨s2, H02, Ca2, cl2, fp2, rfl⟩ := hX
      refine h8 G6 σ4 H6 _ w6 (er4.mono (f5.exG.trans f6.exG)) fun z G7 C7 H7 d7 f7 w7 r7 h9 => ?_
      obtain ⟨ky2, rfl, hl, hI⟩ := h9
      have ey := dat_key r6
      subst ey
      have F := (f35.trans f6).trans f7
      obtain ⟨hd6, c6, g6⟩ := keepD F
      have rr := r2.mono F.exG
      obtain ⟨p1, p2⟩ := put_rel (k := ky2) r7 k2 rr
      refine ⟨aw, ky2, rfl, hd6, by rw [← List.length_map (f := (·.1)) (as := aw), k2, List.length_map]; exact hl, hlt, G7, C7, putD acc ky2 d7, L2.putK aw ky2 z, ?_, ?_, upd_same, p1, p2, hI, c6, g6⟩
      · have F := f2.trans F
        refine ⟨F.exG, fun a o e c nt => ?_, fun a e => ?_, F.newC, F.newG⟩
        · by_cases q : a = Da
          · subst q; rw [hD] at e; cases e
          · rw [upd_ne q]; exact F.keep a o e c nt
        · by_cases q : a = Da
          · subst q; rw [upd_same]; simp
          · rw [upd_ne q]; exact F.dom a e
      · exact ⟨fun a o e => by rw [upd_ne (ne_of_none e g6)]; exact w7.ex a o e, fun a c e => by
          obtain ⟨h1, h2⟩ := w7.cell a c e
          exact ⟨h1, h2.mono (fun _ _ h => h) (upd_ne (cell_ne e c6))⟩, w7.nt⟩
    | false =>
      obtain ⟨hd5, c5, g5⟩ := keepD f35
      exact iteF ⟨hlt, G5, C5, acc, aw, f2.trans f35, w5, hd5, k2, r2.mono f35.exG, ht.2 rfl, c5, g5⟩
  · have ei : i = kvs.length := by omega
    subst ei
    have h1D : (upd H p (.frz od (.dK kw))) Da = none := by
      cases e : (upd H p (.frz od (.dK kw))) Da with
      | none => rfl
      | some o => exact absurd hD (f1.dom Da (by rw [e]; simp))
    have h0 : H Da = none := by rwa [upd_ne hne] at h1D
    obtain ⟨w3, f3⟩ := Wld.unlock w hp e1 e2 (f1.trans f2) w2
    obtain ⟨F, w4⟩ := w3.claimD f3 h0 (by rw [upd_ne hne]; exact hd2) k2 r2 (by rw [put_ne hne]; exact c2) g2
    exact .inl ⟨⟨frz (f1.trans f2), by rw [hlen]; exact Nat.le_refl _⟩, frz (f1.trans f2), q _ _ _ _ _ F w4 (.own Da) (done acc C2 i2 Da c2 hne)⟩
end
end DL
/-! DNi: a list of whatever against an empty one. -/
namespace L2
open PySem PySem.Spec PyProof.Rows PySem.SeqAt
section
variable {X : Cx}
def rEqLE (neg : Bool) : R2 := fun x y H Q => ∃ a b xs, x = .ref a ∧ y = .ref b ∧ H a = some (.lst xs) ∧ H b = some (.lst []) ∧ Q (.bl (if neg = true then !xs.isEmpty else xs.isEmpty)) H
theorem op_eqLE (hu : X.A.units < cLine) : OpR X (compareOp .Eq) (rEqLE false) := by
  intro pins s σ H x y v u Q I rx ry h
  obtain ⟨a, b, xs, rfl, rfl, ea, eb, q⟩ := h
  obtain rfl : v = Value.ref a := rx
  obtain rfl : u = Value.ref b := ry
  obtain ⟨z, its, n, r, hl, e⟩ := I.lstM ea
  obtain ⟨z2, its2, n2, r2, hl2, e2⟩ := I.lstM eb
  obtain rfl : its2 = [] := by cases r2; rfl
  cases xs with
  | nil =>
    obtain rfl : its = [] := by cases r; rfl
    exact RcAt.lists (e := fun _ => true) ⟨_, e, rfl, _, rfl⟩ ⟨_, e2, rfl, _, rfl⟩ rfl hu (fun j h1 => by simp at h1) _ _ _ _ (fin_bl I q rfl)
  | cons x xs =>
    refine RcAt.lists_lengths ⟨_, e, rfl, _, rfl⟩ ⟨_, e2, rfl, _, rfl⟩ ?_ hu _ _ _ _ (fin_bl I q rfl)
    have := r.length
    rw [List.size_toArray, ← this]; simp
theorem op_neLE (hu : X.A.units < cLine) : OpR X (compareOp .NotEq) (rEqLE true) := by
  intro pins s σ H x y v u Q I rx ry h
  obtain ⟨a, b, xs, rfl, rfl, ea, eb, q⟩ := h
  obtain rfl : v = Value.ref a := rx
  obtain rfl : u = Value.ref b := ry
  obtain ⟨z, its, n, r, hl, e⟩ := I.lstM ea
  obtain ⟨z2, its2, n2, r2, hl2, e2⟩ := I.lstM eb
  obtain rfl : its2 = [] := by cases r2; rfl
  cases xs with
  | nil =>
    obtain rfl : its = [] := by cases r; rfl
    exact RcNeAt.lists (e := fun _ => false) ⟨_, e, rfl, _, rfl⟩ ⟨_, e2, rfl, _, rfl⟩ rfl hu (fun j h1 => by simp at h1) _ _ _ _ (fin_bl I q rfl)
  | cons x xs =>
    refine RcNeAt.lists_lengths ⟨_, e, rfl, _, rfl⟩ ⟨_, e2, rfl, _, rfl⟩ ?_ hu _ _ _ _ (fin_bl I q rfl)
    have := r.length
    rw [List.size_toArray, ← this]; simp
end
end L2
namespace DL
open PySem PySem.Spec PyProof.Rows L2
section
variable {P : Program} {w : World} {K : PySem.W.Frag} {mg : Str → Option Value} {base : Heap} {j : Nat} {X : Cx} {a b : Expr} {env : DEnv} {C : CS} {k : KD} {kb : Bool → CS → Prop} {pos : Pos}
/-- a list of whatever against an empty one -/
def dEqLE (neg : Bool) : OpD := fun x y C k => ∃ p q xs, x = .own p ∧ y = .own q ∧ C p = some (.lst xs) ∧ C q = some (.lst []) ∧ k (.bl (if neg = true then !xs.isEmpty else xs.isEmpty)) C
theorem r2_eqLE {neg : Bool} : R2D K (rEqLE neg) (dEqLE neg) := by
  rintro x y a b G C H k Q w da db ⟨p, q, xs, rfl, rfl, hp, hq, h⟩ z
  cases da; cases db
  obtain ⟨_, vs, h1, h2⟩ := w.cell p _ hp
  obtain ⟨_, us, g1, g2⟩ := w.cell q _ hq
  cases g2
  have e : vs.isEmpty = xs.isEmpty := by
    have := h2.length
    cases vs <;> cases xs <;> simp at this <;> rfl
  refine ⟨p, q, vs, rfl, rfl, h1, g1, ?_⟩
  rw [e]
  exact z _ _ _ _ _ (Fr.refl ..) w (.bl _) h
theorem xt_eqLE (hx : Ctx P w K mg base j X) (h : WE X a env C fun x C1 => WE X b env C1 fun y C2 => dEqLE false x y C2 (tb kb)) : WT X (.Compare a [.Eq] [b] pos) env C kb := wt_cmp (op_eqLE hx.room.units0) r2_eqLE h (nomark _)
theorem xt_neLE (hx : Ctx P w K mg base j X) (h : WE X a env C fun x C1 => WE X b env C1 fun y C2 => dEqLE true x y C2 (tb kb)) : WT X (.Compare a [.NotEq] [b] pos) env C kb := wt_cmp (op_neLE hx.room.units0) r2_eqLE h (nomark _)
end
end DL
/-! DNj: {a: b for x, y in d.items()} by names; a def with defaults that does not raise; one positional default and keyword-only ones. -/
namespace DL
open PySem PySem.Spec PyProof.Rows L2
section
variable {X : Cx} {kx vx e : Expr} {scope dsc : Scope} {env : DEnv} {C : CS} {k : KD} {pos px py pt apos cpos : Pos} {n : Nat} {p : Addr} {kvs : List (Key × D)} {N : List Str} {x y : Str} {f1 : D → DEnv} {f2 : D → D → DEnv}
theorem x_dcItems (M gs : List Str) (D0 : Dfc X N dsc) (hP : Put N x env f1) (hQ : ∀ d, Put N y (f1 d) (f2 d)) (hxy : x ≠ y) (ok : blkC N dsc scope [(x, N.idxOf x), (y, N.idxOf y)] = true) (hv : visC (relS scope dsc) M = true) (hg : glC (relS scope dsc) gs = true)
    (hx : onlyC (relS scope dsc) [x] = true) (hy : onlyC (relS scope dsc) [y] = true) (hp : C p = some (.dic kvs))
    (h : WE X e env (del C p) fun d C1 => d = .own p ∧ ∃ Iv : Nat → List (Key × D) → CS → Prop, Iv 0 [] C1 ∧
      (∀ i ky d acc C, kvs[i]? = some (ky, d) → Iv i acc C → ∀ X', Blk X scope X' → Nms X' N M → Gls X' gs → WE X' kx (f2 (kD ky) d) C fun y C4 => ∀ X', Blk X scope X' → Nms X' N M → Gls X' gs → WE X' vx (f2 (kD ky) d) C4 fun z C5 => ∃ ky2, y = kD ky2 ∧ acc.length < sizeLine ∧ Iv (i + 1) (putD acc ky2 z) C5) ∧
      (∀ acc C, Iv kvs.length acc C → ∀ a, C a = none → a ≠ p → k (.own a) (put (put C p (.dic kvs)) a (.dic acc))))
    (hbase : attributeBase e "items" X.env (eval e X.env) = eval e X.env := by rfl) (hline : (apos.endLine == cpos.line) = true := by rfl)
    (hs : ∀ x, foldedSetIterable (.Call (.Attribute e "items" apos) [] [] cpos) X.env x = pure x := by intro _; rfl) : WE X (.DictComp kx vx [⟨.Tuple [.Name x px, .Name y py] n pt, .Call (.Attribute e "items" apos) [] [] cpos, [], 0⟩] scope pos) env C k := by
  obtain ⟨i, h1, h2, _⟩ := hP.set
  obtain ⟨j, g1, _⟩ := (hQ .non).set
  have hij : i ≠ j := fun e => by subst e; rw [h1] at g1; exact hxy (Option.some.inj g1)
  have nd : N.Nodup := by rw [← D0.n]; exact D0.nd
  have e2 : ∀ a b, (env.set i (some a)).set j (some b) = f2 a b := by
    intro a b
    obtain ⟨j', k1, k2, _⟩ := (hQ a).set
    obtain rfl := nodup_ix nd k1 g1
    rw [h2, k2]
  have ok' : BlkOk X.N X.env.scope scope [(x, i), (y, j)] := by
    rw [idxOf_of nd h1, idxOf_of nd g1] at ok
    rw [D0.n, D0.sc]
    exact blkOk_by ok
  refine we_dcItems [(x, i), (y, j)] (g := gTup X.K 2 (gCons (gName i) (gCons (gName j) gNil))) D0.calm D0.nd ok' (fun s H Ca cl fp => pg_tup (show X.calm = true from D0.calm) (pgs_cons (lc_pg D0 h1 hx s H Ca cl fp) (pgs_cons (lc_pg D0 g1 hy s H Ca cl fp) pgs_nil))) hp (h.imp ?_) hbase hline hs
  rintro d C1 ⟨rfl, Iv, i0, turn, done⟩
  refine ⟨rfl, Iv, i0, fun m ky d acc C hd hi => ?_, done⟩
  refine gw_tup2 (by simp) (by simp) ?_
  have e3 : wipeD env (List.map (fun x => x.snd) [(x, i), (y, j)]) = wipeD env [i, j] := rfl
  rw [e3, set_two hij, e2]
  intro X' hX
  refine wif_nil ⟨fun _ X' hX => ?_, fun h => Bool.noConfusion h⟩
  refine (turn m ky d acc C hd hi X' hX (blk_nms D0 hv X' hX) (blk_gls D0 hg X' hX)).imp ?_
  intro y C4 z X'' hX''
  exact z X'' hX'' (blk_nms D0 hv X'' hX'') (blk_gls D0 hg X'' hX'')
end
section
variable {P : Program} {w : World} {K : PySem.W.Frag} {mg : Str → Option Value} {base : Heap}
theorem fnXW {x qual : Str} {st : Stmt} {f : Addr} {fd : FuncData} {N M Ds ps : List Str} {n : Nat} {S : DSp} (F : FunW K x qual st f fd) (sc : FnScope N ps (defScope st)) (hv : visC (defScope st) M = true) (hlc : locC (defScope st) M = true) (hg : glC (defScope st) Ds = true)
    (hl : ∀ ds C k, S ds C k → ds.length = ps.length)
    (hb : ∀ (X : Cx), Bdy P w K mg base n N M Ds (defScope st) X → ∀ (ds : List D) (C : CS) (k : KD), S ds C k → WSs X (defBody st) (startD N ds) C { nx := fun _ C' => k .non C', rt := k }) : FnG P w K mg base CX0 (n + 1) f fd ps (toSp K S) := by
  refine fnG_ofW F sc (fun vs H Q E h => ?_) (fun cdv A outer s H vs Q E hgd hr h => ?_)
  · obtain ⟨G, C, ds, k, _, r, hS, _⟩ := h
    rw [r.length]
    exact hl _ _ _ hS
  · obtain ⟨G, C, ds, k, wl, r, hS, q⟩ := h
    refine ⟨_, PSs.nox pss_tXs, ?_⟩
    refine hb _ ⟨⟨rfl, rfl, rfl, rfl, rfl, hr, hgd, rfl⟩, nms_of rfl (sc := defScope st) rfl sc.nd hv, sts_of rfl (sc := defScope st) rfl sc.nd hlc (fun _ => rfl), gls_of (sc := defScope st) rfl hg, ⟨rfl, sc.nd, rfl, rfl⟩, ⟨rfl⟩⟩ ds C k hS G _ H _ wl (envR_start r) ⟨?_, q, ?_, ?_⟩
    · exact fun G' C' H' σ env f w' er z => q .non G' C' H' .non f w' .non z
    · exact fun G' C' H' σ env f w' er z => z.elim
    · exact fun G' C' H' σ env f w' er z => z.elim
end
/-- one positional default, and keyword-only ones -/
theorem funD_oneKw {K : PySem.W.Frag} {x qual : Str} {st : Stmt} {d : V} {v : Value} {kws : List (Str × V)} {f T kd : Addr} {oc oT : Value} {od an odT : Option Addr} {osl slT : Array (Option Value)} {n : Nat} {doc pm cdv ct : Value} (l : K.lookup f = some ⟨oc, od, .func (PySem.W.fnOf x qual (defArgs st) (defBody st) (defScope st) (.ref T) (.ref kd) doc pm an cdv ct), osl⟩)
    (c : PySem.W.codeIn K cdv qual = true) (k : PySem.W.keepIn K (.ref f) = true) (t : K.lookup T = some ⟨oT, odT, .seq #[v] n, slT⟩) (r : RelV d v) (hw : ∀ q ∈ kws, ∃ v, PySem.W.nsIn K kd q.1 = some (some v) ∧ RelV q.2 v) : FunD K x qual (defArgs st) (defBody st) (defScope st) [d] kws f (PySem.W.fnOf x qual (defArgs st) (defBody st) (defScope st) (.ref T) (.ref kd) doc pm an cdv ct) :=
  ⟨⟨oc, od, .ref T, .ref kd, doc, pm, an, cdv, ct, osl, rfl, l, c, .inr ⟨by simp, T, _, [v], n, rfl, t, rfl, .cons r .nil⟩, .inr ⟨kd, rfl, hw⟩⟩, k⟩
end DL
/-! DNk: list(d.values()). -/
namespace L2
open PySem PySem.Spec PyProof.Rows
def tListVals (te : TE) : TE := fun σ H Q => te σ H fun x H1 => ∃ d kvs, x = .ref d ∧ H1 d = some (.dK kvs) ∧ ∀ q, H1 q = none → Q (.ref q) (upd H1 q (.lst (kvs.map fun kv => kv.2)))
section
variable {X : Cx} {e : Expr} {te : TE} {p apos cpos pos : Pos}
theorem pe_listVals (hc : X.calm = true) (he : PE X e te) (hg : Gl X "list") (hm : X.mg "list" = none) (hbase : attributeBase e "values" X.env (eval e X.env) = eval e X.env := by rfl) (hline : (apos.endLine == cpos.line) = true := by rfl)
    (hs : starEach [.Call (.Attribute e "values" apos) [] [] cpos] X.env = (false, eval (.Call (.Attribute e "values" apos) [] [] cpos) X.env) :: starEach [] X.env := by rfl) :
    PE X (.Call (.Name "list" p) [.Call (.Attribute e "values" apos) [] [] cpos] [] pos) (tListVals te) := by
  refine ⟨fun pins s σ H Q I hq => ?_⟩
  refine wpAny_Call_Name_kw (ld_blt I hg hm boot_list ?_)
  refine PyProof.Rows.callWith_type1 ?_ hs rfl
  rw [hs]
  show wpAny _ _ (spliced ((false, eval (.Call (.Attribute e "values" apos) [] [] cpos) X.env) :: backTo pos (starEach [] X.env))) _ _ s
  refine Calls.spliced_cons ?_
  refine wpAny_Call_method (T := "dict") (id := "dict.values") hbase rfl hline F.plainAttrs_dict F.slot_dict_values F.type_dict_values (thn (he.run pins s σ H _ I hq) fun u s1 ⟨x, H1, I1, rx, d, kvs, ex, hd, q⟩ => ?_)
  subst ex
  obtain rfl : u = Value.ref d := rx
  obtain ⟨hz, hs0, vs, kv, hdo⟩ := I1.hok d _ hd
  obtain ⟨ep, hat⟩ := hdo.dictAt
  have lk : kvs.length = vs.length := Paired.length kv
  have I2 : Inv X pins σ H1 { s1 with heap := s1.heap.push { cls := .type "dict_values", data := .fields #[.ref d] } } := I1.kept (t' := s1.toks) fun b ob q => Heap.get?_push_of_some _ q
  refine ⟨hdo.typeIs, hdo.mapOf.noDict, ?_⟩
  show wpAny _ _ (callWith cpos (.builtin "dict.values") [.ref d] [] []) _ X.xe s1
  refine method_meetsIn F.slot_dict_values F.entry_dict_values rfl (PySem.evalArgs_none ⟨rfl, hdo.typeIs, F.args_dict_values_1 _, _, meets_dict_values (mixKind X.prog X.w) d hs0, ⟨vs, hdo⟩, ?_⟩)
  refine Calls.spliced_nil ?_
  refine PySem.W.kdl_call (PySem.W.kdl_values (knd := mixKind X.prog X.w) (d := d) (kvs := vs) (ep := ep)) (I1.ok.hd hc) ⟨⟨_, Heap.get?_push_size _ rfl, rfl, rfl⟩, hat.push _⟩ (by rw [← lk]; exact hz) fun h' tk acc' c' hkeep hS hacc => ?_
  refine ⟨.ref _, upd H1 _ (.lst (kvs.map fun kv => kv.2)), I2.laid (t' := tk) hkeep (Nat.le_refl _) (show ObjOk X.prog X.w _ _ _ (.lst (kvs.map fun kv => kv.2)) from ⟨by rw [List.length_map]; exact hz, acc'.toList, c', ?_, ?_⟩), rfl, q _ (I2.hok.fresh (Nat.le_refl _))⟩
  · have el : acc'.toList.length = acc'.size := by simp
    refine vals_of_at (by rw [List.length_map, el, hacc.1, lk]) fun j x w h1 h2 => ?_
    obtain ⟨k, hky⟩ := hacc.2 j w (by rw [← Array.getElem?_toList]; exact h2)
    rw [List.getElem?_map] at h1
    cases e2 : kvs[j]? with
    | none => rw [e2] at h1; cases h1
    | some pk =>
      rw [e2] at h1
      cases h1
      obtain ⟨qv, g1, g2, g3⟩ := paired_get kv e2
      rw [hky] at g1
      cases g1
      exact g3
  · rw [Array.toArray_toList]; exact hS
end
end L2
namespace DL
open PySem PySem.Spec PyProof.Rows L2
section
variable {P : Program} {w : World} {K : PySem.W.Frag} {mg : Str → Option Value} {base : Heap} {j : Nat} {X : Cx} {e : Expr} {env : DEnv} {C : CS} {k : KD} {pos p apos cpos : Pos}
/-- list(d.values()) -/
theorem x_listVals (hx : Ctx P w K mg base j X) (Z : Zs mg) (hg : Gl X "list") (h : WE X e env C fun d C1 => ∃ p kvs, d = .own p ∧ C1 p = some (.dic kvs) ∧ ∀ q, C1 q = none → k (.own q) (put C1 q (.lst (kvs.map fun kv => kv.2))))
    (hbase : attributeBase e "values" X.env (eval e X.env) = eval e X.env := by rfl) (hline : (apos.endLine == cpos.line) = true := by rfl)
    (hs : starEach [.Call (.Attribute e "values" apos) [] [] cpos] X.env = (false, eval (.Call (.Attribute e "values" apos) [] [] cpos) X.env) :: starEach [] X.env := by rfl) : WE X (.Call (.Name "list" p) [.Call (.Attribute e "values" apos) [] [] cpos] [] pos) env C k :=
  .of (pe_listVals hx.calm pe_tS hg (hx.zs Z).list hbase hline hs) fun G σ H Q w er q => h G σ H _ w er fun x' G1 C1 H1 x f1 w1 r1 z => by
    obtain ⟨p, kvs, rfl, hp, hk⟩ := z
    obtain ⟨rfl, kw, h1, h2, h3⟩ := w1.dic r1 hp
    refine ⟨p, kw, rfl, h1, fun q' hq => ?_⟩
    obtain ⟨w3, f3⟩ := w1.newC hq (o := .lst (kw.map fun kv => kv.2)) (c := .lst (kvs.map fun kv => kv.2)) fun H' e => ⟨_, e, h3⟩
    exact q _ _ _ _ _ (f1.trans f3) w3 (.own q') (hk q' (w1.ne hq).2)
end
end DL
namespace DL
open PySem PySem.Spec PyProof.Rows L2
section
variable {P : Program} {w : World} {K : PySem.W.Frag} {mg : Str → Option Value} {base : Heap} {j : Nat} {X : Cx} {e : Expr} {env : DEnv} {C : CS} {k : KD} {pos pos' p : Pos} {N M : List Str} {x : Str} {d : D} {f : D → DEnv} {E : DEnds}
/-- xs += ys -/
def dExtI : OpD := fun x y C k => ∃ p q xs ys, x = .own p ∧ y = .own q ∧ C p = some (.lst xs) ∧ C q = some (.lst ys) ∧ xs.length + ys.length ≤ sizeLine ∧ k (.own p) (put C p (.lst (xs ++ ys)))
theorem r2_extI : R2D K rExt2 dExtI := by
  rintro x y a b G C H k Q w da db ⟨p, q, xs, ys, rfl, rfl, hp, hq, hl, hk⟩ z
  cases da; cases db
  obtain ⟨_, vs, h1, r1⟩ := w.cell p _ hp
  obtain ⟨_, us, h2, r2⟩ := w.cell q _ hq
  refine ⟨p, q, vs, us, rfl, rfl, h1, h2, by rw [r1.length, r2.length]; exact hl, ?_⟩
  obtain ⟨w2, f2⟩ := w.write hp (o := .lst _) (c' := .lst _) fun H' e => ⟨_, e, r1.append r2⟩
  exact z _ _ _ _ _ f2 w2 (.own p) hk
theorem ws_augExt (B : Sts X N M) (hm' : Mem x M) (hg : Get N x env d) (hi : Put N x env f) (h : WE X e env C fun y C1 => dExtI d y C1 fun z C2 => E.nx (f z) C2) : WS X (.AugAssign (.Name x pos') .Add e pos) env C E :=
  ws_augNm B hm' hg hi iop_ext (p := dExtI) r2_extI h
end
end DL
namespace K31
open PySem L2 DL
def top (i : Nat) : Stmt := PySem.Challenge.pw_chainedreports_k13_rows_of_frames.main.body.getD i (.Pass ⟨0, 0, 0, 0⟩)

/-! _wall -/
/-! NoName.__init__ -/
/-! NoText.__init__ -/
/-! NoLine.__init__ -/
/-! NoKinds.__init__ -/
/-! NoRecord.__init__ -/
/-! NoLimit.__init__ -/
/-! NoEntry.__init__ -/
/-! Unset.__init__ -/
/-! TooMany.__init__ -/
/-! is_integer -/
abbrev s_is_integer : Stmt := top 24
abbrev N_is_integer : List Str := ["thing"]
abbrev M_is_integer : List Str := ["thing"]
abbrev P_is_integer : List Str := ["thing"]
theorem sc_is_integer : FnScope N_is_integer P_is_integer (defScope s_is_integer) := ⟨rfl, rfl, rfl, by decide +kernel, rfl, by decide +kernel, by decide +kernel⟩
theorem v_is_integer : visC (defScope s_is_integer) M_is_integer = true := by decide +kernel
theorem l_is_integer : locC (defScope s_is_integer) M_is_integer = true := by decide +kernel
abbrev D_is_integer : List Str := ["isinstance", "int", "bool"]
theorem g_is_integer : glC (defScope s_is_integer) D_is_integer = true := by decide +kernel

/-! in_range -/
/-! is_from -/
abbrev s_is_from : Stmt := top 26
abbrev N_is_from : List Str := ["thing", "low"]
abbrev M_is_from : List Str := ["thing", "low"]
abbrev P_is_from : List Str := ["thing", "low"]
theorem sc_is_from : FnScope N_is_from P_is_from (defScope s_is_from) := ⟨rfl, rfl, rfl, by decide +kernel, rfl, by decide +kernel, by decide +kernel⟩
theorem v_is_from : visC (defScope s_is_from) M_is_from = true := by decide +kernel
theorem l_is_from : locC (defScope s_is_from) M_is_from = true := by decide +kernel
abbrev D_is_from : List Str := ["is_integer"]
theorem g_is_from : glC (defScope s_is_from) D_is_from = true := by decide +kernel

/-! is_name -/
abbrev s_is_name : Stmt := top 27
abbrev N_is_name : List Str := ["thing", "sign"]
abbrev M_is_name : List Str := ["thing"]
abbrev P_is_name : List Str := ["thing"]
theorem sc_is_name : FnScope N_is_name P_is_name (defScope s_is_name) := ⟨rfl, rfl, rfl, by decide +kernel, rfl, by decide +kernel, by decide +kernel⟩
theorem v_is_name : visC (defScope s_is_name) M_is_name = true := by decide +kernel
theorem l_is_name : locC (defScope s_is_name) M_is_name = true := by decide +kernel
abbrev D_is_name : List Str := ["all", "isinstance", "str", "MOST_LETTERS", "len"]
theorem g_is_name : glC (defScope s_is_name) D_is_name = true := by decide +kernel
-- comprehension at 76: own ["sign"] reads ["sign", "thing"] globals ["LETTERS"]

/-! is_line -/
/-! is_text -/
abbrev s_is_text : Stmt := top 29
abbrev N_is_text : List Str := ["thing"]
abbrev M_is_text : List Str := ["thing"]
abbrev P_is_text : List Str := ["thing"]
theorem sc_is_text : FnScope N_is_text P_is_text (defScope s_is_text) := ⟨rfl, rfl, rfl, by decide +kernel, rfl, by decide +kernel, by decide +kernel⟩
theorem v_is_text : visC (defScope s_is_text) M_is_text = true := by decide +kernel
theorem l_is_text : locC (defScope s_is_text) M_is_text = true := by decide +kernel
abbrev D_is_text : List Str := ["isinstance", "str"]
theorem g_is_text : glC (defScope s_is_text) D_is_text = true := by decide +kernel

/-! is_shown -/
/-! is_row -/
/-! is_gap -/
/-! bad_row -/
/-! size_of -/
/-! closed -/
/-! shortened -/
/-! is_counted -/
/-! are_members -/
/-! is_link -/
/-! is_entry -/
/-! numbers_in -/
abbrev s_numbers_in : Stmt := top 47
abbrev N_numbers_in : List Str := ["members", "item"]
abbrev M_numbers_in : List Str := ["members"]
abbrev P_numbers_in : List Str := ["members"]
theorem sc_numbers_in : FnScope N_numbers_in P_numbers_in (defScope s_numbers_in) := ⟨rfl, rfl, rfl, by decide +kernel, rfl, by decide +kernel, by decide +kernel⟩
theorem v_numbers_in : visC (defScope s_numbers_in) M_numbers_in = true := by decide +kernel
theorem l_numbers_in : locC (defScope s_numbers_in) M_numbers_in = true := by decide +kernel
abbrev D_numbers_in : List Str := []
theorem g_numbers_in : glC (defScope s_numbers_in) D_numbers_in = true := by decide +kernel
-- comprehension at 164: own ["item"] reads ["item", "members"] globals ["isinstance", "int"]

/-! left_out -/
abbrev s_left_out : Stmt := top 48
abbrev N_left_out : List Str := ["members", "item"]
abbrev M_left_out : List Str := ["members"]
abbrev P_left_out : List Str := ["members"]
theorem sc_left_out : FnScope N_left_out P_left_out (defScope s_left_out) := ⟨rfl, rfl, rfl, by decide +kernel, rfl, by decide +kernel, by decide +kernel⟩
theorem v_left_out : visC (defScope s_left_out) M_left_out = true := by decide +kernel
theorem l_left_out : locC (defScope s_left_out) M_left_out = true := by decide +kernel
abbrev D_left_out : List Str := ["sum"]
theorem g_left_out : glC (defScope s_left_out) D_left_out = true := by decide +kernel
-- comprehension at 166: own ["item"] reads ["item", "members"] globals ["isinstance", "tuple"]

/-! Walk.__init__ -/
abbrev s_Walk___init__ : Stmt := inClass (top 49) 0
abbrev N_Walk___init__ : List Str := ["self", "old", "width", "depth", "chain"]
abbrev M_Walk___init__ : List Str := ["self", "old", "width", "depth", "chain"]
abbrev P_Walk___init__ : List Str := ["self", "old", "width", "depth", "chain"]
theorem sc_Walk___init__ : FnScope N_Walk___init__ P_Walk___init__ (defScope s_Walk___init__) := ⟨rfl, rfl, rfl, by decide +kernel, rfl, by decide +kernel, by decide +kernel⟩
theorem v_Walk___init__ : visC (defScope s_Walk___init__) M_Walk___init__ = true := by decide +kernel
theorem l_Walk___init__ : locC (defScope s_Walk___init__) M_Walk___init__ = true := by decide +kernel
abbrev D_Walk___init__ : List Str := []
theorem g_Walk___init__ : glC (defScope s_Walk___init__) D_Walk___init__ = true := by decide +kernel

/-! Walk.meet -/
abbrev s_Walk_meet : Stmt := inClass (top 49) 1
abbrev N_Walk_meet : List Str := ["self", "key", "depth", "distance", "number", "shown", "tied", "kind", "message", "notes", "rows", "members", "link"]
abbrev M_Walk_meet : List Str := ["self", "key", "depth", "distance", "number", "shown", "tied", "kind", "message", "notes", "rows", "members", "link"]
abbrev P_Walk_meet : List Str := ["self", "key", "depth", "distance"]
theorem sc_Walk_meet : FnScope N_Walk_meet P_Walk_meet (defScope s_Walk_meet) := ⟨rfl, rfl, rfl, by decide +kernel, rfl, by decide +kernel, by decide +kernel⟩
theorem v_Walk_meet : visC (defScope s_Walk_meet) M_Walk_meet = true := by decide +kernel
theorem l_Walk_meet : locC (defScope s_Walk_meet) M_Walk_meet = true := by decide +kernel
abbrev D_Walk_meet : List Str := ["len"]
theorem g_Walk_meet : glC (defScope s_Walk_meet) D_Walk_meet = true := by decide +kernel

/-! Walk.met_members -/
abbrev s_Walk_met_members : Stmt := inClass (top 49) 2
abbrev N_Walk_met_members : List Str := ["self", "members", "depth", "some", "shown", "many", "keys", "gone", "key"]
abbrev M_Walk_met_members : List Str := ["self", "members", "depth", "some", "shown", "many", "keys", "gone"]
abbrev P_Walk_met_members : List Str := ["self", "members", "depth"]
theorem sc_Walk_met_members : FnScope N_Walk_met_members P_Walk_met_members (defScope s_Walk_met_members) := ⟨rfl, rfl, rfl, by decide +kernel, rfl, by decide +kernel, by decide +kernel⟩
theorem v_Walk_met_members : visC (defScope s_Walk_met_members) M_Walk_met_members = true := by decide +kernel
theorem l_Walk_met_members : locC (defScope s_Walk_met_members) M_Walk_met_members = true := by decide +kernel
abbrev D_Walk_met_members : List Str := ["numbers_in", "left_out", "tuple", "DEEP", "len", "MORE"]
theorem g_Walk_met_members : glC (defScope s_Walk_met_members) D_Walk_met_members = true := by decide +kernel
-- comprehension at 195: own ["key"] reads ["key", "some", "self", "depth"] globals []

/-! Walk.met_link -/
abbrev s_Walk_met_link : Stmt := inClass (top 49) 3
abbrev N_Walk_met_link : List Str := ["self", "link", "depth", "distance", "word", "key"]
abbrev M_Walk_met_link : List Str := ["self", "link", "depth", "distance", "word", "key"]
abbrev P_Walk_met_link : List Str := ["self", "link", "depth", "distance"]
theorem sc_Walk_met_link : FnScope N_Walk_met_link P_Walk_met_link (defScope s_Walk_met_link) := ⟨rfl, rfl, rfl, by decide +kernel, rfl, by decide +kernel, by decide +kernel⟩
theorem v_Walk_met_link : visC (defScope s_Walk_met_link) M_Walk_met_link = true := by decide +kernel
theorem l_Walk_met_link : locC (defScope s_Walk_met_link) M_Walk_met_link = true := by decide +kernel
abbrev D_Walk_met_link : List Str := []
theorem g_Walk_met_link : glC (defScope s_Walk_met_link) D_Walk_met_link = true := by decide +kernel

/-! headline -/
abbrev s_headline : Stmt := top 50
abbrev N_headline : List Str := ["entry", "first", "kind", "message", "others"]
abbrev M_headline : List Str := ["entry", "first", "kind", "message", "others"]
abbrev P_headline : List Str := ["entry"]
theorem sc_headline : FnScope N_headline P_headline (defScope s_headline) := ⟨rfl, rfl, rfl, by decide +kernel, rfl, by decide +kernel, by decide +kernel⟩
theorem v_headline : visC (defScope s_headline) M_headline = true := by decide +kernel
theorem l_headline : locC (defScope s_headline) M_headline = true := by decide +kernel
abbrev D_headline : List Str := ["FEED"]
theorem g_headline : glC (defScope s_headline) D_headline = true := by decide +kernel

/-! look_limits -/
/-! Record.__init__ -/
abbrev s_Record___init__ : Stmt := inClass (top 52) 0
abbrev N_Record___init__ : List Str := ["self", "entries"]
abbrev M_Record___init__ : List Str := ["self", "entries"]
abbrev P_Record___init__ : List Str := ["self", "entries"]
theorem sc_Record___init__ : FnScope N_Record___init__ P_Record___init__ (defScope s_Record___init__) := ⟨rfl, rfl, rfl, by decide +kernel, rfl, by decide +kernel, by decide +kernel⟩
theorem v_Record___init__ : visC (defScope s_Record___init__) M_Record___init__ = true := by decide +kernel
theorem l_Record___init__ : locC (defScope s_Record___init__) M_Record___init__ = true := by decide +kernel
abbrev D_Record___init__ : List Str := ["tuple", "headline"]
theorem g_Record___init__ : glC (defScope s_Record___init__) D_Record___init__ = true := by decide +kernel

/-! Record.of -/
/-! Record.entries -/
abbrev s_Record_entries : Stmt := inClass (top 52) 2
abbrev N_Record_entries : List Str := ["self"]
abbrev M_Record_entries : List Str := ["self"]
abbrev P_Record_entries : List Str := ["self"]
theorem sc_Record_entries : FnScope N_Record_entries P_Record_entries (defScope s_Record_entries) := ⟨rfl, rfl, rfl, by decide +kernel, rfl, by decide +kernel, by decide +kernel⟩
theorem v_Record_entries : visC (defScope s_Record_entries) M_Record_entries = true := by decide +kernel
theorem l_Record_entries : locC (defScope s_Record_entries) M_Record_entries = true := by decide +kernel
abbrev D_Record_entries : List Str := []
theorem g_Record_entries : glC (defScope s_Record_entries) D_Record_entries = true := by decide +kernel

/-! Record.__eq__ -/
/-! Record.__len__ -/
/-! Record.__str__ -/
/-! Record.__repr__ -/
/-! Record.look -/
/-! Record.entry -/
/-! Record.part -/
/-! Record.cut -/
/-! Record.ahead -/
/-! Record.along -/
/-! Record.linked -/
/-! Fault.__init__ -/
abbrev s_Fault___init__ : Stmt := inClass (top 55) 0
abbrev N_Fault___init__ : List Str := ["self", "kind", "message", "group"]
abbrev M_Fault___init__ : List Str := ["self", "kind", "message", "group"]
abbrev P_Fault___init__ : List Str := ["self", "kind", "message", "group"]
theorem sc_Fault___init__ : FnScope N_Fault___init__ P_Fault___init__ (defScope s_Fault___init__) := ⟨rfl, rfl, rfl, by decide +kernel, rfl, by decide +kernel, by decide +kernel⟩
theorem v_Fault___init__ : visC (defScope s_Fault___init__) M_Fault___init__ = true := by decide +kernel
theorem l_Fault___init__ : locC (defScope s_Fault___init__) M_Fault___init__ = true := by decide +kernel
abbrev D_Fault___init__ : List Str := []
theorem g_Fault___init__ : glC (defScope s_Fault___init__) D_Fault___init__ = true := by decide +kernel

/-! Fault.like -/
/-! Fault.context -/
/-! Fault.takes_context -/
/-! Fault.leads -/
/-! Fault.entry -/
abbrev s_Fault_entry : Stmt := inClass (top 55) 5
abbrev N_Fault_entry : List Str := ["self", "group"]
abbrev M_Fault_entry : List Str := ["self", "group"]
abbrev P_Fault_entry : List Str := ["self"]
theorem sc_Fault_entry : FnScope N_Fault_entry P_Fault_entry (defScope s_Fault_entry) := ⟨rfl, rfl, rfl, by decide +kernel, rfl, by decide +kernel, by decide +kernel⟩
theorem v_Fault_entry : visC (defScope s_Fault_entry) M_Fault_entry = true := by decide +kernel
theorem l_Fault_entry : locC (defScope s_Fault_entry) M_Fault_entry = true := by decide +kernel
abbrev D_Fault_entry : List Str := ["tuple"]
theorem g_Fault_entry : glC (defScope s_Fault_entry) D_Fault_entry = true := by decide +kernel

/-! met_from -/
abbrev s_met_from : Stmt := top 56
abbrev N_met_from : List Str := ["faults", "numbers", "found", "left", "number"]
abbrev M_met_from : List Str := ["faults", "numbers", "found", "left", "number"]
abbrev P_met_from : List Str := ["faults", "numbers"]
theorem sc_met_from : FnScope N_met_from P_met_from (defScope s_met_from) := ⟨rfl, rfl, rfl, by decide +kernel, rfl, by decide +kernel, by decide +kernel⟩
theorem v_met_from : visC (defScope s_met_from) M_met_from = true := by decide +kernel
theorem l_met_from : locC (defScope s_met_from) M_met_from = true := by decide +kernel
abbrev D_met_from : List Str := ["list"]
theorem g_met_from : glC (defScope s_met_from) D_met_from = true := by decide +kernel

/-! recorded -/
abbrev s_recorded : Stmt := top 57
abbrev N_recorded : List Str := ["faults", "number", "walk", "one", "fault"]
abbrev M_recorded : List Str := ["faults", "number", "walk"]
abbrev P_recorded : List Str := ["faults", "number"]
theorem sc_recorded : FnScope N_recorded P_recorded (defScope s_recorded) := ⟨rfl, rfl, rfl, by decide +kernel, rfl, by decide +kernel, by decide +kernel⟩
theorem v_recorded : visC (defScope s_recorded) M_recorded = true := by decide +kernel
theorem l_recorded : locC (defScope s_recorded) M_recorded = true := by decide +kernel
abbrev D_recorded : List Str := ["Walk", "Record"]
theorem g_recorded : glC (defScope s_recorded) D_recorded = true := by decide +kernel
-- comprehension at 320: own ["one", "fault"] reads ["one", "fault", "faults"] globals []

/-! avoid_ring -/
/-! Division.__init__ -/
/-! Division.make -/
/-! Division.divided -/
/-! Leaves.__init__ -/
/-! Leaves.go_through -/
/-! Star.__init__ -/
/-! Star.fitting -/
/-! Star.projection -/
/-! Star.taken -/
/-! Star.remaining -/
/-! Star.open_part -/
/-! Star.close_part -/
/-! Star.roots -/
/-! Frame.__init__ -/
abbrev s_Frame___init__ : Stmt := inClass (top 66) 0
abbrev N_Frame___init__ : List Str := ["self", "number", "function", "file", "edition"]
abbrev M_Frame___init__ : List Str := ["self", "number", "function", "file", "edition"]
abbrev P_Frame___init__ : List Str := ["self", "number", "function", "file", "edition"]
theorem sc_Frame___init__ : FnScope N_Frame___init__ P_Frame___init__ (defScope s_Frame___init__) := ⟨rfl, rfl, rfl, by decide +kernel, rfl, by decide +kernel, by decide +kernel⟩
theorem v_Frame___init__ : visC (defScope s_Frame___init__) M_Frame___init__ = true := by decide +kernel
theorem l_Frame___init__ : locC (defScope s_Frame___init__) M_Frame___init__ = true := by decide +kernel
abbrev D_Frame___init__ : List Str := []
theorem g_Frame___init__ : glC (defScope s_Frame___init__) D_Frame___init__ = true := by decide +kernel

/-! Frame.as_tuple -/
abbrev s_Frame_as_tuple : Stmt := inClass (top 66) 1
abbrev N_Frame_as_tuple : List Str := ["self"]
abbrev M_Frame_as_tuple : List Str := ["self"]
abbrev P_Frame_as_tuple : List Str := ["self"]
theorem sc_Frame_as_tuple : FnScope N_Frame_as_tuple P_Frame_as_tuple (defScope s_Frame_as_tuple) := ⟨rfl, rfl, rfl, by decide +kernel, rfl, by decide +kernel, by decide +kernel⟩
theorem v_Frame_as_tuple : visC (defScope s_Frame_as_tuple) M_Frame_as_tuple = true := by decide +kernel
theorem l_Frame_as_tuple : locC (defScope s_Frame_as_tuple) M_Frame_as_tuple = true := by decide +kernel
abbrev D_Frame_as_tuple : List Str := []
theorem g_Frame_as_tuple : glC (defScope s_Frame_as_tuple) D_Frame_as_tuple = true := by decide +kernel

/-! Frame.row -/
abbrev s_Frame_row : Stmt := inClass (top 66) 2
abbrev N_Frame_row : List Str := ["self", "function", "file", "edition"]
abbrev M_Frame_row : List Str := ["self", "function", "file", "edition"]
abbrev P_Frame_row : List Str := ["self"]
theorem sc_Frame_row : FnScope N_Frame_row P_Frame_row (defScope s_Frame_row) := ⟨rfl, rfl, rfl, by decide +kernel, rfl, by decide +kernel, by decide +kernel⟩
theorem v_Frame_row : visC (defScope s_Frame_row) M_Frame_row = true := by decide +kernel
theorem l_Frame_row : locC (defScope s_Frame_row) M_Frame_row = true := by decide +kernel
abbrev D_Frame_row : List Str := []
theorem g_Frame_row : glC (defScope s_Frame_row) D_Frame_row = true := by decide +kernel

/-! look_name -/
abbrev s_look_name : Stmt := top 67
abbrev N_look_name : List Str := ["name"]
abbrev M_look_name : List Str := ["name"]
abbrev P_look_name : List Str := ["name"]
theorem sc_look_name : FnScope N_look_name P_look_name (defScope s_look_name) := ⟨rfl, rfl, rfl, by decide +kernel, rfl, by decide +kernel, by decide +kernel⟩
theorem v_look_name : visC (defScope s_look_name) M_look_name = true := by decide +kernel
theorem l_look_name : locC (defScope s_look_name) M_look_name = true := by decide +kernel
abbrev D_look_name : List Str := ["is_name", "NoName"]
theorem g_look_name : glC (defScope s_look_name) D_look_name = true := by decide +kernel

/-! look_text -/
abbrev s_look_text : Stmt := top 68
abbrev N_look_text : List Str := ["text"]
abbrev M_look_text : List Str := ["text"]
abbrev P_look_text : List Str := ["text"]
theorem sc_look_text : FnScope N_look_text P_look_text (defScope s_look_text) := ⟨rfl, rfl, rfl, by decide +kernel, rfl, by decide +kernel, by decide +kernel⟩
theorem v_look_text : visC (defScope s_look_text) M_look_text = true := by decide +kernel
theorem l_look_text : locC (defScope s_look_text) M_look_text = true := by decide +kernel
abbrev D_look_text : List Str := ["is_text", "NoText"]
theorem g_look_text : glC (defScope s_look_text) D_look_text = true := by decide +kernel

/-! look_line -/
abbrev s_look_line : Stmt := top 69
abbrev N_look_line : List Str := ["line", "least"]
abbrev M_look_line : List Str := ["line", "least"]
abbrev P_look_line : List Str := ["line", "least"]
theorem sc_look_line : FnScope N_look_line P_look_line (defScope s_look_line) := ⟨rfl, rfl, rfl, by decide +kernel, rfl, by decide +kernel, by decide +kernel⟩
theorem v_look_line : visC (defScope s_look_line) M_look_line = true := by decide +kernel
theorem l_look_line : locC (defScope s_look_line) M_look_line = true := by decide +kernel
abbrev D_look_line : List Str := ["is_from", "NoLine"]
theorem g_look_line : glC (defScope s_look_line) D_look_line = true := by decide +kernel

/-! look_kinds -/
/-! Recorder.__init__ -/
abbrev s_Recorder___init__ : Stmt := inClass (top 71) 2
abbrev N_Recorder___init__ : List Str := ["self"]
abbrev M_Recorder___init__ : List Str := ["self"]
abbrev P_Recorder___init__ : List Str := ["self"]
theorem sc_Recorder___init__ : FnScope N_Recorder___init__ P_Recorder___init__ (defScope s_Recorder___init__) := ⟨rfl, rfl, rfl, by decide +kernel, rfl, by decide +kernel, by decide +kernel⟩
theorem v_Recorder___init__ : visC (defScope s_Recorder___init__) M_Recorder___init__ = true := by decide +kernel
theorem l_Recorder___init__ : locC (defScope s_Recorder___init__) M_Recorder___init__ = true := by decide +kernel
abbrev D_Recorder___init__ : List Str := []
theorem g_Recorder___init__ : glC (defScope s_Recorder___init__) D_Recorder___init__ = true := by decide +kernel

/-! Recorder.played -/
/-! Recorder.keep -/
abbrev s_Recorder_keep : Stmt := inClass (top 71) 4
abbrev N_Recorder_keep : List Str := ["self", "call"]
abbrev M_Recorder_keep : List Str := ["self", "call"]
abbrev P_Recorder_keep : List Str := ["self", "call"]
theorem sc_Recorder_keep : FnScope N_Recorder_keep P_Recorder_keep (defScope s_Recorder_keep) := ⟨rfl, rfl, rfl, by decide +kernel, rfl, by decide +kernel, by decide +kernel⟩
theorem v_Recorder_keep : visC (defScope s_Recorder_keep) M_Recorder_keep = true := by decide +kernel
theorem l_Recorder_keep : locC (defScope s_Recorder_keep) M_Recorder_keep = true := by decide +kernel
abbrev D_Recorder_keep : List Str := []
theorem g_Recorder_keep : glC (defScope s_Recorder_keep) D_Recorder_keep = true := by decide +kernel

/-! Recorder.look_calm -/
abbrev s_Recorder_look_calm : Stmt := inClass (top 71) 5
abbrev N_Recorder_look_calm : List Str := ["self"]
abbrev M_Recorder_look_calm : List Str := ["self"]
abbrev P_Recorder_look_calm : List Str := ["self"]
theorem sc_Recorder_look_calm : FnScope N_Recorder_look_calm P_Recorder_look_calm (defScope s_Recorder_look_calm) := ⟨rfl, rfl, rfl, by decide +kernel, rfl, by decide +kernel, by decide +kernel⟩
theorem v_Recorder_look_calm : visC (defScope s_Recorder_look_calm) M_Recorder_look_calm = true := by decide +kernel
theorem l_Recorder_look_calm : locC (defScope s_Recorder_look_calm) M_Recorder_look_calm = true := by decide +kernel
abbrev D_Recorder_look_calm : List Str := ["Flying"]
theorem g_Recorder_look_calm : glC (defScope s_Recorder_look_calm) D_Recorder_look_calm = true := by decide +kernel

/-! Recorder.look_frame -/
abbrev s_Recorder_look_frame : Stmt := inClass (top 71) 6
abbrev N_Recorder_look_frame : List Str := ["self"]
abbrev M_Recorder_look_frame : List Str := ["self"]
abbrev P_Recorder_look_frame : List Str := ["self"]
theorem sc_Recorder_look_frame : FnScope N_Recorder_look_frame P_Recorder_look_frame (defScope s_Recorder_look_frame) := ⟨rfl, rfl, rfl, by decide +kernel, rfl, by decide +kernel, by decide +kernel⟩
theorem v_Recorder_look_frame : visC (defScope s_Recorder_look_frame) M_Recorder_look_frame = true := by decide +kernel
theorem l_Recorder_look_frame : locC (defScope s_Recorder_look_frame) M_Recorder_look_frame = true := by decide +kernel
abbrev D_Recorder_look_frame : List Str := ["NoFrame"]
theorem g_Recorder_look_frame : glC (defScope s_Recorder_look_frame) D_Recorder_look_frame = true := by decide +kernel

/-! Recorder.fault_of -/
/-! Recorder.cause_of -/
abbrev s_Recorder_cause_of : Stmt := inClass (top 71) 8
abbrev N_Recorder_cause_of : List Str := ["self", "name"]
abbrev M_Recorder_cause_of : List Str := ["self", "name"]
abbrev P_Recorder_cause_of : List Str := ["self", "name"]
theorem sc_Recorder_cause_of : FnScope N_Recorder_cause_of P_Recorder_cause_of (defScope s_Recorder_cause_of) := ⟨rfl, rfl, rfl, by decide +kernel, rfl, by decide +kernel, by decide +kernel⟩
theorem v_Recorder_cause_of : visC (defScope s_Recorder_cause_of) M_Recorder_cause_of = true := by decide +kernel
theorem l_Recorder_cause_of : locC (defScope s_Recorder_cause_of) M_Recorder_cause_of = true := by decide +kernel
abbrev D_Recorder_cause_of : List Str := []
theorem g_Recorder_cause_of : glC (defScope s_Recorder_cause_of) D_Recorder_cause_of = true := by decide +kernel

/-! Recorder.made -/
abbrev s_Recorder_made : Stmt := inClass (top 71) 9
abbrev N_Recorder_made : List Str := ["self", "fault", "number"]
abbrev M_Recorder_made : List Str := ["self", "fault", "number"]
abbrev P_Recorder_made : List Str := ["self", "fault"]
theorem sc_Recorder_made : FnScope N_Recorder_made P_Recorder_made (defScope s_Recorder_made) := ⟨rfl, rfl, rfl, by decide +kernel, rfl, by decide +kernel, by decide +kernel⟩
theorem v_Recorder_made : visC (defScope s_Recorder_made) M_Recorder_made = true := by decide +kernel
theorem l_Recorder_made : locC (defScope s_Recorder_made) M_Recorder_made = true := by decide +kernel
abbrev D_Recorder_made : List Str := ["MOST_ERRORS_recorder", "len", "TooMany"]
theorem g_Recorder_made : glC (defScope s_Recorder_made) D_Recorder_made = true := by decide +kernel

/-! Recorder.call -/
abbrev s_Recorder_call : Stmt := inClass (top 71) 10
abbrev N_Recorder_call : List Str := ["self", "function", "file", "edition"]
abbrev M_Recorder_call : List Str := ["self", "function", "file", "edition"]
abbrev P_Recorder_call : List Str := ["self", "function", "file", "edition"]
theorem sc_Recorder_call : FnScope N_Recorder_call P_Recorder_call (defScope s_Recorder_call) := ⟨rfl, rfl, rfl, by decide +kernel, rfl, by decide +kernel, by decide +kernel⟩
theorem v_Recorder_call : visC (defScope s_Recorder_call) M_Recorder_call = true := by decide +kernel
theorem l_Recorder_call : locC (defScope s_Recorder_call) M_Recorder_call = true := by decide +kernel
abbrev D_Recorder_call : List Str := ["look_name", "look_line", "MOST_FRAMES_recorder", "len", "TooMany", "Frame"]
theorem g_Recorder_call : glC (defScope s_Recorder_call) D_Recorder_call = true := by decide +kernel

/-! Recorder.at -/
abbrev s_Recorder_at : Stmt := inClass (top 71) 11
abbrev N_Recorder_at : List Str := ["self", "line"]
abbrev M_Recorder_at : List Str := ["self", "line"]
abbrev P_Recorder_at : List Str := ["self", "line"]
theorem sc_Recorder_at : FnScope N_Recorder_at P_Recorder_at (defScope s_Recorder_at) := ⟨rfl, rfl, rfl, by decide +kernel, rfl, by decide +kernel, by decide +kernel⟩
theorem v_Recorder_at : visC (defScope s_Recorder_at) M_Recorder_at = true := by decide +kernel
theorem l_Recorder_at : locC (defScope s_Recorder_at) M_Recorder_at = true := by decide +kernel
abbrev D_Recorder_at : List Str := ["look_line"]
theorem g_Recorder_at : glC (defScope s_Recorder_at) D_Recorder_at = true := by decide +kernel

/-! Recorder.remove_top -/
abbrev s_Recorder_remove_top : Stmt := inClass (top 71) 12
abbrev N_Recorder_remove_top : List Str := ["self", "top", "number", "frame", "star"]
abbrev M_Recorder_remove_top : List Str := ["self", "top"]
abbrev P_Recorder_remove_top : List Str := ["self"]
theorem sc_Recorder_remove_top : FnScope N_Recorder_remove_top P_Recorder_remove_top (defScope s_Recorder_remove_top) := ⟨rfl, rfl, rfl, by decide +kernel, rfl, by decide +kernel, by decide +kernel⟩
theorem v_Recorder_remove_top : visC (defScope s_Recorder_remove_top) M_Recorder_remove_top = true := by decide +kernel
theorem l_Recorder_remove_top : locC (defScope s_Recorder_remove_top) M_Recorder_remove_top = true := by decide +kernel
abbrev D_Recorder_remove_top : List Str := []
theorem g_Recorder_remove_top : glC (defScope s_Recorder_remove_top) D_Recorder_remove_top = true := by decide +kernel
-- comprehension at 503: own ["number", "frame"] reads ["number", "frame", "self", "top"] globals []
-- comprehension at 504: own ["star"] reads ["star", "self", "top"] globals []

/-! Recorder.leave -/
abbrev s_Recorder_leave : Stmt := inClass (top 71) 13
abbrev N_Recorder_leave : List Str := ["self"]
abbrev M_Recorder_leave : List Str := ["self"]
abbrev P_Recorder_leave : List Str := ["self"]
theorem sc_Recorder_leave : FnScope N_Recorder_leave P_Recorder_leave (defScope s_Recorder_leave) := ⟨rfl, rfl, rfl, by decide +kernel, rfl, by decide +kernel, by decide +kernel⟩
theorem v_Recorder_leave : visC (defScope s_Recorder_leave) M_Recorder_leave = true := by decide +kernel
theorem l_Recorder_leave : locC (defScope s_Recorder_leave) M_Recorder_leave = true := by decide +kernel
abbrev D_Recorder_leave : List Str := []
theorem g_Recorder_leave : glC (defScope s_Recorder_leave) D_Recorder_leave = true := by decide +kernel

/-! Recorder.fly -/
abbrev s_Recorder_fly : Stmt := inClass (top 71) 14
abbrev N_Recorder_fly : List Str := ["self", "number", "cause", "alone", "fault", "handled"]
abbrev M_Recorder_fly : List Str := ["self", "number", "cause", "alone", "fault", "handled"]
abbrev P_Recorder_fly : List Str := ["self", "number", "cause", "alone"]
theorem sc_Recorder_fly : FnScope N_Recorder_fly P_Recorder_fly (defScope s_Recorder_fly) := ⟨rfl, rfl, rfl, by decide +kernel, rfl, by decide +kernel, by decide +kernel⟩
theorem v_Recorder_fly : visC (defScope s_Recorder_fly) M_Recorder_fly = true := by decide +kernel
theorem l_Recorder_fly : locC (defScope s_Recorder_fly) M_Recorder_fly = true := by decide +kernel
abbrev D_Recorder_fly : List Str := ["CAUSE", "avoid_ring", "CONTEXT"]
theorem g_Recorder_fly : glC (defScope s_Recorder_fly) D_Recorder_fly = true := by decide +kernel

/-! Recorder.look_throw -/
abbrev s_Recorder_look_throw : Stmt := inClass (top 71) 15
abbrev N_Recorder_look_throw : List Str := ["self", "kind", "message"]
abbrev M_Recorder_look_throw : List Str := ["self", "kind", "message"]
abbrev P_Recorder_look_throw : List Str := ["self", "kind", "message"]
theorem sc_Recorder_look_throw : FnScope N_Recorder_look_throw P_Recorder_look_throw (defScope s_Recorder_look_throw) := ⟨rfl, rfl, rfl, by decide +kernel, rfl, by decide +kernel, by decide +kernel⟩
theorem v_Recorder_look_throw : visC (defScope s_Recorder_look_throw) M_Recorder_look_throw = true := by decide +kernel
theorem l_Recorder_look_throw : locC (defScope s_Recorder_look_throw) M_Recorder_look_throw = true := by decide +kernel
abbrev D_Recorder_look_throw : List Str := ["look_name", "look_text"]
theorem g_Recorder_look_throw : glC (defScope s_Recorder_look_throw) D_Recorder_look_throw = true := by decide +kernel

/-! Recorder.throw -/
abbrev s_Recorder_throw : Stmt := inClass (top 71) 16
abbrev N_Recorder_throw : List Str := ["self", "kind", "message", "cause", "alone", "given"]
abbrev M_Recorder_throw : List Str := ["self", "kind", "message", "cause", "alone", "given"]
abbrev P_Recorder_throw : List Str := ["self", "kind", "message", "cause", "alone"]
theorem sc_Recorder_throw : FnScope N_Recorder_throw P_Recorder_throw (defScope s_Recorder_throw) := ⟨rfl, rfl, rfl, by decide +kernel, rfl, by decide +kernel, by decide +kernel⟩
theorem v_Recorder_throw : visC (defScope s_Recorder_throw) M_Recorder_throw = true := by decide +kernel
theorem l_Recorder_throw : locC (defScope s_Recorder_throw) M_Recorder_throw = true := by decide +kernel
abbrev D_Recorder_throw : List Str := ["Fault"]
theorem g_Recorder_throw : glC (defScope s_Recorder_throw) D_Recorder_throw = true := by decide +kernel

/-! Recorder.throw_again -/
/-! Recorder.throw_group -/
/-! Recorder.pass_on -/
abbrev s_Recorder_pass_on : Stmt := inClass (top 71) 19
abbrev N_Recorder_pass_on : List Str := ["self", "found"]
abbrev M_Recorder_pass_on : List Str := ["self", "found"]
abbrev P_Recorder_pass_on : List Str := ["self"]
theorem sc_Recorder_pass_on : FnScope N_Recorder_pass_on P_Recorder_pass_on (defScope s_Recorder_pass_on) := ⟨rfl, rfl, rfl, by decide +kernel, rfl, by decide +kernel, by decide +kernel⟩
theorem v_Recorder_pass_on : visC (defScope s_Recorder_pass_on) M_Recorder_pass_on = true := by decide +kernel
theorem l_Recorder_pass_on : locC (defScope s_Recorder_pass_on) M_Recorder_pass_on = true := by decide +kernel
abbrev D_Recorder_pass_on : List Str := ["recorded", "Calm"]
theorem g_Recorder_pass_on : glC (defScope s_Recorder_pass_on) D_Recorder_pass_on = true := by decide +kernel

/-! Recorder.handle -/
/-! Recorder.rethrow -/
/-! Recorder.done -/
/-! Recorder.add_all -/
/-! Recorder.top_star -/
/-! Recorder.star -/
/-! Recorder.star_handle -/
/-! Recorder.star_done -/
/-! Recorder.star_end -/
/-! Recorder.note -/
/-! Recorder.copy -/
/-! Recorder.drop -/
/-! Recorder.split -/
/-! Recorder.record_of -/
/-! Recorder.flying -/
abbrev s_Recorder_flying : Stmt := inClass (top 71) 34
abbrev N_Recorder_flying : List Str := ["self"]
abbrev M_Recorder_flying : List Str := ["self"]
abbrev P_Recorder_flying : List Str := ["self"]
theorem sc_Recorder_flying : FnScope N_Recorder_flying P_Recorder_flying (defScope s_Recorder_flying) := ⟨rfl, rfl, rfl, by decide +kernel, rfl, by decide +kernel, by decide +kernel⟩
theorem v_Recorder_flying : visC (defScope s_Recorder_flying) M_Recorder_flying = true := by decide +kernel
theorem l_Recorder_flying : locC (defScope s_Recorder_flying) M_Recorder_flying = true := by decide +kernel
abbrev D_Recorder_flying : List Str := ["recorded"]
theorem g_Recorder_flying : glC (defScope s_Recorder_flying) D_Recorder_flying = true := by decide +kernel

/-! Recorder.handled -/
abbrev s_Recorder_handled : Stmt := inClass (top 71) 35
abbrev N_Recorder_handled : List Str := ["self", "number", "frame"]
abbrev M_Recorder_handled : List Str := ["self"]
abbrev P_Recorder_handled : List Str := ["self"]
theorem sc_Recorder_handled : FnScope N_Recorder_handled P_Recorder_handled (defScope s_Recorder_handled) := ⟨rfl, rfl, rfl, by decide +kernel, rfl, by decide +kernel, by decide +kernel⟩
theorem v_Recorder_handled : visC (defScope s_Recorder_handled) M_Recorder_handled = true := by decide +kernel
theorem l_Recorder_handled : locC (defScope s_Recorder_handled) M_Recorder_handled = true := by decide +kernel
abbrev D_Recorder_handled : List Str := []
theorem g_Recorder_handled : glC (defScope s_Recorder_handled) D_Recorder_handled = true := by decide +kernel
-- comprehension at 628: own ["number", "frame"] reads ["number", "self"] globals ["recorded"]

/-! Recorder.held -/
abbrev s_Recorder_held : Stmt := inClass (top 71) 36
abbrev N_Recorder_held : List Str := ["self", "roots", "number", "frame", "star"]
abbrev M_Recorder_held : List Str := ["self", "roots"]
abbrev P_Recorder_held : List Str := ["self"]
theorem sc_Recorder_held : FnScope N_Recorder_held P_Recorder_held (defScope s_Recorder_held) := ⟨rfl, rfl, rfl, by decide +kernel, rfl, by decide +kernel, by decide +kernel⟩
theorem v_Recorder_held : visC (defScope s_Recorder_held) M_Recorder_held = true := by decide +kernel
theorem l_Recorder_held : locC (defScope s_Recorder_held) M_Recorder_held = true := by decide +kernel
abbrev D_Recorder_held : List Str := ["len", "list", "met_from"]
theorem g_Recorder_held : glC (defScope s_Recorder_held) D_Recorder_held = true := by decide +kernel
-- comprehension at 631: own ["number", "frame"] reads ["number", "self"] globals []
-- comprehension at 632: own ["star", "number"] reads ["number", "self", "star"] globals []

/-! Recorder.frames -/
abbrev s_Recorder_frames : Stmt := inClass (top 71) 37
abbrev N_Recorder_frames : List Str := ["self", "frame"]
abbrev M_Recorder_frames : List Str := ["self"]
abbrev P_Recorder_frames : List Str := ["self"]
theorem sc_Recorder_frames : FnScope N_Recorder_frames P_Recorder_frames (defScope s_Recorder_frames) := ⟨rfl, rfl, rfl, by decide +kernel, rfl, by decide +kernel, by decide +kernel⟩
theorem v_Recorder_frames : visC (defScope s_Recorder_frames) M_Recorder_frames = true := by decide +kernel
theorem l_Recorder_frames : locC (defScope s_Recorder_frames) M_Recorder_frames = true := by decide +kernel
abbrev D_Recorder_frames : List Str := []
theorem g_Recorder_frames : glC (defScope s_Recorder_frames) D_Recorder_frames = true := by decide +kernel
-- comprehension at 636: own ["frame"] reads ["frame", "self"] globals []

/-! Recorder.names -/
abbrev s_Recorder_names : Stmt := inClass (top 71) 38
abbrev N_Recorder_names : List Str := ["self"]
abbrev M_Recorder_names : List Str := ["self"]
abbrev P_Recorder_names : List Str := ["self"]
theorem sc_Recorder_names : FnScope N_Recorder_names P_Recorder_names (defScope s_Recorder_names) := ⟨rfl, rfl, rfl, by decide +kernel, rfl, by decide +kernel, by decide +kernel⟩
theorem v_Recorder_names : visC (defScope s_Recorder_names) M_Recorder_names = true := by decide +kernel
theorem l_Recorder_names : locC (defScope s_Recorder_names) M_Recorder_names = true := by decide +kernel
abbrev D_Recorder_names : List Str := ["sorted"]
theorem g_Recorder_names : glC (defScope s_Recorder_names) D_Recorder_names = true := by decide +kernel

/-! Recorder.history -/
/-! _law_bag -/
abbrev s_bag : Stmt := top 73
abbrev N_bag : List Str := ["_law_script", "_law_at", "_law_cell"]
abbrev M_bag : List Str := ["_law_script", "_law_at", "_law_cell"]
abbrev P_bag : List Str := ["_law_script", "_law_at"]
theorem sc_bag : FnScope N_bag P_bag (defScope s_bag) := ⟨rfl, rfl, rfl, by decide +kernel, rfl, by decide +kernel, by decide +kernel⟩
theorem v_bag : visC (defScope s_bag) M_bag = true := by decide +kernel
theorem l_bag : locC (defScope s_bag) M_bag = true := by decide +kernel
abbrev D_bag : List Str := ["len", "abs", "int"]
theorem g_bag : glC (defScope s_bag) D_bag = true := by decide +kernel

/-! _law_take -/
abbrev s_take : Stmt := top 74
abbrev N_take : List Str := ["_law_bag_here", "_law_many", "_law_primes", "_law_step", "_law_base", "_law_mixed", "_law_more", "_law_digit"]
abbrev M_take : List Str := ["_law_bag_here", "_law_many", "_law_primes", "_law_step", "_law_base", "_law_mixed", "_law_more", "_law_digit"]
abbrev P_take : List Str := ["_law_bag_here", "_law_many"]
theorem sc_take : FnScope N_take P_take (defScope s_take) := ⟨rfl, rfl, rfl, by decide +kernel, rfl, by decide +kernel, by decide +kernel⟩
theorem v_take : visC (defScope s_take) M_take = true := by decide +kernel
theorem l_take : locC (defScope s_take) M_take = true := by decide +kernel
abbrev D_take : List Str := []
theorem g_take : glC (defScope s_take) D_take = true := by decide +kernel

/-! _law_of -/
abbrev s_of : Stmt := top 75
abbrev N_of : List Str := ["_law_bag_here", "_law_some"]
abbrev M_of : List Str := ["_law_bag_here", "_law_some"]
abbrev P_of : List Str := ["_law_bag_here", "_law_some"]
theorem sc_of : FnScope N_of P_of (defScope s_of) := ⟨rfl, rfl, rfl, by decide +kernel, rfl, by decide +kernel, by decide +kernel⟩
theorem v_of : visC (defScope s_of) M_of = true := by decide +kernel
theorem l_of : locC (defScope s_of) M_of = true := by decide +kernel
abbrev D_of : List Str := ["_law_take", "len"]
theorem g_of : glC (defScope s_of) D_of = true := by decide +kernel

/-! _law_name -/
abbrev s_name : Stmt := top 76
abbrev N_name : List Str := ["_law_bag_here", "_law_words", "_law_letters", "_law_k"]
abbrev M_name : List Str := ["_law_bag_here", "_law_words", "_law_letters"]
abbrev P_name : List Str := ["_law_bag_here"]
theorem sc_name : FnScope N_name P_name (defScope s_name) := ⟨rfl, rfl, rfl, by decide +kernel, rfl, by decide +kernel, by decide +kernel⟩
theorem v_name : visC (defScope s_name) M_name = true := by decide +kernel
theorem l_name : locC (defScope s_name) M_name = true := by decide +kernel
abbrev D_name : List Str := ["_law_take", "_law_of", "range"]
theorem g_name : glC (defScope s_name) D_name = true := by decide +kernel
-- comprehension at 668: own ["_law_k"] reads ["_law_letters", "_law_bag_here"] globals ["_law_take", "range", "_law_of"]

/-! _law_word -/
abbrev s_word : Stmt := top 77
abbrev N_word : List Str := ["_law_bag_here"]
abbrev M_word : List Str := ["_law_bag_here"]
abbrev P_word : List Str := ["_law_bag_here"]
theorem sc_word : FnScope N_word P_word (defScope s_word) := ⟨rfl, rfl, rfl, by decide +kernel, rfl, by decide +kernel, by decide +kernel⟩
theorem v_word : visC (defScope s_word) M_word = true := by decide +kernel
theorem l_word : locC (defScope s_word) M_word = true := by decide +kernel
abbrev D_word : List Str := ["_law_of"]
theorem g_word : glC (defScope s_word) D_word = true := by decide +kernel

/-! _law_frame -/
abbrev s_frame : Stmt := top 78
abbrev N_frame : List Str := ["_law_bag_here", "_law_recorder", "_law_spot", "_law_k", "_law_function", "_law_file", "_law_stand"]
abbrev M_frame : List Str := ["_law_bag_here", "_law_recorder", "_law_spot", "_law_k", "_law_function", "_law_file", "_law_stand"]
abbrev P_frame : List Str := ["_law_bag_here", "_law_recorder"]
theorem sc_frame : FnScope N_frame P_frame (defScope s_frame) := ⟨rfl, rfl, rfl, by decide +kernel, rfl, by decide +kernel, by decide +kernel⟩
theorem v_frame : visC (defScope s_frame) M_frame = true := by decide +kernel
theorem l_frame : locC (defScope s_frame) M_frame = true := by decide +kernel
abbrev D_frame : List Str := ["range", "_law_name", "_law_of", "_law_take"]
theorem g_frame : glC (defScope s_frame) D_frame = true := by decide +kernel

/-! _law_out -/
abbrev s_out : Stmt := top 79
abbrev N_out : List Str := ["_law_recorder", "_law_rows", "_law_message", "_law_told", "_law_many", "_law_due"]
abbrev M_out : List Str := ["_law_recorder", "_law_rows", "_law_message", "_law_told", "_law_many", "_law_due"]
abbrev P_out : List Str := ["_law_recorder", "_law_rows", "_law_message"]
theorem sc_out : FnScope N_out P_out (defScope s_out) := ⟨rfl, rfl, rfl, by decide +kernel, rfl, by decide +kernel, by decide +kernel⟩
theorem v_out : visC (defScope s_out) M_out = true := by decide +kernel
theorem l_out : locC (defScope s_out) M_out = true := by decide +kernel
abbrev D_out : List Str := ["range", "len", "tuple", "isinstance", "Record"]
theorem g_out : glC (defScope s_out) D_out = true := by decide +kernel

/-! law -/
abbrev s_law : Stmt := top 80
abbrev N_law : List Str := ["_law_script", "_law_at", "_law_recorder", "_law_bag_here", "_law_turn", "_law_k", "_law_rows", "_law_row"]
abbrev M_law : List Str := ["_law_script", "_law_at", "_law_recorder", "_law_bag_here", "_law_turn", "_law_k", "_law_rows"]
abbrev P_law : List Str := ["_law_script"]
theorem sc_law : FnScope N_law P_law (defScope s_law) := ⟨rfl, rfl, rfl, by decide +kernel, rfl, by decide +kernel, by decide +kernel⟩
theorem v_law : visC (defScope s_law) M_law = true := by decide +kernel
theorem l_law : locC (defScope s_law) M_law = true := by decide +kernel
abbrev D_law : List Str := ["range", "Recorder", "max", "_law_bag", "min", "len", "_law_out", "_law_take", "_law_frame", "_law_word"]
theorem g_law : glC (defScope s_law) D_law = true := by decide +kernel
-- comprehension at 699: own ["_law_row"] reads ["_law_rows", "_law_row"] globals []
end K31
set_option maxHeartbeats 4000000
open PySem L2 DL
local macro_rules | `(tactic| walk_at "kd") => `(tactic| first | rfl | assumption | exact kind_of_py (by assumption))
local macro_rules | `(tactic| walk_at "ct") => `(tactic| first | trivial | assumption | omega | exact Or.inl ⟨by omega, by omega⟩ | exact Or.inr ⟨by omega, by omega⟩ | decide)
local macro_rules | `(tactic| walk_at "sz") => `(tactic| first | (exact ⟨by omega, by omega, Nat.le_of_ble_eq_true rfl⟩) | (refine Nat.le_trans (Nat.le_of_ble_eq_true (m := 1000) rfl) (by decide)) | (refine Nat.lt_of_le_of_lt (Nat.le_of_ble_eq_true (m := 1000) rfl) (by decide)) | (simp only [rep_len, List.length_append, List.length_cons, List.length_nil]; refine Nat.le_trans (m := 1000) (by omega) (by decide)))
local macro_rules | `(tactic| walk_at "bad") => `(tactic| first
  | (rename_i q; exact Bool.noConfusion (show false = true from q))
  | (rename_i q; exact Bool.noConfusion (show true = false from q))
  | (rename_i q _; exact Bool.noConfusion (show false = true from q))
  | (rename_i q _; exact Bool.noConfusion (show true = false from q))
  | (rename_i q _ _; exact Bool.noConfusion (show false = true from q))
  | (rename_i q _ _; exact Bool.noConfusion (show true = false from q))
  | (rename_i q _ _ _; exact Bool.noConfusion (show false = true from q))
  | (rename_i q _ _ _; exact Bool.noConfusion (show true = false from q))
  | (rename_i q _ _ _ _; exact Bool.noConfusion (show false = true from q))
  | (rename_i q _ _ _ _; exact Bool.noConfusion (show true = false from q)))
local macro_rules | `(tactic| walk_at "fg") => `(tactic| first
  | exact FGet.here _ _ _ _
  | exact FGet.there (by decide +kernel) (FGet.here _ _ _ _)
  | exact FGet.there (by decide +kernel) (FGet.there (by decide +kernel) (FGet.here _ _ _ _))
  | exact FGet.there (by decide +kernel) (FGet.there (by decide +kernel) (FGet.there (by decide +kernel) (FGet.here _ _ _ _)))
  | exact FGet.there (by decide +kernel) (FGet.there (by decide +kernel) (FGet.there (by decide +kernel) (FGet.there (by decide +kernel) (FGet.here _ _ _ _))))
  | exact FGet.there (by decide +kernel) (FGet.there (by decide +kernel) (FGet.there (by decide +kernel) (FGet.there (by decide +kernel) (FGet.there (by decide +kernel) (FGet.here _ _ _ _)))))
  | exact FGet.there (by decide +kernel) (FGet.there (by decide +kernel) (FGet.there (by decide +kernel) (FGet.there (by decide +kernel) (FGet.there (by decide +kernel) (FGet.there (by decide +kernel) (FGet.here _ _ _ _))))))
  | exact FGet.there (by decide +kernel) (FGet.there (by decide +kernel) (FGet.there (by decide +kernel) (FGet.there (by decide +kernel) (FGet.there (by decide +kernel) (FGet.there (by decide +kernel) (FGet.there (by decide +kernel) (FGet.here _ _ _ _)))))))
  | exact FGet.there (by decide +kernel) (FGet.there (by decide +kernel) (FGet.there (by decide +kernel) (FGet.there (by decide +kernel) (FGet.there (by decide +kernel) (FGet.there (by decide +kernel) (FGet.there (by decide +kernel) (FGet.there (by decide +kernel) (FGet.here _ _ _ _))))))))
  | exact FGet.there (by decide +kernel) (FGet.there (by decide +kernel) (FGet.there (by decide +kernel) (FGet.there (by decide +kernel) (FGet.there (by decide +kernel) (FGet.there (by decide +kernel) (FGet.there (by decide +kernel) (FGet.there (by decide +kernel) (FGet.there (by decide +kernel) (FGet.here _ _ _ _))))))))))
local macro_rules | `(tactic| walk_at "nm") => `(tactic| first
  | ((with_reducible show DL.Mem _ _); repeat' (first | with_reducible exact Mem.here _ _ | with_reducible apply Mem.there))
  | ((with_reducible show DL.Get _ _ _ _); repeat' (first | with_reducible exact Get.here _ _ _ _ | with_reducible apply Get.there))
  | ((with_reducible show DL.Put _ _ _ _); repeat' (first | with_reducible exact Put.here _ _ _ _ | with_reducible apply Put.there)))
local macro_rules | `(tactic| walk_at "gl") => `(tactic| (refine Gls.at (by assumption) ?_; repeat' (first | with_reducible exact Mem.here _ _ | with_reducible apply Mem.there)))
local macro_rules | `(tactic| walk_at "wg") => `(tactic| repeat' (first
  | ((with_reducible refine' wgs_consS ?_ ?k1); (case k1 => rfl))
  | ((with_reducible refine' wgs_cons ?_ ?k1); (case k1 => rfl))
  | with_reducible refine wgs_nil ?_
  | ((with_reducible refine' wg_nm ?kb ?k0 ?kp ?_); (case kb => assumption); (case k0 => walk_at "nm"); (case kp => walk_at "nm"))))
local macro_rules | `(tactic| walk_at "py") => `(tactic| repeat' (first
  | ((with_reducible show DL.WE _ _ _ _ _); (first
    | ((with_reducible show DL.WE _ (Expr.BoolOp _ _ _) _ _ _); (first | with_reducible refine we_and ?_ | with_reducible refine we_or ?_ | with_reducible refine we_one ?_))
    | ((with_reducible show DL.WE _ (Expr.UnaryOp _ _ _) _ _ _); (first | with_reducible refine we_not ?_ | with_reducible refine we_neg ?_))
    | ((with_reducible show DL.WE _ (Expr.IfExp _ _ _ _) _ _ _); (first | with_reducible refine we_if ?_))
    | ((with_reducible show DL.WE _ (Expr.Constant _ _ _) _ _ _); (first | with_reducible refine we_int ?_ | with_reducible refine we_bl ?_ | with_reducible refine we_non ?_ | with_reducible refine we_str ?_))
    | ((with_reducible show DL.WE _ (Expr.Tuple _ _ _) _ _ _); (first | with_reducible refine we_tup ?_))
    | ((with_reducible show DL.WE _ (Expr.Name _ _) _ _ _); (first | ((with_reducible refine' we_nm ?k1 ?k0 ?k2 ?_); (case k1 => assumption); (case k0 => walk_at "nm"); (case k2 => walk_at "nm")) | ((with_reducible refine' x_tyInt ?kx ?kz ?kg ?_); (case kx => assumption); (case kz => assumption); (case kg => walk_at "gl")) | ((with_reducible refine' x_tyBool ?kx ?kz ?kg ?_); (case kx => assumption); (case kz => assumption); (case kg => walk_at "gl")) | ((with_reducible refine' x_tyStr ?kx ?kz ?kg ?_); (case kx => assumption); (case kz => assumption); (case kg => walk_at "gl")) | ((with_reducible refine' x_tyList ?kx ?kz ?kg ?_); (case kx => assumption); (case kz => assumption); (case kg => walk_at "gl")) | ((with_reducible refine' x_tyTuple ?kx ?kz ?kg ?_); (case kx => assumption); (case kz => assumption); (case kg => walk_at "gl")) | ((with_reducible refine' x_glob ?kx ?kh ?kg ?_ ?kd); (case kh => assumption); (case kx => assumption); (case kg => walk_at "gl"); (case kd => decide))))
    | ((with_reducible show DL.WE _ (Expr.BinOp _ _ _ _) _ _ _); (first | with_reducible refine we_add ?_ | with_reducible refine we_sub' ?_ | with_reducible refine we_mul ?_ | with_reducible refine we_mod ?_ | with_reducible refine we_fdiv ?_ | with_reducible refine we_pow ?_))
    | ((with_reducible show DL.WE _ (Expr.Compare _ _ _ _) _ _ _); (first | with_reducible refine we_lt ?_ | with_reducible refine we_le ?_ | with_reducible refine we_gt ?_ | with_reducible refine we_ge ?_ | with_reducible refine we_is ?_ | with_reducible refine we_isnot ?_ | ((with_reducible refine' x_eq ?k1 ?_); (case k1 => assumption)) | ((with_reducible refine' x_ne ?k1 ?_); (case k1 => assumption)) | ((with_reducible refine' x_in ?k1 ?_ ?k2); (case k1 => assumption); (case k2 => rfl)) | ((with_reducible refine' x_nin ?k1 ?_ ?k2); (case k1 => assumption); (case k2 => rfl))))
    | ((with_reducible show DL.WE _ (Expr.Subscript _ _ _) _ _ _); (first | ((with_reducible refine' x_ixL ?_ ?k1); (case k1 => (intro _ _; rfl))) | ((with_reducible refine' we_ix ?_ ?k1); (case k1 => (intro _ _; rfl))) | with_reducible refine we_slice ?_))
    | ((with_reducible show DL.WE _ (Expr.Call (Expr.Name _ _) _ _ _) _ _ _); (first | ((with_reducible refine' x_isiT ?kx ?kz ?kg ?_ ?k1 ?k2); (case kx => assumption); (case kz => assumption); (case kg => walk_at "gl"); (case k1 => rfl); (case k2 => rfl)) | ((with_reducible refine' x_isi ?kx ?kz ?kg ?_ ?k1 ?k2); (case kx => assumption); (case kz => assumption); (case kg => walk_at "gl"); (case k1 => rfl); (case k2 => rfl)) | ((with_reducible refine' x_len ?kx ?kz ?kg ?_ ?k1 ?k2); (case kx => assumption); (case kz => assumption); (case kg => walk_at "gl"); (case k1 => rfl); (case k2 => rfl)) | ((with_reducible refine' x_abs ?kx ?kz ?kg ?_ ?k1 ?k2); (case kx => assumption); (case kz => assumption); (case kg => walk_at "gl"); (case k1 => rfl); (case k2 => rfl)) | ((with_reducible refine' x_max2 ?kx ?kz ?kg ?_ ?k1 ?k2); (case kx => assumption); (case kz => assumption); (case kg => walk_at "gl"); (case k1 => rfl); (case k2 => rfl)) | ((with_reducible refine' x_min2 ?kx ?kz ?kg ?_ ?k1 ?k2); (case kx => assumption); (case kz => assumption); (case kg => walk_at "gl"); (case k1 => rfl); (case k2 => rfl)) | ((with_reducible refine' x_minL ?kx ?kz ?kg ?_ ?k1 ?k2); (case kx => assumption); (case kz => assumption); (case kg => walk_at "gl"); (case k1 => rfl); (case k2 => rfl)) | ((with_reducible refine' x_any ?kx ?kz ?kg ?_ ?k1 ?k2); (case kx => assumption); (case kz => assumption); (case kg => walk_at "gl"); (case k1 => rfl); (case k2 => rfl)) | ((with_reducible refine' x_all ?kx ?kz ?kg ?_ ?k1 ?k2); (case kx => assumption); (case kz => assumption); (case kg => walk_at "gl"); (case k1 => rfl); (case k2 => rfl)) | ((with_reducible refine' x_sum ?kx ?kz ?kg ?_ ?k1 ?k2); (case kx => assumption); (case kz => assumption); (case kg => walk_at "gl"); (case k1 => rfl); (case k2 => rfl)) | ((with_reducible refine' x_intC ?kx ?kz ?kg ?_ ?k1 ?k2); (case kx => assumption); (case kz => assumption); (case kg => walk_at "gl"); (case k1 => rfl); (case k2 => rfl)) | ((with_reducible refine' x_strC ?kx ?kz ?kg ?_ ?k1 ?k2); (case kx => assumption); (case kz => assumption); (case kg => walk_at "gl"); (case k1 => rfl); (case k2 => rfl)) | ((with_reducible refine' x_tupleC ?kx ?kz ?kg ?_ ?k1 ?k2); (case kx => assumption); (case kz => assumption); (case kg => walk_at "gl"); (case k1 => rfl); (case k2 => rfl)) | ((with_reducible refine' x_listC ?kx ?kz ?kg ?_ ?k1 ?k2); (case kx => assumption); (case kz => assumption); (case kg => walk_at "gl"); (case k1 => rfl); (case k2 => rfl)) | ((with_reducible refine' x_call ?kx ?kh ?kg ?_ ?kl ?kd ?k1 ?k2); (case kh => assumption); (case kx => assumption); (case kg => walk_at "gl"); (case kl => first | decide | omega); (case kd => decide); (case k1 => rfl); (case k2 => rfl))))
    | ((with_reducible show DL.WE _ (Expr.Call (Expr.Attribute _ _ _) _ _ _) _ _ _); (first | ((with_reducible refine' x_join ?_ ?k1 ?k2 ?k3 ?k4 ?k5); (case k1 => rfl); (case k2 => rfl); (case k3 => rfl); (case k4 => rfl); (case k5 => rfl)) | ((with_reducible refine' x_sindex ?_ ?k1 ?k2 ?k3 ?k4 ?k5); (case k1 => rfl); (case k2 => rfl); (case k3 => rfl); (case k4 => rfl); (case k5 => rfl)) | ((with_reducible refine' x_insert ?_ ?k1 ?k2 ?k3 ?k4 ?k5); (case k1 => rfl); (case k2 => rfl); (case k3 => rfl); (case k4 => rfl); (case k5 => rfl)) | ((with_reducible refine' x_popAt ?_ ?k1 ?k2 ?k3 ?k4 ?k5); (case k1 => rfl); (case k2 => rfl); (case k3 => rfl); (case k4 => rfl); (case k5 => rfl)) | ((with_reducible refine' x_append ?_ ?k1 ?k2 ?k3 ?k4 ?k5); (case k1 => rfl); (case k2 => rfl); (case k3 => rfl); (case k4 => rfl); (case k5 => rfl)) | ((with_reducible refine' x_extend ?_ ?k1 ?k2 ?k3 ?k4 ?k5); (case k1 => rfl); (case k2 => rfl); (case k3 => rfl); (case k4 => rfl); (case k5 => rfl))))))
  | ((with_reducible show DL.WSs _ _ _ _ _); (first | with_reducible refine wss_cons ?_ | with_reducible refine wss_nil ?_))
  | ((with_reducible show DL.WS _ _ _ _ _); (first
    | ((with_reducible show DL.WS _ (Stmt.If _ _ _ _) _ _ _); (first | ((with_reducible refine' x_ifWge ?kb ?k0 ?kp ?_); (case kb => assumption); (case k0 => walk_at "nm"); (case kp => walk_at "nm")) | with_reducible refine ws_if ?_))
    | ((with_reducible show DL.WS _ (Stmt.Return _ _) _ _ _); (first | with_reducible refine ws_ret ?_ | with_reducible refine ws_retN ?_))
    | ((with_reducible show DL.WS _ (Stmt.Pass _) _ _ _); (first | with_reducible refine ws_pass ?_))
    | ((with_reducible show DL.WS _ (Stmt.Break _) _ _ _); (first | with_reducible refine ws_break ?_))
    | ((with_reducible show DL.WS _ (Stmt.Continue _) _ _ _); (first | with_reducible refine ws_continue ?_))
    | ((with_reducible show DL.WS _ (Stmt.Assign _ _ _) _ _ _); (first | ((with_reducible refine' ws_nm ?kb ?k0 ?kp ?_ ?k1); (case kb => assumption); (case k0 => walk_at "nm"); (case kp => walk_at "nm"); (case k1 => rfl)) | ((with_reducible refine' x_par2 ?kd ?k1 ?k2 ?k3 ?k4 ?k5 ?k6 ?_ ?k7); (case kd => assumption); (case k1 => walk_at "nm"); (case k2 => (intro _; walk_at "nm")); (case k3 => decide +kernel); (case k4 => decide +kernel); (case k5 => decide +kernel); (case k6 => rfl); (case k7 => rfl)) | ((with_reducible refine' x_par3 ?kd ?k1 ?k2 ?k3 ?k4 ?k5 ?k6 ?k7 ?_ ?k8); (case kd => assumption); (case k1 => walk_at "nm"); (case k2 => (intro _; walk_at "nm")); (case k3 => (intro _ _; walk_at "nm")); (case k4 => decide +kernel); (case k5 => decide +kernel); (case k6 => decide +kernel); (case k7 => rfl); (case k8 => rfl)) | ((with_reducible refine' ws_asg ?_ ?k1 ?k2 ?k3); (case k1 => rfl); (case k2 => rfl); (case k3 => rfl)) | ((with_reducible refine' ws_asgD ?kd ?_ ?k1 ?k2 ?k3); (case kd => assumption); (case k1 => rfl); (case k2 => rfl); (case k3 => rfl))))
    | ((with_reducible show DL.WS _ (Stmt.AugAssign _ _ _ _) _ _ _); (first | ((with_reducible refine' ws_augAdd ?kb ?k0 ?kg ?kp ?_); (case kb => assumption); (case k0 => walk_at "nm"); (case kg => walk_at "nm"); (case kp => walk_at "nm"))))
    | ((with_reducible show DL.WS _ (Stmt.Expr _ _) _ _ _); (first | ((with_reducible refine' ws_expr ?_ ?k1); (case k1 => rfl))))))
  | ((with_reducible show DL.WA _ _ _ _ _); (first | with_reducible refine wa_nil ?_ | ((with_reducible refine' wa_cons ?_ ?k1); (case k1 => rfl))))
  | ((with_reducible show DL.WT _ _ _ _ _); (first | ((with_reducible refine' xt_eq ?k1 ?_); (case k1 => assumption)) | ((with_reducible refine' xt_ne ?k1 ?_); (case k1 => assumption)) | ((with_reducible refine' xt_in ?k1 ?_ ?k2); (case k1 => assumption); (case k2 => rfl)) | ((with_reducible refine' xt_nin ?k1 ?_ ?k2); (case k1 => assumption); (case k2 => rfl)) | with_reducible refine wt_lt ?_ | with_reducible refine wt_le ?_ | with_reducible refine wt_gt ?_ | with_reducible refine wt_ge ?_ | with_reducible refine wt_is ?_ | with_reducible refine wt_isnot ?_ | with_reducible refine wt_not ?_ | with_reducible refine wt_bo ?_ | ((with_reducible refine' wt_val ?_ ?k1); (case k1 => (intro _; rfl)))))
  | ((with_reducible show DL.WW _ _ _ _ _); (first | with_reducible refine ww_and ?_ | with_reducible refine ww_or ?_ | with_reducible refine ww_and1 ?_ | with_reducible refine ww_or1 ?_))
  | ((with_reducible show DL.WG _ _ _ _ _ _); (first | ((with_reducible refine' wg_nm ?kb ?k0 ?kp ?_); (case kb => assumption); (case k0 => walk_at "nm"); (case kp => walk_at "nm")) | ((with_reducible refine' x_gtup ?kx ?kl ?_ ?k1); (case kx => assumption); (case kl => rfl); (case k1 => rfl)) | ((with_reducible refine' wg_setL ?_ ?k1); (case k1 => (intro _; rfl)))))
  | ((with_reducible show DL.WGs _ _ _ _ _ _); (first | ((with_reducible refine' wgs_cons ?_ ?k1); (case k1 => rfl)) | with_reducible refine wgs_nil ?_))
  | ((with_reducible show DL.WO _ _ _ _ _); (first | with_reducible refine wo_n ?_ | with_reducible refine wo_s ?_))
  | ((with_reducible show DL.tb _ _ _); (first | with_reducible refine tb_ok ?_))
  | ((with_reducible show DL.dIsi _ _ _); (first | ((with_reducible refine' isi_int ?k1 ?_); (case k1 => walk_at "kd")) | ((with_reducible refine' isi_bool ?k1 ?_); (case k1 => walk_at "kd")) | ((with_reducible refine' isi_str ?k1 ?_); (case k1 => walk_at "kd")) | ((with_reducible refine' isi_list ?k1 ?_); (case k1 => walk_at "kd")) | ((with_reducible refine' isi_tuple ?k1 ?_); (case k1 => walk_at "kd")) | ((with_reducible refine' isi_ls ?k1 ?_); (case k1 => assumption)) | ((with_reducible refine' isi_lsT ?k1 ?_); (case k1 => assumption))))
  | ((with_reducible show DL.dIsiT _ _ _); (first | ((with_reducible refine' isi_ltT ?k1 ?k2 ?_); (case k1 => rfl); (case k2 => rfl)) | ((with_reducible refine' isi_ltF ?k1 ?k2 ?_); (case k1 => rfl); (case k2 => rfl)) | ((with_reducible refine' isi_lt ?k1 ?_); (case k1 => walk_at "kd")) | ((with_reducible refine' isiT_ls ?k1 ?_); (case k1 => assumption))))
  | ((with_reducible show DL.dLen _ _ _); (first | ((with_reducible refine' len_ls ?k1 ?_); (case k1 => assumption)) | ((with_reducible refine' len_str ?k1 ?_); (case k1 => walk_at "ct")) | with_reducible refine len_tup ?_ | with_reducible refine len_fr ?_ | with_reducible refine len_sl ?_ | ((with_reducible refine' len_own ?k1 ?_); (case k1 => assumption)) | with_reducible refine len_put ?_))
  | ((with_reducible show DL.dEq _ _ _ _ _); (first | with_reducible refine eq_bb ?_ | with_reducible refine ne_bb ?_ | with_reducible refine eq_ii ?_ | with_reducible refine ne_ii ?_))
  | ((with_reducible show DL.dI2 _ _ _ _ _ _); (first | ((with_reducible refine' i2_ok ?k1 ?_); (case k1 => walk_at "ct"))))
  | ((with_reducible show DL.dB2 _ _ _ _ _); (first | with_reducible refine b2_ok ?_))
  | ((with_reducible show DL.dAdd _ _ _ _); (first | with_reducible refine add_ii ?_ | ((with_reducible refine' add_ss ?k1 ?_); (case k1 => walk_at "ct")) | ((with_reducible refine' add_tt ?k1 ?_); (case k1 => walk_at "ct"))))
  | ((with_reducible show DL.dMul _ _ _ _); (first | ((with_reducible refine' mul_ii ?k1 ?_); (case k1 => walk_at "ct"))))
  | ((with_reducible show DL.dSl _ _ _ _ _); (first | with_reducible refine sl_t ?_ | with_reducible refine sl_f ?_))
  | ((with_reducible show DL.dInt1 _ _ _ _); (first | with_reducible refine int1_ok ?_))
  | ((with_reducible show DL.dInt2 _ _ _ _); (first | with_reducible refine int2_ok ?_))
  | ((with_reducible show DL.dInt _ _ _); (first | with_reducible refine int_i ?_ | with_reducible refine int_b ?_))
  | ((with_reducible show DL.dIn _ _ _ _ _); (first | with_reducible refine ins_c ?_))
  | ((with_reducible show DL.dTuple _ _ _); (first | with_reducible refine tup_t ?_ | with_reducible refine tup_f ?_))
  | ((with_reducible show DL.dIx _ _ _ _); (first | ((with_reducible refine' ix_t ?k1 ?_); (case k1 => rfl)) | ((with_reducible refine' ix_f ?k1 ?_); (case k1 => rfl)) | ((with_reducible refine' ix_s ?k1 ?_); (case k1 => rfl)) | ((with_reducible refine' ix_p ?k1 ?_); (case k1 => rfl)) | ((with_reducible refine' ix_o ?k0 ?k1 ?_); (case k0 => assumption); (case k1 => rfl))))
  | ((with_reducible show DL.dIsN _ _ _ _ _); (first | ((with_reducible refine' isn_k ?k1 ?_); (case k1 => walk_at "kd")) | ((with_reducible refine' nisn_k ?k1 ?_); (case k1 => walk_at "kd"))))
  | with_reducible refine ex_bl ?_
  | with_reducible refine ex_int ?_
  | with_reducible refine ex_2 ?_
  | with_reducible refine ex_3 ?_
  | ((with_reducible refine' setL_p ?k1 ?_); (case k1 => rfl))
  | ((with_reducible refine' setL_o ?k0 ?k1 ?_); (case k0 => assumption); (case k1 => rfl))
  | with_reducible refine and_T ?_
  | with_reducible refine and_F ?_
  | ((with_reducible refine and_S ?_ ?_) <;> intro _)
  | with_reducible refine ty_str ?_
  | with_reducible refine ty_put ?_
  | ((with_reducible refine' ty_own ?k1 ?_); (case k1 => assumption))
  | ((with_reducible refine' sz_ok ?k1 ?_); (case k1 => rfl))
  | ((with_reducible refine' sz_as ?k1 ?_); (case k1 => assumption))))
local macro_rules | `(tactic| walk_at "pyA") => `(tactic| repeat' (first
  | ((with_reducible show DL.WE _ _ _ _ _); (first
    | ((with_reducible show DL.WE _ (Expr.Compare _ _ _ _) _ _ _); (first | ((with_reducible refine' we_lele ?_ ?k1); (case k1 => with_unfolding_all rfl)) | with_reducible refine we_lt ?_ | with_reducible refine we_le ?_ | with_reducible refine we_gt ?_ | with_reducible refine we_ge ?_ | with_reducible refine we_is ?_ | with_reducible refine we_isnot ?_ | ((with_reducible refine' x_eq ?k1 ?_); (case k1 => assumption)) | ((with_reducible refine' x_ne ?k1 ?_); (case k1 => assumption)) | ((with_reducible refine' x_in ?k1 ?_ ?k2); (case k1 => assumption); (case k2 => rfl)) | ((with_reducible refine' x_nin ?k1 ?_ ?k2); (case k1 => assumption); (case k2 => rfl))))
    | ((with_reducible show DL.WE _ (Expr.Subscript _ _ _) _ _ _); (first | with_reducible refine we_revT ?_ | with_reducible refine x_sliceA ?_ | ((with_reducible refine' x_ixL ?_ ?k1); (case k1 => (intro _ _; rfl))) | ((with_reducible refine' we_ix ?_ ?k1); (case k1 => (intro _ _; rfl))) | with_reducible refine we_slice ?_))
    | ((with_reducible show DL.WE _ (Expr.Call (Expr.Attribute _ _ _) _ _ _) _ _ _); (first | ((with_reducible refine' x_upper ?_ ?k1 ?k2); (case k1 => rfl); (case k2 => rfl)) | ((with_reducible refine' x_join ?_ ?k1 ?k2 ?k3 ?k4 ?k5); (case k1 => rfl); (case k2 => rfl); (case k3 => rfl); (case k4 => rfl); (case k5 => rfl)) | ((with_reducible refine' x_sindex ?_ ?k1 ?k2 ?k3 ?k4 ?k5); (case k1 => rfl); (case k2 => rfl); (case k3 => rfl); (case k4 => rfl); (case k5 => rfl)) | ((with_reducible refine' x_insert ?_ ?k1 ?k2 ?k3 ?k4 ?k5); (case k1 => rfl); (case k2 => rfl); (case k3 => rfl); (case k4 => rfl); (case k5 => rfl)) | ((with_reducible refine' x_popAt ?_ ?k1 ?k2 ?k3 ?k4 ?k5); (case k1 => rfl); (case k2 => rfl); (case k3 => rfl); (case k4 => rfl); (case k5 => rfl)) | ((with_reducible refine' x_append ?_ ?k1 ?k2 ?k3 ?k4 ?k5); (case k1 => rfl); (case k2 => rfl); (case k3 => rfl); (case k4 => rfl); (case k5 => rfl)) | ((with_reducible refine' x_extend ?_ ?k1 ?k2 ?k3 ?k4 ?k5); (case k1 => rfl); (case k2 => rfl); (case k3 => rfl); (case k4 => rfl); (case k5 => rfl))))
    | ((with_reducible show DL.WE _ (Expr.BinOp _ _ _ _) _ _ _); (first | with_reducible refine x_mulS ?_ | with_reducible refine x_addA ?_ | with_reducible refine x_mulA ?_ | with_reducible refine we_add ?_ | with_reducible refine we_sub' ?_ | with_reducible refine we_mul ?_ | with_reducible refine we_mod ?_ | with_reducible refine we_fdiv ?_ | with_reducible refine we_pow ?_))
    | ((with_reducible show DL.WE _ (Expr.List _ _) _ _ _); (first | with_reducible refine we_lstF ?_))
    | ((with_reducible show DL.WE _ (Expr.Call (Expr.Name _ _) _ _ _) _ _ _); (first | ((with_reducible refine' x_listA ?kx ?kz ?kg ?_ ?k1 ?k2); (case kx => assumption); (case kz => assumption); (case kg => walk_at "gl"); (case k1 => rfl); (case k2 => rfl)) | ((with_reducible refine' x_repr ?kx ?kz ?kg ?_ ?k1 ?k2); (case kx => assumption); (case kz => assumption); (case kg => walk_at "gl"); (case k1 => rfl); (case k2 => rfl)) | ((with_reducible refine' x_isiT ?kx ?kz ?kg ?_ ?k1 ?k2); (case kx => assumption); (case kz => assumption); (case kg => walk_at "gl"); (case k1 => rfl); (case k2 => rfl)) | ((with_reducible refine' x_isi ?kx ?kz ?kg ?_ ?k1 ?k2); (case kx => assumption); (case kz => assumption); (case kg => walk_at "gl"); (case k1 => rfl); (case k2 => rfl)) | ((with_reducible refine' x_len ?kx ?kz ?kg ?_ ?k1 ?k2); (case kx => assumption); (case kz => assumption); (case kg => walk_at "gl"); (case k1 => rfl); (case k2 => rfl)) | ((with_reducible refine' x_abs ?kx ?kz ?kg ?_ ?k1 ?k2); (case kx => assumption); (case kz => assumption); (case kg => walk_at "gl"); (case k1 => rfl); (case k2 => rfl)) | ((with_reducible refine' x_max2 ?kx ?kz ?kg ?_ ?k1 ?k2); (case kx => assumption); (case kz => assumption); (case kg => walk_at "gl"); (case k1 => rfl); (case k2 => rfl)) | ((with_reducible refine' x_min2 ?kx ?kz ?kg ?_ ?k1 ?k2); (case kx => assumption); (case kz => assumption); (case kg => walk_at "gl"); (case k1 => rfl); (case k2 => rfl)) | ((with_reducible refine' x_minL ?kx ?kz ?kg ?_ ?k1 ?k2); (case kx => assumption); (case kz => assumption); (case kg => walk_at "gl"); (case k1 => rfl); (case k2 => rfl)) | ((with_reducible refine' x_any ?kx ?kz ?kg ?_ ?k1 ?k2); (case kx => assumption); (case kz => assumption); (case kg => walk_at "gl"); (case k1 => rfl); (case k2 => rfl)) | ((with_reducible refine' x_all ?kx ?kz ?kg ?_ ?k1 ?k2); (case kx => assumption); (case kz => assumption); (case kg => walk_at "gl"); (case k1 => rfl); (case k2 => rfl)) | ((with_reducible refine' x_sum ?kx ?kz ?kg ?_ ?k1 ?k2); (case kx => assumption); (case kz => assumption); (case kg => walk_at "gl"); (case k1 => rfl); (case k2 => rfl)) | ((with_reducible refine' x_intC ?kx ?kz ?kg ?_ ?k1 ?k2); (case kx => assumption); (case kz => assumption); (case kg => walk_at "gl"); (case k1 => rfl); (case k2 => rfl)) | ((with_reducible refine' x_strC ?kx ?kz ?kg ?_ ?k1 ?k2); (case kx => assumption); (case kz => assumption); (case kg => walk_at "gl"); (case k1 => rfl); (case k2 => rfl)) | ((with_reducible refine' x_tupleC ?kx ?kz ?kg ?_ ?k1 ?k2); (case kx => assumption); (case kz => assumption); (case kg => walk_at "gl"); (case k1 => rfl); (case k2 => rfl)) | ((with_reducible refine' x_listC ?kx ?kz ?kg ?_ ?k1 ?k2); (case kx => assumption); (case kz => assumption); (case kg => walk_at "gl"); (case k1 => rfl); (case k2 => rfl)) | ((with_reducible refine' x_call ?kx ?kh ?kg ?_ ?kl ?kd ?k1 ?k2); (case kh => assumption); (case kx => assumption); (case kg => walk_at "gl"); (case kl => first | decide | omega); (case kd => decide); (case k1 => rfl); (case k2 => rfl))))
    | ((with_reducible show DL.WE _ (Expr.BoolOp _ _ _) _ _ _); (first | with_reducible refine we_and ?_ | with_reducible refine we_or ?_ | with_reducible refine we_one ?_))
    | ((with_reducible show DL.WE _ (Expr.UnaryOp _ _ _) _ _ _); (first | with_reducible refine we_not ?_ | with_reducible refine we_neg ?_))
    | ((with_reducible show DL.WE _ (Expr.IfExp _ _ _ _) _ _ _); (first | with_reducible refine we_if ?_))
    | ((with_reducible show DL.WE _ (Expr.Constant _ _ _) _ _ _); (first | with_reducible refine we_int ?_ | with_reducible refine we_bl ?_ | with_reducible refine we_non ?_ | with_reducible refine we_str ?_))
    | ((with_reducible show DL.WE _ (Expr.Tuple _ _ _) _ _ _); (first | with_reducible refine we_tup ?_))
    | ((with_reducible show DL.WE _ (Expr.Name _ _) _ _ _); (first | ((with_reducible refine' we_nm ?k1 ?k0 ?k2 ?_); (case k1 => assumption); (case k0 => walk_at "nm"); (case k2 => walk_at "nm")) | ((with_reducible refine' x_tyInt ?kx ?kz ?kg ?_); (case kx => assumption); (case kz => assumption); (case kg => walk_at "gl")) | ((with_reducible refine' x_tyBool ?kx ?kz ?kg ?_); (case kx => assumption); (case kz => assumption); (case kg => walk_at "gl")) | ((with_reducible refine' x_tyStr ?kx ?kz ?kg ?_); (case kx => assumption); (case kz => assumption); (case kg => walk_at "gl")) | ((with_reducible refine' x_tyList ?kx ?kz ?kg ?_); (case kx => assumption); (case kz => assumption); (case kg => walk_at "gl")) | ((with_reducible refine' x_tyTuple ?kx ?kz ?kg ?_); (case kx => assumption); (case kz => assumption); (case kg => walk_at "gl")) | ((with_reducible refine' x_glob ?kx ?kh ?kg ?_ ?kd); (case kh => assumption); (case kx => assumption); (case kg => walk_at "gl"); (case kd => decide))))))
  | ((with_reducible show DL.WSs _ _ _ _ _); (first | with_reducible refine wss_cons ?_ | with_reducible refine wss_nil ?_))
  | ((with_reducible show DL.WS _ _ _ _ _); (first
    | ((with_reducible show DL.WS _ (Stmt.If _ _ _ _) _ _ _); (first | ((with_reducible refine' x_ifWge ?kb ?k0 ?kp ?_); (case kb => assumption); (case k0 => walk_at "nm"); (case kp => walk_at "nm")) | with_reducible refine ws_if ?_))
    | ((with_reducible show DL.WS _ (Stmt.Return _ _) _ _ _); (first | with_reducible refine ws_ret ?_ | with_reducible refine ws_retN ?_))
    | ((with_reducible show DL.WS _ (Stmt.Pass _) _ _ _); (first | with_reducible refine ws_pass ?_))
    | ((with_reducible show DL.WS _ (Stmt.Break _) _ _ _); (first | with_reducible refine ws_break ?_))
    | ((with_reducible show DL.WS _ (Stmt.Continue _) _ _ _); (first | with_reducible refine ws_continue ?_))
    | ((with_reducible show DL.WS _ (Stmt.Assign _ _ _) _ _ _); (first | ((with_reducible refine' ws_nm ?kb ?k0 ?kp ?_ ?k1); (case kb => assumption); (case k0 => walk_at "nm"); (case kp => walk_at "nm"); (case k1 => rfl)) | ((with_reducible refine' x_par2 ?kd ?k1 ?k2 ?k3 ?k4 ?k5 ?k6 ?_ ?k7); (case kd => assumption); (case k1 => walk_at "nm"); (case k2 => (intro _; walk_at "nm")); (case k3 => decide +kernel); (case k4 => decide +kernel); (case k5 => decide +kernel); (case k6 => rfl); (case k7 => rfl)) | ((with_reducible refine' x_par3 ?kd ?k1 ?k2 ?k3 ?k4 ?k5 ?k6 ?k7 ?_ ?k8); (case kd => assumption); (case k1 => walk_at "nm"); (case k2 => (intro _; walk_at "nm")); (case k3 => (intro _ _; walk_at "nm")); (case k4 => decide +kernel); (case k5 => decide +kernel); (case k6 => decide +kernel); (case k7 => rfl); (case k8 => rfl)) | ((with_reducible refine' ws_asg ?_ ?k1 ?k2 ?k3); (case k1 => rfl); (case k2 => rfl); (case k3 => rfl)) | ((with_reducible refine' ws_asgD ?kd ?_ ?k1 ?k2 ?k3); (case kd => assumption); (case k1 => rfl); (case k2 => rfl); (case k3 => rfl))))
    | ((with_reducible show DL.WS _ (Stmt.AugAssign _ _ _ _) _ _ _); (first | ((with_reducible refine' ws_augAdd ?kb ?k0 ?kg ?kp ?_); (case kb => assumption); (case k0 => walk_at "nm"); (case kg => walk_at "nm"); (case kp => walk_at "nm"))))
    | ((with_reducible show DL.WS _ (Stmt.Expr _ _) _ _ _); (first | ((with_reducible refine' ws_expr ?_ ?k1); (case k1 => rfl))))))
  | ((with_reducible show DL.WT _ _ _ _ _); (first | ((with_reducible refine' wt_lele ?_ ?k1); (case k1 => with_unfolding_all rfl)) | ((with_reducible refine' xt_eq ?k1 ?_); (case k1 => assumption)) | ((with_reducible refine' xt_ne ?k1 ?_); (case k1 => assumption)) | ((with_reducible refine' xt_in ?k1 ?_ ?k2); (case k1 => assumption); (case k2 => rfl)) | ((with_reducible refine' xt_nin ?k1 ?_ ?k2); (case k1 => assumption); (case k2 => rfl)) | with_reducible refine wt_lt ?_ | with_reducible refine wt_le ?_ | with_reducible refine wt_gt ?_ | with_reducible refine wt_ge ?_ | with_reducible refine wt_is ?_ | with_reducible refine wt_isnot ?_ | with_reducible refine wt_not ?_ | with_reducible refine wt_bo ?_ | ((with_reducible refine' wt_val ?_ ?k1); (case k1 => (intro _; rfl)))))
  | ((with_reducible show DL.WA _ _ _ _ _); (first | with_reducible refine wa_nil ?_ | ((with_reducible refine' wa_cons ?_ ?k1); (case k1 => rfl))))
  | ((with_reducible show DL.WW _ _ _ _ _); (first | with_reducible refine ww_and ?_ | with_reducible refine ww_or ?_ | with_reducible refine ww_and1 ?_ | with_reducible refine ww_or1 ?_))
  | ((with_reducible show DL.WG _ _ _ _ _ _); (first | ((with_reducible refine' wg_nm ?kb ?k0 ?kp ?_); (case kb => assumption); (case k0 => walk_at "nm"); (case kp => walk_at "nm")) | ((with_reducible refine' x_gtup ?kx ?kl ?_ ?k1); (case kx => assumption); (case kl => rfl); (case k1 => rfl)) | ((with_reducible refine' wg_setL ?_ ?k1); (case k1 => (intro _; rfl)))))
  | ((with_reducible show DL.WGs _ _ _ _ _ _); (first | ((with_reducible refine' wgs_cons ?_ ?k1); (case k1 => rfl)) | with_reducible refine wgs_nil ?_))
  | ((with_reducible show DL.WO _ _ _ _ _); (first | with_reducible refine wo_n ?_ | with_reducible refine wo_s ?_))
  | ((with_reducible show DL.FrzA _ _ _); (first | with_reducible refine fa_int ?_ | with_reducible refine fa_str ?_ | with_reducible refine fa_bl ?_ | with_reducible refine fa_non ?_ | with_reducible refine fa_tup ?_ | with_reducible refine fa_lst ?_ | ((with_reducible refine' fa_put ?k1 ?_); (case k1 => assumption))))
  | ((with_reducible show DL.dSl _ _ _ _ _); (first | with_reducible refine slA_f ?_ | with_reducible refine slA_t ?_ | with_reducible refine slA_p ?_ | ((with_reducible refine' slA_o ?k1 ?_); (case k1 => assumption)) | ((with_reducible refine' slA_z ?k1 ?_); (case k1 => walk_at "ct")) | with_reducible refine sl_t ?_ | with_reducible refine sl_f ?_))
  | ((with_reducible show DL.dAdd _ _ _ _); (first | with_reducible refine addA_ii ?_ | ((with_reducible refine' addA_ss ?k1 ?_); (case k1 => walk_at "ct")) | ((with_reducible refine' addA_tt ?k1 ?_); (case k1 => walk_at "ct")) | ((with_reducible refine' addA_ll ?k1 ?_); (case k1 => walk_at "sz")) | ((with_reducible refine' addA_pl ?k1 ?_); (case k1 => walk_at "sz")) | with_reducible refine add_ii ?_ | ((with_reducible refine' add_ss ?k1 ?_); (case k1 => walk_at "ct")) | ((with_reducible refine' add_tt ?k1 ?_); (case k1 => walk_at "ct"))))
  | ((with_reducible show DL.dList _ _ _); (first | with_reducible refine listA_l ?_ | with_reducible refine listA_t ?_ | with_reducible refine listA_p ?_ | ((with_reducible refine' listA_o ?k1 ?_); (case k1 => assumption))))
  | ((with_reducible show DL.dMul _ _ _ _); (first | ((with_reducible refine' mulA_ii ?k1 ?_); (case k1 => walk_at "ct")) | ((with_reducible refine' mul_ii ?k1 ?_); (case k1 => walk_at "ct"))))
  | ((with_reducible show DL.dMulS _ _ _ _); (first | ((with_reducible refine' mul_s ?k1 ?_); (case k1 => decide +kernel))))
  | ((with_reducible show DL.dAppend _ _ _ _); (first | ((with_reducible refine' app_put ?k1 ?_); (case k1 => walk_at "sz"))))
  | ((with_reducible show DL.tb _ _ _); (first | with_reducible refine tb_ok ?_))
  | ((with_reducible show DL.dIsi _ _ _); (first | ((with_reducible refine' isi_int ?k1 ?_); (case k1 => walk_at "kd")) | ((with_reducible refine' isi_bool ?k1 ?_); (case k1 => walk_at "kd")) | ((with_reducible refine' isi_str ?k1 ?_); (case k1 => walk_at "kd")) | ((with_reducible refine' isi_list ?k1 ?_); (case k1 => walk_at "kd")) | ((with_reducible refine' isi_tuple ?k1 ?_); (case k1 => walk_at "kd")) | ((with_reducible refine' isi_ls ?k1 ?_); (case k1 => assumption)) | ((with_reducible refine' isi_lsT ?k1 ?_); (case k1 => assumption))))
  | ((with_reducible show DL.dIsiT _ _ _); (first | ((with_reducible refine' isi_ltT ?k1 ?k2 ?_); (case k1 => rfl); (case k2 => rfl)) | ((with_reducible refine' isi_ltF ?k1 ?k2 ?_); (case k1 => rfl); (case k2 => rfl)) | ((with_reducible refine' isi_lt ?k1 ?_); (case k1 => walk_at "kd")) | ((with_reducible refine' isiT_ls ?k1 ?_); (case k1 => assumption))))
  | ((with_reducible show DL.dLen _ _ _); (first | ((with_reducible refine' len_ls ?k1 ?_); (case k1 => assumption)) | ((with_reducible refine' len_str ?k1 ?_); (case k1 => walk_at "ct")) | with_reducible refine len_tup ?_ | with_reducible refine len_fr ?_ | with_reducible refine len_sl ?_ | ((with_reducible refine' len_own ?k1 ?_); (case k1 => assumption)) | with_reducible refine len_put ?_))
  | ((with_reducible show DL.dEq _ _ _ _ _); (first | with_reducible refine eq_bb ?_ | with_reducible refine ne_bb ?_ | with_reducible refine eq_ii ?_ | with_reducible refine ne_ii ?_))
  | ((with_reducible show DL.dI2 _ _ _ _ _ _); (first | ((with_reducible refine' i2_ok ?k1 ?_); (case k1 => walk_at "ct"))))
  | ((with_reducible show DL.dB2 _ _ _ _ _); (first | with_reducible refine b2_ok ?_))
  | ((with_reducible show DL.dInt1 _ _ _ _); (first | with_reducible refine int1_ok ?_))
  | ((with_reducible show DL.dInt2 _ _ _ _); (first | with_reducible refine int2_ok ?_))
  | ((with_reducible show DL.dInt _ _ _); (first | with_reducible refine int_i ?_ | with_reducible refine int_b ?_))
  | ((with_reducible show DL.dIn _ _ _ _ _); (first | with_reducible refine ins_c ?_))
  | ((with_reducible show DL.dTuple _ _ _); (first | with_reducible refine tup_t ?_ | with_reducible refine tup_f ?_))
  | ((with_reducible show DL.dIx _ _ _ _); (first | ((with_reducible refine' ix_t ?k1 ?_); (case k1 => rfl)) | ((with_reducible refine' ix_f ?k1 ?_); (case k1 => rfl)) | ((with_reducible refine' ix_s ?k1 ?_); (case k1 => rfl)) | ((with_reducible refine' ix_p ?k1 ?_); (case k1 => rfl)) | ((with_reducible refine' ix_o ?k0 ?k1 ?_); (case k0 => assumption); (case k1 => rfl))))
  | ((with_reducible show DL.dIsN _ _ _ _ _); (first | ((with_reducible refine' isn_k ?k1 ?_); (case k1 => walk_at "kd")) | ((with_reducible refine' nisn_k ?k1 ?_); (case k1 => walk_at "kd"))))
  | with_reducible refine ex_bl ?_
  | with_reducible refine ex_int ?_
  | with_reducible refine ex_2 ?_
  | with_reducible refine ex_3 ?_
  | ((with_reducible refine' setL_p ?k1 ?_); (case k1 => rfl))
  | ((with_reducible refine' setL_o ?k0 ?k1 ?_); (case k0 => assumption); (case k1 => rfl))
  | with_reducible refine and_T ?_
  | with_reducible refine and_F ?_
  | ((with_reducible refine and_S ?_ ?_) <;> intro _)
  | with_reducible refine ty_str ?_
  | with_reducible refine ty_put ?_
  | ((with_reducible refine' ty_own ?k1 ?_); (case k1 => assumption))
  | ((with_reducible refine' sz_ok ?k1 ?_); (case k1 => rfl))
  | ((with_reducible refine' sz_as ?k1 ?_); (case k1 => assumption))))
local macro_rules | `(tactic| walk_at "pyR") => `(tactic| repeat' (first
  | ((with_reducible show DL.WE _ _ _ _ _); (first
    | ((with_reducible show DL.WE _ (Expr.Compare _ _ _ _) _ _ _); (first | ((with_reducible refine' we_lele ?_ ?k1); (case k1 => with_unfolding_all rfl)) | with_reducible refine we_lt ?_ | with_reducible refine we_le ?_ | with_reducible refine we_gt ?_ | with_reducible refine we_ge ?_ | with_reducible refine we_is ?_ | with_reducible refine we_isnot ?_ | ((with_reducible refine' x_eq ?k1 ?_); (case k1 => assumption)) | ((with_reducible refine' x_ne ?k1 ?_); (case k1 => assumption)) | ((with_reducible refine' x_in ?k1 ?_ ?k2); (case k1 => assumption); (case k2 => rfl)) | ((with_reducible refine' x_nin ?k1 ?_ ?k2); (case k1 => assumption); (case k2 => rfl))))
    | ((with_reducible show DL.WE _ (Expr.Subscript _ _ _) _ _ _); (first | with_reducible refine we_revT ?_ | ((with_reducible refine' x_ixL ?_ ?k1); (case k1 => (intro _ _; rfl))) | ((with_reducible refine' we_ix ?_ ?k1); (case k1 => (intro _ _; rfl))) | with_reducible refine we_slice ?_))
    | ((with_reducible show DL.WE _ (Expr.Call (Expr.Attribute _ _ _) _ _ _) _ _ _); (first | ((with_reducible refine' x_upper ?_ ?k1 ?k2); (case k1 => rfl); (case k2 => rfl)) | ((with_reducible refine' x_join ?_ ?k1 ?k2 ?k3 ?k4 ?k5); (case k1 => rfl); (case k2 => rfl); (case k3 => rfl); (case k4 => rfl); (case k5 => rfl)) | ((with_reducible refine' x_sindex ?_ ?k1 ?k2 ?k3 ?k4 ?k5); (case k1 => rfl); (case k2 => rfl); (case k3 => rfl); (case k4 => rfl); (case k5 => rfl)) | ((with_reducible refine' x_insert ?_ ?k1 ?k2 ?k3 ?k4 ?k5); (case k1 => rfl); (case k2 => rfl); (case k3 => rfl); (case k4 => rfl); (case k5 => rfl)) | ((with_reducible refine' x_popAt ?_ ?k1 ?k2 ?k3 ?k4 ?k5); (case k1 => rfl); (case k2 => rfl); (case k3 => rfl); (case k4 => rfl); (case k5 => rfl)) | ((with_reducible refine' x_append ?_ ?k1 ?k2 ?k3 ?k4 ?k5); (case k1 => rfl); (case k2 => rfl); (case k3 => rfl); (case k4 => rfl); (case k5 => rfl)) | ((with_reducible refine' x_extend ?_ ?k1 ?k2 ?k3 ?k4 ?k5); (case k1 => rfl); (case k2 => rfl); (case k3 => rfl); (case k4 => rfl); (case k5 => rfl))))
    | ((with_reducible show DL.WE _ (Expr.Call (Expr.Name _ _) _ _ _) _ _ _); (first | ((with_reducible refine' x_repr ?kx ?kz ?kg ?_ ?k1 ?k2); (case kx => assumption); (case kz => assumption); (case kg => walk_at "gl"); (case k1 => rfl); (case k2 => rfl)) | ((with_reducible refine' x_isiT ?kx ?kz ?kg ?_ ?k1 ?k2); (case kx => assumption); (case kz => assumption); (case kg => walk_at "gl"); (case k1 => rfl); (case k2 => rfl)) | ((with_reducible refine' x_isi ?kx ?kz ?kg ?_ ?k1 ?k2); (case kx => assumption); (case kz => assumption); (case kg => walk_at "gl"); (case k1 => rfl); (case k2 => rfl)) | ((with_reducible refine' x_len ?kx ?kz ?kg ?_ ?k1 ?k2); (case kx => assumption); (case kz => assumption); (case kg => walk_at "gl"); (case k1 => rfl); (case k2 => rfl)) | ((with_reducible refine' x_abs ?kx ?kz ?kg ?_ ?k1 ?k2); (case kx => assumption); (case kz => assumption); (case kg => walk_at "gl"); (case k1 => rfl); (case k2 => rfl)) | ((with_reducible refine' x_max2 ?kx ?kz ?kg ?_ ?k1 ?k2); (case kx => assumption); (case kz => assumption); (case kg => walk_at "gl"); (case k1 => rfl); (case k2 => rfl)) | ((with_reducible refine' x_min2 ?kx ?kz ?kg ?_ ?k1 ?k2); (case kx => assumption); (case kz => assumption); (case kg => walk_at "gl"); (case k1 => rfl); (case k2 => rfl)) | ((with_reducible refine' x_minL ?kx ?kz ?kg ?_ ?k1 ?k2); (case kx => assumption); (case kz => assumption); (case kg => walk_at "gl"); (case k1 => rfl); (case k2 => rfl)) | ((with_reducible refine' x_any ?kx ?kz ?kg ?_ ?k1 ?k2); (case kx => assumption); (case kz => assumption); (case kg => walk_at "gl"); (case k1 => rfl); (case k2 => rfl)) | ((with_reducible refine' x_all ?kx ?kz ?kg ?_ ?k1 ?k2); (case kx => assumption); (case kz => assumption); (case kg => walk_at "gl"); (case k1 => rfl); (case k2 => rfl)) | ((with_reducible refine' x_sum ?kx ?kz ?kg ?_ ?k1 ?k2); (case kx => assumption); (case kz => assumption); (case kg => walk_at "gl"); (case k1 => rfl); (case k2 => rfl)) | ((with_reducible refine' x_intC ?kx ?kz ?kg ?_ ?k1 ?k2); (case kx => assumption); (case kz => assumption); (case kg => walk_at "gl"); (case k1 => rfl); (case k2 => rfl)) | ((with_reducible refine' x_strC ?kx ?kz ?kg ?_ ?k1 ?k2); (case kx => assumption); (case kz => assumption); (case kg => walk_at "gl"); (case k1 => rfl); (case k2 => rfl)) | ((with_reducible refine' x_tupleC ?kx ?kz ?kg ?_ ?k1 ?k2); (case kx => assumption); (case kz => assumption); (case kg => walk_at "gl"); (case k1 => rfl); (case k2 => rfl)) | ((with_reducible refine' x_listC ?kx ?kz ?kg ?_ ?k1 ?k2); (case kx => assumption); (case kz => assumption); (case kg => walk_at "gl"); (case k1 => rfl); (case k2 => rfl)) | ((with_reducible refine' x_call ?kx ?kh ?kg ?_ ?kl ?kd ?k1 ?k2); (case kh => assumption); (case kx => assumption); (case kg => walk_at "gl"); (case kl => first | decide | omega); (case kd => decide); (case k1 => rfl); (case k2 => rfl))))
    | ((with_reducible show DL.WE _ (Expr.BoolOp _ _ _) _ _ _); (first | with_reducible refine we_and ?_ | with_reducible refine we_or ?_ | with_reducible refine we_one ?_))
    | ((with_reducible show DL.WE _ (Expr.UnaryOp _ _ _) _ _ _); (first | with_reducible refine we_not ?_ | with_reducible refine we_neg ?_))
    | ((with_reducible show DL.WE _ (Expr.IfExp _ _ _ _) _ _ _); (first | with_reducible refine we_if ?_))
    | ((with_reducible show DL.WE _ (Expr.Constant _ _ _) _ _ _); (first | with_reducible refine we_int ?_ | with_reducible refine we_bl ?_ | with_reducible refine we_non ?_ | with_reducible refine we_str ?_))
    | ((with_reducible show DL.WE _ (Expr.Tuple _ _ _) _ _ _); (first | with_reducible refine we_tup ?_))
    | ((with_reducible show DL.WE _ (Expr.Name _ _) _ _ _); (first | ((with_reducible refine' we_nm ?k1 ?k0 ?k2 ?_); (case k1 => assumption); (case k0 => walk_at "nm"); (case k2 => walk_at "nm")) | ((with_reducible refine' x_tyInt ?kx ?kz ?kg ?_); (case kx => assumption); (case kz => assumption); (case kg => walk_at "gl")) | ((with_reducible refine' x_tyBool ?kx ?kz ?kg ?_); (case kx => assumption); (case kz => assumption); (case kg => walk_at "gl")) | ((with_reducible refine' x_tyStr ?kx ?kz ?kg ?_); (case kx => assumption); (case kz => assumption); (case kg => walk_at "gl")) | ((with_reducible refine' x_tyList ?kx ?kz ?kg ?_); (case kx => assumption); (case kz => assumption); (case kg => walk_at "gl")) | ((with_reducible refine' x_tyTuple ?kx ?kz ?kg ?_); (case kx => assumption); (case kz => assumption); (case kg => walk_at "gl")) | ((with_reducible refine' x_glob ?kx ?kh ?kg ?_ ?kd); (case kh => assumption); (case kx => assumption); (case kg => walk_at "gl"); (case kd => decide))))
    | ((with_reducible show DL.WE _ (Expr.BinOp _ _ _ _) _ _ _); (first | with_reducible refine we_add ?_ | with_reducible refine we_sub' ?_ | with_reducible refine we_mul ?_ | with_reducible refine we_mod ?_ | with_reducible refine we_fdiv ?_ | with_reducible refine we_pow ?_))))
  | ((with_reducible show DL.WSs _ _ _ _ _); (first | with_reducible refine wss_cons ?_ | with_reducible refine wss_nil ?_))
  | ((with_reducible show DL.WS _ _ _ _ _); (first
    | ((with_reducible show DL.WS _ (Stmt.If _ _ _ _) _ _ _); (first | ((with_reducible refine' x_ifWge ?kb ?k0 ?kp ?_); (case kb => assumption); (case k0 => walk_at "nm"); (case kp => walk_at "nm")) | with_reducible refine ws_if ?_))
    | ((with_reducible show DL.WS _ (Stmt.Return _ _) _ _ _); (first | with_reducible refine ws_ret ?_ | with_reducible refine ws_retN ?_))
    | ((with_reducible show DL.WS _ (Stmt.Pass _) _ _ _); (first | with_reducible refine ws_pass ?_))
    | ((with_reducible show DL.WS _ (Stmt.Break _) _ _ _); (first | with_reducible refine ws_break ?_))
    | ((with_reducible show DL.WS _ (Stmt.Continue _) _ _ _); (first | with_reducible refine ws_continue ?_))
    | ((with_reducible show DL.WS _ (Stmt.Assign _ _ _) _ _ _); (first | ((with_reducible refine' ws_nm ?kb ?k0 ?kp ?_ ?k1); (case kb => assumption); (case k0 => walk_at "nm"); (case kp => walk_at "nm"); (case k1 => rfl)) | ((with_reducible refine' x_par2 ?kd ?k1 ?k2 ?k3 ?k4 ?k5 ?k6 ?_ ?k7); (case kd => assumption); (case k1 => walk_at "nm"); (case k2 => (intro _; walk_at "nm")); (case k3 => decide +kernel); (case k4 => decide +kernel); (case k5 => decide +kernel); (case k6 => rfl); (case k7 => rfl)) | ((with_reducible refine' x_par3 ?kd ?k1 ?k2 ?k3 ?k4 ?k5 ?k6 ?k7 ?_ ?k8); (case kd => assumption); (case k1 => walk_at "nm"); (case k2 => (intro _; walk_at "nm")); (case k3 => (intro _ _; walk_at "nm")); (case k4 => decide +kernel); (case k5 => decide +kernel); (case k6 => decide +kernel); (case k7 => rfl); (case k8 => rfl)) | ((with_reducible refine' ws_asg ?_ ?k1 ?k2 ?k3); (case k1 => rfl); (case k2 => rfl); (case k3 => rfl)) | ((with_reducible refine' ws_asgD ?kd ?_ ?k1 ?k2 ?k3); (case kd => assumption); (case k1 => rfl); (case k2 => rfl); (case k3 => rfl))))
    | ((with_reducible show DL.WS _ (Stmt.AugAssign _ _ _ _) _ _ _); (first | ((with_reducible refine' ws_augAdd ?kb ?k0 ?kg ?kp ?_); (case kb => assumption); (case k0 => walk_at "nm"); (case kg => walk_at "nm"); (case kp => walk_at "nm"))))
    | ((with_reducible show DL.WS _ (Stmt.Expr _ _) _ _ _); (first | ((with_reducible refine' ws_expr ?_ ?k1); (case k1 => rfl))))))
  | ((with_reducible show DL.WT _ _ _ _ _); (first | ((with_reducible refine' wt_lele ?_ ?k1); (case k1 => with_unfolding_all rfl)) | ((with_reducible refine' xt_eq ?k1 ?_); (case k1 => assumption)) | ((with_reducible refine' xt_ne ?k1 ?_); (case k1 => assumption)) | ((with_reducible refine' xt_in ?k1 ?_ ?k2); (case k1 => assumption); (case k2 => rfl)) | ((with_reducible refine' xt_nin ?k1 ?_ ?k2); (case k1 => assumption); (case k2 => rfl)) | with_reducible refine wt_lt ?_ | with_reducible refine wt_le ?_ | with_reducible refine wt_gt ?_ | with_reducible refine wt_ge ?_ | with_reducible refine wt_is ?_ | with_reducible refine wt_isnot ?_ | with_reducible refine wt_not ?_ | with_reducible refine wt_bo ?_ | ((with_reducible refine' wt_val ?_ ?k1); (case k1 => (intro _; rfl)))))
  | ((with_reducible show DL.WA _ _ _ _ _); (first | with_reducible refine wa_nil ?_ | ((with_reducible refine' wa_cons ?_ ?k1); (case k1 => rfl))))
  | ((with_reducible show DL.WW _ _ _ _ _); (first | with_reducible refine ww_and ?_ | with_reducible refine ww_or ?_ | with_reducible refine ww_and1 ?_ | with_reducible refine ww_or1 ?_))
  | ((with_reducible show DL.WG _ _ _ _ _ _); (first | ((with_reducible refine' wg_nm ?kb ?k0 ?kp ?_); (case kb => assumption); (case k0 => walk_at "nm"); (case kp => walk_at "nm")) | ((with_reducible refine' x_gtup ?kx ?kl ?_ ?k1); (case kx => assumption); (case kl => rfl); (case k1 => rfl)) | ((with_reducible refine' wg_setL ?_ ?k1); (case k1 => (intro _; rfl)))))
  | ((with_reducible show DL.WGs _ _ _ _ _ _); (first | ((with_reducible refine' wgs_cons ?_ ?k1); (case k1 => rfl)) | with_reducible refine wgs_nil ?_))
  | ((with_reducible show DL.WO _ _ _ _ _); (first | with_reducible refine wo_n ?_ | with_reducible refine wo_s ?_))
  | ((with_reducible show DL.tb _ _ _); (first | with_reducible refine tb_ok ?_))
  | ((with_reducible show DL.dIsi _ _ _); (first | ((with_reducible refine' isi_int ?k1 ?_); (case k1 => walk_at "kd")) | ((with_reducible refine' isi_bool ?k1 ?_); (case k1 => walk_at "kd")) | ((with_reducible refine' isi_str ?k1 ?_); (case k1 => walk_at "kd")) | ((with_reducible refine' isi_list ?k1 ?_); (case k1 => walk_at "kd")) | ((with_reducible refine' isi_tuple ?k1 ?_); (case k1 => walk_at "kd")) | ((with_reducible refine' isi_ls ?k1 ?_); (case k1 => assumption)) | ((with_reducible refine' isi_lsT ?k1 ?_); (case k1 => assumption))))
  | ((with_reducible show DL.dIsiT _ _ _); (first | ((with_reducible refine' isi_ltT ?k1 ?k2 ?_); (case k1 => rfl); (case k2 => rfl)) | ((with_reducible refine' isi_ltF ?k1 ?k2 ?_); (case k1 => rfl); (case k2 => rfl)) | ((with_reducible refine' isi_lt ?k1 ?_); (case k1 => walk_at "kd")) | ((with_reducible refine' isiT_ls ?k1 ?_); (case k1 => assumption))))
  | ((with_reducible show DL.dLen _ _ _); (first | ((with_reducible refine' len_ls ?k1 ?_); (case k1 => assumption)) | ((with_reducible refine' len_str ?k1 ?_); (case k1 => walk_at "ct")) | with_reducible refine len_tup ?_ | with_reducible refine len_fr ?_ | with_reducible refine len_sl ?_ | ((with_reducible refine' len_own ?k1 ?_); (case k1 => assumption)) | with_reducible refine len_put ?_))
  | ((with_reducible show DL.dEq _ _ _ _ _); (first | with_reducible refine eq_bb ?_ | with_reducible refine ne_bb ?_ | with_reducible refine eq_ii ?_ | with_reducible refine ne_ii ?_))
  | ((with_reducible show DL.dI2 _ _ _ _ _ _); (first | ((with_reducible refine' i2_ok ?k1 ?_); (case k1 => walk_at "ct"))))
  | ((with_reducible show DL.dB2 _ _ _ _ _); (first | with_reducible refine b2_ok ?_))
  | ((with_reducible show DL.dAdd _ _ _ _); (first | with_reducible refine add_ii ?_ | ((with_reducible refine' add_ss ?k1 ?_); (case k1 => walk_at "ct")) | ((with_reducible refine' add_tt ?k1 ?_); (case k1 => walk_at "ct"))))
  | ((with_reducible show DL.dMul _ _ _ _); (first | ((with_reducible refine' mul_ii ?k1 ?_); (case k1 => walk_at "ct"))))
  | ((with_reducible show DL.dSl _ _ _ _ _); (first | with_reducible refine sl_t ?_ | with_reducible refine sl_f ?_))
  | ((with_reducible show DL.dInt1 _ _ _ _); (first | with_reducible refine int1_ok ?_))
  | ((with_reducible show DL.dInt2 _ _ _ _); (first | with_reducible refine int2_ok ?_))
  | ((with_reducible show DL.dInt _ _ _); (first | with_reducible refine int_i ?_ | with_reducible refine int_b ?_))
  | ((with_reducible show DL.dIn _ _ _ _ _); (first | with_reducible refine ins_c ?_))
  | ((with_reducible show DL.dTuple _ _ _); (first | with_reducible refine tup_t ?_ | with_reducible refine tup_f ?_))
  | ((with_reducible show DL.dIx _ _ _ _); (first | ((with_reducible refine' ix_t ?k1 ?_); (case k1 => rfl)) | ((with_reducible refine' ix_f ?k1 ?_); (case k1 => rfl)) | ((with_reducible refine' ix_s ?k1 ?_); (case k1 => rfl)) | ((with_reducible refine' ix_p ?k1 ?_); (case k1 => rfl)) | ((with_reducible refine' ix_o ?k0 ?k1 ?_); (case k0 => assumption); (case k1 => rfl))))
  | ((with_reducible show DL.dIsN _ _ _ _ _); (first | ((with_reducible refine' isn_k ?k1 ?_); (case k1 => walk_at "kd")) | ((with_reducible refine' nisn_k ?k1 ?_); (case k1 => walk_at "kd"))))
  | with_reducible refine ex_bl ?_
  | with_reducible refine ex_int ?_
  | with_reducible refine ex_2 ?_
  | with_reducible refine ex_3 ?_
  | ((with_reducible refine' setL_p ?k1 ?_); (case k1 => rfl))
  | ((with_reducible refine' setL_o ?k0 ?k1 ?_); (case k0 => assumption); (case k1 => rfl))
  | with_reducible refine and_T ?_
  | with_reducible refine and_F ?_
  | ((with_reducible refine and_S ?_ ?_) <;> intro _)
  | with_reducible refine ty_str ?_
  | with_reducible refine ty_put ?_
  | ((with_reducible refine' ty_own ?k1 ?_); (case k1 => assumption))
  | ((with_reducible refine' sz_ok ?k1 ?_); (case k1 => rfl))
  | ((with_reducible refine' sz_as ?k1 ?_); (case k1 => assumption))))
local macro_rules | `(tactic| walk_at "pyC") => `(tactic| repeat' (first
  | ((with_reducible show DL.WE _ _ _ _ _); (first
    | ((with_reducible show DL.WE _ (Expr.Subscript _ _ _) _ _ _); (first | ((with_reducible refine' x_ixD ?kx ?_ ?k1); (case kx => assumption); (case k1 => (intro _ _; rfl))) | with_reducible refine we_revT ?_ | ((with_reducible refine' x_ixL ?_ ?k1); (case k1 => (intro _ _; rfl))) | ((with_reducible refine' we_ix ?_ ?k1); (case k1 => (intro _ _; rfl))) | with_reducible refine we_slice ?_))
    | ((with_reducible show DL.WE _ (Expr.Compare _ _ _ _) _ _ _); (first | ((with_reducible refine' x_inX ?kx ?_ ?k1); (case kx => assumption); (case k1 => rfl)) | ((with_reducible refine' x_ninX ?kx ?_ ?k1); (case kx => assumption); (case k1 => rfl)) | ((with_reducible refine' we_lele ?_ ?k1); (case k1 => with_unfolding_all rfl)) | with_reducible refine we_lt ?_ | with_reducible refine we_le ?_ | with_reducible refine we_gt ?_ | with_reducible refine we_ge ?_ | with_reducible refine we_is ?_ | with_reducible refine we_isnot ?_ | ((with_reducible refine' x_eq ?k1 ?_); (case k1 => assumption)) | ((with_reducible refine' x_ne ?k1 ?_); (case k1 => assumption)) | ((with_reducible refine' x_in ?k1 ?_ ?k2); (case k1 => assumption); (case k2 => rfl)) | ((with_reducible refine' x_nin ?k1 ?_ ?k2); (case k1 => assumption); (case k2 => rfl))))
    | ((with_reducible show DL.WE _ (Expr.Call (Expr.Name _ _) _ _ _) _ _ _); (first | ((with_reducible refine' x_lenX ?kx ?kz ?kg ?_ ?k1 ?k2); (case kx => assumption); (case kz => assumption); (case kg => walk_at "gl"); (case k1 => rfl); (case k2 => rfl)) | ((with_reducible refine' x_dictP ?kx ?kz ?kg ?_ ?k1 ?k2); (case kx => assumption); (case kz => assumption); (case kg => walk_at "gl"); (case k1 => rfl); (case k2 => rfl)) | ((with_reducible refine' x_sortedK ?kx ?kz ?kg ?_ ?k1 ?k2); (case kx => assumption); (case kz => assumption); (case kg => walk_at "gl"); (case k1 => rfl); (case k2 => rfl)) | ((with_reducible refine' x_repr ?kx ?kz ?kg ?_ ?k1 ?k2); (case kx => assumption); (case kz => assumption); (case kg => walk_at "gl"); (case k1 => rfl); (case k2 => rfl)) | ((with_reducible refine' x_isiT ?kx ?kz ?kg ?_ ?k1 ?k2); (case kx => assumption); (case kz => assumption); (case kg => walk_at "gl"); (case k1 => rfl); (case k2 => rfl)) | ((with_reducible refine' x_isi ?kx ?kz ?kg ?_ ?k1 ?k2); (case kx => assumption); (case kz => assumption); (case kg => walk_at "gl"); (case k1 => rfl); (case k2 => rfl)) | ((with_reducible refine' x_len ?kx ?kz ?kg ?_ ?k1 ?k2); (case kx => assumption); (case kz => assumption); (case kg => walk_at "gl"); (case k1 => rfl); (case k2 => rfl)) | ((with_reducible refine' x_abs ?kx ?kz ?kg ?_ ?k1 ?k2); (case kx => assumption); (case kz => assumption); (case kg => walk_at "gl"); (case k1 => rfl); (case k2 => rfl)) | ((with_reducible refine' x_max2 ?kx ?kz ?kg ?_ ?k1 ?k2); (case kx => assumption); (case kz => assumption); (case kg => walk_at "gl"); (case k1 => rfl); (case k2 => rfl)) | ((with_reducible refine' x_min2 ?kx ?kz ?kg ?_ ?k1 ?k2); (case kx => assumption); (case kz => assumption); (case kg => walk_at "gl"); (case k1 => rfl); (case k2 => rfl)) | ((with_reducible refine' x_minL ?kx ?kz ?kg ?_ ?k1 ?k2); (case kx => assumption); (case kz => assumption); (case kg => walk_at "gl"); (case k1 => rfl); (case k2 => rfl)) | ((with_reducible refine' x_any ?kx ?kz ?kg ?_ ?k1 ?k2); (case kx => assumption); (case kz => assumption); (case kg => walk_at "gl"); (case k1 => rfl); (case k2 => rfl)) | ((with_reducible refine' x_all ?kx ?kz ?kg ?_ ?k1 ?k2); (case kx => assumption); (case kz => assumption); (case kg => walk_at "gl"); (case k1 => rfl); (case k2 => rfl)) | ((with_reducible refine' x_sum ?kx ?kz ?kg ?_ ?k1 ?k2); (case kx => assumption); (case kz => assumption); (case kg => walk_at "gl"); (case k1 => rfl); (case k2 => rfl)) | ((with_reducible refine' x_intC ?kx ?kz ?kg ?_ ?k1 ?k2); (case kx => assumption); (case kz => assumption); (case kg => walk_at "gl"); (case k1 => rfl); (case k2 => rfl)) | ((with_reducible refine' x_strC ?kx ?kz ?kg ?_ ?k1 ?k2); (case kx => assumption); (case kz => assumption); (case kg => walk_at "gl"); (case k1 => rfl); (case k2 => rfl)) | ((with_reducible refine' x_tupleC ?kx ?kz ?kg ?_ ?k1 ?k2); (case kx => assumption); (case kz => assumption); (case kg => walk_at "gl"); (case k1 => rfl); (case k2 => rfl)) | ((with_reducible refine' x_listC ?kx ?kz ?kg ?_ ?k1 ?k2); (case kx => assumption); (case kz => assumption); (case kg => walk_at "gl"); (case k1 => rfl); (case k2 => rfl)) | ((with_reducible refine' x_call ?kx ?kh ?kg ?_ ?kl ?kd ?k1 ?k2); (case kh => assumption); (case kx => assumption); (case kg => walk_at "gl"); (case kl => first | decide | omega); (case kd => decide); (case k1 => rfl); (case k2 => rfl))))
    | ((with_reducible show DL.WE _ (Expr.Attribute _ _ _) _ _ _); (first | ((with_reducible refine' x_fld ?kx ?_ ?k1); (case kx => assumption); (case k1 => rfl))))
    | ((with_reducible show DL.WE _ (Expr.Dict _ _ _) _ _ _); (first | with_reducible refine x_dnew ?_))
    | ((with_reducible show DL.WE _ (Expr.Call (Expr.Attribute _ _ _) _ _ _) _ _ _); (first | ((with_reducible refine' x_stripC ?_ ?k1 ?k2 ?k3 ?k4 ?k5); (case k1 => rfl); (case k2 => rfl); (case k3 => rfl); (case k4 => rfl); (case k5 => rfl)) | ((with_reducible refine' x_dget2 ?kx ?_ ?km); (case kx => assumption); (case km => exact ⟨rfl, rfl, rfl, rfl⟩)) | ((with_reducible refine' x_dpop1 ?_ ?km); (case km => exact ⟨rfl, rfl, rfl, rfl⟩)) | ((with_reducible refine' x_upper ?_ ?k1 ?k2); (case k1 => rfl); (case k2 => rfl)) | ((with_reducible refine' x_join ?_ ?k1 ?k2 ?k3 ?k4 ?k5); (case k1 => rfl); (case k2 => rfl); (case k3 => rfl); (case k4 => rfl); (case k5 => rfl)) | ((with_reducible refine' x_sindex ?_ ?k1 ?k2 ?k3 ?k4 ?k5); (case k1 => rfl); (case k2 => rfl); (case k3 => rfl); (case k4 => rfl); (case k5 => rfl)) | ((with_reducible refine' x_insert ?_ ?k1 ?k2 ?k3 ?k4 ?k5); (case k1 => rfl); (case k2 => rfl); (case k3 => rfl); (case k4 => rfl); (case k5 => rfl)) | ((with_reducible refine' x_popAt ?_ ?k1 ?k2 ?k3 ?k4 ?k5); (case k1 => rfl); (case k2 => rfl); (case k3 => rfl); (case k4 => rfl); (case k5 => rfl)) | ((with_reducible refine' x_append ?_ ?k1 ?k2 ?k3 ?k4 ?k5); (case k1 => rfl); (case k2 => rfl); (case k3 => rfl); (case k4 => rfl); (case k5 => rfl)) | ((with_reducible refine' x_extend ?_ ?k1 ?k2 ?k3 ?k4 ?k5); (case k1 => rfl); (case k2 => rfl); (case k3 => rfl); (case k4 => rfl); (case k5 => rfl))))
    | ((with_reducible show DL.WE _ (Expr.BoolOp _ _ _) _ _ _); (first | with_reducible refine we_and ?_ | with_reducible refine we_or ?_ | with_reducible refine we_one ?_))
    | ((with_reducible show DL.WE _ (Expr.UnaryOp _ _ _) _ _ _); (first | with_reducible refine we_not ?_ | with_reducible refine we_neg ?_))
    | ((with_reducible show DL.WE _ (Expr.IfExp _ _ _ _) _ _ _); (first | with_reducible refine we_if ?_))
    | ((with_reducible show DL.WE _ (Expr.Constant _ _ _) _ _ _); (first | with_reducible refine we_int ?_ | with_reducible refine we_bl ?_ | with_reducible refine we_non ?_ | with_reducible refine we_str ?_))
    | ((with_reducible show DL.WE _ (Expr.Tuple _ _ _) _ _ _); (first | with_reducible refine we_tup ?_))
    | ((with_reducible show DL.WE _ (Expr.Name _ _) _ _ _); (first | ((with_reducible refine' we_nm ?k1 ?k0 ?k2 ?_); (case k1 => assumption); (case k0 => walk_at "nm"); (case k2 => walk_at "nm")) | ((with_reducible refine' x_tyInt ?kx ?kz ?kg ?_); (case kx => assumption); (case kz => assumption); (case kg => walk_at "gl")) | ((with_reducible refine' x_tyBool ?kx ?kz ?kg ?_); (case kx => assumption); (case kz => assumption); (case kg => walk_at "gl")) | ((with_reducible refine' x_tyStr ?kx ?kz ?kg ?_); (case kx => assumption); (case kz => assumption); (case kg => walk_at "gl")) | ((with_reducible refine' x_tyList ?kx ?kz ?kg ?_); (case kx => assumption); (case kz => assumption); (case kg => walk_at "gl")) | ((with_reducible refine' x_tyTuple ?kx ?kz ?kg ?_); (case kx => assumption); (case kz => assumption); (case kg => walk_at "gl")) | ((with_reducible refine' x_glob ?kx ?kh ?kg ?_ ?kd); (case kh => assumption); (case kx => assumption); (case kg => walk_at "gl"); (case kd => decide))))
    | ((with_reducible show DL.WE _ (Expr.BinOp _ _ _ _) _ _ _); (first | with_reducible refine we_add ?_ | with_reducible refine we_sub' ?_ | with_reducible refine we_mul ?_ | with_reducible refine we_mod ?_ | with_reducible refine we_fdiv ?_ | with_reducible refine we_pow ?_))))
  | ((with_reducible show DL.WSs _ _ _ _ _); (first | with_reducible refine wss_cons ?_ | with_reducible refine wss_nil ?_))
  | ((with_reducible show DL.WS _ _ _ _ _); (first
    | ((with_reducible show DL.WS _ (Stmt.Assign _ _ _) _ _ _); (first | ((with_reducible refine' x_setFld ?kx ?_ ?k1); (case kx => assumption); (case k1 => rfl)) | ((with_reducible refine' ws_nm ?kb ?k0 ?kp ?_ ?k1); (case kb => assumption); (case k0 => walk_at "nm"); (case kp => walk_at "nm"); (case k1 => rfl)) | ((with_reducible refine' x_par2 ?kd ?k1 ?k2 ?k3 ?k4 ?k5 ?k6 ?_ ?k7); (case kd => assumption); (case k1 => walk_at "nm"); (case k2 => (intro _; walk_at "nm")); (case k3 => decide +kernel); (case k4 => decide +kernel); (case k5 => decide +kernel); (case k6 => rfl); (case k7 => rfl)) | ((with_reducible refine' x_par3 ?kd ?k1 ?k2 ?k3 ?k4 ?k5 ?k6 ?k7 ?_ ?k8); (case kd => assumption); (case k1 => walk_at "nm"); (case k2 => (intro _; walk_at "nm")); (case k3 => (intro _ _; walk_at "nm")); (case k4 => decide +kernel); (case k5 => decide +kernel); (case k6 => decide +kernel); (case k7 => rfl); (case k8 => rfl)) | ((with_reducible refine' ws_asg ?_ ?k1 ?k2 ?k3); (case k1 => rfl); (case k2 => rfl); (case k3 => rfl)) | ((with_reducible refine' ws_asgD ?kd ?_ ?k1 ?k2 ?k3); (case kd => assumption); (case k1 => rfl); (case k2 => rfl); (case k3 => rfl))))
    | ((with_reducible show DL.WS _ (Stmt.Delete _ _) _ _ _); (first | ((with_reducible refine' x_ddel ?_))))
    | ((with_reducible show DL.WS _ (Stmt.If _ _ _ _) _ _ _); (first | ((with_reducible refine' x_ifWge ?kb ?k0 ?kp ?_); (case kb => assumption); (case k0 => walk_at "nm"); (case kp => walk_at "nm")) | with_reducible refine ws_if ?_))
    | ((with_reducible show DL.WS _ (Stmt.Return _ _) _ _ _); (first | with_reducible refine ws_ret ?_ | with_reducible refine ws_retN ?_))
    | ((with_reducible show DL.WS _ (Stmt.Pass _) _ _ _); (first | with_reducible refine ws_pass ?_))
    | ((with_reducible show DL.WS _ (Stmt.Break _) _ _ _); (first | with_reducible refine ws_break ?_))
    | ((with_reducible show DL.WS _ (Stmt.Continue _) _ _ _); (first | with_reducible refine ws_continue ?_))
    | ((with_reducible show DL.WS _ (Stmt.AugAssign _ _ _ _) _ _ _); (first | ((with_reducible refine' ws_augAdd ?kb ?k0 ?kg ?kp ?_); (case kb => assumption); (case k0 => walk_at "nm"); (case kg => walk_at "nm"); (case kp => walk_at "nm"))))
    | ((with_reducible show DL.WS _ (Stmt.Expr _ _) _ _ _); (first | ((with_reducible refine' ws_expr ?_ ?k1); (case k1 => rfl))))))
  | ((with_reducible show DL.WT _ _ _ _ _); (first | ((with_reducible refine' xt_inX ?kx ?_ ?k1); (case kx => assumption); (case k1 => rfl)) | ((with_reducible refine' xt_ninX ?kx ?_ ?k1); (case kx => assumption); (case k1 => rfl)) | ((with_reducible refine' wt_lele ?_ ?k1); (case k1 => with_unfolding_all rfl)) | ((with_reducible refine' xt_eq ?k1 ?_); (case k1 => assumption)) | ((with_reducible refine' xt_ne ?k1 ?_); (case k1 => assumption)) | ((with_reducible refine' xt_in ?k1 ?_ ?k2); (case k1 => assumption); (case k2 => rfl)) | ((with_reducible refine' xt_nin ?k1 ?_ ?k2); (case k1 => assumption); (case k2 => rfl)) | with_reducible refine wt_lt ?_ | with_reducible refine wt_le ?_ | with_reducible refine wt_gt ?_ | with_reducible refine wt_ge ?_ | with_reducible refine wt_is ?_ | with_reducible refine wt_isnot ?_ | with_reducible refine wt_not ?_ | with_reducible refine wt_bo ?_ | ((with_reducible refine' wt_val ?_ ?k1); (case k1 => (intro _; rfl)))))
  | ((with_reducible show DL.WG _ _ _ _ _ _); (first | ((with_reducible refine' x_setX ?kx ?_ ?k1); (case kx => assumption); (case k1 => (intro _; rfl))) | ((with_reducible refine' wg_nm ?kb ?k0 ?kp ?_); (case kb => assumption); (case k0 => walk_at "nm"); (case kp => walk_at "nm")) | ((with_reducible refine' x_gtup ?kx ?kl ?_ ?k1); (case kx => assumption); (case kl => rfl); (case k1 => rfl)) | ((with_reducible refine' wg_setL ?_ ?k1); (case k1 => (intro _; rfl)))))
  | ((with_reducible show DL.WA _ _ _ _ _); (first | with_reducible refine wa_nil ?_ | ((with_reducible refine' wa_cons ?_ ?k1); (case k1 => rfl))))
  | ((with_reducible show DL.WW _ _ _ _ _); (first | with_reducible refine ww_and ?_ | with_reducible refine ww_or ?_ | with_reducible refine ww_and1 ?_ | with_reducible refine ww_or1 ?_))
  | ((with_reducible show DL.WGs _ _ _ _ _ _); (first | ((with_reducible refine' wgs_cons ?_ ?k1); (case k1 => rfl)) | with_reducible refine wgs_nil ?_))
  | ((with_reducible show DL.WO _ _ _ _ _); (first | with_reducible refine wo_n ?_ | with_reducible refine wo_s ?_))
  | ((with_reducible show DL.dIxD _ _ _ _); (first | ((with_reducible refine' ixD_ok ?h1 ?h2 ?_); (case h1 => assumption); (case h2 => assumption)) | ((with_reducible show dIxD (D.own _) (D.int _) _ _); refine Or.inl ?_) | ((with_reducible show dIxD (D.lst _) _ _ _); refine Or.inl ?_) | ((with_reducible show dIxD (D.tup _) _ _ _); refine Or.inl ?_) | ((with_reducible show dIxD (D.str _) _ _ _); refine Or.inl ?_)))
  | ((with_reducible show DL.dInX _ _ _ _ _); (first | ((with_reducible refine' inX_ok ?h1 ?_); (case h1 => assumption)) | ((with_reducible refine' ninX_ok ?h1 ?_); (case h1 => assumption))))
  | ((with_reducible show DL.dLenX _ _ _); (first | ((with_reducible refine' lenX_ok ?h1 ?_); (case h1 => assumption)) | ((with_reducible show dLenX [D.lst _] _ _); refine Or.inl ?_) | ((with_reducible show dLenX [D.tup _] _ _); refine Or.inl ?_) | ((with_reducible show dLenX [D.str _] _ _); refine Or.inl ?_)))
  | ((with_reducible show DL.tb _ _ _); (first | with_reducible refine tb_ok ?_))
  | ((with_reducible show DL.dIsi _ _ _); (first | ((with_reducible refine' isi_int ?k1 ?_); (case k1 => walk_at "kd")) | ((with_reducible refine' isi_bool ?k1 ?_); (case k1 => walk_at "kd")) | ((with_reducible refine' isi_str ?k1 ?_); (case k1 => walk_at "kd")) | ((with_reducible refine' isi_list ?k1 ?_); (case k1 => walk_at "kd")) | ((with_reducible refine' isi_tuple ?k1 ?_); (case k1 => walk_at "kd")) | ((with_reducible refine' isi_ls ?k1 ?_); (case k1 => assumption)) | ((with_reducible refine' isi_lsT ?k1 ?_); (case k1 => assumption))))
  | ((with_reducible show DL.dIsiT _ _ _); (first | ((with_reducible refine' isi_ltT ?k1 ?k2 ?_); (case k1 => rfl); (case k2 => rfl)) | ((with_reducible refine' isi_ltF ?k1 ?k2 ?_); (case k1 => rfl); (case k2 => rfl)) | ((with_reducible refine' isi_lt ?k1 ?_); (case k1 => walk_at "kd")) | ((with_reducible refine' isiT_ls ?k1 ?_); (case k1 => assumption))))
  | ((with_reducible show DL.dLen _ _ _); (first | ((with_reducible refine' len_ls ?k1 ?_); (case k1 => assumption)) | ((with_reducible refine' len_str ?k1 ?_); (case k1 => walk_at "ct")) | with_reducible refine len_tup ?_ | with_reducible refine len_fr ?_ | with_reducible refine len_sl ?_ | ((with_reducible refine' len_own ?k1 ?_); (case k1 => assumption)) | with_reducible refine len_put ?_))
  | ((with_reducible show DL.dEq _ _ _ _ _); (first | with_reducible refine eq_bb ?_ | with_reducible refine ne_bb ?_ | with_reducible refine eq_ii ?_ | with_reducible refine ne_ii ?_))
  | ((with_reducible show DL.dI2 _ _ _ _ _ _); (first | ((with_reducible refine' i2_ok ?k1 ?_); (case k1 => walk_at "ct"))))
  | ((with_reducible show DL.dB2 _ _ _ _ _); (first | with_reducible refine b2_ok ?_))
  | ((with_reducible show DL.dAdd _ _ _ _); (first | with_reducible refine add_ii ?_ | ((with_reducible refine' add_ss ?k1 ?_); (case k1 => walk_at "ct")) | ((with_reducible refine' add_tt ?k1 ?_); (case k1 => walk_at "ct"))))
  | ((with_reducible show DL.dMul _ _ _ _); (first | ((with_reducible refine' mul_ii ?k1 ?_); (case k1 => walk_at "ct"))))
  | ((with_reducible show DL.dSl _ _ _ _ _); (first | with_reducible refine sl_t ?_ | with_reducible refine sl_f ?_))
  | ((with_reducible show DL.dInt1 _ _ _ _); (first | with_reducible refine int1_ok ?_))
  | ((with_reducible show DL.dInt2 _ _ _ _); (first | with_reducible refine int2_ok ?_))
  | ((with_reducible show DL.dInt _ _ _); (first | with_reducible refine int_i ?_ | with_reducible refine int_b ?_))
  | ((with_reducible show DL.dIn _ _ _ _ _); (first | with_reducible refine ins_c ?_))
  | ((with_reducible show DL.dTuple _ _ _); (first | with_reducible refine tup_t ?_ | with_reducible refine tup_f ?_))
  | ((with_reducible show DL.dIx _ _ _ _); (first | ((with_reducible refine' ix_t ?k1 ?_); (case k1 => rfl)) | ((with_reducible refine' ix_f ?k1 ?_); (case k1 => rfl)) | ((with_reducible refine' ix_s ?k1 ?_); (case k1 => rfl)) | ((with_reducible refine' ix_p ?k1 ?_); (case k1 => rfl)) | ((with_reducible refine' ix_o ?k0 ?k1 ?_); (case k0 => assumption); (case k1 => rfl))))
  | ((with_reducible show DL.dIsN _ _ _ _ _); (first | ((with_reducible refine' isn_k ?k1 ?_); (case k1 => walk_at "kd")) | ((with_reducible refine' nisn_k ?k1 ?_); (case k1 => walk_at "kd"))))
  | ((refine' fld_ok ?h1 ?h2 ?h3 ?_); (case h1 => assumption); (case h2 => assumption); (case h3 => walk_at "fg"))
  | with_reducible refine ex_bl ?_
  | with_reducible refine ex_int ?_
  | with_reducible refine ex_2 ?_
  | with_reducible refine ex_3 ?_
  | ((with_reducible refine' setL_p ?k1 ?_); (case k1 => rfl))
  | ((with_reducible refine' setL_o ?k0 ?k1 ?_); (case k0 => assumption); (case k1 => rfl))
  | with_reducible refine and_T ?_
  | with_reducible refine and_F ?_
  | ((with_reducible refine and_S ?_ ?_) <;> intro _)
  | with_reducible refine ty_str ?_
  | with_reducible refine ty_put ?_
  | ((with_reducible refine' ty_own ?k1 ?_); (case k1 => assumption))
  | ((with_reducible refine' sz_ok ?k1 ?_); (case k1 => rfl))
  | ((with_reducible refine' sz_as ?k1 ?_); (case k1 => assumption))))
local macro_rules | `(tactic| walk_at "pyCA") => `(tactic| repeat' (first
  | ((with_reducible show DL.WE _ _ _ _ _); (first
    | ((with_reducible show DL.WE _ (Expr.Subscript _ _ _) _ _ _); (first | ((with_reducible refine' x_ixD ?kx ?_ ?k1); (case kx => assumption); (case k1 => (intro _ _; rfl))) | with_reducible refine we_revT ?_ | with_reducible refine x_sliceA ?_ | ((with_reducible refine' x_ixL ?_ ?k1); (case k1 => (intro _ _; rfl))) | ((with_reducible refine' we_ix ?_ ?k1); (case k1 => (intro _ _; rfl))) | with_reducible refine we_slice ?_))
    | ((with_reducible show DL.WE _ (Expr.Compare _ _ _ _) _ _ _); (first | ((with_reducible refine' x_inX ?kx ?_ ?k1); (case kx => assumption); (case k1 => rfl)) | ((with_reducible refine' x_ninX ?kx ?_ ?k1); (case kx => assumption); (case k1 => rfl)) | ((with_reducible refine' we_lele ?_ ?k1); (case k1 => with_unfolding_all rfl)) | with_reducible refine we_lt ?_ | with_reducible refine we_le ?_ | with_reducible refine we_gt ?_ | with_reducible refine we_ge ?_ | with_reducible refine we_is ?_ | with_reducible refine we_isnot ?_ | ((with_reducible refine' x_eq ?k1 ?_); (case k1 => assumption)) | ((with_reducible refine' x_ne ?k1 ?_); (case k1 => assumption)) | ((with_reducible refine' x_in ?k1 ?_ ?k2); (case k1 => assumption); (case k2 => rfl)) | ((with_reducible refine' x_nin ?k1 ?_ ?k2); (case k1 => assumption); (case k2 => rfl))))
    | ((with_reducible show DL.WE _ (Expr.Call (Expr.Name _ _) _ _ _) _ _ _); (first | ((with_reducible refine' x_lenX ?kx ?kz ?kg ?_ ?k1 ?k2); (case kx => assumption); (case kz => assumption); (case kg => walk_at "gl"); (case k1 => rfl); (case k2 => rfl)) | ((with_reducible refine' x_dictP ?kx ?kz ?kg ?_ ?k1 ?k2); (case kx => assumption); (case kz => assumption); (case kg => walk_at "gl"); (case k1 => rfl); (case k2 => rfl)) | ((with_reducible refine' x_sortedK ?kx ?kz ?kg ?_ ?k1 ?k2); (case kx => assumption); (case kz => assumption); (case kg => walk_at "gl"); (case k1 => rfl); (case k2 => rfl)) | ((with_reducible refine' x_listA ?kx ?kz ?kg ?_ ?k1 ?k2); (case kx => assumption); (case kz => assumption); (case kg => walk_at "gl"); (case k1 => rfl); (case k2 => rfl)) | ((with_reducible refine' x_repr ?kx ?kz ?kg ?_ ?k1 ?k2); (case kx => assumption); (case kz => assumption); (case kg => walk_at "gl"); (case k1 => rfl); (case k2 => rfl)) | ((with_reducible refine' x_isiT ?kx ?kz ?kg ?_ ?k1 ?k2); (case kx => assumption); (case kz => assumption); (case kg => walk_at "gl"); (case k1 => rfl); (case k2 => rfl)) | ((with_reducible refine' x_isi ?kx ?kz ?kg ?_ ?k1 ?k2); (case kx => assumption); (case kz => assumption); (case kg => walk_at "gl"); (case k1 => rfl); (case k2 => rfl)) | ((with_reducible refine' x_len ?kx ?kz ?kg ?_ ?k1 ?k2); (case kx => assumption); (case kz => assumption); (case kg => walk_at "gl"); (case k1 => rfl); (case k2 => rfl)) | ((with_reducible refine' x_abs ?kx ?kz ?kg ?_ ?k1 ?k2); (case kx => assumption); (case kz => assumption); (case kg => walk_at "gl"); (case k1 => rfl); (case k2 => rfl)) | ((with_reducible refine' x_max2 ?kx ?kz ?kg ?_ ?k1 ?k2); (case kx => assumption); (case kz => assumption); (case kg => walk_at "gl"); (case k1 => rfl); (case k2 => rfl)) | ((with_reducible refine' x_min2 ?kx ?kz ?kg ?_ ?k1 ?k2); (case kx => assumption); (case kz => assumption); (case kg => walk_at "gl"); (case k1 => rfl); (case k2 => rfl)) | ((with_reducible refine' x_minL ?kx ?kz ?kg ?_ ?k1 ?k2); (case kx => assumption); (case kz => assumption); (case kg => walk_at "gl"); (case k1 => rfl); (case k2 => rfl)) | ((with_reducible refine' x_any ?kx ?kz ?kg ?_ ?k1 ?k2); (case kx => assumption); (case kz => assumption); (case kg => walk_at "gl"); (case k1 => rfl); (case k2 => rfl)) | ((with_reducible refine' x_all ?kx ?kz ?kg ?_ ?k1 ?k2); (case kx => assumption); (case kz => assumption); (case kg => walk_at "gl"); (case k1 => rfl); (case k2 => rfl)) | ((with_reducible refine' x_sum ?kx ?kz ?kg ?_ ?k1 ?k2); (case kx => assumption); (case kz => assumption); (case kg => walk_at "gl"); (case k1 => rfl); (case k2 => rfl)) | ((with_reducible refine' x_intC ?kx ?kz ?kg ?_ ?k1 ?k2); (case kx => assumption); (case kz => assumption); (case kg => walk_at "gl"); (case k1 => rfl); (case k2 => rfl)) | ((with_reducible refine' x_strC ?kx ?kz ?kg ?_ ?k1 ?k2); (case kx => assumption); (case kz => assumption); (case kg => walk_at "gl"); (case k1 => rfl); (case k2 => rfl)) | ((with_reducible refine' x_tupleC ?kx ?kz ?kg ?_ ?k1 ?k2); (case kx => assumption); (case kz => assumption); (case kg => walk_at "gl"); (case k1 => rfl); (case k2 => rfl)) | ((with_reducible refine' x_listC ?kx ?kz ?kg ?_ ?k1 ?k2); (case kx => assumption); (case kz => assumption); (case kg => walk_at "gl"); (case k1 => rfl); (case k2 => rfl)) | ((with_reducible refine' x_call ?kx ?kh ?kg ?_ ?kl ?kd ?k1 ?k2); (case kh => assumption); (case kx => assumption); (case kg => walk_at "gl"); (case kl => first | decide | omega); (case kd => decide); (case k1 => rfl); (case k2 => rfl))))
    | ((with_reducible show DL.WE _ (Expr.Attribute _ _ _) _ _ _); (first | ((with_reducible refine' x_fld ?kx ?_ ?k1); (case kx => assumption); (case k1 => rfl))))
    | ((with_reducible show DL.WE _ (Expr.Dict _ _ _) _ _ _); (first | with_reducible refine x_dnew ?_))
    | ((with_reducible show DL.WE _ (Expr.Call (Expr.Attribute _ _ _) _ _ _) _ _ _); (first | ((with_reducible refine' x_stripC ?_ ?k1 ?k2 ?k3 ?k4 ?k5); (case k1 => rfl); (case k2 => rfl); (case k3 => rfl); (case k4 => rfl); (case k5 => rfl)) | ((with_reducible refine' x_dget2 ?kx ?_ ?km); (case kx => assumption); (case km => exact ⟨rfl, rfl, rfl, rfl⟩)) | ((with_reducible refine' x_dpop1 ?_ ?km); (case km => exact ⟨rfl, rfl, rfl, rfl⟩)) | ((with_reducible refine' x_upper ?_ ?k1 ?k2); (case k1 => rfl); (case k2 => rfl)) | ((with_reducible refine' x_join ?_ ?k1 ?k2 ?k3 ?k4 ?k5); (case k1 => rfl); (case k2 => rfl); (case k3 => rfl); (case k4 => rfl); (case k5 => rfl)) | ((with_reducible refine' x_sindex ?_ ?k1 ?k2 ?k3 ?k4 ?k5); (case k1 => rfl); (case k2 => rfl); (case k3 => rfl); (case k4 => rfl); (case k5 => rfl)) | ((with_reducible refine' x_insert ?_ ?k1 ?k2 ?k3 ?k4 ?k5); (case k1 => rfl); (case k2 => rfl); (case k3 => rfl); (case k4 => rfl); (case k5 => rfl)) | ((with_reducible refine' x_popAt ?_ ?k1 ?k2 ?k3 ?k4 ?k5); (case k1 => rfl); (case k2 => rfl); (case k3 => rfl); (case k4 => rfl); (case k5 => rfl)) | ((with_reducible refine' x_append ?_ ?k1 ?k2 ?k3 ?k4 ?k5); (case k1 => rfl); (case k2 => rfl); (case k3 => rfl); (case k4 => rfl); (case k5 => rfl)) | ((with_reducible refine' x_extend ?_ ?k1 ?k2 ?k3 ?k4 ?k5); (case k1 => rfl); (case k2 => rfl); (case k3 => rfl); (case k4 => rfl); (case k5 => rfl))))
    | ((with_reducible show DL.WE _ (Expr.BinOp _ _ _ _) _ _ _); (first | with_reducible refine x_mulS ?_ | with_reducible refine x_addA ?_ | with_reducible refine x_mulA ?_ | with_reducible refine we_add ?_ | with_reducible refine we_sub' ?_ | with_reducible refine we_mul ?_ | with_reducible refine we_mod ?_ | with_reducible refine we_fdiv ?_ | with_reducible refine we_pow ?_))
    | ((with_reducible show DL.WE _ (Expr.List _ _) _ _ _); (first | with_reducible refine we_lstF ?_))
    | ((with_reducible show DL.WE _ (Expr.BoolOp _ _ _) _ _ _); (first | with_reducible refine we_and ?_ | with_reducible refine we_or ?_ | with_reducible refine we_one ?_))
    | ((with_reducible show DL.WE _ (Expr.UnaryOp _ _ _) _ _ _); (first | with_reducible refine we_not ?_ | with_reducible refine we_neg ?_))
    | ((with_reducible show DL.WE _ (Expr.IfExp _ _ _ _) _ _ _); (first | with_reducible refine we_if ?_))
    | ((with_reducible show DL.WE _ (Expr.Constant _ _ _) _ _ _); (first | with_reducible refine we_int ?_ | with_reducible refine we_bl ?_ | with_reducible refine we_non ?_ | with_reducible refine we_str ?_))
    | ((with_reducible show DL.WE _ (Expr.Tuple _ _ _) _ _ _); (first | with_reducible refine we_tup ?_))
    | ((with_reducible show DL.WE _ (Expr.Name _ _) _ _ _); (first | ((with_reducible refine' we_nm ?k1 ?k0 ?k2 ?_); (case k1 => assumption); (case k0 => walk_at "nm"); (case k2 => walk_at "nm")) | ((with_reducible refine' x_tyInt ?kx ?kz ?kg ?_); (case kx => assumption); (case kz => assumption); (case kg => walk_at "gl")) | ((with_reducible refine' x_tyBool ?kx ?kz ?kg ?_); (case kx => assumption); (case kz => assumption); (case kg => walk_at "gl")) | ((with_reducible refine' x_tyStr ?kx ?kz ?kg ?_); (case kx => assumption); (case kz => assumption); (case kg => walk_at "gl")) | ((with_reducible refine' x_tyList ?kx ?kz ?kg ?_); (case kx => assumption); (case kz => assumption); (case kg => walk_at "gl")) | ((with_reducible refine' x_tyTuple ?kx ?kz ?kg ?_); (case kx => assumption); (case kz => assumption); (case kg => walk_at "gl")) | ((with_reducible refine' x_glob ?kx ?kh ?kg ?_ ?kd); (case kh => assumption); (case kx => assumption); (case kg => walk_at "gl"); (case kd => decide))))))
  | ((with_reducible show DL.WSs _ _ _ _ _); (first | with_reducible refine wss_cons ?_ | with_reducible refine wss_nil ?_))
  | ((with_reducible show DL.WS _ _ _ _ _); (first
    | ((with_reducible show DL.WS _ (Stmt.Assign _ _ _) _ _ _); (first | ((with_reducible refine' x_setFld ?kx ?_ ?k1); (case kx => assumption); (case k1 => rfl)) | ((with_reducible refine' ws_nm ?kb ?k0 ?kp ?_ ?k1); (case kb => assumption); (case k0 => walk_at "nm"); (case kp => walk_at "nm"); (case k1 => rfl)) | ((with_reducible refine' x_par2 ?kd ?k1 ?k2 ?k3 ?k4 ?k5 ?k6 ?_ ?k7); (case kd => assumption); (case k1 => walk_at "nm"); (case k2 => (intro _; walk_at "nm")); (case k3 => decide +kernel); (case k4 => decide +kernel); (case k5 => decide +kernel); (case k6 => rfl); (case k7 => rfl)) | ((with_reducible refine' x_par3 ?kd ?k1 ?k2 ?k3 ?k4 ?k5 ?k6 ?k7 ?_ ?k8); (case kd => assumption); (case k1 => walk_at "nm"); (case k2 => (intro _; walk_at "nm")); (case k3 => (intro _ _; walk_at "nm")); (case k4 => decide +kernel); (case k5 => decide +kernel); (case k6 => decide +kernel); (case k7 => rfl); (case k8 => rfl)) | ((with_reducible refine' ws_asg ?_ ?k1 ?k2 ?k3); (case k1 => rfl); (case k2 => rfl); (case k3 => rfl)) | ((with_reducible refine' ws_asgD ?kd ?_ ?k1 ?k2 ?k3); (case kd => assumption); (case k1 => rfl); (case k2 => rfl); (case k3 => rfl))))
    | ((with_reducible show DL.WS _ (Stmt.Delete _ _) _ _ _); (first | ((with_reducible refine' x_ddel ?_))))
    | ((with_reducible show DL.WS _ (Stmt.If _ _ _ _) _ _ _); (first | ((with_reducible refine' x_ifWge ?kb ?k0 ?kp ?_); (case kb => assumption); (case k0 => walk_at "nm"); (case kp => walk_at "nm")) | with_reducible refine ws_if ?_))
    | ((with_reducible show DL.WS _ (Stmt.Return _ _) _ _ _); (first | with_reducible refine ws_ret ?_ | with_reducible refine ws_retN ?_))
    | ((with_reducible show DL.WS _ (Stmt.Pass _) _ _ _); (first | with_reducible refine ws_pass ?_))
    | ((with_reducible show DL.WS _ (Stmt.Break _) _ _ _); (first | with_reducible refine ws_break ?_))
    | ((with_reducible show DL.WS _ (Stmt.Continue _) _ _ _); (first | with_reducible refine ws_continue ?_))
    | ((with_reducible show DL.WS _ (Stmt.AugAssign _ _ _ _) _ _ _); (first | ((with_reducible refine' ws_augAdd ?kb ?k0 ?kg ?kp ?_); (case kb => assumption); (case k0 => walk_at "nm"); (case kg => walk_at "nm"); (case kp => walk_at "nm"))))
    | ((with_reducible show DL.WS _ (Stmt.Expr _ _) _ _ _); (first | ((with_reducible refine' ws_expr ?_ ?k1); (case k1 => rfl))))))
  | ((with_reducible show DL.WT _ _ _ _ _); (first | ((with_reducible refine' xt_inX ?kx ?_ ?k1); (case kx => assumption); (case k1 => rfl)) | ((with_reducible refine' xt_ninX ?kx ?_ ?k1); (case kx => assumption); (case k1 => rfl)) | ((with_reducible refine' wt_lele ?_ ?k1); (case k1 => with_unfolding_all rfl)) | ((with_reducible refine' xt_eq ?k1 ?_); (case k1 => assumption)) | ((with_reducible refine' xt_ne ?k1 ?_); (case k1 => assumption)) | ((with_reducible refine' xt_in ?k1 ?_ ?k2); (case k1 => assumption); (case k2 => rfl)) | ((with_reducible refine' xt_nin ?k1 ?_ ?k2); (case k1 => assumption); (case k2 => rfl)) | with_reducible refine wt_lt ?_ | with_reducible refine wt_le ?_ | with_reducible refine wt_gt ?_ | with_reducible refine wt_ge ?_ | with_reducible refine wt_is ?_ | with_reducible refine wt_isnot ?_ | with_reducible refine wt_not ?_ | with_reducible refine wt_bo ?_ | ((with_reducible refine' wt_val ?_ ?k1); (case k1 => (intro _; rfl)))))
  | ((with_reducible show DL.WG _ _ _ _ _ _); (first | ((with_reducible refine' x_setX ?kx ?_ ?k1); (case kx => assumption); (case k1 => (intro _; rfl))) | ((with_reducible refine' wg_nm ?kb ?k0 ?kp ?_); (case kb => assumption); (case k0 => walk_at "nm"); (case kp => walk_at "nm")) | ((with_reducible refine' x_gtup ?kx ?kl ?_ ?k1); (case kx => assumption); (case kl => rfl); (case k1 => rfl)) | ((with_reducible refine' wg_setL ?_ ?k1); (case k1 => (intro _; rfl)))))
  | ((with_reducible show DL.WA _ _ _ _ _); (first | with_reducible refine wa_nil ?_ | ((with_reducible refine' wa_cons ?_ ?k1); (case k1 => rfl))))
  | ((with_reducible show DL.WW _ _ _ _ _); (first | with_reducible refine ww_and ?_ | with_reducible refine ww_or ?_ | with_reducible refine ww_and1 ?_ | with_reducible refine ww_or1 ?_))
  | ((with_reducible show DL.WGs _ _ _ _ _ _); (first | ((with_reducible refine' wgs_cons ?_ ?k1); (case k1 => rfl)) | with_reducible refine wgs_nil ?_))
  | ((with_reducible show DL.WO _ _ _ _ _); (first | with_reducible refine wo_n ?_ | with_reducible refine wo_s ?_))
  | ((with_reducible show DL.dIxD _ _ _ _); (first | ((with_reducible refine' ixD_ok ?h1 ?h2 ?_); (case h1 => assumption); (case h2 => assumption)) | ((with_reducible show dIxD (D.own _) (D.int _) _ _); refine Or.inl ?_) | ((with_reducible show dIxD (D.lst _) _ _ _); refine Or.inl ?_) | ((with_reducible show dIxD (D.tup _) _ _ _); refine Or.inl ?_) | ((with_reducible show dIxD (D.str _) _ _ _); refine Or.inl ?_)))
  | ((with_reducible show DL.dInX _ _ _ _ _); (first | ((with_reducible refine' inX_ok ?h1 ?_); (case h1 => assumption)) | ((with_reducible refine' ninX_ok ?h1 ?_); (case h1 => assumption))))
  | ((with_reducible show DL.dLenX _ _ _); (first | ((with_reducible refine' lenX_ok ?h1 ?_); (case h1 => assumption)) | ((with_reducible show dLenX [D.lst _] _ _); refine Or.inl ?_) | ((with_reducible show dLenX [D.tup _] _ _); refine Or.inl ?_) | ((with_reducible show dLenX [D.str _] _ _); refine Or.inl ?_)))
  | ((with_reducible show DL.FrzA _ _ _); (first | with_reducible refine fa_int ?_ | with_reducible refine fa_str ?_ | with_reducible refine fa_bl ?_ | with_reducible refine fa_non ?_ | with_reducible refine fa_tup ?_ | with_reducible refine fa_lst ?_ | ((with_reducible refine' fa_put ?k1 ?_); (case k1 => assumption))))
  | ((with_reducible show DL.dSl _ _ _ _ _); (first | with_reducible refine slA_f ?_ | with_reducible refine slA_t ?_ | with_reducible refine slA_p ?_ | ((with_reducible refine' slA_o ?k1 ?_); (case k1 => assumption)) | ((with_reducible refine' slA_z ?k1 ?_); (case k1 => walk_at "ct")) | with_reducible refine sl_t ?_ | with_reducible refine sl_f ?_))
  | ((with_reducible show DL.dAdd _ _ _ _); (first | with_reducible refine addA_ii ?_ | ((with_reducible refine' addA_ss ?k1 ?_); (case k1 => walk_at "ct")) | ((with_reducible refine' addA_tt ?k1 ?_); (case k1 => walk_at "ct")) | ((with_reducible refine' addA_ll ?k1 ?_); (case k1 => walk_at "sz")) | ((with_reducible refine' addA_pl ?k1 ?_); (case k1 => walk_at "sz")) | with_reducible refine add_ii ?_ | ((with_reducible refine' add_ss ?k1 ?_); (case k1 => walk_at "ct")) | ((with_reducible refine' add_tt ?k1 ?_); (case k1 => walk_at "ct"))))
  | ((with_reducible show DL.dList _ _ _); (first | with_reducible refine listA_l ?_ | with_reducible refine listA_t ?_ | with_reducible refine listA_p ?_ | ((with_reducible refine' listA_o ?k1 ?_); (case k1 => assumption))))
  | ((with_reducible show DL.dMul _ _ _ _); (first | ((with_reducible refine' mulA_ii ?k1 ?_); (case k1 => walk_at "ct")) | ((with_reducible refine' mul_ii ?k1 ?_); (case k1 => walk_at "ct"))))
  | ((with_reducible show DL.dMulS _ _ _ _); (first | ((with_reducible refine' mul_s ?k1 ?_); (case k1 => decide +kernel))))
  | ((with_reducible show DL.dAppend _ _ _ _); (first | ((with_reducible refine' app_put ?k1 ?_); (case k1 => walk_at "sz"))))
  | ((with_reducible show DL.tb _ _ _); (first | with_reducible refine tb_ok ?_))
  | ((with_reducible show DL.dIsi _ _ _); (first | ((with_reducible refine' isi_int ?k1 ?_); (case k1 => walk_at "kd")) | ((with_reducible refine' isi_bool ?k1 ?_); (case k1 => walk_at "kd")) | ((with_reducible refine' isi_str ?k1 ?_); (case k1 => walk_at "kd")) | ((with_reducible refine' isi_list ?k1 ?_); (case k1 => walk_at "kd")) | ((with_reducible refine' isi_tuple ?k1 ?_); (case k1 => walk_at "kd")) | ((with_reducible refine' isi_ls ?k1 ?_); (case k1 => assumption)) | ((with_reducible refine' isi_lsT ?k1 ?_); (case k1 => assumption))))
  | ((with_reducible show DL.dIsiT _ _ _); (first | ((with_reducible refine' isi_ltT ?k1 ?k2 ?_); (case k1 => rfl); (case k2 => rfl)) | ((with_reducible refine' isi_ltF ?k1 ?k2 ?_); (case k1 => rfl); (case k2 => rfl)) | ((with_reducible refine' isi_lt ?k1 ?_); (case k1 => walk_at "kd")) | ((with_reducible refine' isiT_ls ?k1 ?_); (case k1 => assumption))))
  | ((with_reducible show DL.dLen _ _ _); (first | ((with_reducible refine' len_ls ?k1 ?_); (case k1 => assumption)) | ((with_reducible refine' len_str ?k1 ?_); (case k1 => walk_at "ct")) | with_reducible refine len_tup ?_ | with_reducible refine len_fr ?_ | with_reducible refine len_sl ?_ | ((with_reducible refine' len_own ?k1 ?_); (case k1 => assumption)) | with_reducible refine len_put ?_))
  | ((with_reducible show DL.dEq _ _ _ _ _); (first | with_reducible refine eq_bb ?_ | with_reducible refine ne_bb ?_ | with_reducible refine eq_ii ?_ | with_reducible refine ne_ii ?_))
  | ((with_reducible show DL.dI2 _ _ _ _ _ _); (first | ((with_reducible refine' i2_ok ?k1 ?_); (case k1 => walk_at "ct"))))
  | ((with_reducible show DL.dB2 _ _ _ _ _); (first | with_reducible refine b2_ok ?_))
  | ((with_reducible show DL.dInt1 _ _ _ _); (first | with_reducible refine int1_ok ?_))
  | ((with_reducible show DL.dInt2 _ _ _ _); (first | with_reducible refine int2_ok ?_))
  | ((with_reducible show DL.dInt _ _ _); (first | with_reducible refine int_i ?_ | with_reducible refine int_b ?_))
  | ((with_reducible show DL.dIn _ _ _ _ _); (first | with_reducible refine ins_c ?_))
  | ((with_reducible show DL.dTuple _ _ _); (first | with_reducible refine tup_t ?_ | with_reducible refine tup_f ?_))
  | ((with_reducible show DL.dIx _ _ _ _); (first | ((with_reducible refine' ix_t ?k1 ?_); (case k1 => rfl)) | ((with_reducible refine' ix_f ?k1 ?_); (case k1 => rfl)) | ((with_reducible refine' ix_s ?k1 ?_); (case k1 => rfl)) | ((with_reducible refine' ix_p ?k1 ?_); (case k1 => rfl)) | ((with_reducible refine' ix_o ?k0 ?k1 ?_); (case k0 => assumption); (case k1 => rfl))))
  | ((with_reducible show DL.dIsN _ _ _ _ _); (first | ((with_reducible refine' isn_k ?k1 ?_); (case k1 => walk_at "kd")) | ((with_reducible refine' nisn_k ?k1 ?_); (case k1 => walk_at "kd"))))
  | ((refine' fld_ok ?h1 ?h2 ?h3 ?_); (case h1 => assumption); (case h2 => assumption); (case h3 => walk_at "fg"))
  | with_reducible refine ex_bl ?_
  | with_reducible refine ex_int ?_
  | with_reducible refine ex_2 ?_
  | with_reducible refine ex_3 ?_
  | ((with_reducible refine' setL_p ?k1 ?_); (case k1 => rfl))
  | ((with_reducible refine' setL_o ?k0 ?k1 ?_); (case k0 => assumption); (case k1 => rfl))
  | with_reducible refine and_T ?_
  | with_reducible refine and_F ?_
  | ((with_reducible refine and_S ?_ ?_) <;> intro _)
  | with_reducible refine ty_str ?_
  | with_reducible refine ty_put ?_
  | ((with_reducible refine' ty_own ?k1 ?_); (case k1 => assumption))
  | ((with_reducible refine' sz_ok ?k1 ?_); (case k1 => rfl))
  | ((with_reducible refine' sz_as ?k1 ?_); (case k1 => assumption))))
local macro_rules | `(tactic| walk_at "pyS") => `(tactic| repeat' (first
  | ((with_reducible show DL.WE _ _ _ _ _); (first
    | ((with_reducible show DL.WE _ (Expr.FormattedValue _ _ _ _) _ _ _); (first | with_reducible refine x_fmt ?_))
    | ((with_reducible show DL.WE _ (Expr.JoinedStr _ _) _ _ _); (first | with_reducible refine x_joined ?_))
    | ((with_reducible show DL.WE _ (Expr.Call (Expr.Attribute _ _ _) _ _ _) _ _ _); (first | ((with_reducible refine' x_split ?_ ?k1 ?k2 ?k3 ?k4 ?k5); (case k1 => rfl); (case k2 => rfl); (case k3 => rfl); (case k4 => rfl); (case k5 => rfl)) | ((with_reducible refine' x_stripC ?_ ?k1 ?k2 ?k3 ?k4 ?k5); (case k1 => rfl); (case k2 => rfl); (case k3 => rfl); (case k4 => rfl); (case k5 => rfl)) | ((with_reducible refine' x_dget2 ?kx ?_ ?km); (case kx => assumption); (case km => exact ⟨rfl, rfl, rfl, rfl⟩)) | ((with_reducible refine' x_dpop1 ?_ ?km); (case km => exact ⟨rfl, rfl, rfl, rfl⟩)) | ((with_reducible refine' x_upper ?_ ?k1 ?k2); (case k1 => rfl); (case k2 => rfl)) | ((with_reducible refine' x_join ?_ ?k1 ?k2 ?k3 ?k4 ?k5); (case k1 => rfl); (case k2 => rfl); (case k3 => rfl); (case k4 => rfl); (case k5 => rfl)) | ((with_reducible refine' x_sindex ?_ ?k1 ?k2 ?k3 ?k4 ?k5); (case k1 => rfl); (case k2 => rfl); (case k3 => rfl); (case k4 => rfl); (case k5 => rfl)) | ((with_reducible refine' x_insert ?_ ?k1 ?k2 ?k3 ?k4 ?k5); (case k1 => rfl); (case k2 => rfl); (case k3 => rfl); (case k4 => rfl); (case k5 => rfl)) | ((with_reducible refine' x_popAt ?_ ?k1 ?k2 ?k3 ?k4 ?k5); (case k1 => rfl); (case k2 => rfl); (case k3 => rfl); (case k4 => rfl); (case k5 => rfl)) | ((with_reducible refine' x_append ?_ ?k1 ?k2 ?k3 ?k4 ?k5); (case k1 => rfl); (case k2 => rfl); (case k3 => rfl); (case k4 => rfl); (case k5 => rfl)) | ((with_reducible refine' x_extend ?_ ?k1 ?k2 ?k3 ?k4 ?k5); (case k1 => rfl); (case k2 => rfl); (case k3 => rfl); (case k4 => rfl); (case k5 => rfl))))
    | ((with_reducible show DL.WE _ (Expr.Subscript _ _ _) _ _ _); (first | ((with_reducible refine' x_ixD ?kx ?_ ?k1); (case kx => assumption); (case k1 => (intro _ _; rfl))) | with_reducible refine we_revT ?_ | with_reducible refine x_sliceA ?_ | ((with_reducible refine' x_ixL ?_ ?k1); (case k1 => (intro _ _; rfl))) | ((with_reducible refine' we_ix ?_ ?k1); (case k1 => (intro _ _; rfl))) | with_reducible refine we_slice ?_))
    | ((with_reducible show DL.WE _ (Expr.Compare _ _ _ _) _ _ _); (first | ((with_reducible refine' x_inX ?kx ?_ ?k1); (case kx => assumption); (case k1 => rfl)) | ((with_reducible refine' x_ninX ?kx ?_ ?k1); (case kx => assumption); (case k1 => rfl)) | ((with_reducible refine' we_lele ?_ ?k1); (case k1 => with_unfolding_all rfl)) | with_reducible refine we_lt ?_ | with_reducible refine we_le ?_ | with_reducible refine we_gt ?_ | with_reducible refine we_ge ?_ | with_reducible refine we_is ?_ | with_reducible refine we_isnot ?_ | ((with_reducible refine' x_eq ?k1 ?_); (case k1 => assumption)) | ((with_reducible refine' x_ne ?k1 ?_); (case k1 => assumption)) | ((with_reducible refine' x_in ?k1 ?_ ?k2); (case k1 => assumption); (case k2 => rfl)) | ((with_reducible refine' x_nin ?k1 ?_ ?k2); (case k1 => assumption); (case k2 => rfl))))
    | ((with_reducible show DL.WE _ (Expr.Call (Expr.Name _ _) _ _ _) _ _ _); (first | ((with_reducible refine' x_lenX ?kx ?kz ?kg ?_ ?k1 ?k2); (case kx => assumption); (case kz => assumption); (case kg => walk_at "gl"); (case k1 => rfl); (case k2 => rfl)) | ((with_reducible refine' x_dictP ?kx ?kz ?kg ?_ ?k1 ?k2); (case kx => assumption); (case kz => assumption); (case kg => walk_at "gl"); (case k1 => rfl); (case k2 => rfl)) | ((with_reducible refine' x_sortedK ?kx ?kz ?kg ?_ ?k1 ?k2); (case kx => assumption); (case kz => assumption); (case kg => walk_at "gl"); (case k1 => rfl); (case k2 => rfl)) | ((with_reducible refine' x_listA ?kx ?kz ?kg ?_ ?k1 ?k2); (case kx => assumption); (case kz => assumption); (case kg => walk_at "gl"); (case k1 => rfl); (case k2 => rfl)) | ((with_reducible refine' x_repr ?kx ?kz ?kg ?_ ?k1 ?k2); (case kx => assumption); (case kz => assumption); (case kg => walk_at "gl"); (case k1 => rfl); (case k2 => rfl)) | ((with_reducible refine' x_isiT ?kx ?kz ?kg ?_ ?k1 ?k2); (case kx => assumption); (case kz => assumption); (case kg => walk_at "gl"); (case k1 => rfl); (case k2 => rfl)) | ((with_reducible refine' x_isi ?kx ?kz ?kg ?_ ?k1 ?k2); (case kx => assumption); (case kz => assumption); (case kg => walk_at "gl"); (case k1 => rfl); (case k2 => rfl)) | ((with_reducible refine' x_len ?kx ?kz ?kg ?_ ?k1 ?k2); (case kx => assumption); (case kz => assumption); (case kg => walk_at "gl"); (case k1 => rfl); (case k2 => rfl)) | ((with_reducible refine' x_abs ?kx ?kz ?kg ?_ ?k1 ?k2); (case kx => assumption); (case kz => assumption); (case kg => walk_at "gl"); (case k1 => rfl); (case k2 => rfl)) | ((with_reducible refine' x_max2 ?kx ?kz ?kg ?_ ?k1 ?k2); (case kx => assumption); (case kz => assumption); (case kg => walk_at "gl"); (case k1 => rfl); (case k2 => rfl)) | ((with_reducible refine' x_min2 ?kx ?kz ?kg ?_ ?k1 ?k2); (case kx => assumption); (case kz => assumption); (case kg => walk_at "gl"); (case k1 => rfl); (case k2 => rfl)) | ((with_reducible refine' x_minL ?kx ?kz ?kg ?_ ?k1 ?k2); (case kx => assumption); (case kz => assumption); (case kg => walk_at "gl"); (case k1 => rfl); (case k2 => rfl)) | ((with_reducible refine' x_any ?kx ?kz ?kg ?_ ?k1 ?k2); (case kx => assumption); (case kz => assumption); (case kg => walk_at "gl"); (case k1 => rfl); (case k2 => rfl)) | ((with_reducible refine' x_all ?kx ?kz ?kg ?_ ?k1 ?k2); (case kx => assumption); (case kz => assumption); (case kg => walk_at "gl"); (case k1 => rfl); (case k2 => rfl)) | ((with_reducible refine' x_sum ?kx ?kz ?kg ?_ ?k1 ?k2); (case kx => assumption); (case kz => assumption); (case kg => walk_at "gl"); (case k1 => rfl); (case k2 => rfl)) | ((with_reducible refine' x_intC ?kx ?kz ?kg ?_ ?k1 ?k2); (case kx => assumption); (case kz => assumption); (case kg => walk_at "gl"); (case k1 => rfl); (case k2 => rfl)) | ((with_reducible refine' x_strC ?kx ?kz ?kg ?_ ?k1 ?k2); (case kx => assumption); (case kz => assumption); (case kg => walk_at "gl"); (case k1 => rfl); (case k2 => rfl)) | ((with_reducible refine' x_tupleC ?kx ?kz ?kg ?_ ?k1 ?k2); (case kx => assumption); (case kz => assumption); (case kg => walk_at "gl"); (case k1 => rfl); (case k2 => rfl)) | ((with_reducible refine' x_listC ?kx ?kz ?kg ?_ ?k1 ?k2); (case kx => assumption); (case kz => assumption); (case kg => walk_at "gl"); (case k1 => rfl); (case k2 => rfl)) | ((with_reducible refine' x_call ?kx ?kh ?kg ?_ ?kl ?kd ?k1 ?k2); (case kh => assumption); (case kx => assumption); (case kg => walk_at "gl"); (case kl => first | decide | omega); (case kd => decide); (case k1 => rfl); (case k2 => rfl))))
    | ((with_reducible show DL.WE _ (Expr.Attribute _ _ _) _ _ _); (first | ((with_reducible refine' x_fld ?kx ?_ ?k1); (case kx => assumption); (case k1 => rfl))))
    | ((with_reducible show DL.WE _ (Expr.Dict _ _ _) _ _ _); (first | with_reducible refine x_dnew ?_))
    | ((with_reducible show DL.WE _ (Expr.BinOp _ _ _ _) _ _ _); (first | with_reducible refine x_mulS ?_ | with_reducible refine x_addA ?_ | with_reducible refine x_mulA ?_ | with_reducible refine we_add ?_ | with_reducible refine we_sub' ?_ | with_reducible refine we_mul ?_ | with_reducible refine we_mod ?_ | with_reducible refine we_fdiv ?_ | with_reducible refine we_pow ?_))
    | ((with_reducible show DL.WE _ (Expr.List _ _) _ _ _); (first | with_reducible refine we_lstF ?_))
    | ((with_reducible show DL.WE _ (Expr.BoolOp _ _ _) _ _ _); (first | with_reducible refine we_and ?_ | with_reducible refine we_or ?_ | with_reducible refine we_one ?_))
    | ((with_reducible show DL.WE _ (Expr.UnaryOp _ _ _) _ _ _); (first | with_reducible refine we_not ?_ | with_reducible refine we_neg ?_))
    | ((with_reducible show DL.WE _ (Expr.IfExp _ _ _ _) _ _ _); (first | with_reducible refine we_if ?_))
    | ((with_reducible show DL.WE _ (Expr.Constant _ _ _) _ _ _); (first | with_reducible refine we_int ?_ | with_reducible refine we_bl ?_ | with_reducible refine we_non ?_ | with_reducible refine we_str ?_))
    | ((with_reducible show DL.WE _ (Expr.Tuple _ _ _) _ _ _); (first | with_reducible refine we_tup ?_))
    | ((with_reducible show DL.WE _ (Expr.Name _ _) _ _ _); (first | ((with_reducible refine' we_nm ?k1 ?k0 ?k2 ?_); (case k1 => assumption); (case k0 => walk_at "nm"); (case k2 => walk_at "nm")) | ((with_reducible refine' x_tyInt ?kx ?kz ?kg ?_); (case kx => assumption); (case kz => assumption); (case kg => walk_at "gl")) | ((with_reducible refine' x_tyBool ?kx ?kz ?kg ?_); (case kx => assumption); (case kz => assumption); (case kg => walk_at "gl")) | ((with_reducible refine' x_tyStr ?kx ?kz ?kg ?_); (case kx => assumption); (case kz => assumption); (case kg => walk_at "gl")) | ((with_reducible refine' x_tyList ?kx ?kz ?kg ?_); (case kx => assumption); (case kz => assumption); (case kg => walk_at "gl")) | ((with_reducible refine' x_tyTuple ?kx ?kz ?kg ?_); (case kx => assumption); (case kz => assumption); (case kg => walk_at "gl")) | ((with_reducible refine' x_glob ?kx ?kh ?kg ?_ ?kd); (case kh => assumption); (case kx => assumption); (case kg => walk_at "gl"); (case kd => decide))))))
  | ((with_reducible show DL.WSs _ _ _ _ _); (first | with_reducible refine wss_cons ?_ | with_reducible refine wss_nil ?_))
  | ((with_reducible show DL.WS _ _ _ _ _); (first
    | ((with_reducible show DL.WS _ (Stmt.Assign _ _ _) _ _ _); (first | ((with_reducible refine' x_setFld ?kx ?_ ?k1); (case kx => assumption); (case k1 => rfl)) | ((with_reducible refine' ws_nm ?kb ?k0 ?kp ?_ ?k1); (case kb => assumption); (case k0 => walk_at "nm"); (case kp => walk_at "nm"); (case k1 => rfl)) | ((with_reducible refine' x_par2 ?kd ?k1 ?k2 ?k3 ?k4 ?k5 ?k6 ?_ ?k7); (case kd => assumption); (case k1 => walk_at "nm"); (case k2 => (intro _; walk_at "nm")); (case k3 => decide +kernel); (case k4 => decide +kernel); (case k5 => decide +kernel); (case k6 => rfl); (case k7 => rfl)) | ((with_reducible refine' x_par3 ?kd ?k1 ?k2 ?k3 ?k4 ?k5 ?k6 ?k7 ?_ ?k8); (case kd => assumption); (case k1 => walk_at "nm"); (case k2 => (intro _; walk_at "nm")); (case k3 => (intro _ _; walk_at "nm")); (case k4 => decide +kernel); (case k5 => decide +kernel); (case k6 => decide +kernel); (case k7 => rfl); (case k8 => rfl)) | ((with_reducible refine' ws_asg ?_ ?k1 ?k2 ?k3); (case k1 => rfl); (case k2 => rfl); (case k3 => rfl)) | ((with_reducible refine' ws_asgD ?kd ?_ ?k1 ?k2 ?k3); (case kd => assumption); (case k1 => rfl); (case k2 => rfl); (case k3 => rfl))))
    | ((with_reducible show DL.WS _ (Stmt.Delete _ _) _ _ _); (first | ((with_reducible refine' x_ddel ?_))))
    | ((with_reducible show DL.WS _ (Stmt.If _ _ _ _) _ _ _); (first | ((with_reducible refine' x_ifWge ?kb ?k0 ?kp ?_); (case kb => assumption); (case k0 => walk_at "nm"); (case kp => walk_at "nm")) | with_reducible refine ws_if ?_))
    | ((with_reducible show DL.WS _ (Stmt.Return _ _) _ _ _); (first | with_reducible refine ws_ret ?_ | with_reducible refine ws_retN ?_))
    | ((with_reducible show DL.WS _ (Stmt.Pass _) _ _ _); (first | with_reducible refine ws_pass ?_))
    | ((with_reducible show DL.WS _ (Stmt.Break _) _ _ _); (first | with_reducible refine ws_break ?_))
    | ((with_reducible show DL.WS _ (Stmt.Continue _) _ _ _); (first | with_reducible refine ws_continue ?_))
    | ((with_reducible show DL.WS _ (Stmt.AugAssign _ _ _ _) _ _ _); (first | ((with_reducible refine' ws_augAdd ?kb ?k0 ?kg ?kp ?_); (case kb => assumption); (case k0 => walk_at "nm"); (case kg => walk_at "nm"); (case kp => walk_at "nm"))))
    | ((with_reducible show DL.WS _ (Stmt.Expr _ _) _ _ _); (first | ((with_reducible refine' ws_expr ?_ ?k1); (case k1 => rfl))))))
  | ((with_reducible show DL.WGs _ _ _ _ _ _); (first | ((with_reducible refine' wgs_consS ?_ ?k1); (case k1 => rfl)) | ((with_reducible refine' wgs_cons ?_ ?k1); (case k1 => rfl)) | with_reducible refine wgs_nil ?_))
  | ((with_reducible show DL.WG _ _ _ _ _ _); (first | ((with_reducible refine' wg_tupS ?kc ?km ?ks ?ki ?kl ?_); (case kc => exact Ctx.calm (by assumption)); (case km => rfl); (case ks => rfl); (case ki => decide); (case kl => first | exact Nat.le_of_ble_eq_true rfl | omega | (simp; done))) | ((with_reducible refine' x_setX ?kx ?_ ?k1); (case kx => assumption); (case k1 => (intro _; rfl))) | ((with_reducible refine' wg_nm ?kb ?k0 ?kp ?_); (case kb => assumption); (case k0 => walk_at "nm"); (case kp => walk_at "nm")) | ((with_reducible refine' x_gtup ?kx ?kl ?_ ?k1); (case kx => assumption); (case kl => rfl); (case k1 => rfl)) | ((with_reducible refine' wg_setL ?_ ?k1); (case k1 => (intro _; rfl)))))
  | ((with_reducible show DL.WA _ _ _ _ _); (first | ((with_reducible refine' wa_star ?_ ?k1); (case k1 => rfl)) | with_reducible refine wa_nil ?_ | ((with_reducible refine' wa_cons ?_ ?k1); (case k1 => rfl))))
  | ((with_reducible show DL.WJs _ _ _ _ _ _); (first | with_reducible refine wjs_cons ?_ | with_reducible refine wjs_nil ?_))
  | ((with_reducible show DL.WT _ _ _ _ _); (first | ((with_reducible refine' xt_inX ?kx ?_ ?k1); (case kx => assumption); (case k1 => rfl)) | ((with_reducible refine' xt_ninX ?kx ?_ ?k1); (case kx => assumption); (case k1 => rfl)) | ((with_reducible refine' wt_lele ?_ ?k1); (case k1 => with_unfolding_all rfl)) | ((with_reducible refine' xt_eq ?k1 ?_); (case k1 => assumption)) | ((with_reducible refine' xt_ne ?k1 ?_); (case k1 => assumption)) | ((with_reducible refine' xt_in ?k1 ?_ ?k2); (case k1 => assumption); (case k2 => rfl)) | ((with_reducible refine' xt_nin ?k1 ?_ ?k2); (case k1 => assumption); (case k2 => rfl)) | with_reducible refine wt_lt ?_ | with_reducible refine wt_le ?_ | with_reducible refine wt_gt ?_ | with_reducible refine wt_ge ?_ | with_reducible refine wt_is ?_ | with_reducible refine wt_isnot ?_ | with_reducible refine wt_not ?_ | with_reducible refine wt_bo ?_ | ((with_reducible refine' wt_val ?_ ?k1); (case k1 => (intro _; rfl)))))
  | ((with_reducible show DL.WW _ _ _ _ _); (first | with_reducible refine ww_and ?_ | with_reducible refine ww_or ?_ | with_reducible refine ww_and1 ?_ | with_reducible refine ww_or1 ?_))
  | ((with_reducible show DL.WO _ _ _ _ _); (first | with_reducible refine wo_n ?_ | with_reducible refine wo_s ?_))
  | ((with_reducible show DL.dIxD _ _ _ _); (first | ((with_reducible refine' ixD_ok ?h1 ?h2 ?_); (case h1 => assumption); (case h2 => assumption)) | ((with_reducible show dIxD (D.own _) (D.int _) _ _); refine Or.inl ?_) | ((with_reducible show dIxD (D.lst _) _ _ _); refine Or.inl ?_) | ((with_reducible show dIxD (D.tup _) _ _ _); refine Or.inl ?_) | ((with_reducible show dIxD (D.str _) _ _ _); refine Or.inl ?_)))
  | ((with_reducible show DL.dInX _ _ _ _ _); (first | ((with_reducible refine' inX_ok ?h1 ?_); (case h1 => assumption)) | ((with_reducible refine' ninX_ok ?h1 ?_); (case h1 => assumption))))
  | ((with_reducible show DL.dLenX _ _ _); (first | ((with_reducible refine' lenX_ok ?h1 ?_); (case h1 => assumption)) | ((with_reducible show dLenX [D.lst _] _ _); refine Or.inl ?_) | ((with_reducible show dLenX [D.tup _] _ _); refine Or.inl ?_) | ((with_reducible show dLenX [D.str _] _ _); refine Or.inl ?_)))
  | ((with_reducible show DL.FrzA _ _ _); (first | with_reducible refine fa_int ?_ | with_reducible refine fa_str ?_ | with_reducible refine fa_bl ?_ | with_reducible refine fa_non ?_ | with_reducible refine fa_tup ?_ | with_reducible refine fa_lst ?_ | ((with_reducible refine' fa_put ?k1 ?_); (case k1 => assumption))))
  | ((with_reducible show DL.dSl _ _ _ _ _); (first | with_reducible refine slA_f ?_ | with_reducible refine slA_t ?_ | with_reducible refine slA_p ?_ | ((with_reducible refine' slA_o ?k1 ?_); (case k1 => assumption)) | ((with_reducible refine' slA_z ?k1 ?_); (case k1 => walk_at "ct")) | with_reducible refine sl_t ?_ | with_reducible refine sl_f ?_))
  | ((with_reducible show DL.dAdd _ _ _ _); (first | with_reducible refine addA_ii ?_ | ((with_reducible refine' addA_ss ?k1 ?_); (case k1 => walk_at "ct")) | ((with_reducible refine' addA_tt ?k1 ?_); (case k1 => walk_at "ct")) | ((with_reducible refine' addA_ll ?k1 ?_); (case k1 => walk_at "sz")) | ((with_reducible refine' addA_pl ?k1 ?_); (case k1 => walk_at "sz")) | with_reducible refine add_ii ?_ | ((with_reducible refine' add_ss ?k1 ?_); (case k1 => walk_at "ct")) | ((with_reducible refine' add_tt ?k1 ?_); (case k1 => walk_at "ct"))))
  | ((with_reducible show DL.dList _ _ _); (first | with_reducible refine listA_l ?_ | with_reducible refine listA_t ?_ | with_reducible refine listA_p ?_ | ((with_reducible refine' listA_o ?k1 ?_); (case k1 => assumption))))
  | ((with_reducible show DL.dMul _ _ _ _); (first | ((with_reducible refine' mulA_ii ?k1 ?_); (case k1 => walk_at "ct")) | ((with_reducible refine' mul_ii ?k1 ?_); (case k1 => walk_at "ct"))))
  | ((with_reducible show DL.dMulS _ _ _ _); (first | ((with_reducible refine' mul_s ?k1 ?_); (case k1 => decide +kernel))))
  | ((with_reducible show DL.dAppend _ _ _ _); (first | ((with_reducible refine' app_put ?k1 ?_); (case k1 => walk_at "sz"))))
  | ((with_reducible show DL.tb _ _ _); (first | with_reducible refine tb_ok ?_))
  | ((with_reducible show DL.dIsi _ _ _); (first | ((with_reducible refine' isi_int ?k1 ?_); (case k1 => walk_at "kd")) | ((with_reducible refine' isi_bool ?k1 ?_); (case k1 => walk_at "kd")) | ((with_reducible refine' isi_str ?k1 ?_); (case k1 => walk_at "kd")) | ((with_reducible refine' isi_list ?k1 ?_); (case k1 => walk_at "kd")) | ((with_reducible refine' isi_tuple ?k1 ?_); (case k1 => walk_at "kd")) | ((with_reducible refine' isi_ls ?k1 ?_); (case k1 => assumption)) | ((with_reducible refine' isi_lsT ?k1 ?_); (case k1 => assumption))))
  | ((with_reducible show DL.dIsiT _ _ _); (first | ((with_reducible refine' isi_ltT ?k1 ?k2 ?_); (case k1 => rfl); (case k2 => rfl)) | ((with_reducible refine' isi_ltF ?k1 ?k2 ?_); (case k1 => rfl); (case k2 => rfl)) | ((with_reducible refine' isi_lt ?k1 ?_); (case k1 => walk_at "kd")) | ((with_reducible refine' isiT_ls ?k1 ?_); (case k1 => assumption))))
  | ((with_reducible show DL.dLen _ _ _); (first | ((with_reducible refine' len_ls ?k1 ?_); (case k1 => assumption)) | ((with_reducible refine' len_str ?k1 ?_); (case k1 => walk_at "ct")) | with_reducible refine len_tup ?_ | with_reducible refine len_fr ?_ | with_reducible refine len_sl ?_ | ((with_reducible refine' len_own ?k1 ?_); (case k1 => assumption)) | with_reducible refine len_put ?_))
  | ((with_reducible show DL.dEq _ _ _ _ _); (first | with_reducible refine eq_bb ?_ | with_reducible refine ne_bb ?_ | with_reducible refine eq_ii ?_ | with_reducible refine ne_ii ?_))
  | ((with_reducible show DL.dI2 _ _ _ _ _ _); (first | ((with_reducible refine' i2_ok ?k1 ?_); (case k1 => walk_at "ct"))))
  | ((with_reducible show DL.dB2 _ _ _ _ _); (first | with_reducible refine b2_ok ?_))
  | ((with_reducible show DL.dInt1 _ _ _ _); (first | with_reducible refine int1_ok ?_))
  | ((with_reducible show DL.dInt2 _ _ _ _); (first | with_reducible refine int2_ok ?_))
  | ((with_reducible show DL.dInt _ _ _); (first | with_reducible refine int_i ?_ | with_reducible refine int_b ?_))
  | ((with_reducible show DL.dIn _ _ _ _ _); (first | with_reducible refine ins_c ?_))
  | ((with_reducible show DL.dTuple _ _ _); (first | with_reducible refine tup_t ?_ | with_reducible refine tup_f ?_))
  | ((with_reducible show DL.dIx _ _ _ _); (first | ((with_reducible refine' ix_t ?k1 ?_); (case k1 => rfl)) | ((with_reducible refine' ix_f ?k1 ?_); (case k1 => rfl)) | ((with_reducible refine' ix_s ?k1 ?_); (case k1 => rfl)) | ((with_reducible refine' ix_p ?k1 ?_); (case k1 => rfl)) | ((with_reducible refine' ix_o ?k0 ?k1 ?_); (case k0 => assumption); (case k1 => rfl))))
  | ((with_reducible show DL.dIsN _ _ _ _ _); (first | ((with_reducible refine' isn_k ?k1 ?_); (case k1 => walk_at "kd")) | ((with_reducible refine' nisn_k ?k1 ?_); (case k1 => walk_at "kd"))))
  | ((refine' fld_ok ?h1 ?h2 ?h3 ?_); (case h1 => assumption); (case h2 => assumption); (case h3 => walk_at "fg"))
  | with_reducible refine ex_bl ?_
  | with_reducible refine ex_int ?_
  | with_reducible refine ex_2 ?_
  | with_reducible refine ex_3 ?_
  | ((with_reducible refine' setL_p ?k1 ?_); (case k1 => rfl))
  | ((with_reducible refine' setL_o ?k0 ?k1 ?_); (case k0 => assumption); (case k1 => rfl))
  | with_reducible refine and_T ?_
  | with_reducible refine and_F ?_
  | ((with_reducible refine and_S ?_ ?_) <;> intro _)
  | with_reducible refine ty_str ?_
  | with_reducible refine ty_put ?_
  | ((with_reducible refine' ty_own ?k1 ?_); (case k1 => assumption))
  | ((with_reducible refine' sz_ok ?k1 ?_); (case k1 => rfl))
  | ((with_reducible refine' sz_as ?k1 ?_); (case k1 => assumption))))
local macro_rules | `(tactic| walk_at "pyK") => `(tactic| repeat' (first
  | ((with_reducible show DL.WE _ _ _ _ _); (first
    | ((with_reducible show DL.WE _ (Expr.Subscript _ _ _) _ _ _); (first | ((with_reducible refine' x_ixD ?kx ?_ ?k1); (case kx => assumption); (case k1 => (intro _ _; rfl))) | with_reducible refine we_revT ?_ | ((with_reducible refine' x_ixL ?_ ?k1); (case k1 => (intro _ _; rfl))) | ((with_reducible refine' we_ix ?_ ?k1); (case k1 => (intro _ _; rfl))) | with_reducible refine we_slice ?_))
    | ((with_reducible show DL.WE _ (Expr.Compare _ _ _ _) _ _ _); (first | ((with_reducible refine' x_inX ?kx ?_ ?k1); (case kx => assumption); (case k1 => rfl)) | ((with_reducible refine' x_ninX ?kx ?_ ?k1); (case kx => assumption); (case k1 => rfl)) | ((with_reducible refine' we_lele ?_ ?k1); (case k1 => with_unfolding_all rfl)) | with_reducible refine we_lt ?_ | with_reducible refine we_le ?_ | with_reducible refine we_gt ?_ | with_reducible refine we_ge ?_ | with_reducible refine we_is ?_ | with_reducible refine we_isnot ?_ | ((with_reducible refine' x_eq ?k1 ?_); (case k1 => assumption)) | ((with_reducible refine' x_ne ?k1 ?_); (case k1 => assumption)) | ((with_reducible refine' x_in ?k1 ?_ ?k2); (case k1 => assumption); (case k2 => rfl)) | ((with_reducible refine' x_nin ?k1 ?_ ?k2); (case k1 => assumption); (case k2 => rfl))))
    | ((with_reducible show DL.WE _ (Expr.Call (Expr.Name _ _) _ _ _) _ _ _); (first | ((with_reducible refine' x_lenX ?kx ?kz ?kg ?_ ?k1 ?k2); (case kx => assumption); (case kz => assumption); (case kg => walk_at "gl"); (case k1 => rfl); (case k2 => rfl)) | ((with_reducible refine' x_dictP ?kx ?kz ?kg ?_ ?k1 ?k2); (case kx => assumption); (case kz => assumption); (case kg => walk_at "gl"); (case k1 => rfl); (case k2 => rfl)) | ((with_reducible refine' x_sortedK ?kx ?kz ?kg ?_ ?k1 ?k2); (case kx => assumption); (case kz => assumption); (case kg => walk_at "gl"); (case k1 => rfl); (case k2 => rfl)) | ((with_reducible refine' x_repr ?kx ?kz ?kg ?_ ?k1 ?k2); (case kx => assumption); (case kz => assumption); (case kg => walk_at "gl"); (case k1 => rfl); (case k2 => rfl)) | ((with_reducible refine' x_isiT ?kx ?kz ?kg ?_ ?k1 ?k2); (case kx => assumption); (case kz => assumption); (case kg => walk_at "gl"); (case k1 => rfl); (case k2 => rfl)) | ((with_reducible refine' x_isi ?kx ?kz ?kg ?_ ?k1 ?k2); (case kx => assumption); (case kz => assumption); (case kg => walk_at "gl"); (case k1 => rfl); (case k2 => rfl)) | ((with_reducible refine' x_len ?kx ?kz ?kg ?_ ?k1 ?k2); (case kx => assumption); (case kz => assumption); (case kg => walk_at "gl"); (case k1 => rfl); (case k2 => rfl)) | ((with_reducible refine' x_abs ?kx ?kz ?kg ?_ ?k1 ?k2); (case kx => assumption); (case kz => assumption); (case kg => walk_at "gl"); (case k1 => rfl); (case k2 => rfl)) | ((with_reducible refine' x_max2 ?kx ?kz ?kg ?_ ?k1 ?k2); (case kx => assumption); (case kz => assumption); (case kg => walk_at "gl"); (case k1 => rfl); (case k2 => rfl)) | ((with_reducible refine' x_min2 ?kx ?kz ?kg ?_ ?k1 ?k2); (case kx => assumption); (case kz => assumption); (case kg => walk_at "gl"); (case k1 => rfl); (case k2 => rfl)) | ((with_reducible refine' x_minL ?kx ?kz ?kg ?_ ?k1 ?k2); (case kx => assumption); (case kz => assumption); (case kg => walk_at "gl"); (case k1 => rfl); (case k2 => rfl)) | ((with_reducible refine' x_any ?kx ?kz ?kg ?_ ?k1 ?k2); (case kx => assumption); (case kz => assumption); (case kg => walk_at "gl"); (case k1 => rfl); (case k2 => rfl)) | ((with_reducible refine' x_all ?kx ?kz ?kg ?_ ?k1 ?k2); (case kx => assumption); (case kz => assumption); (case kg => walk_at "gl"); (case k1 => rfl); (case k2 => rfl)) | ((with_reducible refine' x_sum ?kx ?kz ?kg ?_ ?k1 ?k2); (case kx => assumption); (case kz => assumption); (case kg => walk_at "gl"); (case k1 => rfl); (case k2 => rfl)) | ((with_reducible refine' x_intC ?kx ?kz ?kg ?_ ?k1 ?k2); (case kx => assumption); (case kz => assumption); (case kg => walk_at "gl"); (case k1 => rfl); (case k2 => rfl)) | ((with_reducible refine' x_strC ?kx ?kz ?kg ?_ ?k1 ?k2); (case kx => assumption); (case kz => assumption); (case kg => walk_at "gl"); (case k1 => rfl); (case k2 => rfl)) | ((with_reducible refine' x_tupleC ?kx ?kz ?kg ?_ ?k1 ?k2); (case kx => assumption); (case kz => assumption); (case kg => walk_at "gl"); (case k1 => rfl); (case k2 => rfl)) | ((with_reducible refine' x_listC ?kx ?kz ?kg ?_ ?k1 ?k2); (case kx => assumption); (case kz => assumption); (case kg => walk_at "gl"); (case k1 => rfl); (case k2 => rfl)) | ((with_reducible refine' x_call ?kx ?kh ?kg ?_ ?kl ?kd ?k1 ?k2); (case kh => assumption); (case kx => assumption); (case kg => walk_at "gl"); (case kl => first | decide | omega); (case kd => decide); (case k1 => rfl); (case k2 => rfl))))
    | ((with_reducible show DL.WE _ (Expr.Attribute _ _ _) _ _ _); (first | ((with_reducible refine' x_fld ?kx ?_ ?k1); (case kx => assumption); (case k1 => rfl))))
    | ((with_reducible show DL.WE _ (Expr.Dict _ _ _) _ _ _); (first | with_reducible refine x_dnew ?_))
    | ((with_reducible show DL.WE _ (Expr.Call (Expr.Attribute _ _ _) _ _ _) _ _ _); (first | ((with_reducible refine' x_stripC ?_ ?k1 ?k2 ?k3 ?k4 ?k5); (case k1 => rfl); (case k2 => rfl); (case k3 => rfl); (case k4 => rfl); (case k5 => rfl)) | ((with_reducible refine' x_dget2 ?kx ?_ ?km); (case kx => assumption); (case km => exact ⟨rfl, rfl, rfl, rfl⟩)) | ((with_reducible refine' x_dpop1 ?_ ?km); (case km => exact ⟨rfl, rfl, rfl, rfl⟩)) | ((with_reducible refine' x_upper ?_ ?k1 ?k2); (case k1 => rfl); (case k2 => rfl)) | ((with_reducible refine' x_join ?_ ?k1 ?k2 ?k3 ?k4 ?k5); (case k1 => rfl); (case k2 => rfl); (case k3 => rfl); (case k4 => rfl); (case k5 => rfl)) | ((with_reducible refine' x_sindex ?_ ?k1 ?k2 ?k3 ?k4 ?k5); (case k1 => rfl); (case k2 => rfl); (case k3 => rfl); (case k4 => rfl); (case k5 => rfl)) | ((with_reducible refine' x_insert ?_ ?k1 ?k2 ?k3 ?k4 ?k5); (case k1 => rfl); (case k2 => rfl); (case k3 => rfl); (case k4 => rfl); (case k5 => rfl)) | ((with_reducible refine' x_popAt ?_ ?k1 ?k2 ?k3 ?k4 ?k5); (case k1 => rfl); (case k2 => rfl); (case k3 => rfl); (case k4 => rfl); (case k5 => rfl)) | ((with_reducible refine' x_append ?_ ?k1 ?k2 ?k3 ?k4 ?k5); (case k1 => rfl); (case k2 => rfl); (case k3 => rfl); (case k4 => rfl); (case k5 => rfl)) | ((with_reducible refine' x_extend ?_ ?k1 ?k2 ?k3 ?k4 ?k5); (case k1 => rfl); (case k2 => rfl); (case k3 => rfl); (case k4 => rfl); (case k5 => rfl))))
    | ((with_reducible show DL.WE _ (Expr.BoolOp _ _ _) _ _ _); (first | with_reducible refine we_and ?_ | with_reducible refine we_or ?_ | with_reducible refine we_one ?_))
    | ((with_reducible show DL.WE _ (Expr.UnaryOp _ _ _) _ _ _); (first | with_reducible refine we_not ?_ | with_reducible refine we_neg ?_))
    | ((with_reducible show DL.WE _ (Expr.IfExp _ _ _ _) _ _ _); (first | with_reducible refine we_if ?_))
    | ((with_reducible show DL.WE _ (Expr.Constant _ _ _) _ _ _); (first | with_reducible refine we_int ?_ | with_reducible refine we_bl ?_ | with_reducible refine we_non ?_ | with_reducible refine we_str ?_))
    | ((with_reducible show DL.WE _ (Expr.Tuple _ _ _) _ _ _); (first | with_reducible refine we_tup ?_))
    | ((with_reducible show DL.WE _ (Expr.Name _ _) _ _ _); (first | ((with_reducible refine' we_nm ?k1 ?k0 ?k2 ?_); (case k1 => assumption); (case k0 => walk_at "nm"); (case k2 => walk_at "nm")) | ((with_reducible refine' x_tyInt ?kx ?kz ?kg ?_); (case kx => assumption); (case kz => assumption); (case kg => walk_at "gl")) | ((with_reducible refine' x_tyBool ?kx ?kz ?kg ?_); (case kx => assumption); (case kz => assumption); (case kg => walk_at "gl")) | ((with_reducible refine' x_tyStr ?kx ?kz ?kg ?_); (case kx => assumption); (case kz => assumption); (case kg => walk_at "gl")) | ((with_reducible refine' x_tyList ?kx ?kz ?kg ?_); (case kx => assumption); (case kz => assumption); (case kg => walk_at "gl")) | ((with_reducible refine' x_tyTuple ?kx ?kz ?kg ?_); (case kx => assumption); (case kz => assumption); (case kg => walk_at "gl")) | ((with_reducible refine' x_glob ?kx ?kh ?kg ?_ ?kd); (case kh => assumption); (case kx => assumption); (case kg => walk_at "gl"); (case kd => decide))))
    | ((with_reducible show DL.WE _ (Expr.BinOp _ _ _ _) _ _ _); (first | with_reducible refine we_add ?_ | with_reducible refine we_sub' ?_ | with_reducible refine we_mul ?_ | with_reducible refine we_mod ?_ | with_reducible refine we_fdiv ?_ | with_reducible refine we_pow ?_))))
  | ((with_reducible show DL.WSs _ _ _ _ _); (first | with_reducible refine wss_cons ?_ | with_reducible refine wss_nil ?_))
  | ((with_reducible show DL.WS _ _ _ _ _); (first
    | ((with_reducible show DL.WS _ (Stmt.Assign _ _ _) _ _ _); (first | ((with_reducible refine' x_setFld ?kx ?_ ?k1); (case kx => assumption); (case k1 => rfl)) | ((with_reducible refine' ws_nm ?kb ?k0 ?kp ?_ ?k1); (case kb => assumption); (case k0 => walk_at "nm"); (case kp => walk_at "nm"); (case k1 => rfl)) | ((with_reducible refine' x_par2 ?kd ?k1 ?k2 ?k3 ?k4 ?k5 ?k6 ?_ ?k7); (case kd => assumption); (case k1 => walk_at "nm"); (case k2 => (intro _; walk_at "nm")); (case k3 => decide +kernel); (case k4 => decide +kernel); (case k5 => decide +kernel); (case k6 => rfl); (case k7 => rfl)) | ((with_reducible refine' x_par3 ?kd ?k1 ?k2 ?k3 ?k4 ?k5 ?k6 ?k7 ?_ ?k8); (case kd => assumption); (case k1 => walk_at "nm"); (case k2 => (intro _; walk_at "nm")); (case k3 => (intro _ _; walk_at "nm")); (case k4 => decide +kernel); (case k5 => decide +kernel); (case k6 => decide +kernel); (case k7 => rfl); (case k8 => rfl)) | ((with_reducible refine' ws_asg ?_ ?k1 ?k2 ?k3); (case k1 => rfl); (case k2 => rfl); (case k3 => rfl)) | ((with_reducible refine' ws_asgD ?kd ?_ ?k1 ?k2 ?k3); (case kd => assumption); (case k1 => rfl); (case k2 => rfl); (case k3 => rfl))))
    | ((with_reducible show DL.WS _ (Stmt.Delete _ _) _ _ _); (first | ((with_reducible refine' x_ddel ?_))))
    | ((with_reducible show DL.WS _ (Stmt.If _ _ _ _) _ _ _); (first | ((with_reducible refine' x_ifWge ?kb ?k0 ?kp ?_); (case kb => assumption); (case k0 => walk_at "nm"); (case kp => walk_at "nm")) | with_reducible refine ws_if ?_))
    | ((with_reducible show DL.WS _ (Stmt.Return _ _) _ _ _); (first | with_reducible refine ws_ret ?_ | with_reducible refine ws_retN ?_))
    | ((with_reducible show DL.WS _ (Stmt.Pass _) _ _ _); (first | with_reducible refine ws_pass ?_))
    | ((with_reducible show DL.WS _ (Stmt.Break _) _ _ _); (first | with_reducible refine ws_break ?_))
    | ((with_reducible show DL.WS _ (Stmt.Continue _) _ _ _); (first | with_reducible refine ws_continue ?_))
    | ((with_reducible show DL.WS _ (Stmt.AugAssign _ _ _ _) _ _ _); (first | ((with_reducible refine' ws_augAdd ?kb ?k0 ?kg ?kp ?_); (case kb => assumption); (case k0 => walk_at "nm"); (case kg => walk_at "nm"); (case kp => walk_at "nm"))))
    | ((with_reducible show DL.WS _ (Stmt.Expr _ _) _ _ _); (first | ((with_reducible refine' ws_expr ?_ ?k1); (case k1 => rfl))))))
  | ((with_reducible show DL.WT _ _ _ _ _); (first | ((with_reducible refine' xt_inX ?kx ?_ ?k1); (case kx => assumption); (case k1 => rfl)) | ((with_reducible refine' xt_ninX ?kx ?_ ?k1); (case kx => assumption); (case k1 => rfl)) | ((with_reducible refine' wt_lele ?_ ?k1); (case k1 => with_unfolding_all rfl)) | ((with_reducible refine' xt_eq ?k1 ?_); (case k1 => assumption)) | ((with_reducible refine' xt_ne ?k1 ?_); (case k1 => assumption)) | ((with_reducible refine' xt_in ?k1 ?_ ?k2); (case k1 => assumption); (case k2 => rfl)) | ((with_reducible refine' xt_nin ?k1 ?_ ?k2); (case k1 => assumption); (case k2 => rfl)) | with_reducible refine wt_lt ?_ | with_reducible refine wt_le ?_ | with_reducible refine wt_gt ?_ | with_reducible refine wt_ge ?_ | with_reducible refine wt_is ?_ | with_reducible refine wt_isnot ?_ | with_reducible refine wt_not ?_ | with_reducible refine wt_bo ?_ | ((with_reducible refine' wt_val ?_ ?k1); (case k1 => (intro _; rfl)))))
  | ((with_reducible show DL.WG _ _ _ _ _ _); (first | ((with_reducible refine' x_setX ?kx ?_ ?k1); (case kx => assumption); (case k1 => (intro _; rfl))) | ((with_reducible refine' wg_nm ?kb ?k0 ?kp ?_); (case kb => assumption); (case k0 => walk_at "nm"); (case kp => walk_at "nm")) | ((with_reducible refine' x_gtup ?kx ?kl ?_ ?k1); (case kx => assumption); (case kl => rfl); (case k1 => rfl)) | ((with_reducible refine' wg_setL ?_ ?k1); (case k1 => (intro _; rfl)))))
  | ((with_reducible show DL.WA _ _ _ _ _); (first | with_reducible refine wa_nil ?_ | ((with_reducible refine' wa_cons ?_ ?k1); (case k1 => rfl))))
  | ((with_reducible show DL.WW _ _ _ _ _); (first | with_reducible refine ww_and ?_ | with_reducible refine ww_or ?_ | with_reducible refine ww_and1 ?_ | with_reducible refine ww_or1 ?_))
  | ((with_reducible show DL.WGs _ _ _ _ _ _); (first | ((with_reducible refine' wgs_cons ?_ ?k1); (case k1 => rfl)) | with_reducible refine wgs_nil ?_))
  | ((with_reducible show DL.WO _ _ _ _ _); (first | with_reducible refine wo_n ?_ | with_reducible refine wo_s ?_))
  | ((with_reducible show DL.dIxD _ _ _ _); (first | ((with_reducible refine' ixD_ok ?h1 ?h2 ?_); (case h1 => assumption); (case h2 => assumption)) | ((with_reducible show dIxD (D.lst _) _ _ _); refine Or.inl ?_) | ((with_reducible show dIxD (D.tup _) _ _ _); refine Or.inl ?_) | ((with_reducible show dIxD (D.str _) _ _ _); refine Or.inl ?_)))
  | ((with_reducible show DL.dInX _ _ _ _ _); (first | ((with_reducible refine' inX_ok ?h1 ?_); (case h1 => assumption)) | ((with_reducible refine' ninX_ok ?h1 ?_); (case h1 => assumption))))
  | ((with_reducible show DL.dLenX _ _ _); (first | ((with_reducible refine' lenX_ok ?h1 ?_); (case h1 => assumption)) | ((with_reducible show dLenX [D.lst _] _ _); refine Or.inl ?_) | ((with_reducible show dLenX [D.tup _] _ _); refine Or.inl ?_) | ((with_reducible show dLenX [D.str _] _ _); refine Or.inl ?_)))
  | ((with_reducible show DL.tb _ _ _); (first | with_reducible refine tb_ok ?_))
  | ((with_reducible show DL.dIsi _ _ _); (first | ((with_reducible refine' isi_int ?k1 ?_); (case k1 => walk_at "kd")) | ((with_reducible refine' isi_bool ?k1 ?_); (case k1 => walk_at "kd")) | ((with_reducible refine' isi_str ?k1 ?_); (case k1 => walk_at "kd")) | ((with_reducible refine' isi_list ?k1 ?_); (case k1 => walk_at "kd")) | ((with_reducible refine' isi_tuple ?k1 ?_); (case k1 => walk_at "kd")) | ((with_reducible refine' isi_ls ?k1 ?_); (case k1 => assumption)) | ((with_reducible refine' isi_lsT ?k1 ?_); (case k1 => assumption))))
  | ((with_reducible show DL.dIsiT _ _ _); (first | ((with_reducible refine' isi_ltT ?k1 ?k2 ?_); (case k1 => rfl); (case k2 => rfl)) | ((with_reducible refine' isi_ltF ?k1 ?k2 ?_); (case k1 => rfl); (case k2 => rfl)) | ((with_reducible refine' isi_lt ?k1 ?_); (case k1 => walk_at "kd")) | ((with_reducible refine' isiT_ls ?k1 ?_); (case k1 => assumption))))
  | ((with_reducible show DL.dLen _ _ _); (first | ((with_reducible refine' len_ls ?k1 ?_); (case k1 => assumption)) | ((with_reducible refine' len_str ?k1 ?_); (case k1 => walk_at "ct")) | with_reducible refine len_tup ?_ | with_reducible refine len_fr ?_ | with_reducible refine len_sl ?_ | ((with_reducible refine' len_own ?k1 ?_); (case k1 => assumption)) | with_reducible refine len_put ?_))
  | ((with_reducible show DL.dEq _ _ _ _ _); (first | with_reducible refine eq_bb ?_ | with_reducible refine ne_bb ?_ | with_reducible refine eq_ii ?_ | with_reducible refine ne_ii ?_))
  | ((with_reducible show DL.dI2 _ _ _ _ _ _); (first | ((with_reducible refine' i2_ok ?k1 ?_); (case k1 => walk_at "ct"))))
  | ((with_reducible show DL.dB2 _ _ _ _ _); (first | with_reducible refine b2_ok ?_))
  | ((with_reducible show DL.dAdd _ _ _ _); (first | with_reducible refine add_ii ?_ | ((with_reducible refine' add_ss ?k1 ?_); (case k1 => walk_at "ct")) | ((with_reducible refine' add_tt ?k1 ?_); (case k1 => walk_at "ct"))))
  | ((with_reducible show DL.dMul _ _ _ _); (first | ((with_reducible refine' mul_ii ?k1 ?_); (case k1 => walk_at "ct"))))
  | ((with_reducible show DL.dSl _ _ _ _ _); (first | with_reducible refine sl_t ?_ | with_reducible refine sl_f ?_))
  | ((with_reducible show DL.dInt1 _ _ _ _); (first | with_reducible refine int1_ok ?_))
  | ((with_reducible show DL.dInt2 _ _ _ _); (first | with_reducible refine int2_ok ?_))
  | ((with_reducible show DL.dInt _ _ _); (first | with_reducible refine int_i ?_ | with_reducible refine int_b ?_))
  | ((with_reducible show DL.dIn _ _ _ _ _); (first | with_reducible refine ins_c ?_))
  | ((with_reducible show DL.dTuple _ _ _); (first | with_reducible refine tup_t ?_ | with_reducible refine tup_f ?_))
  | ((with_reducible show DL.dIx _ _ _ _); (first | ((with_reducible refine' ix_t ?k1 ?_); (case k1 => rfl)) | ((with_reducible refine' ix_f ?k1 ?_); (case k1 => rfl)) | ((with_reducible refine' ix_s ?k1 ?_); (case k1 => rfl)) | ((with_reducible refine' ix_p ?k1 ?_); (case k1 => rfl)) | ((with_reducible refine' ix_o ?k0 ?k1 ?_); (case k0 => assumption); (case k1 => rfl))))
  | ((with_reducible show DL.dIsN _ _ _ _ _); (first | ((with_reducible refine' isn_k ?k1 ?_); (case k1 => walk_at "kd")) | ((with_reducible refine' nisn_k ?k1 ?_); (case k1 => walk_at "kd"))))
  | ((refine' fld_ok ?h1 ?h2 ?h3 ?_); (case h1 => assumption); (case h2 => assumption); (case h3 => walk_at "fg"))
  | with_reducible refine ex_bl ?_
  | with_reducible refine ex_int ?_
  | with_reducible refine ex_2 ?_
  | with_reducible refine ex_3 ?_
  | ((with_reducible refine' setL_p ?k1 ?_); (case k1 => rfl))
  | ((with_reducible refine' setL_o ?k0 ?k1 ?_); (case k0 => assumption); (case k1 => rfl))
  | with_reducible refine and_T ?_
  | with_reducible refine and_F ?_
  | ((with_reducible refine and_S ?_ ?_) <;> intro _)
  | with_reducible refine ty_str ?_
  | with_reducible refine ty_put ?_
  | ((with_reducible refine' ty_own ?k1 ?_); (case k1 => assumption))
  | ((with_reducible refine' sz_ok ?k1 ?_); (case k1 => rfl))
  | ((with_reducible refine' sz_as ?k1 ?_); (case k1 => assumption))))
namespace K31
section
variable {P : Program} {w : World} {K : PySem.W.Frag} {mg : Str → Option Value} {base : Heap}
/-- data fit for == and for repr -/
structure Ob (d : D) : Prop where
  ex : ∃ n, n ≤ 60 ∧ d.fit n = true
  sh : d.shI = true
  wt : d.wt ≤ 200000
theorem fit_kind {x : D} {n : Nat} (h : x.fit n = true) : x.kind = true := kind_of_py (fit_py x h)
theorem Ob.kind {d : D} (h : Ob d) : d.kind = true := by obtain ⟨n, _, hf⟩ := h.ex; exact fit_kind hf
theorem wt_mem : ∀ {xs : List D} {d : D}, d ∈ xs → d.wt ≤ wtL xs
  | x :: xs, d, h => by
    rcases List.mem_cons.mp h with rfl | h
    · simp only [wtL]; omega
    · have := wt_mem h; simp only [wtL]; omega
theorem Ob.part {xs : List D} (h : Ob (.tup xs)) : ∀ d ∈ xs, Ob d := fun d hd => by
  obtain ⟨n, hn, hf⟩ := h.ex
  obtain ⟨m, rfl, hm⟩ := fit_tup hf
  exact ⟨⟨m, by omega, hm d hd⟩, shL_all.mp (by have := h.sh; simpa [D.shI] using this) d hd, Nat.le_trans (wt_mem hd) (by have := h.wt; simpa [D.wt] using this)⟩
theorem Ob.str {z : Str} (h : Ob (.str z)) : z.length ≤ sizeLine := Nat.le_trans h.wt (by decide)
def isI : D → Bool
  | .int _ => true
  | _ => false
theorem isI_eq {x : D} (h : isI x = true) : ∃ i, x = .int i := by cases x <;> first | exact ⟨_, rfl⟩ | (simp [isI] at h; done)
theorem isI_of {x : D} : isI x = (x.isIntB && !x.isBl) := by cases x <;> rfl
def spIsInt : DSp := fun ds C k => ∃ x, ds = [x] ∧ x.kind = true ∧ k (.bl (isI x)) C
theorem ok_isInt {f : Addr} {fd : FuncData} (F : Fun K "is_integer" "is_integer" s_is_integer f fd) (Z : Zs mg) : FnG P w K mg base CX0 1 f fd P_is_integer (toSp K spIsInt) := by
  refine fnX F sc_is_integer v_is_integer l_is_integer g_is_integer (fun ds C k h => by obtain ⟨x, rfl, _⟩ := h; rfl) fun X hB ds C k h => ?_
  obtain ⟨x, rfl, hk, h⟩ := h
  obtain ⟨hx, hn, hs, hg, hd, hnox⟩ := hB
  change WSs X _ [some x] C _
  refine wss_cons ?_
  walk_at "py"
  · rename_i h1
    show k (.bl (!x.isBl)) C
    rw [isI_of, h1] at h; exact h
  · rename_i h1
    rw [isI_of, h1] at h; exact h
def geB : D → Int → Bool
  | .int i, l => decide (l ≤ i)
  | _, _ => false
def spIsFrom : DSp := fun ds C k => ∃ x l, ds = [x, .int l] ∧ x.kind = true ∧ k (.bl (geB x l)) C
theorem geB_no {x : D} {l : Int} (h : isI x = false) : geB x l = false := by cases x <;> first | rfl | (simp [isI] at h; done)
theorem ok_isFrom {f : Addr} {fd : FuncData} (F : Fun K "is_from" "is_from" s_is_from f fd) (h1 : FnC P w K mg base "is_integer" 1 spIsInt) : FnG P w K mg base CX0 2 f fd P_is_from (toSp K spIsFrom) := by
  refine fnX F sc_is_from v_is_from l_is_from g_is_from (fun ds C k h => by obtain ⟨x, l, rfl, _⟩ := h; rfl) fun X hB ds C k h => ?_
  obtain ⟨x, l, rfl, hk, h⟩ := h
  obtain ⟨hx, hn, hs, hg, hd, hnox⟩ := hB
  change WSs X _ [some x, some (.int l)] C _
  refine wss_cons ?_
  walk_at "py"
  refine ⟨x, rfl, hk, ?_⟩
  walk_at "py"
  · rename_i h1
    obtain ⟨i, rfl⟩ := isI_eq h1
    walk_at "py"
    exact h
  · rename_i h1
    rw [geB_no h1] at h
    exact h
abbrev abc : Str := "abcdefghijklmnopqrstuvwxyz"
def abcB (z : Str) : Bool := z.cps.toList.all fun c => decide (c ∈ abc.cps.toList)
def isNm : D → Bool
  | .str z => (decide (1 ≤ z.length) && decide (z.length ≤ 8)) && abcB z
  | _ => false
theorem isNm_no {x : D} (h : x.isStr = false) : isNm x = false := by cases x <;> first | rfl | (simp [D.isStr] at h; done)
def spIsNm : DSp := fun ds C k => ∃ x, ds = [x] ∧ Ob x ∧ k (.bl (isNm x)) C
def sgB (d : D) : Bool := match d with | .str s => s.cps.toList.all fun c => decide (c ∈ abc.cps.toList) | _ => false
theorem signs_all (z : Str) : (signsOf z).all sgB = abcB z := by
  unfold signsOf abcB
  rw [List.all_map]
  congr 1
  funext c
  simp [sgB]
theorem mem_signs {z : Str} {d : D} (h : d ∈ signsOf z) : ∃ c, d = .str ⟨#[c]⟩ := by
  obtain ⟨c, _, rfl⟩ := List.mem_map.mp h
  exact ⟨c, rfl⟩
theorem signs_len (z : Str) : (signsOf z).length = z.length := by
  unfold signsOf
  rw [List.length_map, Array.length_toList]; rfl
theorem ok_isName {f : Addr} {fd : FuncData} (F : Fun K "is_name" "is_name" s_is_name f fd) (Z : Zs mg) (g1 : MgK K mg "LETTERS" (.str abc)) (g2 : MgK K mg "MOST_LETTERS" (.int 8)) : FnG P w K mg base CX0 1 f fd P_is_name (toSp K spIsNm) := by
  refine fnX F sc_is_name v_is_name l_is_name g_is_name (fun ds C k h => by obtain ⟨x, rfl, _⟩ := h; rfl) fun X hB ds C k h => ?_
  obtain ⟨x, rfl, hO, h⟩ := h
  obtain ⟨hx, hn, hs, hg, hd, hnox⟩ := hB
  have hk := hO.kind
  change WSs X _ [some x, none] C _
  refine wss_cons ?_
  walk_at "pyR"
  · rename_i h2
    rw [isNm_no (by simpa using h2)] at h; exact h
  · rename_i h2
    obtain ⟨z, rfl⟩ := isStr_eq (by simpa using h2)
    have hz := hO.str
    walk_at "pyR"
    · rename_i h3 h4
      have e : isNm (.str z) = false := by
        have : ¬ z.length ≤ 8 := by have h4 := dec_f (by simpa using h4 : decide (((z.length : Nat) : Int) ≤ 8) = false); omega
        simp [isNm, this]
      rw [e] at h; exact h
    · rename_i h3 h4
      have e : isNm (.str z) = abcB z := by
        have h3 := dec_t h3
        have h4 := dec_t (by simpa using h4 : decide (((z.length : Nat) : Int) ≤ 8) = true)
        show ((decide (1 ≤ z.length) && decide (z.length ≤ 8)) && abcB z) = abcB z
        rw [decide_eq_true (by omega), decide_eq_true (by omega)]; rfl
      rw [e] at h
      refine we_fa (lc1 ["sign"] ["LETTERS"] hd (by walk_at "nm") (by decide +kernel) (by decide +kernel) (by decide +kernel) (by decide +kernel) (wi_str ?_))
      walk_at "pyR"
      refine ⟨z, rfl, LcB.map (fun d => .bl (sgB d)) trivial (by rw [signs_len]; exact hz) ?_ fun p hp => fa_put hp ?_⟩
      · intro d hdm X' hX hn' hg'
        have hx' := hx.blk hX
        obtain ⟨c, rfl⟩ := mem_signs hdm
        walk_at "pyR"
        exact ⟨by simp [sgB], rfl⟩
      · walk_at "pyR"
        refine all_map (f := sgB) ?_
        rw [signs_all]; exact h
    · rename_i h3 h4
      have e : isNm (.str z) = false := by
        have : ¬ 1 ≤ z.length := by have h3 := dec_f h3; omega
        simp [isNm, this]
      rw [e] at h; exact h
    · rename_i h3 h4; exact absurd h4 (by decide)
end
end K31
namespace K31
section
variable {P : Program} {w : World} {K : PySem.W.Frag} {mg : Str → Option Value} {base : Heap} {Cl Cf : Addr}
/-! recorders: frames -/
structure Frc (K : PySem.W.Frag) (Cf : Addr) : Prop where
  f1 : FldC K Cf "number"
  f2 : FldC K Cf "origin"
  f3 : FldC K Cf "at_line"
abbrev frK : List Str := ["number", "origin", "at_line"]
structure Fm where
  a : Addr
  num : Int
  fn : Str
  fi : Str
  ed : Int
  ln : Int
abbrev fmO (f : Fm) : D := .tup [.str f.fn, .str f.fi, .int f.ed]
abbrev fmC (Cf : Addr) (f : Fm) : Cell := .ins Cf frK [.int f.num, fmO f, .int f.ln]
abbrev fmT (f : Fm) : D := .tup [.str f.fn, .str f.fi, .int f.ed, .int f.ln]
abbrev fmR (f : Fm) : D := .tup [.str f.fi, .int f.ed, .int f.ln, .str f.fn, .non]
def spFrI (Cf : Addr) : DSp := fun ds C k => ∃ f : Fm, ds = [.own f.a, .int f.num, .str f.fn, .str f.fi, .int f.ed] ∧ C f.a = some (.ins Cf [] []) ∧ f.ln = 1 ∧ k .non (DL.put C f.a (fmC Cf f))
theorem ok_frInit {f : Addr} {fd : FuncData} (F : Fun K "__init__" "Frame.__init__" s_Frame___init__ f fd) (T : Frc K Cf) : FnG P w K mg base CX0 1 f fd P_Frame___init__ (toSp K (spFrI Cf)) := by
  refine fnX F sc_Frame___init__ v_Frame___init__ l_Frame___init__ g_Frame___init__ (fun ds C k h => by obtain ⟨_, rfl, _⟩ := h; rfl) fun X hB ds C k h => ?_
  obtain ⟨⟨p, n, fn, fi, ed, ln⟩, rfl, hp, hl, h⟩ := h
  obtain rfl : ln = 1 := hl
  obtain ⟨hx, hn, hs, hg, hd, hnox⟩ := hB
  change WSs X _ [some (.own p), some (.int n), some (.str fn), some (.str fi), some (.int ed)] C _
  refine wss_cons ?_
  walk_at "pyC"
  refine ⟨p, Cf, [], [], _, _, rfl, hp, T.f1, by decide, .nil, ?_⟩
  walk_at "pyC"
  refine ⟨p, Cf, _, _, _, _, rfl, put_same, T.f2, by decide, .there (by decide +kernel) .nil, ?_⟩
  rw [put_put]
  walk_at "pyC"
  refine ⟨p, Cf, _, _, _, _, rfl, put_same, T.f3, by decide, .there (by decide +kernel) (.there (by decide +kernel) .nil), ?_⟩
  rw [put_put]
  walk_at "pyC"
  exact h
def spFrT (Cf : Addr) : DSp := fun ds C k => ∃ f : Fm, ds = [.own f.a] ∧ C f.a = some (fmC Cf f) ∧ k (fmT f) C
theorem ok_frT {f : Addr} {fd : FuncData} (F : Fun K "as_tuple" "Frame.as_tuple" s_Frame_as_tuple f fd) (T : Frc K Cf) : FnG P w K mg base CX0 1 f fd P_Frame_as_tuple (toSp K (spFrT Cf)) := by
  refine fnX F sc_Frame_as_tuple v_Frame_as_tuple l_Frame_as_tuple g_Frame_as_tuple (fun ds C k h => by obtain ⟨_, rfl, _⟩ := h; rfl) fun X hB ds C k h => ?_
  obtain ⟨f, rfl, hp, h⟩ := h
  obtain ⟨hx, hn, hs, hg, hd, hnox⟩ := hB
  change WSs X _ [some (.own f.a)] C _
  refine wss_cons ?_
  walk_at "pyC"
  refine ⟨Cf, frK, _, fmO f, insD_own hp, T.f2, .there (by decide +kernel) (.here _ _ _ _), ?_⟩
  walk_at "pyC"
  refine ⟨Cf, frK, _, .int f.ln, insD_own hp, T.f3, .there (by decide +kernel) (.there (by decide +kernel) (.here _ _ _ _)), ?_⟩
  walk_at "pyC"
  exact add_tt (Nat.le_of_ble_eq_true rfl) h
def spFrR (Cf : Addr) : DSp := fun ds C k => ∃ f : Fm, ds = [.own f.a] ∧ C f.a = some (fmC Cf f) ∧ k (fmR f) C
theorem ok_frR {f : Addr} {fd : FuncData} (F : Fun K "row" "Frame.row" s_Frame_row f fd) (T : Frc K Cf) : FnG P w K mg base CX0 1 f fd P_Frame_row (toSp K (spFrR Cf)) := by
  refine fnX F sc_Frame_row v_Frame_row l_Frame_row g_Frame_row (fun ds C k h => by obtain ⟨_, rfl, _⟩ := h; rfl) fun X hB ds C k h => ?_
  obtain ⟨f, rfl, hp, h⟩ := h
  obtain ⟨hx, hn, hs, hg, hd, hnox⟩ := hB
  change WSs X _ [some (.own f.a), none, none, none] C _
  refine wss_cons ?_
  walk_at "pyC"
  refine ⟨Cf, frK, _, fmO f, insD_own hp, T.f2, .there (by decide +kernel) (.here _ _ _ _), ?_⟩
  walk_at "pyC"
  refine ⟨Cf, frK, _, .int f.ln, insD_own hp, T.f3, .there (by decide +kernel) (.there (by decide +kernel) (.here _ _ _ _)), ?_⟩
  walk_at "pyC"
  exact h
/-! what is looked at ahead -/
def spLkN : DSp := fun ds C k => ∃ z, ds = [.str z] ∧ Ob (.str z) ∧ isNm (.str z) = true ∧ k .non C
theorem ok_lkName {f : Addr} {fd : FuncData} (F : Fun K "look_name" "look_name" s_look_name f fd) (h1 : FnC P w K mg base "is_name" 1 spIsNm) : FnG P w K mg base CX0 2 f fd P_look_name (toSp K spLkN) := by
  refine fnX F sc_look_name v_look_name l_look_name g_look_name (fun ds C k h => by obtain ⟨_, rfl, _⟩ := h; rfl) fun X hB ds C k h => ?_
  obtain ⟨z, rfl, hO, hz, h⟩ := h
  obtain ⟨hx, hn, hs, hg, hd, hnox⟩ := hB
  change WSs X _ [some (.str z)] C _
  refine wss_cons ?_
  walk_at "pyC"
  refine ⟨.str z, rfl, hO, ?_⟩
  rw [hz]
  walk_at "pyC"
  all_goals try walk_at "bad"
  exact h
def spLkL : DSp := fun ds C k => ∃ i l : Int, ds = [.int i, .int l] ∧ l ≤ i ∧ k .non C
theorem ok_lkLine {f : Addr} {fd : FuncData} (F : Fun K "look_line" "look_line" s_look_line f fd) (h1 : FnC P w K mg base "is_from" 2 spIsFrom) : FnG P w K mg base CX0 3 f fd P_look_line (toSp K spLkL) := by
  refine fnX F sc_look_line v_look_line l_look_line g_look_line (fun ds C k h => by obtain ⟨_, _, rfl, _⟩ := h; rfl) fun X hB ds C k h => ?_
  obtain ⟨i, l, rfl, hl, h⟩ := h
  obtain ⟨hx, hn, hs, hg, hd, hnox⟩ := hB
  change WSs X _ [some (.int i), some (.int l)] C _
  refine wss_cons ?_
  walk_at "pyC"
  refine ⟨.int i, l, rfl, rfl, ?_⟩
  rw [show geB (.int i) l = true from decide_eq_true hl]
  walk_at "pyC"
  all_goals try walk_at "bad"
  exact h
end
end K31
namespace K31
section
variable {P : Program} {w : World} {K : PySem.W.Frag} {mg : Str → Option Value} {base : Heap} {Cl Cf Ct : Addr}
/-! recorders -/
structure Rcc (K : PySem.W.Frag) (Cl : Addr) : Prop where
  f1 : FldC K Cl "stack"
  f2 : FldC K Cl "frames_so_far"
  f3 : FldC K Cl "faults"
  f4 : FldC K Cl "bound"
  f5 : FldC K Cl "caught"
  f6 : FldC K Cl "current"
  f7 : FldC K Cl "stars"
  f8 : FldC K Cl "done_so_far"
abbrev rcK : List Str := ["stack", "frames_so_far", "faults", "bound", "caught", "current", "stars", "done_so_far"]
abbrev ftK : List Str := ["kind", "message", "said", "passed", "group", "tie", "is_alone"]
/-- an error: it stands at a, its notes at sa, its rows at pa -/
structure Ft where
  a : Addr
  kd : Str
  ms : Str
  sa : Addr
  sd : List Str
  pa : Addr
  ps : List D
  ti : Option (Str × Nat)
  al : Bool
def tiD : Option (Str × Nat) → D
  | none => .non
  | some (w, x) => .tup [.str w, .int (x : Nat)]
abbrev ftC (Ct : Addr) (f : Ft) : Cell := .ins Ct ftK [.str f.kd, .str f.ms, .own f.sa, .own f.pa, .non, tiD f.ti, .bl f.al]
structure RA where
  S : Addr
  F : Addr
  B : Addr
  K : Addr
  T : Addr
  L : Addr
structure RV where
  n : Int
  frs : List Fm
  fts : List Ft
  bnd : List (Str × Nat)
  cgt : List (Nat × Int)
  cur : Option Nat
def curD : Option Nat → D
  | some i => .int i
  | none => .non
def ftD : Nat → List Ft → List (Key × D)
  | _, [] => []
  | i, f :: fs => (Sum.inl (i : Int), .own f.a) :: ftD (i + 1) fs
def bndD (m : List (Str × Nat)) : List (Key × D) := m.map fun e => (Sum.inr e.1, .int e.2)
def cgtD (m : List (Nat × Int)) : List D := m.map fun e => .tup [.int e.1, .int e.2]
abbrev rcXs (A : RA) (V : RV) : List D := [.own A.S, .int V.n, .own A.F, .own A.B, .own A.K, curD V.cur, .own A.T, .own A.L]
structure Rc (Cl Cf Ct p : Addr) (A : RA) (V : RV) (m : Nat) (C : CS) : Prop where
  ins : C p = some (.ins Cl rcK (rcXs A V))
  st : C A.S = some (.lst (V.frs.map fun f => .own f.a))
  fr : ∀ f ∈ V.frs, C f.a = some (fmC Cf f)
  nd : (V.frs.map (·.a)).Nodup
  fa : C A.F = some (.dic (ftD 0 V.fts))
  ft : ∀ f ∈ V.fts, C f.a = some (ftC Ct f) ∧ C f.sa = some (.lst (f.sd.map D.str)) ∧ C f.pa = some (.lst f.ps)
  bd : C A.B = some (.dic (bndD V.bnd))
  ca : C A.K = some (.lst (cgtD V.cgt))
  ss : C A.T = some (.lst [])
  dn : ∃ ds, C A.L = some (.lst ds) ∧ ds.length ≤ m
  sk : A.S ≠ A.K
  sT : A.S ≠ A.T
  sl : A.S ≠ A.L
  kt : A.K ≠ A.T
  kl : A.K ≠ A.L
  tl : A.T ≠ A.L
  fb : A.F ≠ A.B
  fl : ∀ f ∈ V.fts, (f.sa ≠ f.pa) ∧ (∀ q ∈ [A.S, A.K, A.T, A.L], q ≠ f.sa ∧ q ≠ f.pa)
  lf : V.fts.Pairwise fun f g => f.a ≠ g.a ∧ f.sa ≠ g.sa ∧ f.sa ≠ g.pa ∧ f.pa ≠ g.sa ∧ f.pa ≠ g.pa
/-- what belongs to a recorder -/
def Fo (p : Addr) (A : RA) (V : RV) (q : Addr) : Prop := q ∈ [p, A.S, A.F, A.B, A.K, A.T, A.L] ∨ (∃ f ∈ V.frs, q = f.a) ∨ ∃ f ∈ V.fts, q ∈ [f.a, f.sa, f.pa]
/-- from one state to another: the cells of others stay -/
structure Sp (p : Addr) (A : RA) (V : RV) (C : CS) (A' : RA) (V' : RV) (C' : CS) : Prop where
  keep : ∀ q c, ¬ Fo p A V q → C q = some c → C' q = some c
  own : ∀ q, Fo p A' V' q → Fo p A V q ∨ C q = none
theorem Sp.refl {p : Addr} {A : RA} {V : RV} {C : CS} : Sp p A V C A V C := ⟨fun _ _ _ h => h, fun _ h => .inl h⟩
theorem Sp.trans {p : Addr} {A A1 A2 : RA} {V V1 V2 : RV} {C C1 C2 : CS} (h1 : Sp p A V C A1 V1 C1) (h2 : Sp p A1 V1 C1 A2 V2 C2) : Sp p A V C A2 V2 C2 := by
  refine ⟨fun q c hn hc => h2.keep q c (fun hf => ?_) (h1.keep q c hn hc), fun q hf => ?_⟩
  · rcases h1.own q hf with h | h
    · exact hn h
    · rw [h] at hc; cases hc
  · rcases h2.own q hf with h | h
    · exact h1.own q h
    · by_cases hq : Fo p A V q
      · exact .inl hq
      · cases hc : C q with
        | none => exact .inr rfl
        | some c => have := h1.keep q c hq hc; rw [h] at this; cases this
theorem Rc.up {p : Addr} {A : RA} {V : RV} {m : Nat} {C C' : CS} (h : Rc Cl Cf Ct p A V m C) (hs : ∀ q c, C q = some c → C' q = some c) : Rc Cl Cf Ct p A V m C' := by
  obtain ⟨ds, hd, hl⟩ := h.dn
  exact ⟨hs _ _ h.ins, hs _ _ h.st, fun f hf => hs _ _ (h.fr f hf), h.nd, hs _ _ h.fa, fun f hf => ⟨hs _ _ (h.ft f hf).1, hs _ _ (h.ft f hf).2.1, hs _ _ (h.ft f hf).2.2⟩, hs _ _ h.bd, hs _ _ h.ca, hs _ _ h.ss, ⟨ds, hs _ _ hd, hl⟩, h.sk, h.sT, h.sl, h.kt, h.kl, h.tl, h.fb, h.fl, h.lf⟩
theorem sub_new {C : CS} {q : Addr} {c : Cell} (h : C q = none) : ∀ x z, C x = some z → DL.put C q c x = some z := fun x z hz => by rw [put_ne (cell_ne hz h)]; exact hz
/-! keep, and what is looked at -/
def spKeep (Cl Cf Ct : Addr) : DSp := fun ds C k => ∃ p A V m xs, ds = [.own p, .tup xs] ∧ Rc Cl Cf Ct p A V m C ∧ m < 100000 ∧ ∀ C', Rc Cl Cf Ct p A V (m + 1) C' → (∀ q, q ≠ A.L → C' q = C q) → k .non C'
theorem ok_keep {f : Addr} {fd : FuncData} (F : Fun K "keep" "Recorder.keep" s_Recorder_keep f fd) (T : Rcc K Cl) : FnG P w K mg base CX0 1 f fd P_Recorder_keep (toSp K (spKeep Cl Cf Ct)) := by
  refine fnX F sc_Recorder_keep v_Recorder_keep l_Recorder_keep g_Recorder_keep (fun ds C k h => by obtain ⟨_, _, _, _, _, rfl, _⟩ := h; rfl) fun X hB ds C k h => ?_
  obtain ⟨p, A, V, m, xs, rfl, hR, hm, h⟩ := h
  obtain ⟨hx, hn, hs, hg, hd, hnox⟩ := hB
  change WSs X _ [some (.own p), some (.tup xs)] C _
  refine wss_cons ?_
  walk_at "pyC"
  refine ⟨Cl, rcK, _, .own A.L, insD_own hR.ins, T.f8, by repeat (first | exact .here _ _ _ _ | refine .there (by decide +kernel) ?_), ?_⟩
  walk_at "pyC"
  obtain ⟨ds, hds, hl⟩ := hR.dn
  have hsz : ds.length < sizeLine := Nat.lt_of_lt_of_le (by omega : ds.length < 1000000) (by decide)
  refine ty_own hds ?_
  walk_at "pyC"
  refine DL.app_ok hds hsz ?_
  walk_at "pyC"
  have nl : ∀ {q c}, C q = some c → (∀ l, c ≠ .lst l) → q ≠ A.L := fun hq hc e => by rw [e, hds] at hq; cases hq; exact hc _ rfl
  have kp : ∀ q, q ≠ A.L → DL.put C A.L (.lst (ds ++ [.tup xs])) q = C q := fun q hq => put_ne hq
  refine h _ ?_ kp
  have n1 := nl hR.ins (fun _ e => by cases e)
  have n2 := nl hR.fa (fun _ e => by cases e)
  have n3 := nl hR.bd (fun _ e => by cases e)
  refine ⟨(kp _ n1).trans hR.ins, (kp _ hR.sl).trans hR.st, fun f hf => (kp _ (nl (hR.fr f hf) (fun _ e => by cases e))).trans (hR.fr f hf), hR.nd, (kp _ n2).trans hR.fa, fun f hf => ?_, (kp _ n3).trans hR.bd, (kp _ hR.kl).trans hR.ca, (kp _ hR.tl).trans hR.ss, ⟨_, put_same, by rw [List.length_append]; simp; omega⟩, hR.sk, hR.sT, hR.sl, hR.kt, hR.kl, hR.tl, hR.fb, hR.fl, hR.lf⟩
  obtain ⟨q1, q2, q3⟩ := hR.ft f hf
  obtain ⟨_, q5⟩ := hR.fl f hf
  have q6 := q5 A.L (by simp)
  exact ⟨(kp _ (nl q1 (fun _ e => by cases e))).trans q1, (kp _ q6.1.symm).trans q2, (kp _ q6.2.symm).trans q3⟩
def spCalm (Cl Cf Ct : Addr) : DSp := fun ds C k => ∃ p A V m, ds = [.own p] ∧ Rc Cl Cf Ct p A V m C ∧ V.cur = none ∧ k .non C
theorem ok_lookCalm {f : Addr} {fd : FuncData} (F : Fun K "look_calm" "Recorder.look_calm" s_Recorder_look_calm f fd) (T : Rcc K Cl) : FnG P w K mg base CX0 1 f fd P_Recorder_look_calm (toSp K (spCalm Cl Cf Ct)) := by
  refine fnX F sc_Recorder_look_calm v_Recorder_look_calm l_Recorder_look_calm g_Recorder_look_calm (fun ds C k h => by obtain ⟨_, _, _, _, rfl, _⟩ := h; rfl) fun X hB ds C k h => ?_
  obtain ⟨p, A, V, m, rfl, hR, hc, h⟩ := h
  obtain ⟨hx, hn, hs, hg, hd, hnox⟩ := hB
  change WSs X _ [some (.own p)] C _
  refine wss_cons ?_
  walk_at "pyC"
  refine ⟨Cl, rcK, _, .non, insD_own hR.ins, T.f6, by rw [show rcXs A V = [.own A.S, .int V.n, .own A.F, .own A.B, .own A.K, .non, .own A.T, .own A.L] by unfold rcXs; rw [hc]; rfl]; repeat (first | exact .here _ _ _ _ | refine .there (by decide +kernel) ?_), ?_⟩
  walk_at "pyC"
  all_goals try walk_at "bad"
  exact h
def spLookFr (Cl Cf Ct : Addr) : DSp := fun ds C k => ∃ p A V m, ds = [.own p] ∧ Rc Cl Cf Ct p A V m C ∧ V.frs ≠ [] ∧ k .non C
theorem ok_lookFrame {f : Addr} {fd : FuncData} (F : Fun K "look_frame" "Recorder.look_frame" s_Recorder_look_frame f fd) (T : Rcc K Cl) : FnG P w K mg base CX0 1 f fd P_Recorder_look_frame (toSp K (spLookFr Cl Cf Ct)) := by
  refine fnS F sc_Recorder_look_frame v_Recorder_look_frame l_Recorder_look_frame g_Recorder_look_frame (fun ds C k h => by obtain ⟨_, _, _, _, rfl, _⟩ := h; rfl) fun X hB ds C k h => ?_
  obtain ⟨p, A, V, m, rfl, hR, hc, h⟩ := h
  obtain ⟨hx, hn, hs, hg, hd, hnox⟩ := hB
  change WSs X _ [some (.own p)] C _
  refine wss_cons ?_
  refine ws_if (xt_eqLE hx ?_)
  walk_at "pyC"
  refine ⟨Cl, rcK, _, .own A.S, insD_own hR.ins, T.f1, by repeat (first | exact .here _ _ _ _ | refine .there (by decide +kernel) ?_), ?_⟩
  walk_at "pyC"
  refine we_nil fun q hq => ?_
  have hR2 := hR.up (sub_new (c := .lst []) hq)
  refine ⟨A.S, q, _, rfl, rfl, hR2.st, put_same, false, ?_, (fun z => nomatch z), fun _ => ?_⟩
  · cases hf : V.frs with
    | nil => exact absurd hf hc
    | cons _ _ => rfl
  · refine wss_nil (wss_nil ?_)
    exact ⟨C, sub_new hq, h⟩
end
end K31
namespace K31
section
variable {P : Program} {w : World} {K : PySem.W.Frag} {mg : Str → Option Value} {base : Heap} {Cl Cf Ct : Addr}
/-! a new recorder -/
/-- an instance that is being filled -/
structure Ini (Cl p : Addr) (C0 C : CS) (ks : List Str) (xs : List D) (cs : List (Addr × Cell)) : Prop where
  ins : C p = some (.ins Cl ks xs)
  cl : ∀ e ∈ cs, C e.1 = some e.2
  nw : ∀ e ∈ cs, C0 e.1 = none ∧ e.1 ≠ p
  nd : (cs.map (·.1)).Nodup
  kp : ∀ q c, q ≠ p → C0 q = some c → C q = some c
theorem Ini.set {p : Addr} {C0 C : CS} {ks ks' : List Str} {xs xs' : List D} {cs : List (Addr × Cell)} (h : Ini Cl p C0 C ks xs cs) : Ini Cl p C0 (DL.put C p (.ins Cl ks' xs')) ks' xs' cs :=
  ⟨put_same, fun e he => by rw [put_ne (h.nw e he).2]; exact h.cl e he, h.nw, h.nd, fun q c hq hc => by rw [put_ne hq]; exact h.kp q c hq hc⟩
theorem Ini.new {p q : Addr} {C0 C : CS} {ks : List Str} {xs : List D} {cs : List (Addr × Cell)} {c : Cell} (h : Ini Cl p C0 C ks xs cs) (hq : C q = none) : Ini Cl p C0 (DL.put C q c) ks xs (cs ++ [(q, c)]) := by
  have hqp : q ≠ p := fun e => by rw [e, h.ins] at hq; cases hq
  have h0 : C0 q = none := by
    cases hc : C0 q with
    | none => rfl
    | some c => have := h.kp q c hqp hc; rw [hq] at this; cases this
  refine ⟨by rw [put_ne hqp.symm]; exact h.ins, fun e he => ?_, fun e he => ?_, ?_, fun x c' hx hc => sub_new hq _ _ (h.kp x c' hx hc)⟩
  · rcases List.mem_append.mp he with he | he
    · exact sub_new hq _ _ (h.cl e he)
    · rw [List.mem_singleton.mp he]; exact put_same
  · rcases List.mem_append.mp he with he | he
    · exact h.nw e he
    · rw [List.mem_singleton.mp he]; exact ⟨h0, hqp⟩
  · rw [List.map_append, List.nodup_append]
    refine ⟨h.nd, by simp, fun a ha b hb e => ?_⟩
    obtain ⟨x, hx, rfl⟩ := List.mem_map.mp ha
    have : b = q := by simpa using hb
    have := h.cl x hx
    rw [e, ‹b = q›, hq] at this
    cases this
theorem fp_app {f : Str} {d : D} : ∀ {ks : List Str} {xs : List D}, ks.length = xs.length → f ∉ ks → FPut f d ks xs (ks ++ [f]) (xs ++ [d])
  | [], [], _, _ => .nil
  | g :: ks, x :: xs, hl, h => .there (beq_eq_false_iff_ne.mpr fun e => h (by simp [e])) (fp_app (by simpa using hl) fun z => h (by simp [z]))
  | [], _ :: _, hl, _ => by simp at hl
  | _ :: _, [], hl, _ => by simp at hl
def spRcI (Cl Cf Ct : Addr) : DSp := fun ds C k => ∃ p, ds = [.own p] ∧ C p = some (.ins Cl [] []) ∧ ∀ C' A, Rc Cl Cf Ct p A ⟨0, [], [], [], [], none⟩ 0 C' → (∀ q c, q ≠ p → C q = some c → C' q = some c) → (∀ q ∈ [A.S, A.F, A.B, A.K, A.T, A.L], C q = none) → k .non C'
theorem ok_rcInit {f : Addr} {fd : FuncData} (F : Fun K "__init__" "Recorder.__init__" s_Recorder___init__ f fd) (T : Rcc K Cl) : FnG P w K mg base CX0 1 f fd P_Recorder___init__ (toSp K (spRcI Cl Cf Ct)) := by
  refine fnX F sc_Recorder___init__ v_Recorder___init__ l_Recorder___init__ g_Recorder___init__ (fun ds C k h => by obtain ⟨_, rfl, _⟩ := h; rfl) fun X hB ds C k h => ?_
  obtain ⟨p, rfl, hp, h⟩ := h
  obtain ⟨hx, hn, hs, hg, hd, hnox⟩ := hB
  change WSs X _ [some (.own p)] C _
  have i0 : Ini Cl p C C [] [] [] := ⟨hp, fun _ h => by simp at h, fun _ h => by simp at h, .nil, fun _ _ _ h => h⟩
  have go : ∀ C', Ini Cl p C C' [] [] [] → True := fun _ _ => trivial
  refine wss_cons ?_
  walk_at "pyC"
  refine we_nil fun aS hS => ?_
  have i1 := i0.new (c := .lst []) hS
  generalize DL.put C aS (.lst []) = C1 at i1 ⊢
  walk_at "pyC"
  refine ⟨p, Cl, _, _, _, _, rfl, i1.ins, T.f1, by decide, fp_app rfl (by decide +kernel), ?_⟩
  have i2 := i1.set (ks' := ["stack"]) (xs' := [.own aS])
  simp only [List.nil_append]
  generalize DL.put C1 p _ = C2 at i2 ⊢
  walk_at "pyC"
  refine ⟨p, Cl, _, _, _, _, rfl, i2.ins, T.f2, by decide, fp_app rfl (by decide +kernel), ?_⟩
  have i3 := i2.set (ks' := ["stack", "frames_so_far"]) (xs' := [.own aS, .int 0])
  simp only [List.cons_append, List.nil_append]
  generalize DL.put C2 p _ = C3 at i3 ⊢
  walk_at "pyC"
  intro aF hF
  have i4 := i3.new (c := .dic []) hF
  generalize DL.put C3 aF (.dic []) = C4 at i4 ⊢
  walk_at "pyC"
  refine ⟨p, Cl, _, _, _, _, rfl, i4.ins, T.f3, by decide, fp_app rfl (by decide +kernel), ?_⟩
  have i5 := i4.set (ks' := ["stack", "frames_so_far", "faults"]) (xs' := [.own aS, .int 0, .own aF])
  simp only [List.cons_append, List.nil_append]
  generalize DL.put C4 p _ = C5 at i5 ⊢
  walk_at "pyC"
  intro aB hB
  have i6 := i5.new (c := .dic []) hB
  generalize DL.put C5 aB (.dic []) = C6 at i6 ⊢
  walk_at "pyC"
  refine ⟨p, Cl, _, _, _, _, rfl, i6.ins, T.f4, by decide, fp_app rfl (by decide +kernel), ?_⟩
  have i7 := i6.set (ks' := ["stack", "frames_so_far", "faults", "bound"]) (xs' := [.own aS, .int 0, .own aF, .own aB])
  simp only [List.cons_append, List.nil_append]
  generalize DL.put C6 p _ = C7 at i7 ⊢
  walk_at "pyC"
  refine we_nil fun aK hK => ?_
  have i8 := i7.new (c := .lst []) hK
  generalize DL.put C7 aK (.lst []) = C8 at i8 ⊢
  walk_at "pyC"
  refine ⟨p, Cl, _, _, _, _, rfl, i8.ins, T.f5, by decide, fp_app rfl (by decide +kernel), ?_⟩
  have i9 := i8.set (ks' := ["stack", "frames_so_far", "faults", "bound", "caught"]) (xs' := [.own aS, .int 0, .own aF, .own aB, .own aK])
  simp only [List.cons_append, List.nil_append]
  generalize DL.put C8 p _ = C9 at i9 ⊢
  walk_at "pyC"
  refine ⟨p, Cl, _, _, _, _, rfl, i9.ins, T.f6, by decide, fp_app rfl (by decide +kernel), ?_⟩
  have i10 := i9.set (ks' := ["stack", "frames_so_far", "faults", "bound", "caught", "current"]) (xs' := [.own aS, .int 0, .own aF, .own aB, .own aK, .non])
  simp only [List.cons_append, List.nil_append]
  generalize DL.put C9 p _ = C10 at i10 ⊢
  walk_at "pyC"
  refine we_nil fun aT hT => ?_
  have i11 := i10.new (c := .lst []) hT
  generalize DL.put C10 aT (.lst []) = C11 at i11 ⊢
  walk_at "pyC"
  refine ⟨p, Cl, _, _, _, _, rfl, i11.ins, T.f7, by decide, fp_app rfl (by decide +kernel), ?_⟩
  have i12 := i11.set (ks' := ["stack", "frames_so_far", "faults", "bound", "caught", "current", "stars"]) (xs' := [.own aS, .int 0, .own aF, .own aB, .own aK, .non, .own aT])
  simp only [List.cons_append, List.nil_append]
  generalize DL.put C11 p _ = C12 at i12 ⊢
  walk_at "pyC"
  refine we_nil fun aL hL => ?_
  have i13 := i12.new (c := .lst []) hL
  generalize DL.put C12 aL (.lst []) = C13 at i13 ⊢
  walk_at "pyC"
  refine ⟨p, Cl, _, _, _, _, rfl, i13.ins, T.f8, by decide, fp_app rfl (by decide +kernel), ?_⟩
  have i14 := i13.set (ks' := rcK) (xs' := [.own aS, .int 0, .own aF, .own aB, .own aK, .non, .own aT, .own aL])
  simp only [List.cons_append, List.nil_append]
  generalize DL.put C13 p _ = C14 at i14 ⊢
  clear i0 i1 i2 i3 i4 i5 i6 i7 i8 i9 i10 i11 i12 i13
  walk_at "pyC"
  have nd := i14.nd
  simp only [List.nil_append, List.cons_append, List.map_cons, List.map_nil, List.nodup_cons, List.mem_cons, List.not_mem_nil, or_false, not_or, List.nodup_nil, and_true, not_false_eq_true] at nd
  obtain ⟨⟨n1, n2, n3, n4, n5⟩, ⟨n6, n7, n8, n9⟩, ⟨n10, n11, n12⟩, ⟨n13, n14⟩, n15⟩ := nd
  have cl := i14.cl
  refine h C14 ⟨aS, aF, aB, aK, aT, aL⟩ ⟨i14.ins, cl (aS, .lst []) (by simp), fun _ h => by simp at h, .nil, cl (aF, .dic []) (by simp), fun _ h => by simp at h, cl (aB, .dic []) (by simp), cl (aK, .lst []) (by simp), cl (aT, .lst []) (by simp), ⟨[], cl (aL, .lst []) (by simp), Nat.le_refl _⟩, n3, n4, n5, n13, n14, n15, n6, (fun _ h => by simp at h), .nil⟩ i14.kp fun q hq => ?_
  simp only [List.mem_cons, List.not_mem_nil, or_false] at hq
  have nw := i14.nw
  rcases hq with rfl | rfl | rfl | rfl | rfl | rfl
  · exact (nw (_, .lst []) (by simp)).1
  · exact (nw (_, .dic []) (by simp)).1
  · exact (nw (_, .dic []) (by simp)).1
  · exact (nw (_, .lst []) (by simp)).1
  · exact (nw (_, .lst []) (by simp)).1
  · exact (nw (_, .lst []) (by simp)).1
end
end K31
namespace K31
section
variable {P : Program} {w : World} {K : PySem.W.Frag} {mg : Str → Option Value} {base : Heap} {Cl Cf Ct : Addr}
theorem fgR {A : RA} {V : RV} {f : Str} {d : D} (h : (rcK.zip (rcXs A V)).lookup f = some d) : FGet rcK (rcXs A V) f d := by
  have go : ∀ (ks : List Str) (xs : List D), ks.length = xs.length → (ks.zip xs).lookup f = some d → FGet ks xs f d := by
    intro ks
    induction ks with
    | nil => intro xs _ h; simp at h
    | cons k ks ih =>
      intro xs hl h
      cases xs with
      | nil => simp at hl
      | cons x xs =>
        rw [List.zip_cons_cons, List.lookup_cons] at h
        cases hk : f == k with
        | true =>
          rw [hk] at h
          cases h
          have : f = k := by simpa using hk
          subst this
          exact .here _ _ _ _
        | false =>
          rw [hk] at h
          exact .there hk (ih xs (by simpa using hl) h)
  exact go _ _ rfl h
theorem Rc.pS {p : Addr} {A : RA} {V : RV} {m : Nat} {C : CS} (h : Rc Cl Cf Ct p A V m C) : p ≠ A.S := fun e => by have := h.ins; rw [e, h.st] at this; cases this
/-- only the recorder's own fields and its stack change -/
theorem Rc.push {p : Addr} {A : RA} {V : RV} {m : Nat} {C C' : CS} {f : Fm} (h : Rc Cl Cf Ct p A V m C) (hf : C f.a = some (fmC Cf f)) (hn : ∀ g ∈ V.frs, f.a ≠ g.a) (hi : C' p = some (.ins Cl rcK (rcXs A { V with n := V.n + 1, frs := V.frs ++ [f] }))) (hs : C' A.S = some (.lst ((V.frs ++ [f]).map fun f => .own f.a))) (hk : ∀ q c, q ≠ p → q ≠ A.S → C q = some c → C' q = some c) : Rc Cl Cf Ct p A { V with n := V.n + 1, frs := V.frs ++ [f] } m C' := by
  have nk : ∀ {q Cx ks xs}, C q = some (.ins Cx ks xs) → ks ≠ rcK → q ≠ p := fun hq hne e => by
    rw [e, h.ins] at hq
    injection hq with hq
    injection hq with _ hq _
    exact hne hq.symm
  have nl : ∀ {q c}, C q = some c → (∀ l, c ≠ .lst l) → q ≠ A.S := fun hq hc e => by rw [e, h.st] at hq; cases hq; exact hc _ rfl
  have np : ∀ {q c}, C q = some c → (∀ a b d, c ≠ .ins a b d) → q ≠ p := fun hq hc e => by rw [e, h.ins] at hq; cases hq; exact hc _ _ _ rfl
  have kl : ∀ {q l}, C q = some (.lst l) → q ≠ A.S → C' q = some (.lst l) := fun hq hn => hk _ _ (np hq (fun _ _ _ e => by cases e)) hn hq
  have kd : ∀ {q l}, C q = some (.dic l) → C' q = some (.dic l) := fun hq => hk _ _ (np hq (fun _ _ _ e => by cases e)) (nl hq (fun _ e => by cases e)) hq
  have ki : ∀ {q Cx ks xs}, C q = some (.ins Cx ks xs) → ks ≠ rcK → C' q = some (.ins Cx ks xs) := fun hq hne => hk _ _ (nk hq hne) (nl hq (fun _ e => by cases e)) hq
  obtain ⟨ds, hds, hl⟩ := h.dn
  refine ⟨hi, hs, fun g hg => ?_, ?_, kd h.fa, fun g hg => ?_, kd h.bd, kl h.ca h.sk.symm, kl h.ss h.sT.symm, ⟨ds, kl hds h.sl.symm, hl⟩, h.sk, h.sT, h.sl, h.kt, h.kl, h.tl, h.fb, h.fl, h.lf⟩
  · rcases List.mem_append.mp hg with hg | hg
    · exact ki (h.fr g hg) (by decide +kernel)
    · rw [List.mem_singleton.mp hg]; exact ki hf (by decide +kernel)
  · rw [List.map_append, List.nodup_append]
    refine ⟨h.nd, by simp, fun a ha b hb e => ?_⟩
    obtain ⟨g, hg, rfl⟩ := List.mem_map.mp ha
    exact hn g hg (by rw [show b = f.a by simpa using hb] at e; exact e.symm)
  · obtain ⟨q1, q2, q3⟩ := h.ft g hg
    have q4 := (h.fl g hg).2 A.S (by simp)
    exact ⟨ki q1 (by decide +kernel), kl q2 q4.1.symm, kl q3 q4.2.symm⟩
def spCall (Cl Cf Ct : Addr) : DSp := fun ds C k => ∃ p A V m fn fi ed, ds = [.own p, .str fn, .str fi, .int ed] ∧ Rc Cl Cf Ct p A V m C ∧ m < 100000 ∧ V.cur = none ∧ Ob (.str fn) ∧ isNm (.str fn) = true ∧ Ob (.str fi) ∧ isNm (.str fi) = true ∧ 0 ≤ ed ∧ V.frs.length < 100 ∧
  ∀ C' a, C a = none → Rc Cl Cf Ct p A { V with n := V.n + 1, frs := V.frs ++ [⟨a, V.n, fn, fi, ed, 1⟩] } (m + 1) C' → (∀ q c, q ∉ [p, A.S, A.L] → C q = some c → C' q = some c) → k .non C'
theorem ok_call {f : Addr} {fd : FuncData} (F : Fun K "call" "Recorder.call" s_Recorder_call f fd) (T : Rcc K Cl) (Z : Zs mg) (h1 : MthC P w K mg base Cl "look_calm" 1 [] (spCalm Cl Cf Ct)) (h2 : FnC P w K mg base "look_name" 2 spLkN) (h3 : FnC P w K mg base "look_line" 3 spLkL) (h4 : MakC P w K mg base "Frame" Cf 1 [] (spFrI Cf)) (h5 : MthC P w K mg base Cl "keep" 1 [] (spKeep Cl Cf Ct)) (g1 : MgK K mg "MOST_FRAMES_recorder" (.int 100)) : FnG P w K mg base CX0 4 f fd P_Recorder_call (toSp K (spCall Cl Cf Ct)) := by
  refine fnX F sc_Recorder_call v_Recorder_call l_Recorder_call g_Recorder_call (fun ds C k h => by obtain ⟨_, _, _, _, _, _, _, rfl, _⟩ := h; rfl) fun X hB ds C k h => ?_
  obtain ⟨p, A, V, m, fn, fi, ed, rfl, hR, hm, hcur, hO1, hN1, hO2, hN2, hed, hfl, h⟩ := h
  obtain ⟨hx, hn, hs, hg, hd, hnox⟩ := hB
  change WSs X _ [some (.own p), some (.str fn), some (.str fi), some (.int ed)] C _
  refine wss_consH ?_
  walk_at "pyC"
  refine x_meth0 hx h1 ?_ (by omega)
  walk_at "pyC"
  refine ⟨⟨_, _, insD_own hR.ins, by decide +kernel⟩, ?_⟩
  refine ⟨p, A, V, m, rfl, hR, hcur, ?_⟩
  refine wsh_go (wss_consH ?_)
  walk_at "pyC"
  refine ⟨fn, rfl, hO1, hN1, ?_⟩
  refine wsh_go (wss_consH ?_)
  walk_at "pyC"
  refine ⟨fi, rfl, hO2, hN2, ?_⟩
  refine wsh_go (wss_consH ?_)
  walk_at "pyC"
  refine ⟨ed, 0, rfl, hed, ?_⟩
  refine wsh_go (wss_consH ?_)
  walk_at "pyC"
  refine ⟨Cl, rcK, _, .own A.S, insD_own hR.ins, T.f1, fgR rfl, ?_⟩
  walk_at "pyC"
  refine Or.inl (len_own hR.st ?_)
  walk_at "pyC"
  · rename_i q5
    exfalso
    have : ((V.frs.map fun f => D.own f.a).length : Int) = 100 := by simpa using q5
    rw [List.length_map] at this
    omega
  refine wsh_go (wss_consH ?_)
  walk_at "pyC"
  refine ⟨Cl, rcK, _, .own A.S, insD_own hR.ins, T.f1, fgR rfl, ?_⟩
  walk_at "pyC"
  refine ty_own hR.st ?_
  walk_at "pyC"
  refine x_make hx h4 (by walk_at "gl") ?_ (by omega)
  walk_at "pyC"
  refine ⟨Cl, rcK, _, .int V.n, insD_own hR.ins, T.f2, fgR rfl, ?_⟩
  walk_at "pyC"
  intro a ha
  refine ⟨⟨a, V.n, fn, fi, ed, 1⟩, rfl, put_same, rfl, ?_⟩
  rw [put_put]
  refine ⟨rfl, ?_⟩
  have hR1 := hR.up (sub_new (c := fmC Cf ⟨a, V.n, fn, fi, ed, 1⟩) ha)
  have ha1 : DL.put C a (fmC Cf ⟨a, V.n, fn, fi, ed, 1⟩) a = some (fmC Cf ⟨a, V.n, fn, fi, ed, 1⟩) := put_same
  have hs1 := sub_new (c := fmC Cf ⟨a, V.n, fn, fi, ed, 1⟩) ha
  generalize DL.put C a (fmC Cf ⟨a, V.n, fn, fi, ed, 1⟩) = C1 at hR1 ha1 hs1 ⊢
  have hsz : (V.frs.map fun f => D.own f.a).length < sizeLine := Nat.lt_of_lt_of_le (by rw [List.length_map]; omega : _ < 1000) (by decide)
  refine DL.app_ok hR1.st hsz ?_
  have hpS := hR1.pS
  refine wsh_go (wss_consH ?_)
  refine x_augFld hx ?_
  walk_at "pyC"
  refine ⟨p, Cl, rcK, _, V.n, rfl, by rw [put_ne hpS]; exact hR1.ins, T.f2, fgR rfl, ?_⟩
  walk_at "pyC"
  refine ⟨1, rcK, _, rcK, rcXs A { V with n := V.n + 1, frs := V.frs ++ [⟨a, V.n, fn, fi, ed, 1⟩] }, rfl, by rw [put_ne hpS]; exact hR1.ins, by decide, .there (by decide +kernel) (.here _ _ _), ?_⟩
  have hR2 := hR1.push (C' := DL.put (DL.put C1 A.S (.lst ((V.frs.map fun f => .own f.a) ++ [.own a]))) p (.ins Cl rcK (rcXs A { V with n := V.n + 1, frs := V.frs ++ [⟨a, V.n, fn, fi, ed, 1⟩] }))) (f := ⟨a, V.n, fn, fi, ed, 1⟩) ha1 (fun f hf e => by have := hR.fr f hf; rw [← e] at this; rw [show (⟨a, V.n, fn, fi, ed, 1⟩ : Fm).a = a from rfl, ha] at this; cases this) put_same (by rw [put_ne hpS.symm, put_same, List.map_append]; rfl) fun q c h1 h2 hc => by rw [put_ne h1, put_ne h2]; exact hc
  have kp2 : ∀ q c, q ∉ [p, A.S, A.L] → C q = some c → DL.put (DL.put C1 A.S (.lst ((V.frs.map fun f => .own f.a) ++ [.own a]))) p (.ins Cl rcK (rcXs A { V with n := V.n + 1, frs := V.frs ++ [⟨a, V.n, fn, fi, ed, 1⟩] })) q = some c := fun q c hq hc => by
    simp only [List.mem_cons, List.not_mem_nil, or_false, not_or] at hq
    rw [put_ne hq.1, put_ne hq.2.1]; exact hs1 _ _ hc
  generalize DL.put (DL.put C1 A.S (.lst ((V.frs.map fun f => .own f.a) ++ [.own a]))) p (.ins Cl rcK (rcXs A { V with n := V.n + 1, frs := V.frs ++ [⟨a, V.n, fn, fi, ed, 1⟩] })) = C2 at hR2 kp2 ⊢
  refine wsh_go (wss_consH ?_)
  walk_at "pyC"
  refine x_meth hx h5 ?_ (by omega)
  walk_at "pyC"
  refine ⟨⟨_, _, insD_own hR2.ins, by decide +kernel⟩, ?_⟩
  walk_at "pyC"
  refine ⟨p, A, _, m, _, rfl, hR2, hm, fun C3 hR3 hk3 => ?_⟩
  refine wsh_go (wss_nil ?_)
  refine h C3 a ha hR3 fun q c hq hc => ?_
  have h1 := kp2 q c hq hc
  simp only [List.mem_cons, List.not_mem_nil, or_false, not_or] at hq
  rw [hk3 q hq.2.2]; exact h1
end
end K31
namespace K31
section
variable {P : Program} {w : World} {K : PySem.W.Frag} {mg : Str → Option Value} {base : Heap} {Cl Cf Ct : Addr}
theorem ixN_lastR {α : Type} (xs : List α) (l : α) : ixN (xs ++ [l]).length (-1) = some xs.length := by
  unfold ixN
  rw [if_neg (by decide), if_pos (by rw [List.length_append]; simp; omega)]
  congr 1
  rw [List.length_append]
  simp only [List.length_singleton]
  omega
theorem at_last (xs : List D) (l : D) : atI (xs ++ [l]) (-1) = some l := by
  unfold atI
  rw [ixN_lastR]
  simp
/-- the line of a frame changes -/
theorem Rc.line {p : Addr} {A : RA} {V : RV} {m : Nat} {C : CS} {fs : List Fm} {f : Fm} {i : Int} (h : Rc Cl Cf Ct p A V m C) (hv : V.frs = fs ++ [f]) : Rc Cl Cf Ct p A { V with frs := fs ++ [{ f with ln := i }] } m (DL.put C f.a (fmC Cf { f with ln := i })) := by
  have hf := h.fr f (by rw [hv]; simp)
  have ni : ∀ {q Cx ks xs}, C q = some (.ins Cx ks xs) → ks ≠ frK → q ≠ f.a := fun hq hne e => by
    rw [e, hf] at hq
    injection hq with hq
    injection hq with _ hq _
    exact hne hq.symm
  have np : ∀ {q c}, C q = some c → (∀ a b d, c ≠ .ins a b d) → q ≠ f.a := fun hq hc e => by rw [e, hf] at hq; cases hq; exact hc _ _ _ rfl
  have kl : ∀ {q l}, C q = some (.lst l) → DL.put C f.a (fmC Cf { f with ln := i }) q = some (.lst l) := fun hq => by rw [put_ne (np hq (fun _ _ _ e => by cases e))]; exact hq
  have kd : ∀ {q l}, C q = some (.dic l) → DL.put C f.a (fmC Cf { f with ln := i }) q = some (.dic l) := fun hq => by rw [put_ne (np hq (fun _ _ _ e => by cases e))]; exact hq
  have nd := h.nd
  rw [hv, List.map_append, List.nodup_append] at nd
  obtain ⟨ds, hds, hl⟩ := h.dn
  refine ⟨by rw [put_ne (ni h.ins (by decide +kernel))]; exact h.ins, ?_, fun g hg => ?_, ?_, kd h.fa, fun g hg => ?_, kd h.bd, kl h.ca, kl h.ss, ⟨ds, kl hds, hl⟩, h.sk, h.sT, h.sl, h.kt, h.kl, h.tl, h.fb, h.fl, h.lf⟩
  · have := kl h.st
    rw [hv, List.map_append] at this
    rw [List.map_append]
    exact this
  · rcases List.mem_append.mp hg with hg | hg
    · rw [put_ne fun e => nd.2.2 g.a (List.mem_map_of_mem hg) f.a (by simp) e]
      exact h.fr g (by rw [hv]; exact List.mem_append_left _ hg)
    · rw [List.mem_singleton.mp hg]; exact put_same
  · rw [List.map_append, List.nodup_append]
    exact nd
  · obtain ⟨q1, q2, q3⟩ := h.ft g hg
    exact ⟨by rw [put_ne (ni q1 (by decide +kernel))]; exact q1, kl q2, kl q3⟩
def spAt (Cl Cf Ct : Addr) : DSp := fun ds C k => ∃ p A V m fs f i, ds = [.own p, .int i] ∧ Rc Cl Cf Ct p A V m C ∧ m < 100000 ∧ V.cur = none ∧ V.frs = fs ++ [f] ∧ 1 ≤ i ∧
  ∀ C', Rc Cl Cf Ct p A { V with frs := fs ++ [{ f with ln := i }] } (m + 1) C' → (∀ q c, q ∉ [f.a, A.L] → C q = some c → C' q = some c) → k .non C'
theorem ok_at {f : Addr} {fd : FuncData} (F : Fun K "at" "Recorder.at" s_Recorder_at f fd) (T : Rcc K Cl) (Tf : Frc K Cf) (h1 : MthC P w K mg base Cl "look_calm" 1 [] (spCalm Cl Cf Ct)) (h2 : MthC P w K mg base Cl "look_frame" 1 [] (spLookFr Cl Cf Ct)) (h3 : FnC P w K mg base "look_line" 3 spLkL) (h5 : MthC P w K mg base Cl "keep" 1 [] (spKeep Cl Cf Ct)) : FnG P w K mg base CX0 4 f fd P_Recorder_at (toSp K (spAt Cl Cf Ct)) := by
  refine fnX F sc_Recorder_at v_Recorder_at l_Recorder_at g_Recorder_at (fun ds C k h => by obtain ⟨_, _, _, _, _, _, _, rfl, _⟩ := h; rfl) fun X hB ds C k h => ?_
  obtain ⟨p, A, V, m, fs, f, i, rfl, hR, hm, hcur, hv, hi, h⟩ := h
  obtain ⟨hx, hn, hs, hg, hd, hnox⟩ := hB
  change WSs X _ [some (.own p), some (.int i)] C _
  refine wss_consH ?_
  walk_at "pyC"
  refine x_meth0 hx h1 ?_ (by omega)
  walk_at "pyC"
  refine ⟨⟨_, _, insD_own hR.ins, by decide +kernel⟩, ?_⟩
  refine ⟨p, A, V, m, rfl, hR, hcur, ?_⟩
  refine wsh_go (wss_consH ?_)
  walk_at "pyC"
  refine x_meth0 hx h2 ?_ (by omega)
  walk_at "pyC"
  refine ⟨⟨_, _, insD_own hR.ins, by decide +kernel⟩, ?_⟩
  refine ⟨p, A, V, m, rfl, hR, by rw [hv]; simp, ?_⟩
  refine wsh_go (wss_consH ?_)
  walk_at "pyC"
  refine ⟨i, 1, rfl, hi, ?_⟩
  refine wsh_go (wss_consH ?_)
  refine x_setFld hx ?_
  walk_at "pyC"
  refine ⟨Cl, rcK, _, .own A.S, insD_own hR.ins, T.f1, fgR rfl, ?_⟩
  walk_at "pyC"
  have hst := hR.st
  rw [hv, List.map_append] at hst
  refine ix_o hst (at_last _ _) ?_
  have hf := hR.fr f (by rw [hv]; simp)
  refine ⟨f.a, Cf, frK, _, frK, [.int f.num, fmO f, .int i], rfl, hf, Tf.f3, by decide, .there (by decide +kernel) (.there (by decide +kernel) (.here _ _ _)), ?_⟩
  have hR2 := hR.line (i := i) hv
  have kp2 : ∀ q c, q ∉ [f.a, A.L] → C q = some c → DL.put C f.a (fmC Cf { f with ln := i }) q = some c := fun q c hq hc => by
    simp only [List.mem_cons, List.not_mem_nil, or_false, not_or] at hq
    rw [put_ne hq.1]; exact hc
  show WSh X _ _ (DL.put C f.a (fmC Cf { f with ln := i })) _
  generalize DL.put C f.a (fmC Cf { f with ln := i }) = C2 at hR2 kp2 ⊢
  refine wsh_go (wss_consH ?_)
  walk_at "pyC"
  refine x_meth hx h5 ?_ (by omega)
  walk_at "pyC"
  refine ⟨⟨_, _, insD_own hR2.ins, by decide +kernel⟩, ?_⟩
  walk_at "pyC"
  refine ⟨p, A, _, m, _, rfl, hR2, hm, fun C3 hR3 hk3 => ?_⟩
  refine wsh_go (wss_nil ?_)
  refine h C3 hR3 fun q c hq hc => ?_
  have h1 := kp2 q c hq hc
  simp only [List.mem_cons, List.not_mem_nil, or_false, not_or] at hq
  rw [hk3 q hq.2]; exact h1
end
end K31
namespace K31
section
variable {P : Program} {w : World} {K : PySem.W.Frag} {mg : Str → Option Value} {base : Heap} {Cl Cf Ct : Addr}
theorem cgt_filt {n : Int} : ∀ m : List (Nat × Int), ((cgtD m).filter fun d => match d with | .tup [_, .int i] => decide (i ≠ n) | _ => false).map id = cgtD (m.filter fun e => decide (e.2 ≠ n))
  | [] => rfl
  | e :: m => by
    have ih := cgt_filt (n := n) m
    unfold cgtD at ih ⊢
    rw [List.map_cons, List.filter_cons, List.filter_cons]
    show List.map id (if decide (e.2 ≠ n) = true then _ else _) = _
    split
    · rw [List.map_cons, List.map_cons, ih]; rfl
    · exact ih
theorem Rc.top {p k' t' : Addr} {A : RA} {V : RV} {m : Nat} {C C' : CS} {fs : List Fm} {f : Fm} {g : List (Nat × Int)} (h : Rc Cl Cf Ct p A V m C) (hv : V.frs = fs ++ [f]) (hk0 : C k' = none) (ht0 : C t' = none) (hkt : k' ≠ t') (hi : C' p = some (.ins Cl rcK (rcXs { A with K := k', T := t' } { V with frs := fs, cgt := g }))) (hs : C' A.S = some (.lst (fs.map fun f => .own f.a))) (hk : C' k' = some (.lst (cgtD g))) (ht : C' t' = some (.lst [])) (kp : ∀ q c, q ≠ p → q ≠ A.S → C q = some c → C' q = some c) : Rc Cl Cf Ct p { A with K := k', T := t' } { V with frs := fs, cgt := g } m C' := by
  have nk : ∀ {q Cx ks xs}, C q = some (.ins Cx ks xs) → ks ≠ rcK → q ≠ p := fun hq hne e => by
    rw [e, h.ins] at hq
    injection hq with hq
    injection hq with _ hq _
    exact hne hq.symm
  have nl : ∀ {q c}, C q = some c → (∀ l, c ≠ .lst l) → q ≠ A.S := fun hq hc e => by rw [e, h.st] at hq; cases hq; exact hc _ rfl
  have np : ∀ {q c}, C q = some c → (∀ a b d, c ≠ .ins a b d) → q ≠ p := fun hq hc e => by rw [e, h.ins] at hq; cases hq; exact hc _ _ _ rfl
  have kl : ∀ {q l}, C q = some (.lst l) → q ≠ A.S → C' q = some (.lst l) := fun hq hn => kp _ _ (np hq (fun _ _ _ e => by cases e)) hn hq
  have kd : ∀ {q l}, C q = some (.dic l) → C' q = some (.dic l) := fun hq => kp _ _ (np hq (fun _ _ _ e => by cases e)) (nl hq (fun _ e => by cases e)) hq
  have ki : ∀ {q Cx ks xs}, C q = some (.ins Cx ks xs) → ks ≠ rcK → C' q = some (.ins Cx ks xs) := fun hq hne => kp _ _ (nk hq hne) (nl hq (fun _ e => by cases e)) hq
  have ne0 : ∀ {q x c}, C q = some c → C x = none → q ≠ x := fun h1 h2 e => by rw [e, h2] at h1; cases h1
  have nd := h.nd
  rw [hv, List.map_append, List.nodup_append] at nd
  obtain ⟨ds, hds, hl⟩ := h.dn
  refine ⟨hi, hs, fun x hx => ki (h.fr x (by rw [hv]; exact List.mem_append_left _ hx)) (by decide +kernel), nd.1, kd h.fa, fun x hx => ?_, kd h.bd, hk, ht, ⟨ds, kl hds h.sl.symm, hl⟩, ne0 h.st hk0, ne0 h.st ht0, h.sl, hkt, (ne0 hds hk0).symm, (ne0 hds ht0).symm, h.fb, fun x hx => ?_, h.lf⟩
  · obtain ⟨q1, q2, q3⟩ := h.ft x hx
    have q4 := (h.fl x hx).2 A.S (by simp)
    exact ⟨ki q1 (by decide +kernel), kl q2 q4.1.symm, kl q3 q4.2.symm⟩
  · obtain ⟨q1, q2, q3⟩ := h.ft x hx
    refine ⟨(h.fl x hx).1, fun y hy => ?_⟩
    simp only [List.mem_cons, List.not_mem_nil, or_false] at hy
    rcases hy with rfl | rfl | rfl | rfl
    · exact (h.fl x hx).2 _ (by simp)
    · exact ⟨(ne0 q2 hk0).symm, (ne0 q3 hk0).symm⟩
    · exact ⟨(ne0 q2 ht0).symm, (ne0 q3 ht0).symm⟩
    · exact (h.fl x hx).2 _ (by simp)
def spTop (Cl Cf Ct : Addr) : DSp := fun ds C k => ∃ p A V m fs f, ds = [.own p] ∧ Rc Cl Cf Ct p A V m C ∧ V.frs = fs ++ [f] ∧ V.cgt.length ≤ 1000 ∧
  ∀ C' k' t', C k' = none → C t' = none → Rc Cl Cf Ct p { A with K := k', T := t' } { V with frs := fs, cgt := V.cgt.filter fun e => decide (e.2 ≠ f.num) } m C' → (∀ q c, q ∉ [p, A.S] → C q = some c → C' q = some c) → k .non C'
theorem ok_top {f : Addr} {fd : FuncData} (F : Fun K "remove_top" "Recorder.remove_top" s_Recorder_remove_top f fd) (T : Rcc K Cl) (Tf : Frc K Cf) : FnG P w K mg base CX0 2 f fd P_Recorder_remove_top (toSp K (spTop Cl Cf Ct)) := by
  refine fnX F sc_Recorder_remove_top v_Recorder_remove_top l_Recorder_remove_top g_Recorder_remove_top (fun ds C k h => by obtain ⟨_, _, _, _, _, _, rfl, _⟩ := h; rfl) fun X hB ds C k h => ?_
  obtain ⟨p, A, V, m, fs, f, rfl, hR, hv, hcl, h⟩ := h
  obtain ⟨hx, hn, hs, hg, hd, hnox⟩ := hB
  change WSs X _ [some (.own p), none, none, none, none] C _
  have hst := hR.st
  rw [hv, List.map_append] at hst
  have hf := hR.fr f (by rw [hv]; simp)
  refine wss_consH ?_
  refine ws_nm hs (by walk_at "nm") (by walk_at "nm") ?_
  refine x_pop0 ?_
  walk_at "pyC"
  refine ⟨Cl, rcK, _, .own A.S, insD_own hR.ins, T.f1, fgR rfl, ?_⟩
  refine ty_own hst ?_
  refine ⟨A.S, _, _, rfl, rfl, hst, ?_⟩
  have hpS := hR.pS
  have hfS : f.a ≠ A.S := fun e => by rw [e, hst] at hf; cases hf
  have hKS := hR.sk.symm
  have hf1 : DL.put C A.S (.lst (fs.map fun f => .own f.a)) f.a = some (fmC Cf f) := by rw [put_ne hfS]; exact hf
  have hi1 : DL.put C A.S (.lst (fs.map fun f => .own f.a)) p = some (.ins Cl rcK (rcXs A V)) := by rw [put_ne hpS]; exact hR.ins
  have hk1 : DL.put C A.S (.lst (fs.map fun f => .own f.a)) A.K = some (.lst (cgtD V.cgt)) := by rw [put_ne hKS]; exact hR.ca
  have ht1 : DL.put C A.S (.lst (fs.map fun f => .own f.a)) A.T = some (.lst []) := by rw [put_ne hR.sT.symm]; exact hR.ss
  have hs1 : DL.put C A.S (.lst (fs.map fun f => .own f.a)) A.S = some (.lst (fs.map fun f => .own f.a)) := put_same
  have ho1 : ∀ q, q ≠ A.S → DL.put C A.S (.lst (fs.map fun f => .own f.a)) q = C q := fun q hq => put_ne hq
  show WSh X _ [some (.own p), some (.own f.a), none, none, none] (DL.put C A.S (.lst (fs.map fun f => .own f.a))) _
  generalize DL.put C A.S (.lst (fs.map fun f => .own f.a)) = C1 at hf1 hi1 hk1 ht1 hs1 ho1 ⊢
  refine wsh_go (wss_consH ?_)
  refine x_setFld hx ?_
  refine lc2 ["number", "frame", "top"] [] hd (by walk_at "nm") (fun _ => by walk_at "nm") (by decide) (by decide +kernel) (by decide +kernel) (by decide +kernel) (by decide +kernel) (by decide +kernel) (wi_ls ?_)
  walk_at "pyC"
  refine ⟨Cl, rcK, _, .own A.K, insD_own hi1, T.f5, fgR rfl, ?_⟩
  refine ⟨_, seqR_own hk1, ?_⟩
  have hpair : ∀ d ∈ cgtD V.cgt, ∃ a b, d = .tup [a, b] := fun d hd => by
    obtain ⟨e, _, rfl⟩ := List.mem_map.mp hd
    exact ⟨_, _, rfl⟩
  refine ⟨hpair, LcB.filter (fun d => match d with | .tup [_, .int i] => decide (i ≠ f.num) | _ => false) id (fun z hz => by cases hz; exact hk1) (Nat.le_trans (by unfold cgtD; rw [List.length_map]; exact hcl) (by decide)) ?_ ?_ fun q hq => ?_⟩
  · intro d hdm X' hX hn' hg'
    have hx' := hx.blk hX
    obtain ⟨e, _, rfl⟩ := List.mem_map.mp hdm
    show WT X' _ [some (.own p), some (.own f.a), some (.int e.1), some (.int e.2), none] C1 _
    walk_at "pyC"
    refine ⟨Cf, frK, _, .int f.num, insD_own hf1, Tf.f1, .here _ _ _ _, ?_⟩
    refine ne_ii ?_
    refine ⟨_, rfl, ?_, rfl⟩
    show (!(e.2 == f.num)) = decide (e.2 ≠ f.num)
    by_cases h : e.2 = f.num <;> simp [h]
  · intro d hdm _ X' hX hn' hg'
    have hx' := hx.blk hX
    obtain ⟨e, _, rfl⟩ := List.mem_map.mp hdm
    show WE X' _ [some (.own p), some (.own f.a), some (.int e.1), some (.int e.2), none] C1 _
    walk_at "pyC"
    exact ⟨rfl, rfl⟩
  rw [cgt_filt]
  obtain ⟨g2, hg2⟩ : ∃ g2, g2 = V.cgt.filter fun e => decide (e.2 ≠ f.num) := ⟨_, rfl⟩
  rw [← hg2] at h ⊢
  have hqp : q ≠ p := fun e => by rw [e, hi1] at hq; cases hq
  have hqS : q ≠ A.S := fun e => by rw [e, hs1] at hq; cases hq
  have hq0 : C q = none := by rw [← ho1 q hqS]; exact hq
  have hpT : p ≠ A.T := fun e => by rw [e, ht1] at hi1; cases hi1
  have hqT : q ≠ A.T := fun e => by rw [e, ht1] at hq; cases hq
  walk_at "pyC"
  refine ⟨p, Cl, rcK, _, rcK, rcXs { A with K := q } { V with frs := fs, cgt := g2 }, rfl, by rw [put_ne hqp.symm]; exact hi1, T.f5, by decide, .there (by decide +kernel) (.there (by decide +kernel) (.there (by decide +kernel) (.there (by decide +kernel) (.here _ _ _)))), ?_⟩
  obtain ⟨C2, hC2⟩ : ∃ C2, C2 = DL.put (DL.put C1 q (.lst (cgtD g2))) p (.ins Cl rcK (rcXs { A with K := q } { V with frs := fs, cgt := g2 })) := ⟨_, rfl⟩
  have hp2 : C2 p = some (.ins Cl rcK (rcXs { A with K := q } { V with frs := fs, cgt := g2 })) := by rw [hC2]; exact put_same
  have hq2 : C2 q = some (.lst (cgtD g2)) := by rw [hC2, put_ne hqp]; exact put_same
  have ht2 : C2 A.T = some (.lst []) := by rw [hC2, put_ne hpT.symm, put_ne hqT.symm]; exact ht1
  have ho2 : ∀ x c, x ≠ p → C1 x = some c → C2 x = some c := fun x c hx hc => by rw [hC2, put_ne hx]; exact sub_new hq _ _ hc
  show WSh X _ [some (.own p), some (.own f.a), none, none, none] (DL.put (DL.put C1 q (.lst (cgtD g2))) p (.ins Cl rcK (rcXs { A with K := q } { V with frs := fs, cgt := g2 }))) _
  rw [← hC2]
  clear hC2
  refine wsh_go (wss_consH ?_)
  refine x_setFld hx ?_
  refine lc1 ["star", "top"] [] hd (by walk_at "nm") (by decide +kernel) (by decide +kernel) (by decide +kernel) (by decide +kernel) (wi_ls ?_)
  walk_at "pyC"
  refine ⟨Cl, rcK, _, .own A.T, insD_own hp2, T.f7, fgR (A := { A with K := q }) (V := { V with frs := fs, cgt := g2 }) rfl, ?_⟩
  refine ⟨_, seqR_own ht2, LcB.filter (fun _ => true) id (fun z hz => by cases hz; exact ht2) (by decide) (fun d hd => by simp at hd) (fun d hd => by simp at hd) fun t ht => ?_⟩
  have htp : t ≠ p := fun e => by rw [e, hp2] at ht; cases ht
  have htq : t ≠ q := fun e => by rw [e, hq2] at ht; cases ht
  have hfrs : ∀ x, C x = some (.lst []) → True := fun _ _ => trivial
  have ht0 : C t = none := by
    by_cases hx : t = A.S
    · have := ho2 _ _ hpS.symm hs1
      rw [← hx, ht] at this; cases this
    · rw [← ho1 t hx]
      cases hc : C1 t with
      | none => rfl
      | some c => have := ho2 _ _ htp hc; rw [ht] at this; cases this
  walk_at "pyC"
  refine ⟨p, Cl, rcK, _, rcK, rcXs { A with K := q, T := t } { V with frs := fs, cgt := g2 }, rfl, by rw [put_ne htp.symm]; exact hp2, T.f7, by decide, .there (by decide +kernel) (.there (by decide +kernel) (.there (by decide +kernel) (.there (by decide +kernel) (.there (by decide +kernel) (.there (by decide +kernel) (.here _ _ _)))))), ?_⟩
  have kp3 : ∀ x c, x ∉ [p, A.S] → C x = some c → DL.put (DL.put C2 t (.lst (([] : List D).map id))) p (.ins Cl rcK (rcXs { A with K := q, T := t } { V with frs := fs, cgt := g2 })) x = some c := fun x c hx hc => by
    simp only [List.mem_cons, List.not_mem_nil, or_false, not_or] at hx
    rw [put_ne hx.1]
    exact sub_new ht _ _ (ho2 _ _ hx.1 ((ho1 _ hx.2).trans hc))
  refine wsh_go (wss_nil ?_)
  refine h _ q t hq0 ht0 (hR.top hv hq0 ht0 htq.symm put_same ?_ ?_ ?_ fun x c h1 h2 hc => kp3 x c (by simp [h1, h2]) hc) kp3
  · rw [put_ne hpS.symm]
    exact sub_new ht _ _ (ho2 _ _ hpS.symm hs1)
  · rw [put_ne hqp]
    exact sub_new ht _ _ hq2
  · rw [put_ne htp]
    exact put_same
end
end K31
namespace K31
section
variable {P : Program} {w : World} {K : PySem.W.Frag} {mg : Str → Option Value} {base : Heap} {Cl Cf Ct : Addr}
def spLeave (Cl Cf Ct : Addr) : DSp := fun ds C k => ∃ p A V m fs f, ds = [.own p] ∧ Rc Cl Cf Ct p A V m C ∧ m < 100000 ∧ V.cur = none ∧ V.frs = fs ++ [f] ∧ V.cgt.length ≤ 1000 ∧
  ∀ C' k' t', C k' = none → C t' = none → Rc Cl Cf Ct p { A with K := k', T := t' } { V with frs := fs, cgt := V.cgt.filter fun e => decide (e.2 ≠ f.num) } (m + 1) C' → (∀ q c, q ∉ [p, A.S, A.L] → C q = some c → C' q = some c) → k .non C'
theorem ok_leave {f : Addr} {fd : FuncData} (F : Fun K "leave" "Recorder.leave" s_Recorder_leave f fd) (h1 : MthC P w K mg base Cl "look_calm" 1 [] (spCalm Cl Cf Ct)) (h2 : MthC P w K mg base Cl "look_frame" 1 [] (spLookFr Cl Cf Ct)) (h3 : MthC P w K mg base Cl "remove_top" 2 [] (spTop Cl Cf Ct)) (h5 : MthC P w K mg base Cl "keep" 1 [] (spKeep Cl Cf Ct)) : FnG P w K mg base CX0 3 f fd P_Recorder_leave (toSp K (spLeave Cl Cf Ct)) := by
  refine fnX F sc_Recorder_leave v_Recorder_leave l_Recorder_leave g_Recorder_leave (fun ds C k h => by obtain ⟨_, _, _, _, _, _, rfl, _⟩ := h; rfl) fun X hB ds C k h => ?_
  obtain ⟨p, A, V, m, fs, f, rfl, hR, hm, hcur, hv, hcl, h⟩ := h
  obtain ⟨hx, hn, hs, hg, hd, hnox⟩ := hB
  change WSs X _ [some (.own p)] C _
  refine wss_consH ?_
  walk_at "pyC"
  refine x_meth0 hx h1 ?_ (by omega)
  walk_at "pyC"
  refine ⟨⟨_, _, insD_own hR.ins, by decide +kernel⟩, ?_⟩
  refine ⟨p, A, V, m, rfl, hR, hcur, ?_⟩
  refine wsh_go (wss_consH ?_)
  walk_at "pyC"
  refine x_meth0 hx h2 ?_ (by omega)
  walk_at "pyC"
  refine ⟨⟨_, _, insD_own hR.ins, by decide +kernel⟩, ?_⟩
  refine ⟨p, A, V, m, rfl, hR, by rw [hv]; simp, ?_⟩
  refine wsh_go (wss_consH ?_)
  walk_at "pyC"
  refine x_meth0 hx h3 ?_ (by omega)
  walk_at "pyC"
  refine ⟨⟨_, _, insD_own hR.ins, by decide +kernel⟩, ?_⟩
  refine ⟨p, A, V, m, fs, f, rfl, hR, hv, hcl, fun C2 k' t' hk0 ht0 hR2 hk2 => ?_⟩
  refine wsh_go (wss_consH ?_)
  walk_at "pyC"
  refine x_meth hx h5 ?_ (by omega)
  walk_at "pyC"
  refine ⟨⟨_, _, insD_own hR2.ins, by decide +kernel⟩, ?_⟩
  walk_at "pyC"
  refine ⟨p, _, _, m, _, rfl, hR2, hm, fun C3 hR3 hk3 => ?_⟩
  refine wsh_go (wss_nil ?_)
  refine h C3 k' t' hk0 ht0 hR3 fun q c hq hc => ?_
  simp only [List.mem_cons, List.not_mem_nil, or_false, not_or] at hq
  rw [hk3 q hq.2.2]
  exact hk2 q c (by simp [hq.1, hq.2.1]) hc
/-- a frame by its place -/
def fmAt (frs : List Fm) (a : Addr) : D := ((frs.find? fun f => decide (f.a = a)).map fmT).getD .non
def fmG (frs : List Fm) : D → D
  | .own a => fmAt frs a
  | _ => .non
theorem fmAt_of : ∀ {frs : List Fm} {f : Fm}, (frs.map (·.a)).Nodup → f ∈ frs → fmAt frs f.a = fmT f
  | g :: frs, f, hn, hf => by
    rw [List.map_cons, List.nodup_cons] at hn
    unfold fmAt
    rw [List.find?_cons]
    rcases List.mem_cons.mp hf with rfl | hf
    · simp
    · have hne : g.a ≠ f.a := fun e => hn.1 (by rw [e]; exact List.mem_map_of_mem hf)
      rw [decide_eq_false hne]
      exact fmAt_of (frs := frs) hn.2 hf
theorem fmG_of {frs : List Fm} {f : Fm} (hn : (frs.map (·.a)).Nodup) (hf : f ∈ frs) : fmG frs (.own f.a) = fmT f := fmAt_of hn hf
def spFrames (Cl Cf Ct : Addr) : DSp := fun ds C k => ∃ p A V m, ds = [.own p] ∧ Rc Cl Cf Ct p A V m C ∧ V.frs.length ≤ 1000 ∧ ∀ q, C q = none → k (.own q) (DL.put C q (.lst (V.frs.map fmT)))
theorem ok_frames {f : Addr} {fd : FuncData} (F : Fun K "frames" "Recorder.frames" s_Recorder_frames f fd) (T : Rcc K Cl) (h1 : MthC P w K mg base Cf "as_tuple" 1 [] (spFrT Cf)) : FnG P w K mg base CX0 2 f fd P_Recorder_frames (toSp K (spFrames Cl Cf Ct)) := by
  refine fnX F sc_Recorder_frames v_Recorder_frames l_Recorder_frames g_Recorder_frames (fun ds C k h => by obtain ⟨_, _, _, _, rfl, _⟩ := h; rfl) fun X hB ds C k h => ?_
  obtain ⟨p, A, V, m, rfl, hR, hl, h⟩ := h
  obtain ⟨hx, hn, hs, hg, hd, hnox⟩ := hB
  change WSs X _ [some (.own p), none] C _
  have e1 : (V.frs.map fun f => D.own f.a).map (fmG V.frs) = V.frs.map fmT := by
    rw [List.map_map]
    exact List.map_congr_left fun f hf => fmG_of hR.nd hf
  refine wss_cons ?_
  refine ws_ret ?_
  refine lc1 ["frame"] [] hd (by walk_at "nm") (by decide +kernel) (by decide +kernel) (by decide +kernel) (by decide +kernel) (wi_ls ?_)
  walk_at "pyC"
  refine ⟨Cl, rcK, _, .own A.S, insD_own hR.ins, T.f1, fgR rfl, ?_⟩
  refine ⟨_, seqR_own hR.st, LcB.map (fmG V.frs) (fun z hz => by cases hz; exact hR.st) (Nat.le_trans (by rw [List.length_map]; exact hl) (by decide)) ?_ fun q hq => ?_⟩
  · intro d hdm X' hX hn' hg'
    have hx' := hx.blk hX
    obtain ⟨g, hgm, rfl⟩ := List.mem_map.mp hdm
    walk_at "pyC"
    refine x_meth0 hx' h1 ?_ (by omega)
    walk_at "pyC"
    refine ⟨⟨_, _, insD_own (hR.fr g hgm), by decide +kernel⟩, ?_⟩
    exact ⟨g, rfl, hR.fr g hgm, (fmG_of hR.nd hgm).symm, rfl⟩
  · rw [e1]
    exact h q hq
end
end K31
namespace K31
section
variable {P : Program} {w : World} {K : PySem.W.Frag} {mg : Str → Option Value} {base : Heap} {Cl Cf Ct : Addr}
/-! errors -/
structure Ftc (K : PySem.W.Frag) (Ct : Addr) : Prop where
  f1 : FldC K Ct "kind"
  f2 : FldC K Ct "message"
  f3 : FldC K Ct "said"
  f4 : FldC K Ct "passed"
  f5 : FldC K Ct "group"
  f6 : FldC K Ct "tie"
  f7 : FldC K Ct "is_alone"
def spFtI (Ct : Addr) : DSp := fun ds C k => ∃ p kd ms, ds = [.own p, .str kd, .str ms, .non] ∧ C p = some (.ins Ct [] []) ∧
  ∀ C' sa pa, C sa = none → C pa = none → sa ≠ pa → sa ≠ p → pa ≠ p → C' p = some (ftC Ct ⟨p, kd, ms, sa, [], pa, [], none, false⟩) → C' sa = some (.lst []) → C' pa = some (.lst []) → (∀ q c, q ≠ p → C q = some c → C' q = some c) → k .non C'
theorem ok_ftInit {f : Addr} {fd : FuncData} (F : Fun K "__init__" "Fault.__init__" s_Fault___init__ f fd) (T : Ftc K Ct) : FnG P w K mg base CX0 1 f fd P_Fault___init__ (toSp K (spFtI Ct)) := by
  refine fnX F sc_Fault___init__ v_Fault___init__ l_Fault___init__ g_Fault___init__ (fun ds C k h => by obtain ⟨_, _, _, rfl, _⟩ := h; rfl) fun X hB ds C k h => ?_
  obtain ⟨p, kd, ms, rfl, hp, h⟩ := h
  obtain ⟨hx, hn, hs, hg, hd, hnox⟩ := hB
  change WSs X _ [some (.own p), some (.str kd), some (.str ms), some .non] C _
  have i0 : Ini Ct p C C [] [] [] := ⟨hp, fun _ h => by simp at h, fun _ h => by simp at h, .nil, fun _ _ _ h => h⟩
  refine wss_cons ?_
  walk_at "pyC"
  refine ⟨p, Ct, _, _, _, _, rfl, i0.ins, T.f1, by decide, fp_app rfl (by decide +kernel), ?_⟩
  have i1 := i0.set (ks' := ["kind"]) (xs' := [.str kd])
  simp only [List.nil_append]
  generalize DL.put C p _ = C1 at i1 ⊢
  walk_at "pyC"
  refine ⟨p, Ct, _, _, _, _, rfl, i1.ins, T.f2, by decide, fp_app rfl (by decide +kernel), ?_⟩
  have i2 := i1.set (ks' := ["kind", "message"]) (xs' := [.str kd, .str ms])
  simp only [List.cons_append, List.nil_append]
  generalize DL.put C1 p _ = C2 at i2 ⊢
  walk_at "pyC"
  refine we_nil fun sa hsa => ?_
  have i3 := i2.new (c := .lst []) hsa
  generalize DL.put C2 sa (.lst []) = C3 at i3 ⊢
  walk_at "pyC"
  refine ⟨p, Ct, _, _, _, _, rfl, i3.ins, T.f3, by decide, fp_app rfl (by decide +kernel), ?_⟩
  have i4 := i3.set (ks' := ["kind", "message", "said"]) (xs' := [.str kd, .str ms, .own sa])
  simp only [List.cons_append, List.nil_append]
  generalize DL.put C3 p _ = C4 at i4 ⊢
  walk_at "pyC"
  refine we_nil fun pa hpa => ?_
  have i5 := i4.new (c := .lst []) hpa
  generalize DL.put C4 pa (.lst []) = C5 at i5 ⊢
  walk_at "pyC"
  refine ⟨p, Ct, _, _, _, _, rfl, i5.ins, T.f4, by decide, fp_app rfl (by decide +kernel), ?_⟩
  have i6 := i5.set (ks' := ["kind", "message", "said", "passed"]) (xs' := [.str kd, .str ms, .own sa, .own pa])
  simp only [List.cons_append, List.nil_append]
  generalize DL.put C5 p _ = C6 at i6 ⊢
  walk_at "pyC"
  refine ⟨p, Ct, _, _, _, _, rfl, i6.ins, T.f5, by decide, fp_app rfl (by decide +kernel), ?_⟩
  have i7 := i6.set (ks' := ["kind", "message", "said", "passed", "group"]) (xs' := [.str kd, .str ms, .own sa, .own pa, .non])
  simp only [List.cons_append, List.nil_append]
  generalize DL.put C6 p _ = C7 at i7 ⊢
  walk_at "pyC"
  refine ⟨p, Ct, _, _, _, _, rfl, i7.ins, T.f6, by decide, fp_app rfl (by decide +kernel), ?_⟩
  have i8 := i7.set (ks' := ["kind", "message", "said", "passed", "group", "tie"]) (xs' := [.str kd, .str ms, .own sa, .own pa, .non, .non])
  simp only [List.cons_append, List.nil_append]
  generalize DL.put C7 p _ = C8 at i8 ⊢
  walk_at "pyC"
  refine ⟨p, Ct, _, _, _, _, rfl, i8.ins, T.f7, by decide, fp_app rfl (by decide +kernel), ?_⟩
  have i9 := i8.set (ks' := ftK) (xs' := [.str kd, .str ms, .own sa, .own pa, .non, .non, .bl false])
  simp only [List.cons_append, List.nil_append]
  generalize DL.put C8 p _ = C9 at i9 ⊢
  clear i0 i1 i2 i3 i4 i5 i6 i7 i8
  walk_at "pyC"
  have nd := i9.nd
  simp only [List.nil_append, List.cons_append, List.map_cons, List.map_nil, List.nodup_cons, List.mem_cons, List.not_mem_nil, or_false, not_false_eq_true, List.nodup_nil, and_true] at nd
  have nw := i9.nw
  exact h C9 sa pa (nw (sa, .lst []) (by simp)).1 (nw (pa, .lst []) (by simp)).1 nd (nw (sa, .lst []) (by simp)).2 (nw (pa, .lst []) (by simp)).2 i9.ins (i9.cl (sa, .lst []) (by simp)) (i9.cl (pa, .lst []) (by simp)) i9.kp
theorem fgX {f : Str} {d : D} : ∀ {ks : List Str} {xs : List D}, ks.length = xs.length → (ks.zip xs).lookup f = some d → FGet ks xs f d
  | [], _, _, h => by simp at h
  | k :: ks, [], hl, _ => by simp at hl
  | k :: ks, x :: xs, hl, h => by
    rw [List.zip_cons_cons, List.lookup_cons] at h
    cases hk : f == k with
    | true =>
      rw [hk] at h
      cases h
      have : f = k := by simpa using hk
      subst this
      exact .here _ _ _ _
    | false =>
      rw [hk] at h
      exact .there hk (fgX (by simpa using hl) h)
/-- the error as an entry -/
def spEnt (Ct : Addr) : DSp := fun ds C k => ∃ f : Ft, ds = [.own f.a] ∧ C f.a = some (ftC Ct f) ∧ C f.sa = some (.lst (f.sd.map D.str)) ∧ C f.pa = some (.lst f.ps) ∧ k (.tup [.str f.kd, .str f.ms, .tup (f.sd.map D.str), .tup f.ps, .non, tiD f.ti]) C
theorem ok_ftEnt {f : Addr} {fd : FuncData} (F : Fun K "entry" "Fault.entry" s_Fault_entry f fd) (T : Ftc K Ct) (Z : Zs mg) : FnG P w K mg base CX0 1 f fd P_Fault_entry (toSp K (spEnt Ct)) := by
  refine fnX F sc_Fault_entry v_Fault_entry l_Fault_entry g_Fault_entry (fun ds C k h => by obtain ⟨_, rfl, _⟩ := h; rfl) fun X hB ds C k h => ?_
  obtain ⟨f, rfl, hf, hsa, hpa, h⟩ := h
  obtain ⟨hx, hn, hs, hg, hd, hnox⟩ := hB
  change WSs X _ [some (.own f.a), none] C _
  refine wss_cons ?_
  walk_at "pyC"
  refine ⟨Ct, ftK, _, .non, insD_own hf, T.f5, fgX rfl rfl, ?_⟩
  walk_at "pyC"
  all_goals try walk_at "bad"
  refine ⟨Ct, ftK, _, .str f.kd, insD_own hf, T.f1, fgX rfl rfl, ?_⟩
  walk_at "pyC"
  refine ⟨Ct, ftK, _, .str f.ms, insD_own hf, T.f2, fgX rfl rfl, ?_⟩
  walk_at "pyC"
  refine ⟨Ct, ftK, _, .own f.sa, insD_own hf, T.f3, fgX rfl rfl, ?_⟩
  walk_at "pyC"
  refine tup_o hsa ?_
  walk_at "pyC"
  refine ⟨Ct, ftK, _, .own f.pa, insD_own hf, T.f4, fgX rfl rfl, ?_⟩
  walk_at "pyC"
  refine tup_o hpa ?_
  walk_at "pyC"
  refine ⟨Ct, ftK, _, tiD f.ti, insD_own hf, T.f6, fgX rfl rfl, ?_⟩
  walk_at "pyC"
  exact h
end
end K31
namespace K31
section
variable {P : Program} {w : World} {K : PySem.W.Frag} {mg : Str → Option Value} {base : Heap} {Cl Cf Ct : Addr}
def spIsTxt : DSp := fun ds C k => ∃ z, ds = [.str z] ∧ k (.bl true) C
theorem ok_isTxt {f : Addr} {fd : FuncData} (F : Fun K "is_text" "is_text" s_is_text f fd) (Z : Zs mg) : FnG P w K mg base CX0 1 f fd P_is_text (toSp K spIsTxt) := by
  refine fnX F sc_is_text v_is_text l_is_text g_is_text (fun ds C k h => by obtain ⟨_, rfl, _⟩ := h; rfl) fun X hB ds C k h => ?_
  obtain ⟨z, rfl, h⟩ := h
  obtain ⟨hx, hn, hs, hg, hd, hnox⟩ := hB
  change WSs X _ [some (.str z)] C _
  refine wss_cons ?_
  walk_at "pyC"
  exact h
def spLkT : DSp := fun ds C k => ∃ z, ds = [.str z] ∧ k .non C
theorem ok_lkText {f : Addr} {fd : FuncData} (F : Fun K "look_text" "look_text" s_look_text f fd) (h1 : FnC P w K mg base "is_text" 1 spIsTxt) : FnG P w K mg base CX0 2 f fd P_look_text (toSp K spLkT) := by
  refine fnX F sc_look_text v_look_text l_look_text g_look_text (fun ds C k h => by obtain ⟨_, rfl, _⟩ := h; rfl) fun X hB ds C k h => ?_
  obtain ⟨z, rfl, h⟩ := h
  obtain ⟨hx, hn, hs, hg, hd, hnox⟩ := hB
  change WSs X _ [some (.str z)] C _
  refine wss_cons ?_
  walk_at "pyC"
  refine ⟨z, rfl, ?_⟩
  walk_at "pyC"
  all_goals try walk_at "bad"
  exact h
def spLkThrow (Cl Cf Ct : Addr) : DSp := fun ds C k => ∃ p A V m kd ms, ds = [.own p, .str kd, .str ms] ∧ Rc Cl Cf Ct p A V m C ∧ V.cur = none ∧ V.frs ≠ [] ∧ Ob (.str kd) ∧ isNm (.str kd) = true ∧ k .non C
theorem ok_lkThrow {f : Addr} {fd : FuncData} (F : Fun K "look_throw" "Recorder.look_throw" s_Recorder_look_throw f fd) (h1 : MthC P w K mg base Cl "look_calm" 1 [] (spCalm Cl Cf Ct)) (h2 : MthC P w K mg base Cl "look_frame" 1 [] (spLookFr Cl Cf Ct)) (h3 : FnC P w K mg base "look_name" 2 spLkN) (h4 : FnC P w K mg base "look_text" 2 spLkT) : FnG P w K mg base CX0 3 f fd P_Recorder_look_throw (toSp K (spLkThrow Cl Cf Ct)) := by
  refine fnX F sc_Recorder_look_throw v_Recorder_look_throw l_Recorder_look_throw g_Recorder_look_throw (fun ds C k h => by obtain ⟨_, _, _, _, _, _, rfl, _⟩ := h; rfl) fun X hB ds C k h => ?_
  obtain ⟨p, A, V, m, kd, ms, rfl, hR, hcur, hfr, hO, hN, h⟩ := h
  obtain ⟨hx, hn, hs, hg, hd, hnox⟩ := hB
  change WSs X _ [some (.own p), some (.str kd), some (.str ms)] C _
  refine wss_consH ?_
  walk_at "pyC"
  refine x_meth0 hx h1 ?_ (by omega)
  walk_at "pyC"
  refine ⟨⟨_, _, insD_own hR.ins, by decide +kernel⟩, ?_⟩
  refine ⟨p, A, V, m, rfl, hR, hcur, ?_⟩
  refine wsh_go (wss_consH ?_)
  walk_at "pyC"
  refine x_meth0 hx h2 ?_ (by omega)
  walk_at "pyC"
  refine ⟨⟨_, _, insD_own hR.ins, by decide +kernel⟩, ?_⟩
  refine ⟨p, A, V, m, rfl, hR, hfr, ?_⟩
  refine wsh_go (wss_consH ?_)
  walk_at "pyC"
  refine ⟨kd, rfl, hO, hN, ?_⟩
  refine wsh_go (wss_consH ?_)
  walk_at "pyC"
  refine ⟨ms, rfl, ?_⟩
  refine wsh_go (wss_nil ?_)
  exact h
def spCause0 : DSp := fun ds C k => ∃ p, ds = [.own p, .non] ∧ k .non C
theorem ok_cause0 {f : Addr} {fd : FuncData} (F : Fun K "cause_of" "Recorder.cause_of" s_Recorder_cause_of f fd) : FnG P w K mg base CX0 1 f fd P_Recorder_cause_of (toSp K spCause0) := by
  refine fnX F sc_Recorder_cause_of v_Recorder_cause_of l_Recorder_cause_of g_Recorder_cause_of (fun ds C k h => by obtain ⟨_, rfl, _⟩ := h; rfl) fun X hB ds C k h => ?_
  obtain ⟨p, rfl, h⟩ := h
  obtain ⟨hx, hn, hs, hg, hd, hnox⟩ := hB
  change WSs X _ [some (.own p), some .non] C _
  refine wss_cons ?_
  refine ws_ret (we_if ?_)
  walk_at "pyC"
  all_goals try walk_at "bad"
  exact h
end
end K31
namespace K31
section
variable {P : Program} {w : World} {K : PySem.W.Frag} {mg : Str → Option Value} {base : Heap} {Cl Cf Ct : Addr}
theorem ftD_len : ∀ (i : Nat) (fs : List Ft), (ftD i fs).length = fs.length
  | _, [] => rfl
  | i, f :: fs => by rw [ftD, List.length_cons, ftD_len, List.length_cons]
theorem ftD_key : ∀ {i : Nat} {fs : List Ft} {e : Key × D}, e ∈ ftD i fs → ∃ j : Nat, i ≤ j ∧ j < i + fs.length ∧ e.1 = Sum.inl (j : Int)
  | i, [], e, h => by simp [ftD] at h
  | i, f :: fs, e, h => by
    rw [ftD] at h
    rcases List.mem_cons.mp h with rfl | h
    · exact ⟨i, Nat.le_refl _, by rw [List.length_cons]; omega, rfl⟩
    · obtain ⟨j, h1, h2, h3⟩ := ftD_key h
      exact ⟨j, by omega, by rw [List.length_cons]; omega, h3⟩
theorem ftD_app : ∀ (i : Nat) (fs : List Ft) (f : Ft), ftD i (fs ++ [f]) = ftD i fs ++ [(Sum.inl ((i + fs.length : Nat) : Int), .own f.a)]
  | i, [], f => rfl
  | i, g :: fs, f => by
    rw [List.cons_append, ftD, ftD_app, ftD, List.cons_append, List.length_cons]
    rw [show i + 1 + fs.length = i + (fs.length + 1) by omega]
theorem ftD_put (fs : List Ft) (f : Ft) : putD (ftD 0 fs) (Sum.inl ((fs.length : Nat) : Int)) (.own f.a) = ftD 0 (fs ++ [f]) := by
  rw [ftD_app, Nat.zero_add]
  unfold putD
  rw [if_neg]
  rintro h
  obtain ⟨e, he, hd⟩ := List.any_eq_true.mp h
  obtain ⟨j, _, h2, h3⟩ := ftD_key he
  have := of_decide_eq_true hd
  rw [h3] at this
  have := Sum.inl.inj this
  omega
/-- one error more -/
theorem Rc.made {p : Addr} {A : RA} {V : RV} {m : Nat} {C : CS} {f : Ft} (h : Rc Cl Cf Ct p A V m C) (h1 : C f.a = some (ftC Ct f)) (h2 : C f.sa = some (.lst (f.sd.map D.str))) (h3 : C f.pa = some (.lst f.ps)) (h4 : f.sa ≠ f.pa) (h5 : ∀ q ∈ [A.S, A.K, A.T, A.L], q ≠ f.sa ∧ q ≠ f.pa) (h6 : ∀ g ∈ V.fts, g.a ≠ f.a ∧ g.sa ≠ f.sa ∧ g.sa ≠ f.pa ∧ g.pa ≠ f.sa ∧ g.pa ≠ f.pa) : Rc Cl Cf Ct p A { V with fts := V.fts ++ [f] } m (DL.put C A.F (.dic (ftD 0 (V.fts ++ [f])))) := by
  have nd : ∀ {q c}, C q = some c → (∀ l, c ≠ .dic l) → q ≠ A.F := fun hq hc e => by rw [e, h.fa] at hq; cases hq; exact hc _ rfl
  have ki : ∀ {q a b d}, C q = some (.ins a b d) → DL.put C A.F (.dic (ftD 0 (V.fts ++ [f]))) q = some (.ins a b d) := fun hq => by rw [put_ne (nd hq (fun _ e => by cases e))]; exact hq
  have kl : ∀ {q l}, C q = some (.lst l) → DL.put C A.F (.dic (ftD 0 (V.fts ++ [f]))) q = some (.lst l) := fun hq => by rw [put_ne (nd hq (fun _ e => by cases e))]; exact hq
  obtain ⟨ds, hds, hl⟩ := h.dn
  refine ⟨ki h.ins, kl h.st, fun g hg => ki (h.fr g hg), h.nd, put_same, fun g hg => ?_, by rw [put_ne h.fb.symm]; exact h.bd, kl h.ca, kl h.ss, ⟨ds, kl hds, hl⟩, h.sk, h.sT, h.sl, h.kt, h.kl, h.tl, h.fb, fun g hg => ?_, List.pairwise_append.mpr ⟨h.lf, List.pairwise_singleton _ _, fun g hg b hb => by rw [List.mem_singleton.mp hb]; exact h6 g hg⟩⟩
  · rcases List.mem_append.mp hg with hg | hg
    · obtain ⟨q1, q2, q3⟩ := h.ft g hg
      exact ⟨ki q1, kl q2, kl q3⟩
    · rw [List.mem_singleton.mp hg]; exact ⟨ki h1, kl h2, kl h3⟩
  · rcases List.mem_append.mp hg with hg | hg
    · exact h.fl g hg
    · rw [List.mem_singleton.mp hg]; exact ⟨h4, h5⟩
def spMade (Cl Cf Ct : Addr) : DSp := fun ds C k => ∃ p A V m, ∃ f : Ft, ds = [.own p, .own f.a] ∧ Rc Cl Cf Ct p A V m C ∧ V.fts.length < 60 ∧ C f.a = some (ftC Ct f) ∧ C f.sa = some (.lst (f.sd.map D.str)) ∧ C f.pa = some (.lst f.ps) ∧ f.sa ≠ f.pa ∧ (∀ q ∈ [A.S, A.K, A.T, A.L], q ≠ f.sa ∧ q ≠ f.pa) ∧ (∀ g ∈ V.fts, g.a ≠ f.a ∧ g.sa ≠ f.sa ∧ g.sa ≠ f.pa ∧ g.pa ≠ f.sa ∧ g.pa ≠ f.pa) ∧
  ∀ C', Rc Cl Cf Ct p A { V with fts := V.fts ++ [f] } m C' → (∀ q, q ≠ A.F → C' q = C q) → k (.int (V.fts.length : Nat)) C'
theorem ok_made {f : Addr} {fd : FuncData} (F : Fun K "made" "Recorder.made" s_Recorder_made f fd) (T : Rcc K Cl) (Z : Zs mg) (g1 : MgK K mg "MOST_ERRORS_recorder" (.int 60)) : FnG P w K mg base CX0 1 f fd P_Recorder_made (toSp K (spMade Cl Cf Ct)) := by
  refine fnX F sc_Recorder_made v_Recorder_made l_Recorder_made g_Recorder_made (fun ds C k h => by obtain ⟨_, _, _, _, _, rfl, _⟩ := h; rfl) fun X hB ds C k h => ?_
  obtain ⟨p, A, V, m, f, rfl, hR, hl, h1, h2, h3, h4, h5, h6, h⟩ := h
  obtain ⟨hx, hn, hs, hg, hd, hnox⟩ := hB
  change WSs X _ [some (.own p), some (.own f.a), none] C _
  refine wss_consH ?_
  walk_at "pyC"
  refine ⟨Cl, rcK, _, .own A.F, insD_own hR.ins, T.f3, fgR rfl, ?_⟩
  walk_at "pyC"
  refine lenX_ok hR.fa ?_
  rw [ftD_len]
  walk_at "pyC"
  · rename_i q5
    exfalso
    have : ((V.fts.length : Nat) : Int) = 60 := by simpa using q5
    omega
  refine wsh_go (wss_consH ?_)
  walk_at "pyC"
  refine ⟨Cl, rcK, _, .own A.F, insD_own hR.ins, T.f3, fgR rfl, ?_⟩
  walk_at "pyC"
  refine lenX_ok hR.fa ?_
  rw [ftD_len]
  walk_at "pyC"
  refine wsh_go (wss_consH ?_)
  walk_at "pyC"
  refine ⟨Cl, rcK, _, .own A.F, insD_own hR.ins, T.f3, fgR rfl, ?_⟩
  walk_at "pyC"
  refine .inr ⟨A.F, _, Sum.inl ((V.fts.length : Nat) : Int), rfl, rfl, hR.fa, ?_, ?_⟩
  · rw [ftD_len]; exact Nat.lt_of_lt_of_le (by omega : V.fts.length < 1000) (by decide)
  rw [ftD_put]
  have hR2 := hR.made h1 h2 h3 h4 h5 h6
  have kp2 : ∀ q, q ≠ A.F → DL.put C A.F (.dic (ftD 0 (V.fts ++ [f]))) q = C q := fun q hq => put_ne hq
  refine wsh_go (wss_consH ?_)
  walk_at "pyC"
  exact h _ hR2 kp2
end
end K31
namespace K31
section
variable {P : Program} {w : World} {K : PySem.W.Frag} {mg : Str → Option Value} {base : Heap} {Cl Cf Ct : Addr}
def spNames0 (Cl Cf Ct : Addr) : DSp := fun ds C k => ∃ p A V m, ds = [.own p] ∧ Rc Cl Cf Ct p A V m C ∧ V.bnd = [] ∧ ∀ q, C q = none → k (.own q) (DL.put C q (.lst []))
theorem ok_names0 {f : Addr} {fd : FuncData} (F : Fun K "names" "Recorder.names" s_Recorder_names f fd) (T : Rcc K Cl) (Z : Zs mg) : FnG P w K mg base CX0 1 f fd P_Recorder_names (toSp K (spNames0 Cl Cf Ct)) := by
  refine fnX F sc_Recorder_names v_Recorder_names l_Recorder_names g_Recorder_names (fun ds C k h => by obtain ⟨_, _, _, _, rfl, _⟩ := h; rfl) fun X hB ds C k h => ?_
  obtain ⟨p, A, V, m, rfl, hR, hb, h⟩ := h
  obtain ⟨hx, hn, hs, hg, hd, hnox⟩ := hB
  change WSs X _ [some (.own p)] C _
  have hbd := hR.bd
  rw [hb] at hbd
  refine wss_cons ?_
  walk_at "pyC"
  refine ⟨Cl, rcK, _, .own A.B, insD_own hR.ins, T.f4, fgR rfl, ?_⟩
  walk_at "pyC"
  refine ⟨A.B, _, [], rfl, hbd, rfl, by decide, fun ys q hp1 hs1 hq => ?_⟩
  obtain rfl : ys = [] := List.Perm.eq_nil hp1
  walk_at "pyC"
  exact h q hq
def spHandled0 (Cl Cf Ct : Addr) : DSp := fun ds C k => ∃ p A V m, ds = [.own p] ∧ Rc Cl Cf Ct p A V m C ∧ V.cgt = [] ∧ ∀ q, C q = none → k (.own q) (DL.put C q (.lst []))
theorem ok_handled0 {f : Addr} {fd : FuncData} (F : Fun K "handled" "Recorder.handled" s_Recorder_handled f fd) (T : Rcc K Cl) : FnG P w K mg base CX0 1 f fd P_Recorder_handled (toSp K (spHandled0 Cl Cf Ct)) := by
  refine fnX F sc_Recorder_handled v_Recorder_handled l_Recorder_handled g_Recorder_handled (fun ds C k h => by obtain ⟨_, _, _, _, rfl, _⟩ := h; rfl) fun X hB ds C k h => ?_
  obtain ⟨p, A, V, m, rfl, hR, hc, h⟩ := h
  obtain ⟨hx, hn, hs, hg, hd, hnox⟩ := hB
  change WSs X _ [some (.own p), none, none] C _
  have hca := hR.ca
  rw [hc] at hca
  refine wss_cons ?_
  refine ws_ret ?_
  refine lc2 ["number", "frame", "self"] [] hd (by walk_at "nm") (fun _ => by walk_at "nm") (by decide) (by decide +kernel) (by decide +kernel) (by decide +kernel) (by decide +kernel) (by decide +kernel) (wi_ls ?_)
  walk_at "pyC"
  refine ⟨Cl, rcK, _, .own A.K, insD_own hR.ins, T.f5, fgR rfl, ?_⟩
  refine ⟨[], seqR_own hca, fun d hd => by simp at hd, LcB.map id (fun z hz => by cases hz; exact hca) (by decide) (fun d hd => by simp at hd) fun q hq => ?_⟩
  exact h q hq
end
end K31
namespace K31
section
variable {P : Program} {w : World} {K : PySem.W.Frag} {mg : Str → Option Value} {base : Heap} {Cl Cf Ct : Addr}
/-- a row ahead of those of an error, which is in flight then -/
theorem Rc.flown {p : Addr} {A : RA} {V : RV} {m : Nat} {C : CS} {pre post : List Ft} {f : Ft} {r : D} (h : Rc Cl Cf Ct p A V m C) (hv : V.fts = pre ++ f :: post) : Rc Cl Cf Ct p A { V with fts := pre ++ { f with ps := r :: f.ps } :: post, cur := some pre.length } m (DL.put (DL.put C f.pa (.lst (r :: f.ps))) p (.ins Cl rcK (rcXs A { V with fts := pre ++ { f with ps := r :: f.ps } :: post, cur := some pre.length }))) := by
  obtain ⟨hf1, hf2, hf3⟩ := h.ft f (by rw [hv]; simp)
  have hfl := h.fl f (by rw [hv]; simp)
  have hpp : f.pa ≠ p := fun e => by rw [e, h.ins] at hf3; cases hf3
  have npa : ∀ {q c}, C q = some c → (∀ l, c ≠ .lst l) → q ≠ f.pa := fun hq hc e => by rw [e, hf3] at hq; cases hq; exact hc _ rfl
  have nk : ∀ {q Cx ks xs}, C q = some (.ins Cx ks xs) → ks ≠ rcK → q ≠ p := fun hq hne e => by
    rw [e, h.ins] at hq
    injection hq with hq
    injection hq with _ hq _
    exact hne hq.symm
  have np : ∀ {q c}, C q = some c → (∀ a b d, c ≠ .ins a b d) → q ≠ p := fun hq hc e => by rw [e, h.ins] at hq; cases hq; exact hc _ _ _ rfl
  obtain ⟨C', hC'⟩ : ∃ C', C' = DL.put (DL.put C f.pa (.lst (r :: f.ps))) p (.ins Cl rcK (rcXs A { V with fts := pre ++ { f with ps := r :: f.ps } :: post, cur := some pre.length })) := ⟨_, rfl⟩
  rw [← hC']
  have kp : ∀ q c, q ≠ p → q ≠ f.pa → C q = some c → C' q = some c := fun q c h1 h2 hc => by rw [hC', put_ne h1, put_ne h2]; exact hc
  have kl : ∀ {q l}, C q = some (.lst l) → q ≠ f.pa → C' q = some (.lst l) := fun hq hn => kp _ _ (np hq (fun _ _ _ e => by cases e)) hn hq
  have kd : ∀ {q l}, C q = some (.dic l) → C' q = some (.dic l) := fun hq => kp _ _ (np hq (fun _ _ _ e => by cases e)) (npa hq (fun _ e => by cases e)) hq
  have ki : ∀ {q Cx ks xs}, C q = some (.ins Cx ks xs) → ks ≠ rcK → C' q = some (.ins Cx ks xs) := fun hq hne => kp _ _ (nk hq hne) (npa hq (fun _ e => by cases e)) hq
  have lf := h.lf
  rw [hv, List.pairwise_append, List.pairwise_cons] at lf
  obtain ⟨ds, hds, hl⟩ := h.dn
  have efd : ∀ (i : Nat) (l : List Ft), ftD i (l ++ { f with ps := r :: f.ps } :: post) = ftD i (l ++ f :: post) := fun i l => by
    induction l generalizing i with
    | nil => rfl
    | cons g l ih => rw [List.cons_append, List.cons_append, ftD, ftD, ih]
  have hS := hfl.2
  refine ⟨by rw [hC']; exact put_same, kl h.st (hS A.S (by simp)).2, fun g hg => ki (h.fr g hg) (by decide +kernel), h.nd, ?_, fun g hg => ?_, kd h.bd, kl h.ca (hS A.K (by simp)).2, kl h.ss (hS A.T (by simp)).2, ⟨ds, kl hds (hS A.L (by simp)).2, hl⟩, h.sk, h.sT, h.sl, h.kt, h.kl, h.tl, h.fb, fun g hg => ?_, ?_⟩
  · have := kd h.fa
    rw [hv, ← efd] at this
    exact this
  · rcases List.mem_append.mp hg with hg | hg
    · obtain ⟨q1, q2, q3⟩ := h.ft g (by rw [hv]; exact List.mem_append_left _ hg)
      have q4 := lf.2.2 g hg f (by simp)
      exact ⟨ki q1 (by decide +kernel), kl q2 q4.2.2.1, kl q3 q4.2.2.2.2⟩
    rcases List.mem_cons.mp hg with rfl | hg
    · refine ⟨ki hf1 (by decide +kernel), kl hf2 hfl.1, ?_⟩
      rw [hC']
      show DL.put _ _ _ f.pa = _
      rw [put_ne hpp]; exact put_same
    · obtain ⟨q1, q2, q3⟩ := h.ft g (by rw [hv]; simp [hg])
      have q4 := lf.2.1.1 g hg
      exact ⟨ki q1 (by decide +kernel), kl q2 q4.2.2.2.1.symm, kl q3 q4.2.2.2.2.symm⟩
  · rcases List.mem_append.mp hg with hg | hg
    · exact h.fl g (by rw [hv]; exact List.mem_append_left _ hg)
    rcases List.mem_cons.mp hg with rfl | hg
    · exact hfl
    · exact h.fl g (by rw [hv]; simp [hg])
  · refine List.pairwise_append.mpr ⟨lf.1, List.pairwise_cons.mpr ⟨fun b hb => lf.2.1.1 b hb, lf.2.1.2⟩, fun g hg b hb => ?_⟩
    rcases List.mem_cons.mp hb with rfl | hb
    · exact lf.2.2 g hg f (by simp)
    · exact lf.2.2 g hg b (by simp [hb])
end
end K31
namespace K31
/-! entries as data -/
inductive Mem where
  | non
  | deep (n : Int)
  | some (ns : List Nat) (more : Option Int)
structure Ent where
  kind : Str
  msg : Str
  notes : List Str
  rows : List D
  mem : Mem
  link : Option (Str × Option Nat)
def intsD (ns : List Nat) : List D := ns.map fun (x : Nat) => D.int x
def memD : Mem → D
  | .non => .non
  | .deep n => .tup [.tup [.str "deep", .int n]]
  | .some ns none => .tup (intsD ns)
  | .some ns (some k) => .tup (intsD ns ++ [.tup [.str "more", .int k]])
def lnkD : Option (Str × Option Nat) → D
  | none => .non
  | some (w, none) => .tup [.str w, .non]
  | some (w, some x) => .tup [.str w, .int (x : Nat)]
def entD (e : Ent) : D := .tup [.str e.kind, .str e.msg, .tup (e.notes.map D.str), .tup e.rows, memD e.mem, lnkD e.link]
def Mem.nums : Mem → List Nat
  | .some ns _ => ns
  | _ => []
theorem strOk_deep : PyData.strOk ("deep" : Str) = true := by decide +kernel
theorem strOk_more : PyData.strOk ("more" : Str) = true := by decide +kernel
theorem memD_fit {m : Mem} : (memD m).fit 3 = true := by
  have hi : ∀ ns : List Nat, ∀ d ∈ intsD ns, d.fit 2 = true := fun ns d hd => by
    obtain ⟨x, _, rfl⟩ := List.mem_map.mp hd
    rfl
  cases m with
  | non => rfl
  | deep n => simp [memD, D.fit, fitL, strOk_deep]
  | some ns mo => cases mo with
    | none => exact fit_tupI (hi ns)
    | some k =>
      refine fit_tupI fun d hd => ?_
      rcases List.mem_append.mp hd with hd | hd
      · exact hi ns d hd
      · rw [List.mem_singleton.mp hd]; simp [D.fit, fitL, strOk_more]
theorem at_nat {xs : List D} {i : Nat} {d : D} (h : xs[i]? = some d) : atI xs (i : Nat) = some d := by
  have hl := (List.getElem?_eq_some_iff.mp h).1
  unfold atI ixN
  rw [if_pos (by omega), if_pos (by omega)]
  exact h
theorem spl_hd (S : List Nat) : ∀ (l : List Nat) (k : Nat) (acc : List Nat), ∃ p rest, TL.spl S k acc l = p :: rest ∧ p.length ≤ acc.length + l.length
  | [], k, acc => ⟨acc, [], TL.spl_nil S k acc, by simp⟩
  | c :: r, 0, acc => by
    cases h : TL.pre S (c :: r) with
    | true => exact ⟨acc, _, TL.spl_hit h, by omega⟩
    | false =>
      obtain ⟨p, rest, h1, h2⟩ := spl_hd S r 0 (acc ++ [c])
      exact ⟨p, rest, (TL.spl_miss h).trans h1, by rw [List.length_append] at h2; simp only [List.length_cons, List.length_nil] at h2 ⊢; omega⟩
  | c :: r, k + 1, acc => by
    obtain ⟨p, rest, h1, h2⟩ := spl_hd S r k acc
    exact ⟨p, rest, h1, by rw [List.length_cons]; omega⟩
theorem split_hd (z : Str) : ∃ y rest, Txt.split z "\n" = y :: rest ∧ y.length ≤ z.length := by
  have hy : TL.tl ("\n" : Str) ≠ [] := by decide +kernel
  have e := TL.split_spl z "\n" hy (TL.kind_ok (by decide +kernel))
  obtain ⟨p, rest, h1, h2⟩ := spl_hd (TL.tl ("\n" : Str)) (TL.tl z) 0 []
  rw [h1] at e
  cases hs : Txt.split z "\n" with
  | nil => rw [hs] at e; cases e
  | cons y ys =>
    rw [hs] at e
    simp only [List.map_cons, List.cons.injEq] at e
    refine ⟨y, ys, rfl, ?_⟩
    rw [str_len, str_len]
    have e1 : TL.tl y = p := e.1
    have : (TL.tl y).length ≤ (TL.tl z).length := by rw [e1]; simpa using h2
    exact this
/-- the kind, and the first line of the message -/
def headS (kd msg : Str) : Str := if (msg == "") = true then kd else kd ++ ": " ++ (Txt.split msg "\n").headD ""
/-- how many members are left out -/
def goneM : Mem → Int
  | .non => 0
  | .deep n => n
  | .some _ mo => mo.getD 0
section
variable {P : Program} {w : World} {K : PySem.W.Frag} {mg : Str → Option Value} {base : Heap}
theorem fnG_no {f : Addr} {fd : FuncData} {ps : List Str} {n : Nat} {S : DSp} (h : ∀ ds C k, ¬ S ds C k) : FnG P w K mg base CX0 n f fd ps (toSp K S) :=
  ⟨fun _ _ _ _ ⟨_, _, _, _, _, _, z, _⟩ => (h _ _ _ z).elim, fun _ _ _ _ _ ⟨_, _, _, _, _, _, z, _⟩ => (h _ _ _ z).elim⟩
def spNums : DSp := fun ds C k => ∃ m, ds = [memD m] ∧ m ≠ .non ∧ m.nums.length ≤ 1000 ∧ ∀ p, C p = none → k (.own p) (DL.put C p (.lst (intsD m.nums)))
theorem mem_tup {m : Mem} (h : m ≠ .non) : ∃ T, memD m = .tup (intsD m.nums ++ T) ∧ (T = [] ∧ goneM m = 0 ∨ ∃ z, T = [.tup [.str z, .int (goneM m)]]) := by
  cases m with
  | non => exact absurd rfl h
  | deep n => exact ⟨_, rfl, .inr ⟨_, rfl⟩⟩
  | some ns mo => cases mo with
    | none => exact ⟨[], by simp [memD, Mem.nums], .inl ⟨rfl, rfl⟩⟩
    | some k => exact ⟨_, rfl, .inr ⟨_, rfl⟩⟩
theorem ints_fil (ns : List Nat) : (intsD ns).filter D.isIntB = intsD ns := List.filter_eq_self.mpr fun d hd => by
  obtain ⟨x, _, rfl⟩ := List.mem_map.mp hd
  rfl
theorem ints_filT (ns : List Nat) : (intsD ns).filter D.isTup = [] := List.filter_eq_nil_iff.mpr fun d hd => by
  obtain ⟨x, _, rfl⟩ := List.mem_map.mp hd
  simp [D.isTup]
theorem ints_len (ns : List Nat) : (intsD ns).length = ns.length := List.length_map ..
theorem mem_kind {m : Mem} {T : List D} (h : memD m = .tup T) : ∀ d ∈ T, d.kind = true := by
  have hf := memD_fit (m := m)
  rw [h] at hf
  obtain ⟨n, _, hf⟩ := fit_tup hf
  exact fun d hd => fit_kind (hf d hd)
theorem ok_numbersIn {f : Addr} {fd : FuncData} (F : Fun K "numbers_in" "numbers_in" s_numbers_in f fd) (Z : Zs mg) : FnG P w K mg base CX0 1 f fd P_numbers_in (toSp K spNums) := by
  refine fnX F sc_numbers_in v_numbers_in l_numbers_in g_numbers_in (fun ds C k h => by obtain ⟨_, rfl, _⟩ := h; rfl) fun X hB ds C k h => ?_
  obtain ⟨m, rfl, hm, hl, h⟩ := h
  obtain ⟨hx, hn, hs, hg, hd, hnox⟩ := hB
  obtain ⟨T, e, hT⟩ := mem_tup hm
  have hk := mem_kind e
  rw [e]
  change WSs X _ [some (.tup (intsD m.nums ++ T)), none] C _
  have hTl : T.length ≤ 1 := by rcases hT with ⟨rfl, _⟩ | ⟨z, rfl⟩ <;> simp
  have hfil : (intsD m.nums ++ T).filter D.isIntB = intsD m.nums := by
    rw [List.filter_append, ints_fil]
    rcases hT with ⟨rfl, _⟩ | ⟨z, rfl⟩ <;> simp [D.isIntB]
  refine wss_cons ?_
  walk_at "pyR"
  refine lc1 ["item"] ["isinstance", "int"] hd (by walk_at "nm") (by decide +kernel) (by decide +kernel) (by decide +kernel) (by decide +kernel) (wi_tup ?_)
  walk_at "pyR"
  refine ⟨_, rfl, LcB.filter D.isIntB id trivial (by rw [List.length_append, ints_len]; exact Nat.le_trans (by omega : _ ≤ 2000) (by decide)) ?_ ?_ fun p hp => ?_⟩
  · intro d hdm X' hX hn' hg'
    have hx' := hx.blk hX
    have hkd := hk d hdm
    walk_at "pyR"
    exact ⟨rfl, rfl⟩
  · intro d hdm _ X' hX hn' hg'
    have hx' := hx.blk hX
    walk_at "pyR"
    exact ⟨rfl, rfl⟩
  · rw [hfil, List.map_id]
    exact h p hp
def spGone : DSp := fun ds C k => ∃ m, ds = [memD m] ∧ m ≠ .non ∧ m.nums.length ≤ 1000 ∧ k (.int (goneM m)) C
theorem ok_leftOut {f : Addr} {fd : FuncData} (F : Fun K "left_out" "left_out" s_left_out f fd) (Z : Zs mg) : FnG P w K mg base CX0 1 f fd P_left_out (toSp K spGone) := by
  refine fnX F sc_left_out v_left_out l_left_out g_left_out (fun ds C k h => by obtain ⟨_, rfl, _⟩ := h; rfl) fun X hB ds C k h => ?_
  obtain ⟨m, rfl, hm, hl, h⟩ := h
  obtain ⟨hx, hn, hs, hg, hd, hnox⟩ := hB
  obtain ⟨T, e, hT⟩ := mem_tup hm
  have hk := mem_kind e
  rw [e]
  change WSs X _ [some (.tup (intsD m.nums ++ T)), none] C _
  have hTl : T.length ≤ 1 := by rcases hT with ⟨rfl, _⟩ | ⟨z, rfl⟩ <;> simp
  have hTt : T.filter D.isTup = T := by rcases hT with ⟨rfl, _⟩ | ⟨z, rfl⟩ <;> simp [D.isTup]
  have hfil : (intsD m.nums ++ T).filter D.isTup = T := by rw [List.filter_append, ints_filT, List.nil_append, hTt]
  obtain ⟨g, hg2⟩ : ∃ g : D → D, g = fun d => match d with | .tup [_, y] => y | _ => .non := ⟨_, rfl⟩
  refine wss_cons ?_
  walk_at "pyR"
  refine we_fz (lc1 ["item"] ["isinstance", "tuple"] hd (by walk_at "nm") (by decide +kernel) (by decide +kernel) (by decide +kernel) (by decide +kernel) (wi_tup ?_))
  walk_at "pyR"
  refine ⟨_, rfl, LcB.filter D.isTup g trivial (by rw [List.length_append, ints_len]; exact Nat.le_trans (by omega : _ ≤ 2000) (by decide)) ?_ ?_ fun p hp => frz_ok hp ?_⟩
  · intro d hdm X' hX hn' hg'
    have hx' := hx.blk hX
    have hkd := hk d hdm
    walk_at "pyR"
    exact ⟨rfl, rfl⟩
  · intro d hdm ht X' hX hn' hg'
    have hx' := hx.blk hX
    have hdT : d ∈ T := by rw [← hfil]; exact List.mem_filter.mpr ⟨hdm, ht⟩
    rcases hT with ⟨rfl, _⟩ | ⟨z, rfl⟩
    · simp at hdT
    · rw [List.mem_singleton.mp hdT]
      walk_at "pyR"
      exact ⟨by rw [hg2], rfl⟩
  · rw [hfil]
    walk_at "pyR"
    rcases hT with ⟨rfl, h0⟩ | ⟨z, rfl⟩
    · refine ⟨_, [], rfl, rfl, ?_⟩
      rw [h0] at h; exact h
    · refine ⟨_, [goneM m], rfl, by rw [hg2]; rfl, ?_⟩
      rw [show ([goneM m] : List Int).sum = goneM m by simp]; exact h
theorem slen_app (x y : Str) : (x ++ y).length = x.length + y.length := by rw [str_len, str_len, str_len, str_app, List.length_append]
theorem emp_app (x : Str) : Str.empty ++ x = x := str_ext (by rw [str_app]; rfl)
def spHead : DSp := fun ds C k => ∃ e, ds = [entD e] ∧ e.kind.length ≤ 1000 ∧ e.msg.length ≤ 1000000 ∧ k (.str (headS e.kind e.msg)) C
theorem ok_headline {f : Addr} {fd : FuncData} (F : Fun K "headline" "headline" s_headline f fd) (Z : Zs mg) (g1 : MgK K mg "FEED" (.str "\n")) : FnG P w K mg base CX0 1 f fd P_headline (toSp K spHead) := by
  refine fnS F sc_headline v_headline l_headline g_headline (fun ds C k h => by obtain ⟨_, rfl, _⟩ := h; rfl) fun X hB ds C k h => ?_
  obtain ⟨e, rfl, hk, hm, h⟩ := h
  obtain ⟨hx, hn, hs, hg, hd, hnox⟩ := hB
  show WSs X _ [some (.tup [.str e.kind, .str e.msg, .tup (e.notes.map D.str), .tup e.rows, memD e.mem, lnkD e.link]), none, none, none, none] C _
  refine wss_cons ?_
  walk_at "pyS"
  refine wg_tupS (m := 3) (i := 2) hx.calm rfl rfl (by decide) (Nat.le_of_ble_eq_true rfl) fun q hq => ?_
  show WGs X _ [.str e.kind, .str e.msg, .own q] _ _ _
  walk_at "pyS"
  refine ⟨e.msg, "\n", rfl, rfl, by decide +kernel, Nat.le_trans (by omega : _ ≤ 2000000) (by decide), fun p hp => ?_⟩
  obtain ⟨y, rest, hsp, hyl⟩ := split_hd e.msg
  have hhd : (Txt.split e.msg "\n").headD "" = y := by rw [hsp]; rfl
  rw [hsp]
  walk_at "pyS"
  refine ix_p (d := .str y) (at_nat (i := 0) rfl) ?_
  show WSs X _ _ _ _
  walk_at "pyS"
  refine eq_sS ?_
  walk_at "pyS"
  · rename_i hq2
    refine ⟨C, (Sub.new (Sub.refl C) hq).trans (Sub.new (Sub.refl _) hp), ?_⟩
    rw [show headS e.kind e.msg = e.kind from if_pos hq2] at h
    exact h
  · rename_i hq2
    have l1 : (Str.empty ++ e.kind).length ≤ 1000 := by rw [slen_app]; exact Nat.le_trans (by rw [show Str.empty.length = 0 from rfl]; omega) hk
    have l2 : (Str.empty ++ e.kind ++ ": ").length ≤ 1002 := by rw [slen_app, show ((": " : Str)).length = 2 by decide +kernel]; omega
    have l3 : (Str.empty ++ e.kind ++ ": " ++ y).length ≤ 1001002 := by rw [slen_app]; omega
    refine .inl ⟨_, rfl, Nat.le_trans hk (by decide), _, rfl, Nat.le_trans l1 (by decide), ?_⟩
    walk_at "pyS"
    refine ⟨_, rfl, Nat.le_trans l2 (by decide), ?_⟩
    walk_at "pyS"
    refine .inl ⟨_, rfl, Nat.le_trans hyl (Nat.le_trans hm (by decide)), _, rfl, Nat.le_trans l3 (by decide), ?_⟩
    walk_at "pyS"
    refine ⟨C, (Sub.new (Sub.refl C) hq).trans (Sub.new (Sub.refl _) hp), ?_⟩
    rw [show headS e.kind e.msg = Str.empty ++ e.kind ++ ": " ++ y by rw [show headS e.kind e.msg = e.kind ++ ": " ++ (Txt.split e.msg "\n").headD "" from if_neg (by rw [hq2]; simp), hhd, emp_app]] at h
    exact h
end
end K31
namespace K31
/-! walks over entries -/
structure Lim where
  w : Option Nat := none
  d : Option Nat := none
  c : Option Nat := none
def limD : Option Nat → D
  | none => .non
  | some n => .int (n : Nat)
def over (o : Option Nat) (n : Nat) : Bool := match o with
  | none => false
  | some m => decide (m ≤ n)
abbrev WSt := List Nat × List D
def allF (M : Nat → WSt → Option (Nat × WSt)) : List Nat → WSt → Option (List Nat × WSt)
  | [], s => some ([], s)
  | x :: xs, s => (M x s).bind fun r => (allF M xs r.2).bind fun rs => some (r.1 :: rs.1, rs.2)
def cutN (o : Option Nat) (ns : List Nat) : List Nat := match o with
  | none => ns
  | some n => ns.take n
def moreM (rs : List Nat) (many : Int) : Mem := if 0 < many then .some rs (some many) else .some rs none
def memF (L : Lim) (dep : Nat) (M : Nat → WSt → Option (Nat × WSt)) (m : Mem) (s : WSt) : Option (Mem × WSt) := match m with
  | .non => some (.non, s)
  | m => if m.nums = [] ∨ over L.d dep = true then some (.deep (m.nums.length + goneM m), s)
    else (allF M (cutN L.w m.nums) s).bind fun r => some (moreM r.1 (m.nums.length - (cutN L.w m.nums).length + goneM m), r.2)
def lnkF (L : Lim) (dis : Nat) (M : Nat → WSt → Option (Nat × WSt)) (l : Option (Str × Option Nat)) (s : WSt) : Option (Option (Str × Option Nat) × WSt) := match l with
  | none => some (none, s)
  | some (w, none) => some (some (w, none), s)
  | some (w, some x) => if over L.c dis = true then some (some (w, none), s) else (M x s).bind fun r => some (some (w, some r.1), r.2)
/-- an entry is met -/
def meetF (L : Lim) (E : List Ent) : Nat → Nat → Nat → Nat → WSt → Option (Nat × WSt)
  | 0, _, _, _, _ => none
  | n + 1, key, dep, dis, s => if key ∈ s.1 then some (s.1.idxOf key, s) else (E[key]?).bind fun e =>
    (memF L dep (fun x s => meetF L E n x (dep + 1) 0 s) e.mem (s.1 ++ [key], s.2 ++ [.non])).bind fun m =>
    (lnkF L dis (fun x s => meetF L E n x dep (dis + 1) s) e.link m.2).bind fun l =>
    some (s.2.length, (l.2.1, l.2.2.set s.2.length (entD { e with mem := m.1, link := l.1 })))
/-! the numbers as a dict -/
def numFrom (i : Nat) : List Nat → List (Key × D)
  | [] => []
  | k :: ks => (Sum.inl (k : Int), .int (i : Nat)) :: numFrom (i + 1) ks
abbrev numD (ks : List Nat) : List (Key × D) := numFrom 0 ks
theorem numF_len : ∀ (ks : List Nat) (i : Nat), (numFrom i ks).length = ks.length
  | [], _ => rfl
  | k :: ks, i => by simp [numFrom, numF_len ks]
theorem num_val (x : Nat) : ∀ (ks : List Nat) (i : Nat), valD (numFrom i ks) (Sum.inl (x : Int)) = if x ∈ ks then some (.int ((i + ks.idxOf x : Nat) : Int)) else none
  | [], i => rfl
  | k :: ks, i => by
    have ih := num_val x ks (i + 1)
    unfold valD at ih ⊢
    rw [numFrom, List.find?_cons]
    by_cases h : k = x
    · subst h; simp
    · have h' : ¬ ((Sum.inl (k : Int) : Key) = Sum.inl (x : Int)) := fun e => h (by have := Sum.inl.inj e; omega)
      have h2 : ¬ x = k := fun e => h e.symm
      simp only [h', decide_false]
      rw [ih]
      by_cases hm : x ∈ ks
      · rw [if_pos hm, if_pos (List.mem_cons_of_mem _ hm), List.idxOf_cons, beq_eq_false_iff_ne.mpr h, cond_false]
        congr 2; omega
      · rw [if_neg hm, if_neg (by simp [h2, hm])]
theorem num_app (x : Nat) : ∀ (ks : List Nat) (i : Nat), numFrom i ks ++ [(Sum.inl (x : Int), .int ((i + ks.length : Nat) : Int))] = numFrom i (ks ++ [x])
  | [], i => rfl
  | k :: ks, i => by
    rw [numFrom, List.cons_append, List.cons_append, numFrom, ← num_app x ks (i + 1), List.length_cons, show i + 1 + ks.length = i + (ks.length + 1) by omega]
theorem num_any (x : Nat) : ∀ (ks : List Nat) (i : Nat), x ∉ ks → ((numFrom i ks).any fun kv => decide (kv.1 = Sum.inl (x : Int))) = false
  | [], _, _ => rfl
  | k :: ks, i, h => by
    have h' : ¬ ((Sum.inl (k : Int) : Key) = Sum.inl (x : Int)) := fun e => h (by have := Sum.inl.inj e; simp; omega)
    rw [numFrom, List.any_cons, num_any x ks (i + 1) fun z => h (List.mem_cons_of_mem _ z)]
    simp [h']
theorem num_put {x : Nat} {ks : List Nat} (h : x ∉ ks) : putD (numD ks) (Sum.inl (x : Int)) (.int (ks.length : Nat)) = numD (ks ++ [x]) := by
  unfold putD
  rw [num_any x ks 0 h, if_neg (by simp)]
  have := num_app x ks 0
  rw [Nat.zero_add] at this
  exact this
/-! the walk as an object -/
abbrev wkKs : List Str := ["old", "most_members", "most_depth", "most_links", "numbers", "found"]
/-- the entries by their numbers -/
def entK : Nat → List Ent → List (Key × D)
  | _, [] => []
  | i, e :: es => (Sum.inl (i : Int), entD e) :: entK (i + 1) es
theorem entK_val : ∀ {E : List Ent} {i j : Nat} {e : Ent}, E[j]? = some e → valD (entK i E) (Sum.inl ((i + j : Nat) : Int)) = some (entD e)
  | [], _, _, _, h => by simp at h
  | x :: E, i, 0, e, h => by
    have h : x = e := by simpa using h
    subst h
    unfold valD
    rw [entK, List.find?_cons, Nat.add_zero, decide_eq_true rfl]; rfl
  | x :: E, i, j + 1, e, h => by
    have ih := entK_val (i := i + 1) (show E[j]? = some e by simpa using h)
    have h' : ¬ ((Sum.inl (i : Int) : Key) = Sum.inl ((i + (j + 1) : Nat) : Int)) := fun e => by have := Sum.inl.inj e; omega
    unfold valD at ih ⊢
    rw [entK, List.find?_cons]
    simp only [h', decide_false]
    rw [show i + (j + 1) = i + 1 + j by omega]
    exact ih
def OldIs (C : CS) (old : D) (E : List Ent) : Prop := ∃ o, old = .own o ∧ C o = some (.dic (entK 0 E))
structure Wk (Cl p a f : Addr) (old : D) (L : Lim) (E : List Ent) (s : WSt) (C : CS) : Prop where
  ho : C p = some (.ins Cl wkKs [old, limD L.w, limD L.d, limD L.c, .own a, .own f])
  ha : C a = some (.dic (numD s.1))
  hf : C f = some (.lst s.2)
  hl : s.2.length = s.1.length
  nd : s.1.Nodup
  lt : ∀ x ∈ s.1, x < E.length
  olds : OldIs C old E
  onf : old ≠ .own a
  el : E.length ≤ 1000
  en : ∀ e ∈ E, e.mem.nums.length ≤ 1000
section
variable {Cl p a f q : Addr} {old : D} {L : Lim} {E : List Ent} {s : WSt} {C C' : CS} {k : KD}
theorem Wk.pa (h : Wk Cl p a f old L E s C) : p ≠ a := fun e => by have := h.ho; rw [e, h.ha] at this; cases this
theorem Wk.pf (h : Wk Cl p a f old L E s C) : p ≠ f := fun e => by have := h.ho; rw [e, h.hf] at this; cases this
theorem Wk.af (h : Wk Cl p a f old L E s C) : a ≠ f := fun e => by have := h.ha; rw [e, h.hf] at this; cases this
theorem Wk.ins (h : Wk Cl p a f old L E s C) : insD C (.own p) = some (Cl, wkKs, [old, limD L.w, limD L.d, limD L.c, .own a, .own f]) := insD_own h.ho
theorem OldIs.fx {bs : List Addr} (h : OldIs C old E) (hf : Fx bs C C') (ho : ∀ o, old = .own o → o ∉ bs) : OldIs C' old E := by
  obtain ⟨o, h1, h2⟩ := h
  exact ⟨o, h1, hf.at (ho o h1) h2⟩
theorem Wk.oa (h : Wk Cl p a f old L E s C) (o : Addr) (e : old = .own o) : o ∉ [a, f] := fun hm => by
  obtain ⟨o', h1, h2⟩ := h.olds
  rw [e] at h1; cases h1
  simp only [List.mem_cons, List.not_mem_nil, or_false] at hm
  rcases hm with rfl | rfl
  · exact h.onf e
  · rw [h.hf] at h2; cases h2
theorem Wk.nw (h : Wk Cl p a f old L E s C) {c : Cell} (hq : C q = none) : Wk Cl p a f old L E s (DL.put C q c) := by
  have fx : Fx [] C (DL.put C q c) := (Fx.refl C).put (.inr hq)
  exact ⟨fx.at (by simp) h.ho, fx.at (by simp) h.ha, fx.at (by simp) h.hf, h.hl, h.nd, h.lt, h.olds.fx fx (fun _ _ => by simp), h.onf, h.el, h.en⟩
theorem Wk.ksl (h : Wk Cl p a f old L E s C) : s.1.length ≤ E.length := by
  have := nodup_sub s.1 (List.range E.length) h.nd fun x hx => List.mem_range.mpr (h.lt x hx)
  rwa [List.length_range] at this
theorem old_ix {i : Nat} {e : Ent} (h : OldIs C old E) (he : E[i]? = some e) (q : k (entD e) C) : dIxD old (.int (i : Nat)) C k := by
  obtain ⟨o, rfl, h2⟩ := h
  have hv := entK_val (i := 0) he
  rw [Nat.zero_add] at hv
  exact .inr ⟨o, _, Sum.inl (i : Int), _, rfl, rfl, h2, hv, q⟩
end
/-- what the text says of the class -/
structure Twc (K : PySem.W.Frag) (Cl : Addr) : Prop where
  f1 : FldC K Cl "old"
  f2 : FldC K Cl "most_members"
  f3 : FldC K Cl "most_depth"
  f4 : FldC K Cl "most_links"
  f5 : FldC K Cl "numbers"
  f6 : FldC K Cl "found"
section
variable {P : Program} {w : World} {K : PySem.W.Frag} {mg : Str → Option Value} {base : Heap} {Cl : Addr}
def spWInit (Cl : Addr) : DSp := fun ds C k => ∃ p old L E, ds = [.own p, old, limD L.w, limD L.d, limD L.c] ∧ C p = some (.ins Cl [] []) ∧ OldIs C old E ∧ E.length ≤ 1000 ∧ (∀ e ∈ E, e.mem.nums.length ≤ 1000) ∧
  ∀ C' a f, Wk Cl p a f old L E ([], []) C' → Fx [p] C C' → C a = none → C f = none → k .non C'
theorem wInit_end {p a f' : Addr} {C : CS} {old : D} {L : Lim} {E : List Ent} (hp : C p = some (.ins Cl [] [])) (ha0 : C a = none) (hf : C f' = none) (hpa : p ≠ a) (hpf : p ≠ f') (haf : a ≠ f') (hold : OldIs C old E) (hel : E.length ≤ 1000) (hen : ∀ e ∈ E, e.mem.nums.length ≤ 1000) (c1 c3 : Cell) :
    Wk Cl p a f' old L E ([], []) (DL.put (DL.put (DL.put (DL.put (DL.put C p c1) a (.dic [])) p c3) f' (.lst [])) p (.ins Cl wkKs [old, limD L.w, limD L.d, limD L.c, .own a, .own f'])) ∧
    Fx [p] C (DL.put (DL.put (DL.put (DL.put (DL.put C p c1) a (.dic [])) p c3) f' (.lst [])) p (.ins Cl wkKs [old, limD L.w, limD L.d, limD L.c, .own a, .own f'])) := by
  have F : Fx [p] C (DL.put (DL.put (DL.put (DL.put (DL.put C p c1) a (.dic [])) p c3) f' (.lst [])) p (.ins Cl wkKs [old, limD L.w, limD L.d, limD L.c, .own a, .own f'])) :=
    (((((Fx.refl C).put (.inl (by simp))).put (.inr ha0)).put (.inl (by simp))).put (.inr hf)).put (.inl (by simp))
  refine ⟨⟨put_same, ?_, ?_, rfl, List.nodup_nil, fun _ hx => by simp at hx, hold.fx F fun o e => ?_, fun e => ?_, hel, hen⟩, F⟩
  · rw [put_ne hpa.symm, put_ne haf, put_ne hpa.symm]; exact put_same
  · rw [put_ne hpf.symm]; exact put_same
  · obtain ⟨o', h1, h2⟩ := hold
    rw [e] at h1; cases h1
    intro z
    rw [List.mem_singleton.mp z, hp] at h2; cases h2
  · obtain ⟨o', h1, h2⟩ := hold
    rw [e] at h1; cases h1
    rw [ha0] at h2; cases h2
theorem ok_wInit {f : Addr} {fd : FuncData} (F : Fun K "__init__" "Walk.__init__" s_Walk___init__ f fd) (T : Twc K Cl) : FnG P w K mg base CX0 1 f fd P_Walk___init__ (toSp K (spWInit Cl)) := by
  refine fnX F sc_Walk___init__ v_Walk___init__ l_Walk___init__ g_Walk___init__ (fun ds C k h => by obtain ⟨_, _, _, _, rfl, _⟩ := h; rfl) fun X hB ds C k h => ?_
  obtain ⟨p, old, L, E, rfl, hp, hold, hel, hen, h⟩ := h
  obtain ⟨hx, hn, hs, hg, hd, hnox⟩ := hB
  change WSs X _ [some (.own p), some old, some (limD L.w), some (limD L.d), some (limD L.c)] C _
  refine wss_cons ?_
  walk_at "pyC"
  refine ⟨p, Cl, [], [], _, _, rfl, hp, T.f1, by decide, fp_app rfl (by decide), ?_⟩
  walk_at "pyC"
  refine ⟨p, Cl, _, _, _, _, rfl, put_same, T.f2, by decide, fp_app rfl (by decide +kernel), ?_⟩
  rw [put_put]
  walk_at "pyC"
  refine ⟨p, Cl, _, _, _, _, rfl, put_same, T.f3, by decide, fp_app rfl (by decide +kernel), ?_⟩
  rw [put_put]
  walk_at "pyC"
  refine ⟨p, Cl, _, _, _, _, rfl, put_same, T.f4, by decide, fp_app rfl (by decide +kernel), ?_⟩
  rw [put_put]
  walk_at "pyC"
  intro a ha
  have hpa : p ≠ a := fun e => by rw [e, put_same] at ha; cases ha
  have ha0 : C a = none := by rw [put_ne hpa.symm] at ha; exact ha
  walk_at "pyC"
  refine ⟨p, Cl, _, _, _, _, rfl, by rw [put_ne hpa]; exact put_same, T.f5, by decide, fp_app rfl (by decide +kernel), ?_⟩
  walk_at "pyC"
  refine we_nil fun f' hf => ?_
  have hpf : p ≠ f' := fun e => by rw [e, put_same] at hf; cases hf
  rw [put_ne hpf.symm] at hf
  have haf : a ≠ f' := fun e => by rw [e, put_same] at hf; cases hf
  rw [put_ne haf.symm, put_ne hpf.symm] at hf
  walk_at "pyC"
  refine ⟨p, Cl, _, _, _, _, rfl, by rw [put_ne hpf]; exact put_same, T.f6, by decide, fp_app rfl (by decide +kernel), ?_⟩
  walk_at "pyC"
  have z := wInit_end (L := L) hp ha0 hf hpa hpf haf hold hel hen
  exact h _ a f' (z _ _).1 (z _ _).2 ha0 hf
end
end K31
namespace K31
section
variable {P : Program} {w : World} {K : PySem.W.Frag} {mg : Str → Option Value} {base : Heap} {Cl : Addr}
/-- an entry is met, n deep -/
def spMeet (Cl : Addr) (n : Nat) : DSp := fun ds C k => ∃ (p a f : Addr) (old : D) (L : Lim) (E : List Ent) (s : WSt) (key dep dis : Nat), ds = [.own p, .int (key : Nat), .int (dep : Nat), .int (dis : Nat)] ∧ Wk Cl p a f old L E s C ∧ ∃ r s', meetF L E n key dep dis s = some (r, s') ∧
  ∀ C', Wk Cl p a f old L E s' C' → Fx [a, f] C C' → k (.int (r : Nat)) C'
def spMLink (Cl : Addr) (n : Nat) : DSp := fun ds C k => ∃ (p a f : Addr) (old : D) (L : Lim) (E : List Ent) (s : WSt) (l : Option (Str × Option Nat)) (dep dis : Nat), ds = [.own p, lnkD l, .int (dep : Nat), .int (dis : Nat)] ∧ Wk Cl p a f old L E s C ∧
  ∃ r s', lnkF L dis (fun x s => meetF L E n x dep (dis + 1) s) l s = some (r, s') ∧ ∀ C', Wk Cl p a f old L E s' C' → Fx [a, f] C C' → k (lnkD r) C'
def spMMem (Cl : Addr) (n : Nat) : DSp := fun ds C k => ∃ (p a f : Addr) (old : D) (L : Lim) (E : List Ent) (s : WSt) (m : Mem) (dep : Nat), ds = [.own p, memD m, .int (dep : Nat)] ∧ Wk Cl p a f old L E s C ∧ m.nums.length ≤ 1000 ∧
  ∃ r s', memF L dep (fun x s => meetF L E n x (dep + 1) 0 s) m s = some (r, s') ∧ ∀ C', Wk Cl p a f old L E s' C' → Fx [a, f] C C' → k (memD r) C'
theorem ok_meet0 {f : Addr} {fd : FuncData} {ps : List Str} {n : Nat} : FnG P w K mg base CX0 n f fd ps (toSp K (spMeet Cl 0)) := fnG_no fun ds C k h => by
  obtain ⟨_, _, _, _, _, _, _, _, _, _, _, _, _, _, hm, _⟩ := h
  cases hm
theorem ok_mLink {f : Addr} {fd : FuncData} (n : Nat) (F : Fun K "met_link" "Walk.met_link" s_Walk_met_link f fd) (T : Twc K Cl) (h1 : MthC P w K mg base Cl "meet" (2 * n + 2) [] (spMeet Cl n)) : FnG P w K mg base CX0 (2 * n + 3) f fd P_Walk_met_link (toSp K (spMLink Cl n)) := by
  refine fnX F sc_Walk_met_link v_Walk_met_link l_Walk_met_link g_Walk_met_link (fun ds C k h => by obtain ⟨_, _, _, _, _, _, _, _, _, _, rfl, _⟩ := h; rfl) fun X hB ds C k h => ?_
  obtain ⟨p, a, f', old, L, E, s, l, dep, dis, rfl, hW, r, s', hr, h⟩ := h
  obtain ⟨hx, hn, hs, hg, hd, hnox⟩ := hB
  have hI := hW.ins
  have tf := T.f4
  rcases l with _ | ⟨wd, _ | x⟩
  · show WSs X _ [some (.own p), some .non, some (.int dep), some (.int dis), none, none] C _
    cases hr
    refine wss_cons ?_
    walk_at "pyC"
    all_goals try walk_at "bad"
    exact h C hW (Fx.refl C)
  · show WSs X _ [some (.own p), some (.tup [.str wd, .non]), some (.int dep), some (.int dis), none, none] C _
    cases hr
    refine wss_cons ?_
    walk_at "pyC"
    all_goals try walk_at "bad"
    exact h C hW (Fx.refl C)
  · show WSs X _ [some (.own p), some (.tup [.str wd, .int x]), some (.int dep), some (.int dis), none, none] C _
    unfold lnkF at hr
    simp only at hr
    cases hc : L.c with
    | none =>
      rw [hc] at hI hr
      have hI : insD C (.own p) = some (Cl, wkKs, [old, limD L.w, limD L.d, .non, .own a, .own f']) := hI
      rw [if_neg (by simp [over])] at hr
      refine wss_cons ?_
      walk_at "pyC"
      all_goals try walk_at "bad"
      refine x_meth hx h1 ?_ (by omega)
      walk_at "pyC"
      refine ⟨⟨_, _, hI, by decide +kernel⟩, ?_⟩
      walk_at "pyC"
      cases hm : meetF L E n x dep (dis + 1) s with
      | none => rw [hm] at hr; cases hr
      | some v =>
        rw [hm] at hr
        cases hr
        refine ⟨p, a, f', old, L, E, s, x, dep, dis + 1, rfl, hW, v.1, v.2, hm, fun C' hW' hF => ?_⟩
        walk_at "pyC"
        exact h C' hW' hF
    | some c =>
      rw [hc] at hI hr
      have hI : insD C (.own p) = some (Cl, wkKs, [old, limD L.w, limD L.d, .int c, .own a, .own f']) := hI
      refine wss_cons ?_
      walk_at "pyC"
      all_goals try walk_at "bad"
      · rename_i hq
        rw [if_pos (show over (some c) dis = true from decide_eq_true (by have := of_decide_eq_true hq; omega))] at hr
        cases hr
        exact h C hW (Fx.refl C)
      · rename_i hq
        have ho : over (some c) dis = false := decide_eq_false (by have := of_decide_eq_false hq; omega)
        rw [if_neg (by rw [ho]; simp)] at hr
        refine x_meth hx h1 ?_ (by omega)
        walk_at "pyC"
        refine ⟨⟨_, _, hI, by decide +kernel⟩, ?_⟩
        walk_at "pyC"
        cases hm : meetF L E n x dep (dis + 1) s with
        | none => rw [hm] at hr; cases hr
        | some v =>
          rw [hm] at hr
          cases hr
          refine ⟨p, a, f', old, L, E, s, x, dep, dis + 1, rfl, hW, v.1, v.2, hm, fun C' hW' hF => ?_⟩
          walk_at "pyC"
          exact h C' hW' hF
end
end K31
namespace K31
theorem cut_take (ns : List Nat) (n : Nat) : cutD (intsD ns) none (some (n : Int)) = intsD (ns.take n) := by
  unfold cutD
  have e1 : HT.sIx (intsD ns).length 0 none = 0 := rfl
  rw [e1, sIx_nat', List.drop_zero, Nat.sub_zero, ints_len]
  unfold intsD
  rw [List.map_take]
  rcases Nat.le_total n ns.length with h | h
  · rw [Nat.min_eq_left h]
  · rw [Nat.min_eq_right h, List.take_of_length_le (by simp), List.take_of_length_le (by simpa using h)]
theorem ints_fit (ns : List Nat) : ∀ d ∈ intsD ns, d.fit 0 = true := fun d hd => by
  obtain ⟨x, _, rfl⟩ := List.mem_map.mp hd
  rfl
theorem ints_nil (ns : List Nat) : eqL (intsD ns) [] = decide (ns = []) := by
  cases ns <;> rfl
theorem ints_at {ns : List Nat} {j : Nat} {d : D} (h : (intsD ns)[j]? = some d) : ∃ x, ns.drop j = x :: ns.drop (j + 1) ∧ d = .int (x : Nat) := by
  unfold intsD at h
  rw [List.getElem?_map] at h
  cases e : ns[j]? with
  | none => rw [e] at h; cases h
  | some x =>
    rw [e] at h
    cases h
    obtain ⟨hj, hx⟩ := List.getElem?_eq_some_iff.mp e
    exact ⟨x, by rw [← hx]; exact List.drop_eq_getElem_cons hj, rfl⟩
theorem cutN_len (o : Option Nat) (ns : List Nat) : (cutN o ns).length ≤ ns.length := by
  cases o with
  | none => exact Nat.le_refl _
  | some n => exact List.length_take_le' ..
section
variable {P : Program} {w : World} {K : PySem.W.Frag} {mg : Str → Option Value} {base : Heap} {Cl : Addr}
theorem ok_mMem {f : Addr} {fd : FuncData} (n : Nat) (F : Fun K "met_members" "Walk.met_members" s_Walk_met_members f fd) (T : Twc K Cl) (Z : Zs mg) (h1 : MthC P w K mg base Cl "meet" (2 * n + 2) [] (spMeet Cl n)) (h2 : FnC P w K mg base "numbers_in" 1 spNums) (h3 : FnC P w K mg base "left_out" 1 spGone)
    (g1 : MgK K mg "DEEP" (.str "deep")) (g2 : MgK K mg "MORE" (.str "more")) : FnG P w K mg base CX0 (2 * n + 3) f fd P_Walk_met_members (toSp K (spMMem Cl n)) := by
  refine fnX F sc_Walk_met_members v_Walk_met_members l_Walk_met_members g_Walk_met_members (fun ds C k h => by obtain ⟨_, _, _, _, _, _, _, _, _, rfl, _⟩ := h; rfl) fun X hB ds C k h => ?_
  obtain ⟨p, a, f', old, L, E, s, m, dep, rfl, hW, hml, r, s', hr, h⟩ := h
  obtain ⟨hx, hn, hs, hg, hd, hnox⟩ := hB
  have hI := hW.ins
  by_cases hm : m = .non
  · subst hm
    cases hr
    show WSs X _ [some (.own p), some .non, some (.int dep), none, none, none, none, none, none] C _
    refine wss_cons ?_
    walk_at "pyC"
    all_goals try walk_at "bad"
    exact h C hW (Fx.refl C)
  obtain ⟨T', e, hT⟩ := mem_tup hm
  have hr : (if m.nums = [] ∨ over L.d dep = true then some (Mem.deep (m.nums.length + goneM m), s)
    else (allF (fun x s => meetF L E n x (dep + 1) 0 s) (cutN L.w m.nums) s).bind fun r => some (moreM r.1 (m.nums.length - (cutN L.w m.nums).length + goneM m), r.2)) = some (r, s') := by
    cases m with
    | non => exact absurd rfl hm
    | deep n => exact hr
    | some ns mo => exact hr
  show WSs X _ [some (.own p), some (memD m), some (.int dep), none, none, none, none, none, none] C _
  rw [e]
  refine wss_cons ?_
  walk_at "py"
  all_goals try walk_at "bad"
  refine ⟨m, by rw [e], hm, hml, fun q hq => ?_⟩
  walk_at "py"
  refine ⟨m, by rw [e], hm, hml, ?_⟩
  refine wa_nil (ex_2 ?_)
  show WSs X _ _ _ _
  refine wss_frzI 6 rfl put_same ?_
  rw [del_put hq]
  simp only [List.set_cons_succ, List.set_cons_zero]
  have t2 := T.f2
  have t3 := T.f3
  have rest2 : m.nums ≠ [] → over L.d dep = false → ∀ o : Option D, WSh X ((defBody s_Walk_met_members).drop 4) [some (.own p), some (.tup (intsD m.nums ++ T')), some (.int dep), some (.lst (intsD (cutN L.w m.nums))), none, none, some (.lst (intsD m.nums)), some (.int (goneM m)), o] C { nx := fun _ C' => k .non C', rt := k } := by
    intro hne hov o
    rw [if_neg (by simp [hne, hov])] at hr
    cases ha : allF (fun x s => meetF L E n x (dep + 1) 0 s) (cutN L.w m.nums) s with
    | none => rw [ha] at hr; cases hr
    | some v =>
      rw [ha] at hr
      cases hr
      obtain ⟨R, sE⟩ := v
      refine wsh_go (wss_cons ?_)
      refine ws_lc1 (M0 := []) ["self", "depth", "key"] [] hd (by walk_at "nm") (by decide +kernel) (by walk_at "nm") (by decide +kernel) (by decide +kernel) (by decide +kernel) (by decide +kernel) ((sww_env hd.sc _ _ _).trans (by rfl)) (wi_ls ?_)
      walk_at "py"
      refine ⟨_, rfl, ?_⟩
      refine ⟨fun j acc C' => ∃ (rs rest : List Nat) (s1 : WSt), acc = intsD rs ∧ rs.length = j ∧ j ≤ (cutN L.w m.nums).length ∧ Wk Cl p a f' old L E s1 C' ∧ Fx [a, f'] C C' ∧ allF (fun x s => meetF L E n x (dep + 1) 0 s) ((cutN L.w m.nums).drop j) s1 = some (rest, sE) ∧ rs ++ rest = R,
        ⟨[], R, s, rfl, rfl, Nat.zero_le _, hW, Fx.refl C, ha, rfl⟩, fun _ _ _ _ a ha => (by cases ha), ?_, ?_⟩
      · rintro j d acc C2 hj ⟨rs, rest, s1, rfl, hrl, hjl, hW1, hF1, hA, hR⟩ X' hX hn' hg'
        obtain ⟨x, hdr, rfl⟩ := ints_at hj
        have hj2 := (List.getElem?_eq_some_iff.mp hj).1
        rw [ints_len] at hj2
        refine wif_nil ⟨fun _ X' hX hn' hg' => ?_, fun h => Bool.noConfusion h⟩
        have hx' := hx.blk hX
        rw [hdr] at hA
        simp only [allF] at hA
        cases hm1 : meetF L E n x (dep + 1) 0 s1 with
        | none => rw [hm1] at hA; cases hA
        | some v1 =>
          rw [hm1] at hA
          simp only [Option.bind_some] at hA
          cases hm2 : allF (fun x s => meetF L E n x (dep + 1) 0 s) ((cutN L.w m.nums).drop (j + 1)) v1.2 with
          | none => rw [hm2] at hA; cases hA
          | some v2 =>
            rw [hm2] at hA
            cases hA
            refine x_meth hx' h1 ?_ (by omega)
            walk_at "py"
            refine ⟨⟨_, _, hW1.ins, by decide +kernel⟩, ?_⟩
            walk_at "py"
            refine ⟨p, a, f', old, L, E, s1, x, dep + 1, 0, rfl, hW1, v1.1, v1.2, hm1, fun C3 hW3 hF3 => ?_⟩
            refine ⟨by rw [ints_len]; exact Nat.lt_of_lt_of_le (by have := cutN_len L.w m.nums; omega : rs.length < 1000) (by decide), rs ++ [v1.1], v2.1, v1.2, by simp [intsD], by rw [List.length_append, hrl]; rfl, by omega, hW3, hF1.trans hF3, hm2, by simpa using hR⟩
      · rintro acc C2 ⟨rs, rest, s1, rfl, hrl, hjl, hW1, hF1, hA, hR⟩ q2 hq2
        rw [ints_len, List.drop_length] at hA
        cases hA
        rw [List.append_nil] at hR
        subst hR
        refine wss_frzI 4 rfl put_same ?_
        rw [del_put hq2]
        simp only [List.set_cons_succ, List.set_cons_zero]
        have hk := h C2 hW1 hF1
        have hcl := cutN_len L.w m.nums
        rw [ints_len] at hrl
        walk_at "pyS"
        · rename_i hq3
          rw [ints_len, ints_len] at hq3
          unfold moreM at hk
          rw [if_pos (of_decide_eq_true hq3)] at hk
          refine ⟨_, rfl, ?_⟩
          have hsz : (intsD rs ++ [D.tup [D.str "more", D.int (((intsD m.nums).length : Nat) - ((intsD (cutN L.w m.nums)).length : Nat) + goneM m)]]).length ≤ sizeLine := by
            rw [List.length_append, ints_len]; exact Nat.le_trans (by simp only [List.length_cons, List.length_nil]; omega : _ ≤ 2000) (by decide)
          walk_at "pyS"
          rw [ints_len, ints_len]
          exact hk
        · rename_i hq3
          rw [ints_len, ints_len] at hq3
          unfold moreM at hk
          rw [if_neg (of_decide_eq_false hq3)] at hk
          exact hk
  have rest : m.nums ≠ [] → over L.d dep = false → WSh X ((defBody s_Walk_met_members).drop 3) [some (.own p), some (.tup (intsD m.nums ++ T')), some (.int dep), none, none, none, some (.lst (intsD m.nums)), some (.int (goneM m)), none] C { nx := fun _ C' => k .non C', rt := k } := by
    intro hne hov
    have r2 := rest2 hne hov none
    refine wsh_go (wss_consH ?_)
    cases hL : L.w with
    | none =>
      rw [hL] at hI r2
      have hI : insD C (.own p) = some (Cl, wkKs, [old, .non, limD L.d, limD L.c, .own a, .own f']) := hI
      walk_at "pyS"
      all_goals try walk_at "bad"
      exact r2
    | some c =>
      rw [hL] at hI r2
      have hI : insD C (.own p) = some (Cl, wkKs, [old, .int c, limD L.d, limD L.c, .own a, .own f']) := hI
      walk_at "pyS"
      all_goals try walk_at "bad"
      rw [cut_take]
      exact r2
  have hdp : (m.nums = [] ∨ over L.d dep = true) → k (.tup [.tup [.str "deep", .int (((intsD m.nums).length : Nat) + goneM m)]]) C := fun hc => by
    rw [if_pos hc] at hr
    cases hr
    rw [ints_len]
    exact h C hW (Fx.refl C)
  -- cut by depth
  refine wss_consH ?_
  walk_at "pyS"
  refine eq_ll (ints_fit _) (fun d hd => by simp at hd) (by decide) (by decide) (m := 0) ?_
  rw [ints_nil]
  cases hL : L.d with
  | none =>
    rw [hL] at hI
    have hI : insD C (.own p) = some (Cl, wkKs, [old, limD L.w, .non, limD L.c, .own a, .own f']) := hI
    walk_at "pyS"
    all_goals try walk_at "bad"
    · rename_i hq; exact hdp (.inl (of_decide_eq_true hq))
    · rename_i hq _; exact rest (of_decide_eq_false hq) (by rw [hL]; rfl)
  | some c =>
    rw [hL] at hI
    have hI : insD C (.own p) = some (Cl, wkKs, [old, limD L.w, .int c, limD L.c, .own a, .own f']) := hI
    walk_at "pyS"
    all_goals try walk_at "bad"
    · rename_i hq; exact hdp (.inl (of_decide_eq_true hq))
    · rename_i hq; exact hdp (.inr (by rw [hL]; exact decide_eq_true (by have := of_decide_eq_true hq; omega)))
    · rename_i hq0 _ hq; exact rest (of_decide_eq_false hq0) (by rw [hL]; exact decide_eq_false (by have := of_decide_eq_false hq; omega))
end
end K31
namespace K31
section
variable {P : Program} {w : World} {K : PySem.W.Frag} {mg : Str → Option Value} {base : Heap} {Cl : Addr}
def Ext (s s' : WSt) : Prop := ∃ t, s'.1 = s.1 ++ t
theorem Ext.refl (s : WSt) : Ext s s := ⟨[], by simp⟩
theorem Ext.trans {s s1 s2 : WSt} (h : Ext s s1) (h2 : Ext s1 s2) : Ext s s2 := by
  obtain ⟨t, e⟩ := h
  obtain ⟨t2, e2⟩ := h2
  exact ⟨t ++ t2, by rw [e2, e, List.append_assoc]⟩
theorem allF_ext {M : Nat → WSt → Option (Nat × WSt)} (hM : ∀ x s r s', M x s = some (r, s') → Ext s s') : ∀ {xs : List Nat} {s : WSt} {rs : List Nat} {s' : WSt}, allF M xs s = some (rs, s') → Ext s s'
  | [], s, rs, s', h => by cases h; exact Ext.refl _
  | x :: xs, s, rs, s', h => by
    simp only [allF] at h
    cases h1 : M x s with
    | none => rw [h1] at h; cases h
    | some v =>
      rw [h1] at h
      simp only [Option.bind_some] at h
      cases h2 : allF M xs v.2 with
      | none => rw [h2] at h; cases h
      | some v2 =>
        rw [h2] at h
        cases h
        exact (hM x s v.1 v.2 h1).trans (allF_ext hM h2)
theorem memF_ext {L : Lim} {dep : Nat} {M : Nat → WSt → Option (Nat × WSt)} (hM : ∀ x s r s', M x s = some (r, s') → Ext s s') {m : Mem} {s : WSt} {r : Mem × WSt} (h : memF L dep M m s = some r) : Ext s r.2 := by
  have key : ∀ m : Mem, (if m.nums = [] ∨ over L.d dep = true then some (Mem.deep (m.nums.length + goneM m), s)
    else (allF M (cutN L.w m.nums) s).bind fun r => some (moreM r.1 (m.nums.length - (cutN L.w m.nums).length + goneM m), r.2)) = some r → Ext s r.2 := by
    intro m h
    split at h
    · cases h; exact Ext.refl _
    · cases h1 : allF M (cutN L.w m.nums) s with
      | none => rw [h1] at h; cases h
      | some v =>
        rw [h1] at h
        cases h
        exact allF_ext hM h1
  cases m with
  | non => cases h; exact Ext.refl _
  | deep n => exact key (.deep n) h
  | some ns mo => exact key (.some ns mo) h
theorem lnkF_ext {L : Lim} {dis : Nat} {M : Nat → WSt → Option (Nat × WSt)} (hM : ∀ x s r s', M x s = some (r, s') → Ext s s') {l : Option (Str × Option Nat)} {s : WSt} {r : Option (Str × Option Nat) × WSt} (h : lnkF L dis M l s = some r) : Ext s r.2 := by
  rcases l with _ | ⟨wd, _ | x⟩
  · cases h; exact Ext.refl _
  · cases h; exact Ext.refl _
  · simp only [lnkF] at h
    split at h
    · cases h; exact Ext.refl _
    · cases h1 : M x s with
      | none => rw [h1] at h; cases h
      | some v =>
        rw [h1] at h
        cases h
        exact hM x s v.1 v.2 h1
theorem meetF_ext {L : Lim} {E : List Ent} : ∀ (n : Nat) {key dep dis : Nat} {s : WSt} {r : Nat} {s' : WSt}, meetF L E n key dep dis s = some (r, s') → Ext s s'
  | 0, _, _, _, _, _, _, h => by cases h
  | n + 1, key, dep, dis, s, r, s', h => by
    unfold meetF at h
    split at h
    · cases h; exact Ext.refl _
    · cases he : E[key]? with
      | none => rw [he] at h; cases h
      | some e =>
        rw [he] at h
        simp only [Option.bind_some] at h
        cases hm1 : memF L dep (fun x s => meetF L E n x (dep + 1) 0 s) e.mem (s.1 ++ [key], s.2 ++ [.non]) with
        | none => rw [hm1] at h; cases h
        | some m =>
          rw [hm1] at h
          simp only [Option.bind_some] at h
          cases hm2 : lnkF L dis (fun x s => meetF L E n x dep (dis + 1) s) e.link m.2 with
          | none => rw [hm2] at h; cases h
          | some l =>
            rw [hm2] at h
            simp only [Option.bind_some, Option.some.injEq, Prod.mk.injEq] at h
            obtain ⟨rfl, rfl⟩ := h
            obtain ⟨t1, e1⟩ := memF_ext (fun x s r s' h => meetF_ext n h) hm1
            obtain ⟨t2, e2⟩ := lnkF_ext (fun x s r s' h => meetF_ext n h) hm2
            exact ⟨key :: (t1 ++ t2), by rw [e2, e1]; simp⟩
theorem ok_meet {f : Addr} {fd : FuncData} (n : Nat) (F : Fun K "meet" "Walk.meet" s_Walk_meet f fd) (T : Twc K Cl) (Z : Zs mg) (h1 : MthC P w K mg base Cl "met_members" (2 * n + 3) [] (spMMem Cl n)) (h2 : MthC P w K mg base Cl "met_link" (2 * n + 3) [] (spMLink Cl n)) : FnG P w K mg base CX0 (2 * n + 4) f fd P_Walk_meet (toSp K (spMeet Cl (n + 1))) := by
  refine fnX F sc_Walk_meet v_Walk_meet l_Walk_meet g_Walk_meet (fun ds C k h => by obtain ⟨_, _, _, _, _, _, _, _, _, _, rfl, _⟩ := h; rfl) fun X hB ds C k h => ?_
  obtain ⟨p, a, f', old, L, E, s, key, dep, dis, rfl, hW, r, s', hr, h⟩ := h
  obtain ⟨hx, hn, hs, hg, hd, hnox⟩ := hB
  have hI := hW.ins
  have t1 := T.f1
  have t5 := T.f5
  have t6 := T.f6
  change WSs X _ [some (.own p), some (.int key), some (.int dep), some (.int dis), none, none, none, none, none, none, none, none, none] C _
  have hA := hW.ha
  have hF := hW.hf
  unfold meetF at hr
  refine wss_cons ?_
  by_cases hk : key ∈ s.1
  · rw [if_pos hk] at hr
    cases hr
    have hv : valD (numD s.1) (Sum.inl (key : Int)) = some (.int (s.1.idxOf key : Nat)) := by rw [num_val, if_pos hk, Nat.zero_add]
    walk_at "pyK"
    refine .inr ⟨_, _, Sum.inl (key : Int), rfl, rfl, hA, ?_⟩
    rw [hv]
    walk_at "pyK"
    all_goals try walk_at "bad"
    refine .inr ⟨_, _, Sum.inl (key : Int), _, rfl, rfl, hA, hv, ?_⟩
    exact h C hW (Fx.refl C)
  · rw [if_neg hk] at hr
    have hv : valD (numD s.1) (Sum.inl (key : Int)) = none := by rw [num_val, if_neg hk]
    cases he : E[key]? with
    | none => rw [he] at hr; cases hr
    | some e =>
    rw [he] at hr
    simp only [Option.bind_some] at hr
    cases hm1 : memF L dep (fun x s => meetF L E n x (dep + 1) 0 s) e.mem (s.1 ++ [key], s.2 ++ [.non]) with
    | none => rw [hm1] at hr; cases hr
    | some m =>
    rw [hm1] at hr
    simp only [Option.bind_some] at hr
    cases hm2 : lnkF L dis (fun x s => meetF L E n x dep (dis + 1) s) e.link m.2 with
    | none => rw [hm2] at hr; cases hr
    | some l =>
    rw [hm2] at hr
    simp only [Option.bind_some, Option.some.injEq, Prod.mk.injEq] at hr
    obtain ⟨rfl, rfl⟩ := hr
    obtain ⟨hkl, hke⟩ := List.getElem?_eq_some_iff.mp he
    walk_at "pyK"
    refine .inr ⟨_, _, Sum.inl (key : Int), rfl, rfl, hA, ?_⟩
    rw [hv]
    walk_at "pyK"
    all_goals try walk_at "bad"
    refine .inl (len_own hF ?_)
    walk_at "pyK"
    refine .inr ⟨_, _, Sum.inl (key : Int), rfl, rfl, hA, by rw [numF_len]; exact Nat.lt_of_le_of_lt (Nat.le_trans hW.ksl hW.el) (by decide), ?_⟩
    rw [hW.hl, num_put hk]
    have ho1 : (DL.put C a (.dic (numD (s.1 ++ [key])))) p = some (.ins Cl wkKs [old, limD L.w, limD L.d, limD L.c, .own a, .own f']) := by rw [put_ne hW.pa]; exact hW.ho
    have ha1 : (DL.put C a (.dic (numD (s.1 ++ [key])))) a = some (.dic (numD (s.1 ++ [key]))) := put_same
    have hf1 : (DL.put C a (.dic (numD (s.1 ++ [key])))) f' = some (.lst s.2) := by rw [put_ne hW.af.symm]; exact hW.hf
    have F1 : Fx [a, f'] C (DL.put C a (.dic (numD (s.1 ++ [key])))) := (Fx.refl C).put (.inl (by simp))
    generalize DL.put C a (.dic (numD (s.1 ++ [key]))) = C1 at ho1 ha1 hf1 F1 ⊢
    have hI1 := insD_own ho1
    have ol1 := hW.olds.fx F1 hW.oa
    walk_at "pyK"
    refine old_ix ol1 he ?_
    show WG X _ (.tup [.str e.kind, .str e.msg, .tup (e.notes.map D.str), .tup e.rows, memD e.mem, lnkD e.link]) _ _ _
    walk_at "pyK"
    refine app_ok hf1 (by have := hW.hl; have := hW.ksl; have := hW.el; exact Nat.lt_of_le_of_lt (by omega : _ ≤ 1000) (by decide)) ?_
    have W2 : Wk Cl p a f' old L E (s.1 ++ [key], s.2 ++ [.non]) (DL.put C1 f' (.lst (s.2 ++ [.non]))) := by
      have F2 : Fx [a, f'] C (DL.put C1 f' (.lst (s.2 ++ [.non]))) := F1.put (.inl (by simp))
      refine ⟨by rw [put_ne hW.pf]; exact ho1, by rw [put_ne hW.af]; exact ha1, put_same, by simp [hW.hl], ?_, fun x hx => ?_, hW.olds.fx F2 hW.oa, hW.onf, hW.el, hW.en⟩
      · refine List.nodup_append.mpr ⟨hW.nd, by simp, fun x hx y hy e => ?_⟩
        rw [List.mem_singleton.mp hy] at e
        exact hk (e ▸ hx)
      · rcases List.mem_append.mp hx with hx | hx
        · exact hW.lt x hx
        · rw [List.mem_singleton.mp hx]; exact hkl
    have F2 : Fx [a, f'] C (DL.put C1 f' (.lst (s.2 ++ [.non]))) := F1.put (.inl (by simp))
    generalize DL.put C1 f' (.lst (s.2 ++ [.non])) = C2 at W2 F2 ⊢
    walk_at "pyK"
    refine x_meth hx h1 ?_ (by omega)
    walk_at "pyK"
    refine ⟨⟨_, _, W2.ins, by decide +kernel⟩, ?_⟩
    walk_at "pyK"
    refine ⟨p, a, f', old, L, E, _, e.mem, dep, rfl, W2, hW.en e (by rw [← hke]; exact List.getElem_mem hkl), m.1, m.2, hm1, fun C3 W3 F3 => ?_⟩
    walk_at "pyK"
    refine x_meth hx h2 ?_ (by omega)
    walk_at "pyK"
    refine ⟨⟨_, _, W3.ins, by decide +kernel⟩, ?_⟩
    walk_at "pyK"
    refine ⟨p, a, f', old, L, E, _, e.link, dep, dis, rfl, W3, l.1, l.2, hm2, fun C4 W4 F4 => ?_⟩
    have hI4 := W4.ins
    walk_at "pyK"
    -- the keys that were met
    obtain ⟨t1', e1⟩ := memF_ext (fun x s r s' h => meetF_ext n h) hm1
    obtain ⟨t2', e2⟩ := lnkF_ext (fun x s r s' h => meetF_ext n h) hm2
    have e3 : l.2.1 = s.1 ++ key :: (t1' ++ t2') := by rw [e2, e1]; simp
    have hlen : s.2.length < l.2.2.length := by rw [W4.hl, hW.hl, e3, List.length_append, List.length_cons]; omega
    have hix : l.2.1.idxOf key = s.2.length := by rw [e3, List.idxOf_append, if_neg hk, hW.hl]; simp
    have hmem : key ∈ l.2.1 := by rw [e3]; simp
    rw [hW.hl] at hlen hix
    refine .inl ⟨f', _, _, s.1.length, rfl, rfl, W4.hf, by unfold ixN; rw [if_pos (by omega), if_pos (by omega)]; simp, ?_⟩
    have W5 : Wk Cl p a f' old L E (l.2.1, l.2.2.set s.1.length (entD { e with mem := m.1, link := l.1 })) (DL.put C4 f' (.lst (l.2.2.set s.1.length (entD { e with mem := m.1, link := l.1 })))) := by
      have F5 : Fx [a, f'] C4 (DL.put C4 f' (.lst (l.2.2.set s.1.length (entD { e with mem := m.1, link := l.1 })))) := (Fx.refl C4).put (.inl (by simp))
      exact ⟨by rw [put_ne W4.pf]; exact W4.ho, by rw [put_ne W4.af]; exact W4.ha, put_same, by simp [W4.hl], W4.nd, W4.lt, W4.olds.fx F5 W4.oa, W4.onf, W4.el, W4.en⟩
    have F5 : Fx [a, f'] C (DL.put C4 f' (.lst (l.2.2.set s.1.length (entD { e with mem := m.1, link := l.1 })))) := ((F2.trans F3).trans F4).put (.inl (by simp))
    rw [hW.hl] at h
    have hv5 : valD (numD l.2.1) (Sum.inl (key : Int)) = some (.int (s.1.length : Nat)) := by rw [num_val, if_pos hmem, hix, Nat.zero_add]
    have hk5 := h _ W5 F5
    change WSs X _ _ (DL.put C4 f' (.lst (l.2.2.set s.1.length (entD { e with mem := m.1, link := l.1 })))) _
    generalize DL.put C4 f' (.lst (l.2.2.set s.1.length (entD { e with mem := m.1, link := l.1 }))) = C5 at W5 hk5 ⊢
    have hI5 := W5.ins
    have ha5 := W5.ha
    walk_at "pyK"
    refine .inr ⟨_, _, Sum.inl (key : Int), _, rfl, rfl, ha5, hv5, ?_⟩
    exact hk5
end
end K31
namespace K31
section
variable {P : Program} {w : World} {K : PySem.W.Frag} {mg : Str → Option Value} {base : Heap} {Cl Cf Ct : Addr}
theorem ftD_val : ∀ {fs : List Ft} {i j : Nat} {f : Ft}, fs[j]? = some f → valD (ftD i fs) (Sum.inl ((i + j : Nat) : Int)) = some (.own f.a)
  | [], _, _, _, h => by simp at h
  | x :: fs, i, 0, f, h => by
    have h : x = f := by simpa using h
    subst h
    unfold valD
    rw [ftD, List.find?_cons, Nat.add_zero, decide_eq_true rfl]; rfl
  | x :: fs, i, j + 1, f, h => by
    have ih := ftD_val (i := i + 1) (show fs[j]? = some f by simpa using h)
    have h' : ¬ ((Sum.inl (i : Int) : Key) = Sum.inl ((i + (j + 1) : Nat) : Int)) := fun e => by have := Sum.inl.inj e; omega
    unfold valD at ih ⊢
    rw [ftD, List.find?_cons]
    simp only [h', decide_false]
    rw [show i + (j + 1) = i + 1 + j by omega]
    exact ih
theorem Rc.ix {p : Addr} {A : RA} {V : RV} {m : Nat} {C : CS} {pre post : List Ft} {f : Ft} {k : KD} (h : Rc Cl Cf Ct p A V m C) (hv : V.fts = pre ++ f :: post) (q : k (.own f.a) C) : dIxD (.own A.F) (.int (pre.length : Nat)) C k := by
  have hj : V.fts[pre.length]? = some f := by rw [hv]; simp
  have e := ftD_val (i := 0) hj
  rw [Nat.zero_add] at e
  exact .inr ⟨A.F, _, Sum.inl ((pre.length : Nat) : Int), _, rfl, rfl, h.fa, e, q⟩
/-- nothing is handled, no cause, not alone -/
def spFly0 (Cl Cf Ct : Addr) : DSp := fun ds C k => ∃ p A V m, ∃ pre post : List Ft, ∃ f fs g, ds = [.own p, .int (pre.length : Nat), .non, .bl false] ∧ Rc Cl Cf Ct p A V m C ∧ V.fts = pre ++ f :: post ∧ V.cgt = [] ∧ V.frs = fs ++ [g] ∧ f.ps.length < 1000 ∧
  ∀ C', Rc Cl Cf Ct p A { V with fts := pre ++ { f with ps := fmR g :: f.ps } :: post, cur := some pre.length } m C' → (∀ q c, q ∉ [p, f.pa] → C q = some c → C' q = some c) → k .non C'
theorem ok_fly0 {f : Addr} {fd : FuncData} (F : Fun K "fly" "Recorder.fly" s_Recorder_fly f fd) (T : Rcc K Cl) (Tt : Ftc K Ct) (h1 : MthC P w K mg base Cf "row" 1 [] (spFrR Cf)) : FnG P w K mg base CX0 2 f fd P_Recorder_fly (toSp K (spFly0 Cl Cf Ct)) := by
  refine fnX F sc_Recorder_fly v_Recorder_fly l_Recorder_fly g_Recorder_fly (fun ds C k h => by obtain ⟨_, _, _, _, _, _, _, _, _, rfl, _⟩ := h; rfl) fun X hB ds C k h => ?_
  obtain ⟨p, A, V, m, pre, post, f, fs, g, rfl, hR, hv, hcg, hfs, hpl, h⟩ := h
  obtain ⟨hx, hn, hs, hg, hd, hnox⟩ := hB
  obtain ⟨hf1, hf2, hf3⟩ := hR.ft f (by rw [hv]; simp)
  have hgm := hR.fr g (by rw [hfs]; simp)
  change WSs X _ [some (.own p), some (.int (pre.length : Nat)), some .non, some (.bl false), none, none] C _
  refine wss_consH ?_
  walk_at "pyK"
  refine ⟨Cl, rcK, _, .own A.F, insD_own hR.ins, T.f3, fgR rfl, ?_⟩
  walk_at "pyK"
  refine hR.ix hv ?_
  show WSh X _ [some (.own p), some (.int (pre.length : Nat)), some .non, some (.bl false), some (.own f.a), none] C _
  refine wsh_go (wss_consH ?_)
  refine ws_nm hs (by walk_at "nm") (by walk_at "nm") (we_if (xt_neLE hx ?_))
  walk_at "pyC"
  refine ⟨Cl, rcK, _, .own A.K, insD_own hR.ins, T.f5, fgR rfl, ?_⟩
  walk_at "pyC"
  refine we_nil fun q hq => ?_
  have hR2 := hR.up (sub_new (c := .lst []) hq)
  have hs2 := sub_new (c := .lst []) hq
  have hf12 := hs2 _ _ hf1
  have hf32 := hs2 _ _ hf3
  have hg2 := hs2 _ _ hgm
  have hca := hR2.ca
  rw [hcg] at hca
  refine ⟨A.K, q, _, rfl, rfl, hca, put_same, false, rfl, (fun z => nomatch z), fun _ => ?_⟩
  generalize DL.put C q (.lst []) = C2 at hR2 hs2 hf12 hf32 hg2 hca ⊢
  walk_at "pyC"
  refine wsh_go (wss_consH ?_)
  walk_at "pyC"
  all_goals try walk_at "bad"
  refine wsh_go (wss_consH ?_)
  refine ws_expr (x_insert ?_)
  walk_at "pyC"
  refine ⟨Ct, ftK, _, .own f.pa, insD_own hf12, Tt.f4, fgX rfl rfl, ?_⟩
  refine ty_own hf32 ?_
  walk_at "pyC"
  have hst := hR2.st
  refine x_meth0 hx h1 ?_ (by omega)
  walk_at "pyC"
  refine ⟨Cl, rcK, _, .own A.S, insD_own hR2.ins, T.f1, fgR rfl, ?_⟩
  walk_at "pyC"
  have hst' : C2 A.S = some (.lst (fs.map (fun f => D.own f.a) ++ [.own g.a])) := by rw [hst, hfs, List.map_append]; rfl
  refine ix_o hst' (at_last _ _) ?_
  refine ⟨⟨_, _, insD_own hg2, by decide +kernel⟩, ?_⟩
  refine ⟨g, rfl, hg2, ?_⟩
  walk_at "pyC"
  refine ⟨f.pa, f.ps, fmR g, 0, rfl, rfl, hf32, Nat.lt_trans hpl (by decide), by decide, by decide, ?_⟩
  show WSh X _ [some (.own p), some (.int (pre.length : Nat)), some .non, some (.bl false), some (.own f.a), some .non] (DL.put C2 f.pa (.lst (fmR g :: f.ps))) _
  have hpp : p ≠ f.pa := fun e => by have := hR2.ins; rw [e, hf32] at this; cases this
  have hi3 : DL.put C2 f.pa (.lst (fmR g :: f.ps)) p = some (.ins Cl rcK (rcXs A V)) := by rw [put_ne hpp]; exact hR2.ins
  have hR3 := hR2.flown (r := fmR g) hv
  refine wsh_go (wss_consH ?_)
  refine x_setFld hx ?_
  walk_at "pyC"
  refine ⟨p, Cl, rcK, _, rcK, rcXs A { V with fts := pre ++ { f with ps := fmR g :: f.ps } :: post, cur := some pre.length }, rfl, hi3, T.f6, by decide, .there (by decide +kernel) (.there (by decide +kernel) (.there (by decide +kernel) (.there (by decide +kernel) (.there (by decide +kernel) (.here _ _ _))))), ?_⟩
  refine wsh_go (wss_nil ?_)
  refine h _ hR3 fun q' c hq' hc => ?_
  simp only [List.mem_cons, List.not_mem_nil, or_false, not_or] at hq'
  rw [put_ne hq'.1, put_ne hq'.2]
  exact hs2 _ _ hc
end
end K31
namespace K31
theorem Fx.via {bs bs' : List Addr} {C C1 C2 : CS} (h2 : Fx bs' C1 C2) (h : Fx bs C C1) (hb : ∀ q ∈ bs', q ∈ bs ∨ C q = none) : Fx bs C C2 := fun q x y => by
  have e := h q x y
  rw [h2 q (fun z => (hb q z).elim x y) (by rw [e]; exact y), e]
theorem Fx.none {C C1 : CS} (h : Fx [] C C1) {r : Addr} (hr : C1 r = Option.none) : C r = Option.none := by
  cases e : C r with
  | none => rfl
  | some c => have := h.at (by simp) e; rw [hr] at this; cases this
theorem put_none {C : CS} {a b : Addr} {c : Cell} (h : (DL.put C b c) a = Option.none) : C a = Option.none := by
  by_cases e : a = b
  · subst e; rw [put_same] at h; cases h
  · rwa [put_ne e] at h
abbrev recKs : List Str := ["kept", "head"]
def recFs (E : List Ent) : List D := [.tup (E.map entD), .str (match E with | [] => "" | e :: _ => headS e.kind e.msg)]
/-- a record: its cell, or frozen -/
def RecIs (Cr : Addr) (C : CS) (x : D) (E : List Ent) : Prop := insD C x = some (Cr, recKs, recFs E)
structure Trc (K : PySem.W.Frag) (Cl : Addr) : Prop where
  f1 : FldC K Cl "kept"
  f2 : FldC K Cl "head"
section
variable {P : Program} {w : World} {K : PySem.W.Frag} {mg : Str → Option Value} {base : Heap} {Cr Cw Ct : Addr}
def spRInit (Cr : Addr) : DSp := fun ds C k => ∃ p o E, ds = [.own p, .own o] ∧ C p = some (.ins Cr [] []) ∧ C o = some (.lst (E.map entD)) ∧ E ≠ [] ∧ (∀ e ∈ E, e.kind.length ≤ 1000 ∧ e.msg.length ≤ 1000000) ∧ ∀ C', C' p = some (.ins Cr recKs (recFs E)) → Fx [p] C C' → k .non C'
theorem ok_rInit {f : Addr} {fd : FuncData} (F : Fun K "__init__" "Record.__init__" s_Record___init__ f fd) (T : Trc K Cr) (Z : Zs mg) (h1 : FnC P w K mg base "headline" 1 spHead) : FnG P w K mg base CX0 2 f fd P_Record___init__ (toSp K (spRInit Cr)) := by
  refine fnX F sc_Record___init__ v_Record___init__ l_Record___init__ g_Record___init__ (fun ds C k h => by obtain ⟨_, _, _, rfl, _⟩ := h; rfl) fun X hB ds C k h => ?_
  obtain ⟨p, o, E, rfl, hp, hE, hne, hlen, h⟩ := h
  obtain ⟨hx, hn, hs, hg, hd, hnox⟩ := hB
  have tf1 := T.f1
  have tf2 := T.f2
  cases E with
  | nil => exact absurd rfl hne
  | cons e es =>
  change WSs X _ [some (.own p), some (.own o)] C _
  refine wss_cons ?_
  walk_at "pyK"
  refine tuple_A (seqR_own hE) ?_
  walk_at "pyK"
  refine ⟨p, Cr, [], [], _, _, rfl, hp, T.f1, by decide, fp_app rfl (by decide), ?_⟩
  have hI1 : insD (DL.put C p (.ins Cr (([] : List Str) ++ (["kept"] : List Str)) (([] : List D) ++ [D.tup ((e :: es).map entD)]))) (.own p) = some (Cr, ([] : List Str) ++ (["kept"] : List Str), ([] : List D) ++ [D.tup ((e :: es).map entD)]) := insD_own put_same
  walk_at "pyK"
  walk_at "pyK"
  refine ix_t (at_nat (i := 0) rfl) ?_
  walk_at "pyK"
  have hl := hlen e (by simp)
  refine ⟨e, rfl, hl.1, hl.2, ?_⟩
  walk_at "pyK"
  refine ⟨p, Cr, _, _, _, _, rfl, put_same, T.f2, by decide, fp_app rfl (by decide +kernel), ?_⟩
  rw [put_put]
  walk_at "pyK"
  exact h _ put_same ((Fx.refl C).put (.inl (by simp)))
/-! the record of an error -/
def entF (f : Ft) : Ent := ⟨f.kd, f.ms, f.sd, f.ps, .non, f.ti.map fun e => (e.1, some e.2)⟩
theorem entF_D (f : Ft) : entD (entF f) = .tup [.str f.kd, .str f.ms, .tup (f.sd.map D.str), .tup f.ps, .non, tiD f.ti] := by
  obtain ⟨a, kd, ms, sa, sd, pa, ps, ti, al⟩ := f
  cases ti <;> rfl
theorem entK_app : ∀ (i : Nat) (E : List Ent) (e : Ent), entK i (E ++ [e]) = entK i E ++ [(Sum.inl ((i + E.length : Nat) : Int), entD e)]
  | i, [], e => rfl
  | i, g :: E, e => by
    rw [List.cons_append, entK, entK_app, entK, List.cons_append, List.length_cons]
    rw [show i + 1 + E.length = i + (E.length + 1) by omega]
theorem entK_key : ∀ {i : Nat} {E : List Ent} {e : Key × D}, e ∈ entK i E → ∃ j : Nat, i ≤ j ∧ j < i + E.length ∧ e.1 = Sum.inl (j : Int)
  | i, [], e, h => by simp [entK] at h
  | i, f :: E, e, h => by
    rw [entK] at h
    rcases List.mem_cons.mp h with rfl | h
    · exact ⟨i, Nat.le_refl _, by rw [List.length_cons]; omega, rfl⟩
    · obtain ⟨j, h1, h2, h3⟩ := entK_key h
      exact ⟨j, by omega, by rw [List.length_cons]; omega, h3⟩
theorem entK_len : ∀ (i : Nat) (E : List Ent), (entK i E).length = E.length
  | _, [] => rfl
  | i, f :: E => by rw [entK, List.length_cons, entK_len, List.length_cons]
theorem entK_put (E : List Ent) (e : Ent) : putD (entK 0 E) (Sum.inl ((E.length : Nat) : Int)) (entD e) = entK 0 (E ++ [e]) := by
  rw [entK_app, Nat.zero_add]
  unfold putD
  rw [if_neg]
  rintro h
  obtain ⟨x, hx, hd⟩ := List.any_eq_true.mp h
  obtain ⟨j, _, h2, h3⟩ := entK_key hx
  have := of_decide_eq_true hd
  rw [h3] at this
  have := Sum.inl.inj this
  omega
theorem ftD_at : ∀ {fs : List Ft} {i j : Nat} {ky : Key} {d : D}, (ftD i fs)[j]? = some (ky, d) → ∃ f, fs[j]? = some f ∧ ky = Sum.inl ((i + j : Nat) : Int) ∧ d = .own f.a
  | [], i, j, ky, d, h => by simp [ftD] at h
  | x :: fs, i, 0, ky, d, h => by
    rw [ftD] at h
    have h : (Sum.inl (i : Int), D.own x.a) = (ky, d) := by simpa using h
    cases h
    exact ⟨x, rfl, rfl, rfl⟩
  | x :: fs, i, j + 1, ky, d, h => by
    rw [ftD] at h
    obtain ⟨f, h1, h2, h3⟩ := ftD_at (i := i + 1) (j := j) (by simpa using h)
    exact ⟨f, by simpa using h1, by rw [h2, show i + 1 + j = i + (j + 1) by omega], h3⟩
theorem ne0 {C : CS} {a b : Addr} {c : Cell} (h : C a = some c) (h2 : C b = none) : a ≠ b := fun e => by rw [e, h2] at h; cases h
theorem put_del {C : CS} {a : Addr} {c : Cell} (h : C a = some c) : DL.put (DL.del C a) a c = C := by
  funext x
  by_cases e : x = a
  · subst e; rw [put_same, h]
  · rw [put_ne e, DL.del_ne e]
/-- what is met from error i -/
def MetF (N : Nat) (fts : List Ft) (i : Nat) (E : List Ent) : Prop := (∃ n ks, n ≤ N ∧ meetF {} (fts.map entF) n i 0 0 ([], []) = some (0, (ks, E.map entD))) ∧ E ≠ [] ∧ ∀ e ∈ E, e.kind.length ≤ 1000 ∧ e.msg.length ≤ 1000000
def spRec (Ct Cr : Addr) (N : Nat) : DSp := fun ds C k => ∃ q, ∃ fts : List Ft, ∃ i E, ds = [.own q, .int (i : Nat)] ∧ C q = some (.dic (ftD 0 fts)) ∧ (∀ f ∈ fts, C f.a = some (ftC Ct f) ∧ C f.sa = some (.lst (f.sd.map D.str)) ∧ C f.pa = some (.lst f.ps)) ∧ fts.length ≤ 60 ∧ MetF N fts i E ∧
  ∀ C' r, C r = none → C' r = some (.ins Cr recKs (recFs E)) → Fx [] C C' → k (.own r) C'
theorem ok_recorded {f : Addr} {fd : FuncData} (N : Nat) (F : Fun K "recorded" "recorded" s_recorded f fd) (Tw : Twc K Cw) (h1 : MthC P w K mg base Ct "entry" 1 [] (spEnt Ct)) (h2 : MakC P w K mg base "Walk" Cw 1 [.non, .non, .non] (spWInit Cw)) (h3 : ∀ n, n ≤ N → MthC P w K mg base Cw "meet" (2 * n + 2) [] (spMeet Cw n)) (h4 : MakC P w K mg base "Record" Cr 2 [] (spRInit Cr)) : FnG P w K mg base CX0 (2 * N + 4) f fd P_recorded (toSp K (spRec Ct Cr N)) := by
  refine fnX F sc_recorded v_recorded l_recorded g_recorded (fun ds C k h => by obtain ⟨_, _, _, _, rfl, _⟩ := h; rfl) fun X hB ds C k h => ?_
  obtain ⟨q, fts, i, E, rfl, hq, hft, hl, ⟨⟨n, ks, hnN, hmet⟩, hne, hlen⟩, h⟩ := h
  obtain ⟨hx, hn, hs, hg, hd, hnox⟩ := hB
  change WSs X _ [some (.own q), some (.int (i : Nat)), none, none, none] C _
  refine wss_consH ?_
  refine ws_nm hs (by walk_at "nm") (by walk_at "nm") ?_
  refine x_make hx h2 (by walk_at "gl") ?_ (by omega)
  refine wa_cons (x_dcItems ["one", "fault"] [] hd (by walk_at "nm") (fun _ => by walk_at "nm") (by decide) (by decide +kernel) (by decide +kernel) (by decide +kernel) (by decide +kernel) (by decide +kernel) hq ?_)
  walk_at "pyC"
  refine ⟨rfl, fun j acc C' => C' = DL.del C q ∧ acc = entK 0 ((fts.map entF).take j), ⟨rfl, rfl⟩, ?_, ?_⟩
  · rintro j ky d acc C1 hj ⟨rfl, rfl⟩ X' hX hn' hg'
    have hx' := hx.blk hX
    obtain ⟨f, hfj, rfl, rfl⟩ := ftD_at hj
    obtain ⟨f1, f2, f3⟩ := hft f (List.mem_of_getElem? hfj)
    have nq : ∀ {x c}, C x = some c → (∀ l, c ≠ .dic l) → x ≠ q := fun hx hc e => by rw [e, hq] at hx; cases hx; exact hc _ rfl
    have g1 : DL.del C q f.a = some (ftC Ct f) := by rw [DL.del_ne (nq f1 (fun _ e => by cases e))]; exact f1
    have g2 : DL.del C q f.sa = some (.lst (f.sd.map D.str)) := by rw [DL.del_ne (nq f2 (fun _ e => by cases e))]; exact f2
    have g3 : DL.del C q f.pa = some (.lst f.ps) := by rw [DL.del_ne (nq f3 (fun _ e => by cases e))]; exact f3
    have hjl := (List.getElem?_eq_some_iff.mp hfj).1
    show WE X' _ [some (.own q), some (.int (i : Nat)), none, some (.int ((0 + j : Nat) : Int)), some (.own f.a)] _ _
    walk_at "pyC"
    intro X2 hX2 hn2 hg2
    have hx2 := hx.blk hX2
    refine x_meth0 hx2 h1 ?_ (by omega)
    walk_at "pyC"
    refine ⟨⟨_, _, insD_own g1, by decide +kernel⟩, ?_⟩
    refine ⟨f, rfl, g1, g2, g3, ?_⟩
    have hk := entK_put ((fts.map entF).take j) (entF f)
    rw [List.length_take, List.length_map, Nat.min_eq_left (Nat.le_of_lt hjl)] at hk
    refine ⟨Sum.inl ((0 + j : Nat) : Int), rfl, ?_, rfl, ?_⟩
    · rw [entK_len]; exact Nat.lt_of_le_of_lt (Nat.le_trans (List.length_take_le' ..) (by rw [List.length_map]; exact hl)) (by decide)
    · rw [← entF_D, Nat.zero_add, hk, List.take_succ, List.getElem?_map, hfj]; rfl
  rintro acc C1 ⟨rfl, rfl⟩ a ha hne2
  rw [ftD_len, show (fts.map entF).take fts.length = fts.map entF from List.take_of_length_le (by rw [List.length_map]; exact Nat.le_refl _), put_del hq]
  have ha0 : C a = none := by rw [DL.del_ne hne2] at ha; exact ha
  walk_at "pyC"
  intro wk hwk
  have F0 : Fx [] C (DL.put C a (.dic (entK 0 (fts.map entF)))) := (Fx.refl C).put (.inr ha0)
  have hold : OldIs (DL.put C a (.dic (entK 0 (fts.map entF)))) (.own a) (fts.map entF) := ⟨a, rfl, put_same⟩
  generalize DL.put C a (.dic (entK 0 (fts.map entF))) = C1 at hwk F0 hold ⊢
  refine ⟨wk, .own a, {}, fts.map entF, rfl, put_same, hold.fx ((Fx.refl C1).put (.inr hwk)) (fun _ _ => List.not_mem_nil), by rw [List.length_map]; omega, fun e he => by obtain ⟨f, _, rfl⟩ := List.mem_map.mp he; exact Nat.zero_le _, fun C2 a1 f1 W0 G0 ha1 hf1 => ⟨rfl, ?_⟩⟩
  have F1 : Fx [] C1 C2 := Fx.via G0 ((Fx.refl C1).put (.inr hwk)) fun q hq => by rw [List.mem_singleton.mp hq]; exact .inr hwk
  have ha1 := put_none ha1
  have hf1 := put_none hf1
  refine wsh_go (wss_consH ?_)
  walk_at "pyC"
  refine x_meth hx (h3 n hnN) ?_ (by omega)
  walk_at "pyC"
  refine ⟨⟨_, _, W0.ins, by decide +kernel⟩, ?_⟩
  walk_at "pyC"
  refine ⟨wk, a1, f1, .own a, {}, fts.map entF, ([], []), i, 0, 0, rfl, W0, 0, _, hmet, fun C3 W3 F3 => ?_⟩
  have F2 : Fx [] C1 C3 := Fx.via F3 F1 fun q hq => by
    simp only [List.mem_cons, List.not_mem_nil, or_false] at hq
    rcases hq with rfl | rfl
    · exact .inr ha1
    · exact .inr hf1
  refine wsh_go (wss_consH ?_)
  walk_at "pyC"
  refine x_make hx h4 (by walk_at "gl") ?_ (by omega)
  walk_at "pyC"
  refine ⟨Cw, wkKs, _, .own f1, W3.ins, Tw.f6, fgX rfl rfl, ?_⟩
  walk_at "pyC"
  intro r hr
  refine ⟨r, f1, E, rfl, put_same, by rw [put_ne (ne0 W3.hf hr)]; exact W3.hf, hne, hlen, fun C4 h5 F4 => ⟨rfl, ?_⟩⟩
  have hr1 := Fx.none F2 hr
  have hr0 := Fx.none F0 hr1
  refine h C4 r hr0 h5 (Fx.via (Fx.via F4 (F2.put (.inr hr1)) fun q hq => by rw [List.mem_singleton.mp hq]; exact .inr hr1) F0 fun q hq => by simp at hq)
end
end K31
namespace K31
section
variable {P : Program} {w : World} {K : PySem.W.Frag} {mg : Str → Option Value} {base : Heap} {Cl Cf Ct Cw Cr : Addr}
/-! an error is thrown -/
def spThrow0 (Cl Cf Ct : Addr) : DSp := fun ds C k => ∃ p A V m fs g kd ms, ds = [.own p, .str kd, .str ms, .non, .bl false] ∧ Rc Cl Cf Ct p A V m C ∧ m < 100000 ∧ V.cur = none ∧ V.cgt = [] ∧ V.frs = fs ++ [g] ∧ V.fts.length < 60 ∧ Ob (.str kd) ∧ isNm (.str kd) = true ∧
  ∀ C' a sa pa, C a = none → C sa = none → C pa = none → Rc Cl Cf Ct p A { V with fts := V.fts ++ [⟨a, kd, ms, sa, [], pa, [fmR g], none, false⟩], cur := some V.fts.length } (m + 1) C' → (∀ q c, q ∉ [p, A.F, A.L] → C q = some c → C' q = some c) → k .non C'
theorem ok_throw0 {f : Addr} {fd : FuncData} (F : FunW K "throw" "Recorder.throw" s_Recorder_throw f fd) (h1 : MthC P w K mg base Cl "look_throw" 3 [] (spLkThrow Cl Cf Ct)) (h2 : MthC P w K mg base Cl "cause_of" 1 [] spCause0) (h3 : MthC P w K mg base Cl "fly" 2 [] (spFly0 Cl Cf Ct)) (h4 : MthC P w K mg base Cl "made" 1 [] (spMade Cl Cf Ct)) (h5 : MakC P w K mg base "Fault" Ct 1 [] (spFtI Ct)) (h6 : MthC P w K mg base Cl "keep" 1 [] (spKeep Cl Cf Ct)) : FnG P w K mg base CX0 4 f fd P_Recorder_throw (toSp K (spThrow0 Cl Cf Ct)) := by
  refine fnXW F sc_Recorder_throw v_Recorder_throw l_Recorder_throw g_Recorder_throw (fun ds C k h => by obtain ⟨_, _, _, _, _, _, _, _, rfl, _⟩ := h; rfl) fun X hB ds C k h => ?_
  obtain ⟨p, A, V, m, fs, g, kd, ms, rfl, hR, hm, hcur, hcg, hfs, hfl, hO, hN, h⟩ := h
  obtain ⟨hx, hn, hs, hg, hd, hnox⟩ := hB
  change WSs X _ [some (.own p), some (.str kd), some (.str ms), some .non, some (.bl false), none] C _
  refine wss_consH ?_
  walk_at "pyC"
  refine x_meth hx h1 ?_ (by omega)
  walk_at "pyC"
  refine ⟨⟨_, _, insD_own hR.ins, by decide +kernel⟩, ?_⟩
  walk_at "pyC"
  refine ⟨p, A, V, m, kd, ms, rfl, hR, hcur, by rw [hfs]; simp, hO, hN, ?_⟩
  refine wsh_go (wss_consH ?_)
  walk_at "pyC"
  refine x_meth hx h2 ?_ (by omega)
  walk_at "pyC"
  refine ⟨⟨_, _, insD_own hR.ins, by decide +kernel⟩, ?_⟩
  walk_at "pyC"
  refine ⟨p, rfl, ?_⟩
  walk_at "pyC"
  refine wsh_go (wss_consH ?_)
  refine ws_expr (x_meth hx h3 ?_ (by omega))
  walk_at "pyC"
  refine ⟨⟨_, _, insD_own hR.ins, by decide +kernel⟩, ?_⟩
  refine wa_cons (x_meth hx h4 ?_ (by omega))
  walk_at "pyC"
  refine ⟨⟨_, _, insD_own hR.ins, by decide +kernel⟩, ?_⟩
  refine wa_cons (x_make hx h5 (by walk_at "gl") ?_ (by omega))
  walk_at "pyC"
  intro a ha
  refine ⟨a, kd, ms, rfl, put_same, fun C1 sa pa hsa hpa hsp hsn hpn e1 e2 e3 kp1 => ⟨rfl, ?_⟩⟩
  have hsa0 := put_none hsa
  have hpa0 := put_none hpa
  have sub1 : ∀ q c, C q = some c → C1 q = some c := fun q c hc => kp1 q c (ne0 hc ha) (sub_new ha _ _ hc)
  have hR1 := hR.up sub1
  walk_at "pyC"
  refine ⟨p, A, V, m, ⟨a, kd, ms, sa, [], pa, [], none, false⟩, rfl, hR1, hfl, e1, e2, e3, hsp, fun q hq => ?_, fun g hg => ?_, fun C2 hR2 kp2 => ?_⟩
  · have hz : ∃ c, C q = some c := by
      obtain ⟨ds, hds, _⟩ := hR.dn
      simp only [List.mem_cons, List.not_mem_nil, or_false] at hq
      rcases hq with rfl | rfl | rfl | rfl
      · exact ⟨_, hR.st⟩
      · exact ⟨_, hR.ca⟩
      · exact ⟨_, hR.ss⟩
      · exact ⟨_, hds⟩
    obtain ⟨c, hc⟩ := hz
    exact ⟨ne0 hc hsa0, ne0 hc hpa0⟩
  · obtain ⟨q1, q2, q3⟩ := hR.ft g hg
    exact ⟨ne0 q1 ha, ne0 q2 hsa0, ne0 q2 hpa0, ne0 q3 hsa0, ne0 q3 hpa0⟩
  walk_at "pyC"
  refine ⟨p, A, { V with fts := V.fts ++ [⟨a, kd, ms, sa, [], pa, [], none, false⟩] }, m, V.fts, [], ⟨a, kd, ms, sa, [], pa, [], none, false⟩, fs, g, rfl, hR2, rfl, hcg, hfs, by simp, fun C3 hR3 kp3 => ?_⟩
  refine wsh_go (wss_consH ?_)
  walk_at "pyC"
  refine x_meth hx h6 ?_ (by omega)
  walk_at "pyC"
  refine ⟨⟨_, _, insD_own hR3.ins, by decide +kernel⟩, ?_⟩
  walk_at "pyC"
  refine ⟨p, A, _, m, _, rfl, hR3, hm, fun C4 hR4 kp4 => ?_⟩
  refine wsh_go (wss_nil ?_)
  refine h C4 a sa pa ha hsa0 hpa0 hR4 fun q c hq hc => ?_
  simp only [List.mem_cons, List.not_mem_nil, or_false, not_or] at hq
  rw [kp4 q hq.2.2]
  refine kp3 q c ?_ ?_
  · simp only [List.mem_cons, List.not_mem_nil, or_false, not_or]
    exact ⟨hq.1, ne0 hc hpa0⟩
  · rw [kp2 q hq.2.1]; exact sub1 q c hc
end
end K31
namespace K31
section
variable {P : Program} {w : World} {K : PySem.W.Frag} {mg : Str → Option Value} {base : Heap} {Cl Cf Ct Cw Cr : Addr}
theorem put_id {C : CS} {a : Addr} {c : Cell} (h : C a = some c) : DL.put C a c = C := by
  funext x
  by_cases e : x = a
  · subst e; rw [put_same, h]
  · rw [put_ne e]
/-- another error, or none, is in flight -/
theorem Rc.fly {p : Addr} {A : RA} {V : RV} {m : Nat} {C : CS} (h : Rc Cl Cf Ct p A V m C) (c : Option Nat) : Rc Cl Cf Ct p A { V with cur := c } m (DL.put C p (.ins Cl rcK (rcXs A { V with cur := c }))) := by
  have nk : ∀ {q Cx ks xs}, C q = some (.ins Cx ks xs) → ks ≠ rcK → q ≠ p := fun hq hne e => by
    rw [e, h.ins] at hq
    injection hq with hq
    injection hq with _ hq _
    exact hne hq.symm
  have np : ∀ {q c}, C q = some c → (∀ a b d, c ≠ .ins a b d) → q ≠ p := fun hq hc e => by rw [e, h.ins] at hq; cases hq; exact hc _ _ _ rfl
  obtain ⟨C', hC'⟩ : ∃ C', C' = DL.put C p (.ins Cl rcK (rcXs A { V with cur := c })) := ⟨_, rfl⟩
  rw [← hC']
  have kp : ∀ q c, q ≠ p → C q = some c → C' q = some c := fun q c h1 hc => by rw [hC', put_ne h1]; exact hc
  have kl : ∀ {q l}, C q = some (.lst l) → C' q = some (.lst l) := fun hq => kp _ _ (np hq (fun _ _ _ e => by cases e)) hq
  have kd : ∀ {q l}, C q = some (.dic l) → C' q = some (.dic l) := fun hq => kp _ _ (np hq (fun _ _ _ e => by cases e)) hq
  have ki : ∀ {q Cx ks xs}, C q = some (.ins Cx ks xs) → ks ≠ rcK → C' q = some (.ins Cx ks xs) := fun hq hne => kp _ _ (nk hq hne) hq
  obtain ⟨ds, hds, hl⟩ := h.dn
  exact ⟨by rw [hC']; exact put_same, kl h.st, fun g hg => ki (h.fr g hg) (by decide +kernel), h.nd, kd h.fa, fun g hg => ⟨ki (h.ft g hg).1 (by decide +kernel), kl (h.ft g hg).2.1, kl (h.ft g hg).2.2⟩, kd h.bd, kl h.ca, kl h.ss, ⟨ds, kl hds, hl⟩, h.sk, h.sT, h.sl, h.kt, h.kl, h.tl, h.fb, h.fl, h.lf⟩
/-! the error in flight -/
def spFlying (Cl Cf Ct Cr : Addr) (N : Nat) : DSp := fun ds C k => ∃ p A V m, ds = [.own p] ∧ Rc Cl Cf Ct p A V m C ∧ V.fts.length ≤ 60 ∧ ((V.cur = none ∧ k .non C) ∨ ∃ i E, V.cur = some i ∧ MetF N V.fts i E ∧ ∀ C' r, C r = none → C' r = some (.ins Cr recKs (recFs E)) → Fx [] C C' → k (.own r) C')
theorem ok_flying {f : Addr} {fd : FuncData} (N : Nat) (F : Fun K "flying" "Recorder.flying" s_Recorder_flying f fd) (T : Rcc K Cl) (h1 : FnC P w K mg base "recorded" (2 * N + 4) (spRec Ct Cr N)) : FnG P w K mg base CX0 (2 * N + 5) f fd P_Recorder_flying (toSp K (spFlying Cl Cf Ct Cr N)) := by
  refine fnX F sc_Recorder_flying v_Recorder_flying l_Recorder_flying g_Recorder_flying (fun ds C k h => by obtain ⟨_, _, _, _, rfl, _⟩ := h; rfl) fun X hB ds C k h => ?_
  obtain ⟨p, A, V, m, rfl, hR, hl, h⟩ := h
  obtain ⟨hx, hn, hs, hg, hd, hnox⟩ := hB
  change WSs X _ [some (.own p)] C _
  have hc : FGet rcK (rcXs A V) "current" (curD V.cur) := fgR rfl
  rcases h with ⟨hcur, h⟩ | ⟨i, E, hcur, hM, h⟩
  · rw [hcur] at hc
    refine wss_cons ?_
    refine ws_ret (we_if ?_)
    walk_at "pyC"
    refine ⟨Cl, rcK, _, .non, insD_own hR.ins, T.f6, hc, ?_⟩
    walk_at "pyC"
    all_goals try walk_at "bad"
    exact h
  · rw [hcur] at hc
    refine wss_cons ?_
    refine ws_ret (we_if ?_)
    walk_at "pyC"
    refine ⟨Cl, rcK, _, .int (i : Nat), insD_own hR.ins, T.f6, hc, ?_⟩
    walk_at "pyC"
    all_goals try walk_at "bad"
    refine ⟨Cl, rcK, _, .own A.F, insD_own hR.ins, T.f3, fgR rfl, ?_⟩
    walk_at "pyC"
    refine ⟨Cl, rcK, _, .int (i : Nat), insD_own hR.ins, T.f6, hc, ?_⟩
    walk_at "pyC"
    exact ⟨A.F, V.fts, i, E, rfl, hR.fa, hR.ft, hl, hM, h⟩
/-! an error is passed on -/
def spPass (Cl Cf Ct Cr : Addr) (N : Nat) : DSp := fun ds C k => ∃ p A V m fs g, ∃ pre post : List Ft, ∃ f, ds = [.own p] ∧ Rc Cl Cf Ct p A V m C ∧ m < 100000 ∧ V.fts.length ≤ 60 ∧ V.cur = some pre.length ∧ V.fts = pre ++ f :: post ∧ V.frs = fs ++ [g] ∧ V.cgt.length ≤ 1000 ∧ f.ps.length < 1000 ∧
  (∀ fs' g', fs = fs' ++ [g'] → ∀ C' k' t', C k' = none → C t' = none → Rc Cl Cf Ct p { A with K := k', T := t' } { V with frs := fs, cgt := V.cgt.filter fun e => decide (e.2 ≠ g.num), fts := pre ++ { f with ps := fmR g' :: f.ps } :: post } (m + 1) C' → (∀ q c, q ∉ [p, A.S, A.L, f.pa] → C q = some c → C' q = some c) → k .non C') ∧
  (fs = [] → ∃ E, MetF N V.fts pre.length E ∧ ∀ C' k' t' r, C k' = none → C t' = none → C r = none → C' r = some (.ins Cr recKs (recFs E)) → Rc Cl Cf Ct p { A with K := k', T := t' } { V with frs := [], cgt := V.cgt.filter fun e => decide (e.2 ≠ g.num), cur := none } (m + 1) C' → (∀ q c, q ∉ [p, A.S, A.L] → C q = some c → C' q = some c) → k (.own r) C')
theorem ok_pass {f : Addr} {fd : FuncData} (N : Nat) (hN : 1 ≤ N) (F : Fun K "pass_on" "Recorder.pass_on" s_Recorder_pass_on f fd) (T : Rcc K Cl) (Tt : Ftc K Ct) (h1 : MthC P w K mg base Cl "remove_top" 2 [] (spTop Cl Cf Ct)) (h2 : MthC P w K mg base Cl "keep" 1 [] (spKeep Cl Cf Ct)) (h3 : MthC P w K mg base Cf "row" 1 [] (spFrR Cf)) (h4 : FnC P w K mg base "recorded" (2 * N + 4) (spRec Ct Cr N)) : FnG P w K mg base CX0 (2 * N + 5) f fd P_Recorder_pass_on (toSp K (spPass Cl Cf Ct Cr N)) := by
  refine fnX F sc_Recorder_pass_on v_Recorder_pass_on l_Recorder_pass_on g_Recorder_pass_on (fun ds C k h => by obtain ⟨_, _, _, _, _, _, _, _, _, rfl, _⟩ := h; rfl) fun X hB ds C k h => ?_
  obtain ⟨p, A, V, m, fs, g, pre, post, f, rfl, hR, hm, hfl, hcur, hv, hfs, hcg, hpl, ha, hb⟩ := h
  obtain ⟨hx, hn, hs, hg, hd, hnox⟩ := hB
  obtain ⟨vn, vfrs, vfts, vbnd, vcgt, vcur⟩ := V
  obtain rfl : vcur = some pre.length := hcur
  obtain rfl : vfts = pre ++ f :: post := hv
  obtain rfl : vfrs = fs ++ [g] := hfs
  change WSs X _ [some (.own p), none] C _
  refine wss_consH ?_
  walk_at "pyC"
  refine ⟨Cl, rcK, _, .int (pre.length : Nat), insD_own hR.ins, T.f6, fgR rfl, ?_⟩
  walk_at "pyC"
  all_goals try walk_at "bad"
  refine wsh_go (wss_consH ?_)
  walk_at "pyC"
  refine x_meth0 hx h1 ?_ (by omega)
  walk_at "pyC"
  refine ⟨⟨_, _, insD_own hR.ins, by decide +kernel⟩, ?_⟩
  refine ⟨p, A, _, m, fs, g, rfl, hR, rfl, hcg, fun C1 k' t' hk0 ht0 hR1 kp1 => ?_⟩
  refine wsh_go (wss_consH ?_)
  walk_at "pyC"
  refine x_meth hx h2 ?_ (by omega)
  walk_at "pyC"
  refine ⟨⟨_, _, insD_own hR1.ins, by decide +kernel⟩, ?_⟩
  walk_at "pyC"
  refine ⟨p, _, _, m, _, rfl, hR1, hm, fun C2 hR2 kp2 => ?_⟩
  have kp02 : ∀ q c, q ∉ [p, A.S, A.L] → C q = some c → C2 q = some c := fun q c hq hc => by
    simp only [List.mem_cons, List.not_mem_nil, or_false, not_or] at hq
    rw [kp2 q hq.2.2]
    exact kp1 q c (by simp [hq.1, hq.2.1]) hc
  have hins := hR2.ins
  have hst := hR2.st
  have hfa := hR2.fa
  refine wsh_go (wss_consH ?_)
  refine ws_if (xt_neLE hx ?_)
  walk_at "pyC"
  refine ⟨Cl, rcK, _, .own A.S, insD_own hins, T.f1, fgR rfl, ?_⟩
  walk_at "pyC"
  refine we_nil fun q hq => ?_
  have hR3 := hR2.up (sub_new (c := .lst []) hq)
  have hs3 := sub_new (c := .lst []) hq
  have kp03 : ∀ q' c, q' ∉ [p, A.S, A.L] → C q' = some c → DL.put C2 q (.lst []) q' = some c := fun q' c hq' hc => hs3 _ _ (kp02 q' c hq' hc)
  refine ⟨A.S, q, _, rfl, rfl, hR3.st, put_same, ?_⟩
  generalize DL.put C2 q (.lst []) = C3 at hR3 kp03 ⊢
  rcases List.eq_nil_or_concat fs with rfl | ⟨fs', g', hfs2⟩
  · refine ⟨false, rfl, (fun z => nomatch z), fun _ => ?_⟩
    obtain ⟨E, hM, hk⟩ := hb rfl
    refine wss_nil ?_
    refine wsh_go (wss_consH ?_)
    walk_at "pyC"
    refine ⟨Cl, rcK, _, .own A.F, insD_own hR3.ins, T.f3, fgR rfl, ?_⟩
    walk_at "pyC"
    refine ⟨Cl, rcK, _, .int (pre.length : Nat), insD_own hR3.ins, T.f6, fgR rfl, ?_⟩
    walk_at "pyC"
    refine ⟨A.F, _, pre.length, E, rfl, hR3.fa, hR3.ft, hfl, hM, fun C4 r hr hr4 F4 => ?_⟩
    show WSh X _ [some (.own p), some (.own r)] C4 _
    have hR4 := hR3.up fun x c hc => F4.at (by simp) hc
    refine wsh_go (wss_consH ?_)
    refine x_setFld hx ?_
    walk_at "pyC"
    refine ⟨p, Cl, rcK, _, rcK, rcXs { A with K := k', T := t' } { n := vn, frs := [], fts := pre ++ f :: post, bnd := vbnd, cgt := vcgt.filter fun e => decide (e.2 ≠ g.num), cur := none }, rfl, hR4.ins, T.f6, by decide, .there (by decide +kernel) (.there (by decide +kernel) (.there (by decide +kernel) (.there (by decide +kernel) (.there (by decide +kernel) (.here _ _ _))))), ?_⟩
    have hrp : r ≠ p := fun e => by have := hR3.ins; rw [← e, hr] at this; cases this
    have hR5 := hR4.fly none
    have h5 : DL.put C4 p (.ins Cl rcK (rcXs { A with K := k', T := t' } { n := vn, frs := [], fts := pre ++ f :: post, bnd := vbnd, cgt := vcgt.filter fun e => decide (e.2 ≠ g.num), cur := none })) r = some (.ins Cr recKs (recFs E)) := by rw [put_ne hrp]; exact hr4
    have kp5 : ∀ q c, q ∉ [p, A.S, A.L] → C q = some c → DL.put C4 p (.ins Cl rcK (rcXs { A with K := k', T := t' } { n := vn, frs := [], fts := pre ++ f :: post, bnd := vbnd, cgt := vcgt.filter fun e => decide (e.2 ≠ g.num), cur := none })) q = some c := fun q' c hq' hc => by
      have hqp : q' ≠ p := fun e => hq' (by simp [e])
      rw [put_ne hqp]
      exact F4.at (by simp) (kp03 q' c hq' hc)
    have hr0 : C r = none := by
      cases e : C r with
      | none => rfl
      | some c =>
        by_cases hq' : r ∈ [p, A.S, A.L]
        · simp only [List.mem_cons, List.not_mem_nil, or_false] at hq'
          obtain ⟨ds, hds, _⟩ := hR3.dn
          rcases hq' with e | e | e
          · exact absurd e hrp
          · have := hR3.st; rw [← show r = A.S from e, hr] at this; cases this
          · rw [← show r = A.L from e, hr] at hds; cases hds
        · have := kp03 r c hq' e; rw [hr] at this; cases this
    refine wsh_go (wss_cons ?_)
    walk_at "pyC"
    exact hk _ k' t' r hk0 ht0 hr0 h5 hR5 kp5
  · rw [List.concat_eq_append] at hfs2
    subst hfs2
    refine ⟨true, by simp, fun _ => ?_, (fun z => nomatch z)⟩
    obtain ⟨hf1, hf2, hf3⟩ := hR3.ft f (by simp)
    have hgm := hR3.fr g' (by simp)
    refine wss_cons ?_
    refine ws_expr (x_insert ?_)
    walk_at "pyK"
    refine ⟨Cl, rcK, _, .own A.F, insD_own hR3.ins, T.f3, fgR rfl, ?_⟩
    walk_at "pyK"
    refine ⟨Cl, rcK, _, .int (pre.length : Nat), insD_own hR3.ins, T.f6, fgR rfl, ?_⟩
    walk_at "pyK"
    refine hR3.ix rfl ?_
    refine ⟨Ct, ftK, _, .own f.pa, insD_own hf1, Tt.f4, fgX rfl rfl, ?_⟩
    refine ty_own hf3 ?_
    walk_at "pyC"
    refine x_meth0 hx h3 ?_ (by omega)
    walk_at "pyC"
    refine ⟨Cl, rcK, _, .own A.S, insD_own hR3.ins, T.f1, fgR rfl, ?_⟩
    walk_at "pyC"
    have hst' : C3 A.S = some (.lst (fs'.map (fun f => D.own f.a) ++ [.own g'.a])) := by rw [hR3.st, List.map_append]; rfl
    refine ix_o hst' (at_last _ _) ?_
    refine ⟨⟨_, _, insD_own hgm, by decide +kernel⟩, ?_⟩
    refine ⟨g', rfl, hgm, ?_⟩
    walk_at "pyC"
    refine ⟨f.pa, f.ps, fmR g', 0, rfl, rfl, hf3, Nat.lt_trans hpl (by decide), by decide, by decide, ?_⟩
    walk_at "pyC"
    have hpp : p ≠ f.pa := fun e => by have := hR3.ins; rw [e, hf3] at this; cases this
    have hR4 := hR3.flown (r := fmR g') (pre := pre) (post := post) (f := f) rfl
    rw [put_id (by rw [put_ne hpp]; exact hR3.ins)] at hR4
    refine ha fs' g' rfl _ k' t' hk0 ht0 hR4 fun q' c hq' hc => ?_
    simp only [List.mem_cons, List.not_mem_nil, or_false, not_or] at hq'
    show DL.put C3 f.pa (.lst (fmR g' :: f.ps)) q' = some c
    rw [put_ne hq'.2.2.2]
    exact kp03 q' c (by simp [hq'.1, hq'.2.1, hq'.2.2.1]) hc
end
end K31
namespace K31
section
variable {P : Program} {w : World} {K : PySem.W.Frag} {mg : Str → Option Value} {base : Heap} {Cl Cf Ct Cw Cr : Addr}
/-! nothing is held -/
def spMet0 : DSp := fun ds C k => ∃ x q, ds = [x, .own q] ∧ C q = some (.lst []) ∧ ∀ C' r, C r = none → C' r = some (.lst []) → Fx [] C C' → k (.own r) C'
theorem ok_met0 {f : Addr} {fd : FuncData} (F : Fun K "met_from" "met_from" s_met_from f fd) (Z : Zs mg) : FnG P w K mg base CX0 1 f fd P_met_from (toSp K spMet0) := by
  refine fnX F sc_met_from v_met_from l_met_from g_met_from (fun ds C k h => by obtain ⟨_, _, rfl, _⟩ := h; rfl) fun X hB ds C k h => ?_
  obtain ⟨x, q, rfl, hq, h⟩ := h
  obtain ⟨hx, hn, hs, hg, hd, hnox⟩ := hB
  change WSs X _ [some x, some (.own q), none, none, none] C _
  refine wss_consH ?_
  walk_at "pyC"
  refine we_nil fun a ha => ?_
  walk_at "pyC"
  refine ⟨_, _, rfl, seqR_own (by rw [put_ne (ne0 hq ha)]; exact hq), fun l hl => ?_⟩
  walk_at "pyC"
  have F2 : Fx [] C (DL.put (DL.put C a (.lst [])) l (.lst [])) := ((Fx.refl C).put (.inr ha)).put (.inr (put_none hl))
  have hal : a ≠ l := fun e => by rw [e, put_same] at hl; cases hl
  have e1 : (DL.put (DL.put C a (.lst [])) l (.lst [])) a = some (.lst []) := by rw [put_ne hal]; exact put_same
  have e2 : (DL.put (DL.put C a (.lst [])) l (.lst [])) l = some (.lst []) := put_same
  generalize DL.put (DL.put C a (.lst [])) l (.lst []) = C2 at F2 e1 e2 ⊢
  refine wsh_go (wss_consH ?_)
  refine x_while hnox (fun _ env C' => env = [some x, some (.own q), some (.own a), some (.own l), none] ∧ C' = C2) ⟨0, rfl, rfl⟩ ?_
  rintro m env C' ⟨rfl, rfl⟩
  refine xt_neLE hx ?_
  walk_at "pyC"
  refine we_nil fun z hz => ?_
  have hlz : l ≠ z := ne0 e2 hz
  refine ⟨l, z, _, rfl, rfl, by rw [put_ne hlz]; exact e2, put_same, false, rfl, (fun z => nomatch z), fun _ => ?_⟩
  refine wsh_go (wss_cons ?_)
  walk_at "pyC"
  exact h _ a ha (by rw [put_ne (ne0 e1 hz)]; exact e1) (F2.put (.inr (by
    cases e : C z with
    | none => rfl
    | some c => have := F2.at (by simp) e; rw [hz] at this; cases this)))
def spHeld0 (Cl Cf Ct : Addr) : DSp := fun ds C k => ∃ p A V m, ds = [.own p] ∧ Rc Cl Cf Ct p A V m C ∧ V.cur = none ∧ V.bnd = [] ∧ V.cgt = [] ∧ ∀ C', Fx [] C C' → k (.int 0) C'
theorem ok_held0 {f : Addr} {fd : FuncData} (F : Fun K "held" "Recorder.held" s_Recorder_held f fd) (T : Rcc K Cl) (Z : Zs mg) (h1 : FnC P w K mg base "met_from" 1 spMet0) : FnG P w K mg base CX0 2 f fd P_Recorder_held (toSp K (spHeld0 Cl Cf Ct)) := by
  refine fnX F sc_Recorder_held v_Recorder_held l_Recorder_held g_Recorder_held (fun ds C k h => by obtain ⟨_, _, _, _, rfl, _⟩ := h; rfl) fun X hB ds C k h => ?_
  obtain ⟨p, A, V, m, rfl, hR, hcur, hbd, hcg, h⟩ := h
  obtain ⟨hx, hn, hs, hg, hd, hnox⟩ := hB
  obtain ⟨vn, vfrs, vfts, vbnd, vcgt, vcur⟩ := V
  obtain rfl : vcur = none := hcur
  obtain rfl : vbnd = [] := hbd
  obtain rfl : vcgt = [] := hcg
  change WSs X _ [some (.own p), none, none, none, none] C _
  refine wss_consH ?_
  refine ws_nm hs (by walk_at "nm") (by walk_at "nm") (we_add (x_listVals hx Z (by walk_at "gl") ?_))
  walk_at "pyC"
  refine ⟨Cl, rcK, _, .own A.B, insD_own hR.ins, T.f4, fgR rfl, ?_⟩
  refine ⟨A.B, _, rfl, hR.bd, fun q1 hq1 => ?_⟩
  have F1 : Fx [] C (DL.put C q1 (.lst (List.map (fun kv : Key × D => kv.2) (bndD [])))) := (Fx.refl C).put (.inr hq1)
  have hl1 : (DL.put C q1 (.lst (List.map (fun kv : Key × D => kv.2) (bndD [])))) q1 = some (.lst []) := put_same
  have hR1 := hR.up (sub_new (c := .lst (List.map (fun kv : Key × D => kv.2) (bndD []))) hq1)
  generalize DL.put C q1 (.lst (List.map (fun kv : Key × D => kv.2) (bndD []))) = C1 at F1 hl1 hR1 ⊢
  refine lc2 ["number", "frame"] [] hd (by walk_at "nm") (fun _ => by walk_at "nm") (by decide) (by decide +kernel) (by decide +kernel) (by decide +kernel) (by decide +kernel) (by decide +kernel) (wi_ls ?_)
  walk_at "pyC"
  refine ⟨Cl, rcK, _, .own A.K, insD_own hR1.ins, T.f5, fgR rfl, ?_⟩
  refine ⟨[], seqR_own hR1.ca, fun d hd => by simp at hd, LcB.map id (fun z hz => by cases hz; exact hR1.ca) (by decide) (fun d hd => by simp at hd) fun q2 hq2 => ?_⟩
  have hq1n : q1 ≠ q2 := ne0 hl1 hq2
  have hR2 := hR1.up (sub_new (c := .lst (List.map id ([] : List D))) hq2)
  have F2 : Fx [] C (DL.put C1 q2 (.lst (List.map id ([] : List D)))) := F1.put (.inr (Fx.none F1 hq2))
  have hl2 : (DL.put C1 q2 (.lst (List.map id ([] : List D)))) q1 = some (.lst []) := by rw [put_ne hq1n]; exact hl1
  have hl3 : (DL.put C1 q2 (.lst (List.map id ([] : List D)))) q2 = some (.lst []) := put_same
  generalize DL.put C1 q2 (.lst (List.map id ([] : List D))) = C2 at hR2 F2 hl2 hl3 ⊢
  refine add_lst (xs := []) (ys := []) (by simp [seqL, hl2]) (by simp [seqL, hl3]) (by decide) fun q3 hq3 => ?_
  have hR3 := hR2.up (sub_new (c := .lst ([] ++ [])) hq3)
  have F3 : Fx [] C (DL.put C2 q3 (.lst ([] ++ []))) := F2.put (.inr (Fx.none F2 hq3))
  have hl4 : (DL.put C2 q3 (.lst ([] ++ []))) q3 = some (.lst []) := put_same
  generalize DL.put C2 q3 (.lst ([] ++ [])) = C3 at hR3 F3 hl4 ⊢
  show WSh X _ [some (.own p), some (.own q3), none, none, none] C3 _
  refine wsh_go (wss_consH ?_)
  refine ws_augExt hs (by walk_at "nm") (by walk_at "nm") (by walk_at "nm") ?_
  refine we_lcN (own := [("star", 4), ("number", 2)]) (c := ⟨_, _, _, gName 4, [4]⟩) (cs := [⟨_, _, _, gName 2, [2]⟩]) hx.calm hd.nd ?ok rfl ?hg ?hfs (by intro _; rfl) ?_
  case ok =>
    rw [hd.n, hd.sc]
    exact blkOk_by (by decide +kernel)
  case hg =>
    rintro Y ⟨s, H, Ca, cl, fp, rfl⟩
    refine ⟨lc_pg hd rfl (by decide +kernel) s H Ca cl fp, fun c' hc' => ?_⟩
    obtain rfl := List.mem_singleton.mp hc'
    exact lc_pg hd rfl (by decide +kernel) s H Ca cl fp
  case hfs =>
    intro Y hY c' hc' x
    obtain rfl := List.mem_singleton.mp hc'
    rfl
  refine wi_ls ?_
  walk_at "pyC"
  refine ⟨Cl, rcK, _, .own A.T, insD_own hR3.ins, T.f7, fgR rfl, ?_⟩
  refine ⟨[], seqR_own hR3.ss, fun j acc C' => C' = C3 ∧ acc = [], ⟨rfl, rfl⟩, fun j acc C' h a e => ?_, fun j d acc C' hj _ => by simp at hj, ?_⟩
  · obtain ⟨rfl, _⟩ := h
    cases e; exact hR3.ss
  rintro acc C' ⟨rfl, rfl⟩ q4 hq4
  have hR4 := hR3.up (sub_new (c := .lst []) hq4)
  have F4 : Fx [] C (DL.put C' q4 (.lst [])) := F3.put (.inr (Fx.none F3 hq4))
  have hq34 : q3 ≠ q4 := ne0 hl4 hq4
  have hl5 : (DL.put C' q4 (.lst [])) q3 = some (.lst []) := by rw [put_ne hq34]; exact hl4
  have hl6 : (DL.put C' q4 (.lst [])) q4 = some (.lst []) := put_same
  generalize DL.put C' q4 (.lst []) = C4 at hR4 F4 hl5 hl6 ⊢
  refine ⟨q3, q4, [], [], rfl, rfl, hl5, hl6, by decide, ?_⟩
  rw [show DL.put C4 q3 (.lst ([] ++ [])) = C4 from put_id hl5]
  refine wsh_go (wss_cons ?_)
  walk_at "pyC"
  refine ⟨Cl, rcK, _, .own A.F, insD_own hR4.ins, T.f3, fgR rfl, ?_⟩
  refine wa_cons (we_if ?_)
  walk_at "pyC"
  refine ⟨Cl, rcK, _, .non, insD_own hR4.ins, T.f6, fgR rfl, ?_⟩
  walk_at "pyC"
  all_goals try walk_at "bad"
  refine ⟨_, q3, rfl, hl5, fun C5 r hr h5 F5 => ?_⟩
  walk_at "pyC"
  refine .inl (len_own h5 ?_)
  exact h C5 (F4.trans F5)
end
end K31
namespace K31
section
variable {P : Program} {w : World} {K : PySem.W.Frag} {mg : Str → Option Value} {base : Heap}
/-- the bag of draws at b: at most n were mixed -/
def Bag (C : CS) (b : Addr) (n : Nat) : Prop := ∃ x y c : Int, C b = some (.lst [.int x, .int y, .int c]) ∧ 0 ≤ x ∧ 0 ≤ y ∧ y < 2305843009300000000 ∧ 0 ≤ c ∧ c ≤ n
theorem Bag.mono {C : CS} {b : Addr} {n m : Nat} (h : Bag C b n) (hm : n ≤ m) : Bag C b m := by
  obtain ⟨x, y, c, h1, h2, h3, h4, h5, h6⟩ := h
  exact ⟨x, y, c, h1, h2, h3, h4, h5, by omega⟩
theorem Bag.some {C : CS} {b : Addr} {n : Nat} (h : Bag C b n) : ∃ l, C b = some (.lst l) := by
  obtain ⟨x, y, c, h1, _⟩ := h
  exact ⟨_, h1⟩
theorem Bag.put {C : CS} {b p : Addr} {n : Nat} {c : Cell} (h : Bag C b n) (hp : b ≠ p) : Bag (put C p c) b n := by
  obtain ⟨x, y, c, h1, h2⟩ := h
  exact ⟨x, y, c, by rw [put_ne hp]; exact h1, h2⟩
theorem Bag.ne {C : CS} {b p : Addr} {n : Nat} (h : Bag C b n) (hp : C p = none) : b ≠ p := by
  obtain ⟨l, h⟩ := h.some
  exact cell_ne h hp
theorem Bag.of {C C1 : CS} {b : Addr} {n m : Nat} (h : Bag C b n) (e : C1 b = C b) (hm : n ≤ m) : Bag C1 b m := by
  obtain ⟨x, y, c, q1, q2⟩ := Bag.mono h hm
  exact ⟨x, y, c, e.trans q1, q2⟩
/-- any item -/
theorem at_any {xs : List D} {r : Int} (h0 : 0 ≤ r) (h1 : r < (xs.length : Nat)) : ∃ d ∈ xs, atI xs r = some d := by
  have hl : r.toNat < xs.length := by omega
  refine ⟨xs[r.toNat], List.getElem_mem hl, ?_⟩
  unfold atI ixN
  rw [if_pos h0, if_pos h1]
  exact List.getElem?_eq_getElem hl
theorem ix_any {C : CS} {k : KD} {xs : List D} {r : Int} (h0 : 0 ≤ r) (h1 : r < (xs.length : Nat)) (q : ∀ d ∈ xs, k d C) : dIx (.lst xs) (.int r) C k := by
  obtain ⟨d, hm, he⟩ := at_any h0 h1
  exact ix_f he (q d hm)
theorem ix_anyT {C : CS} {k : KD} {xs : List D} {r : Int} (h0 : 0 ≤ r) (h1 : r < (xs.length : Nat)) (q : ∀ d ∈ xs, k d C) : dIx (.tup xs) (.int r) C k := by
  obtain ⟨d, hm, he⟩ := at_any h0 h1
  exact ix_t he (q d hm)
theorem prm {d : D} (h : d ∈ [.int 2147483647, .int 2147483629, .int 2147483587, .int 2147483579, .int 2147483563, .int 2147483549, .int 2147483543]) : ∃ p : Int, d = .int p ∧ 0 < p ∧ p ≤ 2147483647 := by
  simp only [List.mem_cons, List.not_mem_nil, or_false] at h
  rcases h with rfl | rfl | rfl | rfl | rfl | rfl | rfl <;> exact ⟨_, rfl, by decide, by decide⟩
def spTake : DSp := fun ds C k => ∃ (b : Addr) (n : Nat) (m : Int), ds = [.own b, .int m] ∧ Bag C b n ∧ n ≤ 1000000 ∧ 1 ≤ m ∧ m < 1000000 ∧ ∀ r l, 0 ≤ r → r < m → Bag (DL.put C b (.lst l)) b (n + 1) → k (.int r) (DL.put C b (.lst l))
theorem ok_take {f : Addr} {fd : FuncData} (F : Fun K "_law_take" "_law_take" s_take f fd) (Z : Zs mg) : FnG P w K mg base CX0 1 f fd P_take (toSp K spTake) := by
  refine fnX F sc_take v_take l_take g_take (fun ds C k h => by obtain ⟨_, _, _, rfl, _⟩ := h; rfl) fun X hB ds C k h => ?_
  obtain ⟨b, n, m, rfl, ⟨x, y, c, hC, x0, y0, y1, c0, c1⟩, hn30, m1, m2, h⟩ := h
  obtain ⟨hx, hn, hs, hg, hd, hnox⟩ := hB
  change WSs X _ [some (.own b), some (.int m), none, none, none, none, none, none] C _
  refine wss_cons ?_
  have mz : 0 < m := by omega
  have cd : CDiv x m := ⟨by omega, by omega⟩
  have pw : CPowW (y * (2 * (c + 1) + 1) + 5003 * (c + 1) * (c + 1) + 97) 3 := by
    have h1 : y * (2 * (c + 1) + 1) ≤ 2305843009300000000 * 2000003 := Int.mul_le_mul (by omega) (by omega) (by omega) (by omega)
    have h2 : 0 ≤ y * (2 * (c + 1) + 1) := Int.mul_nonneg y0 (by omega)
    have h3 : 5003 * (c + 1) * (c + 1) ≤ 5003 * 1000001 * 1000001 := Int.mul_le_mul (by omega) (by omega) (by omega) (by omega)
    have h4 : 0 ≤ 5003 * (c + 1) * (c + 1) := Int.mul_nonneg (by omega) (by omega)
    refine ⟨by omega, by omega, ?_⟩
    have : (y * (2 * (c + 1) + 1) + 5003 * (c + 1) * (c + 1) + 97).natAbs < 2 ^ 100 := by omega
    exact Nat.lt_trans this (Nat.pow_lt_pow_right (by decide) (by decide))
  walk_at "py"
  · rename_i hx0
    have hx0 := dec_t hx0
    have := h (x % m) [.int (x / m), .int y, .int c] (Int.emod_nonneg _ (by omega)) (Int.emod_lt_of_pos _ mz) ⟨x / m, y, c, put_same, Int.ediv_nonneg x0 (by omega), y0, y1, c0, by omega⟩
    exact this
  · rename_i hx0
    refine ix_anyT (Int.emod_nonneg _ (by decide)) (Int.emod_lt_of_pos _ (by decide)) fun d hd1 => ?_
    obtain ⟨p, rfl, p0, p1⟩ := prm hd1
    have m0 := Int.emod_nonneg ((y * (2 * (c + 1) + 1) + 5003 * (c + 1) * (c + 1) + 97) ^ Int.toNat 3) (show p ≠ 0 by omega)
    have m3 := Int.emod_lt_of_pos ((y * (2 * (c + 1) + 1) + 5003 * (c + 1) * (c + 1) + 97) ^ Int.toNat 3) p0
    walk_at "py"
    refine ix_anyT (Int.emod_nonneg _ (by decide)) (Int.emod_lt_of_pos _ (by decide)) fun d hd2 => ?_
    obtain ⟨p', rfl, p0', p1'⟩ := prm hd2
    walk_at "py"
    exact h _ [.int x, .int y, .int (c + 1)] (Int.emod_nonneg _ (by omega)) (Int.emod_lt_of_pos _ mz) ⟨x, y, c + 1, put_same, x0, y0, y1, by omega, by omega⟩
/-- the bag that a cell of the script gives -/
def spBag : DSp := fun ds C k => ∃ (ns : List Int) (a : Nat), ds = [.slst (ns.map D.int), .int (a : Nat)] ∧ a ≤ 100 ∧ ∀ p l, C p = none → Bag (put C p (.lst l)) p 0 → k (.own p) (put C p (.lst l))
theorem at_map {ns : List Int} {a : Nat} (h : a < ns.length) : atI (ns.map D.int) (a : Int) = some (.int ns[a]) := by
  unfold atI ixN
  rw [if_pos (by omega), if_pos (by rw [List.length_map]; omega)]
  simp [h]
theorem ok_bag {f : Addr} {fd : FuncData} (F : Fun K "_law_bag" "_law_bag" s_bag f fd) (Z : Zs mg) : FnG P w K mg base CX0 1 f fd P_bag (toSp K spBag) := by
  refine fnX F sc_bag v_bag l_bag g_bag (fun ds C k h => by obtain ⟨_, _, rfl, _⟩ := h; rfl) fun X hB ds C k h => ?_
  obtain ⟨ns, a, rfl, ha, h⟩ := h
  obtain ⟨hx, hn, hs, hg, hd, hnox⟩ := hB
  change WSs X _ [some (.slst (ns.map D.int)), some (.int a), none] C _
  refine wss_cons ?_
  have pw : CPowW 10 18 := ⟨by decide, by decide, Nat.lt_of_lt_of_le (by decide : (10 : Int).natAbs < 2 ^ 10) (Nat.pow_le_pow_right (by decide) (by decide))⟩
  have e18 : (10 : Int) ^ Int.toNat 18 = 1000000000000000000 := by decide
  have ab : (0 : Int) ≤ 8191 * a * a := Int.mul_nonneg (by omega) (by omega)
  have ac : (8191 : Int) * a * a ≤ 8191 * 100 * 100 := Int.mul_le_mul (by omega) (by omega) (by omega) (by omega)
  have nn : ∀ (i : Int) (t : Bool), 0 ≤ i → 0 ≤ i * (if t = true then (1 : Int) else 0) := fun i t hi => Int.mul_nonneg hi (by split <;> decide)
  have last : ∀ (i x : Int) (p : Addr), 0 ≤ i → C p = none → k (.own p) (DL.put C p (.lst [.int i, .int (x % 2305843009213693951 + 8191 * a * a + 131 * a + 5), .int 0])) := fun i x p hi hp => by
    have h1 := Int.emod_nonneg x (show (2305843009213693951 : Int) ≠ 0 by decide)
    have h2 := Int.emod_lt_of_pos x (show (0 : Int) < 2305843009213693951 by decide)
    exact h p _ hp ⟨_, _, _, put_same, hi, by omega, by omega, by decide, by decide⟩
  walk_at "py"
  · rename_i hlt
    have hlt : a < ns.length := by have := dec_t hlt; rw [List.length_map] at this; omega
    refine ix_s (at_map hlt) ?_
    walk_at "py"
    all_goals refine we_lst ?_
    all_goals walk_at "py"
    all_goals intro p hp
    all_goals refine last _ _ p (nn _ _ ?_) hp
    all_goals (split <;> omega)
  · refine we_lst ?_
    walk_at "py"
    intro p hp
    refine last _ _ p (nn _ _ (by decide)) hp
def spOf : DSp := fun ds C k => ∃ (b : Addr) (n : Nat) (xs : List D), ds = [.own b, .lst xs] ∧ Bag C b n ∧ n ≤ 1000000 ∧ 1 ≤ xs.length ∧ xs.length < 1000 ∧ ∀ d l, d ∈ xs → Bag (DL.put C b (.lst l)) b (n + 1) → k d (DL.put C b (.lst l))
theorem ok_of {f : Addr} {fd : FuncData} (F : Fun K "_law_of" "_law_of" s_of f fd) (Z : Zs mg) (h1 : FnC P w K mg base "_law_take" 1 spTake) : FnG P w K mg base CX0 2 f fd P_of (toSp K spOf) := by
  refine fnX F sc_of v_of l_of g_of (fun ds C k h => by obtain ⟨_, _, _, rfl, _⟩ := h; rfl) fun X hB ds C k h => ?_
  obtain ⟨b, n, xs, rfl, hBag, hn6, x1, x2, h⟩ := h
  obtain ⟨hx, hn, hs, hg, hd, hnox⟩ := hB
  change WSs X _ [some (.own b), some (.lst xs)] C _
  refine wss_cons ?_
  walk_at "pyR"
  refine ⟨b, n, (xs.length : Nat), rfl, hBag, hn6, by omega, by omega, fun r l r0 r1 hB1 => ?_⟩
  refine ix_any r0 r1 fun d hd => ?_
  exact h d l hd hB1
end
end K31
namespace K31
section
variable {P : Program} {w : World} {K : PySem.W.Frag} {mg : Str → Option Value} {base : Heap} {Cl Cf Ct : Addr}
/-- texts of few signs below 128 -/
def As (n : Nat) (z : Str) : Prop := z.length ≤ n ∧ ∀ c ∈ z.cps.toList, c < 128
instance (n : Nat) (z : Str) : Decidable (As n z) := by unfold As; infer_instance
/-- names; texts of one line -/
def Nm (z : Str) : Prop := As 8 z ∧ isNm (.str z) = true
instance (z : Str) : Decidable (Nm z) := by unfold Nm; infer_instance
def Ln (z : Str) : Prop := As 20 z ∧ 10 ∉ z.cps.toList
instance (z : Str) : Decidable (Ln z) := by unfold Ln; infer_instance
theorem at_abc {r : Int} (h0 : 0 ≤ r) (h1 : r < 26) : ∃ c, atI abc.cps.toList r = some c ∧ c ∈ abc.cps.toList := by
  have hl : abc.cps.toList.length = 26 := by decide +kernel
  have hr : r.toNat < abc.cps.toList.length := by omega
  refine ⟨abc.cps.toList[r.toNat], ?_, List.getElem_mem hr⟩
  unfold atI ixN
  rw [if_pos h0, if_pos (by omega)]
  exact List.getElem?_eq_getElem hr
def spStr (R : Str → Prop) (m : Nat) : DSp := fun ds C k => ∃ (b : Addr) (n : Nat), ds = [.own b] ∧ Bag C b n ∧ n + m ≤ 1000000 ∧ ∀ l z, R z → Bag (DL.put C b (.lst l)) b (n + m) → k (.str z) (DL.put C b (.lst l))
theorem strs_of (R : Str → Prop) {zs : List Str} {d : D} (h : d ∈ zs.map D.str) (ha : ∀ z ∈ zs, R z) : ∃ z, d = .str z ∧ R z := by
  obtain ⟨z, hz, rfl⟩ := List.mem_map.mp h
  exact ⟨z, rfl, ha z hz⟩
theorem nm_of {z : Str} {cs : List Nat} (hz : z.cps.toList = cs) (h1 : 1 ≤ cs.length) (h8 : cs.length ≤ 8) (h : ∀ c ∈ cs, c ∈ abc.cps.toList) : Nm z := by
  have hl : z.length = cs.length := by rw [str_len, hz]
  have ha : ∀ c ∈ abc.cps.toList, c < 128 := by decide +kernel
  refine ⟨⟨by omega, fun c hc => ha c (h c (by rw [← hz]; exact hc))⟩, ?_⟩
  show ((decide (1 ≤ z.length) && decide (z.length ≤ 8)) && abcB z) = true
  rw [decide_eq_true (by omega), decide_eq_true (by omega), abcB, hz]
  simpa using h
abbrev words : List Str := ["a", "main", "at", "gap", "times", "rows", "member", "cause", "context", "cut", "more", "deep", "text"]
theorem ok_name {f : Addr} {fd : FuncData} (F : Fun K "_law_name" "_law_name" s_name f fd) (Z : Zs mg) (h1 : FnC P w K mg base "_law_take" 1 spTake) (h2 : FnC P w K mg base "_law_of" 2 spOf) : FnG P w K mg base CX0 3 f fd P_name (toSp K (spStr Nm 20)) := by
  refine fnX F sc_name v_name l_name g_name (fun ds C k h => by obtain ⟨_, _, rfl, _⟩ := h; rfl) fun X hB ds C k h => ?_
  obtain ⟨b, n, rfl, hBag, hn6, h⟩ := h
  obtain ⟨hx, hn, hs, hg, hd, hnox⟩ := hB
  change WSs X _ [some (.own b), none, none, none] C _
  refine wss_cons ?_
  walk_at "pyA"
  refine ⟨b, n, 3, rfl, hBag, by omega, by omega, by omega, fun r l1 r0 r1 hB1 => ?_⟩
  walk_at "pyA"
  · refine ⟨b, _, words.map D.str, rfl, hB1, by omega, by decide, by decide, fun d l2 hd2 hB2 => ?_⟩
    obtain ⟨z, rfl, hz⟩ := strs_of Nm hd2 (by decide +kernel)
    rw [put_put] at hB2 ⊢
    exact h l2 z hz (hB2.mono (by omega))
  · refine we_fa (lc1 ["_law_letters", "_law_bag_here"] ["_law_take"] hd (by walk_at "nm") (by decide +kernel) (by decide +kernel) (by decide +kernel) (by decide +kernel) (x_range1 hx Z (by walk_at "gl") ?_))
    walk_at "pyA"
    refine ⟨b, _, [.int 1, .int 1, .int 2, .int 3, .int 8], rfl, hB1, by omega, by decide, by decide, fun d l2 hd2 hB2 => ?_⟩
    obtain ⟨m, rfl, m1, m8⟩ : ∃ m : Int, d = .int m ∧ 1 ≤ m ∧ m ≤ 8 := by
      simp only [List.mem_cons, List.not_mem_nil, or_false] at hd2
      rcases hd2 with rfl | rfl | rfl | rfl | rfl <;> exact ⟨_, rfl, by decide, by decide⟩
    rw [put_put] at hB2 ⊢
    walk_at "pyA"
    refine ⟨m, rfl, by omega, by omega, ?_⟩
    refine ⟨fun j acc C' => ∃ l cs, C' = DL.put C b (.lst l) ∧ Bag C' b (n + 2 + j) ∧ acc = cs.map (fun c => D.str (sg c)) ∧ cs.length = j ∧ ∀ c ∈ cs, c ∈ abc.cps.toList, ⟨l2, [], rfl, hB2, rfl, rfl, fun _ h => by simp at h⟩, fun _ _ _ _ => trivial, ?_, ?_⟩
    · rintro j d acc C2 hj ⟨l3, cs, rfl, hB3, rfl, hcl, hcs⟩ X' hX hn' hg'
      obtain ⟨hj, rfl⟩ := intsFrom_get hj
      refine wif_nil ⟨fun _ X' hX hn' hg' => ?_, fun h => Bool.noConfusion h⟩
      have hx' := hx.blk hX
      walk_at "pyA"
      refine ⟨b, _, 26, rfl, hB3, by omega, by omega, by omega, fun r' l4 r0' r1' hB4 => ?_⟩
      rw [put_put] at hB4 ⊢
      obtain ⟨c, hc, hc8⟩ := at_abc r0' r1'
      refine ix_z (by decide +kernel) hc ?_
      refine ⟨by rw [List.length_map]; exact Nat.lt_of_lt_of_le (by omega : cs.length < 100) (by decide), l4, cs ++ [c], rfl, hB4.mono (by omega), by rw [List.map_append]; rfl, by rw [List.length_append, hcl]; rfl, fun x hx => ?_⟩
      rcases List.mem_append.mp hx with hx | hx
      · exact hcs x hx
      · rw [List.mem_singleton.mp hx]; exact hc8
    · rintro acc C2 ⟨l3, cs, rfl, hB3, rfl, hcl, hcs⟩ q hq
      rw [intsFrom_length] at hcl hB3
      refine fa_put hq ?_
      walk_at "pyA"
      refine join_ok (cs := cs) rfl (by omega) fun z hz => ?_
      exact h l3 z (nm_of hz (by omega) (by omega) hcs) (hB3.mono (by omega))
theorem ok_word {f : Addr} {fd : FuncData} (F : Fun K "_law_word" "_law_word" s_word f fd) (h2 : FnC P w K mg base "_law_of" 2 spOf) : FnG P w K mg base CX0 3 f fd P_word (toSp K (spStr (As 20) 1)) := by
  refine fnX F sc_word v_word l_word g_word (fun ds C k h => by obtain ⟨_, _, rfl, _⟩ := h; rfl) fun X hB ds C k h => ?_
  obtain ⟨b, n, rfl, hBag, hn6, h⟩ := h
  obtain ⟨hx, hn, hs, hg, hd, hnox⟩ := hB
  change WSs X _ [some (.own b)] C _
  refine wss_cons ?_
  walk_at "pyA"
  refine ⟨b, n, (["", "x", "lost", "#0 low", "two\nlines", "  > x", "\n", ": "] : List Str).map D.str, rfl, hBag, by omega, by decide, by decide, fun d l hd2 hB2 => ?_⟩
  obtain ⟨z, rfl, hz⟩ := strs_of (As 20) hd2 (by decide +kernel)
  exact h l z hz hB2
/-! a recorder where other cells change -/
theorem Rc.fx {p : Addr} {A : RA} {V : RV} {m : Nat} {C C' : CS} (h : Rc Cl Cf Ct p A V m C) (hs : ∀ q, Fo p A V q → C' q = C q) : Rc Cl Cf Ct p A V m C' := by
  obtain ⟨ds, hd, hl⟩ := h.dn
  have e : ∀ q ∈ [p, A.S, A.F, A.B, A.K, A.T, A.L], C' q = C q := fun q hq => hs q (.inl hq)
  have ef : ∀ f ∈ V.fts, ∀ q ∈ [f.a, f.sa, f.pa], C' q = C q := fun f hf q hq => hs q (.inr (.inr ⟨f, hf, hq⟩))
  exact ⟨(e _ (by simp)).trans h.ins, (e _ (by simp)).trans h.st, fun f hf => (hs _ (.inr (.inl ⟨f, hf, rfl⟩))).trans (h.fr f hf), h.nd, (e _ (by simp)).trans h.fa, fun f hf => ⟨(ef f hf _ (by simp)).trans (h.ft f hf).1, (ef f hf _ (by simp)).trans (h.ft f hf).2.1, (ef f hf _ (by simp)).trans (h.ft f hf).2.2⟩, (e _ (by simp)).trans h.bd, (e _ (by simp)).trans h.ca, (e _ (by simp)).trans h.ss, ⟨ds, (e _ (by simp)).trans hd, hl⟩, h.sk, h.sT, h.sl, h.kt, h.kl, h.tl, h.fb, h.fl, h.lf⟩
theorem Rc.le {p : Addr} {A : RA} {V : RV} {m m' : Nat} {C : CS} (h : Rc Cl Cf Ct p A V m C) (hm : m ≤ m') : Rc Cl Cf Ct p A V m' C := by
  obtain ⟨ds, hd, hl⟩ := h.dn
  exact { h with dn := ⟨ds, hd, Nat.le_trans hl hm⟩ }
theorem Rc.some {p : Addr} {A : RA} {V : RV} {m : Nat} {C : CS} (h : Rc Cl Cf Ct p A V m C) {q : Addr} (hq : Fo p A V q) : ∃ c, C q = some c := by
  obtain ⟨ds, hd, hl⟩ := h.dn
  rcases hq with hq | ⟨f, hf, rfl⟩ | ⟨f, hf, hq⟩
  · simp only [List.mem_cons, List.not_mem_nil, or_false] at hq
    rcases hq with rfl | rfl | rfl | rfl | rfl | rfl | rfl
    · exact ⟨_, h.ins⟩
    · exact ⟨_, h.st⟩
    · exact ⟨_, h.fa⟩
    · exact ⟨_, h.bd⟩
    · exact ⟨_, h.ca⟩
    · exact ⟨_, h.ss⟩
    · exact ⟨_, hd⟩
  · exact ⟨_, h.fr f hf⟩
  · simp only [List.mem_cons, List.not_mem_nil, or_false] at hq
    rcases hq with rfl | rfl | rfl
    · exact ⟨_, (h.ft f hf).1⟩
    · exact ⟨_, (h.ft f hf).2.1⟩
    · exact ⟨_, (h.ft f hf).2.2⟩
end
end K31
namespace K31
section
variable {P : Program} {w : World} {K : PySem.W.Frag} {mg : Str → Option Value} {base : Heap} {Cl Cf Ct : Addr}
theorem nm_ob {z : Str} (h : Nm z) : Ob (.str z) := by
  obtain ⟨⟨h1, h2⟩, _⟩ := h
  refine ⟨⟨0, by decide, ?_⟩, rfl, ?_⟩
  · show PyData.strOk z = true
    unfold PyData.strOk
    rw [← Array.all_toList, List.all_eq_true]
    exact fun c hc => decide_eq_true (by have := h2 c hc; omega)
  · show z.length ≤ 200000
    omega
theorem Bag.kp {C C' : CS} {b : Addr} {n : Nat} (h : Bag C b n) (hk : ∀ c, C b = Option.some c → C' b = Option.some c) : Bag C' b n := by
  obtain ⟨x, y, c, h1, h2⟩ := h
  exact ⟨x, y, c, hk _ h1, h2⟩
def spFrame (Cl Cf Ct : Addr) : DSp := fun ds C k => ∃ b n p A V m, ds = [.own b, .own p] ∧ Bag C b n ∧ n + 100 ≤ 1000000 ∧ Rc Cl Cf Ct p A V m C ∧ m + 5 ≤ 100000 ∧ V.cur = none ∧ V.frs.length < 100 ∧ ¬ Fo p A V b ∧
  ∀ C' f, C f.a = none → Bag C' b (n + 60) → Rc Cl Cf Ct p A { V with n := V.n + 1, frs := V.frs ++ [f] } (m + 4) C' → ¬ Fo p A { V with n := V.n + 1, frs := V.frs ++ [f] } b → f.num = V.n → Nm f.fn → Nm f.fi → (∀ q c, q ∉ [b, p, A.S, A.L] → C q = some c → C' q = some c) → k (fmR f) C'
theorem ok_frame {f : Addr} {fd : FuncData} (F : Fun K "_law_frame" "_law_frame" s_frame f fd) (Z : Zs mg) (h1 : FnC P w K mg base "_law_take" 1 spTake) (h2 : FnC P w K mg base "_law_of" 2 spOf) (h3 : FnC P w K mg base "_law_name" 3 (spStr Nm 20)) (h4 : MthK P w K mg base Cl "call" 4 2 ["edition"] (fun ds zs => ds ++ zs) (spCall Cl Cf Ct)) (h5 : MthC P w K mg base Cl "at" 4 [] (spAt Cl Cf Ct)) : FnG P w K mg base CX0 5 f fd P_frame (toSp K (spFrame Cl Cf Ct)) := by
  refine fnX F sc_frame v_frame l_frame g_frame (fun ds C k h => by obtain ⟨_, _, _, _, _, _, rfl, _⟩ := h; rfl) fun X hB ds C k h => ?_
  obtain ⟨b, n, p, A, V, m, rfl, hBag, hn6, hR, hm, hcur, hfl, hb, h⟩ := h
  obtain ⟨hx, hn, hs, hg, hd, hnox⟩ := hB
  change WSs X _ [some (.own b), some (.own p), none, none, none, none, none] C _
  refine wss_consH ?_
  walk_at "pyA"
  refine ⟨b, n, rfl, hBag, by omega, fun l1 fn hfn hB1 => ?_⟩
  walk_at "pyA"
  refine ⟨b, _, rfl, hB1, by omega, fun l2 fi hfi hB2 => ?_⟩
  rw [put_put] at hB2 ⊢
  walk_at "pyA"
  refine ⟨b, _, [.int 0, .int 1, .int 7], rfl, hB2, by omega, by decide, by decide, fun d l3 hd3 hB3 => ?_⟩
  rw [put_put] at hB3 ⊢
  obtain ⟨ed, rfl, ed0⟩ : ∃ i : Int, d = .int i ∧ 0 ≤ i := by
    simp only [List.mem_cons, List.not_mem_nil, or_false] at hd3
    rcases hd3 with rfl | rfl | rfl <;> exact ⟨_, rfl, by decide⟩
  have hR1 : Rc Cl Cf Ct p A V m (DL.put C b (.lst l3)) := hR.fx fun q hq => put_ne fun e => hb (e ▸ hq)
  have kp1 : ∀ q c, q ≠ b → C q = some c → DL.put C b (.lst l3) q = some c := fun q c hq hc => by rw [put_ne hq]; exact hc
  have nw1 : ∀ q, DL.put C b (.lst l3) q = none → C q = none := fun q hq => put_none hq
  generalize DL.put C b (.lst l3) = C1 at hB3 hR1 kp1 nw1 ⊢
  walk_at "pyA"
  show WSh X _ [some (.own b), some (.own p), none, none, some (.str fn), some (.str fi), some (.int ed)] C1 _
  refine wsh_go (wss_consH ?_)
  refine ws_expr (x_methK hx h4 ?_ (by omega))
  walk_at "pyA"
  refine ⟨⟨_, _, insD_own hR1.ins, by decide +kernel⟩, ?_⟩
  walk_at "pyA"
  refine wk_cons ?_
  walk_at "pyA"
  refine wk_nil ⟨rfl, rfl, ?_⟩
  refine ⟨p, A, V, m, fn, fi, ed, rfl, hR1, by omega, hcur, nm_ob hfn, hfn.2, nm_ob hfi, hfi.2, ed0, hfl, fun C2 a ha hR2 kp2 => ?_⟩
  have hbx : ∀ q ∈ [p, A.S, A.F, A.B, A.K, A.T, A.L], b ≠ q := fun q hq e => hb (.inl (e ▸ hq))
  have hB2 : Bag C2 b (n + 41) := (hB3.kp fun c hc => kp2 _ _ (by
    simp only [List.mem_cons, List.not_mem_nil, or_false, not_or]
    exact ⟨hbx _ (by simp), hbx _ (by simp), hbx _ (by simp)⟩) hc).mono (by omega)
  have hba : b ≠ a := by
    obtain ⟨l, hl⟩ := hB3.some
    exact ne0 hl ha
  have kp02 : ∀ q c, q ∉ [b, p, A.S, A.L] → C q = some c → C2 q = some c := fun q c hq hc => by
    simp only [List.mem_cons, List.not_mem_nil, or_false, not_or] at hq
    exact kp2 q c (by simp [hq.2.1, hq.2.2.1, hq.2.2.2]) (kp1 q c hq.1 hc)
  have hb2 : ∀ f : Fm, f.a = a → ¬ Fo p A { V with n := V.n + 1, frs := V.frs ++ [f] } b := fun f hf hq => by
    rcases hq with hq | ⟨g, hg, e⟩ | hq
    · exact hb (.inl hq)
    · rcases List.mem_append.mp hg with hg | hg
      · exact hb (.inr (.inl ⟨g, hg, e⟩))
      · rw [List.mem_singleton.mp hg, hf] at e; exact hba e
    · exact hb (.inr (.inr hq))
  have ha0 : C a = none := nw1 a ha
  refine wsh_go (wss_consH ?_)
  walk_at "pyA"
  refine wsh_go (wss_consH ?_)
  refine x_for hx hnox (x_range1 hx Z (by walk_at "gl") ?_)
  walk_at "pyA"
  refine ⟨b, _, 3, rfl, hB2, by omega, by omega, by omega, fun r l4 r0 r1 hB4 => ?_⟩
  walk_at "pyA"
  have hR4 := hR2.fx (C' := DL.put C2 b (.lst l4)) fun q hq => put_ne fun e => hb2 _ rfl (e ▸ hq)
  have kp4 : ∀ q c, q ∉ [b, p, A.S, A.L] → C q = some c → DL.put C2 b (.lst l4) q = some c := fun q c hq hc => by
    rw [put_ne (fun e => hq (by simp [e]))]; exact kp02 q c hq hc
  generalize DL.put C2 b (.lst l4) = C4 at hB4 hR4 kp4 ⊢
  refine ⟨r, rfl, by omega, by omega, ?_⟩
  refine ⟨fun i env C' => ∃ (f : Fm) (o : Option D), env = [some (.own b), some (.own p), some (.int f.ln), o, some (.str f.fn), some (.str f.fi), some (.int f.ed)] ∧ f.a = a ∧ (f.num = V.n ∧ Nm f.fn ∧ Nm f.fi) ∧ Rc Cl Cf Ct p A { V with n := V.n + 1, frs := V.frs ++ [f] } (m + 1 + i) C' ∧ Bag C' b (n + 42 + i) ∧ (∀ q c, q ∉ [b, p, A.S, A.L] → C q = some c → C' q = some c), ⟨⟨a, V.n, fn, fi, ed, 1⟩, none, rfl, rfl, ⟨rfl, hfn, hfi⟩, hR4, hB4, kp4⟩, fun _ _ _ _ => trivial, ?_, ?_⟩
  · rintro i d env C5 hd ⟨f, o, rfl, hfa, hfn', hR5, hB5, kp5⟩
    obtain ⟨hj, rfl⟩ := intsFrom_get hd
    walk_at "pyA"
    refine ⟨b, _, [.int 1, .int 2, .int 3, .int 10, .int 1000000000], rfl, hB5, by omega, by decide, by decide, fun d l6 hd6 hB6 => ?_⟩
    obtain ⟨s, rfl, s1⟩ : ∃ i : Int, d = .int i ∧ 1 ≤ i := by
      simp only [List.mem_cons, List.not_mem_nil, or_false] at hd6
      rcases hd6 with rfl | rfl | rfl | rfl | rfl <;> exact ⟨_, rfl, by decide⟩
    have hR6 := hR5.fx (C' := DL.put C5 b (.lst l6)) fun q hq => put_ne fun e => hb2 f hfa (e ▸ hq)
    have kp6 : ∀ q c, q ∉ [b, p, A.S, A.L] → C q = some c → DL.put C5 b (.lst l6) q = some c := fun q c hq hc => by
      rw [put_ne (fun e => hq (by simp [e]))]; exact kp5 q c hq hc
    generalize DL.put C5 b (.lst l6) = C6 at hB6 hR6 kp6 ⊢
    walk_at "pyA"
    refine x_meth hx h5 ?_ (by omega)
    walk_at "pyA"
    refine ⟨⟨_, _, insD_own hR6.ins, by decide +kernel⟩, ?_⟩
    walk_at "pyA"
    refine ⟨p, A, _, _, V.frs, f, s, rfl, hR6, by omega, hcur, rfl, s1, fun C7 hR7 kp7 => ?_⟩
    walk_at "pyA"
    refine ⟨{ f with ln := s }, _, rfl, hfa, hfn', hR7.le (by omega), (hB6.kp fun c hc => kp7 _ _ (by
      simp only [List.mem_cons, List.not_mem_nil, or_false, not_or]
      exact ⟨by rw [hfa]; exact hba, hbx _ (by simp)⟩) hc).mono (by omega), fun q c hq hc => kp7 q c ?_ (kp6 q c hq hc)⟩
    simp only [List.mem_cons, List.not_mem_nil, or_false, not_or] at hq ⊢
    exact ⟨by rw [hfa]; exact ne0 hc ha0, hq.2.2.2⟩
  · rintro env C5 ⟨f, o, rfl, hfa, hfn', hR5, hB5, kp5⟩
    rw [intsFrom_length] at hR5 hB5
    refine wsh_go (wss_cons ?_)
    walk_at "pyA"
    exact h C5 f (by rw [hfa]; exact ha0) (hB5.mono (by omega)) (hR5.le (by omega)) (hb2 f hfa) hfn'.1 hfn'.2.1 hfn'.2.2 kp5
end
end K31
namespace K31
section
variable {P : Program} {w : World} {K : PySem.W.Frag} {mg : Str → Option Value} {base : Heap} {Cl Cf Ct Cr Cw : Addr}
/-- the meeting of entries, however deep -/
theorem all_meet {Cw : Addr} {f1 f2 f3 : Addr} {d1 d2 d3 : FuncData} (c : Cls K Cw) (T : Twc K Cw) (F1 : Fun K "meet" "Walk.meet" s_Walk_meet f1 d1) (b1 : Binds K d1 P_Walk_meet []) (m1 : Meth K Cw "meet" f1)
    (F2 : Fun K "met_members" "Walk.met_members" s_Walk_met_members f2 d2) (b2 : Binds K d2 P_Walk_met_members []) (m2 : Meth K Cw "met_members" f2)
    (F3 : Fun K "met_link" "Walk.met_link" s_Walk_met_link f3 d3) (b3 : Binds K d3 P_Walk_met_link []) (m3 : Meth K Cw "met_link" f3)
    (Z : Zs mg) (h2 : FnC P w K mg base "numbers_in" 1 spNums) (h3 : FnC P w K mg base "left_out" 1 spGone) (g1 : MgK K mg "DEEP" (.str "deep")) (g2 : MgK K mg "MORE" (.str "more")) :
    ∀ n : Nat, MthC P w K mg base Cw "meet" (2 * n + 2) [] (spMeet Cw n)
  | 0 => ⟨c, f1, m1, d1, P_Walk_meet, [], [], ok_meet0, b1, .nil, fun _ => .nil⟩
  | n + 1 => by
    have h := all_meet c T F1 b1 m1 F2 b2 m2 F3 b3 m3 Z h2 h3 g1 g2 n
    have hm : MthC P w K mg base Cw "met_members" (2 * n + 3) [] (spMMem Cw n) := ⟨c, f2, m2, d2, P_Walk_met_members, [], [], ok_mMem n F2 T Z h h2 h3 g1 g2, b2, .nil, fun _ => .nil⟩
    have hl : MthC P w K mg base Cw "met_link" (2 * n + 3) [] (spMLink Cw n) := ⟨c, f3, m3, d3, P_Walk_met_link, [], [], ok_mLink n F3 T h, b3, .nil, fun _ => .nil⟩
    exact ⟨c, f1, m1, d1, P_Walk_meet, [], [], ok_meet n F1 T Z hm hl, b1, .nil, fun _ => .nil⟩
theorem bd_wInit {f kd : Addr} {oc cdv ct doc pm : Value} {od an : Option Addr} {osl : Array (Option Value)} (l : K.lookup f = some ⟨oc, od, .func (PySem.W.fnOf "__init__" "Walk.__init__" (defArgs s_Walk___init__) (defBody s_Walk___init__) (defScope s_Walk___init__) .none (.ref kd) doc pm an cdv ct), osl⟩)
    (c : PySem.W.codeIn K cdv "Walk.__init__" = true) (k : PySem.W.keepIn K (.ref f) = true) (w1 : PySem.W.nsIn K kd "width" = some (some .none)) (w2 : PySem.W.nsIn K kd "depth" = some (some .none)) (w3 : PySem.W.nsIn K kd "chain" = some (some .none)) :
    ∃ ds, Vals [V.non, .non, .non] ds ∧ Binds K (PySem.W.fnOf "__init__" "Walk.__init__" (defArgs s_Walk___init__) (defBody s_Walk___init__) (defScope s_Walk___init__) .none (.ref kd) doc pm an cdv ct) P_Walk___init__ ds := by
  have FD : FunD K "__init__" "Walk.__init__" (defArgs s_Walk___init__) (defBody s_Walk___init__) (defScope s_Walk___init__) [] [("width", .non), ("depth", .non), ("chain", .non)] f (PySem.W.fnOf "__init__" "Walk.__init__" (defArgs s_Walk___init__) (defBody s_Walk___init__) (defScope s_Walk___init__) .none (.ref kd) doc pm an cdv ct) :=
    ⟨⟨oc, od, .none, .ref kd, doc, pm, an, cdv, ct, osl, rfl, l, c, .inl ⟨rfl, rfl⟩, .inr ⟨kd, rfl, fun q hq => by
      simp only [List.mem_cons, List.not_mem_nil, or_false] at hq
      rcases hq with rfl | rfl | rfl
      · exact ⟨_, w1, rfl⟩
      · exact ⟨_, w2, rfl⟩
      · exact ⟨_, w3, rfl⟩⟩⟩, k⟩
  exact FD.binds0 (ps := P_Walk___init__) 2 (by simp) rfl fun D doc pm an cdv ct us ks h1 h2 => match us, ks, h1, h2 with
    | [_, _], [_, _, _], _, _ => ⟨_, _, _, _, _, _, rfl, rfl, _, _, _, _, _, _, rfl, rfl, _, _, _, _, _, _, rfl, rfl, rfl⟩
def spREnts (Cr : Addr) : DSp := fun ds C k => ∃ x E, ds = [x] ∧ RecIs Cr C x E ∧ k (.tup (E.map entD)) C
theorem ok_rEnts {f : Addr} {fd : FuncData} (F : Fun K "entries" "Record.entries" s_Record_entries f fd) (T : Trc K Cr) : FnG P w K mg base CX0 1 f fd P_Record_entries (toSp K (spREnts Cr)) := by
  refine fnX F sc_Record_entries v_Record_entries l_Record_entries g_Record_entries (fun ds C k h => by obtain ⟨_, _, rfl, _⟩ := h; rfl) fun X hB ds C k h => ?_
  obtain ⟨x, E, rfl, hR, h⟩ := h
  obtain ⟨hx, hn, hs, hg, hd, hnox⟩ := hB
  have tf1 := T.f1
  change WSs X _ [some x] C _
  refine wss_cons ?_
  walk_at "pyK"
  exact h
theorem eqv_self {x : D} {n : Nat} (h : x.fit n = true) : PyData.eqv x.py x.py = true := by
  have := eqL_refl (xs := [x]) (n := n) (fun d hd => by rw [List.mem_singleton.mp hd]; exact h)
  simpa [eqL, pyL, PyData.eqvAll] using this
theorem ne_self {C : CS} {k : KD} {x : D} {n : Nat} (h : x.fit n = true) (hn : n ≤ 64) (q : k (.bl false) C) : dEq true x x C k := by
  refine ne_fit h h ?_ hn hn
  rw [eqv_self h]
  exact q
theorem eq_self' {C : CS} {k : KD} {x : D} {n : Nat} (h : x.fit n = true) (hn : n ≤ 64) (q : k (.bl true) C) : dEq false x x C k := by
  refine eq_fit h h ?_ hn hn
  rw [eqv_self h]
  exact q
theorem met_one {N : Nat} {f : Ft} (hN : 1 ≤ N) (ht : f.ti = none) (h1 : f.kd.length ≤ 1000) (h2 : f.ms.length ≤ 1000000) : MetF N [f] 0 [entF f] := by
  refine ⟨⟨1, [0], hN, ?_⟩, by simp, fun e he => ?_⟩
  · simp [meetF, entF, ht, memF, lnkF]
  · rw [List.mem_singleton.mp he]; exact ⟨h1, h2⟩
/-- an entry of one error without a link -/
theorem ent_one {f : Ft} {kd ms : Str} {ps : List D} (h1 : f.kd = kd) (h2 : f.ms = ms) (h3 : f.sd = []) (h4 : f.ps = ps) (h5 : f.ti = none) : entD (entF f) = .tup [.str kd, .str ms, .tup [], .tup ps, .non, .non] := by
  rw [entF_D, h1, h2, h3, h4, h5]; rfl
theorem row_fit {f : Fm} (h1 : Nm f.fn) (h2 : Nm f.fi) : (fmR f).fit 1 = true := by
  obtain ⟨n1, _, e1⟩ := (nm_ob h1).ex
  obtain ⟨n2, _, e2⟩ := (nm_ob h2).ex
  have e1 : PyData.strOk f.fn = true := by cases n1 <;> exact e1
  have e2 : PyData.strOk f.fi = true := by cases n2 <;> exact e2
  simp [fmR, D.fit, fitL, e1, e2]
theorem as_strOk {n : Nat} {z : Str} (h : As n z) : PyData.strOk z = true := by
  unfold PyData.strOk
  rw [← Array.all_toList, List.all_eq_true]
  exact fun c hc => decide_eq_true (by have := h.2 c hc; omega)
theorem ent_fit {kd ms : Str} {frs : List Fm} (h1 : PyData.strOk kd = true) (h2 : PyData.strOk ms = true) (h : ∀ f ∈ frs, Nm f.fn ∧ Nm f.fi) : (D.tup [.str kd, .str ms, .tup [], .tup (frs.map fmR), .non, .non]).fit 3 = true := by
  have hr : fitL 1 (frs.map fmR) = true := fitL_all.mpr fun d hd => by
    obtain ⟨f, hf, rfl⟩ := List.mem_map.mp hd
    exact row_fit (h f hf).1 (h f hf).2
  simp [D.fit, fitL, h1, h2, hr]
end
end K31
namespace K31
section
variable {P : Program} {w : World} {K : PySem.W.Frag} {mg : Str → Option Value} {base : Heap} {Cl Cf Ct Cr Cw : Addr}
theorem row_take (frs : List Fm) (i : Nat) (hi : i < frs.length) : frs.take (i + 1) = frs.take i ++ [frs[i]] := by rw [List.take_succ, List.getElem?_eq_getElem hi]; rfl
theorem cut_from (xs : List D) (i : Nat) (hi : i ≤ xs.length) : cutD xs (some (i : Int)) none = xs.drop i := by
  unfold cutD
  rw [sIx_nat', Nat.min_eq_left hi]
  show (xs.drop i).take (xs.length - i) = xs.drop i
  exact List.take_of_length_le (by rw [List.length_drop]; exact Nat.le_refl _)
/-- an error on its way out: j frames are left behind -/
def OutA (Cl Cf Ct : Addr) (p : Addr) (A : RA) (frs : List Fm) (ms : Str) (m : Nat) (C : CS) (j : Nat) (C' : CS) : Prop := ∃ A' V' f, A'.S = A.S ∧ A'.F = A.F ∧ A'.L = A.L ∧ Rc Cl Cf Ct p A' V' (m + 1 + j) C' ∧ V'.frs = frs.take (frs.length - j) ∧ V'.fts = [f] ∧ V'.bnd = [] ∧ V'.cgt = [] ∧ V'.cur = some 0 ∧ f.kd = "key" ∧ f.ms = ms ∧ f.sd = [] ∧ f.ti = none ∧ f.ps = (frs.drop (frs.length - 1 - j)).map fmR ∧ C f.pa = none ∧ ∀ x c, x ∉ [p, A.S, A.F, A.L] → C x = some c → C' x = some c
def OutZ (Cl Cf Ct Cr : Addr) (p : Addr) (A : RA) (frs : List Fm) (ms : Str) (m : Nat) (C : CS) (C' : CS) (d : D) : Prop := ∃ A' V' f r, d = .own r ∧ C' r = some (.ins Cr recKs (recFs [entF f])) ∧ Rc Cl Cf Ct p A' V' m C' ∧ V'.bnd = [] ∧ V'.cgt = [] ∧ V'.cur = none ∧ V'.fts.length ≤ 60 ∧ f.kd = "key" ∧ f.ms = ms ∧ f.sd = [] ∧ f.ti = none ∧ f.ps = frs.map fmR ∧ ∀ x c, x ∉ [p, A.S, A.F, A.L] → C x = some c → C' x = some c
theorem OutA.up {p : Addr} {A : RA} {frs : List Fm} {ms : Str} {m j : Nat} {C C1 C2 : CS} (h : OutA Cl Cf Ct p A frs ms m C j C1) (hs : ∀ q c, C1 q = some c → C2 q = some c) : OutA Cl Cf Ct p A frs ms m C j C2 := by
  obtain ⟨A', V', f, eS, eF, eL, hR2, h1, h2, h3, h4, h5, h6, h7, h8, h9, h10, h11, hk⟩ := h
  exact ⟨A', V', f, eS, eF, eL, hR2.up hs, h1, h2, h3, h4, h5, h6, h7, h8, h9, h10, h11, fun x c hx hc => hs _ _ (hk x c hx hc)⟩
theorem OutZ.up {p : Addr} {A : RA} {frs : List Fm} {ms : Str} {m : Nat} {C C1 C2 : CS} {d : D} (h : OutZ Cl Cf Ct Cr p A frs ms m C C1 d) (hs : ∀ q c, C1 q = some c → C2 q = some c) : OutZ Cl Cf Ct Cr p A frs ms m C C2 d := by
  obtain ⟨A', V', f, r, e, hr, hR2, h1, h2, h3, h4, h5, h6, h7, h8, h9, hk⟩ := h
  exact ⟨A', V', f, r, e, hs _ _ hr, hR2.up hs, h1, h2, h3, h4, h5, h6, h7, h8, h9, fun x c hx hc => hs _ _ (hk x c hx hc)⟩
def spOut (Cl Cf Ct Cr : Addr) : DSp := fun ds C k => ∃ p A V m q ms, ds = [.own p, .own q, .str ms] ∧ Rc Cl Cf Ct p A V m C ∧ m + 30 ≤ 100000 ∧ V.cur = none ∧ V.fts = [] ∧ V.bnd = [] ∧ V.cgt = [] ∧ C q = some (.lst (V.frs.map fmR)) ∧ 1 ≤ V.frs.length ∧ V.frs.length ≤ 20 ∧ (∀ f ∈ V.frs, Nm f.fn ∧ Nm f.fi) ∧ As 20 ms ∧ ¬ Fo p A V q ∧
  ∀ C', (∀ x c, x ∉ [p, A.S, A.F, A.L] → C x = some c → C' x = some c) → k (.bl true) C'
theorem ok_out {f : Addr} {fd : FuncData} (F : Fun K "_law_out" "_law_out" s_out f fd) (Z : Zs mg) (h1 : MthC P w K mg base Cl "throw" 4 [.non, .bl false] (spThrow0 Cl Cf Ct)) (h2 : MthC P w K mg base Cl "flying" 7 [] (spFlying Cl Cf Ct Cr 1)) (h3 : PrpC P w K mg base Cr "entries" 1 (spREnts Cr)) (h4 : MthC P w K mg base Cl "pass_on" 7 [] (spPass Cl Cf Ct Cr 1)) (h5 : MthC P w K mg base Cl "frames" 2 [] (spFrames Cl Cf Ct)) (h6 : MthC P w K mg base Cl "held" 2 [] (spHeld0 Cl Cf Ct)) (g1 : mg "Record" = some (.ref Cr)) (hI : C8.InsC K Cr) : FnG P w K mg base CX0 8 f fd P_out (toSp K (spOut Cl Cf Ct Cr)) := by
  refine fnX F sc_out v_out l_out g_out (fun ds C k h => by obtain ⟨_, _, _, _, _, _, rfl, _⟩ := h; rfl) fun X hB ds C k h => ?_
  obtain ⟨p, A, V, m, q, ms, rfl, hR, hm, hcur, hft, hbd, hcg, hq, hl1, hl2, hnm, hms, hnq, h⟩ := h
  obtain ⟨hx, hn, hs, hg, hd, hnox⟩ := hB
  obtain ⟨vn, frs, vfts, vbnd, vcgt, vcur⟩ := V
  obtain rfl : vcur = none := hcur
  obtain rfl : vfts = [] := hft
  obtain rfl : vbnd = [] := hbd
  obtain rfl : vcgt = [] := hcg
  have hl1 : 1 ≤ frs.length := hl1
  have hl2 : frs.length ≤ 20 := hl2
  have hnm : ∀ f ∈ frs, Nm f.fn ∧ Nm f.fi := hnm
  have hq : C q = some (.lst (frs.map fmR)) := hq
  change WSs X _ [some (.own p), some (.own q), some (.str ms), none, none, none] C _
  refine wss_consH ?_
  walk_at "pyA"
  refine x_meth hx h1 ?_ (by omega)
  walk_at "pyA"
  refine ⟨⟨_, _, insD_own hR.ins, by decide +kernel⟩, ?_⟩
  walk_at "pyA"
  obtain ⟨fs, g, hfs⟩ : ∃ fs g, frs = fs ++ [g] := by
    rcases List.eq_nil_or_concat frs with e | ⟨fs, g, e⟩
    · rw [e] at hl1; simp at hl1
    · exact ⟨fs, g, by rw [e, List.concat_eq_append]⟩
  refine ⟨p, A, _, m, fs, g, "key", ms, rfl, hR, by omega, rfl, rfl, hfs, by show 0 < 60; decide, nm_ob (show Nm "key" by decide +kernel), by decide +kernel, fun C1 a sa pa ha hsa hpa hR1 kp1 => ?_⟩
  walk_at "pyA"
  have hqx : ∀ y ∈ [p, A.S, A.F, A.B, A.K, A.T, A.L], q ≠ y := fun y hy e => hnq (.inl (e ▸ hy))
  have qo : ∀ {C' : CS}, (∀ x c, x ∉ [p, A.S, A.F, A.L] → C x = some c → C' x = some c) → C' q = some (.lst (frs.map fmR)) := fun hk => hk _ _ (by
    simp only [List.mem_cons, List.not_mem_nil, or_false, not_or]
    exact ⟨hqx _ (by simp), hqx _ (by simp), hqx _ (by simp), hqx _ (by simp)⟩) hq
  have kp01 : ∀ x c, x ∉ [p, A.S, A.F, A.L] → C x = some c → C1 x = some c := fun x c hx hc => kp1 x c (by
    simp only [List.mem_cons, List.not_mem_nil, or_false, not_or] at hx ⊢
    exact ⟨hx.1, hx.2.2.1, hx.2.2.2⟩) hc
  have hO : OutA Cl Cf Ct p A frs ms m C 0 C1 := ⟨A, _, ⟨a, "key", ms, sa, [], pa, [fmR g], none, false⟩, rfl, rfl, rfl, hR1, by rw [Nat.sub_zero, List.take_length], rfl, rfl, rfl, rfl, rfl, rfl, rfl, rfl, by rw [hfs]; simp, hpa, kp01⟩
  show WSh X _ [some (.own p), some (.own q), some (.str ms), some .non, none, none] C1 _
  refine wsh_go (wss_consH ?_)
  refine x_for hx hnox (x_range1 hx Z (by walk_at "gl") ?_)
  walk_at "pyA"
  refine len_own (qo kp01) ?_
  rw [List.length_map]
  walk_at "pyA"
  refine ⟨_, rfl, by omega, by omega, ?_⟩
  refine ⟨fun i env C' => ∃ told om, env = [some (.own p), some (.own q), some (.str ms), some told, om, none] ∧ ((i < frs.length ∧ OutA Cl Cf Ct p A frs ms m C i C') ∨ (i = frs.length ∧ OutZ Cl Cf Ct Cr p A frs ms (m + 1 + frs.length) C C' told)), ⟨_, _, rfl, .inl ⟨by omega, hO⟩⟩, fun _ _ _ _ => trivial, ?_, ?_⟩
  · rintro i d env C2 hd ⟨told, om, rfl, hcase⟩
    obtain ⟨hj, rfl⟩ := intsFrom_get hd
    have hiL : i < frs.length := by omega
    have hA : OutA Cl Cf Ct p A frs ms m C i C2 := by
      rcases hcase with ⟨_, h⟩ | ⟨e, _⟩
      · exact h
      · omega
    obtain ⟨A', V', f, eS, eF, eL, hR2, hfr, hfts, hbd2, hcg2, hcur2, hkd, hmsg, hsd, hti, hps, hpa, hk2⟩ := hA
    have hle : ((frs.length : Nat) : Int) - 1 - i = ((frs.length - 1 - i : Nat) : Int) := by omega
    walk_at "pyA"
    refine x_prop hx hnox h3 ?_ (by omega)
    walk_at "pyA"
    refine x_meth0 hx h2 ?_ (by omega)
    walk_at "pyA"
    refine ⟨⟨_, _, insD_own hR2.ins, by decide +kernel⟩, ?_⟩
    refine ⟨p, A', V', _, rfl, hR2, by rw [hfts]; show 1 ≤ 60; decide, .inr ⟨0, [entF f], hcur2, by rw [hfts]; exact met_one (Nat.le_refl 1) hti (by rw [hkd]; decide +kernel) (by rw [hmsg]; have := hms.1; omega), fun C3 r hr hr3 F3 => ?_⟩⟩
    have hR3 := hR2.up fun x c hc => F3.at (by simp) hc
    have hk3 : ∀ x c, x ∉ [p, A.S, A.F, A.L] → C x = some c → C3 x = some c := fun x c hx hc => F3.at (by simp) (hk2 x c hx hc)
    refine ⟨⟨_, _, insD_own hr3⟩, .own r, [entF f], rfl, insD_own hr3, ?_⟩
    walk_at "pyA"
    refine len_own (qo hk3) ?_
    rw [List.length_map]
    walk_at "pyA"
    rw [show ((frs.length : Nat) : Int) - 1 - (0 + (i : Int)) = ((frs.length - 1 - i : Nat) : Int) by omega]
    refine slA_o (qo hk3) ?_
    rw [cut_from _ _ (by rw [List.length_map]; omega)]
    walk_at "pyA"
    rw [show [entF f].map entD = [.tup [.str "key", .str ms, .tup [], .tup ((frs.map fmR).drop (frs.length - 1 - i)), .non, .non]] by rw [List.map_singleton, ent_one hkd hmsg hsd hps hti, List.map_drop]]
    have hfit := ent_fit (kd := "key") (frs := frs.drop (frs.length - 1 - i)) (by decide +kernel) (as_strOk hms) fun g hg => hnm g (List.mem_of_mem_drop hg)
    rw [List.map_drop] at hfit
    refine ne_self (n := 4) (by simp only [D.fit, fitL, Bool.and_true] at hfit ⊢; exact hfit) (by decide) ?_
    walk_at "pyA"
    all_goals try walk_at "bad"
    refine x_meth0 hx h4 ?_ (by omega)
    walk_at "pyA"
    refine ⟨⟨_, _, insD_own hR3.ins, by decide +kernel⟩, ?_⟩
    obtain ⟨g2, hg2⟩ : ∃ g2, frs.take (frs.length - i) = frs.take (frs.length - 1 - i) ++ [g2] := ⟨frs[frs.length - 1 - i], by rw [← row_take frs _ (by omega)]; congr 1; omega⟩
    refine ⟨p, A', V', _, frs.take (frs.length - 1 - i), g2, [], [], f, rfl, hR3, by omega, by rw [hfts]; show 1 ≤ 60; decide, hcur2, hfts, by rw [hfr, hg2], by rw [hcg2]; exact Nat.zero_le _, by rw [hps, List.length_map, List.length_drop]; omega, ?_, ?_⟩
    · intro fs' g' hfs' C4 k' t' hk0 ht0 hR4 kp4
      have hi2 : i + 1 < frs.length := by
        have := congrArg List.length hfs'
        rw [List.length_take, List.length_append, List.length_singleton] at this
        omega
      have hg' : g' = frs[frs.length - 2 - i] := by
        have e : frs.take (frs.length - 1 - i) = frs.take (frs.length - 2 - i) ++ [frs[frs.length - 2 - i]] := by rw [← row_take frs _ (by omega)]; congr 1; omega
        rw [e] at hfs'
        have := (List.append_inj' hfs' rfl).2
        simpa using this.symm
      have hk4 : ∀ x c, x ∉ [p, A.S, A.F, A.L] → C x = some c → C4 x = some c := fun x c hx hc => by
        refine kp4 x c ?_ (hk3 x c hx hc)
        simp only [List.mem_cons, List.not_mem_nil, or_false, not_or] at hx ⊢
        rw [eS, eL]
        exact ⟨hx.1, hx.2.1, hx.2.2.2, ne0 hc hpa⟩
      have hO' : OutA Cl Cf Ct p A frs ms m C (i + 1) C4 := ⟨{ A' with K := k', T := t' }, { V' with frs := frs.take (frs.length - 1 - i), cgt := V'.cgt.filter fun e => decide (e.2 ≠ g2.num), fts := [{ f with ps := fmR g' :: f.ps }] }, { f with ps := fmR g' :: f.ps }, eS, eF, eL, hR4.le (by omega), by show frs.take (frs.length - 1 - i) = _; congr 1; omega, rfl, hbd2, by show List.filter _ V'.cgt = []; rw [hcg2]; rfl, hcur2, hkd, hmsg, hsd, hti, by
        show fmR g' :: f.ps = _
        rw [hps, hg', show frs.length - 1 - (i + 1) = frs.length - 2 - i by omega, List.drop_eq_getElem_cons (i := frs.length - 2 - i) (by omega), show frs.length - 2 - i + 1 = frs.length - 1 - i by omega]; rfl, hpa, hk4⟩
      have hfr4 : (frs.take (frs.length - 1 - i)).length = frs.length - 1 - i := by rw [List.length_take]; omega
      walk_at "pyA"
      refine len_own (qo hk4) ?_
      rw [List.length_map]
      walk_at "pyA"
      · rename_i h0
        exfalso
        rw [decide_eq_true (by omega)] at h0
        cases h0
      · refine x_meth0 hx h5 ?_ (by omega)
        walk_at "pyA"
        refine ⟨⟨_, _, insD_own hR4.ins, by decide +kernel⟩, ?_⟩
        refine ⟨p, _, _, _, rfl, hR4, by show (frs.take _).length ≤ 1000; omega, fun z hz => ?_⟩
        walk_at "pyA"
        refine len_own (by rw [put_ne (ne0 (qo hk4) hz)]; exact qo hk4) ?_
        rw [List.length_map]
        walk_at "pyA"
        · rename_i h0
          exfalso
          rw [List.length_map] at h0
          change (!((((frs.take (frs.length - 1 - i)).length : Nat) : Int) == ((frs.length : Nat) : Int) - 1 - (0 + (i : Int)))) = true at h0
          rw [hfr4] at h0
          simp at h0
          omega
        · exact ⟨_, _, rfl, .inl ⟨hi2, hO'.up (sub_new hz)⟩⟩
    · intro hnil
      have hi2 : i + 1 = frs.length := by
        have := congrArg List.length hnil
        rw [List.length_take, List.length_nil] at this
        omega
      refine ⟨[entF f], by rw [hfts]; exact met_one (Nat.le_refl 1) hti (by rw [hkd]; decide +kernel) (by rw [hmsg]; have := hms.1; omega), fun C4 k' t' r2 hk0 ht0 hr2 hr4 hR4 kp4 => ?_⟩
      have hk4 : ∀ x c, x ∉ [p, A.S, A.F, A.L] → C x = some c → C4 x = some c := fun x c hx hc => by
        refine kp4 x c ?_ (hk3 x c hx hc)
        simp only [List.mem_cons, List.not_mem_nil, or_false, not_or] at hx ⊢
        rw [eS, eL]
        exact ⟨hx.1, hx.2.1, hx.2.2.2⟩
      walk_at "pyA"
      refine ⟨rfl, ?_⟩
      walk_at "pyA"
      refine len_own (qo hk4) ?_
      rw [List.length_map]
      walk_at "pyA"
      · rename_i h0
        exfalso
        rw [decide_eq_false (by omega)] at h0
        cases h0
      · refine x_meth0 hx h5 ?_ (by omega)
        walk_at "pyA"
        refine ⟨⟨_, _, insD_own hR4.ins, by decide +kernel⟩, ?_⟩
        refine ⟨p, _, _, _, rfl, hR4, Nat.zero_le _, fun z hz => ?_⟩
        walk_at "pyA"
        refine len_own (by rw [put_ne (ne0 (qo hk4) hz)]; exact qo hk4) ?_
        rw [List.length_map]
        walk_at "pyA"
        · rename_i h0
          exfalso
          change (!((((List.map fmT []).length : Nat) : Int) == ((frs.length : Nat) : Int) - 1 - (0 + (i : Int)))) = true at h0
          simp at h0
          omega
        · have hZ : OutZ Cl Cf Ct Cr p A frs ms (m + 1 + frs.length) C C4 (.own r2) := ⟨{ A' with K := k', T := t' }, { n := V'.n, frs := [], fts := V'.fts, bnd := V'.bnd, cgt := V'.cgt.filter fun e => decide (e.2 ≠ g2.num), cur := none }, f, r2, rfl, hr4, hR4.le (by omega), hbd2, by show List.filter _ V'.cgt = []; rw [hcg2]; rfl, rfl, by show V'.fts.length ≤ 60; rw [hfts]; show 1 ≤ 60; decide, hkd, hmsg, hsd, hti, by rw [hps, show frs.length - 1 - i = 0 by omega]; rfl, hk4⟩
          exact ⟨_, _, rfl, .inr ⟨hi2, hZ.up (sub_new hz)⟩⟩
  · rintro env C2 ⟨told, om, rfl, hcase⟩
    rw [intsFrom_length] at hcase
    have hZ : OutZ Cl Cf Ct Cr p A frs ms (m + 1 + frs.length) C C2 told := by
      rcases hcase with ⟨h, _⟩ | ⟨_, h⟩
      · omega
      · exact h
    obtain ⟨A', V', f, r, rfl, hr, hR2, hbd2, hcg2, hcur2, hlen, hkd, hmsg, hsd, hti, hps, hk2⟩ := hZ
    refine wsh_go (wss_consH ?_)
    walk_at "pyA"
    refine tup_o (qo hk2) ?_
    walk_at "pyA"
    refine wsh_go (wss_cons ?_)
    refine ws_ret (we_and (x_isC hx Z (by walk_at "gl") hI g1 (by walk_at "gl") ?_))
    walk_at "pyA"
    refine ⟨⟨_, _, insD_own hr⟩, ?_⟩
    walk_at "pyA"
    refine x_prop hx hnox h3 ?_ (by omega)
    walk_at "pyA"
    refine ⟨⟨_, _, insD_own hr⟩, .own r, [entF f], rfl, insD_own hr, ?_⟩
    walk_at "pyA"
    rw [show [entF f].map entD = [.tup [.str "key", .str ms, .tup [], .tup (frs.map fmR), .non, .non]] by rw [List.map_singleton, ent_one hkd hmsg hsd hps hti]]
    have hfit := ent_fit (kd := "key") (frs := frs) (by decide +kernel) (as_strOk hms) hnm
    refine eq_self' (n := 4) (by simp only [D.fit, fitL, Bool.and_true] at hfit ⊢; exact hfit) (by decide) ?_
    walk_at "pyA"
    refine x_meth0 hx h2 ?_ (by omega)
    walk_at "pyA"
    refine ⟨⟨_, _, insD_own hR2.ins, by decide +kernel⟩, ?_⟩
    refine ⟨p, A', V', _, rfl, hR2, hlen, .inl ⟨hcur2, ?_⟩⟩
    walk_at "pyA"
    all_goals try walk_at "bad"
    refine x_meth0 hx h6 ?_ (by omega)
    walk_at "pyA"
    refine ⟨⟨_, _, insD_own hR2.ins, by decide +kernel⟩, ?_⟩
    refine ⟨p, A', V', _, rfl, hR2, hcur2, hbd2, hcg2, fun C3 F3 => ?_⟩
    walk_at "pyA"
    exact h C3 fun x c hx hc => F3.at (by simp) (hk2 x c hx hc)
end
end K31
namespace K31
section
variable {P : Program} {w : World} {K : PySem.W.Frag} {mg : Str → Option Value} {base : Heap} {Cl Cf Ct Cr Cw : Addr}
def forB : Stmt → List Stmt
  | .For _ _ b _ _ => b
  | _ => []
def turnB : List Stmt := forB ((forB ((defBody s_law).getD 0 (.Pass ⟨0, 0, 0, 0⟩))).getD 1 (.Pass ⟨0, 0, 0, 0⟩))
/-- a recorder with frames alone, their rows at q, the source of draws at b -/
structure T13 (Cl Cf Ct b p q : Addr) (A : RA) (V : RV) (m n : Nat) (C : CS) : Prop where
  bag : Bag C b n
  rc : Rc Cl Cf Ct p A V m C
  rows : C q = some (.lst (V.frs.map fmR))
  nb : ¬ Fo p A V b
  nq : ¬ Fo p A V q
  bq : b ≠ q
  cur : V.cur = none
  fts : V.fts = []
  bnd : V.bnd = []
  cgt : V.cgt = []
  nm : ∀ f ∈ V.frs, Nm f.fn ∧ Nm f.fi
theorem Fo.push {p x : Addr} {A : RA} {V : RV} {f : Fm} (h : ¬ Fo p A V x) (hf : x ≠ f.a) : ¬ Fo p A { V with n := V.n + 1, frs := V.frs ++ [f] } x := fun hq => by
  rcases hq with hq | ⟨g, hg, e⟩ | hq
  · exact h (.inl hq)
  · rcases List.mem_append.mp hg with hg | hg
    · exact h (.inr (.inl ⟨g, hg, e⟩))
    · rw [List.mem_singleton.mp hg] at e; exact hf e
  · exact h (.inr (.inr hq))
theorem Fo.off {p x : Addr} {A : RA} {V : RV} (h : ¬ Fo p A V x) : x ∉ [p, A.S, A.L] := fun hq => h (.inl (by
  simp only [List.mem_cons, List.not_mem_nil, or_false] at hq ⊢
  rcases hq with rfl | rfl | rfl <;> simp))
theorem T13.draw {b p q : Addr} {A : RA} {V : RV} {m n n' : Nat} {C : CS} {l : List D} (h : T13 Cl Cf Ct b p q A V m n C) (hB : Bag (DL.put C b (.lst l)) b n') : T13 Cl Cf Ct b p q A V m n' (DL.put C b (.lst l)) :=
  ⟨hB, h.rc.fx fun x hx => put_ne fun e => h.nb (e ▸ hx), by rw [put_ne h.bq.symm]; exact h.rows, h.nb, h.nq, h.bq, h.cur, h.fts, h.bnd, h.cgt, h.nm⟩
theorem T13.up {b p q : Addr} {A : RA} {V : RV} {m n : Nat} {C C' : CS} (h : T13 Cl Cf Ct b p q A V m n C) (hs : ∀ x c, C x = some c → C' x = some c) : T13 Cl Cf Ct b p q A V m n C' :=
  ⟨h.bag.kp fun c hc => hs _ _ hc, h.rc.up hs, hs _ _ h.rows, h.nb, h.nq, h.bq, h.cur, h.fts, h.bnd, h.cgt, h.nm⟩
theorem T13.le {b p q : Addr} {A : RA} {V : RV} {m n m' n' : Nat} {C : CS} (h : T13 Cl Cf Ct b p q A V m n C) (h1 : m ≤ m') (h2 : n ≤ n') : T13 Cl Cf Ct b p q A V m' n' C :=
  ⟨h.bag.mono h2, h.rc.le h1, h.rows, h.nb, h.nq, h.bq, h.cur, h.fts, h.bnd, h.cgt, h.nm⟩
/-- a frame more, its row behind the others -/
theorem T13.push {b p q : Addr} {A : RA} {V : RV} {m n n' : Nat} {C C1 : CS} {f : Fm} (h : T13 Cl Cf Ct b p q A V m n C) (hf0 : C f.a = none) (hB : Bag C1 b n') (hR : Rc Cl Cf Ct p A { V with n := V.n + 1, frs := V.frs ++ [f] } (m + 4) C1) (h1 : Nm f.fn) (h2 : Nm f.fi) (kp : ∀ x c, x ∉ [b, p, A.S, A.L] → C x = some c → C1 x = some c) :
    C1 q = some (.lst (V.frs.map fmR)) ∧ T13 Cl Cf Ct b p q A { V with n := V.n + 1, frs := V.frs ++ [f] } (m + 4) n' (DL.put C1 q (.lst (V.frs.map fmR ++ [fmR f]))) := by
  obtain ⟨l, hl⟩ := h.bag.some
  have nb := Fo.push h.nb (ne0 hl hf0)
  have nq := Fo.push h.nq (ne0 h.rows hf0)
  refine ⟨kp q _ ?_ h.rows, hB.put h.bq, hR.fx fun x hx => put_ne fun e => nq (e ▸ hx), ?_, nb, nq, h.bq, h.cur, h.fts, h.bnd, h.cgt, fun g hg => ?_⟩
  · have := Fo.off h.nq
    simp only [List.mem_cons, List.not_mem_nil, or_false, not_or] at this ⊢
    exact ⟨h.bq.symm, this⟩
  · rw [put_same, List.map_append]; rfl
  · rcases List.mem_append.mp hg with hg | hg
    · exact h.nm g hg
    · rw [List.mem_singleton.mp hg]; exact ⟨h1, h2⟩
/-- a frame that is left again -/
theorem T13.pop {b p q k' t' : Addr} {A : RA} {V : RV} {m n n' : Nat} {C C1 C2 : CS} {f : Fm} (h : T13 Cl Cf Ct b p q A V m n C) (hf0 : C f.a = none) (hB : Bag C1 b n') (hR : Rc Cl Cf Ct p A { V with n := V.n + 1, frs := V.frs ++ [f] } (m + 4) C1) (kp : ∀ x c, x ∉ [b, p, A.S, A.L] → C x = some c → C1 x = some c)
    (hk0 : C1 k' = none) (ht0 : C1 t' = none) (hR2 : Rc Cl Cf Ct p { A with K := k', T := t' } { V with n := V.n + 1, cgt := V.cgt.filter fun e => decide (e.2 ≠ f.num) } (m + 5) C2) (kp2 : ∀ x c, x ∉ [p, A.S, A.L] → C1 x = some c → C2 x = some c) :
    T13 Cl Cf Ct b p q { A with K := k', T := t' } { V with n := V.n + 1, cgt := V.cgt.filter fun e => decide (e.2 ≠ f.num) } (m + 5) n' C2 := by
  obtain ⟨l, hl⟩ := hB.some
  have hq1 : C1 q = some (.lst (V.frs.map fmR)) := by
    refine kp q _ ?_ h.rows
    have := Fo.off h.nq
    simp only [List.mem_cons, List.not_mem_nil, or_false, not_or] at this ⊢
    exact ⟨h.bq.symm, this⟩
  have no : ∀ x c, C1 x = some c → ¬ Fo p A V x → ¬ Fo p { A with K := k', T := t' } { V with n := V.n + 1, cgt := V.cgt.filter fun e => decide (e.2 ≠ f.num) } x := fun x c hc hn hq => by
    rcases hq with hq | hq | hq
    · simp only [List.mem_cons, List.not_mem_nil, or_false] at hq
      rcases hq with e | e | e | e | e | e | e
      · exact hn (.inl (by simp [e]))
      · exact hn (.inl (by simp [e]))
      · exact hn (.inl (by simp [e]))
      · exact hn (.inl (by simp [e]))
      · exact ne0 hc hk0 e
      · exact ne0 hc ht0 e
      · exact hn (.inl (by simp [e]))
    · exact hn (.inr (.inl hq))
    · exact hn (.inr (.inr hq))
  refine ⟨hB.kp fun c hc => kp2 _ _ (Fo.off h.nb) hc, hR2, kp2 _ _ (Fo.off h.nq) hq1, no b _ hl h.nb, no q _ hq1 h.nq, h.bq, h.cur, h.fts, h.bnd, ?_, h.nm⟩
  show V.cgt.filter _ = []
  rw [h.cgt]; rfl
end
end K31
namespace K31
section
variable {P : Program} {w : World} {K : PySem.W.Frag} {mg : Str → Option Value} {base : Heap} {Cl Cf Ct Cr Cw : Addr}
def rowG : D → D
  | .tup [a, b, c, d, _] => .tup [d, a, b, c]
  | _ => .non
theorem fm_fit {f : Fm} (h : Nm f.fn ∧ Nm f.fi) : (fmT f).fit 1 = true := by
  have e := row_fit h.1 h.2
  simp [fmR, fmT, D.fit, fitL] at e ⊢
  exact ⟨e.2, e.1⟩
theorem turn13 {X : Cx} {B : List Stmt} (hB : B = turnB) {b : Addr} {n : Nat} {d0 d1 o2 d4 o5 o6 o7 : Option D} {C : CS} {E : DEnds} (hx : DL.Ctx P w K mg base 9 X) (hn : Nms X N_law M_law) (hs : Sts X N_law M_law) (hg : Gls X D_law) (hd : Dfc X N_law (defScope s_law)) (hnox : Nox X)
    (Z : Zs mg) (h1 : FnC P w K mg base "_law_take" 1 spTake) (h2 : FnC P w K mg base "_law_frame" 5 (spFrame Cl Cf Ct)) (h3 : FnC P w K mg base "_law_out" 8 (spOut Cl Cf Ct Cr)) (h4 : FnC P w K mg base "_law_word" 3 (spStr (As 20) 1))
    (c1 : MakC P w K mg base "Recorder" Cl 1 [] (spRcI Cl Cf Ct)) (c2 : MthC P w K mg base Cl "leave" 3 [] (spLeave Cl Cf Ct)) (c3 : MthC P w K mg base Cl "frames" 2 [] (spFrames Cl Cf Ct)) (hn5 : n + 2000 ≤ 1000000) (hT : Bag C b n)
    (h : ∀ C' o2 o5 o6, Bag C' b (n + 1500) → E.nx [d0, d1, o2, some (.own b), d4, o5, o6, o7] C') : WSs X B [d0, d1, o2, some (.own b), d4, o5, o6, o7] C E := by
  subst hB
  refine wss_consH ?_
  walk_at "pyCA"
  refine x_make0 hx c1 (by walk_at "gl") ?_ (by omega)
  intro p hp
  refine ⟨p, rfl, put_same, fun C1 A hR0 kp1 nw1 => ⟨rfl, ?_⟩⟩
  refine wa_cons (we_nil fun q hq => ?_)
  walk_at "pyCA"
  have hT0 : T13 Cl Cf Ct b p q A ⟨0, [], [], [], [], none⟩ 0 n (DL.put C1 q (.lst [])) := by
    obtain ⟨l, hl⟩ := hT.some
    have hbp : b ≠ p := ne0 hl hp
    have hl1 : C1 b = some (.lst l) := kp1 b _ hbp (sub_new hp _ _ hl)
    have hb1 : Bag C1 b n := hT.kp fun c hc => kp1 b _ hbp (sub_new hp _ _ hc)
    refine ⟨hb1.put (ne0 hl1 hq), hR0.up (sub_new hq), put_same, fun hf => ?_, fun hf => ?_, ne0 hl1 hq, rfl, rfl, rfl, rfl, fun f hf => by simp at hf⟩
    · rcases hf with hf | ⟨f, hf, _⟩ | ⟨f, hf, _⟩
      · rcases List.mem_cons.mp hf with e | hf
        · exact hbp e
        · have := nw1 b hf
          rw [put_ne hbp, hl] at this; cases this
      · simp at hf
      · simp at hf
    · obtain ⟨c, hc⟩ := hR0.some hf
      rw [hq] at hc; cases hc
  clear hR0 kp1 nw1
  generalize DL.put C1 q (.lst []) = C2 at hT0 ⊢
  clear hT hp hq
  show WSh X _ [d0, d1, some (.own p), some (.own b), d4, o5, some (.own q), o7] C2 _
  refine wsh_go (wss_consH ?_)
  refine x_for hx hnox (x_range1 hx Z (by walk_at "gl") ?_)
  walk_at "pyCA"
  refine ⟨b, n, 9, rfl, hT0.bag, by omega, by omega, by omega, fun r l r0 r1 hB2 => ?_⟩
  have hT1 := hT0.draw hB2
  generalize DL.put C2 b (.lst l) = C3 at hT1 ⊢
  clear hT0 hB2
  walk_at "pyCA"
  refine ⟨1 + r, rfl, by omega, by omega, ?_⟩
  refine ⟨fun i env C' => ∃ A V o, env = [d0, d1, some (.own p), some (.own b), d4, o, some (.own q), o7] ∧ T13 Cl Cf Ct b p q A V (10 * i) (n + 1 + 125 * i) C' ∧ V.frs.length = i, ⟨A, _, _, rfl, hT1, rfl⟩, fun _ _ _ _ => trivial, ?_, ?_⟩
  · clear hT1
    rintro i d env C4 hd' ⟨A, V, o, rfl, hT, hVl⟩
    obtain ⟨hj, rfl⟩ := intsFrom_get hd'
    have hi9 : i < 9 := by omega
    walk_at "pyCA"
    refine ty_own hT.rows ?_
    walk_at "pyCA"
    refine ⟨b, _, p, A, V, _, rfl, hT.bag, by omega, hT.rc, by omega, hT.cur, by omega, hT.nb, fun C5 f hf0 hB5 hR5 _ _ hn1 hn2 kp5 => ?_⟩
    obtain ⟨hq5, hT5⟩ := hT.push hf0 hB5 hR5 hn1 hn2 kp5
    walk_at "pyCA"
    refine DL.app_ok hq5 (Nat.lt_of_lt_of_le (by rw [List.length_map]; omega : _ < 1000) (by decide)) ?_
    have hVl5 : (V.frs ++ [f]).length = i + 1 := by rw [List.length_append, hVl]; rfl
    obtain ⟨V5, hV5⟩ : ∃ V5 : RV, V5 = { V with n := V.n + 1, frs := V.frs ++ [f] } := ⟨_, rfl⟩
    rw [← hV5] at hT5
    have hVl5 : V5.frs.length = i + 1 := by rw [hV5]; exact hVl5
    generalize DL.put C5 q (.lst (V.frs.map fmR ++ [fmR f])) = C6 at hT5 ⊢
    clear hT hf0 hB5 hR5 hn1 hn2 kp5 hq5 hV5 hVl
    walk_at "pyCA"
    refine ⟨b, _, 4, rfl, hT5.bag, by omega, by omega, by omega, fun r2 l7 r20 r21 hB7 => ?_⟩
    have hT7 := hT5.draw hB7
    generalize DL.put C6 b (.lst l7) = C7 at hT7 ⊢
    clear hT5 hB7
    walk_at "pyCA"
    · refine ⟨b, _, p, A, V5, _, rfl, hT7.bag, by omega, hT7.rc, by omega, hT7.cur, by omega, hT7.nb, fun C8 f hf0 hB8 hR8 _ _ hn1 hn2 kp8 => ?_⟩
      walk_at "pyCA"
      refine x_meth0 hx c2 ?_ (by omega)
      walk_at "pyCA"
      refine ⟨⟨_, _, insD_own hR8.ins, by decide +kernel⟩, ?_⟩
      refine ⟨p, A, _, _, V5.frs, f, rfl, hR8, by omega, hT7.cur, rfl, by show V5.cgt.length ≤ 1000; rw [hT7.cgt]; exact Nat.zero_le _, fun C9 k' t' hk0 ht0 hR9 kp9 => ?_⟩
      have hT9 := hT7.pop hf0 hB8 hR8 kp8 hk0 ht0 (hR9.le (by omega)) kp9
      walk_at "pyCA"
      exact ⟨_, _, _, rfl, hT9.le (by omega) (by omega), hVl5⟩
    · exact ⟨_, _, _, rfl, hT7.le (by omega) (by omega), hVl5⟩
  · clear hT1
    rintro env C4 ⟨A, V, o, rfl, hT, hVl⟩
    rw [intsFrom_length] at hVl hT
    have hVl1 : 1 ≤ V.frs.length := by omega
    have hVl9 : V.frs.length ≤ 9 := by omega
    have hT := hT.le (m' := 90) (n' := n + 1130) (by omega) (by omega)
    clear hVl
    refine wsh_go (wss_consH ?_)
    walk_at "pyCA"
    refine x_meth0 hx c3 ?_ (by omega)
    walk_at "pyCA"
    refine ⟨⟨_, _, insD_own hT.rc.ins, by decide +kernel⟩, ?_⟩
    refine ⟨p, A, V, _, rfl, hT.rc, by omega, fun z hz => ?_⟩
    have hT2 := hT.up (sub_new (c := .lst (V.frs.map fmT)) hz)
    have hz2 : DL.put C4 z (.lst (V.frs.map fmT)) z = some (.lst (V.frs.map fmT)) := put_same
    generalize DL.put C4 z (.lst (V.frs.map fmT)) = C5 at hT2 hz2 ⊢
    clear hT hz
    refine we_fa (lc1 ["_law_row"] [] hd (by walk_at "nm") (by decide +kernel) (by decide +kernel) (by decide +kernel) (by decide +kernel) (wi_ls ?_))
    walk_at "pyCA"
    refine ⟨_, seqR_own hT2.rows, LcB.map rowG (fun z hz => by cases hz; exact hT2.rows) (Nat.le_trans (by rw [List.length_map]; omega : _ ≤ 1000) (by decide)) ?_ fun q2 hq2 => fa_put hq2 ?_⟩
    · intro d hdm X' hX hn' hg'
      have hx' := hx.blk hX
      obtain ⟨g, hgm, rfl⟩ := List.mem_map.mp hdm
      walk_at "pyCA"
      exact ⟨rfl, rfl⟩
    have e1 : (V.frs.map fmR).map rowG = V.frs.map fmT := by rw [List.map_map]; rfl
    have hfit : ∀ d ∈ V.frs.map fmT, d.fit 1 = true := fun d hd => by
      obtain ⟨g, hg, rfl⟩ := List.mem_map.mp hd
      exact fm_fit (hT2.nm g hg)
    rw [e1]
    refine ne_ol hz2 hfit hfit (by decide) (by decide) ?_
    rw [eqL_refl hfit]
    walk_at "pyCA"
    all_goals try walk_at "bad"
    refine wsh_go (wss_cons ?_)
    walk_at "pyCA"
    refine ⟨b, _, rfl, hT2.bag, by omega, fun l6 ms hms hB6 => ?_⟩
    have hT6 := hT2.draw hB6
    generalize DL.put C5 b (.lst l6) = C6 at hT6 ⊢
    clear hT2 hB6 hz2 hq2
    walk_at "pyCA"
    refine ⟨p, A, V, _, q, ms, rfl, hT6.rc, by omega, hT6.cur, hT6.fts, hT6.bnd, hT6.cgt, hT6.rows, hVl1, by omega, hT6.nm, hms, hT6.nq, fun C7 kp7 => ?_⟩
    have hb7 : Bag C7 b (n + 1500) := (hT6.bag.kp fun c hc => kp7 _ _ (fun hq => hT6.nb (.inl (by
      simp only [List.mem_cons, List.not_mem_nil, or_false] at hq ⊢
      rcases hq with e | e | e | e <;> simp [e]))) hc).mono (by omega)
    walk_at "pyCA"
    all_goals try walk_at "bad"
    exact h C7 _ _ _ hb7
end
end K31
namespace K31
section
variable {P : Program} {w : World} {K : PySem.W.Frag} {mg : Str → Option Value} {base : Heap} {Cl Cf Ct Cr Cw : Addr}
def spLaw : DSp := fun ds C k => ∃ ns : List Int, ds = [.slst (ns.map D.int)] ∧ ns.length ≤ 63 ∧ (∀ a, C a = none) ∧ k (.bl true) C
theorem ok_law {f : Addr} {fd : FuncData} (F : Fun K "law" "law" s_law f fd) (Z : Zs mg) (h0 : FnC P w K mg base "_law_bag" 1 spBag) (h1 : FnC P w K mg base "_law_take" 1 spTake) (h2 : FnC P w K mg base "_law_frame" 5 (spFrame Cl Cf Ct)) (h3 : FnC P w K mg base "_law_out" 8 (spOut Cl Cf Ct Cr)) (h4 : FnC P w K mg base "_law_word" 3 (spStr (As 20) 1))
    (c1 : MakC P w K mg base "Recorder" Cl 1 [] (spRcI Cl Cf Ct)) (c2 : MthC P w K mg base Cl "leave" 3 [] (spLeave Cl Cf Ct)) (c3 : MthC P w K mg base Cl "frames" 2 [] (spFrames Cl Cf Ct)) (c4 : MthC P w K mg base Cl "call" 4 [.int 0] (spCall Cl Cf Ct)) (c5 : MthC P w K mg base Cl "handled" 1 [] (spHandled0 Cl Cf Ct)) (c6 : MthC P w K mg base Cl "names" 1 [] (spNames0 Cl Cf Ct)) : FnG P w K mg base CX0 10 f fd P_law (toSp K spLaw) := by
  refine fnS F sc_law v_law l_law g_law (fun ds C k h => by obtain ⟨_, rfl, _⟩ := h; rfl) fun X hB ds C k h => ?_
  obtain ⟨ns0, rfl, hl63, hC0, h⟩ := h
  have fin : ∀ C', ∃ C2, Sub C2 C' ∧ k (.bl true) C2 := fun C' => ⟨C, (show Sub C C' from fun a c e => by rw [hC0 a] at e; cases e), h⟩
  clear h
  obtain ⟨hx, hn, hs, hg, hd, hnox⟩ := hB
  change WSs X _ [some (.slst (ns0.map D.int)), none, none, none, none, none, none, none] C _
  refine wss_consH ?_
  refine x_for hx hnox (x_range1 hx Z (by walk_at "gl") ?_)
  walk_at "pyA"
  refine ⟨_, rfl, by split <;> (try split) <;> omega, by split <;> (try split) <;> omega, ?_⟩
  refine ⟨fun i env C' => ∃ o1 o2 o3 o4 o5 o6 o7 : Option D, env = [some (.slst (ns0.map D.int)), o1, o2, o3, o4, o5, o6, o7], ⟨_, _, _, _, _, _, _, rfl⟩, fun _ _ _ _ => trivial, ?_, ?_⟩
  · rintro i d env C1 hd' ⟨o1, o2, o3, o4, o5, o6, o7, rfl⟩
    obtain ⟨hi, rfl⟩ := intsFrom_get hd'
    have hi6 : i < 6 := by
      have : ∀ j : Int, j ≤ 6 → i < j.toNat → i < 6 := fun j h1 h2 => by omega
      refine this _ ?_ hi
      split <;> (try split) <;> omega
    walk_at "wg"
    refine wss_gen ?_
    intro EE hEE _
    refine wss_consH ?_
    walk_at "pyCA"
    refine ⟨ns0, i, by rw [Int.zero_add], by omega, fun bg l hbg hB0 => ?_⟩
    walk_at "pyCA"
    generalize DL.put C1 bg (.lst l) = C2 at hB0 ⊢
    refine wsh_go (wss_consH ?_)
    refine x_for hx hnox (x_range1 hx Z (by walk_at "gl") ?_)
    walk_at "pyC"
    refine ⟨3, rfl, by omega, by omega, ?_⟩
    refine ⟨fun j env C' => ∃ o2 o4 o5 o6 o7 : Option D, env = [some (.slst (ns0.map D.int)), some (.int (0 + (i : Nat))), o2, some (.own bg), o4, o5, o6, o7] ∧ Bag C' bg (1500 * j), ⟨_, _, _, _, _, rfl, hB0⟩, fun _ _ _ _ => trivial, ?_, ?_⟩
    · clear hB0
      rintro j d env CD hd' ⟨o2, o4, o5, o6, o7, rfl, hT⟩
      obtain ⟨hj, rfl⟩ := intsFrom_get hd'
      have hj : j < 3 := by simpa using hj
      walk_at "wg"
      refine wss_gen ?_
      intro E2 hE2 _
      refine turn13 (Cl := Cl) (Cf := Cf) (Ct := Ct) (Cr := Cr) (by kernel_rfl) hx hn hs hg hd hnox Z h1 h2 h3 h4 c1 c2 c3 (by omega) hT ?_
      intro C' o2 o5 o6 hT'
      exact hE2 _ _ ⟨_, _, _, _, _, rfl, hT'.mono (by omega)⟩
    · rintro env CD ⟨o2, o4, o5, o6, o7, rfl, hT⟩
      refine wsh_go ?_
      refine wss_nil ?_
      exact hEE _ _ ⟨_, _, _, _, _, _, _, rfl⟩
  · rintro env CD ⟨o1, o2, o3, o4, o5, o6, o7, rfl⟩
    refine wsh_go (wss_consH ?_)
    walk_at "pyCA"
    refine x_make0 hx c1 (by walk_at "gl") ?_ (by omega)
    intro p hp
    refine ⟨p, rfl, put_same, fun C1 A hR0 kp1 nw1 => ⟨rfl, ?_⟩⟩
    walk_at "pyCA"
    refine wsh_go (wss_consH ?_)
    walk_at "pyCA"
    refine x_meth hx c4 ?_ (by omega)
    walk_at "pyCA"
    refine ⟨⟨_, _, insD_own hR0.ins, by decide +kernel⟩, ?_⟩
    walk_at "pyCA"
    refine ⟨p, A, _, _, "f", "a", 0, rfl, hR0, by omega, rfl, nm_ob (show Nm "f" by decide +kernel), by decide +kernel, nm_ob (show Nm "a" by decide +kernel), by decide +kernel, by decide, by decide, fun C2 a ha hR2 kp2 => ?_⟩
    refine wsh_go (wss_cons ?_)
    walk_at "pyCA"
    refine x_meth0 hx c3 ?_ (by omega)
    walk_at "pyCA"
    refine ⟨⟨_, _, insD_own hR2.ins, by decide +kernel⟩, ?_⟩
    refine ⟨p, A, _, _, rfl, hR2, by show 1 ≤ 1000; decide, fun z hz => ?_⟩
    have hR3 := hR2.up (sub_new (c := .lst (([] ++ [(⟨a, 0, "f", "a", 0, 1⟩ : Fm)]).map fmT)) hz)
    walk_at "pyCA"
    have hz3 : DL.put C2 z (.lst (([] ++ [(⟨a, 0, "f", "a", 0, 1⟩ : Fm)]).map fmT)) z = some (.lst [.tup [.str "f", .str "a", .int 0, .int 1]]) := put_same
    change dEq false (.own z) (.lst [.tup [.str "f", .str "a", .int 0, .int 1]]) (DL.put C2 z (.lst (([] ++ [(⟨a, 0, "f", "a", 0, 1⟩ : Fm)]).map fmT))) _
    generalize DL.put C2 z (.lst (([] ++ [(⟨a, 0, "f", "a", 0, 1⟩ : Fm)]).map fmT)) = C3 at hR3 hz3 ⊢
    have hfit : ∀ d ∈ [D.tup [.str "f", .str "a", .int 0, .int 1]], d.fit 1 = true := by decide +kernel
    refine eq_ol hz3 hfit hfit (by decide) (by decide) ?_
    rw [eqL_refl hfit]
    walk_at "pyCA"
    refine x_meth0 hx c5 ?_ (by omega)
    walk_at "pyCA"
    refine ⟨⟨_, _, insD_own hR3.ins, by decide +kernel⟩, ?_⟩
    refine ⟨p, A, _, _, rfl, hR3, rfl, fun z2 hz2 => ?_⟩
    have hR4 := hR3.up (sub_new (c := .lst []) hz2)
    walk_at "pyCA"
    refine eq_ol put_same (n := 0) (m := 0) (fun d hd => by simp at hd) (fun d hd => by simp at hd) (by decide) (by decide) ?_
    rw [show eqL [] [] = true from rfl]
    generalize DL.put C3 z2 (.lst []) = C4 at hR4 ⊢
    walk_at "pyCA"
    refine x_meth0 hx c6 ?_ (by omega)
    walk_at "pyCA"
    refine ⟨⟨_, _, insD_own hR4.ins, by decide +kernel⟩, ?_⟩
    refine ⟨p, A, _, _, rfl, hR4, rfl, fun z3 hz3 => ?_⟩
    walk_at "pyCA"
    refine eq_ol put_same (n := 0) (m := 0) (fun d hd => by simp at hd) (fun d hd => by simp at hd) (by decide) (by decide) ?_
    rw [show eqL [] [] = true from rfl]
    walk_at "pyCA"
    exact fin _
end
end K31
namespace K31
section
variable {P : Program} {w : World} {K : PySem.W.Frag} {mg : Str → Option Value} {base : Heap} {Cl Cf Ct : Addr}
/-- a def whose keyword-only parameters have defaults -/
theorem funD_kw {x qual : Str} {params : Arguments} {body : List Stmt} {scope : Scope} {kws : List (Str × V)} {f kd : Addr} {oc cdv ct doc pm : Value} {od an : Option Addr} {osl : Array (Option Value)}
    (l : K.lookup f = some ⟨oc, od, .func (PySem.W.fnOf x qual params body scope .none (.ref kd) doc pm an cdv ct), osl⟩) (c : PySem.W.codeIn K cdv qual = true) (k : PySem.W.keepIn K (.ref f) = true) (hw : ∀ q ∈ kws, ∃ v, PySem.W.nsIn K kd q.1 = some (some v) ∧ RelV q.2 v) :
    FunD K x qual params body scope [] kws f (PySem.W.fnOf x qual params body scope .none (.ref kd) doc pm an cdv ct) :=
  ⟨⟨oc, od, .none, .ref kd, doc, pm, an, cdv, ct, osl, rfl, l, c, .inl ⟨rfl, rfl⟩, .inr ⟨kd, rfl, hw⟩⟩, k⟩
abbrev callKw : List (Str × V) := [("edition", .int 0)]
abbrev thrKw : List (Str × V) := [("cause", .non), ("alone", .bl false)]
theorem kwCall {kd : Addr} {t : Tok} (w1 : PySem.W.nsIn K kd "edition" = some (some (.int 0 t))) : ∀ q ∈ callKw, ∃ v, PySem.W.nsIn K kd q.1 = some (some v) ∧ RelV q.2 v := fun q hq => by
  rw [List.mem_singleton.mp hq]
  exact ⟨_, w1, t, rfl⟩
theorem kwThr {kd : Addr} (w1 : PySem.W.nsIn K kd "cause" = some (some .none)) (w2 : PySem.W.nsIn K kd "alone" = some (some (.bool false))) : ∀ q ∈ thrKw, ∃ v, PySem.W.nsIn K kd q.1 = some (some v) ∧ RelV q.2 v := fun q hq => by
  simp only [List.mem_cons, List.not_mem_nil, or_false] at hq
  rcases hq with rfl | rfl
  · exact ⟨_, w1, rfl⟩
  · exact ⟨_, w2, rfl⟩
section
variable {f : Addr} {fd : FuncData} (FD : FunD K "call" "Recorder.call" (defArgs s_Recorder_call) (defBody s_Recorder_call) (defScope s_Recorder_call) [] callKw f fd)
include FD
theorem bd_call : ∃ ds, Vals [V.int 0] ds ∧ Binds K fd P_Recorder_call ds :=
  FD.binds0 (ps := P_Recorder_call) 3 (by simp) rfl fun D doc pm an cdv ct us ks h1 h2 => match us, ks, h1, h2 with
    | [_, _, _], [_], _, _ => ⟨_, _, _, _, _, _, rfl, rfl, rfl⟩
theorem fk_call (F : FnG P w K mg base CX0 4 f fd P_Recorder_call (toSp K (spCall Cl Cf Ct))) : FnK P w K mg base f 4 3 ["edition"] (fun ds zs => ds ++ zs) (spCall Cl Cf Ct) := by
  obtain ⟨mv, hb⟩ := FD.kbinds0 (ps := P_Recorder_call) 3 ["edition"] [] (fun us mv ws => us ++ ws) (by simp) (by simp) (fun a b c => a.append c) fun D doc pm an cdv ct us mv ws h1 h2 h3 => match us, mv, ws, h1, h2, h3 with
    | [_, _, _], [], [_], _, _, _ => rfl
  exact ⟨fd, _, _, _, F, hb, fun G vs ds zs es h1 h2 _ _ => h1.append h2⟩
end
theorem bd_thr {f : Addr} {fd : FuncData} (FD : FunD K "throw" "Recorder.throw" (defArgs s_Recorder_throw) (defBody s_Recorder_throw) (defScope s_Recorder_throw) [V.str ""] thrKw f fd) : ∃ ds, Vals [V.non, .bl false] ds ∧ Binds K fd P_Recorder_throw ds :=
  FD.binds (ps := P_Recorder_throw) 3 1 (by simp) rfl (fun T D doc pm an cdv ct us its ks h1 h2 h3 => match us, its, ks, h1, h2, h3 with
    | [_, _, _], [_], [_, _], _, _, _ => ⟨_, rfl, _, _, _, _, _, _, rfl, rfl, _, _, _, _, _, _, rfl, rfl, rfl⟩) (by simp)
end
end K31
namespace K31
section
theorem dat_ints {K : PySem.W.Frag} {G : Hp} : ∀ ns : List Int, DatAll K G (ns.map V.int) (ns.map D.int)
  | [] => .nil
  | _ :: ns => .cons (.int _) (dat_ints ns)
theorem wld0 {K : PySem.W.Frag} {H : Hp} (hO : Only H) : Wld K H (fun _ => none) H := ⟨fun _ _ h => h, fun _ _ e => (by cases e), fun a ps e => (by rcases hO a with h | ⟨o, xs, h⟩ <;> (rw [h] at e; cases e))⟩

theorem all_mk {l : PySem.W.OpenLaw} {w : World} {K : PySem.W.Frag} {h : Heap} {mg : Str → Option Value} {fa : Addr} (X : K.In h) (G : h.Ns mainGlobals mg) (hfa : mg "law" = some (.ref fa))
    {C1 : Addr}
    {C2 : Addr}
    {C3 : Addr}
    {C4 : Addr}
    {C5 : Addr}
    {f1 : Addr} {od1 an1 : Option Addr} {sl1 : Array (Option Value)} {oc1 kV1 dc1 pm1 cd1 ct1 : Value}
    {f2 : Addr} {od2 an2 : Option Addr} {sl2 : Array (Option Value)} {oc2 kV2 dc2 pm2 cd2 ct2 : Value}
    {f3 : Addr} {od3 an3 : Option Addr} {sl3 : Array (Option Value)} {oc3 kV3 dc3 pm3 cd3 ct3 : Value}
    {f4 : Addr} {od4 an4 : Option Addr} {sl4 : Array (Option Value)} {oc4 kV4 dc4 pm4 cd4 ct4 : Value}
    {f5 : Addr} {od5 an5 : Option Addr} {sl5 : Array (Option Value)} {oc5 kV5 dc5 pm5 cd5 ct5 : Value}
    {f6 : Addr} {od6 an6 : Option Addr} {sl6 : Array (Option Value)} {oc6 kV6 dc6 pm6 cd6 ct6 : Value}
    {f7 : Addr} {od7 an7 : Option Addr} {sl7 : Array (Option Value)} {oc7 kV7 dc7 pm7 cd7 ct7 : Value}
    {f8 : Addr} {od8 an8 : Option Addr} {sl8 : Array (Option Value)} {oc8 dc8 pm8 cd8 ct8 : Value}
    {kd8 : Addr}
    {f9 : Addr} {od9 an9 : Option Addr} {sl9 : Array (Option Value)} {oc9 kV9 dc9 pm9 cd9 ct9 : Value}
    {f10 : Addr} {od10 an10 : Option Addr} {sl10 : Array (Option Value)} {oc10 kV10 dc10 pm10 cd10 ct10 : Value}
    {f11 : Addr} {od11 an11 : Option Addr} {sl11 : Array (Option Value)} {oc11 kV11 dc11 pm11 cd11 ct11 : Value}
    {f12 : Addr} {od12 an12 : Option Addr} {sl12 : Array (Option Value)} {oc12 kV12 dc12 pm12 cd12 ct12 : Value}
    {f13 : Addr} {od13 an13 : Option Addr} {sl13 : Array (Option Value)} {oc13 kV13 dc13 pm13 cd13 ct13 : Value}
    {pp13 : Addr}
    {f14 : Addr} {od14 an14 : Option Addr} {sl14 : Array (Option Value)} {oc14 kV14 dc14 pm14 cd14 ct14 : Value}
    {f15 : Addr} {od15 an15 : Option Addr} {sl15 : Array (Option Value)} {oc15 kV15 dc15 pm15 cd15 ct15 : Value}
    {f16 : Addr} {od16 an16 : Option Addr} {sl16 : Array (Option Value)} {oc16 kV16 dc16 pm16 cd16 ct16 : Value}
    {f17 : Addr} {od17 an17 : Option Addr} {sl17 : Array (Option Value)} {oc17 kV17 dc17 pm17 cd17 ct17 : Value}
    {f18 : Addr} {od18 an18 : Option Addr} {sl18 : Array (Option Value)} {oc18 kV18 dc18 pm18 cd18 ct18 : Value}
    {f19 : Addr} {od19 an19 : Option Addr} {sl19 : Array (Option Value)} {oc19 kV19 dc19 pm19 cd19 ct19 : Value}
    {f20 : Addr} {od20 an20 : Option Addr} {sl20 : Array (Option Value)} {oc20 kV20 dc20 pm20 cd20 ct20 : Value}
    {f21 : Addr} {od21 an21 : Option Addr} {sl21 : Array (Option Value)} {oc21 kV21 dc21 pm21 cd21 ct21 : Value}
    {f22 : Addr} {od22 an22 : Option Addr} {sl22 : Array (Option Value)} {oc22 kV22 dc22 pm22 cd22 ct22 : Value}
    {f23 : Addr} {od23 an23 : Option Addr} {sl23 : Array (Option Value)} {oc23 kV23 dc23 pm23 cd23 ct23 : Value}
    {f24 : Addr} {od24 an24 : Option Addr} {sl24 : Array (Option Value)} {oc24 kV24 dc24 pm24 cd24 ct24 : Value}
    {f25 : Addr} {od25 an25 : Option Addr} {sl25 : Array (Option Value)} {oc25 kV25 dc25 pm25 cd25 ct25 : Value}
    {f26 : Addr} {od26 an26 : Option Addr} {sl26 : Array (Option Value)} {oc26 kV26 dc26 pm26 cd26 ct26 : Value}
    {f27 : Addr} {od27 an27 : Option Addr} {sl27 : Array (Option Value)} {oc27 kV27 dc27 pm27 cd27 ct27 : Value}
    {f28 : Addr} {od28 an28 : Option Addr} {sl28 : Array (Option Value)} {oc28 kV28 dc28 pm28 cd28 ct28 : Value}
    {f29 : Addr} {od29 an29 : Option Addr} {sl29 : Array (Option Value)} {oc29 kV29 dc29 pm29 cd29 ct29 : Value}
    {f30 : Addr} {od30 an30 : Option Addr} {sl30 : Array (Option Value)} {oc30 dc30 pm30 cd30 ct30 : Value}
    {tke : Tok}
    {kd30 : Addr}
    {f31 : Addr} {od31 an31 : Option Addr} {sl31 : Array (Option Value)} {oc31 kV31 dc31 pm31 cd31 ct31 : Value}
    {f32 : Addr} {od32 an32 : Option Addr} {sl32 : Array (Option Value)} {oc32 kV32 dc32 pm32 cd32 ct32 : Value}
    {f33 : Addr} {od33 an33 : Option Addr} {sl33 : Array (Option Value)} {oc33 kV33 dc33 pm33 cd33 ct33 : Value}
    {f34 : Addr} {od34 an34 : Option Addr} {sl34 : Array (Option Value)} {oc34 kV34 dc34 pm34 cd34 ct34 : Value}
    {f35 : Addr} {od35 an35 : Option Addr} {sl35 : Array (Option Value)} {oc35 kV35 dc35 pm35 cd35 ct35 : Value}
    {f36 : Addr} {od36 an36 : Option Addr} {sl36 : Array (Option Value)} {oc36 dc36 pm36 cd36 ct36 : Value}
    {tkt : Tok}
    {dt36 : Addr} {odt36 : Option Addr} {nt36 : Nat} {slt36 : Array (Option Value)}
    {kd36 : Addr}
    {f37 : Addr} {od37 an37 : Option Addr} {sl37 : Array (Option Value)} {oc37 kV37 dc37 pm37 cd37 ct37 : Value}
    {f38 : Addr} {od38 an38 : Option Addr} {sl38 : Array (Option Value)} {oc38 kV38 dc38 pm38 cd38 ct38 : Value}
    {f39 : Addr} {od39 an39 : Option Addr} {sl39 : Array (Option Value)} {oc39 kV39 dc39 pm39 cd39 ct39 : Value}
    {f40 : Addr} {od40 an40 : Option Addr} {sl40 : Array (Option Value)} {oc40 kV40 dc40 pm40 cd40 ct40 : Value}
    {f41 : Addr} {od41 an41 : Option Addr} {sl41 : Array (Option Value)} {oc41 kV41 dc41 pm41 cd41 ct41 : Value}
    {f42 : Addr} {od42 an42 : Option Addr} {sl42 : Array (Option Value)} {oc42 kV42 dc42 pm42 cd42 ct42 : Value}
    {f43 : Addr} {od43 an43 : Option Addr} {sl43 : Array (Option Value)} {oc43 kV43 dc43 pm43 cd43 ct43 : Value}
    {f44 : Addr} {od44 an44 : Option Addr} {sl44 : Array (Option Value)} {oc44 kV44 dc44 pm44 cd44 ct44 : Value}
    {f45 : Addr} {od45 an45 : Option Addr} {sl45 : Array (Option Value)} {oc45 kV45 dc45 pm45 cd45 ct45 : Value}
    {f46 : Addr} {od46 an46 : Option Addr} {sl46 : Array (Option Value)} {oc46 kV46 dc46 pm46 cd46 ct46 : Value}
    {f47 : Addr} {od47 an47 : Option Addr} {sl47 : Array (Option Value)} {oc47 kV47 dc47 pm47 cd47 ct47 : Value}
    {f48 : Addr} {od48 an48 : Option Addr} {sl48 : Array (Option Value)} {oc48 kV48 dc48 pm48 cd48 ct48 : Value}
    {f49 : Addr} {od49 an49 : Option Addr} {sl49 : Array (Option Value)} {oc49 kV49 dc49 pm49 cd49 ct49 : Value}
    {f50 : Addr} {od50 an50 : Option Addr} {sl50 : Array (Option Value)} {oc50 kV50 dc50 pm50 cd50 ct50 : Value}
    {tk0 : Tok}
    {tk1 : Tok}
    {tk2 : Tok}
    {tk3 : Tok}
    {tk4 : Tok}
    {tk5 : Tok}
    {tk6 : Tok}
    (aC1 : PySem.W.nsIn K mainGlobals "Walk" = some (some (.ref C1))) (cg1 : PySem.W.plainGet K C1 Str.empty = true) (ch1 : PySem.W.hasDictIn K C1 = true) (co1 : PySem.W.plainOver K C1 = true) (cx1 : PySem.W.findIn K (.ref C1) "__setattr__" = some (some (.builtin "object.__setattr__"))) (cm1 : PySem.W.makesIn K C1 = true) (ck1 : PySem.W.keepIn K (.ref C1) = true) (n1_0 : PySem.W.findIn K (.ref C1) "old" = some none) (n1_1 : PySem.W.findIn K (.ref C1) "most_members" = some none) (n1_2 : PySem.W.findIn K (.ref C1) "most_depth" = some none) (n1_3 : PySem.W.findIn K (.ref C1) "most_links" = some none) (n1_4 : PySem.W.findIn K (.ref C1) "numbers" = some none) (n1_5 : PySem.W.findIn K (.ref C1) "found" = some none)
    (aC2 : PySem.W.nsIn K mainGlobals "Record" = some (some (.ref C2))) (cg2 : PySem.W.plainGet K C2 Str.empty = true) (ch2 : PySem.W.hasDictIn K C2 = true) (co2 : PySem.W.plainOver K C2 = true) (cx2 : PySem.W.findIn K (.ref C2) "__setattr__" = some (some (.builtin "object.__setattr__"))) (cm2 : PySem.W.makesIn K C2 = true) (ck2 : PySem.W.keepIn K (.ref C2) = true) (n2_0 : PySem.W.findIn K (.ref C2) "kept" = some none) (n2_1 : PySem.W.findIn K (.ref C2) "head" = some none) (qa2 : PySem.W.findIn K (.ref C2) "__class__" = some (some (.builtin "object.__class__"))) (qb2 : PySem.W.specialIn K (.builtin "object.__class__") "__get__" = some (some (.builtin "getset_descriptor.__get__"))) (qc2 : PySem.W.takesIn K (.builtin "object.__class__") = some true) (qd2 : PySem.W.mroIn K C2 (.type "object") = some true)
    (aC3 : PySem.W.nsIn K mainGlobals "Recorder" = some (some (.ref C3))) (cg3 : PySem.W.plainGet K C3 Str.empty = true) (ch3 : PySem.W.hasDictIn K C3 = true) (co3 : PySem.W.plainOver K C3 = true) (cx3 : PySem.W.findIn K (.ref C3) "__setattr__" = some (some (.builtin "object.__setattr__"))) (cm3 : PySem.W.makesIn K C3 = true) (ck3 : PySem.W.keepIn K (.ref C3) = true) (n3_0 : PySem.W.findIn K (.ref C3) "stack" = some none) (n3_1 : PySem.W.findIn K (.ref C3) "frames_so_far" = some none) (n3_2 : PySem.W.findIn K (.ref C3) "faults" = some none) (n3_3 : PySem.W.findIn K (.ref C3) "bound" = some none) (n3_4 : PySem.W.findIn K (.ref C3) "caught" = some none) (n3_5 : PySem.W.findIn K (.ref C3) "current" = some none) (n3_6 : PySem.W.findIn K (.ref C3) "stars" = some none) (n3_7 : PySem.W.findIn K (.ref C3) "done_so_far" = some none)
    (aC4 : PySem.W.nsIn K mainGlobals "Frame" = some (some (.ref C4))) (cg4 : PySem.W.plainGet K C4 Str.empty = true) (ch4 : PySem.W.hasDictIn K C4 = true) (co4 : PySem.W.plainOver K C4 = true) (cx4 : PySem.W.findIn K (.ref C4) "__setattr__" = some (some (.builtin "object.__setattr__"))) (cm4 : PySem.W.makesIn K C4 = true) (ck4 : PySem.W.keepIn K (.ref C4) = true) (n4_0 : PySem.W.findIn K (.ref C4) "number" = some none) (n4_1 : PySem.W.findIn K (.ref C4) "origin" = some none) (n4_2 : PySem.W.findIn K (.ref C4) "at_line" = some none)
    (aC5 : PySem.W.nsIn K mainGlobals "Fault" = some (some (.ref C5))) (cg5 : PySem.W.plainGet K C5 Str.empty = true) (ch5 : PySem.W.hasDictIn K C5 = true) (co5 : PySem.W.plainOver K C5 = true) (cx5 : PySem.W.findIn K (.ref C5) "__setattr__" = some (some (.builtin "object.__setattr__"))) (cm5 : PySem.W.makesIn K C5 = true) (ck5 : PySem.W.keepIn K (.ref C5) = true) (n5_0 : PySem.W.findIn K (.ref C5) "kind" = some none) (n5_1 : PySem.W.findIn K (.ref C5) "message" = some none) (n5_2 : PySem.W.findIn K (.ref C5) "said" = some none) (n5_3 : PySem.W.findIn K (.ref C5) "passed" = some none) (n5_4 : PySem.W.findIn K (.ref C5) "group" = some none) (n5_5 : PySem.W.findIn K (.ref C5) "tie" = some none) (n5_6 : PySem.W.findIn K (.ref C5) "is_alone" = some none)
    (a1 : PySem.W.nsIn K mainGlobals "is_integer" = some (some (.ref f1))) (l1 : K.lookup f1 = some ⟨oc1, od1, .func (PySem.W.fnOf "is_integer" "is_integer" (defArgs s_is_integer) (defBody s_is_integer) (defScope s_is_integer) .none kV1 dc1 pm1 an1 cd1 ct1), sl1⟩) (c1 : PySem.W.codeIn K cd1 "is_integer" = true) (k1 : PySem.W.keepIn K (.ref f1) = true)
    (a2 : PySem.W.nsIn K mainGlobals "is_from" = some (some (.ref f2))) (l2 : K.lookup f2 = some ⟨oc2, od2, .func (PySem.W.fnOf "is_from" "is_from" (defArgs s_is_from) (defBody s_is_from) (defScope s_is_from) .none kV2 dc2 pm2 an2 cd2 ct2), sl2⟩) (c2 : PySem.W.codeIn K cd2 "is_from" = true) (k2 : PySem.W.keepIn K (.ref f2) = true)
    (a3 : PySem.W.nsIn K mainGlobals "is_name" = some (some (.ref f3))) (l3 : K.lookup f3 = some ⟨oc3, od3, .func (PySem.W.fnOf "is_name" "is_name" (defArgs s_is_name) (defBody s_is_name) (defScope s_is_name) .none kV3 dc3 pm3 an3 cd3 ct3), sl3⟩) (c3 : PySem.W.codeIn K cd3 "is_name" = true) (k3 : PySem.W.keepIn K (.ref f3) = true)
    (a4 : PySem.W.nsIn K mainGlobals "is_text" = some (some (.ref f4))) (l4 : K.lookup f4 = some ⟨oc4, od4, .func (PySem.W.fnOf "is_text" "is_text" (defArgs s_is_text) (defBody s_is_text) (defScope s_is_text) .none kV4 dc4 pm4 an4 cd4 ct4), sl4⟩) (c4 : PySem.W.codeIn K cd4 "is_text" = true) (k4 : PySem.W.keepIn K (.ref f4) = true)
    (a5 : PySem.W.nsIn K mainGlobals "numbers_in" = some (some (.ref f5))) (l5 : K.lookup f5 = some ⟨oc5, od5, .func (PySem.W.fnOf "numbers_in" "numbers_in" (defArgs s_numbers_in) (defBody s_numbers_in) (defScope s_numbers_in) .none kV5 dc5 pm5 an5 cd5 ct5), sl5⟩) (c5 : PySem.W.codeIn K cd5 "numbers_in" = true) (k5 : PySem.W.keepIn K (.ref f5) = true)
    (a6 : PySem.W.nsIn K mainGlobals "left_out" = some (some (.ref f6))) (l6 : K.lookup f6 = some ⟨oc6, od6, .func (PySem.W.fnOf "left_out" "left_out" (defArgs s_left_out) (defBody s_left_out) (defScope s_left_out) .none kV6 dc6 pm6 an6 cd6 ct6), sl6⟩) (c6 : PySem.W.codeIn K cd6 "left_out" = true) (k6 : PySem.W.keepIn K (.ref f6) = true)
    (a7 : PySem.W.nsIn K mainGlobals "headline" = some (some (.ref f7))) (l7 : K.lookup f7 = some ⟨oc7, od7, .func (PySem.W.fnOf "headline" "headline" (defArgs s_headline) (defBody s_headline) (defScope s_headline) .none kV7 dc7 pm7 an7 cd7 ct7), sl7⟩) (c7 : PySem.W.codeIn K cd7 "headline" = true) (k7 : PySem.W.keepIn K (.ref f7) = true)
    (a8 : PySem.W.findIn K (.ref C1) "__init__" = some (some (.ref f8))) (i8 : PySem.W.isFn K (.ref f8) = true) (l8 : K.lookup f8 = some ⟨oc8, od8, .func (PySem.W.fnOf "__init__" "Walk.__init__" (defArgs s_Walk___init__) (defBody s_Walk___init__) (defScope s_Walk___init__) .none (.ref kd8) dc8 pm8 an8 cd8 ct8), sl8⟩) (c8 : PySem.W.codeIn K cd8 "Walk.__init__" = true) (k8 : PySem.W.keepIn K (.ref f8) = true) (w8_0 : PySem.W.nsIn K kd8 "width" = some (some .none)) (w8_1 : PySem.W.nsIn K kd8 "depth" = some (some .none)) (w8_2 : PySem.W.nsIn K kd8 "chain" = some (some .none))
    (a9 : PySem.W.findIn K (.ref C1) "meet" = some (some (.ref f9))) (i9 : PySem.W.isFn K (.ref f9) = true) (l9 : K.lookup f9 = some ⟨oc9, od9, .func (PySem.W.fnOf "meet" "Walk.meet" (defArgs s_Walk_meet) (defBody s_Walk_meet) (defScope s_Walk_meet) .none kV9 dc9 pm9 an9 cd9 ct9), sl9⟩) (c9 : PySem.W.codeIn K cd9 "Walk.meet" = true) (k9 : PySem.W.keepIn K (.ref f9) = true)
    (a10 : PySem.W.findIn K (.ref C1) "met_members" = some (some (.ref f10))) (i10 : PySem.W.isFn K (.ref f10) = true) (l10 : K.lookup f10 = some ⟨oc10, od10, .func (PySem.W.fnOf "met_members" "Walk.met_members" (defArgs s_Walk_met_members) (defBody s_Walk_met_members) (defScope s_Walk_met_members) .none kV10 dc10 pm10 an10 cd10 ct10), sl10⟩) (c10 : PySem.W.codeIn K cd10 "Walk.met_members" = true) (k10 : PySem.W.keepIn K (.ref f10) = true)
    (a11 : PySem.W.findIn K (.ref C1) "met_link" = some (some (.ref f11))) (i11 : PySem.W.isFn K (.ref f11) = true) (l11 : K.lookup f11 = some ⟨oc11, od11, .func (PySem.W.fnOf "met_link" "Walk.met_link" (defArgs s_Walk_met_link) (defBody s_Walk_met_link) (defScope s_Walk_met_link) .none kV11 dc11 pm11 an11 cd11 ct11), sl11⟩) (c11 : PySem.W.codeIn K cd11 "Walk.met_link" = true) (k11 : PySem.W.keepIn K (.ref f11) = true)
    (a12 : PySem.W.findIn K (.ref C2) "__init__" = some (some (.ref f12))) (i12 : PySem.W.isFn K (.ref f12) = true) (l12 : K.lookup f12 = some ⟨oc12, od12, .func (PySem.W.fnOf "__init__" "Record.__init__" (defArgs s_Record___init__) (defBody s_Record___init__) (defScope s_Record___init__) .none kV12 dc12 pm12 an12 cd12 ct12), sl12⟩) (c12 : PySem.W.codeIn K cd12 "Record.__init__" = true) (k12 : PySem.W.keepIn K (.ref f12) = true)
    (a13 : PySem.W.findIn K (.ref C2) "entries" = some (some (.ref pp13))) (pg13 : PySem.W.specialIn K (.ref pp13) "__get__" = some (some (.builtin "property.__get__"))) (pt13 : PySem.W.takesIn K (.ref pp13) = some true) (pr13 : ∃ rest, PySem.W.recIn K pp13 "property" = some (.ref f13 :: rest)) (l13 : K.lookup f13 = some ⟨oc13, od13, .func (PySem.W.fnOf "entries" "Record.entries" (defArgs s_Record_entries) (defBody s_Record_entries) (defScope s_Record_entries) .none kV13 dc13 pm13 an13 cd13 ct13), sl13⟩) (c13 : PySem.W.codeIn K cd13 "Record.entries" = true) (k13 : PySem.W.keepIn K (.ref f13) = true)
    (a14 : PySem.W.findIn K (.ref C5) "__init__" = some (some (.ref f14))) (i14 : PySem.W.isFn K (.ref f14) = true) (l14 : K.lookup f14 = some ⟨oc14, od14, .func (PySem.W.fnOf "__init__" "Fault.__init__" (defArgs s_Fault___init__) (defBody s_Fault___init__) (defScope s_Fault___init__) .none kV14 dc14 pm14 an14 cd14 ct14), sl14⟩) (c14 : PySem.W.codeIn K cd14 "Fault.__init__" = true) (k14 : PySem.W.keepIn K (.ref f14) = true)
    (a15 : PySem.W.findIn K (.ref C5) "entry" = some (some (.ref f15))) (i15 : PySem.W.isFn K (.ref f15) = true) (l15 : K.lookup f15 = some ⟨oc15, od15, .func (PySem.W.fnOf "entry" "Fault.entry" (defArgs s_Fault_entry) (defBody s_Fault_entry) (defScope s_Fault_entry) .none kV15 dc15 pm15 an15 cd15 ct15), sl15⟩) (c15 : PySem.W.codeIn K cd15 "Fault.entry" = true) (k15 : PySem.W.keepIn K (.ref f15) = true)
    (a16 : PySem.W.nsIn K mainGlobals "recorded" = some (some (.ref f16))) (l16 : K.lookup f16 = some ⟨oc16, od16, .func (PySem.W.fnOf "recorded" "recorded" (defArgs s_recorded) (defBody s_recorded) (defScope s_recorded) .none kV16 dc16 pm16 an16 cd16 ct16), sl16⟩) (c16 : PySem.W.codeIn K cd16 "recorded" = true) (k16 : PySem.W.keepIn K (.ref f16) = true)
    (a17 : PySem.W.nsIn K mainGlobals "met_from" = some (some (.ref f17))) (l17 : K.lookup f17 = some ⟨oc17, od17, .func (PySem.W.fnOf "met_from" "met_from" (defArgs s_met_from) (defBody s_met_from) (defScope s_met_from) .none kV17 dc17 pm17 an17 cd17 ct17), sl17⟩) (c17 : PySem.W.codeIn K cd17 "met_from" = true) (k17 : PySem.W.keepIn K (.ref f17) = true)
    (a18 : PySem.W.findIn K (.ref C4) "__init__" = some (some (.ref f18))) (i18 : PySem.W.isFn K (.ref f18) = true) (l18 : K.lookup f18 = some ⟨oc18, od18, .func (PySem.W.fnOf "__init__" "Frame.__init__" (defArgs s_Frame___init__) (defBody s_Frame___init__) (defScope s_Frame___init__) .none kV18 dc18 pm18 an18 cd18 ct18), sl18⟩) (c18 : PySem.W.codeIn K cd18 "Frame.__init__" = true) (k18 : PySem.W.keepIn K (.ref f18) = true)
    (a19 : PySem.W.findIn K (.ref C4) "as_tuple" = some (some (.ref f19))) (i19 : PySem.W.isFn K (.ref f19) = true) (l19 : K.lookup f19 = some ⟨oc19, od19, .func (PySem.W.fnOf "as_tuple" "Frame.as_tuple" (defArgs s_Frame_as_tuple) (defBody s_Frame_as_tuple) (defScope s_Frame_as_tuple) .none kV19 dc19 pm19 an19 cd19 ct19), sl19⟩) (c19 : PySem.W.codeIn K cd19 "Frame.as_tuple" = true) (k19 : PySem.W.keepIn K (.ref f19) = true)
    (a20 : PySem.W.findIn K (.ref C4) "row" = some (some (.ref f20))) (i20 : PySem.W.isFn K (.ref f20) = true) (l20 : K.lookup f20 = some ⟨oc20, od20, .func (PySem.W.fnOf "row" "Frame.row" (defArgs s_Frame_row) (defBody s_Frame_row) (defScope s_Frame_row) .none kV20 dc20 pm20 an20 cd20 ct20), sl20⟩) (c20 : PySem.W.codeIn K cd20 "Frame.row" = true) (k20 : PySem.W.keepIn K (.ref f20) = true)
    (a21 : PySem.W.nsIn K mainGlobals "look_name" = some (some (.ref f21))) (l21 : K.lookup f21 = some ⟨oc21, od21, .func (PySem.W.fnOf "look_name" "look_name" (defArgs s_look_name) (defBody s_look_name) (defScope s_look_name) .none kV21 dc21 pm21 an21 cd21 ct21), sl21⟩) (c21 : PySem.W.codeIn K cd21 "look_name" = true) (k21 : PySem.W.keepIn K (.ref f21) = true)
    (a22 : PySem.W.nsIn K mainGlobals "look_text" = some (some (.ref f22))) (l22 : K.lookup f22 = some ⟨oc22, od22, .func (PySem.W.fnOf "look_text" "look_text" (defArgs s_look_text) (defBody s_look_text) (defScope s_look_text) .none kV22 dc22 pm22 an22 cd22 ct22), sl22⟩) (c22 : PySem.W.codeIn K cd22 "look_text" = true) (k22 : PySem.W.keepIn K (.ref f22) = true)
    (a23 : PySem.W.nsIn K mainGlobals "look_line" = some (some (.ref f23))) (l23 : K.lookup f23 = some ⟨oc23, od23, .func (PySem.W.fnOf "look_line" "look_line" (defArgs s_look_line) (defBody s_look_line) (defScope s_look_line) .none kV23 dc23 pm23 an23 cd23 ct23), sl23⟩) (c23 : PySem.W.codeIn K cd23 "look_line" = true) (k23 : PySem.W.keepIn K (.ref f23) = true)
    (a24 : PySem.W.findIn K (.ref C3) "__init__" = some (some (.ref f24))) (i24 : PySem.W.isFn K (.ref f24) = true) (l24 : K.lookup f24 = some ⟨oc24, od24, .func (PySem.W.fnOf "__init__" "Recorder.__init__" (defArgs s_Recorder___init__) (defBody s_Recorder___init__) (defScope s_Recorder___init__) .none kV24 dc24 pm24 an24 cd24 ct24), sl24⟩) (c24 : PySem.W.codeIn K cd24 "Recorder.__init__" = true) (k24 : PySem.W.keepIn K (.ref f24) = true)
    (a25 : PySem.W.findIn K (.ref C3) "keep" = some (some (.ref f25))) (i25 : PySem.W.isFn K (.ref f25) = true) (l25 : K.lookup f25 = some ⟨oc25, od25, .func (PySem.W.fnOf "keep" "Recorder.keep" (defArgs s_Recorder_keep) (defBody s_Recorder_keep) (defScope s_Recorder_keep) .none kV25 dc25 pm25 an25 cd25 ct25), sl25⟩) (c25 : PySem.W.codeIn K cd25 "Recorder.keep" = true) (k25 : PySem.W.keepIn K (.ref f25) = true)
    (a26 : PySem.W.findIn K (.ref C3) "look_calm" = some (some (.ref f26))) (i26 : PySem.W.isFn K (.ref f26) = true) (l26 : K.lookup f26 = some ⟨oc26, od26, .func (PySem.W.fnOf "look_calm" "Recorder.look_calm" (defArgs s_Recorder_look_calm) (defBody s_Recorder_look_calm) (defScope s_Recorder_look_calm) .none kV26 dc26 pm26 an26 cd26 ct26), sl26⟩) (c26 : PySem.W.codeIn K cd26 "Recorder.look_calm" = true) (k26 : PySem.W.keepIn K (.ref f26) = true)
    (a27 : PySem.W.findIn K (.ref C3) "look_frame" = some (some (.ref f27))) (i27 : PySem.W.isFn K (.ref f27) = true) (l27 : K.lookup f27 = some ⟨oc27, od27, .func (PySem.W.fnOf "look_frame" "Recorder.look_frame" (defArgs s_Recorder_look_frame) (defBody s_Recorder_look_frame) (defScope s_Recorder_look_frame) .none kV27 dc27 pm27 an27 cd27 ct27), sl27⟩) (c27 : PySem.W.codeIn K cd27 "Recorder.look_frame" = true) (k27 : PySem.W.keepIn K (.ref f27) = true)
    (a28 : PySem.W.findIn K (.ref C3) "cause_of" = some (some (.ref f28))) (i28 : PySem.W.isFn K (.ref f28) = true) (l28 : K.lookup f28 = some ⟨oc28, od28, .func (PySem.W.fnOf "cause_of" "Recorder.cause_of" (defArgs s_Recorder_cause_of) (defBody s_Recorder_cause_of) (defScope s_Recorder_cause_of) .none kV28 dc28 pm28 an28 cd28 ct28), sl28⟩) (c28 : PySem.W.codeIn K cd28 "Recorder.cause_of" = true) (k28 : PySem.W.keepIn K (.ref f28) = true)
    (a29 : PySem.W.findIn K (.ref C3) "made" = some (some (.ref f29))) (i29 : PySem.W.isFn K (.ref f29) = true) (l29 : K.lookup f29 = some ⟨oc29, od29, .func (PySem.W.fnOf "made" "Recorder.made" (defArgs s_Recorder_made) (defBody s_Recorder_made) (defScope s_Recorder_made) .none kV29 dc29 pm29 an29 cd29 ct29), sl29⟩) (c29 : PySem.W.codeIn K cd29 "Recorder.made" = true) (k29 : PySem.W.keepIn K (.ref f29) = true)
    (a30 : PySem.W.findIn K (.ref C3) "call" = some (some (.ref f30))) (i30 : PySem.W.isFn K (.ref f30) = true) (l30 : K.lookup f30 = some ⟨oc30, od30, .func (PySem.W.fnOf "call" "Recorder.call" (defArgs s_Recorder_call) (defBody s_Recorder_call) (defScope s_Recorder_call) .none (.ref kd30) dc30 pm30 an30 cd30 ct30), sl30⟩) (c30 : PySem.W.codeIn K cd30 "Recorder.call" = true) (k30 : PySem.W.keepIn K (.ref f30) = true) (w30_0 : PySem.W.nsIn K kd30 "edition" = some (some (.int 0 tke)))
    (a31 : PySem.W.findIn K (.ref C3) "at" = some (some (.ref f31))) (i31 : PySem.W.isFn K (.ref f31) = true) (l31 : K.lookup f31 = some ⟨oc31, od31, .func (PySem.W.fnOf "at" "Recorder.at" (defArgs s_Recorder_at) (defBody s_Recorder_at) (defScope s_Recorder_at) .none kV31 dc31 pm31 an31 cd31 ct31), sl31⟩) (c31 : PySem.W.codeIn K cd31 "Recorder.at" = true) (k31 : PySem.W.keepIn K (.ref f31) = true)
    (a32 : PySem.W.findIn K (.ref C3) "remove_top" = some (some (.ref f32))) (i32 : PySem.W.isFn K (.ref f32) = true) (l32 : K.lookup f32 = some ⟨oc32, od32, .func (PySem.W.fnOf "remove_top" "Recorder.remove_top" (defArgs s_Recorder_remove_top) (defBody s_Recorder_remove_top) (defScope s_Recorder_remove_top) .none kV32 dc32 pm32 an32 cd32 ct32), sl32⟩) (c32 : PySem.W.codeIn K cd32 "Recorder.remove_top" = true) (k32 : PySem.W.keepIn K (.ref f32) = true)
    (a33 : PySem.W.findIn K (.ref C3) "leave" = some (some (.ref f33))) (i33 : PySem.W.isFn K (.ref f33) = true) (l33 : K.lookup f33 = some ⟨oc33, od33, .func (PySem.W.fnOf "leave" "Recorder.leave" (defArgs s_Recorder_leave) (defBody s_Recorder_leave) (defScope s_Recorder_leave) .none kV33 dc33 pm33 an33 cd33 ct33), sl33⟩) (c33 : PySem.W.codeIn K cd33 "Recorder.leave" = true) (k33 : PySem.W.keepIn K (.ref f33) = true)
    (a34 : PySem.W.findIn K (.ref C3) "fly" = some (some (.ref f34))) (i34 : PySem.W.isFn K (.ref f34) = true) (l34 : K.lookup f34 = some ⟨oc34, od34, .func (PySem.W.fnOf "fly" "Recorder.fly" (defArgs s_Recorder_fly) (defBody s_Recorder_fly) (defScope s_Recorder_fly) .none kV34 dc34 pm34 an34 cd34 ct34), sl34⟩) (c34 : PySem.W.codeIn K cd34 "Recorder.fly" = true) (k34 : PySem.W.keepIn K (.ref f34) = true)
    (a35 : PySem.W.findIn K (.ref C3) "look_throw" = some (some (.ref f35))) (i35 : PySem.W.isFn K (.ref f35) = true) (l35 : K.lookup f35 = some ⟨oc35, od35, .func (PySem.W.fnOf "look_throw" "Recorder.look_throw" (defArgs s_Recorder_look_throw) (defBody s_Recorder_look_throw) (defScope s_Recorder_look_throw) .none kV35 dc35 pm35 an35 cd35 ct35), sl35⟩) (c35 : PySem.W.codeIn K cd35 "Recorder.look_throw" = true) (k35 : PySem.W.keepIn K (.ref f35) = true)
    (a36 : PySem.W.findIn K (.ref C3) "throw" = some (some (.ref f36))) (i36 : PySem.W.isFn K (.ref f36) = true) (l36 : K.lookup f36 = some ⟨oc36, od36, .func (PySem.W.fnOf "throw" "Recorder.throw" (defArgs s_Recorder_throw) (defBody s_Recorder_throw) (defScope s_Recorder_throw) (.ref dt36) (.ref kd36) dc36 pm36 an36 cd36 ct36), sl36⟩) (c36 : PySem.W.codeIn K cd36 "Recorder.throw" = true) (k36 : PySem.W.keepIn K (.ref f36) = true) (dtl36 : K.lookup dt36 = some ⟨.type "tuple", odt36, .seq #[.str "" tkt] nt36, slt36⟩) (w36_0 : PySem.W.nsIn K kd36 "cause" = some (some .none)) (w36_1 : PySem.W.nsIn K kd36 "alone" = some (some (.bool false)))
    (a37 : PySem.W.findIn K (.ref C3) "pass_on" = some (some (.ref f37))) (i37 : PySem.W.isFn K (.ref f37) = true) (l37 : K.lookup f37 = some ⟨oc37, od37, .func (PySem.W.fnOf "pass_on" "Recorder.pass_on" (defArgs s_Recorder_pass_on) (defBody s_Recorder_pass_on) (defScope s_Recorder_pass_on) .none kV37 dc37 pm37 an37 cd37 ct37), sl37⟩) (c37 : PySem.W.codeIn K cd37 "Recorder.pass_on" = true) (k37 : PySem.W.keepIn K (.ref f37) = true)
    (a38 : PySem.W.findIn K (.ref C3) "flying" = some (some (.ref f38))) (i38 : PySem.W.isFn K (.ref f38) = true) (l38 : K.lookup f38 = some ⟨oc38, od38, .func (PySem.W.fnOf "flying" "Recorder.flying" (defArgs s_Recorder_flying) (defBody s_Recorder_flying) (defScope s_Recorder_flying) .none kV38 dc38 pm38 an38 cd38 ct38), sl38⟩) (c38 : PySem.W.codeIn K cd38 "Recorder.flying" = true) (k38 : PySem.W.keepIn K (.ref f38) = true)
    (a39 : PySem.W.findIn K (.ref C3) "handled" = some (some (.ref f39))) (i39 : PySem.W.isFn K (.ref f39) = true) (l39 : K.lookup f39 = some ⟨oc39, od39, .func (PySem.W.fnOf "handled" "Recorder.handled" (defArgs s_Recorder_handled) (defBody s_Recorder_handled) (defScope s_Recorder_handled) .none kV39 dc39 pm39 an39 cd39 ct39), sl39⟩) (c39 : PySem.W.codeIn K cd39 "Recorder.handled" = true) (k39 : PySem.W.keepIn K (.ref f39) = true)
    (a40 : PySem.W.findIn K (.ref C3) "held" = some (some (.ref f40))) (i40 : PySem.W.isFn K (.ref f40) = true) (l40 : K.lookup f40 = some ⟨oc40, od40, .func (PySem.W.fnOf "held" "Recorder.held" (defArgs s_Recorder_held) (defBody s_Recorder_held) (defScope s_Recorder_held) .none kV40 dc40 pm40 an40 cd40 ct40), sl40⟩) (c40 : PySem.W.codeIn K cd40 "Recorder.held" = true) (k40 : PySem.W.keepIn K (.ref f40) = true)
    (a41 : PySem.W.findIn K (.ref C3) "frames" = some (some (.ref f41))) (i41 : PySem.W.isFn K (.ref f41) = true) (l41 : K.lookup f41 = some ⟨oc41, od41, .func (PySem.W.fnOf "frames" "Recorder.frames" (defArgs s_Recorder_frames) (defBody s_Recorder_frames) (defScope s_Recorder_frames) .none kV41 dc41 pm41 an41 cd41 ct41), sl41⟩) (c41 : PySem.W.codeIn K cd41 "Recorder.frames" = true) (k41 : PySem.W.keepIn K (.ref f41) = true)
    (a42 : PySem.W.findIn K (.ref C3) "names" = some (some (.ref f42))) (i42 : PySem.W.isFn K (.ref f42) = true) (l42 : K.lookup f42 = some ⟨oc42, od42, .func (PySem.W.fnOf "names" "Recorder.names" (defArgs s_Recorder_names) (defBody s_Recorder_names) (defScope s_Recorder_names) .none kV42 dc42 pm42 an42 cd42 ct42), sl42⟩) (c42 : PySem.W.codeIn K cd42 "Recorder.names" = true) (k42 : PySem.W.keepIn K (.ref f42) = true)
    (a43 : PySem.W.nsIn K mainGlobals "_law_bag" = some (some (.ref f43))) (l43 : K.lookup f43 = some ⟨oc43, od43, .func (PySem.W.fnOf "_law_bag" "_law_bag" (defArgs s_bag) (defBody s_bag) (defScope s_bag) .none kV43 dc43 pm43 an43 cd43 ct43), sl43⟩) (c43 : PySem.W.codeIn K cd43 "_law_bag" = true) (k43 : PySem.W.keepIn K (.ref f43) = true)
    (a44 : PySem.W.nsIn K mainGlobals "_law_take" = some (some (.ref f44))) (l44 : K.lookup f44 = some ⟨oc44, od44, .func (PySem.W.fnOf "_law_take" "_law_take" (defArgs s_take) (defBody s_take) (defScope s_take) .none kV44 dc44 pm44 an44 cd44 ct44), sl44⟩) (c44 : PySem.W.codeIn K cd44 "_law_take" = true) (k44 : PySem.W.keepIn K (.ref f44) = true)
    (a45 : PySem.W.nsIn K mainGlobals "_law_of" = some (some (.ref f45))) (l45 : K.lookup f45 = some ⟨oc45, od45, .func (PySem.W.fnOf "_law_of" "_law_of" (defArgs s_of) (defBody s_of) (defScope s_of) .none kV45 dc45 pm45 an45 cd45 ct45), sl45⟩) (c45 : PySem.W.codeIn K cd45 "_law_of" = true) (k45 : PySem.W.keepIn K (.ref f45) = true)
    (a46 : PySem.W.nsIn K mainGlobals "_law_name" = some (some (.ref f46))) (l46 : K.lookup f46 = some ⟨oc46, od46, .func (PySem.W.fnOf "_law_name" "_law_name" (defArgs s_name) (defBody s_name) (defScope s_name) .none kV46 dc46 pm46 an46 cd46 ct46), sl46⟩) (c46 : PySem.W.codeIn K cd46 "_law_name" = true) (k46 : PySem.W.keepIn K (.ref f46) = true)
    (a47 : PySem.W.nsIn K mainGlobals "_law_word" = some (some (.ref f47))) (l47 : K.lookup f47 = some ⟨oc47, od47, .func (PySem.W.fnOf "_law_word" "_law_word" (defArgs s_word) (defBody s_word) (defScope s_word) .none kV47 dc47 pm47 an47 cd47 ct47), sl47⟩) (c47 : PySem.W.codeIn K cd47 "_law_word" = true) (k47 : PySem.W.keepIn K (.ref f47) = true)
    (a48 : PySem.W.nsIn K mainGlobals "_law_frame" = some (some (.ref f48))) (l48 : K.lookup f48 = some ⟨oc48, od48, .func (PySem.W.fnOf "_law_frame" "_law_frame" (defArgs s_frame) (defBody s_frame) (defScope s_frame) .none kV48 dc48 pm48 an48 cd48 ct48), sl48⟩) (c48 : PySem.W.codeIn K cd48 "_law_frame" = true) (k48 : PySem.W.keepIn K (.ref f48) = true)
    (a49 : PySem.W.nsIn K mainGlobals "_law_out" = some (some (.ref f49))) (l49 : K.lookup f49 = some ⟨oc49, od49, .func (PySem.W.fnOf "_law_out" "_law_out" (defArgs s_out) (defBody s_out) (defScope s_out) .none kV49 dc49 pm49 an49 cd49 ct49), sl49⟩) (c49 : PySem.W.codeIn K cd49 "_law_out" = true) (k49 : PySem.W.keepIn K (.ref f49) = true)
    (a50 : PySem.W.nsIn K mainGlobals "law" = some (some (.ref f50))) (l50 : K.lookup f50 = some ⟨oc50, od50, .func (PySem.W.fnOf "law" "law" (defArgs s_law) (defBody s_law) (defScope s_law) .none kV50 dc50 pm50 an50 cd50 ct50), sl50⟩) (c50 : PySem.W.codeIn K cd50 "law" = true) (k50 : PySem.W.keepIn K (.ref f50) = true)
    (m0 : PySem.W.nsIn K mainGlobals "LETTERS" = some (some (.str "abcdefghijklmnopqrstuvwxyz" tk0)))
    (m1 : PySem.W.nsIn K mainGlobals "MOST_LETTERS" = some (some (.int 8 tk1)))
    (m2 : PySem.W.nsIn K mainGlobals "FEED" = some (some (.str "\n" tk2)))
    (m3 : PySem.W.nsIn K mainGlobals "MORE" = some (some (.str "more" tk3)))
    (m4 : PySem.W.nsIn K mainGlobals "DEEP" = some (some (.str "deep" tk4)))
    (m5 : PySem.W.nsIn K mainGlobals "MOST_FRAMES_recorder" = some (some (.int 100 tk5)))
    (m6 : PySem.W.nsIn K mainGlobals "MOST_ERRORS_recorder" = some (some (.int 60 tk6)))
    (z0 : PySem.W.nsIn K mainGlobals "int" = some none)
    (z1 : PySem.W.nsIn K mainGlobals "bool" = some none)
    (z2 : PySem.W.nsIn K mainGlobals "str" = some none)
    (z3 : PySem.W.nsIn K mainGlobals "list" = some none)
    (z4 : PySem.W.nsIn K mainGlobals "tuple" = some none)
    (z5 : PySem.W.nsIn K mainGlobals "len" = some none)
    (z6 : PySem.W.nsIn K mainGlobals "isinstance" = some none)
    (z7 : PySem.W.nsIn K mainGlobals "abs" = some none)
    (z8 : PySem.W.nsIn K mainGlobals "min" = some none)
    (z9 : PySem.W.nsIn K mainGlobals "max" = some none)
    (z10 : PySem.W.nsIn K mainGlobals "any" = some none)
    (z11 : PySem.W.nsIn K mainGlobals "all" = some none)
    (z12 : PySem.W.nsIn K mainGlobals "sum" = some none)
    (z13 : PySem.W.nsIn K mainGlobals "range" = some none)
    (z14 : PySem.W.nsIn K mainGlobals "zip" = some none)
    (z15 : PySem.W.nsIn K mainGlobals "enumerate" = some none)
    (z16 : PySem.W.nsIn K mainGlobals "repr" = some none)
    (z17 : PySem.W.nsIn K mainGlobals "sorted" = some none)
    (z18 : PySem.W.nsIn K mainGlobals "dict" = some none) :
    ∃ fd : FuncData, (∀ (s : Shared) (v : Value), BindsTo s fd ⟨[v], []⟩ [("_law_script", v)]) ∧ ∀ base : Heap, K.In base → base.Ns mainGlobals mg → FnG l.prog w K mg base CX0 10 fa fd ["_law_script"] (toSp K spLaw) := by
  have e := hfa.symm.trans (PySem.W.mg_of X G a50)
  cases e
  have Z : Zs mg := ⟨PySem.W.mg_none_of X G z0, PySem.W.mg_none_of X G z1, PySem.W.mg_none_of X G z2, PySem.W.mg_none_of X G z3, PySem.W.mg_none_of X G z4, PySem.W.mg_none_of X G z5, PySem.W.mg_none_of X G z6, PySem.W.mg_none_of X G z7, PySem.W.mg_none_of X G z8, PySem.W.mg_none_of X G z9, PySem.W.mg_none_of X G z10, PySem.W.mg_none_of X G z11, PySem.W.mg_none_of X G z12, PySem.W.mg_none_of X G z13, PySem.W.mg_none_of X G z14, PySem.W.mg_none_of X G z15, PySem.W.mg_none_of X G z16, PySem.W.mg_none_of X G z17, PySem.W.mg_none_of X G z18⟩
  have g0 : MgK K mg "LETTERS" (.str "abcdefghijklmnopqrstuvwxyz") := mgk_str (PySem.W.mg_of X G m0)
  have g1 : MgK K mg "MOST_LETTERS" (.int 8) := mgk_int (PySem.W.mg_of X G m1)
  have g2 : MgK K mg "FEED" (.str "\n") := mgk_str (PySem.W.mg_of X G m2)
  have g3 : MgK K mg "MORE" (.str "more") := mgk_str (PySem.W.mg_of X G m3)
  have g4 : MgK K mg "DEEP" (.str "deep") := mgk_str (PySem.W.mg_of X G m4)
  have g5 : MgK K mg "MOST_FRAMES_recorder" (.int 100) := mgk_int (PySem.W.mg_of X G m5)
  have g6 : MgK K mg "MOST_ERRORS_recorder" (.int 60) := mgk_int (PySem.W.mg_of X G m6)
  have cls1 : Cls K C1 := ⟨cg1, ch1, co1, cx1⟩
  have T1 := (⟨⟨cls1, n1_0⟩, ⟨cls1, n1_1⟩, ⟨cls1, n1_2⟩, ⟨cls1, n1_3⟩, ⟨cls1, n1_4⟩, ⟨cls1, n1_5⟩⟩ : Twc K C1)
  have cls2 : Cls K C2 := ⟨cg2, ch2, co2, cx2⟩
  have T2 := (⟨⟨cls2, n2_0⟩, ⟨cls2, n2_1⟩⟩ : Trc K C2)
  have hI2 : C8.InsC K C2 := ⟨cls2, qa2, qb2, qc2, qd2, if_pos (beq_self_eq_true _)⟩
  have cls3 : Cls K C3 := ⟨cg3, ch3, co3, cx3⟩
  have T3 := (⟨⟨cls3, n3_0⟩, ⟨cls3, n3_1⟩, ⟨cls3, n3_2⟩, ⟨cls3, n3_3⟩, ⟨cls3, n3_4⟩, ⟨cls3, n3_5⟩, ⟨cls3, n3_6⟩, ⟨cls3, n3_7⟩⟩ : Rcc K C3)
  have cls4 : Cls K C4 := ⟨cg4, ch4, co4, cx4⟩
  have T4 := (⟨⟨cls4, n4_0⟩, ⟨cls4, n4_1⟩, ⟨cls4, n4_2⟩⟩ : Frc K C4)
  have cls5 : Cls K C5 := ⟨cg5, ch5, co5, cx5⟩
  have T5 := (⟨⟨cls5, n5_0⟩, ⟨cls5, n5_1⟩, ⟨cls5, n5_2⟩, ⟨cls5, n5_3⟩, ⟨cls5, n5_4⟩, ⟨cls5, n5_5⟩, ⟨cls5, n5_6⟩⟩ : Ftc K C5)
  have F1 := fun_mk (st := s_is_integer) l1 c1 k1
  have b1 := F1.binds (ps := ["thing"]) fun _ _ _ _ _ _ us hl => match us, hl with | [_], _ => rfl
  have F2 := fun_mk (st := s_is_from) l2 c2 k2
  have b2 := F2.binds (ps := ["thing", "low"]) fun _ _ _ _ _ _ us hl => match us, hl with | [_, _], _ => rfl
  have F3 := fun_mk (st := s_is_name) l3 c3 k3
  have b3 := F3.binds (ps := ["thing"]) fun _ _ _ _ _ _ us hl => match us, hl with | [_], _ => rfl
  have F4 := fun_mk (st := s_is_text) l4 c4 k4
  have b4 := F4.binds (ps := ["thing"]) fun _ _ _ _ _ _ us hl => match us, hl with | [_], _ => rfl
  have F5 := fun_mk (st := s_numbers_in) l5 c5 k5
  have b5 := F5.binds (ps := ["members"]) fun _ _ _ _ _ _ us hl => match us, hl with | [_], _ => rfl
  have F6 := fun_mk (st := s_left_out) l6 c6 k6
  have b6 := F6.binds (ps := ["members"]) fun _ _ _ _ _ _ us hl => match us, hl with | [_], _ => rfl
  have F7 := fun_mk (st := s_headline) l7 c7 k7
  have b7 := F7.binds (ps := ["entry"]) fun _ _ _ _ _ _ us hl => match us, hl with | [_], _ => rfl
  have F8 := fun_mk (st := s_Walk___init__) l8 c8 k8
  obtain ⟨ds8, vd8, b8⟩ := bd_wInit l8 c8 k8 w8_0 w8_1 w8_2
  have F9 := fun_mk (st := s_Walk_meet) l9 c9 k9
  have b9 := F9.binds (ps := ["self", "key", "depth", "distance"]) fun _ _ _ _ _ _ us hl => match us, hl with | [_, _, _, _], _ => rfl
  have F10 := fun_mk (st := s_Walk_met_members) l10 c10 k10
  have b10 := F10.binds (ps := ["self", "members", "depth"]) fun _ _ _ _ _ _ us hl => match us, hl with | [_, _, _], _ => rfl
  have F11 := fun_mk (st := s_Walk_met_link) l11 c11 k11
  have b11 := F11.binds (ps := ["self", "link", "depth", "distance"]) fun _ _ _ _ _ _ us hl => match us, hl with | [_, _, _, _], _ => rfl
  have F12 := fun_mk (st := s_Record___init__) l12 c12 k12
  have b12 := F12.binds (ps := ["self", "entries"]) fun _ _ _ _ _ _ us hl => match us, hl with | [_, _], _ => rfl
  have F13 := fun_mk (st := s_Record_entries) l13 c13 k13
  have b13 := F13.binds (ps := ["self"]) fun _ _ _ _ _ _ us hl => match us, hl with | [_], _ => rfl
  have F14 := fun_mk (st := s_Fault___init__) l14 c14 k14
  have b14 := F14.binds (ps := ["self", "kind", "message", "group"]) fun _ _ _ _ _ _ us hl => match us, hl with | [_, _, _, _], _ => rfl
  have F15 := fun_mk (st := s_Fault_entry) l15 c15 k15
  have b15 := F15.binds (ps := ["self"]) fun _ _ _ _ _ _ us hl => match us, hl with | [_], _ => rfl
  have F16 := fun_mk (st := s_recorded) l16 c16 k16
  have b16 := F16.binds (ps := ["faults", "number"]) fun _ _ _ _ _ _ us hl => match us, hl with | [_, _], _ => rfl
  have F17 := fun_mk (st := s_met_from) l17 c17 k17
  have b17 := F17.binds (ps := ["faults", "numbers"]) fun _ _ _ _ _ _ us hl => match us, hl with | [_, _], _ => rfl
  have F18 := fun_mk (st := s_Frame___init__) l18 c18 k18
  have b18 := F18.binds (ps := ["self", "number", "function", "file", "edition"]) fun _ _ _ _ _ _ us hl => match us, hl with | [_, _, _, _, _], _ => rfl
  have F19 := fun_mk (st := s_Frame_as_tuple) l19 c19 k19
  have b19 := F19.binds (ps := ["self"]) fun _ _ _ _ _ _ us hl => match us, hl with | [_], _ => rfl
  have F20 := fun_mk (st := s_Frame_row) l20 c20 k20
  have b20 := F20.binds (ps := ["self"]) fun _ _ _ _ _ _ us hl => match us, hl with | [_], _ => rfl
  have F21 := fun_mk (st := s_look_name) l21 c21 k21
  have b21 := F21.binds (ps := ["name"]) fun _ _ _ _ _ _ us hl => match us, hl with | [_], _ => rfl
  have F22 := fun_mk (st := s_look_text) l22 c22 k22
  have b22 := F22.binds (ps := ["text"]) fun _ _ _ _ _ _ us hl => match us, hl with | [_], _ => rfl
  have F23 := fun_mk (st := s_look_line) l23 c23 k23
  have b23 := F23.binds (ps := ["line", "least"]) fun _ _ _ _ _ _ us hl => match us, hl with | [_, _], _ => rfl
  have F24 := fun_mk (st := s_Recorder___init__) l24 c24 k24
  have b24 := F24.binds (ps := ["self"]) fun _ _ _ _ _ _ us hl => match us, hl with | [_], _ => rfl
  have F25 := fun_mk (st := s_Recorder_keep) l25 c25 k25
  have b25 := F25.binds (ps := ["self", "call"]) fun _ _ _ _ _ _ us hl => match us, hl with | [_, _], _ => rfl
  have F26 := fun_mk (st := s_Recorder_look_calm) l26 c26 k26
  have b26 := F26.binds (ps := ["self"]) fun _ _ _ _ _ _ us hl => match us, hl with | [_], _ => rfl
  have F27 := fun_mk (st := s_Recorder_look_frame) l27 c27 k27
  have b27 := F27.binds (ps := ["self"]) fun _ _ _ _ _ _ us hl => match us, hl with | [_], _ => rfl
  have F28 := fun_mk (st := s_Recorder_cause_of) l28 c28 k28
  have b28 := F28.binds (ps := ["self", "name"]) fun _ _ _ _ _ _ us hl => match us, hl with | [_, _], _ => rfl
  have F29 := fun_mk (st := s_Recorder_made) l29 c29 k29
  have b29 := F29.binds (ps := ["self", "fault"]) fun _ _ _ _ _ _ us hl => match us, hl with | [_, _], _ => rfl
  have F30 := fun_mk (st := s_Recorder_call) l30 c30 k30
  have FD30 := funD_kw (kws := callKw) l30 c30 k30 (kwCall w30_0)
  obtain ⟨ds30, vd30, b30⟩ := bd_call FD30
  have F31 := fun_mk (st := s_Recorder_at) l31 c31 k31
  have b31 := F31.binds (ps := ["self", "line"]) fun _ _ _ _ _ _ us hl => match us, hl with | [_, _], _ => rfl
  have F32 := fun_mk (st := s_Recorder_remove_top) l32 c32 k32
  have b32 := F32.binds (ps := ["self"]) fun _ _ _ _ _ _ us hl => match us, hl with | [_], _ => rfl
  have F33 := fun_mk (st := s_Recorder_leave) l33 c33 k33
  have b33 := F33.binds (ps := ["self"]) fun _ _ _ _ _ _ us hl => match us, hl with | [_], _ => rfl
  have F34 := fun_mk (st := s_Recorder_fly) l34 c34 k34
  have b34 := F34.binds (ps := ["self", "number", "cause", "alone"]) fun _ _ _ _ _ _ us hl => match us, hl with | [_, _, _, _], _ => rfl
  have F35 := fun_mk (st := s_Recorder_look_throw) l35 c35 k35
  have b35 := F35.binds (ps := ["self", "kind", "message"]) fun _ _ _ _ _ _ us hl => match us, hl with | [_, _, _], _ => rfl
  have FD36 := funD_oneKw (st := s_Recorder_throw) (d := V.str "") (kws := thrKw) l36 c36 k36 dtl36 ⟨_, rfl⟩ (kwThr w36_0 w36_1)
  obtain ⟨ds36, vd36, b36⟩ := bd_thr FD36
  have F37 := fun_mk (st := s_Recorder_pass_on) l37 c37 k37
  have b37 := F37.binds (ps := ["self"]) fun _ _ _ _ _ _ us hl => match us, hl with | [_], _ => rfl
  have F38 := fun_mk (st := s_Recorder_flying) l38 c38 k38
  have b38 := F38.binds (ps := ["self"]) fun _ _ _ _ _ _ us hl => match us, hl with | [_], _ => rfl
  have F39 := fun_mk (st := s_Recorder_handled) l39 c39 k39
  have b39 := F39.binds (ps := ["self"]) fun _ _ _ _ _ _ us hl => match us, hl with | [_], _ => rfl
  have F40 := fun_mk (st := s_Recorder_held) l40 c40 k40
  have b40 := F40.binds (ps := ["self"]) fun _ _ _ _ _ _ us hl => match us, hl with | [_], _ => rfl
  have F41 := fun_mk (st := s_Recorder_frames) l41 c41 k41
  have b41 := F41.binds (ps := ["self"]) fun _ _ _ _ _ _ us hl => match us, hl with | [_], _ => rfl
  have F42 := fun_mk (st := s_Recorder_names) l42 c42 k42
  have b42 := F42.binds (ps := ["self"]) fun _ _ _ _ _ _ us hl => match us, hl with | [_], _ => rfl
  have F43 := fun_mk (st := s_bag) l43 c43 k43
  have b43 := F43.binds (ps := ["_law_script", "_law_at"]) fun _ _ _ _ _ _ us hl => match us, hl with | [_, _], _ => rfl
  have F44 := fun_mk (st := s_take) l44 c44 k44
  have b44 := F44.binds (ps := ["_law_bag_here", "_law_many"]) fun _ _ _ _ _ _ us hl => match us, hl with | [_, _], _ => rfl
  have F45 := fun_mk (st := s_of) l45 c45 k45
  have b45 := F45.binds (ps := ["_law_bag_here", "_law_some"]) fun _ _ _ _ _ _ us hl => match us, hl with | [_, _], _ => rfl
  have F46 := fun_mk (st := s_name) l46 c46 k46
  have b46 := F46.binds (ps := ["_law_bag_here"]) fun _ _ _ _ _ _ us hl => match us, hl with | [_], _ => rfl
  have F47 := fun_mk (st := s_word) l47 c47 k47
  have b47 := F47.binds (ps := ["_law_bag_here"]) fun _ _ _ _ _ _ us hl => match us, hl with | [_], _ => rfl
  have F48 := fun_mk (st := s_frame) l48 c48 k48
  have b48 := F48.binds (ps := ["_law_bag_here", "_law_recorder"]) fun _ _ _ _ _ _ us hl => match us, hl with | [_, _], _ => rfl
  have F49 := fun_mk (st := s_out) l49 c49 k49
  have b49 := F49.binds (ps := ["_law_recorder", "_law_rows", "_law_message"]) fun _ _ _ _ _ _ us hl => match us, hl with | [_, _, _], _ => rfl
  refine ⟨PySem.W.fnOf "law" "law" (defArgs s_law) (defBody s_law) (defScope s_law) .none kV50 dc50 pm50 an50 cd50 ct50, fun s v => .of_eq rfl, fun base _ _ => ?_⟩
  have h1 : FnC l.prog w K mg base "is_integer" 1 spIsInt := ⟨_, _, _, ok_isInt F1 Z, PySem.W.mg_of X G a1, k1, b1⟩
  have h2 : FnC l.prog w K mg base "is_from" 2 spIsFrom := ⟨_, _, _, ok_isFrom F2 h1, PySem.W.mg_of X G a2, k2, b2⟩
  have h3 : FnC l.prog w K mg base "is_name" 1 spIsNm := ⟨_, _, _, ok_isName F3 Z g0 g1, PySem.W.mg_of X G a3, k3, b3⟩
  have h4 : FnC l.prog w K mg base "is_text" 1 spIsTxt := ⟨_, _, _, ok_isTxt F4 Z, PySem.W.mg_of X G a4, k4, b4⟩
  have h5 : FnC l.prog w K mg base "numbers_in" 1 spNums := ⟨_, _, _, ok_numbersIn F5 Z, PySem.W.mg_of X G a5, k5, b5⟩
  have h6 : FnC l.prog w K mg base "left_out" 1 spGone := ⟨_, _, _, ok_leftOut F6 Z, PySem.W.mg_of X G a6, k6, b6⟩
  have h7 : FnC l.prog w K mg base "headline" 1 spHead := ⟨_, _, _, ok_headline F7 Z g2, PySem.W.mg_of X G a7, k7, b7⟩
  have h8 : MakC l.prog w K mg base "Walk" C1 1 [.non, .non, .non] (spWInit C1) := ⟨PySem.W.mg_of X G aC1, _, ⟨cm1, a8, i8, ck1⟩, ⟨_, _, ds8, _, ok_wInit F8 T1, b8, vd8, fun _ => (.cons .non (.cons .non (.cons .non .nil)))⟩⟩
  have hme := all_meet (P := l.prog) (w := w) (base := base) cls1 T1 F9 b9 ⟨a9, i9, k9⟩ F10 b10 ⟨a10, i10, k10⟩ F11 b11 ⟨a11, i11, k11⟩ Z h5 h6 g4 g3
  have h12 : MakC l.prog w K mg base "Record" C2 2 [] (spRInit C2) := ⟨PySem.W.mg_of X G aC2, _, ⟨cm2, a12, i12, ck2⟩, ⟨_, _, _, _, ok_rInit F12 T2 Z h7, b12, .nil, fun _ => .nil⟩⟩
  have h13 : PrpC l.prog w K mg base C2 "entries" 1 (spREnts C2) := ⟨cls2, _, _, ⟨a13, pg13, pt13, pr13⟩, ⟨_, _, _, _, ok_rEnts F13 T2, b13, .nil, fun _ => .nil⟩⟩
  have h14 : MakC l.prog w K mg base "Fault" C5 1 [] (spFtI C5) := ⟨PySem.W.mg_of X G aC5, _, ⟨cm5, a14, i14, ck5⟩, ⟨_, _, _, _, ok_ftInit F14 T5, b14, .nil, fun _ => .nil⟩⟩
  have h15 : MthC l.prog w K mg base C5 "entry" 1 [] (spEnt C5) := ⟨cls5, _, ⟨a15, i15, k15⟩, ⟨_, _, _, _, ok_ftEnt F15 T5 Z, b15, .nil, fun _ => .nil⟩⟩
  have hRec : FnC l.prog w K mg base "recorded" 6 (spRec C5 C2 1) := ⟨_, _, _, ok_recorded 1 F16 T1 h15 h8 (fun n _ => hme n) h12, PySem.W.mg_of X G a16, k16, b16⟩
  have h17 : FnC l.prog w K mg base "met_from" 1 spMet0 := ⟨_, _, _, ok_met0 F17 Z, PySem.W.mg_of X G a17, k17, b17⟩
  have h18 : MakC l.prog w K mg base "Frame" C4 1 [] (spFrI C4) := ⟨PySem.W.mg_of X G aC4, _, ⟨cm4, a18, i18, ck4⟩, ⟨_, _, _, _, ok_frInit F18 T4, b18, .nil, fun _ => .nil⟩⟩
  have h19 : MthC l.prog w K mg base C4 "as_tuple" 1 [] (spFrT C4) := ⟨cls4, _, ⟨a19, i19, k19⟩, ⟨_, _, _, _, ok_frT F19 T4, b19, .nil, fun _ => .nil⟩⟩
  have h20 : MthC l.prog w K mg base C4 "row" 1 [] (spFrR C4) := ⟨cls4, _, ⟨a20, i20, k20⟩, ⟨_, _, _, _, ok_frR F20 T4, b20, .nil, fun _ => .nil⟩⟩
  have h21 : FnC l.prog w K mg base "look_name" 2 spLkN := ⟨_, _, _, ok_lkName F21 h3, PySem.W.mg_of X G a21, k21, b21⟩
  have h22 : FnC l.prog w K mg base "look_text" 2 spLkT := ⟨_, _, _, ok_lkText F22 h4, PySem.W.mg_of X G a22, k22, b22⟩
  have h23 : FnC l.prog w K mg base "look_line" 3 spLkL := ⟨_, _, _, ok_lkLine F23 h2, PySem.W.mg_of X G a23, k23, b23⟩
  have h24 : MakC l.prog w K mg base "Recorder" C3 1 [] (spRcI C3 C4 C5) := ⟨PySem.W.mg_of X G aC3, _, ⟨cm3, a24, i24, ck3⟩, ⟨_, _, _, _, ok_rcInit F24 T3, b24, .nil, fun _ => .nil⟩⟩
  have h25 : MthC l.prog w K mg base C3 "keep" 1 [] (spKeep C3 C4 C5) := ⟨cls3, _, ⟨a25, i25, k25⟩, ⟨_, _, _, _, ok_keep F25 T3, b25, .nil, fun _ => .nil⟩⟩
  have h26 : MthC l.prog w K mg base C3 "look_calm" 1 [] (spCalm C3 C4 C5) := ⟨cls3, _, ⟨a26, i26, k26⟩, ⟨_, _, _, _, ok_lookCalm F26 T3, b26, .nil, fun _ => .nil⟩⟩
  have h27 : MthC l.prog w K mg base C3 "look_frame" 1 [] (spLookFr C3 C4 C5) := ⟨cls3, _, ⟨a27, i27, k27⟩, ⟨_, _, _, _, ok_lookFrame F27 T3, b27, .nil, fun _ => .nil⟩⟩
  have h28 : MthC l.prog w K mg base C3 "cause_of" 1 [] spCause0 := ⟨cls3, _, ⟨a28, i28, k28⟩, ⟨_, _, _, _, ok_cause0 F28 , b28, .nil, fun _ => .nil⟩⟩
  have h29 : MthC l.prog w K mg base C3 "made" 1 [] (spMade C3 C4 C5) := ⟨cls3, _, ⟨a29, i29, k29⟩, ⟨_, _, _, _, ok_made F29 T3 Z g6, b29, .nil, fun _ => .nil⟩⟩
  have hCall := ok_call (P := l.prog) (w := w) (mg := mg) (base := base) (Cl := C3) (Cf := C4) (Ct := C5) F30 T3 Z h26 h21 h23 h18 h25 g5
  have hCallK : MthK l.prog w K mg base C3 "call" 4 2 ["edition"] (fun ds zs => ds ++ zs) (spCall C3 C4 C5) := ⟨cls3, _, ⟨a30, i30, k30⟩, fk_call FD30 hCall⟩
  have hCall0 : MthC l.prog w K mg base C3 "call" 4 [.int 0] (spCall C3 C4 C5) := ⟨cls3, _, ⟨a30, i30, k30⟩, ⟨_, _, ds30, _, hCall, b30, vd30, fun _ => .cons (.int _) .nil⟩⟩
  have h31 : MthC l.prog w K mg base C3 "at" 4 [] (spAt C3 C4 C5) := ⟨cls3, _, ⟨a31, i31, k31⟩, ⟨_, _, _, _, ok_at F31 T3 T4 h26 h27 h23 h25, b31, .nil, fun _ => .nil⟩⟩
  have h32 : MthC l.prog w K mg base C3 "remove_top" 2 [] (spTop C3 C4 C5) := ⟨cls3, _, ⟨a32, i32, k32⟩, ⟨_, _, _, _, ok_top F32 T3 T4, b32, .nil, fun _ => .nil⟩⟩
  have h33 : MthC l.prog w K mg base C3 "leave" 3 [] (spLeave C3 C4 C5) := ⟨cls3, _, ⟨a33, i33, k33⟩, ⟨_, _, _, _, ok_leave F33 h26 h27 h32 h25, b33, .nil, fun _ => .nil⟩⟩
  have h34 : MthC l.prog w K mg base C3 "fly" 2 [] (spFly0 C3 C4 C5) := ⟨cls3, _, ⟨a34, i34, k34⟩, ⟨_, _, _, _, ok_fly0 F34 T3 T5 h20, b34, .nil, fun _ => .nil⟩⟩
  have h35 : MthC l.prog w K mg base C3 "look_throw" 3 [] (spLkThrow C3 C4 C5) := ⟨cls3, _, ⟨a35, i35, k35⟩, ⟨_, _, _, _, ok_lkThrow F35 h26 h27 h21 h22, b35, .nil, fun _ => .nil⟩⟩
  have hThr : MthC l.prog w K mg base C3 "throw" 4 [.non, .bl false] (spThrow0 C3 C4 C5) := ⟨cls3, _, ⟨a36, i36, k36⟩, ⟨_, _, ds36, _, ok_throw0 (FunW.of FD36) h35 h28 h34 h29 h14 h25, b36, vd36, fun _ => .cons .non (.cons (.bl _) .nil)⟩⟩
  have h37 : MthC l.prog w K mg base C3 "pass_on" 7 [] (spPass C3 C4 C5 C2 1) := ⟨cls3, _, ⟨a37, i37, k37⟩, ⟨_, _, _, _, ok_pass 1 (by decide) F37 T3 T5 h32 h25 h20 hRec, b37, .nil, fun _ => .nil⟩⟩
  have h38 : MthC l.prog w K mg base C3 "flying" 7 [] (spFlying C3 C4 C5 C2 1) := ⟨cls3, _, ⟨a38, i38, k38⟩, ⟨_, _, _, _, ok_flying 1 F38 T3 hRec, b38, .nil, fun _ => .nil⟩⟩
  have h39 : MthC l.prog w K mg base C3 "handled" 1 [] (spHandled0 C3 C4 C5) := ⟨cls3, _, ⟨a39, i39, k39⟩, ⟨_, _, _, _, ok_handled0 F39 T3, b39, .nil, fun _ => .nil⟩⟩
  have h40 : MthC l.prog w K mg base C3 "held" 2 [] (spHeld0 C3 C4 C5) := ⟨cls3, _, ⟨a40, i40, k40⟩, ⟨_, _, _, _, ok_held0 F40 T3 Z h17, b40, .nil, fun _ => .nil⟩⟩
  have h41 : MthC l.prog w K mg base C3 "frames" 2 [] (spFrames C3 C4 C5) := ⟨cls3, _, ⟨a41, i41, k41⟩, ⟨_, _, _, _, ok_frames F41 T3 h19, b41, .nil, fun _ => .nil⟩⟩
  have h42 : MthC l.prog w K mg base C3 "names" 1 [] (spNames0 C3 C4 C5) := ⟨cls3, _, ⟨a42, i42, k42⟩, ⟨_, _, _, _, ok_names0 F42 T3 Z, b42, .nil, fun _ => .nil⟩⟩
  have h43 : FnC l.prog w K mg base "_law_bag" 1 spBag := ⟨_, _, _, ok_bag F43 Z, PySem.W.mg_of X G a43, k43, b43⟩
  have h44 : FnC l.prog w K mg base "_law_take" 1 spTake := ⟨_, _, _, ok_take F44 Z, PySem.W.mg_of X G a44, k44, b44⟩
  have h45 : FnC l.prog w K mg base "_law_of" 2 spOf := ⟨_, _, _, ok_of F45 Z h44, PySem.W.mg_of X G a45, k45, b45⟩
  have h46 : FnC l.prog w K mg base "_law_name" 3 (spStr Nm 20) := ⟨_, _, _, ok_name F46 Z h44 h45, PySem.W.mg_of X G a46, k46, b46⟩
  have h47 : FnC l.prog w K mg base "_law_word" 3 (spStr (As 20) 1) := ⟨_, _, _, ok_word F47 h45, PySem.W.mg_of X G a47, k47, b47⟩
  have h48 : FnC l.prog w K mg base "_law_frame" 5 (spFrame C3 C4 C5) := ⟨_, _, _, ok_frame F48 Z h44 h45 h46 (hCallK) h31, PySem.W.mg_of X G a48, k48, b48⟩
  have h49 : FnC l.prog w K mg base "_law_out" 8 (spOut C3 C4 C5 C2) := ⟨_, _, _, ok_out F49 Z (hThr) h38 h13 h37 h41 h40 (PySem.W.mg_of X G aC2) (hI2), PySem.W.mg_of X G a49, k49, b49⟩
  exact ok_law (fun_mk (st := s_law) l50 c50 k50) Z h43 h44 h48 h49 h47 h24 h33 h41 (hCall0) h39 h42
theorem walk {l : PySem.W.OpenLaw} {q : Program} {loose : List Str} {XP : (Str → Option Value) → Heap → Prop} {YP : World → Heap → Prop} {d : DefRec} {K : Params → PySem.W.Frag} (hn : l.most = some 63) (hdf : d.params.defaults = [])
    (hY : ∀ (w : World) (h : Heap), YP w h → (K w.params).In h)
    (F : ∀ (w : World) (mg : Str → Option Value) (fa : Addr) (h : Heap), (K w.params).In h → h.Ns mainGlobals mg → mg d.name = some (.ref fa) →
      ∃ fd : FuncData, (∀ (s : Shared) (u : Value), BindsTo s fd ⟨[u], []⟩ [("_law_script", u)]) ∧ ∀ base : Heap, (K w.params).In base → base.Ns mainGlobals mg → FnG l.prog w (K w.params) mg base CX0 10 fa fd ["_law_script"] (toSp (K w.params) spLaw)) :
    PySem.W.WalkO q loose XP YP l.row.toRowW d [] (fun f vs => PySem.call f vs) :=
  walk_ofG (z := 63) (n := 10) (x := "_law_script") (CT := fun _ => CX0) (sp := fun w => toSp (K w.params) spLaw) hn (by decide) hdf ⟨rfl, by decide, by decide⟩ hY F
    (fun w H a ns hl hbits hO hS => ⟨H, fun _ => none, [.slst (ns.map D.int)], fun d _ => d = .bl true, wld0 hO, .cons (.slst hS (dat_ints ns)) .nil, ⟨ns, rfl, hl, fun _ => rfl, rfl⟩, fun v G' C' H' d f w' r z => by subst z; cases r; rfl⟩) fun _ _ _ _ _ z => z
end
end K31

open PySem PySem.W PyProof.Rows in
set_option maxRecDepth 100000 in
set_option maxHeartbeats 0 in
theorem PySem.Challenge.cw_chainedreports_k13_rows_of_frames_holds : PySem.Challenge.rw_chainedreports_k13_rows_of_frames.Holds := by
  w_on; o_law
  refine holds_open (q := defs13.view_39) (loose := Hd.loose) (Xt := Hd.Xt) (XP := XL defs13.view_39 []) (Yf := Hook.obs (kHook defs13.heap_39 Hd.adrs Hd.adrs_ok)) (Ya := Hook.val (kHook defs13.heap_39 Hd.adrs Hd.adrs_ok)) (YP := Hook.says (kHook defs13.heap_39 Hd.adrs Hd.adrs_ok)) (N := 17924) Hd.left13 (Hook.of (kHook defs13.heap_39 Hd.adrs Hd.adrs_ok)) (Hook.keeps (kHook defs13.heap_39 Hd.adrs Hd.adrs_ok)) (fun s e => xl_of s (Bool.and_eq_true_iff.mp e).1) XL.keeps (by rfl) (by rfl) (by rfl) (fun s e => recFacts_of (Bool.and_eq_true_iff.mp e).2) (by rfl) (by first | assumption | decide +kernel) (by decide +kernel) ⟨rfl, rfl, rfl, rfl, rfl, by decide +kernel⟩ ?hw ?hc
  case hw => w_witness2
  k_fill
  refine K31.walk (l := PySem.Challenge.rw_chainedreports_k13_rows_of_frames) rfl rfl (fun w h Y => PySem.W.kIn_of Y) ?F
  case F =>
    intro w mg fa h KX G hmg
    refine' K31.all_mk KX G hmg ?aC1 ?cg1 ?ch1 ?co1 ?cx1 ?cm1 ?ck1 ?n1_0 ?n1_1 ?n1_2 ?n1_3 ?n1_4 ?n1_5 ?aC2 ?cg2 ?ch2 ?co2 ?cx2 ?cm2 ?ck2 ?n2_0 ?n2_1 ?qa2 ?qb2 ?qc2 ?qd2 ?aC3 ?cg3 ?ch3 ?co3 ?cx3 ?cm3 ?ck3 ?n3_0 ?n3_1 ?n3_2 ?n3_3 ?n3_4 ?n3_5 ?n3_6 ?n3_7 ?aC4 ?cg4 ?ch4 ?co4 ?cx4 ?cm4 ?ck4 ?n4_0 ?n4_1 ?n4_2 ?aC5 ?cg5 ?ch5 ?co5 ?cx5 ?cm5 ?ck5 ?n5_0 ?n5_1 ?n5_2 ?n5_3 ?n5_4 ?n5_5 ?n5_6 ?a1 ?l1 ?c1 ?k1 ?a2 ?l2 ?c2 ?k2 ?a3 ?l3 ?c3 ?k3 ?a4 ?l4 ?c4 ?k4 ?a5 ?l5 ?c5 ?k5 ?a6 ?l6 ?c6 ?k6 ?a7 ?l7 ?c7 ?k7 ?a8 ?i8 ?l8 ?c8 ?k8 ?w8_0 ?w8_1 ?w8_2 ?a9 ?i9 ?l9 ?c9 ?k9 ?a10 ?i10 ?l10 ?c10 ?k10 ?a11 ?i11 ?l11 ?c11 ?k11 ?a12 ?i12 ?l12 ?c12 ?k12 ?a13 ?pg13 ?pt13 ?pr13 ?l13 ?c13 ?k13 ?a14 ?i14 ?l14 ?c14 ?k14 ?a15 ?i15 ?l15 ?c15 ?k15 ?a16 ?l16 ?c16 ?k16 ?a17 ?l17 ?c17 ?k17 ?a18 ?i18 ?l18 ?c18 ?k18 ?a19 ?i19 ?l19 ?c19 ?k19 ?a20 ?i20 ?l20 ?c20 ?k20 ?a21 ?l21 ?c21 ?k21 ?a22 ?l22 ?c22 ?k22 ?a23 ?l23 ?c23 ?k23 ?a24 ?i24 ?l24 ?c24 ?k24 ?a25 ?i25 ?l25 ?c25 ?k25 ?a26 ?i26 ?l26 ?c26 ?k26 ?a27 ?i27 ?l27 ?c27 ?k27 ?a28 ?i28 ?l28 ?c28 ?k28 ?a29 ?i29 ?l29 ?c29 ?k29 ?a30 ?i30 ?l30 ?c30 ?k30 ?w30_0 ?a31 ?i31 ?l31 ?c31 ?k31 ?a32 ?i32 ?l32 ?c32 ?k32 ?a33 ?i33 ?l33 ?c33 ?k33 ?a34 ?i34 ?l34 ?c34 ?k34 ?a35 ?i35 ?l35 ?c35 ?k35 ?a36 ?i36 ?l36 ?c36 ?k36 ?dtl36 ?w36_0 ?w36_1 ?a37 ?i37 ?l37 ?c37 ?k37 ?a38 ?i38 ?l38 ?c38 ?k38 ?a39 ?i39 ?l39 ?c39 ?k39 ?a40 ?i40 ?l40 ?c40 ?k40 ?a41 ?i41 ?l41 ?c41 ?k41 ?a42 ?i42 ?l42 ?c42 ?k42 ?a43 ?l43 ?c43 ?k43 ?a44 ?l44 ?c44 ?k44 ?a45 ?l45 ?c45 ?k45 ?a46 ?l46 ?c46 ?k46 ?a47 ?l47 ?c47 ?k47 ?a48 ?l48 ?c48 ?k48 ?a49 ?l49 ?c49 ?k49 ?a50 ?l50 ?c50 ?k50 ?m0 ?m1 ?m2 ?m3 ?m4 ?m5 ?m6 ?z0 ?z1 ?z2 ?z3 ?z4 ?z5 ?z6 ?z7 ?z8 ?z9 ?z10 ?z11 ?z12 ?z13 ?z14 ?z15 ?z16 ?z17 ?z18
    (case aC1 => k_is)
    (case cg1 => k_is)
    (case ch1 => k_is)
    (case co1 => k_is)
    (case cx1 => k_is)
    (case cm1 => k_is)
    (case ck1 => k_is)
    (case n1_0 => k_is)
    (case n1_1 => k_is)
    (case n1_2 => k_is)
    (case n1_3 => k_is)
    (case n1_4 => k_is)
    (case n1_5 => k_is)
    (case aC2 => k_is)
    (case cg2 => k_is)
    (case ch2 => k_is)
    (case co2 => k_is)
    (case cx2 => k_is)
    (case cm2 => k_is)
    (case ck2 => k_is)
    (case n2_0 => k_is)
    (case n2_1 => k_is)
    (case qa2 => k_is)
    (case qb2 => k_is)
    (case qc2 => k_is)
    (case qd2 => k_is)
    (case aC3 => k_is)
    (case cg3 => k_is)
    (case ch3 => k_is)
    (case co3 => k_is)
    (case cx3 => k_is)
    (case cm3 => k_is)
    (case ck3 => k_is)
    (case n3_0 => k_is)
    (case n3_1 => k_is)
    (case n3_2 => k_is)
    (case n3_3 => k_is)
    (case n3_4 => k_is)
    (case n3_5 => k_is)
    (case n3_6 => k_is)
    (case n3_7 => k_is)
    (case aC4 => k_is)
    (case cg4 => k_is)
    (case ch4 => k_is)
    (case co4 => k_is)
    (case cx4 => k_is)
    (case cm4 => k_is)
    (case ck4 => k_is)
    (case n4_0 => k_is)
    (case n4_1 => k_is)
    (case n4_2 => k_is)
    (case aC5 => k_is)
    (case cg5 => k_is)
    (case ch5 => k_is)
    (case co5 => k_is)
    (case cx5 => k_is)
    (case cm5 => k_is)
    (case ck5 => k_is)
    (case n5_0 => k_is)
    (case n5_1 => k_is)
    (case n5_2 => k_is)
    (case n5_3 => k_is)
    (case n5_4 => k_is)
    (case n5_5 => k_is)
    (case n5_6 => k_is)
    (case a1 => k_is)
    (case l1 => k_is)
    (case c1 => k_is)
    (case k1 => k_is)
    (case a2 => k_is)
    (case l2 => k_is)
    (case c2 => k_is)
    (case k2 => k_is)
    (case a3 => k_is)
    (case l3 => k_is)
    (case c3 => k_is)
    (case k3 => k_is)
    (case a4 => k_is)
    (case l4 => k_is)
    (case c4 => k_is)
    (case k4 => k_is)
    (case a5 => k_is)
    (case l5 => k_is)
    (case c5 => k_is)
    (case k5 => k_is)
    (case a6 => k_is)
    (case l6 => k_is)
    (case c6 => k_is)
    (case k6 => k_is)
    (case a7 => k_is)
    (case l7 => k_is)
    (case c7 => k_is)
    (case k7 => k_is)
    (case a8 => k_is)
    (case i8 => k_is)
    (case l8 => k_is)
    (case c8 => k_is)
    (case k8 => k_is)
    (case w8_0 => k_is)
    (case w8_1 => k_is)
    (case w8_2 => k_is)
    (case a9 => k_is)
    (case i9 => k_is)
    (case l9 => k_is)
    (case c9 => k_is)
    (case k9 => k_is)
    (case a10 => k_is)
    (case i10 => k_is)
    (case l10 => k_is)
    (case c10 => k_is)
    (case k10 => k_is)
    (case a11 => k_is)
    (case i11 => k_is)
    (case l11 => k_is)
    (case c11 => k_is)
    (case k11 => k_is)
    (case a12 => k_is)
    (case i12 => k_is)
    (case l12 => k_is)
    (case c12 => k_is)
    (case k12 => k_is)
    (case a13 => k_is)
    (case pg13 => k_is)
    (case pt13 => k_is)
    (case pr13 => exact ⟨_, by k_is⟩)
    (case l13 => k_is)
    (case c13 => k_is)
    (case k13 => k_is)
    (case a14 => k_is)
    (case i14 => k_is)
    (case l14 => k_is)
    (case c14 => k_is)
    (case k14 => k_is)
    (case a15 => k_is)
    (case i15 => k_is)
    (case l15 => k_is)
    (case c15 => k_is)
    (case k15 => k_is)
    (case a16 => k_is)
    (case l16 => k_is)
    (case c16 => k_is)
    (case k16 => k_is)
    (case a17 => k_is)
    (case l17 => k_is)
    (case c17 => k_is)
    (case k17 => k_is)
    (case a18 => k_is)
    (case i18 => k_is)
    (case l18 => k_is)
    (case c18 => k_is)
    (case k18 => k_is)
    (case a19 => k_is)
    (case i19 => k_is)
    (case l19 => k_is)
    (case c19 => k_is)
    (case k19 => k_is)
    (case a20 => k_is)
    (case i20 => k_is)
    (case l20 => k_is)
    (case c20 => k_is)
    (case k20 => k_is)
    (case a21 => k_is)
    (case l21 => k_is)
    (case c21 => k_is)
    (case k21 => k_is)
    (case a22 => k_is)
    (case l22 => k_is)
    (case c22 => k_is)
    (case k22 => k_is)
    (case a23 => k_is)
    (case l23 => k_is)
    (case c23 => k_is)
    (case k23 => k_is)
    (case a24 => k_is)
    (case i24 => k_is)
    (case l24 => k_is)
    (case c24 => k_is)
    (case k24 => k_is)
    (case a25 => k_is)
    (case i25 => k_is)
    (case l25 => k_is)
    (case c25 => k_is)
    (case k25 => k_is)
    (case a26 => k_is)
    (case i26 => k_is)
    (case l26 => k_is)
    (case c26 => k_is)
    (case k26 => k_is)
    (case a27 => k_is)
    (case i27 => k_is)
    (case l27 => k_is)
    (case c27 => k_is)
    (case k27 => k_is)
    (case a28 => k_is)
    (case i28 => k_is)
    (case l28 => k_is)
    (case c28 => k_is)
    (case k28 => k_is)
    (case a29 => k_is)
    (case i29 => k_is)
    (case l29 => k_is)
    (case c29 => k_is)
    (case k29 => k_is)
    (case a30 => k_is)
    (case i30 => k_is)
    (case l30 => k_is)
    (case c30 => k_is)
    (case k30 => k_is)
    (case w30_0 => k_is)
    (case a31 => k_is)
    (case i31 => k_is)
    (case l31 => k_is)
    (case c31 => k_is)
    (case k31 => k_is)
    (case a32 => k_is)
    (case i32 => k_is)
    (case l32 => k_is)
    (case c32 => k_is)
    (case k32 => k_is)
    (case a33 => k_is)
    (case i33 => k_is)
    (case l33 => k_is)
    (case c33 => k_is)
    (case k33 => k_is)
    (case a34 => k_is)
    (case i34 => k_is)
    (case l34 => k_is)
    (case c34 => k_is)
    (case k34 => k_is)
    (case a35 => k_is)
    (case i35 => k_is)
    (case l35 => k_is)
    (case c35 => k_is)
    (case k35 => k_is)
    (case a36 => k_is)
    (case i36 => k_is)
    (case l36 => k_is)
    (case c36 => k_is)
    (case k36 => k_is)
    (case dtl36 => k_is)
    (case w36_0 => k_is)
    (case w36_1 => k_is)
    (case a37 => k_is)
    (case i37 => k_is)
    (case l37 => k_is)
    (case c37 => k_is)
    (case k37 => k_is)
    (case a38 => k_is)
    (case i38 => k_is)
    (case l38 => k_is)
    (case c38 => k_is)
    (case k38 => k_is)
    (case a39 => k_is)
    (case i39 => k_is)
    (case l39 => k_is)
    (case c39 => k_is)
    (case k39 => k_is)
    (case a40 => k_is)
    (case i40 => k_is)
    (case l40 => k_is)
    (case c40 => k_is)
    (case k40 => k_is)
    (case a41 => k_is)
    (case i41 => k_is)
    (case l41 => k_is)
    (case c41 => k_is)
    (case k41 => k_is)
    (case a42 => k_is)
    (case i42 => k_is)
    (case l42 => k_is)
    (case c42 => k_is)
    (case k42 => k_is)
    (case a43 => k_is)
    (case l43 => k_is)
    (case c43 => k_is)
    (case k43 => k_is)
    (case a44 => k_is)
    (case l44 => k_is)
    (case c44 => k_is)
    (case k44 => k_is)
    (case a45 => k_is)
    (case l45 => k_is)
    (case c45 => k_is)
    (case k45 => k_is)
    (case a46 => k_is)
    (case l46 => k_is)
    (case c46 => k_is)
    (case k46 => k_is)
    (case a47 => k_is)
    (case l47 => k_is)
    (case c47 => k_is)
    (case k47 => k_is)
    (case a48 => k_is)
    (case l48 => k_is)
    (case c48 => k_is)
    (case k48 => k_is)
    (case a49 => k_is)
    (case l49 => k_is)
    (case c49 => k_is)
    (case k49 => k_is)
    (case a50 => k_is)
    (case l50 => k_is)
    (case c50 => k_is)
    (case k50 => k_is)
    (case m0 => k_is)
    (case m1 => k_is)
    (case m2 => k_is)
    (case m3 => k_is)
    (case m4 => k_is)
    (case m5 => k_is)
    (case m6 => k_is)
    (case z0 => k_is)
    (case z1 => k_is)
    (case z2 => k_is)
    (case z3 => k_is)
    (case z4 => k_is)
    (case z5 => k_is)
    (case z6 => k_is)
    (case z7 => k_is)
    (case z8 => k_is)
    (case z9 => k_is)
    (case z10 => k_is)
    (case z11 => k_is)
    (case z12 => k_is)
    (case z13 => k_is)
    (case z14 => k_is)
    (case z15 => k_is)
    (case z16 => k_is)
    (case z17 => k_is)
    (case z18 => k_is)
