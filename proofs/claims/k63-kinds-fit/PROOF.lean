import PyProof.Rows.All
import Wide.All
import OpenK.AllK
import Wide.FinOn
import HandS.ForMost
import HandS.Property
import HandS.EndBits
import HandS.IsInst
import HandS.Zip
import HandS.Flow
import HandS.Wide
import HandS.Lambda
import HandS.Deep
import HandS.TupAny
import HandS.TupMul
import HandS.WideBits
import HandS.Replace
import HandS.StrMore
import HandS.More
import HandS.TryOnly
import PyProof.ReprRoads
import PyProof.ReprLen
import PyProof.Rows.StrBoot
import HandS.Comp
import PyProof.P3Eq
import HandS.Style
import HandS.WordsDict
import HandS.Dict
import KE.GoesEnum
import HandS.Star
import PyProof.CollectIter
import PyProof.WalksMore
import HandS.FStr
import HandS.ClsMeth
import HandS.MakeKwOnly
import HandS.OwnEq
import PyProof.InstNe
import HandS.Iter
import HandS.Codes
import HandS.Exc
import HandS.ExcOwn
import HandS.ExcInit
import HandS.ExcField
import HandS.ExcIs
import HandS.ExcBuiltin
import KE.KExcInit
import KE.KExcIs
import HandS.TryMany
import PyProof.ExcBaseAll.LookupError
import PyProof.P3In
import PyProof.ExcClass
import PyProof.RulesRaise
import PyProof.FactsTree
import PyProof.Rows.FactsExc_KeyError
import PyProof.InstStoreFacts
import HandS.Zip0
import HandS.DictComp
import KE.KeyNested
import HandS.Defaults
import PySem.Challenge.RW_chainedreports_k63_kinds_fit
set_option Elab.async false
set_option linter.all false
set_option maxRecDepth 100000
set_option maxHeartbeats 4000000
/-! DG0: promises of defs that are called where no text of a list is being made (no guard stands around). -/
namespace DL
open PySem PySem.Spec PyProof.Rows L2
/-- FnOk, where no guard stands around -/
structure FnG (P : Program) (w : World) (K : PySem.W.Frag) (mg : Str → Option Value) (base : Heap) (CT : CXT) (n : Nat) (fa : Addr) (fd : FuncData) (ps : List Str) (sp : Sp) : Prop where
  len : ∀ as H Q E, sp as H Q E → as.length = ps.length
  run : ∀ {A : Around} {out : List Env} {s : Shared} {H : Hp} {ar : Args} {us : List Value} {as : List V} {Q : VK} {E : XK}, A.guards = some [] → Room n A → Env0 P w K mg base A out s H →
    BindsTo s fd ar (ps.zip us) → Vals as us → sp as H Q E → codeAny (model P w) A (.call (.ref fa) ar) (CR CT out P w H s Q E) s
section
variable {P : Program} {w : World} {K : PySem.W.Frag} {mg : Str → Option Value} {base : Heap} {CT : CXT} {n m : Nat} {fa : Addr} {fd : FuncData} {ps : List Str} {sp : Sp}
theorem FnG.mono (F : FnG P w K mg base CT n fa fd ps sp) (h : n ≤ m) : FnG P w K mg base CT m fa fd ps sp := ⟨F.len, fun g r => F.run g (r.mono h)⟩
/-- from the body -/
theorem fnG_of {x qual : Str} {st : Stmt} {N : List Str} (F : Fun K x qual st fa fd) (S : FnScope N ps (defScope st)) (len : ∀ as H Q E, sp as H Q E → as.length = ps.length)
    (hb : ∀ (cdv : Value) (A : Around) (out : List Env) (s : Shared) (H : Hp) (as : List V) (Q : VK) (E : XK), A.guards = some [] → Room n (A.deeper (envOfC qual (defScope st) s.heap.objs.size fa cdv)) → sp as H Q E →
      ∃ t, PSs (cxOf CT P w K mg base N qual (defScope st) fa cdv A out s H E) (defBody st) t ∧ t { nx := fun _ H1 => Q .non H1, rt := Q } (start N as) H) : FnG P w K mg base CT (n + 1) fa fd ps sp := by
  obtain ⟨oc, od, kV, doc, pm, an, cdv, ct, osl, rfl, hlook, hcode⟩ := F.ex
  refine ⟨len, ?_⟩
  intro A out s H ar us as Q E hguard hroom env0 hbind hvals hsp
  have inK : K.In s.heap := env0.mod.kin.keeps fun a o q => (env0.bs a o q).1
  have noLim : s.heap.NoLimit := env0.mod.nolimit.keeps fun a o q => (env0.bs a o q).1
  refine codeAny_call_function hroom.depth (inK _ _ hlook) rfl S.co S.gen rfl (PySem.W.codeRec_of inK hcode) (hbind _ _ _ _ ?_)
  refine wpAny_newFunctionEnv_cells S.kind ?_ ?_
  · rintro ⟨nm, v⟩ hin
    rcases S.par nm (List.of_mem_zip hin).1 with q | q
    · exact .inl q
    · exact .inr ⟨q, PySem.W.cellsFrom_some _ _ _ (.inl q)⟩
  · intro env henv s1 inc
    subst henv
    refine ⟨noLim.keeps inc.toInCall.keep, codeAny_func ?_⟩
    obtain ⟨t, pt, qt⟩ := hb cdv A out s H as Q E hguard (hroom.deeper _) hsp
    have inv := inv_start (E := E) (CX := CT) S hroom.hd env0 (len _ _ _ _ hsp) hvals inc
    refine wpAny_mono (pt.run [] s1 (start N as) H _ inv qt) ?_ fun e s' z => z
    intro fl s' z
    cases fl with
    | ret u =>
      obtain ⟨v, _, H1, J, rv, q⟩ := z
      exact ⟨v, H1, J.os, J.bare, J.base, J.hok, rv, q⟩
    | next =>
      obtain ⟨_, H1, J, q⟩ := z
      exact ⟨V.non, H1, J.os, J.bare, J.base, J.hok, rfl, q⟩
    | brk => exact z.elim fun _ z => z.elim fun _ z => z.2.elim
    | cont => exact z.elim fun _ z => z.elim fun _ z => z.2.elim
end
section
variable {X : Cx} {CT : CXT} {n : Nat} {fa Ca : Addr} {fd : FuncData} {ps : List Str} {sp : Sp} {E : XK} {x m : Str} {p pos apos : Pos} {e o : Expr} {es : List Expr} {ta : TE} {t : TA}
theorem goG {pins : List (Addr × Obj)} {σ : L2.St} {H : Hp} {s : Shared} {Q : VK} {us : List Value} {as : List V} (F : FnG X.prog X.w X.K X.mg X.base CT n fa fd ps sp) (hgd : X.A.guards = some []) (hr : Room n X.A) (hb : Binds X.K fd ps []) (hx : Passes CT X E)
    (I : Inv X pins σ H s) (r : Vals as us) (h : sp as H Q E) : wpAny (model X.prog X.w) X.A (call (.ref fa) us) (EP X pins σ Q) X.xe s := by
  have hlen : (us ++ ([] : List Value)).length = ps.length := by
    rw [List.append_nil, ← r.length]
    exact F.len _ _ _ _ h
  have hbind := hb s us I.kIn hlen
  rw [List.append_nil] at hbind
  refine wpAny_call (codeAny_mono (F.run hgd hr I.env0 hbind r h) ?_)
  intro res s' z
  match res, z with
  | .error e, z => exact hx pins σ H s e s' I z
  | .ok (.ret u), z => exact I.after z
theorem pe_callG (F : FnG X.prog X.w X.K X.mg X.base CT n fa fd ps sp) (hgd : X.A.guards = some []) (hr : Room n X.A) (hg : Gl X x) (hm : X.mg x = some (.ref fa)) (hk : PySem.W.keepIn X.K (.ref fa) = true) (hb : Binds X.K fd ps []) (hx : Passes CT X E)
    (ha : PA X (e :: es) t) (hdb : (x == ("__debug__" : Str)) = false := by decide) (he : starEach (e :: es) X.env = (false, eval e X.env) :: starEach es X.env := by rfl) (hpl : (backTo pos (starEach es X.env)).any (·.1) = false := by rfl) :
    PE X (.Call (.Name x p) (e :: es) [] pos) (tCall sp [] E t) := ⟨fun pins s σ H Q I h => wpAny_Call_Name_kw (ld_glob I hg hm (PySem.W.callWith_K (h₀ := X.base) I.ok.mod.kin hk (thn (ha.run pos pins s σ H _ I h) fun us s1 z => by
      obtain ⟨as, H1, I1, r, q⟩ := z
      refine ⟨I1.kIn, goG F hgd hr hb hx I1 r ?_⟩
      rwa [List.append_nil] at q) he hpl) hdb)⟩
end
/-! ### the law's own call -/
section
variable {P : Program} {w : World} {K : PySem.W.Frag} {mg mb : Str → Option Value} {CT : CXT} {n : Nat} {fa a : Addr} {fd : FuncData} {x : Str} {sp : Sp} {s : Shared} {vs : List Value} {ns : List Int}
def EndT (s : Shared) (r : Result) (s' : Shared) : Prop := r = .ok (.ret (.bool true)) ∧ OldK s.heap s'.heap ∧ s'.os = s.os ∧ AllBare s'.gens
theorem law_at (KX : K.In s.heap) (hns : s.heap.Ns mainGlobals mg) (hb : s.heap.Ns builtinsNs mb) (hbb : ∀ y : Str, y ≠ "__name__" → mb y = bootBuiltins y) (hlim : s.heap.NoLimit) (hgen : s.gens = #[])
    (ha : s.heap.get? a = some { cls := .type "list", data := .seq vs.toArray }) (hr : Room n callerA)
    (F : ∀ base : Heap, K.In base → base.Ns mainGlobals mg → FnG P w K mg base CT n fa fd [x] sp) (hbind : ∀ (s : Shared) (u : Value), BindsTo s fd ⟨[u], []⟩ [(x, u)])
    (hCT : ∀ H e s', CT [] H s (fun _ _ _ => False) e s' → False) {H : Hp} (hO : Only H) (hsp : sp [.ref a] H (fun v _ => v = .bl true) fun _ _ _ => False) (hok : HOk P w H s.heap) (hone : ∀ b, b ≠ a → H b = none) (hK : H a ≠ none → K.lookup a = none) :
    codeAny (model P w) callerA (.call (.ref fa) ⟨[.ref a], []⟩) (EndT s) s := by
  have hid : ∀ {b : Addr} {ob : Obj}, s.heap.get? b = some ob → (b = a → H a = none) → (hidT s.heap H).get? b = some ob := fun {b ob} q z => hidT_get q (by
    by_cases e : b = a
    · rw [e]; exact z e
    · exact hone b e)
  have nsT : ∀ {b : Addr} {f : Str → Option Value}, s.heap.Ns b f → (hidT s.heap H).Ns b f := by
    rintro b f ⟨ob, es, ep, q, d, rest⟩
    refine ⟨ob, es, ep, hid q fun e => ?_, d, rest⟩
    rw [e, ha] at q
    cases q
    cases (d : Data.seq vs.toArray _ = Data.dict es ep)
  have kinT : K.In (hidT s.heap H) := fun b ob q => hid (KX b ob q) fun e => by
    cases z : H a with
    | none => rfl
    | some u =>
      rw [e, hK (by rw [z]; exact nofun)] at q
      cases q
  obtain ⟨mc, l1, l2⟩ := hlim
  have env0 : Env0 P w K mg (hidT s.heap H) callerA [] s H :=
    { frames := rfl, mod := ⟨kinT, nsT hns, ⟨mb, nsT hb, hbb⟩, ⟨mc, nsT l1, l2⟩⟩, bs := fun _ _ q => of_hidT q, bsz := Nat.le_of_eq (hidT_size _ _), funs := trivial, frf := (fun b z => (nomatch z)), hok := hok, bare := .of_eq hgen }
  refine codeAny_mono ((F _ kinT (nsT hns)).run (us := [.ref a]) (as := [.ref a]) rfl hr env0 (hbind s (.ref a)) (.cons rfl .nil) hsp) ?_
  intro res s' z
  match res, z with
  | .error e, z => exact (hCT H e s' z).elim
  | .ok (.ret u), z =>
    obtain ⟨v, H1, os, bare, un, hok1, ru, hv⟩ := z
    obtain rfl : v = .bl true := hv
    obtain rfl : u = Value.bool true := ru
    refine ⟨rfl, OldK.of_keep fun b ob q => ?_, os, bare⟩
    rcases hO b with c | ⟨oc, xs, c⟩
    · exact un.keep b ob q c (fun z => nomatch z) (by simp)
    · obtain ⟨c1, _⟩ := hok b _ c
      obtain ⟨c2, _⟩ := hok1 b _ (un.frzs b oc _ c)
      rw [q] at c1
      cases c1
      exact c2
theorem law_callG (KX : K.In s.heap) (hns : s.heap.Ns mainGlobals mg) (hb : s.heap.Ns builtinsNs mb) (hbb : ∀ y : Str, y ≠ "__name__" → mb y = bootBuiltins y) (hlim : s.heap.NoLimit) (hgen : s.gens = #[])
    (ha : s.heap.get? a = some { cls := .type "list", data := .seq vs.toArray }) (hi : IntsAre vs ns) (hl : ns.length ≤ sizeLine) (hr : Room n callerA)
    (F : ∀ base : Heap, K.In base → base.Ns mainGlobals mg → FnG P w K mg base CT n fa fd [x] sp) (hbind : ∀ (s : Shared) (u : Value), BindsTo s fd ⟨[u], []⟩ [(x, u)])
    (hsp : ∀ H : Hp, Only H → SqL K H a (ns.map V.int) → sp [.ref a] H (fun v _ => v = .bl true) fun _ _ _ => False) (hCT : ∀ H e s', CT [] H s (fun _ _ _ => False) e s' → False) :
    codeAny (model P w) callerA (.call (.ref fa) ⟨[.ref a], []⟩) (EndT s) s := by
  have rv : Vals (ns.map V.int) vs := vals_ints hi
  have hsz : (ns.map V.int).length ≤ sizeLine := by rwa [List.length_map]
  by_cases hk : ∃ ob, K.lookup a = some ob
  · obtain ⟨ob, hk⟩ := hk
    have q := KX a ob hk
    rw [ha] at q
    cases q
    have hO : Only fun _ => none := fun _ => .inl rfl
    exact law_at KX hns hb hbb hlim hgen ha hr F hbind hCT hO (hsp _ hO (.inr ⟨_, vs.toArray, _, hk, rfl, rfl, rfl, by rw [List.size_toArray, ← rv.length]; exact hsz, by simpa using rv⟩)) (fun b u z => nomatch z) (fun _ _ => rfl) fun z => absurd rfl z
  · let H : Hp := upd (fun _ => none) a (.frz { cls := .type "list", data := .seq vs.toArray } (.lst (ns.map V.int)))
    have e1 : H a = some (.frz { cls := .type "list", data := .seq vs.toArray } (.lst (ns.map V.int))) := upd_same
    have e2 : ∀ b, b ≠ a → H b = none := fun b z => upd_ne z
    have hO : Only H := fun b => by
      by_cases z : b = a
      · rw [z]; exact .inr ⟨_, _, e1⟩
      · exact .inl (e2 b z)
    refine law_at KX hns hb hbb hlim hgen ha hr F hbind hCT hO (hsp H hO (.inl (.inr ⟨_, e1⟩))) ?_ e2 fun _ => ?_
    · intro b u z
      by_cases zb : b = a
      · subst zb
        rw [e1] at z
        cases z
        exact ⟨ha, hsz, vs, _, rv, ha⟩
      · rw [e2 b zb] at z; cases z
    · cases z : K.lookup a with
      | none => rfl
      | some ob => exact absurd ⟨ob, z⟩ hk
end
theorem walk_ofG {l : PySem.W.OpenLaw} {z n : Nat} {q : Program} {loose : List Str} {XP : (Str → Option Value) → Heap → Prop} {YP : World → Heap → Prop} {d : DefRec} {K : Params → PySem.W.Frag} {CT : World → CXT} {sp : World → Sp} {x : Str}
    (hz : l.most = some z) (hz2 : z ≤ sizeLine) (hdf : d.params.defaults = []) (hr : Room n callerA) (hY : ∀ (w : World) (h : Heap), YP w h → (K w.params).In h)
    (F : ∀ (w : World) (mg : Str → Option Value) (fa : Addr) (h : Heap), (K w.params).In h → h.Ns mainGlobals mg → mg d.name = some (.ref fa) →
      ∃ fd : FuncData, (∀ (s : Shared) (u : Value), BindsTo s fd ⟨[u], []⟩ [(x, u)]) ∧ ∀ base : Heap, (K w.params).In base → base.Ns mainGlobals mg → FnG l.prog w (K w.params) mg base (CT w) n fa fd [x] (sp w))
    (hsp : ∀ (w : World) (H : Hp) (a : Addr) (ns : List Int), ns.length ≤ z → (∀ i ∈ ns, Builtin.Int.intBits i ≤ 1048576) → Only H → SqL (K w.params) H a (ns.map V.int) → sp w [.ref a] H (fun v _ => v = .bl true) fun _ _ _ => False)
    (hCT : ∀ (w : World) (H : Hp) (s : Shared) (e : Value) (s' : Shared), CT w [] H s (fun _ _ _ => False) e s' → False) : PySem.W.WalkO q loose XP YP l.row.toRowW d [] (fun f vs => PySem.call f vs) := by
  refine Att.attach_callB hz hdf ?_
  intro w s₀ s mg mb fa o pm cd doc a vs ns G Y ho hd hcd hmg hobj hints hlen hbits hgen
  have inK := hY w _ Y
  obtain ⟨fd, hbind, hF⟩ := F w mg fa _ inK G.T.g hmg
  exact law_callG inK G.T.g G.T.b G.T.builtins G.T.nolimit hgen hobj hints (Nat.le_trans hlen hz2) hr hF hbind (fun H hO hS => hsp w H a ns hlen hbits hO hS) fun H e s' => hCT w H s e s'
end DL
/-! DLa: a layer of data over the hand layer: data as trees, cells that change, readings by data. -/
namespace DL
open PySem PySem.Spec PyProof.Rows L2

/-- data: trees of what does not change; slst: a list of the module or the script; own: a cell that may change; opq: anything else -/
inductive D where
  | non | bl (b : Bool) | int (i : Int) | str (x : Str)
  | lst (xs : List D) | tup (xs : List D) | slst (xs : List D)
  | obj (C : Addr) (ks : List Str) (xs : List D)
  | own (a : Addr)
  | opq (v : V)

/-- what stands in a cell -/
inductive Cell where
  | lst (xs : List D)
  | dic (kvs : List (Key × D))
  | ins (C : Addr) (ks : List Str) (xs : List D)
  /-- a table of code objects of the name q; cs: some of them -/
  | tbl (q : Str) (cs : List Addr)

abbrev CS := Addr → Option Cell
def put (C : CS) (a : Addr) (c : Cell) : CS := fun b => if b = a then some c else C b
def del (C : CS) (a : Addr) : CS := fun b => if b = a then none else C b
theorem put_same {C : CS} {a : Addr} {c : Cell} : put C a c a = some c := by unfold put; rw [if_pos rfl]
theorem put_ne {C : CS} {a b : Addr} {c : Cell} (h : b ≠ a) : put C a c b = C b := by unfold put; rw [if_neg h]
theorem put_put {C : CS} {a : Addr} {c d : Cell} : put (put C a c) a d = put C a d := by
  funext b; unfold put; split <;> rfl
theorem del_same {C : CS} {a : Addr} : del C a a = none := by unfold del; rw [if_pos rfl]
theorem del_ne {C : CS} {a b : Addr} (h : b ≠ a) : del C a b = C b := by unfold del; rw [if_neg h]
theorem del_put {C : CS} {a : Addr} {c : Cell} (h : C a = none) : del (put C a c) a = C := by
  funext b; unfold del put; split
  · rename_i e; rw [e, h]
  · rfl
theorem cell_ne {C : CS} {a b : Addr} {c : Cell} (h : C a = some c) (h' : C b = none) : a ≠ b := by
  intro e; subst e; rw [h] at h'; cases h'

mutual
inductive Dat (K : PySem.W.Frag) (G : Hp) : V → D → Prop
  | non : Dat K G .non .non
  | bl (b : Bool) : Dat K G (.bl b) (.bl b)
  | int (i : Int) : Dat K G (.int i) (.int i)
  | str (x : Str) : Dat K G (.str x) (.str x)
  | lst {a : Addr} {xs : List V} {ds : List D} : G a = some (.lst xs) → DatAll K G xs ds → Dat K G (.ref a) (.lst ds)
  | slst {a : Addr} {xs : List V} {ds : List D} : SqL K G a xs → DatAll K G xs ds → Dat K G (.ref a) (.slst ds)
  | tup {a : Addr} {xs : List V} {ds : List D} : SqT K G a xs → DatAll K G xs ds → Dat K G (.ref a) (.tup ds)
  | obj {a C dx : Addr} {fs : List (Str × V)} {ks : List Str} {ds : List D} : G a = some (.ins C dx fs) → fs.map (·.1) = ks → DatAll K G (fs.map (·.2)) ds → Dat K G (.ref a) (.obj C ks ds)
  | own (a : Addr) : Dat K G (.ref a) (.own a)
  | opq (v : V) : Dat K G v (.opq v)
inductive DatAll (K : PySem.W.Frag) (G : Hp) : List V → List D → Prop
  | nil : DatAll K G [] []
  | cons {v : V} {vs : List V} {d : D} {ds : List D} : Dat K G v d → DatAll K G vs ds → DatAll K G (v :: vs) (d :: ds)
end

theorem Same.sqT {K : PySem.W.Frag} {H H' : Hp} {a : Addr} {xs : List V} (e : Same H H') (h : SqT K H a xs) : SqT K H' a xs := by
  rcases h with (h | ⟨o, h⟩) | h
  · exact .inl (.inl (e _ _ h))
  · exact .inl (.inr ⟨o, e _ _ h⟩)
  · exact .inr h

section
variable {K : PySem.W.Frag} {G G' : Hp}
mutual
theorem Dat.mono (e : Same G G') : ∀ (d : D) {v : V}, Dat K G v d → Dat K G' v d
  | .non, _, h => by cases h; exact .non
  | .bl _, _, h => by cases h; exact .bl _
  | .int _, _, h => by cases h; exact .int _
  | .str _, _, h => by cases h; exact .str _
  | .lst ds, _, h => by
    cases h with
    | lst a b => exact .lst (e _ _ a) (DatAll.mono e ds b)
  | .slst ds, _, h => by
    cases h with
    | slst a b => exact .slst (e.seq a) (DatAll.mono e ds b)
  | .tup ds, _, h => by
    cases h with
    | tup a b => exact .tup (Same.sqT e a) (DatAll.mono e ds b)
  | .obj _ _ ds, _, h => by
    cases h with
    | obj a b c => exact .obj (e _ _ a) b (DatAll.mono e ds c)
  | .own _, _, h => by cases h; exact .own _
  | .opq _, _, h => by cases h; exact .opq _
theorem DatAll.mono (e : Same G G') : ∀ (ds : List D) {vs : List V}, DatAll K G vs ds → DatAll K G' vs ds
  | [], _, h => by cases h; exact .nil
  | d :: ds, _, h => by
    cases h with
    | cons a b => exact .cons (Dat.mono e d a) (DatAll.mono e ds b)
end
theorem DatAll.length : ∀ {vs : List V} {ds : List D}, DatAll K G vs ds → vs.length = ds.length
  | _, [], h => by cases h; rfl
  | _, d :: ds, h => by
    cases h with
    | cons a b => simp [DatAll.length b]
theorem DatAll.get : ∀ {vs : List V} {ds : List D} {i : Nat} {d : D}, DatAll K G vs ds → ds[i]? = some d → ∃ v, vs[i]? = some v ∧ Dat K G v d
  | _, [], i, d, h, e => by simp at e
  | _, x :: ds, i, d, h, e => by
    cases h with
    | cons a b =>
      cases i with
      | zero => simp at e; subst e; exact ⟨_, rfl, a⟩
      | succ i =>
        obtain ⟨v, h1, h2⟩ := DatAll.get (i := i) b (by simpa using e)
        exact ⟨v, by simpa using h1, h2⟩
theorem DatAll.append : ∀ {vs ws : List V} {ds es : List D}, DatAll K G vs ds → DatAll K G ws es → DatAll K G (vs ++ ws) (ds ++ es)
  | _, _, [], _, h, k => by cases h; exact k
  | _, _, d :: ds, _, h, k => by
    cases h with
    | cons a b => exact .cons a (DatAll.append b k)
theorem DatAll.take : ∀ {vs : List V} {ds : List D} (n : Nat), DatAll K G vs ds → DatAll K G (vs.take n) (ds.take n)
  | _, [], n, h => by cases h; simp; exact .nil
  | _, d :: ds, 0, h => by simp; exact .nil
  | _, d :: ds, n + 1, h => by
    cases h with
    | cons a b => exact .cons a (DatAll.take n b)
theorem DatAll.drop : ∀ {vs : List V} {ds : List D} (n : Nat), DatAll K G vs ds → DatAll K G (vs.drop n) (ds.drop n)
  | _, [], n, h => by cases h; simp; exact .nil
  | _, d :: ds, 0, h => h
  | _, d :: ds, n + 1, h => by
    cases h with
    | cons a b => exact DatAll.drop n b
theorem DatAll.set : ∀ {vs : List V} {ds : List D} {v : V} {d : D} (i : Nat), DatAll K G vs ds → Dat K G v d → DatAll K G (vs.set i v) (ds.set i d)
  | _, [], _, _, i, h, k => by cases h; simp; exact .nil
  | _, x :: ds, _, _, 0, h, k => by
    cases h with
    | cons a b => exact .cons k b
  | _, x :: ds, _, _, i + 1, h, k => by
    cases h with
    | cons a b => exact .cons a (DatAll.set i b k)
theorem DatAll.rev {vs : List V} {ds : List D} (h : DatAll K G vs ds) : DatAll K G vs.reverse ds.reverse := by
  induction ds generalizing vs with
  | nil => cases h; exact .nil
  | cons d ds ih =>
    cases h with
    | cons a b => simpa using DatAll.append (ih b) (.cons a .nil)
end

/-! ### the world -/
/-- a table of code objects; each of them bears the name q, and stands still -/
def TabG (G H : Hp) (a : Addr) (q : Str) (cs : List Addr) : Prop := ∃ ps : Array Value, H a = some (.tbl ps) ∧ TriplesOk ps.toList ∧ (∀ (pos : Pos) (cv : Value), codeAmong pos ps.toList = some cv → ∃ c, cv = .ref c ∧ G c = some (LamX.CodeO c q)) ∧ ∀ c ∈ cs, G c = some (LamX.CodeO c q)
def CellR (K : PySem.W.Frag) (G H : Hp) (a : Addr) : Cell → Prop
  | .lst ds => ∃ vs, H a = some (.lst vs) ∧ DatAll K G vs ds
  | .dic kvs => ∃ kw : List (Key × V), H a = some (.dK kw) ∧ kw.map (·.1) = kvs.map (·.1) ∧ DatAll K G (kw.map (·.2)) (kvs.map (·.2))
  | .ins C ks ds => ∃ (dx : Addr) (fs : List (Str × V)), H a = some (.ins C dx fs) ∧ fs.map (·.1) = ks ∧ DatAll K G (fs.map (·.2)) ds
  | .tbl q cs => TabG G H a q cs
theorem CellR.mono {K : PySem.W.Frag} {G G' H H' : Hp} {a : Addr} {c : Cell} (e : Same G G') (h : H' a = H a) (r : CellR K G H a c) : CellR K G' H' a c := by
  cases c with
  | lst ds => obtain ⟨vs, h1, h2⟩ := r; exact ⟨vs, h.trans h1, h2.mono e⟩
  | dic kvs => obtain ⟨vs, h1, h2, h3⟩ := r; exact ⟨vs, h.trans h1, h2, h3.mono e⟩
  | ins C ks ds => obtain ⟨dx, fs, h1, h2, h3⟩ := r; exact ⟨dx, fs, h.trans h1, h2, h3.mono e⟩
  | tbl q cs =>
    obtain ⟨ps, h1, h2, h3, h4⟩ := r
    refine ⟨ps, h.trans h1, h2, fun pos cv hc => ?_, fun c hc => e _ _ (h4 c hc)⟩
    obtain ⟨c, e1, e2⟩ := h3 pos cv hc
    exact ⟨c, e1, e _ _ e2⟩
theorem CellR.some {K : PySem.W.Frag} {G H : Hp} {a : Addr} {c : Cell} (r : CellR K G H a c) : ∃ o, H a = some o := by
  cases c with
  | lst ds => obtain ⟨vs, h1, h2⟩ := r; exact ⟨_, h1⟩
  | dic kvs => obtain ⟨vs, h1, h2, h3⟩ := r; exact ⟨_, h1⟩
  | ins C ks ds => obtain ⟨dx, fs, h1, h2, h3⟩ := r; exact ⟨_, h1⟩
  | tbl q cs => obtain ⟨ps, h1, _⟩ := r; exact ⟨_, h1⟩

structure Wld (K : PySem.W.Frag) (G : Hp) (C : CS) (H : Hp) : Prop where
  ex : Same G H
  cell : ∀ a c, C a = some c → G a = none ∧ CellR K G H a c
  /-- no table stands still -/
  nt : ∀ a ps, G a ≠ some (.tbl ps)

/-- what a piece of code leaves as it was -/
structure Fr (G : Hp) (C : CS) (H G' : Hp) (C' : CS) (H' : Hp) : Prop where
  exG : Same G G'
  /-- all but the tables of code objects -/
  keep : ∀ a o, H a = some o → C a = none → (∀ ps, o ≠ .tbl ps) → H' a = some o
  dom : ∀ a, H a ≠ none → H' a ≠ none
  newC : ∀ a, H a ≠ none → C' a ≠ none → C a ≠ none
  newG : ∀ a, H a ≠ none → G' a ≠ none → G a ≠ none ∨ C a ≠ none

section
variable {K : PySem.W.Frag} {G G1 G2 H H1 H2 : Hp} {C C1 C2 : CS} {a : Addr}
theorem Fr.refl (G : Hp) (C : CS) (H : Hp) : Fr G C H G C H := ⟨fun _ _ h => h, fun _ _ h _ _ => h, fun _ h => h, fun _ _ h => h, fun _ _ h => .inl h⟩
theorem Fr.trans (x : Fr G C H G1 C1 H1) (y : Fr G1 C1 H1 G2 C2 H2) : Fr G C H G2 C2 H2 where
  exG := x.exG.trans y.exG
  keep := fun a o h1 h2 h3 => y.keep a o (x.keep a o h1 h2 h3) (by
    cases q : C1 a with
    | none => rfl
    | some c => exact absurd h2 (x.newC a (by rw [h1]; simp) (by rw [q]; simp))) h3
  dom := fun a h => y.dom a (x.dom a h)
  newC := fun a h k => x.newC a h (y.newC a (x.dom a h) k)
  newG := fun a h k => (y.newG a (x.dom a h) k).elim (x.newG a h) fun k => .inr (x.newC a h k)
theorem Wld.ne (w : Wld K G C H) {a : Addr} (h : H a = none) : G a = none ∧ C a = none := by
  refine ⟨w.ex.free h, ?_⟩
  cases q : C a with
  | none => rfl
  | some c =>
    obtain ⟨o, e⟩ := (w.cell a c q).2.some
    rw [h] at e; cases e
/-- a new object that will not change -/
theorem Wld.newG (w : Wld K G C H) {p : Addr} (h : H p = none) (o : HO) (ho : ∀ ps, o ≠ .tbl ps := by intro _ z; cases z) : Wld K (upd G p o) C (upd H p o) ∧ Fr G C H (upd G p o) C (upd H p o) ∧ Same G (upd G p o) := by
  obtain ⟨g, c⟩ := w.ne h
  have sG : Same G (upd G p o) := fun b u e => by rw [upd_ne (ne_of_none e g)]; exact e
  refine ⟨⟨fun b u e => ?_, fun b c' e => ?_, fun b ps z => ?_⟩, ⟨sG, fun b u e _ _ => by rw [upd_ne (ne_of_none e h)]; exact e, fun b e => ?_, fun _ _ k => k, fun b hb k => ?_⟩, sG⟩
  · by_cases q : b = p
    · subst q; rw [upd_same] at e ⊢; exact e
    · rw [upd_ne q] at e ⊢; exact w.ex b u e
  · have ne : b ≠ p := cell_ne e c
    obtain ⟨h1, h2⟩ := w.cell b c' e
    exact ⟨by rw [upd_ne ne]; exact h1, h2.mono sG (upd_ne ne)⟩
  · by_cases q : b = p
    · subst q; rw [upd_same] at z; exact ho ps (Option.some.inj z)
    · rw [upd_ne q] at z; exact w.nt b ps z
  · by_cases q : b = p
    · subst q; exact absurd h e
    · rw [upd_ne q]; exact e
  · by_cases q : b = p
    · subst q; exact absurd h hb
    · rw [upd_ne q] at k; exact .inl k
/-- a new cell -/
theorem Wld.newC (w : Wld K G C H) {p : Addr} (h : H p = none) {o : HO} {c : Cell} (r : ∀ H', H' p = some o → CellR K G H' p c) : Wld K G (put C p c) (upd H p o) ∧ Fr G C H G (put C p c) (upd H p o) := by
  obtain ⟨g, c0⟩ := w.ne h
  refine ⟨⟨fun b u e => ?_, fun b c' e => ?_, w.nt⟩, ⟨fun _ _ h => h, fun b u e _ _ => by rw [upd_ne (ne_of_none e h)]; exact e, fun b e => ?_, fun b hb k => ?_, fun b _ k => .inl k⟩⟩
  · rw [upd_ne (ne_of_none e g)]; exact w.ex b u e
  · by_cases q : b = p
    · subst q; rw [put_same] at e; cases e; exact ⟨g, r _ upd_same⟩
    · rw [put_ne q] at e
      obtain ⟨h1, h2⟩ := w.cell b c' e
      exact ⟨h1, h2.mono (fun _ _ h => h) (upd_ne q)⟩
  · by_cases q : b = p
    · subst q; exact absurd h e
    · rw [upd_ne q]; exact e
  · by_cases q : b = p
    · subst q; exact absurd h hb
    · rw [put_ne q] at k; exact k
/-- a cell is changed -/
theorem Wld.write (w : Wld K G C H) {p : Addr} {c c' : Cell} (h : C p = some c) {o : HO} (r : ∀ H', H' p = some o → CellR K G H' p c') : Wld K G (put C p c') (upd H p o) ∧ Fr G C H G (put C p c') (upd H p o) := by
  obtain ⟨g, r0⟩ := w.cell p c h
  refine ⟨⟨fun b u e => ?_, fun b d e => ?_, w.nt⟩, ⟨fun _ _ h => h, fun b u e k _ => ?_, fun b e => ?_, fun b hb k => ?_, fun b _ k => .inl k⟩⟩
  · rw [upd_ne (ne_of_none e g)]; exact w.ex b u e
  · by_cases q : b = p
    · subst q; rw [put_same] at e; cases e; exact ⟨g, r _ upd_same⟩
    · rw [put_ne q] at e
      obtain ⟨h1, h2⟩ := w.cell b d e
      exact ⟨h1, h2.mono (fun _ _ h => h) (upd_ne q)⟩
  · have : b ≠ p := fun q => by subst q; rw [h] at k; cases k
    rw [upd_ne this]; exact e
  · by_cases q : b = p
    · subst q; rw [upd_same]; simp
    · rw [upd_ne q]; exact e
  · by_cases q : b = p
    · subst q; rw [h]; simp
    · rw [put_ne q] at k; exact k
/-- cells are forgotten -/
theorem Wld.sub (w : Wld K G C H) (h : ∀ a c, C1 a = some c → C a = some c) : Wld K G C1 H ∧ Fr G C H G C1 H :=
  ⟨⟨w.ex, fun a c e => w.cell a c (h a c e), w.nt⟩, ⟨fun _ _ h => h, fun _ _ h _ _ => h, fun _ h => h, fun a _ k => by
    cases q : C1 a with
    | none => exact absurd q k
    | some c => rw [h a c q]; simp, fun _ _ h => .inl h⟩⟩
/-- a list's cell is frozen -/
theorem Wld.freeze (w : Wld K G C H) {p : Addr} {ds : List D} (h : C p = some (.lst ds)) : ∃ G', Wld K G' (del C p) H ∧ Fr G C H G' (del C p) H ∧ Dat K G' (.ref p) (.lst ds) := by
  obtain ⟨g, vs, e, r⟩ := w.cell p _ h
  have sG : Same G (upd G p (.lst vs)) := fun b u e => by rw [upd_ne (ne_of_none e g)]; exact e
  refine ⟨upd G p (.lst vs), ⟨fun b u q => ?_, fun b c q => ?_, fun b ps z => ?_⟩, ⟨sG, fun _ _ h _ _ => h, fun _ h => h, fun b _ k => ?_, fun b _ k => ?_⟩, .lst upd_same (r.mono sG)⟩
  · by_cases z : b = p
    · subst z; rw [upd_same] at q; rw [e]; exact q
    · rw [upd_ne z] at q; exact w.ex b u q
  · have ne : b ≠ p := fun z => by subst z; rw [del_same] at q; cases q
    rw [del_ne ne] at q
    obtain ⟨h1, h2⟩ := w.cell b c q
    exact ⟨by rw [upd_ne ne]; exact h1, h2.mono sG rfl⟩
  · by_cases q : b = p
    · subst q; rw [upd_same] at z; cases z
    · rw [upd_ne q] at z; exact w.nt b ps z
  · by_cases z : b = p
    · subst z; rw [h]; simp
    · rw [del_ne z] at k; exact k
  · by_cases z : b = p
    · subst z; right; rw [h]; simp
    · rw [upd_ne z] at k; exact .inl k
end
end DL
/-! DLb: judgements by data: expressions, tests, arguments, statements. -/
namespace DL
open PySem PySem.Spec PyProof.Rows L2

abbrev DEnv := List (Option D)
def EnvR (K : PySem.W.Frag) (G : Hp) (env : DEnv) (σ : L2.St) : Prop := env.length = σ.length ∧ ∀ (i : Nat) (d : D), env[i]? = some (some d) → ∃ v, σ[i]? = some (some v) ∧ Dat K G v d
abbrev KD := D → CS → Prop
def Kont (K : PySem.W.Frag) (G : Hp) (C : CS) (H : Hp) (k : KD) (Q : VK) : Prop :=
  ∀ v G' C' H' d, Fr G C H G' C' H' → Wld K G' C' H' → Dat K G' v d → k d C' → Q v H'
def KontB (K : PySem.W.Frag) (G : Hp) (C : CS) (H : Hp) (k : Bool → CS → Prop) (Q : Bool → Hp → Prop) : Prop :=
  ∀ b G' C' H', Fr G C H G' C' H' → Wld K G' C' H' → k b C' → Q b H'
def KontA (K : PySem.W.Frag) (G : Hp) (C : CS) (H : Hp) (k : List D → CS → Prop) (Q : List V → Hp → Prop) : Prop :=
  ∀ vs G' C' H' ds, Fr G C H G' C' H' → Wld K G' C' H' → DatAll K G' vs ds → k ds C' → Q vs H'
def Ev (K : PySem.W.Frag) (te : TE) (env : DEnv) (C : CS) (k : KD) : Prop := ∀ G σ H Q, Wld K G C H → EnvR K G env σ → Kont K G C H k Q → te σ H Q
def EvB (K : PySem.W.Frag) (te : TT) (env : DEnv) (C : CS) (k : Bool → CS → Prop) : Prop := ∀ G σ H Q, Wld K G C H → EnvR K G env σ → KontB K G C H k Q → te σ H Q
def EvA (K : PySem.W.Frag) (te : TA) (env : DEnv) (C : CS) (k : List D → CS → Prop) : Prop := ∀ G σ H Q, Wld K G C H → EnvR K G env σ → KontA K G C H k Q → te σ H Q

/-- the widest readings -/
def tS (X : Cx) (e : Expr) : TE := fun σ H Q => ∀ pins s, Inv X pins σ H s → wpAny (model X.prog X.w) X.A (eval e X.env) (EP X pins σ Q) X.xe s
def tT (X : Cx) (e : Expr) : TT := fun σ H Q => ∀ pins s, Inv X pins σ H s → wpAny (model X.prog X.w) X.A (isTrue e X.env (eval e X.env)) (TP X pins σ Q) X.xe s
def tW (X : Cx) (e : Expr) : TT := fun σ H Q => ∀ whole pins s, Inv X pins σ H s → wpAny (model X.prog X.w) X.A (isTrue e X.env whole) (TP X pins σ Q) X.xe s
def tAr (X : Cx) (es : List Expr) : TA := fun σ H Q => ∀ (pos : Pos) pins s, Inv X pins σ H s → wpAny (model X.prog X.w) X.A (spliced (backTo pos (starEach es X.env))) (AP X pins σ Q) X.xe s
def tX (X : Cx) (st : Stmt) : TS := fun D σ H => ∀ pins s, Inv X pins σ H s → wpAny (model X.prog X.w) X.A (exec st X.env) (SP X pins D) X.xe s
def tXs (X : Cx) (st : List Stmt) : TS := fun D σ H => ∀ pins s, Inv X pins σ H s → wpAny (model X.prog X.w) X.A (execs st X.env) (SP X pins D) X.xe s
section
variable {X : Cx} {e : Expr} {es : List Expr} {st : Stmt} {sts : List Stmt}
theorem pe_tS : PE X e (tS X e) := ⟨fun pins s σ H Q I h => h pins s I⟩
theorem pt_tT : PT X e (tT X e) := ⟨fun pins s σ H Q I h => h pins s I⟩
theorem pw_tW : PW X e (tW X e) := ⟨fun wh pins s σ H Q I h => h wh pins s I⟩
theorem pa_tAr : PA X es (tAr X es) := ⟨fun pos pins s σ H Q I h => h pos pins s I⟩
theorem ps_tX : PS X st (tX X st) := ⟨fun pins s σ H D I h => h pins s I⟩
theorem pss_tXs : PSs X sts (tXs X sts) := ⟨fun pins s σ H D I h => h pins s I⟩
end
def WE (X : Cx) (e : Expr) (env : DEnv) (C : CS) (k : KD) : Prop := Ev X.K (tS X e) env C k
def WT (X : Cx) (e : Expr) (env : DEnv) (C : CS) (k : Bool → CS → Prop) : Prop := EvB X.K (tT X e) env C k
def WW (X : Cx) (e : Expr) (env : DEnv) (C : CS) (k : Bool → CS → Prop) : Prop := EvB X.K (tW X e) env C k
def WA (X : Cx) (es : List Expr) (env : DEnv) (C : CS) (k : List D → CS → Prop) : Prop := EvA X.K (tAr X es) env C k

structure DEnds where
  nx : DEnv → CS → Prop
  rt : KD
  bk : DEnv → CS → Prop := fun _ _ => False
  ct : DEnv → CS → Prop := fun _ _ => False
def KontE (K : PySem.W.Frag) (G : Hp) (C : CS) (H : Hp) (k : DEnv → CS → Prop) (Q : L2.St → Hp → Prop) : Prop :=
  ∀ G' C' H' σ env, Fr G C H G' C' H' → Wld K G' C' H' → EnvR K G' env σ → k env C' → Q σ H'
structure KontS (K : PySem.W.Frag) (G : Hp) (C : CS) (H : Hp) (E : DEnds) (D : Ends) : Prop where
  nx : KontE K G C H E.nx D.nx
  rt : Kont K G C H E.rt D.rt
  bk : KontE K G C H E.bk D.bk
  ct : KontE K G C H E.ct D.ct
def EvS (K : PySem.W.Frag) (ts : TS) (env : DEnv) (C : CS) (E : DEnds) : Prop := ∀ G σ H D, Wld K G C H → EnvR K G env σ → KontS K G C H E D → ts D σ H
def WS (X : Cx) (st : Stmt) (env : DEnv) (C : CS) (E : DEnds) : Prop := EvS X.K (tX X st) env C E
def WSs (X : Cx) (sts : List Stmt) (env : DEnv) (C : CS) (E : DEnds) : Prop := EvS X.K (tXs X sts) env C E

section
variable {K : PySem.W.Frag} {G G1 H H1 : Hp} {C C1 : CS} {env : DEnv} {σ : L2.St}
theorem EnvR.mono (h : EnvR K G env σ) (e : Same G G1) : EnvR K G1 env σ := ⟨h.1, fun i d q => let ⟨v, a, b⟩ := h.2 i d q; ⟨v, a, b.mono e⟩⟩
theorem Kont.after {k : KD} {Q : VK} (q : Kont K G C H k Q) (f : Fr G C H G1 C1 H1) : Kont K G1 C1 H1 k Q := fun v G' C' H' d f' => q v G' C' H' d (f.trans f')
theorem KontB.after {k : Bool → CS → Prop} {Q : Bool → Hp → Prop} (q : KontB K G C H k Q) (f : Fr G C H G1 C1 H1) : KontB K G1 C1 H1 k Q := fun v G' C' H' f' => q v G' C' H' (f.trans f')
theorem KontA.after {k : List D → CS → Prop} {Q : List V → Hp → Prop} (q : KontA K G C H k Q) (f : Fr G C H G1 C1 H1) : KontA K G1 C1 H1 k Q := fun v G' C' H' d f' => q v G' C' H' d (f.trans f')
theorem KontE.after {k : DEnv → CS → Prop} {Q : L2.St → Hp → Prop} (q : KontE K G C H k Q) (f : Fr G C H G1 C1 H1) : KontE K G1 C1 H1 k Q := fun G' C' H' s d f' => q G' C' H' s d (f.trans f')
theorem KontS.after {E : DEnds} {D : Ends} (q : KontS K G C H E D) (f : Fr G C H G1 C1 H1) : KontS K G1 C1 H1 E D := ⟨q.nx.after f, q.rt.after f, q.bk.after f, q.ct.after f⟩
theorem EnvR.set (h : EnvR K G env σ) {v : V} {d : D} (i : Nat) (r : Dat K G v d) : EnvR K G (env.set i (some d)) (σ.set i (some v)) := by
  refine ⟨by simp [h.1], fun j d' q => ?_⟩
  by_cases e : i = j
  · subst e
    by_cases l : i < env.length
    · rw [List.getElem?_set_self l] at q
      cases q
      exact ⟨v, by rw [List.getElem?_set_self (by rw [← h.1]; exact l)], r⟩
    · rw [List.getElem?_eq_none (by simp; omega)] at q; cases q
  · rw [List.getElem?_set_ne e] at q ⊢
    exact h.2 j d' q
end

/-! ### from a rule of the hand layer -/
section
variable {X : Cx} {e : Expr} {es : List Expr} {st : Stmt} {sts : List Stmt} {env : DEnv} {C : CS}
theorem WE.of {te : TE} {k : KD} (h : PE X e te) (hv : Ev X.K te env C k) : WE X e env C k := fun G σ H Q w er q pins s I => h.run pins s σ H Q I (hv G σ H Q w er q)
theorem WT.of {te : TT} {k : Bool → CS → Prop} (h : PT X e te) (hv : EvB X.K te env C k) : WT X e env C k := fun G σ H Q w er q pins s I => h.run pins s σ H Q I (hv G σ H Q w er q)
theorem WW.of {te : TT} {k : Bool → CS → Prop} (h : PW X e te) (hv : EvB X.K te env C k) : WW X e env C k := fun G σ H Q w er q wh pins s I => h.run wh pins s σ H Q I (hv G σ H Q w er q)
theorem WA.of {te : TA} {k : List D → CS → Prop} (h : PA X es te) (hv : EvA X.K te env C k) : WA X es env C k := fun G σ H Q w er q pos pins s I => h.run pos pins s σ H Q I (hv G σ H Q w er q)
theorem WS.of {te : TS} {E : DEnds} (h : PS X st te) (hv : EvS X.K te env C E) : WS X st env C E := fun G σ H D w er q pins s I => h.run pins s σ H D I (hv G σ H D w er q)
theorem WSs.of {te : TS} {E : DEnds} (h : PSs X sts te) (hv : EvS X.K te env C E) : WSs X sts env C E := fun G σ H D w er q pins s I => h.run pins s σ H D I (hv G σ H D w er q)
theorem WE.imp {k k' : KD} (h : WE X e env C k) (hk : ∀ d C', k d C' → k' d C') : WE X e env C k' := fun G σ H Q w er q => h G σ H Q w er fun v G' C' H' d f w' r z => q v G' C' H' d f w' r (hk d C' z)
theorem WT.imp {k k' : Bool → CS → Prop} (h : WT X e env C k) (hk : ∀ d C', k d C' → k' d C') : WT X e env C k' := fun G σ H Q w er q => h G σ H Q w er fun v G' C' H' f w' z => q v G' C' H' f w' (hk v C' z)
theorem WA.imp {k k' : List D → CS → Prop} (h : WA X es env C k) (hk : ∀ d C', k d C' → k' d C') : WA X es env C k' := fun G σ H Q w er q => h G σ H Q w er fun v G' C' H' d f w' r z => q v G' C' H' d f w' r (hk d C' z)
end

/-! ### readings by data, compositionally -/
abbrev OpD := D → D → CS → KD → Prop
/-- a two-place operation on values is one on data -/
def R2D (K : PySem.W.Frag) (r : R2) (p : OpD) : Prop := ∀ (x y : V) (a b : D) (G : Hp) (C : CS) (H : Hp) (k : KD) (Q : VK), Wld K G C H → Dat K G x a → Dat K G y b → p a b C k → Kont K G C H k Q → r x y H Q
def R1D (K : PySem.W.Frag) (r : V → Hp → VK → Prop) (p : D → CS → KD → Prop) : Prop := ∀ (x : V) (a : D) (G : Hp) (C : CS) (H : Hp) (k : KD) (Q : VK), Wld K G C H → Dat K G x a → p a C k → Kont K G C H k Q → r x H Q
def RLD (K : PySem.W.Frag) (r : List V → Hp → VK → Prop) (p : List D → CS → KD → Prop) : Prop := ∀ (xs : List V) (ds : List D) (G : Hp) (C : CS) (H : Hp) (k : KD) (Q : VK), Wld K G C H → DatAll K G xs ds → p ds C k → Kont K G C H k Q → r xs H Q
def RMD (K : PySem.W.Frag) (r : V → List V → Hp → VK → Prop) (p : D → List D → CS → KD → Prop) : Prop := ∀ (x : V) (a : D) (xs : List V) (ds : List D) (G : Hp) (C : CS) (H : Hp) (k : KD) (Q : VK), Wld K G C H → Dat K G x a → DatAll K G xs ds → p a ds C k → Kont K G C H k Q → r x xs H Q
section
variable {K : PySem.W.Frag} {env : DEnv} {C : CS} {ta tb te : TE} {k : KD} {r : R2} {p : OpD} {t u : TT} {kb : Bool → CS → Prop} {tr : TA}
theorem ev_op (hr : R2D K r p) (h : Ev K ta env C fun x C1 => Ev K tb env C1 fun y C2 => p x y C2 k) : Ev K (tOp r ta tb) env C k := fun G σ H Q w er q =>
  h G σ H _ w er fun v G1 C1 H1 x f1 w1 d1 hb => hb G1 σ H1 _ w1 (er.mono f1.exG) fun y' G2 C2 H2 y f2 w2 d2 hp => hr v y' x y G2 C2 H2 k Q w2 (d1.mono f2.exG) d2 hp (q.after (f1.trans f2))
theorem ev_un {r : V → Hp → VK → Prop} {p : D → CS → KD → Prop} (hr : R1D K r p) (h : Ev K ta env C fun x C1 => p x C1 k) : Ev K (tUn r ta) env C k := fun G σ H Q w er q =>
  h G σ H _ w er fun v G1 C1 H1 x f1 w1 d1 hb => hr v x G1 C1 H1 k Q w1 d1 hb (q.after f1)
theorem ev_cb {r : List V → Hp → VK → Prop} {p : List D → CS → KD → Prop} (hr : RLD K r p) (h : EvA K tr env C fun ds C1 => p ds C1 k) : Ev K (tCB r tr) env C k := fun G σ H Q w er q =>
  h G σ H _ w er fun vs G1 C1 H1 ds f1 w1 d1 hb => hr vs ds G1 C1 H1 k Q w1 d1 hb (q.after f1)
theorem eb_test (h : Ev K te env C fun x C1 => ∃ b, x = .bl b ∧ kb b C1) : EvB K (tTest te) env C kb := fun G σ H Q w er q =>
  h G σ H _ w er fun v G1 C1 H1 x f1 w1 d1 hb => by
    obtain ⟨b, rfl, hb⟩ := hb
    cases d1
    exact ⟨b, rfl, q b G1 C1 H1 f1 w1 hb⟩
theorem eb_B (h : Ev K te env C fun x C1 => ∃ b, x = .bl b ∧ kb b C1) : EvB K (tB te) env C kb := eb_test h
theorem eb_not (h : EvB K t env C fun b C1 => kb (!b) C1) : EvB K (tNot t) env C kb := fun G σ H Q w er q => h G σ H _ w er fun b G1 C1 H1 f1 w1 hb => q _ G1 C1 H1 f1 w1 hb
end
end DL
/-! DLc: the rules by data: names, operators, comparisons, displays, subscripts, tests. -/
namespace DL
open PySem PySem.Spec PyProof.Rows L2

/-! ### views of data -/
def seqL (C : CS) : D → Option (List D)
  | .lst xs => some xs
  | .own a => match C a with
    | some (.lst xs) => some xs
    | _ => none
  | _ => none
def seqR (C : CS) : D → Option (List D)
  | .slst xs => some xs
  | .lst xs => some xs
  | .own a => match C a with
    | some (.lst xs) => some xs
    | _ => none
  | _ => none
theorem seqL_own {C : CS} {a : Addr} {xs : List D} (h : C a = some (.lst xs)) : seqL C (.own a) = some xs := by unfold seqL; simp only [h]
theorem seqR_own {C : CS} {a : Addr} {xs : List D} (h : C a = some (.lst xs)) : seqR C (.own a) = some xs := by unfold seqR; simp only [h]
theorem own_seqL {C : CS} {a : Addr} {xs : List D} (h : seqL C (.own a) = some xs) : C a = some (.lst xs) := by
  unfold seqL at h
  cases q : C a with
  | none => simp [q] at h
  | some c => cases c <;> simp [q] at h; subst h; rfl
theorem own_seqR {C : CS} {a : Addr} {xs : List D} (h : seqR C (.own a) = some xs) : C a = some (.lst xs) := by
  unfold seqR at h
  cases q : C a with
  | none => simp [q] at h
  | some c => cases c <;> simp [q] at h; subst h; rfl
section
variable {K : PySem.W.Frag} {G H : Hp} {C : CS} {v : V} {d : D} {ds : List D}
theorem Wld.lst (w : Wld K G C H) (r : Dat K G v d) (e : seqL C d = some ds) : ∃ a xs, v = .ref a ∧ H a = some (.lst xs) ∧ DatAll K G xs ds := by
  cases r with
  | lst a b => simp [seqL] at e; subst e; exact ⟨_, _, rfl, w.ex _ _ a, b⟩
  | own a =>
    obtain ⟨_, vs, h1, h2⟩ := w.cell a _ (own_seqL e)
    exact ⟨a, vs, rfl, h1, h2⟩
  | _ => simp [seqL] at e
theorem Wld.seq (w : Wld K G C H) (r : Dat K G v d) (e : seqR C d = some ds) : ∃ a xs, v = .ref a ∧ SqL K H a xs ∧ DatAll K G xs ds := by
  cases r with
  | lst a b => simp [seqR] at e; subst e; exact ⟨_, _, rfl, SqL.of (w.ex _ _ a), b⟩
  | slst a b => simp [seqR] at e; subst e; exact ⟨_, _, rfl, w.ex.seq a, b⟩
  | own a =>
    obtain ⟨_, vs, h1, h2⟩ := w.cell a _ (own_seqR e)
    exact ⟨a, vs, rfl, SqL.of h1, h2⟩
  | _ => simp [seqR] at e
theorem Wld.tup (w : Wld K G C H) (r : Dat K G v (.tup ds)) : ∃ a xs, v = .ref a ∧ SqT K H a xs ∧ DatAll K G xs ds := by
  cases r with
  | tup a b => exact ⟨_, _, rfl, Same.sqT w.ex a, b⟩
end

mutual
def D.py : D → PyData
  | .non => .none
  | .bl b => .bool b
  | .int i => .int i
  | .str x => .str x
  | .lst xs => .list (pyL xs)
  | .slst xs => .list (pyL xs)
  | .tup xs => .tuple (pyL xs)
  | _ => .none
def pyL : List D → List PyData
  | [] => []
  | d :: ds => d.py :: pyL ds
end
mutual
def D.isPy : D → Bool
  | .non | .bl _ | .int _ | .str _ => true
  | .lst xs => allPy xs
  | .slst xs => allPy xs
  | .tup xs => allPy xs
  | _ => false
def allPy : List D → Bool
  | [] => true
  | d :: ds => d.isPy && allPy ds
end
section
variable {K : PySem.W.Frag} {G H : Hp}
mutual
theorem Dat.dp (e : Same G H) : ∀ (d : D) {v : V}, Dat K G v d → d.isPy = true → Dp K H v d.py
  | .non, _, h, _ => by cases h; exact .non
  | .bl _, _, h, _ => by cases h; exact .bl _
  | .int _, _, h, _ => by cases h; exact .int _
  | .str _, _, h, _ => by cases h; exact .str _
  | .lst ds, _, h, p => by
    cases h with
    | lst a b => exact .lst (SqL.of (e _ _ a)) (DatAll.dp e ds b (by simpa [D.isPy] using p))
  | .slst ds, _, h, p => by
    cases h with
    | slst a b => exact .lst (e.seq a) (DatAll.dp e ds b (by simpa [D.isPy] using p))
  | .tup ds, _, h, p => by
    cases h with
    | tup a b => exact .tup (Same.sqT e a) (DatAll.dp e ds b (by simpa [D.isPy] using p))
  | .obj _ _ ds, _, h, p => by simp [D.isPy] at p
  | .own _, _, h, p => by simp [D.isPy] at p
  | .opq _, _, h, p => by simp [D.isPy] at p
theorem DatAll.dp (e : Same G H) : ∀ (ds : List D) {vs : List V}, DatAll K G vs ds → allPy ds = true → DpAll K H vs (pyL ds)
  | [], _, h, _ => by cases h; exact .nil
  | d :: ds, _, h, p => by
    rw [allPy, Bool.and_eq_true] at p
    cases h with
    | cons a b => exact .cons (Dat.dp e d a p.1) (DatAll.dp e ds b p.2)
end
end
/-- the data that an operand stands for -/
def pyC (C : CS) : D → Option PyData
  | .own a => match C a with
    | some (.lst ds) => if allPy ds = true then some (.list (pyL ds)) else none
    | _ => none
  | d => if d.isPy = true then some d.py else none
theorem Wld.dp {K : PySem.W.Frag} {G H : Hp} {C : CS} {v : V} {d : D} {y : PyData} (w : Wld K G C H) (r : Dat K G v d) (e : pyC C d = some y) : Dp K H v y := by
  cases d with
  | own a =>
    cases r
    unfold pyC at e
    cases q : C a with
    | none => simp [q] at e
    | some c =>
      cases c with
      | lst ds =>
        simp [q] at e
        obtain ⟨p, rfl⟩ := e
        obtain ⟨_, vs, h1, h2⟩ := w.cell a _ q
        exact .lst (SqL.of h1) (h2.dp w.ex _ p)
      | _ => simp [q] at e
  | _ =>
    unfold pyC at e
    simp only [Option.ite_none_right_eq_some, Option.some.injEq] at e
    obtain ⟨p, rfl⟩ := e
    exact r.dp w.ex _ p

/-! ### more readings -/
section
variable {K : PySem.W.Frag} {env : DEnv} {C : CS} {ta tb te : TE} {k : KD} {t u : TT} {kb : Bool → CS → Prop} {tr : TA} {ka : List D → CS → Prop}
theorem eb_and2 (h : EvB K t env C fun b C1 => (b = true → EvB K u env C1 kb) ∧ (b = false → kb false C1)) : EvB K (tAnd t u) env C kb := fun G σ H Q w er q => h G σ H _ w er fun b G1 C1 H1 f1 w1 hb => by
  cases b with
  | true => exact iteT (hb.1 rfl G1 σ H1 Q w1 (er.mono f1.exG) (q.after f1))
  | false => exact iteF (q _ G1 C1 H1 f1 w1 (hb.2 rfl))
theorem eb_or2 (h : EvB K t env C fun b C1 => (b = true → kb true C1) ∧ (b = false → EvB K u env C1 kb)) : EvB K (tOr t u) env C kb := fun G σ H Q w er q => h G σ H _ w er fun b G1 C1 H1 f1 w1 hb => by
  cases b with
  | true => exact iteT (q _ G1 C1 H1 f1 w1 (hb.1 rfl))
  | false => exact iteF (hb.2 rfl G1 σ H1 Q w1 (er.mono f1.exG) (q.after f1))
theorem ev_andV (h : Ev K ta env C fun x C1 => ∃ b, x = .bl b ∧ (b = true → Ev K tb env C1 k) ∧ (b = false → k (.bl false) C1)) : Ev K (tAndV ta tb) env C k := fun G σ H Q w er q => h G σ H _ w er fun v G1 C1 H1 x f1 w1 d1 hb => by
  obtain ⟨b, rfl, h1, h2⟩ := hb
  cases d1
  refine ⟨b, rfl, ?_⟩
  cases b with
  | true => exact iteT (h1 rfl G1 σ H1 Q w1 (er.mono f1.exG) (q.after f1))
  | false => exact iteF (q _ G1 C1 H1 _ f1 w1 (.bl false) (h2 rfl))
theorem ev_orV (h : Ev K ta env C fun x C1 => ∃ b, x = .bl b ∧ (b = true → k (.bl true) C1) ∧ (b = false → Ev K tb env C1 k)) : Ev K (tOrV ta tb) env C k := fun G σ H Q w er q => h G σ H _ w er fun v G1 C1 H1 x f1 w1 d1 hb => by
  obtain ⟨b, rfl, h1, h2⟩ := hb
  cases d1
  refine ⟨b, rfl, ?_⟩
  cases b with
  | true => exact iteT (q _ G1 C1 H1 _ f1 w1 (.bl true) (h1 rfl))
  | false => exact iteF (h2 rfl G1 σ H1 Q w1 (er.mono f1.exG) (q.after f1))
theorem ev_notV (h : Ev K ta env C fun x C1 => ∃ b, x = .bl b ∧ k (.bl (!b)) C1) : Ev K (tNotV ta) env C k := fun G σ H Q w er q => h G σ H _ w er fun v G1 C1 H1 x f1 w1 d1 hb => by
  obtain ⟨b, rfl, h1⟩ := hb
  cases d1
  exact ⟨b, rfl, q _ G1 C1 H1 _ f1 w1 (.bl _) h1⟩
theorem ev_if (h : EvB K t env C fun b C1 => (b = true → Ev K ta env C1 k) ∧ (b = false → Ev K tb env C1 k)) : Ev K (tIf t ta tb) env C k := fun G σ H Q w er q => h G σ H _ w er fun b G1 C1 H1 f1 w1 hb => by
  cases b with
  | true => exact iteT (hb.1 rfl G1 σ H1 Q w1 (er.mono f1.exG) (q.after f1))
  | false => exact iteF (hb.2 rfl G1 σ H1 Q w1 (er.mono f1.exG) (q.after f1))
theorem ea_nil (h : ka [] C) : EvA K tNil env C ka := fun G σ H Q w er q => q [] G C H [] (Fr.refl ..) w .nil h
theorem ea_cons (h : Ev K ta env C fun x C1 => EvA K tr env C1 fun ds C2 => ka (x :: ds) C2) : EvA K (tCons ta tr) env C ka := fun G σ H Q w er q =>
  h G σ H _ w er fun v G1 C1 H1 x f1 w1 d1 hb => hb G1 σ H1 _ w1 (er.mono f1.exG) fun vs G2 C2 H2 ds f2 w2 d2 hp => q (v :: vs) G2 C2 H2 (x :: ds) (f1.trans f2) w2 (.cons (d1.mono f2.exG) d2) hp
theorem ev_tup (h : EvA K tr env C fun ds C1 => ds.length ≤ sizeLine ∧ k (.tup ds) C1) : Ev K (tTup tr) env C k := fun G σ H Q w er q =>
  h G σ H _ w er fun vs G1 C1 H1 ds f1 w1 d1 hb => ⟨by rw [d1.length]; exact hb.1, fun p hp => by
    obtain ⟨w2, f2, s2⟩ := w1.newG hp (.tup vs)
    exact q _ _ _ _ _ (f1.trans f2) w2 (.tup (SqT.of upd_same) (d1.mono s2)) hb.2⟩
theorem ev_lst (h : EvA K tr env C fun ds C1 => ds.length ≤ sizeLine ∧ ∀ p, C1 p = none → k (.own p) (put C1 p (.lst ds))) : Ev K (tLst tr) env C k := fun G σ H Q w er q =>
  h G σ H _ w er fun vs G1 C1 H1 ds f1 w1 d1 hb => ⟨by rw [d1.length]; exact hb.1, fun p hp => by
    obtain ⟨w2, f2⟩ := w1.newC hp (o := .lst vs) (c := .lst ds) fun H' e => ⟨vs, e, d1⟩
    exact q _ _ _ _ _ (f1.trans f2) w2 (.own p) (hb.2 p (w1.ne hp).2)⟩
theorem ev_lstF (h : EvA K tr env C fun ds C1 => ds.length ≤ sizeLine ∧ k (.lst ds) C1) : Ev K (tLst tr) env C k := fun G σ H Q w er q =>
  h G σ H _ w er fun vs G1 C1 H1 ds f1 w1 d1 hb => ⟨by rw [d1.length]; exact hb.1, fun p hp => by
    obtain ⟨w2, f2, s2⟩ := w1.newG hp (.lst vs)
    exact q _ _ _ _ _ (f1.trans f2) w2 (.lst upd_same (d1.mono s2)) hb.2⟩
end

/-! ### names, constants -/
section
variable {X : Cx} {e a b : Expr} {es : List Expr} {env : DEnv} {C : CS} {k : KD} {kb : Bool → CS → Prop} {ka : List D → CS → Prop} {pos : Pos}
theorem we_var {i : Nat} {x : Str} {d : D} (hN : X.N[i]? = some x) (hv : Vis X.env.scope x) (he : env[i]? = some (some d)) (h : k d C) (hd : (x == ("__debug__" : Str)) = false := by decide) (hcd : (x == ("__classdict__" : Str)) = false := by decide) : WE X (.Name x pos) env C k :=
  .of (pe_var hN hv hd hcd) fun G σ H Q w er q => by
    obtain ⟨v, h1, h2⟩ := er.2 i d he
    exact ⟨v, h1, q v G C H d (Fr.refl ..) w h2 h⟩
theorem we_int {i j} (h : k (.int i) C) : WE X (.Constant (.int i) j pos) env C k := .of pe_int fun G σ H Q w er q => q _ G C H _ (Fr.refl ..) w (.int i) h
theorem we_bl {b j} (h : k (.bl b) C) : WE X (.Constant (.bool b) j pos) env C k := .of pe_bl fun G σ H Q w er q => q _ G C H _ (Fr.refl ..) w (.bl b) h
theorem we_non {j} (h : k .non C) : WE X (.Constant .none j pos) env C k := .of pe_non fun G σ H Q w er q => q _ G C H _ (Fr.refl ..) w .non h
theorem we_str {x j} (h : k (.str x) C) : WE X (.Constant (.str x) j pos) env C k := .of pe_str fun G σ H Q w er q => q _ G C H _ (Fr.refl ..) w (.str x) h
/-- a constant of the module -/
def MgD (X : Cx) (x : Str) (d : D) : Prop := ∃ u v, X.mg x = some u ∧ RelV v u ∧ ∀ G, Dat X.K G v d
theorem we_glob {x : Str} {d : D} (hm : MgD X x d) (hg : Gl X x) (h : k d C) (hd : (x == ("__debug__" : Str)) = false := by decide) : WE X (.Name x pos) env C k := by
  obtain ⟨u, v, h1, h2, h3⟩ := hm
  exact .of (pe_glob hg h1 h2 hd) fun G σ H Q w er q => q _ G C H _ (Fr.refl ..) w (h3 G) h
/-- the name of a built-in class -/
theorem we_bty {x : Str} {T : String} (hm : X.mg x = none) (hg : Gl X x) (hv : bootBuiltins x = some (.type T)) (h : k (.opq (.ty T)) C) (hn : x ≠ "__name__" := by decide) (hd : (x == ("__debug__" : Str)) = false := by decide) : WE X (.Name x pos) env C k :=
  .of (pe_bltn hg hm hv (v := .ty T) rfl hn hd) fun G σ H Q w er q => q _ G C H _ (Fr.refl ..) w (.opq _) h

theorem we_op {op : Operator} {r : R2} {p : OpD} (ho : OpR X (binaryOp op) r) (hr : R2D X.K r p) (h : WE X a env C fun x C1 => WE X b env C1 fun y C2 => p x y C2 k) : WE X (.BinOp a op b pos) env C k := .of (pe_op ho pe_tS pe_tS) (ev_op hr h)
theorem we_un {op : UnaryOp} {r : V → Hp → VK → Prop} {p : D → CS → KD → Prop} (ho : UnR X (unaryOp op) r) (hr : R1D X.K r p) (h : WE X a env C fun x C1 => p x C1 k) : WE X (.UnaryOp op a pos) env C k := .of (pe_un ho pe_tS) (ev_un hr h)
theorem we_cmp {op : CmpOp} {r : R2} {p : OpD} (ho : OpR X (compareOp op) r) (hr : R2D X.K r p) (h : WE X a env C fun x C1 => WE X b env C1 fun y C2 => p x y C2 k) (hm : behindInMarks op b = false) : WE X (.Compare a [op] [b] pos) env C k := .of (pe_cmpR ho pe_tS pe_tS hm) (ev_op hr h)
theorem wt_cmp {op : CmpOp} {r : R2} {p : OpD} (ho : OpR X (compareOp op) r) (hr : R2D X.K r p) (h : WE X a env C fun x C1 => WE X b env C1 fun y C2 => p x y C2 fun d C3 => ∃ t, d = .bl t ∧ kb t C3) (hm : behindInMarks op b = false) : WT X (.Compare a [op] [b] pos) env C kb := .of (pt_cmpR ho pe_tS pe_tS hm) (eb_test (ev_op hr h))
theorem wt_val (h : WE X e env C fun d C1 => ∃ t, d = .bl t ∧ kb t C1) (he : ∀ whole, isTrue e X.env whole = (do let v ← whole; standAt e.pos; holding [v] (truthy v)) := by intro _; rfl) : WT X e env C kb := .of (pt_val pe_tS he) (eb_B h)
theorem wt_not (h : WT X a env C fun t C1 => kb (!t) C1) : WT X (.UnaryOp .Not a pos) env C kb := .of (pt_not pt_tT) (eb_not h)
theorem wt_ww (h : WW X e env C kb) : WT X e env C kb := .of (PW.pt pw_tW) h
theorem ww_and1 (h : WT X a env C kb) : WW X (.BoolOp .And [a] pos) env C kb := .of (pw_and1 pt_tT) h
theorem ww_or1 (h : WT X a env C kb) : WW X (.BoolOp .Or [a] pos) env C kb := .of (pw_or1 pt_tT) h
theorem ww_and {rest : List Expr} (h : WT X a env C fun t C1 => (t = true → WW X (.BoolOp .And (b :: rest) pos) env C1 kb) ∧ (t = false → kb false C1)) : WW X (.BoolOp .And (a :: b :: rest) pos) env C kb := .of (pw_and pt_tT pw_tW) (eb_and2 h)
theorem ww_or {rest : List Expr} (h : WT X a env C fun t C1 => (t = true → kb true C1) ∧ (t = false → WW X (.BoolOp .Or (b :: rest) pos) env C1 kb)) : WW X (.BoolOp .Or (a :: b :: rest) pos) env C kb := .of (pw_or pt_tT pw_tW) (eb_or2 h)
theorem we_one {op} (h : WE X a env C k) : WE X (.BoolOp op [a] pos) env C k := .of (pe_one pe_tS) h
theorem we_and {rest : List Expr} (h : WE X a env C fun x C1 => ∃ t, x = .bl t ∧ (t = true → WE X (.BoolOp .And (b :: rest) pos) env C1 k) ∧ (t = false → k (.bl false) C1)) : WE X (.BoolOp .And (a :: b :: rest) pos) env C k := .of (pe_and pe_tS pe_tS) (ev_andV h)
theorem we_or {rest : List Expr} (h : WE X a env C fun x C1 => ∃ t, x = .bl t ∧ (t = true → k (.bl true) C1) ∧ (t = false → WE X (.BoolOp .Or (b :: rest) pos) env C1 k)) : WE X (.BoolOp .Or (a :: b :: rest) pos) env C k := .of (pe_or pe_tS pe_tS) (ev_orV h)
theorem we_not (h : WE X a env C fun x C1 => ∃ t, x = .bl t ∧ k (.bl (!t)) C1) : WE X (.UnaryOp .Not a pos) env C k := .of (pe_not pe_tS) (ev_notV h)
theorem we_if {c : Expr} (h : WT X c env C fun t C1 => (t = true → WE X a env C1 k) ∧ (t = false → WE X b env C1 k)) : WE X (.IfExp c a b pos) env C k := .of (pe_ifExp pt_tT pe_tS pe_tS) (ev_if h)
theorem wa_nil (h : ka [] C) : WA X [] env C ka := .of pa_nil (ea_nil h)
theorem we_tup {x1} (h : WA X es env C fun ds C1 => ds.length ≤ sizeLine ∧ k (.tup ds) C1) : WE X (.Tuple es x1 pos) env C k := .of (pe_tup pa_tAr) (ev_tup h)
theorem we_lst (h : WA X es env C fun ds C1 => ds.length ≤ sizeLine ∧ ∀ p, C1 p = none → k (.own p) (put C1 p (.lst ds))) : WE X (.List es pos) env C k := .of (pe_lst pa_tAr) (ev_lst h)
theorem we_lstF (h : WA X es env C fun ds C1 => ds.length ≤ sizeLine ∧ k (.lst ds) C1) : WE X (.List es pos) env C k := .of (pe_lst pa_tAr) (ev_lstF h)
end
end DL
/-! DLd: operators, subscripts, built-in calls and methods by data; statements; loops; calls of defs. -/
namespace DL
open PySem PySem.Spec PyProof.Rows L2

section
variable {K : PySem.W.Frag}
/-! ### operators -/
def dI2 (f : Int → Int → Int) (P : Int → Int → Prop) : OpD := fun x y C k => ∃ i j, x = .int i ∧ y = .int j ∧ P i j ∧ k (.int (f i j)) C
theorem r2_I {f : Int → Int → Int} {P : Int → Int → Prop} : R2D K (rI P fun i j => .int (f i j)) (dI2 f P) := by
  rintro x y a b G C H k Q w da db ⟨i, j, rfl, rfl, hp, hk⟩ q
  cases da; cases db
  exact ⟨i, j, rfl, rfl, hp, q _ _ _ _ _ (Fr.refl ..) w (.int _) hk⟩
theorem r2_I0 {f : Int → Int → Int} : R2D K (rI0 fun i j => .int (f i j)) (dI2 f fun _ _ => True) := by
  rintro x y a b G C H k Q w da db ⟨i, j, rfl, rfl, hp, hk⟩ q
  cases da; cases db
  exact ⟨i, j, rfl, rfl, q _ _ _ _ _ (Fr.refl ..) w (.int _) hk⟩
def dB2 (f : Int → Int → Bool) : OpD := fun x y C k => ∃ i j, x = .int i ∧ y = .int j ∧ k (.bl (f i j)) C
theorem r2_B {f : Int → Int → Bool} : R2D K (rI0 fun i j => .bl (f i j)) (dB2 f) := by
  rintro x y a b G C H k Q w da db ⟨i, j, rfl, rfl, hk⟩ q
  cases da; cases db
  exact ⟨i, j, rfl, rfl, q _ _ _ _ _ (Fr.refl ..) w (.bl _) hk⟩
/-- + of ints, texts, tuples, lists -/
def dAdd : OpD := fun x y C k => match x, y with
  | .int i, .int j => k (.int (i + j)) C
  | .str a, .str b => a.length + b.length ≤ sizeLine ∧ k (.str (a ++ b)) C
  | .tup xs, .tup ys => xs.length + ys.length ≤ sizeLine ∧ k (.tup (xs ++ ys)) C
  | x, y => ∃ xs ys, seqL C x = some xs ∧ seqL C y = some ys ∧ xs.length + ys.length ≤ sizeLine ∧ ∀ p, C p = none → k (.own p) (put C p (.lst (xs ++ ys)))
def rAddA (K : PySem.W.Frag) : R2 := fun x y H Q => (∃ i j, x = .int i ∧ y = .int j ∧ Q (.int (i + j)) H) ∨ (∃ i j, x = .str i ∧ y = .str j ∧ i.length + j.length ≤ sizeLine ∧ Q (.str (i ++ j)) H) ∨ rCatA K x y H Q ∨ rCat x y H Q
theorem op_addA {X : Cx} : OpR X (binaryOp .Add) (rAddA X.K) := OpR.or op_add (OpR.or op_add_str (OpR.or op_catA op_cat))
theorem seqL_ints {C : CS} {x : D} {xs : List D} (h : seqL C x = some xs) : (∀ i, x ≠ .int i) ∧ (∀ s, x ≠ .str s) ∧ ∀ ts, x ≠ .tup ts := by
  refine ⟨fun i e => ?_, fun i e => ?_, fun i e => ?_⟩ <;> (subst e; simp [seqL] at h)
theorem catL {x y : V} {a b : D} {xs ys : List D} {G : Hp} {C : CS} {H : Hp} {k : KD} {Q : VK} (w : Wld K G C H) (da : Dat K G x a) (db : Dat K G y b) (e1 : seqL C a = some xs) (e2 : seqL C b = some ys) (hl : xs.length + ys.length ≤ sizeLine)
    (hk : ∀ p, C p = none → k (.own p) (put C p (.lst (xs ++ ys)))) (q : Kont K G C H k Q) : rCat x y H Q := by
  obtain ⟨l, vs, rfl, h1, r1⟩ := w.lst da e1
  obtain ⟨m, us, rfl, h2, r2⟩ := w.lst db e2
  refine ⟨l, m, vs, us, rfl, rfl, h1, h2, by rw [r1.length, r2.length]; exact hl, fun p hp => ?_⟩
  obtain ⟨w2, f2⟩ := w.newC hp (o := .lst (vs ++ us)) (c := .lst (xs ++ ys)) fun H' e => ⟨_, e, r1.append r2⟩
  exact q _ _ _ _ _ f2 w2 (.own p) (hk p (w.ne hp).2)
theorem r2_add : R2D K (rAddA K) dAdd := by
  intro x y a b G C H k Q w da db h q
  unfold dAdd at h
  split at h
  · cases da; cases db
    exact .inl ⟨_, _, rfl, rfl, q _ _ _ _ _ (Fr.refl ..) w (.int _) h⟩
  · cases da; cases db
    exact .inr (.inl ⟨_, _, rfl, rfl, h.1, q _ _ _ _ _ (Fr.refl ..) w (.str _) h.2⟩)
  · rename_i xs ys
    obtain ⟨l, vs, rfl, h1, r1⟩ := w.tup da
    obtain ⟨m, us, rfl, h2, r2⟩ := w.tup db
    refine .inr (.inr (.inl ⟨l, m, vs, us, rfl, rfl, h1, h2, by rw [r1.length, r2.length]; exact h.1, fun e => ?_, fun _ e => ?_, fun _ _ p hp => ?_⟩))
    · subst e; cases xs with
      | nil => exact q _ _ _ _ _ (Fr.refl ..) w db h.2
      | cons _ _ => cases r1
    · subst e; cases ys with
      | nil => exact q _ _ _ _ _ (Fr.refl ..) w da (by simpa using h.2)
      | cons _ _ => cases r2
    · obtain ⟨w2, f2, s2⟩ := w.newG hp (.tup (vs ++ us))
      exact q _ _ _ _ _ f2 w2 (.tup (SqT.of upd_same) ((r1.append r2).mono s2)) h.2
  · obtain ⟨xs, ys, e1, e2, hl, hk⟩ := h
    exact .inr (.inr (.inr (catL w da db e1 e2 hl hk q)))
theorem add_lst {x y : D} {C : CS} {k : KD} {xs ys : List D} (e1 : seqL C x = some xs) (e2 : seqL C y = some ys) (hl : xs.length + ys.length ≤ sizeLine) (h : ∀ p, C p = none → k (.own p) (put C p (.lst (xs ++ ys)))) : dAdd x y C k := by
  obtain ⟨n1, n2, n3⟩ := seqL_ints e1
  unfold dAdd
  split
  · exact absurd rfl (n1 _)
  · exact absurd rfl (n2 _)
  · exact absurd rfl (n3 _)
  · exact ⟨xs, ys, e1, e2, hl, h⟩
/-- * of ints; a list by an int -/
def dMul : OpD := fun x y C k => match x, y with
  | .int i, .int j => CMul i j ∧ k (.int (i * j)) C
  | x, .int n => ∃ xs, seqL C x = some xs ∧ -(2 ^ 63) ≤ n ∧ n < 2 ^ 63 ∧ xs.length * n.toNat ≤ sizeLine ∧ ∀ p, C p = none → k (.own p) (put C p (.lst (List.replicate n.toNat xs).flatten))
  | _, _ => False
theorem datAll_rep {G : Hp} {vs : List V} {ds : List D} (r : DatAll K G vs ds) : ∀ n : Nat, DatAll K G (List.replicate n vs).flatten (List.replicate n ds).flatten
  | 0 => .nil
  | n + 1 => by
    rw [List.replicate_succ, List.replicate_succ, List.flatten_cons, List.flatten_cons]
    exact r.append (datAll_rep r n)
def rMulA : R2 := fun x y H Q => rI CMul (fun i j => .int (i * j)) x y H Q ∨ rRep x y H Q
theorem op_mulA {X : Cx} : OpR X (binaryOp .Mult) rMulA := OpR.or op_mul op_rep
theorem r2_mul : R2D K rMulA dMul := by
  intro x y a b G C H k Q w da db h q
  unfold dMul at h
  split at h
  · cases da; cases db
    exact .inl ⟨_, _, rfl, rfl, h.1, q _ _ _ _ _ (Fr.refl ..) w (.int _) h.2⟩
  · obtain ⟨xs, e, h1, h2, h3, h4⟩ := h
    obtain ⟨l, vs, rfl, hH, r1⟩ := w.lst da e
    cases db
    refine .inr ⟨l, _, vs, rfl, rfl, hH, h1, h2, by rw [r1.length]; exact h3, fun p hp => ?_⟩
    obtain ⟨w2, f2⟩ := w.newC hp (o := .lst _) (c := .lst _) fun H' e => ⟨_, e, datAll_rep r1 _⟩
    exact q _ _ _ _ _ f2 w2 (.own p) (h4 p (w.ne hp).2)
  · exact h.elim

/-! ### comparisons -/
def dEq0 (neg : Bool) : OpD := fun x y C k => ∃ a b, pyC C x = some a ∧ pyC C y = some b ∧ SeqAt.shaped a = true ∧ SeqAt.shaped b = true ∧ k (.bl (if neg = true then !PyData.eqv a b else PyData.eqv a b)) C
theorem r2_eq0 : R2D K (rEqD K) (dEq0 false) := by
  rintro x y a b G C H k Q w da db ⟨d, e, h1, h2, h3, h4, h5⟩ q
  exact ⟨d, e, w.dp da h1, w.dp db h2, h3, h4, q _ _ _ _ _ (Fr.refl ..) w (.bl _) h5⟩
theorem r2_ne0 : R2D K (rNeD K) (dEq0 true) := by
  rintro x y a b G C H k Q w da db ⟨d, e, h1, h2, h3, h4, h5⟩ q
  exact ⟨d, e, w.dp da h1, w.dp db h2, h3, h4, q _ _ _ _ _ (Fr.refl ..) w (.bl _) h5⟩
/-- .. of texts, whatever their signs -/
def dEqS (neg : Bool) : OpD := fun x y C k => ∃ s t, x = .str s ∧ y = .str t ∧ k (.bl (if neg = true then !(s == t) else s == t)) C
def dEq (neg : Bool) : OpD := fun x y C k => dEq0 neg x y C k ∨ dEqS neg x y C k
theorem dec_st {s t : Str} : decide (V.str s = V.str t) = (s == t) := by
  by_cases h : s = t
  · subst h; simp
  · simp [h]
theorem r2_eq : R2D K (fun x y H Q => rEqD K x y H Q ∨ rEq x y H Q) (dEq false) := by
  rintro x y a b G C H k Q w da db (h | ⟨s, t, rfl, rfl, h⟩) q
  · exact .inl (r2_eq0 x y a b G C H k Q w da db h q)
  · cases da; cases db
    refine .inr ⟨rfl, ?_⟩
    rw [dec_st]
    exact q _ _ _ _ _ (Fr.refl ..) w (.bl _) h
theorem r2_ne : R2D K (fun x y H Q => rNeD K x y H Q ∨ rNe x y H Q) (dEq true) := by
  rintro x y a b G C H k Q w da db (h | ⟨s, t, rfl, rfl, h⟩) q
  · exact .inl (r2_ne0 x y a b G C H k Q w da db h q)
  · cases da; cases db
    refine .inr ⟨rfl, ?_⟩
    rw [dec_st]
    exact q _ _ _ _ _ (Fr.refl ..) w (.bl _) h
/-- is None -/
def dIsN (neg : Bool) : OpD := fun x y C k => y = .non ∧ match x with
  | .opq _ => False
  | .non => k (.bl (!neg)) C
  | _ => k (.bl neg) C
theorem r2_isN : R2D K (fun x y H Q => y = .non ∧ Q (.bl (decide (x = .non))) H) (dIsN false) := by
  rintro x y a b G C H k Q w da db ⟨rfl, h⟩ q
  cases db
  refine ⟨rfl, ?_⟩
  cases da <;> first | exact h.elim | exact q _ _ _ _ _ (Fr.refl ..) w (.bl _) h
theorem r2_notN : R2D K (fun x y H Q => y = .non ∧ Q (.bl (!decide (x = .non))) H) (dIsN true) := by
  rintro x y a b G C H k Q w da db ⟨rfl, h⟩ q
  cases db
  refine ⟨rfl, ?_⟩
  cases da <;> first | exact h.elim | exact q _ _ _ _ _ (Fr.refl ..) w (.bl _) h
/-- in, not in: a list of data; one sign in a text -/
def dInL (neg : Bool) : OpD := fun x y C k => ∃ a ds, pyC C x = some a ∧ pyC C y = some (.list ds) ∧ SeqAt.shaped a = true ∧ SeqAt.shaped (.list ds) = true ∧ k (.bl (if neg = true then !ds.any fun z => PyData.eqv z a else ds.any fun z => PyData.eqv z a)) C
theorem r2_inL : R2D K (rInD K) (dInL false) := by
  rintro x y a b G C H k Q w da db ⟨d, e, h1, h2, h3, h4, h5⟩ q
  exact ⟨d, e, w.dp da h1, w.dp db h2, h3, h4, q _ _ _ _ _ (Fr.refl ..) w (.bl _) h5⟩
theorem r2_ninL : R2D K (rNotInD K) (dInL true) := by
  rintro x y a b G C H k Q w da db ⟨d, e, h1, h2, h3, h4, h5⟩ q
  exact ⟨d, e, w.dp da h1, w.dp db h2, h3, h4, q _ _ _ _ _ (Fr.refl ..) w (.bl _) h5⟩
def dInS (neg : Bool) : OpD := fun x y C k => ∃ (c : Nat) (z : Str), x = .str ⟨#[c]⟩ ∧ y = .str z ∧ k (.bl (if neg = true then !decide (c ∈ z.cps.toList) else decide (c ∈ z.cps.toList))) C
theorem r2_inS : R2D K (fun x y H Q => ∃ (c : Nat) (z : Str), x = .str ⟨#[c]⟩ ∧ y = .str z ∧ Q (.bl (decide (c ∈ z.cps.toList))) H) (dInS false) := by
  rintro x y a b G C H k Q w da db ⟨c, z, rfl, rfl, h⟩ q
  cases da; cases db
  exact ⟨c, z, rfl, rfl, q _ _ _ _ _ (Fr.refl ..) w (.bl _) h⟩
theorem r2_ninS : R2D K (fun x y H Q => ∃ (c : Nat) (z : Str), x = .str ⟨#[c]⟩ ∧ y = .str z ∧ Q (.bl (!decide (c ∈ z.cps.toList))) H) (dInS true) := by
  rintro x y a b G C H k Q w da db ⟨c, z, rfl, rfl, h⟩ q
  cases da; cases db
  exact ⟨c, z, rfl, rfl, q _ _ _ _ _ (Fr.refl ..) w (.bl _) h⟩

/-! ### subscripts -/
def dIx : OpD := fun x y C k => match x, y with
  | .tup xs, .int i => ∃ d, atI xs i = some d ∧ k d C
  | .str z, .int i => z.length ≤ sizeLine ∧ ∃ c, atI z.cps.toList i = some c ∧ k (.str ⟨#[c]⟩) C
  | x, .int i => ∃ xs d, seqR C x = some xs ∧ atI xs i = some d ∧ k d C
  | _, _ => False
theorem datAll_at {G : Hp} {vs : List V} {ds : List D} {i : Int} {d : D} (r : DatAll K G vs ds) (h : atI ds i = some d) : ∃ v, atI vs i = some v ∧ Dat K G v d := by
  unfold atI at h ⊢
  rw [r.length]
  cases q : ixN ds.length i with
  | none => rw [q] at h; cases h
  | some j =>
    rw [q] at h
    exact r.get (show ds[j]? = some d from h)
theorem r2_ix : R2D K (rIx K) dIx := by
  intro x y a b G C H k Q w da db h q
  unfold dIx at h
  split at h
  · obtain ⟨d, h1, h2⟩ := h
    obtain ⟨l, vs, rfl, h3, r1⟩ := w.tup da
    cases db
    obtain ⟨v, h4, h5⟩ := datAll_at r1 h1
    exact .inr (.inl ⟨l, vs, _, v, rfl, rfl, h3, h4, q _ _ _ _ _ (Fr.refl ..) w h5 h2⟩)
  · obtain ⟨hz, c, h1, h2⟩ := h
    cases da; cases db
    exact .inr (.inr ⟨_, _, c, rfl, rfl, hz, h1, q _ _ _ _ _ (Fr.refl ..) w (.str _) h2⟩)
  · obtain ⟨xs, d, e, h1, h2⟩ := h
    obtain ⟨l, vs, rfl, h3, r1⟩ := w.seq da e
    cases db
    obtain ⟨v, h4, h5⟩ := datAll_at r1 h1
    exact .inl ⟨l, vs, _, v, rfl, rfl, h3, h4, q _ _ _ _ _ (Fr.refl ..) w h5 h2⟩
  · exact h.elim
def cutD (xs : List D) (lo hi : Option Int) : List D := (xs.drop (HT.sIx xs.length 0 lo)).take (HT.sIx xs.length xs.length hi - HT.sIx xs.length 0 lo)
theorem cut_datAll {G : Hp} {vs : List V} {ds : List D} (r : DatAll K G vs ds) (lo hi : Option Int) : DatAll K G (cutV vs lo hi) (cutD ds lo hi) := by
  unfold cutV cutD
  rw [r.length]
  exact (r.drop _).take _
def dSl (x : D) (lo hi : Option Int) (C : CS) (k : KD) : Prop := match x with
  | .tup xs => k (.tup (cutD xs lo hi)) C
  | .str z => z.length ≤ sizeLine ∧ k (.str (cutS z lo hi)) C
  | x => ∃ xs, seqR C x = some xs ∧ ∀ p, C p = none → k (.own p) (put C p (.lst (cutD xs lo hi)))
def rSlAll (K : PySem.W.Frag) : V → Option Int → Option Int → Hp → VK → Prop := fun x lo hi H Q => rSlL K x lo hi H Q ∨ (rSlS x lo hi H Q ∨ rSlA K x lo hi H Q)
theorem sl_all {X : Cx} : SlR X (rSlAll X.K) := SlR.or sl_list (SlR.or sl_str sl_tupA)
theorem sl_ok {x : V} {a : D} {lo hi : Option Int} {G : Hp} {C : CS} {H : Hp} {k : KD} {Q : VK} (w : Wld K G C H) (da : Dat K G x a) (h : dSl a lo hi C k) (q : Kont K G C H k Q) : rSlAll K x lo hi H Q := by
  unfold dSl at h
  split at h
  · rename_i xs
    obtain ⟨l, vs, rfl, h3, r1⟩ := w.tup da
    refine .inr (.inr ⟨l, vs, rfl, h3, fun e => ?_, fun _ p hp => ?_⟩)
    · rw [r1.length] at e
      have : cutD xs lo hi = xs := by
        unfold cutD
        rw [e.1, e.2]
        simp
      rw [this] at h
      exact q _ _ _ _ _ (Fr.refl ..) w da h
    · obtain ⟨w2, f2, s2⟩ := w.newG hp (.tup (cutV vs lo hi))
      exact q _ _ _ _ _ f2 w2 (.tup (SqT.of upd_same) ((cut_datAll r1 lo hi).mono s2)) h
  · cases da
    exact .inr (.inl ⟨_, rfl, h.1, q _ _ _ _ _ (Fr.refl ..) w (.str _) h.2⟩)
  · obtain ⟨xs, e, h⟩ := h
    obtain ⟨l, vs, rfl, h3, r1⟩ := w.seq da e
    refine .inl ⟨l, vs, rfl, h3, fun p hp => ?_⟩
    obtain ⟨w2, f2⟩ := w.newC hp (o := .lst (cutV vs lo hi)) (c := .lst (cutD xs lo hi)) fun H' e => ⟨_, e, cut_datAll r1 lo hi⟩
    exact q _ _ _ _ _ f2 w2 (.own p) (h p (w.ne hp).2)
end
section
variable {X : Cx} {e a b : Expr} {es : List Expr} {env : DEnv} {C : CS} {k : KD} {kb : Bool → CS → Prop} {ka : List D → CS → Prop} {pos : Pos}
theorem we_ix (h : WE X a env C fun x C1 => WE X b env C1 fun y C2 => dIx x y C2 k) (hs : PlainIx b := by intro _ _; rfl) : WE X (.Subscript a b pos) env C k := .of (pe_ix ix_seq pe_tS pe_tS hs) (ev_op r2_ix h)
/-- a part of a slice -/
def WO (X : Cx) (e : Option Expr) (env : DEnv) (C : CS) (k : Option Int → CS → Prop) : Prop := match e with
  | none => k none C
  | some e => WE X e env C fun d C1 => ∃ i, d = .int i ∧ k (some i) C1
def tO (X : Cx) (e : Option Expr) : TO := match e with
  | none => tNoPart
  | some e => tPart (tS X e)
theorem po_tO {o : Option Expr} : PO X o (tO X o) := by
  cases o with
  | none => exact po_none
  | some e => exact po_some pe_tS
theorem wo_use {o : Option Expr} {ko : Option Int → CS → Prop} (h : WO X o env C ko) {G : Hp} {σ : L2.St} {H : Hp} {Q : Option Int → Hp → Prop} (w : Wld X.K G C H) (er : EnvR X.K G env σ) (q : ∀ i G' C' H', Fr G C H G' C' H' → Wld X.K G' C' H' → ko i C' → Q i H') : tO X o σ H Q := by
  cases o with
  | none => exact q none G C H (Fr.refl ..) w h
  | some e =>
    refine h G σ H _ w er fun v G' C' H' d f w' r z => ?_
    obtain ⟨i, rfl, z⟩ := z
    cases r
    exact ⟨i, rfl, q _ _ _ _ f w' z⟩
theorem we_slice {lo hi : Option Expr} {p2 : Pos} (h : WE X a env C fun x C1 => WO X lo env C1 fun l C2 => WO X hi env C2 fun u C3 => dSl x l u C3 k) : WE X (.Subscript a (.Slice lo hi none p2) pos) env C k :=
  .of (pe_slice sl_all pe_tS po_tO po_tO) fun G σ H Q w er q => h G σ H _ w er fun v G1 C1 H1 x f1 w1 d1 h1 =>
    wo_use h1 w1 (er.mono f1.exG) fun l G2 C2 H2 f2 w2 h2 => wo_use h2 w2 (er.mono (f1.trans f2).exG) fun u G3 C3 H3 f3 w3 h3 =>
      sl_ok w3 (d1.mono (f2.trans f3).exG) h3 (q.after ((f1.trans f2).trans f3))
theorem wa_cons (h : WE X e env C fun x C1 => WA X es env C1 fun ds C2 => ka (x :: ds) C2) (hs : starEach (e :: es) X.env = (false, eval e X.env) :: starEach es X.env := by rfl) : WA X (e :: es) env C ka := .of (pa_cons pe_tS pa_tAr hs) (ea_cons h)

/-! ### built-in calls -/
theorem we_cb {x : Str} {id : String} {p0 : Pos} {r : List V → Hp → VK → Prop} {p : List D → CS → KD → Prop} (hm : X.mg x = none) (hc : CallR X (.builtin id) r) (hr : RLD X.K r p) (hg : Gl X x) (hv : bootBuiltins x = some (.builtin id)) (h : WA X (e :: es) env C fun ds C1 => p ds C1 k)
    (hn : x ≠ "__name__" := by decide) (hdb : (x == ("__debug__" : Str)) = false := by decide)
    (he : starEach (e :: es) X.env = (false, eval e X.env) :: starEach es X.env := by rfl) (hpl : (backTo pos (starEach es X.env)).any (·.1) = false := by rfl) : WE X (.Call (.Name x p0) (e :: es) [] pos) env C k :=
  .of (pe_callB hc hg hm hv pa_tAr hn hdb he hpl) (ev_cb hr h)
theorem we_ct {x : Str} {T : String} {p0 : Pos} {r : List V → Hp → VK → Prop} {p : List D → CS → KD → Prop} (hm : X.mg x = none) (hc : CallR X (.type T) r) (hr : RLD X.K r p) (hg : Gl X x) (hv : bootBuiltins x = some (.type T)) (h : WA X (e :: es) env C fun ds C1 => p ds C1 k)
    (hn : x ≠ "__name__" := by decide) (hdb : (x == ("__debug__" : Str)) = false := by decide)
    (he : starEach (e :: es) X.env = (false, eval e X.env) :: starEach es X.env := by rfl) (hpl : (backTo pos (starEach es X.env)).any (·.1) = false := by rfl) : WE X (.Call (.Name x p0) (e :: es) [] pos) env C k :=
  .of (pe_callTy hc hg hm hv pa_tAr hn hdb he hpl) (ev_cb hr h)
end
end DL
/-! DLe: statements, loops, comprehensions, calls of defs. -/
namespace DL
open PySem PySem.Spec PyProof.Rows L2

section
variable {X : Cx} {e a b : Expr} {es : List Expr} {st : Stmt} {sts rest : List Stmt} {env : DEnv} {C : CS} {k : KD} {kb : Bool → CS → Prop} {ka : List D → CS → Prop} {pos : Pos} {E : DEnds}

/-! ### statements -/
theorem wss_nil (h : E.nx env C) : WSs X [] env C E := .of pss_nil fun G σ H D w er q => q.nx G C H σ env (Fr.refl ..) w er h
theorem wss_cons (h : WS X st env C { E with nx := fun env' C' => WSs X rest env' C' E }) : WSs X (st :: rest) env C E :=
  .of (pss_cons ps_tX pss_tXs) fun G σ H D w er q => h G σ H { D with nx := tXs X rest D } w er
    ⟨fun G1 C1 H1 σ1 env1 f1 w1 er1 h1 => h1 G1 σ1 H1 D w1 er1 (q.after f1), q.rt, q.bk, q.ct⟩
theorem ws_pass (h : E.nx env C) : WS X (.Pass pos) env C E := .of ps_pass fun G σ H D w er q => q.nx G C H σ env (Fr.refl ..) w er h
theorem ws_break (h : E.bk env C) : WS X (.Break pos) env C E := .of ps_break fun G σ H D w er q => q.bk G C H σ env (Fr.refl ..) w er h
theorem ws_continue (h : E.ct env C) : WS X (.Continue pos) env C E := .of ps_continue fun G σ H D w er q => q.ct G C H σ env (Fr.refl ..) w er h
theorem ws_expr (h : WE X e env C fun _ C1 => E.nx env C1) (hs : swapsWith e none pos.line X.env = pure false := by rfl) : WS X (.Expr e pos) env C E :=
  .of (ps_expr pe_tS hs) fun G σ H D w er q => h G σ H _ w er fun v G1 C1 H1 d f1 w1 r1 z => q.nx G1 C1 H1 σ env f1 w1 (er.mono f1.exG) z
theorem ws_ret (h : WE X e env C E.rt) : WS X (.Return (some e) pos) env C E := .of (ps_ret pe_tS) fun G σ H D w er q => h G σ H _ w er q.rt
theorem ws_retN (h : E.rt .non C) : WS X (.Return none pos) env C E := .of ps_retN fun G σ H D w er q => q.rt .non G C H .non (Fr.refl ..) w .non h
theorem ws_if {c : Expr} {s1 s2 : List Stmt} (h : WT X c env C fun t C1 => (t = true → WSs X s1 env C1 E) ∧ (t = false → WSs X s2 env C1 E)) : WS X (.If c s1 s2 pos) env C E :=
  .of (ps_if pt_tT pss_tXs pss_tXs) fun G σ H D w er q => h G σ H _ w er fun b G1 C1 H1 f1 w1 hb => by
    cases b with
    | true => exact iteT (hb.1 rfl G1 σ H1 D w1 (er.mono f1.exG) (q.after f1))
    | false => exact iteF (hb.2 rfl G1 σ H1 D w1 (er.mono f1.exG) (q.after f1))
/-! ### targets -/
def EvG (K : PySem.W.Frag) (g : TG) (d : D) (env : DEnv) (C : CS) (k : DEnv → CS → Prop) : Prop := ∀ G σ H v Q, Wld K G C H → EnvR K G env σ → Dat K G v d → KontE K G C H k Q → g v σ H Q
def tGt (X : Cx) (target : Expr) : TG := fun v σ H Q => ∀ pins s u, Inv X pins σ H s → RelV v u → wpAny (model X.prog X.w) X.A (assign target X.env u) (fun _ s' => ∃ σ' H', Inv X pins σ' H' s' ∧ Q σ' H') X.xe s
theorem pg_tGt {tg : Expr} : PG X tg (tGt X tg) := ⟨fun pins s σ H v u Q I r h => h pins s u I r⟩
def tGts (X : Cx) (ts : List Expr) : TGs := fun vs σ H Q => ∀ pins s us, Inv X pins σ H s → Vals vs us → wpAny (model X.prog X.w) X.A (assignInOrder ((assignEach ts X.env).map (·.2)) us) (fun _ s' => ∃ σ' H', Inv X pins σ' H' s' ∧ Q σ' H') X.xe s
theorem pgs_tGts {ts : List Expr} : PGs X ts (tGts X ts) := ⟨fun pins s σ H vs us Q I r h => h pins s us I r⟩
def WG (X : Cx) (tg : Expr) (d : D) (env : DEnv) (C : CS) (k : DEnv → CS → Prop) : Prop := EvG X.K (tGt X tg) d env C k
def WGs (X : Cx) (ts : List Expr) (ds : List D) (env : DEnv) (C : CS) (k : DEnv → CS → Prop) : Prop := ∀ G σ H vs Q, Wld X.K G C H → EnvR X.K G env σ → DatAll X.K G vs ds → KontE X.K G C H k Q → tGts X ts vs σ H Q
theorem WG.of {tg : Expr} {g : TG} {d : D} {kE : DEnv → CS → Prop} (h : PG X tg g) (hv : EvG X.K g d env C kE) : WG X tg d env C kE := fun G σ H v Q w er r q pins s u I ru => h.run pins s σ H v u Q I ru (hv G σ H v Q w er r q)
theorem wg_name {i : Nat} {x : Str} {d : D} {kE : DEnv → CS → Prop} (hN : X.N.Nodup) (hi : X.N[i]? = some x) (hx : Loc X.env.scope x) (h : kE (env.set i (some d)) C) (hf : X.fn x = true ∨ X.env.scope.names.lookup x = some .local := by first | exact .inl rfl | exact .inr rfl | assumption) : WG X (.Name x pos) d env C kE :=
  .of (pg_name hN hi hx hf) fun G σ H v Q w er r q => q G C H _ _ (Fr.refl ..) w (er.set i r) h
theorem wgs_nil {kE : DEnv → CS → Prop} (h : kE env C) : WGs X [] [] env C kE := fun G σ H vs Q w er r q pins s us I ru => by
  cases r; cases ru
  exact (pgs_nil (X := X)).run pins s σ H [] [] Q I .nil ⟨rfl, q G C H σ env (Fr.refl ..) w er h⟩
theorem wgs_cons {t : Expr} {ts : List Expr} {d : D} {ds : List D} {kE : DEnv → CS → Prop} (h : WG X t d env C fun env1 C1 => WGs X ts ds env1 C1 kE) (hs : (assignEach (t :: ts) X.env).map (·.2) = assign t X.env :: (assignEach ts X.env).map (·.2) := by rfl) : WGs X (t :: ts) (d :: ds) env C kE := fun G σ H vs Q w er r q pins s us I ru => by
  cases r with
  | @cons v vr _ _ r1 r2 =>
    refine (pgs_cons (X := X) pg_tGt pgs_tGts hs).run pins s σ H (v :: vr) us Q I ru ⟨v, vr, rfl, ?_⟩
    exact h G σ H v _ w er r1 fun G1 C1 H1 σ1 env1 f1 w1 er1 h1 => h1 G1 σ1 H1 vr Q w1 er1 (r2.mono f1.exG) (q.after f1)
theorem wg_tup {ts : List Expr} {n : Nat} {ds : List D} {kE : DEnv → CS → Prop} (hc : X.calm = true) (hl : ds.length = (assignEach ts X.env).length) (h : WGs X ts ds env C kE) (hst : (assignEach ts X.env).findIdx? (·.1) = none := by rfl) : WG X (.Tuple ts n pos) (.tup ds) env C kE :=
  .of (pg_tup hc pgs_tGts rfl hst) fun G σ H v Q w er r q => by
    cases r with
    | tup h1 h2 => exact ⟨_, _, rfl, Same.sqT w.ex h1, by rw [h2.length]; exact hl, h G σ H _ Q w er h2 q⟩
theorem ws_asg {tg : Expr} (h : WE X e env C fun d C1 => WG X tg d env C1 E.nx) (hs : swapsWithSole [tg] e pos.line X.env = pure false := by rfl) (hw : swappedStores [tg] e X.env = pure none := by rfl)
    (h1 : (assignEach [tg] X.env).map (·.2) = [assign tg X.env] := by rfl) : WS X (.Assign [tg] e pos) env C E :=
  .of (ps_asg pe_tS pg_tGt hs hw h1) fun G σ H D w er q => h G σ H _ w er fun v G1 C1 H1 d f1 w1 r1 z => z G1 σ H1 v _ w1 (er.mono f1.exG) r1 (q.nx.after f1)
/-- name = value -/
theorem ws_set {i : Nat} {x : Str} {pos' : Pos} (hN : X.N.Nodup) (hi : X.N[i]? = some x) (hx : Loc X.env.scope x) (h : WE X e env C fun d C1 => E.nx (env.set i (some d)) C1) (hs : swapsWith e (some (.Name x pos')) pos.line X.env = pure false := by rfl) (hf : X.fn x = true ∨ X.env.scope.names.lookup x = some .local := by first | exact .inl rfl | exact .inr rfl | assumption) :
    WS X (.Assign [.Name x pos'] e pos) env C E :=
  .of (ps_set hN hi hx pe_tS hs hf) fun G σ H D w er q => h G σ H _ w er fun v G1 C1 H1 d f1 w1 r1 z => q.nx G1 C1 H1 _ _ f1 w1 ((er.mono f1.exG).set i r1) z
/-- a, b = x, y: two plain local names -/
theorem ws_par {i j : Nat} {x y : Str} {px py pt : Pos} {kt k2 : Nat} {pt2 : Pos} (hc : X.calm = true) (hN : X.N.Nodup) (hi : X.N[i]? = some x) (hj : X.N[j]? = some y) (hij : i ≠ j)
    (hx : X.env.scope.names.lookup x = some .local) (hy : X.env.scope.names.lookup y = some .local) (h : WA X [a, b] env C fun ds C1 => ∃ u v, ds = [u, v] ∧ E.nx ((env.set i (some u)).set j (some v)) C1)
    (hw : swappedStores [.Tuple [.Name x px, .Name y py] kt pt] (.Tuple [a, b] k2 pt2) X.env = pure (some [x, y]))
    (hs : swapsWithSole [.Tuple [.Name x px, .Name y py] kt pt] (.Tuple [a, b] k2 pt2) pos.line X.env = pure false := by rfl) :
    WS X (.Assign [.Tuple [.Name x px, .Name y py] kt pt] (.Tuple [a, b] k2 pt2) pos) env C E :=
  .of (ps_par hc hN hi hj hij hx hy pa_tAr hw hs) fun G σ H D w er q => h G σ H _ w er fun vs G1 C1 H1 ds f1 w1 r1 z => by
    obtain ⟨u, v, rfl, z⟩ := z
    cases r1 with
    | @cons u' _ _ _ r1 r2 =>
      cases r2 with
      | @cons v' _ _ _ r2 r3 =>
        cases r3
        exact ⟨u', v', rfl, q.nx G1 C1 H1 _ _ f1 w1 (((er.mono f1.exG).set i r1).set j r2) z⟩
/-- name op= value -/
def RID (K : PySem.W.Frag) (r : TIp) (p : OpD) : Prop := R2D K r p
theorem ws_aug {i : Nat} {x : Str} {op : Operator} {ti : TIp} {p : OpD} {d : D} {pos' : Pos} (hN : X.N.Nodup) (hi : X.N[i]? = some x) (hx : Loc X.env.scope x) (ho : PIp X op ti) (hr : RID X.K ti p) (he : env[i]? = some (some d)) (h : WE X e env C fun y C1 => p d y C1 fun z C2 => E.nx (env.set i (some z)) C2)
    (hf : X.fn x = true ∨ X.env.scope.names.lookup x = some .local := by first | exact .inl rfl | exact .inr rfl | assumption) : WS X (.AugAssign (.Name x pos') op e pos) env C E :=
  .of (ps_aug hN hi hx pe_tS ho hf) fun G σ H D w er q => by
    obtain ⟨v, h1, h2⟩ := er.2 i d he
    refine ⟨v, h1, ?_⟩
    exact h G σ H _ w er fun y' G1 C1 H1 y f1 w1 r1 z => hr v y' d y G1 C1 H1 _ _ w1 (h2.mono f1.exG) r1 z fun z' G2 C2 H2 z f2 w2 r2 hz => q.nx G2 C2 H2 _ _ (f1.trans f2) w2 ((er.mono (f1.trans f2).exG).set i r2) hz
/-- o[i] = value, a list -/
theorem set_ok {p : Addr} {xs : List D} {G : Hp} {H : Hp} {n : Int} {j : Nat} {x i v : V} {d : D} {Q : Hp → Prop} {K : PySem.W.Frag} (w : Wld K G C H) (hp : C p = some (.lst xs)) (hx : Dat K G x (.own p)) (hi : Dat K G i (.int n)) (hv : Dat K G v d) (hj : ixN xs.length n = some j)
    (q : ∀ H', Fr G C H G (put C p (.lst (xs.set j d))) H' → Wld K G (put C p (.lst (xs.set j d))) H' → Q H') : rSetL x i v H Q := by
  cases hx; cases hi
  obtain ⟨_, vs, h1, h2⟩ := w.cell p _ hp
  refine ⟨p, vs, n, j, rfl, rfl, h1, by rw [h2.length]; exact hj, ?_⟩
  obtain ⟨w2, f2⟩ := w.write hp (o := .lst (vs.set j v)) (c' := .lst (xs.set j d)) fun H' e => ⟨_, e, h2.set j hv⟩
  exact q _ f2 w2
theorem wg_setL {o i : Expr} {d : D} {kE : DEnv → CS → Prop} (h : WE X o env C fun x C1 => WE X i env C1 fun y C2 => ∃ p n xs j, x = .own p ∧ y = .int n ∧ C2 p = some (.lst xs) ∧ ixN xs.length n = some j ∧ kE env (put C2 p (.lst (xs.set j d))))
    (ha : ∀ v, assign (.Subscript o i pos) X.env v = (do
      let ov ← holding [v] (eval o X.env)
      let iv ← holding [v, ov] (eval i X.env)
      standAt pos
      holding [v, ov, iv] (setItem ov iv v)
      release [v, ov, iv] []) := by intro _; rfl) : WG X (.Subscript o i pos) d env C kE :=
  .of (pg_sub pe_tS pe_tS set_list ha) fun G σ H v Q w er r q => h G σ H _ w er fun x' G1 C1 H1 x f1 w1 r1 h1 => h1 G1 σ H1 _ w1 (er.mono f1.exG) fun y' G2 C2 H2 y f2 w2 r2 h2 => by
    obtain ⟨p, n, xs, j, rfl, rfl, hp, hj, hk⟩ := h2
    exact set_ok w2 hp (r1.mono f2.exG) r2 (r.mono (f1.trans f2).exG) hj fun H' f3 w3 => q _ _ _ _ _ ((f1.trans f2).trans f3) w3 (er.mono (f1.trans f2).exG) hk

/-! ### while -/
theorem ws_while {c : Expr} {body : List Stmt} (hp : PassesOwn (model X.prog X.w) X.A X.env X.xe) (Iv : Nat → DEnv → CS → Prop) (h0 : ∃ m, Iv m env C)
    (h : ∀ m env C, Iv m env C → WT X c env C fun t C1 => (t = true → WSs X body env C1 { nx := fun env' C' => ∃ m', m' < m ∧ Iv m' env' C', rt := E.rt, bk := E.nx, ct := fun env' C' => ∃ m', m' < m ∧ Iv m' env' C' }) ∧ (t = false → E.nx env C1)) : WS X (.While c body [] pos) env C E :=
  .of (ps_while hp pt_tT pss_tXs) fun G σ H D w er q => by
    obtain ⟨m0, i0⟩ := h0
    refine ⟨fun m σ1 H1 => ∃ G1 C1 env1, Fr G C H G1 C1 H1 ∧ Wld X.K G1 C1 H1 ∧ EnvR X.K G1 env1 σ1 ∧ Iv m env1 C1, ⟨m0, G, C, env, Fr.refl .., w, er, i0⟩, ?_⟩
    rintro m σ1 H1 ⟨G1, C1, env1, f1, w1, er1, i1⟩
    refine h m env1 C1 i1 G1 σ1 H1 _ w1 er1 fun b G2 C2 H2 f2 w2 hb => ?_
    cases b with
    | false => exact iteF (q.nx G2 C2 H2 σ1 env1 (f1.trans f2) w2 (er1.mono f2.exG) (hb.2 rfl))
    | true =>
      refine iteT ⟨fun σ' H' => ∃ m', m' < m ∧ ∃ G1 C1 env1, Fr G C H G1 C1 H' ∧ Wld X.K G1 C1 H' ∧ EnvR X.K G1 env1 σ' ∧ Iv m' env1 C1, fun σ' H' h => h, ?_⟩
      have fin : KontE X.K G2 C2 H2 (fun env' C' => ∃ m', m' < m ∧ Iv m' env' C') (fun σ' H' => ∃ m', m' < m ∧ ∃ G1 C1 env1, Fr G C H G1 C1 H' ∧ Wld X.K G1 C1 H' ∧ EnvR X.K G1 env1 σ' ∧ Iv m' env1 C1) := fun G3 C3 H3 σ3 env3 f3 w3 er3 ⟨m', hm, i3⟩ => ⟨m', hm, G3, C3, env3, (f1.trans f2).trans f3, w3, er3, i3⟩
      exact hb.1 rfl G2 σ1 H2 _ w2 (er1.mono f2.exG) ⟨fin, q.rt.after (f1.trans f2), q.nx.after (f1.trans f2), fin⟩
end

/-! ### what is walked -/
/-- while Pc holds of the cells, the walk J gives these data -/
def IterD (K : PySem.W.Frag) (J : It) (xs : List D) (Pc : CS → Prop) (G : Hp) : Prop := ∀ G' C' H', Same G G' → Wld K G' C' H' → Pc C' →
  (∀ i d, xs[i]? = some d → J.go i H' ∧ ∀ x H2, J.yld i H' x H2 → ∃ G2, Fr G' C' H' G2 C' H2 ∧ Wld K G2 C' H2 ∧ Dat K G2 x d) ∧ (∀ i, xs.length ≤ i → J.stop i H')
abbrev KI := List D → (CS → Prop) → CS → Prop
def EvI (K : PySem.W.Frag) (wi : TI) (env : DEnv) (C : CS) (kI : KI) : Prop := ∀ G σ H R, Wld K G C H → EnvR K G env σ → (∀ J G' C' H' xs Pc, Fr G C H G' C' H' → Wld K G' C' H' → IterD K J xs Pc G' → kI xs Pc C' → R J H') → wi σ H R
def WI (X : Cx) (tg iter : Expr) (env : DEnv) (C : CS) (kI : KI) : Prop := ∃ wi, PI X tg iter wi ∧ EvI X.K wi env C kI
theorem iterD_list {K : PySem.W.Frag} {G : Hp} {a : Addr} {vs : List V} {ds : List D} (h : SqL K G a vs) (r : DatAll K G vs ds) : IterD K (Itl K a) ds (fun _ => True) G := by
  intro G' C' H' e w _
  have hq : SqL K H' a vs := w.ex.seq (e.seq h)
  refine ⟨fun i d hd => ?_, fun i hi => ⟨vs, hq, by rw [r.length]; exact hi⟩⟩
  obtain ⟨v, h1, h2⟩ := r.get hd
  refine ⟨⟨vs, v, hq, h1⟩, ?_⟩
  rintro x H2 ⟨rfl, hx⟩
  have e1 := hx vs hq
  rw [h1] at e1; cases e1
  exact ⟨G', Fr.refl .., w, h2.mono e⟩
theorem iterD_own {K : PySem.W.Frag} {G : Hp} {a : Addr} {ds : List D} : IterD K (Itl K a) ds (fun C => C a = some (.lst ds)) G := by
  intro G' C' H' e w p
  obtain ⟨_, vs, h1, r⟩ := w.cell a _ p
  have hq : SqL K H' a vs := SqL.of h1
  refine ⟨fun i d hd => ?_, fun i hi => ⟨vs, hq, by rw [r.length]; exact hi⟩⟩
  obtain ⟨v, g1, h2⟩ := r.get hd
  refine ⟨⟨vs, v, hq, g1⟩, ?_⟩
  rintro x H2 ⟨rfl, hx⟩
  have e1 := hx vs hq
  rw [g1] at e1; cases e1
  exact ⟨G', Fr.refl .., w, h2⟩
def intsFrom (lo : Int) (n : Nat) : List D := (List.range n).map fun i => D.int (lo + (i : Nat))
theorem intsFrom_get {lo : Int} {n i : Nat} {d : D} (h : (intsFrom lo n)[i]? = some d) : i < n ∧ d = .int (lo + (i : Nat)) := by
  unfold intsFrom at h
  rw [List.getElem?_map] at h
  by_cases hi : i < n
  · rw [List.getElem?_range hi] at h; exact ⟨hi, (Option.some.inj h).symm⟩
  · rw [List.getElem?_eq_none (by simpa using hi)] at h; cases h
theorem intsFrom_length {lo : Int} {n : Nat} : (intsFrom lo n).length = n := by unfold intsFrom; simp
theorem iterD_rng {K : PySem.W.Frag} {G : Hp} {lo : Int} {n : Nat} : IterD K (Itr lo n) (intsFrom lo n) (fun _ => True) G := by
  intro G' C' H' e w _
  refine ⟨fun i d hd => ?_, fun i hi => by rw [intsFrom_length] at hi; exact hi⟩
  obtain ⟨h1, rfl⟩ := intsFrom_get hd
  refine ⟨h1, ?_⟩
  rintro x H2 ⟨rfl, rfl⟩
  exact ⟨G', Fr.refl .., w, .int _⟩
def signsOf (x : Str) : List D := x.cps.toList.map fun c => D.str ⟨#[c]⟩
theorem iterD_str {K : PySem.W.Frag} {G : Hp} {x : Str} : IterD K (Its x) (signsOf x) (fun _ => True) G := by
  intro G' C' H' e w _
  refine ⟨fun i d hd => ?_, fun i hi => show x.cps.size ≤ i by simpa [signsOf] using hi⟩
  unfold signsOf at hd
  rw [List.getElem?_map] at hd
  cases q : x.cps.toList[i]? with
  | none => rw [q] at hd; cases hd
  | some c =>
    rw [q] at hd
    obtain rfl := Option.some.inj hd
    have hc : x.cps[i]? = some c := by simpa using q
    refine ⟨(Array.getElem?_eq_some_iff.mp hc).1, ?_⟩
    rintro v H2 ⟨rfl, c', h1, rfl⟩
    rw [hc] at h1; cases h1
    exact ⟨G', Fr.refl .., w, .str _⟩
section
variable {X : Cx} {e a b : Expr} {es : List Expr} {tg iter : Expr} {body : List Stmt} {env : DEnv} {C : CS} {k : KD} {pos : Pos} {E : DEnds} {kI : KI}
theorem wi_list (h : WE X e env C fun d C1 => (∃ xs, seqR C1 d = some xs ∧ match d with
    | .own a => kI xs (fun C => C a = some (.lst xs)) C1
    | _ => kI xs (fun _ => True) C1)) : WI X tg e env C kI := by
  refine ⟨_, pi_list pe_tS, fun G σ H R w er q => h G σ H _ w er fun v G1 C1 H1 d f1 w1 r1 z => ?_⟩
  obtain ⟨xs, hs, z⟩ := z
  cases r1 with
  | lst x1 x2 =>
    simp [seqR] at hs; subst hs
    exact ⟨_, rfl, ⟨_, w1.ex.seq (SqL.of x1)⟩, q _ _ _ _ _ _ f1 w1 (iterD_list (SqL.of x1) x2) z⟩
  | slst x1 x2 =>
    simp [seqR] at hs; subst hs
    exact ⟨_, rfl, ⟨_, w1.ex.seq x1⟩, q _ _ _ _ _ _ f1 w1 (iterD_list x1 x2) z⟩
  | own a =>
    have hc := own_seqR hs
    obtain ⟨_, vs, y1, y2⟩ := w1.cell a _ hc
    exact ⟨_, rfl, ⟨_, SqL.of y1⟩, q _ _ _ _ _ _ f1 w1 iterD_own z⟩
  | _ => simp [seqR] at hs
theorem wi_str (h : WE X e env C fun d C1 => ∃ x, d = .str x ∧ kI (signsOf x) (fun _ => True) C1) : WI X tg e env C kI := by
  refine ⟨_, pi_str pe_tS, fun G σ H R w er q => h G σ H _ w er fun v G1 C1 H1 d f1 w1 r1 z => ?_⟩
  obtain ⟨x, rfl, z⟩ := z
  cases r1
  exact ⟨_, rfl, q _ _ _ _ _ _ f1 w1 iterD_str z⟩
theorem wi_range1 {p : Pos} (hm : X.mg "range" = none) (hg : Gl X "range") (h : WA X [a] env C fun ds C1 => ∃ j : Int, ds = [.int j] ∧ -(2 ^ 62) ≤ j ∧ j < 2 ^ 62 ∧ kI (intsFrom 0 j.toNat) (fun _ => True) C1) (hs : starEach [a] X.env = [(false, eval a X.env)] := by rfl) :
    WI X tg (.Call (.Name "range" p) [a] [] pos) env C kI := by
  refine ⟨_, pi_range1 hg hm pa_tAr hs, fun G σ H R w er q => h G σ H _ w er fun v G1 C1 H1 d f1 w1 r1 z => ?_⟩
  obtain ⟨j, rfl, z1, z2, z⟩ := z
  cases r1 with
  | cons r1 r2 => cases r1; cases r2; exact ⟨j, rfl, z1, z2, q _ _ _ _ _ _ f1 w1 iterD_rng z⟩
/-- for: an invariant over the turn -/
theorem ws_for (hp : PassesOwn (model X.prog X.w) X.A X.env X.xe) (hc : X.calm = true)
    (h : WI X tg iter env C fun xs Pc C1 => ∃ Iv : Nat → DEnv → CS → Prop, Iv 0 env C1 ∧ (∀ i env C, Iv i env C → Pc C) ∧
      (∀ i d env C, xs[i]? = some d → Iv i env C → WG X tg d env C fun env' C' => WSs X body env' C' { nx := Iv (i + 1), rt := E.rt, bk := E.nx, ct := Iv (i + 1) }) ∧ (∀ env C, Iv xs.length env C → E.nx env C))
    (hs : ∀ x, foldedSetIterable iter X.env x = pure x := by intro _; rfl) : WS X (.For tg iter body [] pos) env C E := by
  obtain ⟨wi, hi, h⟩ := h
  refine .of (ps_for hp hc hi pg_tGt pss_tXs hs) fun G σ H D w er q => h G σ H _ w er fun J G1 C1 H1 xs Pc f1 w1 it z => ?_
  obtain ⟨Iv, i0, hP, turn, done⟩ := z
  let Wn : Nat → L2.St → Hp → Prop := fun i σ2 H2 => i ≤ xs.length ∧ ∃ G2 C2 env2, Fr G C H G2 C2 H2 ∧ Same G1 G2 ∧ Wld X.K G2 C2 H2 ∧ EnvR X.K G2 env2 σ2 ∧ Iv i env2 C2
  refine ⟨fun i m σ2 H2 => m = xs.length - i ∧ Wn i σ2 H2, ⟨xs.length, rfl, Nat.zero_le _, G1, C1, env, f1, fun _ _ h => h, w1, er.mono f1.exG, i0⟩, ?_⟩
  rintro i m σ2 H2 ⟨rfl, hi2, G2, C2, env2, f2, s2, w2, er2, i2⟩
  obtain ⟨go, stop⟩ := it G2 C2 H2 s2 w2 (hP _ _ _ i2)
  by_cases hlt : i < xs.length
  · obtain ⟨hgo, hy⟩ := go i xs[i] (by simp [hlt])
    refine .inr ⟨hgo, Wn (i + 1), fun σ' H' h' => ⟨xs.length - (i + 1), by omega, rfl, h'⟩, fun x H3 hx => ?_⟩
    obtain ⟨G3, f3, w3, r3⟩ := hy x H3 hx
    refine turn i xs[i] env2 C2 (by simp [hlt]) i2 G3 σ2 H3 x _ w3 (er2.mono f3.exG) r3 fun G4 C4 H4 σ4 env4 f4 w4 er4 h4 => ?_
    have nx : KontE X.K G4 C4 H4 (Iv (i + 1)) (Wn (i + 1)) := fun G5 C5 H5 σ5 env5 f5 w5 er5 h5 => ⟨hlt, G5, C5, env5, ((f2.trans f3).trans f4).trans f5, ((s2.trans f3.exG).trans f4.exG).trans f5.exG, w5, er5, h5⟩
    exact h4 G4 σ4 H4 _ w4 er4 ⟨nx, q.rt.after ((f2.trans f3).trans f4), q.nx.after ((f2.trans f3).trans f4), nx⟩
  · have e : i = xs.length := by omega
    subst e
    exact .inl ⟨stop _ (Nat.le_refl _), q.nx G2 C2 H2 σ2 env2 f2 w2 er2 (done _ _ i2)⟩
end
end DL
/-! DLf: comprehensions, defs and their calls, built-in calls and methods. -/
namespace DL
open PySem PySem.Spec PyProof.Rows L2

/-! ### comprehensions -/
theorem wipe_get (σ : L2.St) (j : Nat) : ∀ vs : List Nat, (wipe σ vs)[j]? = if j ∈ vs then (if j < σ.length then some none else none) else σ[j]?
  | [] => by simp [wipe]
  | v :: vs => by
    unfold wipe
    by_cases e : v = j
    · subst e
      simp only [List.mem_cons, true_or, if_true]
      by_cases l : v < σ.length
      · rw [List.getElem?_set_self (by rw [wipe_length]; exact l), if_pos l]
      · rw [List.getElem?_eq_none (by rw [List.length_set, wipe_length]; omega), if_neg l]
    · rw [List.getElem?_set_ne e, wipe_get σ j vs]
      have : (j ∈ v :: vs) = (j ∈ vs) := by simp [List.mem_cons, Ne.symm e]
      simp only [this]
theorem wipe_ext {σ σ' : L2.St} {vs : List Nat} (hl : σ'.length = σ.length) (h : ∀ j, j ∉ vs → σ'[j]? = σ[j]?) : wipe σ' vs = wipe σ vs := by
  apply List.ext_getElem?
  intro j
  rw [wipe_get, wipe_get, hl]
  by_cases e : j ∈ vs
  · rw [if_pos e, if_pos e]
  · rw [if_neg e, if_neg e, h j e]
theorem wipe_wipe_set {σ : L2.St} {vs : List Nat} {i : Nat} {x : Option V} (hi : i ∈ vs) : wipe ((wipe σ vs).set i x) vs = wipe σ vs := by
  apply wipe_ext
  · rw [List.length_set, wipe_length]
  · intro j hj
    have : i ≠ j := fun e => hj (e ▸ hi)
    rw [List.getElem?_set_ne this, wipe_get, if_neg hj]
def wipeD (env : DEnv) : List Nat → DEnv
  | [] => env
  | v :: vs => (wipeD env vs).set v none
theorem EnvR.wipe {K : PySem.W.Frag} {G : Hp} {env : DEnv} {σ : L2.St} (h : EnvR K G env σ) : ∀ vs : List Nat, EnvR K G (wipeD env vs) (L2.wipe σ vs)
  | [] => h
  | v :: vs => by
    have ih := EnvR.wipe h vs
    refine ⟨by simp [wipeD, L2.wipe, ih.1], fun i d q => ?_⟩
    unfold wipeD at q
    unfold L2.wipe
    by_cases e : v = i
    · subst e
      by_cases l : v < (wipeD env vs).length
      · rw [List.getElem?_set_self l] at q; cases q
      · rw [List.getElem?_eq_none (by simpa using l)] at q; cases q
    · rw [List.getElem?_set_ne e] at q ⊢
      exact ih.2 i d q

/-- the contexts of a comprehension's block -/
def Blk (X : Cx) (scope : Scope) (X' : Cx) : Prop := ∃ (s : Shared) (H : Hp) (C : Addr) (cl : List (Str × Addr)) (fp : List Addr), X' = X.blk s H scope (compEnvC scope cl C X.env) fp
/-- a target of a comprehension -/
def EvGW (K : PySem.W.Frag) (g : TG) (vs : List Nat) (d : D) (env : DEnv) (C : CS) (kE : DEnv → CS → Prop) : Prop :=
  ∀ G σ H v Q, Wld K G C H → EnvR K G env σ → Dat K G v d → KontE K G C H kE Q → g v (wipe σ vs) H fun σ2 H2 => wipe σ2 vs = wipe σ vs ∧ Q σ2 H2
theorem gw_name {K : PySem.W.Frag} {i : Nat} {vs : List Nat} {d : D} {env : DEnv} {C : CS} {kE : DEnv → CS → Prop} (hi : i ∈ vs) (h : kE ((wipeD env vs).set i (some d)) C) : EvGW K (gName i) vs d env C kE := fun G σ H v Q w er r q =>
  ⟨wipe_wipe_set hi, q G C H _ _ (Fr.refl ..) w ((er.wipe vs).set i r) h⟩
def tPIf (X : Cx) (ifs : List Expr) : TT := fun σ H Q => ∀ pins s, Inv X pins σ H s → wpAny (model X.prog X.w) X.A (forIn ifs true fun c r => if r = true then do let ok ← isTrue c X.env (eval c X.env); pure (ForInStep.yield ok) else pure (ForInStep.yield r)) (TP X pins σ Q) X.xe s
def WIf (X : Cx) (ifs : List Expr) (env : DEnv) (C : CS) (k : Bool → CS → Prop) : Prop := EvB X.K (tPIf X ifs) env C k
theorem wif_nil {X : Cx} {env : DEnv} {C : CS} {k : Bool → CS → Prop} (h : k true C) : WIf X [] env C k := fun G σ H Q w er q pins s I => pts_nil.run pins s σ H Q I (q true G C H (Fr.refl ..) w h)
theorem WIf.imp {X : Cx} {ifs : List Expr} {env : DEnv} {C : CS} {k k' : Bool → CS → Prop} (h : WIf X ifs env C k) (hk : ∀ t C', k t C' → k' t C') : WIf X ifs env C k' := fun G σ H Q w er q => h G σ H Q w er fun b G' C' H' f w z => q b G' C' H' f w (hk b C' z)
theorem wif_one {X : Cx} {c : Expr} {env : DEnv} {C : CS} {k : Bool → CS → Prop} (h : WT X c env C k) : WIf X [c] env C k := fun G σ H Q w er q pins s I => (pts_one pt_tT).run pins s σ H Q I (h G σ H Q w er q)
section
variable {X : Cx} {elt tg iter : Expr} {ifs : List Expr} {scope : Scope} {own : List (Str × Nat)} {env : DEnv} {C : CS} {k : KD} {pos : Pos} {g : TG}
/-- an invariant over the turn and what is made so far -/
def LcI (X : Cx) (elt : Expr) (ifs : List Expr) (scope : Scope) (vs : List Nat) (g : TG) (env : DEnv) (xs : List D) (Pc : CS → Prop) (C1 : CS) (k : KD) : Prop := ∃ Iv : Nat → List D → CS → Prop, Iv 0 [] C1 ∧ (∀ j acc C, Iv j acc C → Pc C) ∧
  (∀ j d acc C, xs[j]? = some d → Iv j acc C → EvGW X.K g vs d env C fun env2 C2 => ∀ X', Blk X scope X' → WIf X' ifs env2 C2 fun t C3 => (t = true → ∀ X', Blk X scope X' → WE X' elt env2 C3 fun y C4 => acc.length < sizeLine ∧ Iv (j + 1) (acc ++ [y]) C4) ∧ (t = false → Iv (j + 1) acc C3)) ∧
  (∀ acc C, Iv xs.length acc C → ∀ p, C p = none → k (.own p) (put C p (.lst acc)))
theorem Fr.fresh {G H : Hp} {C : CS} {p : Addr} {o : HO} (h : H p = none) : Fr G C H G C (upd H p o) :=
  ⟨fun _ _ h => h, fun b u e _ _ => by rw [upd_ne (ne_of_none e h)]; exact e, fun b e => by
    by_cases q : b = p
    · subst q; exact absurd h e
    · rw [upd_ne q]; exact e, fun _ _ k => k, fun _ _ k => .inl k⟩
/-- a fresh list becomes a cell -/
theorem Wld.claim {K : PySem.W.Frag} {G G1 H H1 : Hp} {C C1 : CS} {p : Addr} {vs : List V} {ds : List D} (f : Fr G C H G1 C1 H1) (w : Wld K G1 C1 H1) (h0 : H p = none) (h1 : H1 p = some (.lst vs)) (r : DatAll K G1 vs ds) (c : C1 p = none) (g : G1 p = none) :
    Fr G C H G1 (put C1 p (.lst ds)) H1 ∧ Wld K G1 (put C1 p (.lst ds)) H1 := by
  refine ⟨⟨f.exG, f.keep, f.dom, fun a ha k => ?_, f.newG⟩, ⟨w.ex, fun a c' e => ?_, w.nt⟩⟩
  · by_cases q : a = p
    · subst q; exact absurd h0 ha
    · rw [put_ne q] at k; exact f.newC a ha k
  · by_cases q : a = p
    · subst q; rw [put_same] at e; cases e; exact ⟨g, vs, h1, r⟩
    · rw [put_ne q] at e; exact w.cell a c' e
theorem ev_lc {wi : TI} (hwi : EvI X.K wi env C fun xs Pc C1 => LcI X elt ifs scope (own.map (·.2)) g env xs Pc C1 k) :
    Ev X.K (tLc wi g (fun σ H Q => ∀ X', Blk X scope X' → tPIf X' ifs σ H Q) (fun σ H Q => ∀ X', Blk X scope X' → tS X' elt σ H Q) (own.map (·.2))) env C k := fun G σ H Q w er q => by
  refine hwi G σ H _ w er fun J G1 C1 H1 xs Pc f1 w1 it z Da hD => ?_
  obtain ⟨Iv, i0, hP, turn, done⟩ := z
  have hn := w1.ne hD
  let Wn : Nat → Hp → Prop := fun i H2 => i ≤ xs.length ∧ ∃ G2 C2 acc vs, Fr G1 C1 H1 G2 C2 H2 ∧ Wld X.K G2 C2 H2 ∧ H2 Da = some (.lst vs) ∧ DatAll X.K G2 vs acc ∧ Iv i acc C2 ∧ C2 Da = none ∧ G2 Da = none
  have wD : Wld X.K G1 C1 (upd H1 Da (.lst [])) := ⟨fun a o e => by rw [upd_ne (ne_of_none e hn.1)]; exact w1.ex a o e, fun a c e => by
    obtain ⟨h1, h2⟩ := w1.cell a c e
    exact ⟨h1, h2.mono (fun _ _ h => h) (upd_ne (cell_ne e hn.2))⟩, w1.nt⟩
  refine ⟨fun i m H2 => m = xs.length - i ∧ Wn i H2, ⟨xs.length, rfl, Nat.zero_le _, G1, C1, [], [], Fr.fresh hD, wD, upd_same, .nil, i0, hn.2, hn.1⟩, ?_⟩
  rintro i m H2 ⟨rfl, hi2, G2, C2, acc, vs, f2, w2, hd2, r2, i2, c2, g2⟩
  obtain ⟨go, stop⟩ := it G2 C2 H2 f2.exG w2 (hP _ _ _ i2)
  have keepD : ∀ {G3 C3 H3}, Fr G2 C2 H2 G3 C3 H3 → H3 Da = some (.lst vs) ∧ C3 Da = none ∧ G3 Da = none := fun {G3 C3 H3} f => by
    refine ⟨f.keep _ _ hd2 c2 (by intro _ z; cases z), ?_, ?_⟩
    · cases e : C3 Da with
      | none => rfl
      | some c => exact absurd c2 (f.newC Da (by rw [hd2]; simp) (by rw [e]; simp))
    · cases e : G3 Da with
      | none => rfl
      | some c => exact ((f.newG Da (by rw [hd2]; simp) (by rw [e]; simp)).elim (fun z => z g2) fun z => z c2).elim
  by_cases hlt : i < xs.length
  · obtain ⟨hgo, hy⟩ := go i xs[i] (by simp [hlt])
    refine .inr ⟨hgo, Wn (i + 1), fun H' h' => ⟨xs.length - (i + 1), by omega, rfl, h'⟩, fun x H3 hx => ?_⟩
    obtain ⟨G3, f3, w3, r3⟩ := hy x H3 hx
    refine turn i xs[i] acc C2 (by simp [hlt]) i2 G3 σ H3 x _ w3 (er.mono (f1.exG.trans (f2.exG.trans f3.exG))) r3 fun G4 C4 H4 σ4 env4 f4 w4 er4 h4 X' hX => ?_
    have h5 := h4 X' hX
    obtain ⟨s0, H0, Ca, cl, fp, rfl⟩ := hX
    refine h5 G4 σ4 H4 _ w4 er4 fun t G5 C5 H5 f5 w5 ht => ?_
    have f35 := (f3.trans f4).trans f5
    cases t with
    | true =>
      refine iteT fun X' hX => ?_
      have h6 := ht.1 rfl X' hX
      obtain ⟨s1, H01, Ca1, cl1, fp1, rfl⟩ := hX
      refine h6 G5 σ4 H5 _ w5 (er4.mono f5.exG) fun y G6 C6 H6 d6 f6 w6 r6 h7 => ?_
      obtain ⟨hd6, c6, g6⟩ := keepD (f35.trans f6)
      have rr := r2.mono (f35.trans f6).exG
      refine ⟨vs, hd6, by rw [rr.length]; exact h7.1, hlt, G6, C6, acc ++ [d6], vs ++ [y], ?_, ?_, upd_same, rr.append (.cons r6 .nil), h7.2, c6, g6⟩
      · have F := f2.trans (f35.trans f6)
        refine ⟨F.exG, fun a o e c nt => ?_, fun a e => ?_, F.newC, F.newG⟩
        · by_cases q : a = Da
          · subst q; rw [hD] at e; cases e
          · rw [upd_ne q]; exact F.keep a o e c nt
        · by_cases q : a = Da
          · subst q; rw [upd_same]; simp
          · rw [upd_ne q]; exact F.dom a e
      · exact ⟨fun a o e => by rw [upd_ne (ne_of_none e g6)]; exact w6.ex a o e, fun a c e => by
          obtain ⟨h1, h2⟩ := w6.cell a c e
          exact ⟨h1, h2.mono (fun _ _ h => h) (upd_ne (cell_ne e c6))⟩, w6.nt⟩
    | false =>
      obtain ⟨hd5, c5, g5⟩ := keepD f35
      exact iteF ⟨hlt, G5, C5, acc, vs, f2.trans f35, w5, hd5, r2.mono f35.exG, ht.2 rfl, c5, g5⟩
  · have e : i = xs.length := by omega
    subst e
    have h0 : H Da = none := by
      cases e : H Da with
      | none => rfl
      | some o => exact absurd hD (f1.dom Da (by rw [e]; simp))
    obtain ⟨F, w3⟩ := w2.claim (f1.trans f2) h0 hd2 r2 c2 g2
    exact .inl ⟨stop _ (Nat.le_refl _), q _ _ _ _ _ F w3 (.own Da) (done acc C2 i2 Da c2)⟩
end
end DL
/-! DLg: comprehensions as expressions, defs and their calls, built-in calls and methods. -/
namespace DL
open PySem PySem.Spec PyProof.Rows L2

section
variable {X : Cx} {elt tg iter : Expr} {ifs : List Expr} {scope : Scope} {own : List (Str × Nat)} {env : DEnv} {C : CS} {k : KD} {pos : Pos} {g : TG} {E : DEnds}
theorem we_lc (own : List (Str × Nat)) (hc : X.calm = true) (hN : X.N.Nodup) (ok : BlkOk X.N X.env.scope scope own) (hg : ∀ (s : Shared) (H : Hp) (C : Addr) (cl : List (Str × Addr)) (fp : List Addr), PG (X.blk s H scope (compEnvC scope cl C X.env) fp) tg g)
    (h : WI X tg iter env C fun xs Pc C1 => LcI X elt ifs scope (own.map (·.2)) g env xs Pc C1 k) (hs : ∀ x, foldedSetIterable iter X.env x = pure x := by intro _; rfl) : WE X (.ListComp elt [⟨tg, iter, ifs, 0⟩] scope pos) env C k := by
  obtain ⟨wi, hi, hw⟩ := h
  refine .of (pe_lc (own := own) (g := g) (tt := fun σ H Q => ∀ X', Blk X scope X' → tPIf X' ifs σ H Q) (te := fun σ H Q => ∀ X', Blk X scope X' → tS X' elt σ H Q) hc hN hi ok hg ?_ ?_ hs) (ev_lc hw)
  · exact fun s H C cl fp => ⟨fun pins s' σ H Q I h => h _ ⟨_, _, _, _, _, rfl⟩ pins s' I⟩
  · exact fun s H C cl fp => ⟨fun pins s' σ H Q I h => h _ ⟨_, _, _, _, _, rfl⟩ pins s' I⟩
theorem ws_setLc (own : List (Str × Nat)) {i : Nat} {y : Str} {py spos : Pos} (hc : X.calm = true) (hN : X.N.Nodup) (hy : X.N[i]? = some y) (hyl : X.env.scope.names.lookup y = some .local)
    (hsw : swapsWith (.ListComp elt [⟨tg, iter, ifs, 0⟩] scope pos) (some (.Name y py)) spos.line X.env = pure true) (ok : BlkOk X.N X.env.scope scope own) (hg : ∀ (s : Shared) (H : Hp) (C : Addr) (cl : List (Str × Addr)) (fp : List Addr), PG (X.blk s H scope (compEnvC scope cl C X.env) fp) tg g)
    (h : WI X tg iter env C fun xs Pc C1 => LcI X elt ifs scope (own.map (·.2)) g env xs Pc C1 fun d C2 => E.nx (env.set i (some d)) C2) (hs : ∀ x, foldedSetIterable iter X.env x = pure x := by intro _; rfl) :
    WS X (.Assign [.Name y py] (.ListComp elt [⟨tg, iter, ifs, 0⟩] scope pos) spos) env C E := by
  obtain ⟨wi, hi, hw⟩ := h
  refine .of (ps_setLc (i := i) (own := own) (g := g) (tt := fun σ H Q => ∀ X', Blk X scope X' → tPIf X' ifs σ H Q) (te := fun σ H Q => ∀ X', Blk X scope X' → tS X' elt σ H Q) hc hN hy hyl hsw hi ok hg ?_ ?_ hs) ?_
  · exact fun s H C cl fp => ⟨fun pins s' σ H Q I h => h _ ⟨_, _, _, _, _, rfl⟩ pins s' I⟩
  · exact fun s H C cl fp => ⟨fun pins s' σ H Q I h => h _ ⟨_, _, _, _, _, rfl⟩ pins s' I⟩
  · exact fun G σ H D w er q => ev_lc hw G σ H _ w er fun v G1 C1 H1 d f1 w1 r1 z => q.nx G1 C1 H1 _ _ f1 w1 ((er.mono f1.exG).set i r1) z
end

/-! ### defs -/
abbrev DSp := List D → CS → KD → Prop
def toSp (K : PySem.W.Frag) (S : DSp) : Sp := fun vs H Q _ => ∃ G C ds k, Wld K G C H ∧ DatAll K G vs ds ∧ S ds C k ∧ Kont K G C H k Q
def startD (N : List Str) (ds : List D) : DEnv := ds.map some ++ List.replicate (N.length - ds.length) none
theorem envR_start {K : PySem.W.Frag} {G : Hp} {N : List Str} {vs : List V} {ds : List D} (r : DatAll K G vs ds) : EnvR K G (startD N ds) (L2.start N vs) := by
  refine ⟨by unfold startD L2.start; simp [r.length], fun i d h => ?_⟩
  unfold startD at h
  unfold L2.start
  have hl := r.length
  by_cases hi : i < ds.length
  · rw [List.getElem?_append_left (by simpa using hi), List.getElem?_map] at h
    rw [List.getElem?_append_left (by simpa [hl] using hi), List.getElem?_map]
    cases q : ds[i]? with
    | none => rw [q] at h; cases h
    | some d' =>
      rw [q] at h
      obtain rfl := Option.some.inj (Option.some.inj h)
      obtain ⟨v, h1, h2⟩ := r.get q
      exact ⟨v, by rw [h1]; rfl, h2⟩
  · rw [List.getElem?_append_right (by simpa using hi)] at h
    rw [List.getElem?_replicate] at h
    split at h <;> cases h
section
variable {P : Program} {w : World} {K : PySem.W.Frag} {mg : Str → Option Value} {base : Heap}
theorem fnD {x qual : Str} {st : Stmt} {f : Addr} {fd : FuncData} {N ps : List Str} {n : Nat} {S : DSp} (F : Fun K x qual st f fd) (sc : FnScope N ps (defScope st)) (hl : ∀ ds C k, S ds C k → ds.length = ps.length)
    (hb : ∀ (cdv : Value) (A : Around) (outer : List Env) (s : Shared) (H : Hp) (E : XK) (ds : List D) (C : CS) (k : KD), A.guards = some [] → Room n (A.deeper (envOfC qual (defScope st) s.heap.objs.size f cdv)) → S ds C k →
      WSs (cxOf CX0 P w K mg base N qual (defScope st) f cdv A outer s H E).nox (defBody st) (startD N ds) C { nx := fun _ C' => k .non C', rt := k }) : FnG P w K mg base CX0 (n + 1) f fd ps (toSp K S) := by
  refine fnG_of F sc (fun vs H Q E h => ?_) (fun cdv A outer s H vs Q E hgd hr h => ?_)
  · obtain ⟨G, C, ds, k, _, r, hS, _⟩ := h
    rw [r.length]
    exact hl _ _ _ hS
  · obtain ⟨G, C, ds, k, wl, r, hS, q⟩ := h
    refine ⟨_, PSs.nox pss_tXs, ?_⟩
    refine hb cdv A outer s H E ds C k hgd hr hS G _ H _ wl (envR_start r) ⟨?_, q, ?_, ?_⟩
    · exact fun G' C' H' σ env f w' er z => q .non G' C' H' .non f w' .non z
    · exact fun G' C' H' σ env f w' er z => z.elim
    · exact fun G' C' H' σ env f w' er z => z.elim
/-- a def that keeps a promise by data -/
def FnC (P : Program) (w : World) (K : PySem.W.Frag) (mg : Str → Option Value) (base : Heap) (x : Str) (n : Nat) (S : DSp) : Prop :=
  ∃ (f : Addr) (fd : FuncData) (ps : List Str), FnG P w K mg base CX0 n f fd ps (toSp K S) ∧ mg x = some (.ref f) ∧ PySem.W.keepIn K (.ref f) = true ∧ Binds K fd ps []
end
section
variable {X : Cx} {e a b o : Expr} {es : List Expr} {env : DEnv} {C : CS} {k : KD} {pos : Pos}
theorem call_ok {n : Nat} {f : Addr} {fd : FuncData} {ps : List Str} {S : DSp} {ta : TA} (h : EvA X.K ta env C fun ds C1 => S ds C1 k) : Ev X.K (tCall (toSp X.K S) [] E0 ta) env C k := fun G σ H Q w er q =>
  h G σ H _ w er fun vs G1 C1 H1 ds f1 w1 r1 z => ⟨G1, C1, ds, k, w1, by rw [List.append_nil]; exact r1, z, q.after f1⟩
theorem we_call {x : Str} {n m : Nat} {S : DSp} {p : Pos} (h : FnC X.prog X.w X.K X.mg X.base x n S) (hgd : X.A.guards = some []) (hr : Room m X.A) (hg : Gl X x) (ha : WA X (e :: es) env C fun ds C1 => S ds C1 k) (hle : n ≤ m := by decide)
    (hdb : (x == ("__debug__" : Str)) = false := by decide) (he : starEach (e :: es) X.env = (false, eval e X.env) :: starEach es X.env := by rfl) (hpl : (backTo pos (starEach es X.env)).any (·.1) = false := by rfl) : WE X (.Call (.Name x p) (e :: es) [] pos) env C k := by
  obtain ⟨f, fd, ps, F, hm, hk, hb⟩ := h
  exact .of (pe_callG F hgd (hr.mono hle) hg hm hk hb pass0 pa_tAr hdb he hpl) (call_ok (n := n) (f := f) (fd := fd) (ps := ps) ha)
/-! ### methods of built-in types -/
def tyD (T : String) (C : CS) (x : D) : Prop := match x with
  | .str _ => T = "str"
  | .lst _ => T = "list"
  | .own a => (T = "list" ∧ ∃ xs, C a = some (.lst xs)) ∨ (T = "dict" ∧ ∃ kvs, C a = some (.dic kvs))
  | _ => False
theorem tyD_ok {K : PySem.W.Frag} {T : String} {G H : Hp} {x : V} {d : D} (w : Wld K G C H) (r : Dat K G x d) (h : tyD T C d) : tyV K T x H := by
  cases r with
  | str x => exact h
  | lst h1 h2 => exact .inl ⟨h, _, SqL.of (w.ex _ _ h1)⟩
  | own a =>
    rcases h with ⟨h, xs, hx⟩ | ⟨h, kvs, hx⟩
    · obtain ⟨_, vs, h1, _⟩ := w.cell a _ hx
      exact .inl ⟨h, vs, SqL.of h1⟩
    · obtain ⟨_, vs, h1, _⟩ := w.cell a _ hx
      exact .inr (.inr (.inl ⟨h, .inl ⟨vs, h1⟩⟩))
  | _ => exact h.elim
theorem we_bm {T : String} {name : Str} {id : String} {apos cpos : Pos} {r : V → List V → Hp → VK → Prop} {p : D → List D → CS → KD → Prop} (pa : PlainAttrs T) (slot : Slot T name id) (hty : typeOf (.builtin id) = pure (.type "method_descriptor")) (hm : MtR X id r) (hr : RMD X.K r p)
    (h : WE X o env C fun x C1 => tyD T C1 x ∧ WA X (e :: es) env C1 fun ds C2 => p x ds C2 k)
    (hbase : attributeBase o name X.env (eval o X.env) = eval o X.env := by rfl)
    (hfew : ((backTo cpos (starEach (e :: es) X.env)).all (fun x => !x.1) && (backToKw cpos (keywordEach [] X.env)).all (fun x => x.1.isSome)
      && decide ((e :: es).length + ([] : List Keyword).length + (if ([] : List Keyword).isEmpty then 0 else 1) < 30)) = true := by rfl)
    (hline : (apos.endLine == cpos.line) = true := by rfl) (hs : starEach (e :: es) X.env = (false, eval e X.env) :: starEach es X.env := by rfl) (hplain : (backTo cpos (starEach es X.env)).any (·.1) = false := by rfl) :
    WE X (.Call (.Attribute o name apos) (e :: es) [] cpos) env C k :=
  .of (pe_bm pa slot hty hm pe_tS pa_tAr hbase hfew hline hs hplain) fun G σ H Q w er q => h G σ H _ w er fun v G1 C1 H1 d f1 w1 r1 z => ⟨tyD_ok w1 r1 z.1, z.2 G1 σ H1 _ w1 (er.mono f1.exG) fun vs G2 C2 H2 ds f2 w2 r2 hp => hr v d vs ds G2 C2 H2 k Q w2 (r1.mono f2.exG) r2 hp (q.after (f1.trans f2))⟩
theorem we_bm0 {T : String} {name : Str} {id : String} {apos cpos : Pos} {r : V → List V → Hp → VK → Prop} {p : D → List D → CS → KD → Prop} (pa : PlainAttrs T) (slot : Slot T name id) (hty : typeOf (.builtin id) = pure (.type "method_descriptor")) (hm : MtR X id r) (hr : RMD X.K r p)
    (h : WE X o env C fun x C1 => tyD T C1 x ∧ p x [] C1 k) (hbase : attributeBase o name X.env (eval o X.env) = eval o X.env := by rfl) (hline : (apos.endLine == cpos.line) = true := by rfl) : WE X (.Call (.Attribute o name apos) [] [] cpos) env C k :=
  .of (pe_bm0 pa slot hty hm pe_tS hbase hline) fun G σ H Q w er q => h G σ H _ w er fun v G1 C1 H1 d f1 w1 r1 z => ⟨tyD_ok w1 r1 z.1, hr v d [] [] G1 C1 H1 k Q w1 r1 .nil z.2 (q.after f1)⟩
end

/-! ### what built-ins and methods give -/
section
variable {K : PySem.W.Frag}
def dAppend : D → List D → CS → KD → Prop := fun x ds C k => ∃ a xs y, x = .own a ∧ ds = [y] ∧ C a = some (.lst xs) ∧ xs.length < sizeLine ∧ k .non (put C a (.lst (xs ++ [y])))
theorem rm_append : RMD K rAppend dAppend := by
  rintro x a xs ds G C H k Q w r rs ⟨p, ys, y, rfl, rfl, hp, hl, hk⟩ q
  cases r
  cases rs with
  | cons r1 r2 =>
    cases r2
    obtain ⟨_, vs, h1, h2⟩ := w.cell p _ hp
    refine ⟨p, vs, _, rfl, rfl, h1, by rw [h2.length]; exact hl, ?_⟩
    obtain ⟨w2, f2⟩ := w.write hp (o := .lst _) (c' := .lst _) fun H' e => ⟨_, e, h2.append (.cons r1 .nil)⟩
    exact q _ _ _ _ _ f2 w2 .non hk
def dInsert : D → List D → CS → KD → Prop := fun x ds C k => ∃ a xs y i, x = .own a ∧ ds = [.int i, y] ∧ C a = some (.lst xs) ∧ xs.length < sizeLine ∧ 0 ≤ i ∧ i < 2 ^ 63 ∧ k .non (put C a (.lst (xs.take i.toNat ++ [y] ++ xs.drop i.toNat)))
theorem rm_insert : RMD K (fun x vs H Q => ∃ (l : Addr) (xs : List V) (i : Int) (y : V), x = .ref l ∧ vs = [.int i, y] ∧ H l = some (.lst xs) ∧ xs.length < sizeLine ∧ 0 ≤ i ∧ i < 2 ^ 63 ∧ Q .non (upd H l (.lst (xs.take i.toNat ++ [y] ++ xs.drop i.toNat)))) dInsert := by
  rintro x a xs ds G C H k Q w r rs ⟨p, ys, y, i, rfl, rfl, hp, hl, h0, h63, hk⟩ q
  cases r
  cases rs with
  | cons r1 r2 =>
    cases r2 with
    | cons r2 r3 =>
      cases r3; cases r1
      obtain ⟨_, vs, h1, h2⟩ := w.cell p _ hp
      refine ⟨p, vs, i, _, rfl, rfl, h1, by rw [h2.length]; exact hl, h0, h63, ?_⟩
      obtain ⟨w2, f2⟩ := w.write hp (o := .lst _) (c' := .lst _) fun H' e => ⟨_, e, ((h2.take i.toNat).append (.cons r2 .nil)).append (h2.drop i.toNat)⟩
      exact q _ _ _ _ _ f2 w2 .non hk
def dPopAt : D → List D → CS → KD → Prop := fun x ds C k => ∃ a xs i j y, x = .own a ∧ ds = [.int i] ∧ C a = some (.lst xs) ∧ -(2 ^ 63) ≤ i ∧ i < 2 ^ 63 ∧ seqIndex? i xs.length = some j ∧ xs[j]? = some y ∧ k y (put C a (.lst (xs.eraseIdx j)))
theorem datAll_erase {G : Hp} : ∀ {vs : List V} {ds : List D} (i : Nat), DatAll K G vs ds → DatAll K G (vs.eraseIdx i) (ds.eraseIdx i)
  | _, [], i, h => by cases h; simp; exact .nil
  | _, d :: ds, 0, h => by
    cases h with
    | cons a b => exact b
  | _, d :: ds, i + 1, h => by
    cases h with
    | cons a b => exact .cons a (datAll_erase i b)
theorem rm_popAt : RMD K rPopAt dPopAt := by
  rintro x a xs ds G C H k Q w r rs ⟨p, ys, i, j, y, rfl, rfl, hp, h0, h63, hj, hy, hk⟩ q
  cases r
  cases rs with
  | cons r1 r2 =>
    cases r2; cases r1
    obtain ⟨_, vs, h1, h2⟩ := w.cell p _ hp
    obtain ⟨v, g1, g2⟩ := h2.get hy
    refine ⟨p, vs, i, j, v, rfl, rfl, h1, h0, h63, by rw [h2.length]; exact hj, g1, ?_⟩
    obtain ⟨w2, f2⟩ := w.write hp (o := .lst _) (c' := .lst _) fun H' e => ⟨_, e, datAll_erase j h2⟩
    exact q _ _ _ _ _ f2 w2 g2 hk
theorem datAll_strs {G : Hp} : ∀ {vs : List V} {ys : List Str}, DatAll K G vs (ys.map D.str) → vs = ys.map V.str
  | _, [], h => by cases h; rfl
  | _, y :: ys, h => by
    cases h with
    | cons a b => cases a; rw [datAll_strs b]; rfl
theorem datAll_ints {G : Hp} : ∀ {vs : List V} {ys : List Int}, DatAll K G vs (ys.map D.int) → vs = ys.map V.int
  | _, [], h => by cases h; rfl
  | _, y :: ys, h => by
    cases h with
    | cons a b => cases a; rw [datAll_ints b]; rfl
theorem datAll_bls {G : Hp} : ∀ {vs : List V} {ys : List Bool}, DatAll K G vs (ys.map D.bl) → vs = ys.map V.bl
  | _, [], h => by cases h; rfl
  | _, y :: ys, h => by
    cases h with
    | cons a b => cases a; rw [datAll_bls b]; rfl
def dJoin : D → List D → CS → KD → Prop := fun x ds C k => ∃ a y, ∃ ys : List Str, x = .str a ∧ ds = [y] ∧ seqR C y = some (ys.map D.str) ∧ (ys.map (·.length)).sum + ys.length * a.length ≤ 16777216 ∧ k (.str (Txt.join a ys)) C
theorem rm_join : RMD K (fun x xs H Q => ∃ a p, ∃ ys : List Str, x = .str a ∧ xs = [.ref p] ∧ (SqL K H p (ys.map V.str) ∨ SqT K H p (ys.map V.str)) ∧ (ys.map (·.length)).sum + ys.length * a.length ≤ 16777216 ∧ Q (.str (Txt.join a ys)) H) dJoin := by
  rintro x a xs ds G C H k Q w r rs ⟨b, y, ys, rfl, rfl, hs, hl, hk⟩ q
  cases r
  cases rs with
  | cons r1 r2 =>
    cases r2
    obtain ⟨p, vs, rfl, h1, h2⟩ := w.seq r1 hs
    have := datAll_strs h2
    subst this
    exact ⟨b, p, ys, rfl, rfl, .inl h1, hl, q _ _ _ _ _ (Fr.refl ..) w (.str _) hk⟩
def dSIndex : D → List D → CS → KD → Prop := fun x ds C k => ∃ a b i rest, x = .str a ∧ ds = [.str b] ∧ Builtin.Str.occurrences a b 0 a.length 1 = i :: rest ∧ k (.int (i : Nat)) C
theorem rm_sindex : RMD K (fun x xs H Q => ∃ a b i rest, x = .str a ∧ xs = [.str b] ∧ Builtin.Str.occurrences a b 0 a.length 1 = i :: rest ∧ Q (.int (i : Nat)) H) dSIndex := by
  rintro x a xs ds G C H k Q w r rs ⟨b, c, i, rest, rfl, rfl, ho, hk⟩ q
  cases r
  cases rs with
  | cons r1 r2 => cases r2; cases r1; exact ⟨b, c, i, rest, rfl, rfl, ho, q _ _ _ _ _ (Fr.refl ..) w (.int _) hk⟩

def lenD (C : CS) (x : D) (n : Nat) : Prop := match x with
  | .str y => y.length ≤ sizeLine ∧ n = y.length
  | .tup xs => n = xs.length
  | x => ∃ xs, seqR C x = some xs ∧ n = xs.length
def dLen : List D → CS → KD → Prop := fun ds C k => ∃ x n, ds = [x] ∧ lenD C x n ∧ k (.int (n : Nat)) C
theorem rl_len : RLD K (fun xs H Q => ∃ x n, xs = [x] ∧ LenV K x H n ∧ Q (.int n) H) dLen := by
  rintro xs ds G C H k Q w rs ⟨x, n, rfl, hl, hk⟩ q
  cases rs with
  | @cons v _ _ _ r1 r2 =>
    cases r2
    refine ⟨v, n, rfl, ?_, q _ _ _ _ _ (Fr.refl ..) w (.int _) hk⟩
    unfold lenD at hl
    split at hl
    · cases r1; exact hl
    · obtain ⟨a, vs, rfl, h1, h2⟩ := w.tup r1
      exact .inr ⟨vs, h1, by rw [h2.length]; exact hl⟩
    · obtain ⟨ys, h0, h3⟩ := hl
      obtain ⟨a, vs, rfl, h1, h2⟩ := w.seq r1 h0
      exact .inl ⟨vs, h1, by rw [h2.length]; exact h3⟩
def dInt1 (f : Int → Int) : List D → CS → KD → Prop := fun ds C k => ∃ i, ds = [.int i] ∧ k (.int (f i)) C
theorem rl_int1 {f : Int → Int} : RLD K (fun xs H Q => ∃ i, xs = [.int i] ∧ Q (.int (f i)) H) (dInt1 f) := by
  rintro xs ds G C H k Q w rs ⟨i, rfl, hk⟩ q
  cases rs with
  | cons r1 r2 => cases r2; cases r1; exact ⟨i, rfl, q _ _ _ _ _ (Fr.refl ..) w (.int _) hk⟩
def dInt2 (f : Int → Int → Int) : List D → CS → KD → Prop := fun ds C k => ∃ i j, ds = [.int i, .int j] ∧ k (.int (f i j)) C
theorem rl_int2 {f : Int → Int → Int} : RLD K (fun xs H Q => ∃ i j, xs = [.int i, .int j] ∧ Q (.int (f i j)) H) (dInt2 f) := by
  rintro xs ds G C H k Q w rs ⟨i, j, rfl, hk⟩ q
  cases rs with
  | cons r1 r2 =>
    cases r2 with
    | cons r2 r3 => cases r3; cases r1; cases r2; exact ⟨i, j, rfl, q _ _ _ _ _ (Fr.refl ..) w (.int _) hk⟩
/-- int(n), int(flag) -/
def dInt : List D → CS → KD → Prop := fun ds C k => (∃ i, ds = [.int i] ∧ k (.int i) C) ∨ ∃ b : Bool, ds = [.bl b] ∧ k (.int (if b then 1 else 0)) C
theorem rl_int : RLD K (fun xs H Q => (∃ i, xs = [.int i] ∧ Q (.int i) H) ∨ ∃ k, xs = [.bl k] ∧ Q (.int (if k then 1 else 0)) H) dInt := by
  rintro xs ds G C H k Q w rs (⟨i, rfl, hk⟩ | ⟨i, rfl, hk⟩) q
  · cases rs with
    | cons r1 r2 => cases r2; cases r1; exact .inl ⟨i, rfl, q _ _ _ _ _ (Fr.refl ..) w (.int _) hk⟩
  · cases rs with
    | cons r1 r2 => cases r2; cases r1; exact .inr ⟨i, rfl, q _ _ _ _ _ (Fr.refl ..) w (.int _) hk⟩
def dStrInt : List D → CS → KD → Prop := fun ds C k => ∃ i : Int, ds = [.int i] ∧ i.natAbs.log2 < 1920 ∧ k (.str (toString i)) C
theorem rl_str : RLD K (fun xs H Q => ∃ i : Int, xs = [.int i] ∧ i.natAbs.log2 < 1920 ∧ Q (.str (toString i)) H) dStrInt := by
  rintro xs ds G C H k Q w rs ⟨i, rfl, h, hk⟩ q
  cases rs with
  | cons r1 r2 => cases r2; cases r1; exact ⟨i, rfl, h, q _ _ _ _ _ (Fr.refl ..) w (.str _) hk⟩
/-- tuple(xs) -/
def dTuple : List D → CS → KD → Prop := fun ds C k => ∃ x, ds = [x] ∧ match x with
  | .tup xs => k (.tup xs) C
  | x => ∃ xs, seqR C x = some xs ∧ k (.tup xs) C
theorem rl_tuple : RLD K (fun xs H Q => ∃ p ys, xs = [.ref p] ∧ ((SqL K H p ys ∧ ∀ l, H l = none → Q (.ref l) (upd H l (.tup ys))) ∨ (SqT K H p ys ∧ Q (.ref p) H))) dTuple := by
  rintro xs ds G C H k Q w rs ⟨x, rfl, hk⟩ q
  cases rs with
  | cons r1 r2 =>
    cases r2
    split at hk
    · obtain ⟨a, vs, rfl, h1, h2⟩ := w.tup r1
      exact ⟨a, vs, rfl, .inr ⟨h1, q _ _ _ _ _ (Fr.refl ..) w r1 hk⟩⟩
    · obtain ⟨ys, h0, hk⟩ := hk
      obtain ⟨a, vs, rfl, h1, h2⟩ := w.seq r1 h0
      refine ⟨a, vs, rfl, .inl ⟨h1, fun p hp => ?_⟩⟩
      obtain ⟨w2, f2, s2⟩ := w.newG hp (.tup vs)
      exact q _ _ _ _ _ f2 w2 (.tup (SqT.of upd_same) (h2.mono s2)) hk
/-- list(xs) -/
def seqA (C : CS) : D → Option (List D)
  | .tup xs => some xs
  | d => seqR C d
theorem Wld.seqA {G H : Hp} {C : CS} {v : V} {d : D} {ds : List D} (w : Wld K G C H) (r : Dat K G v d) (e : seqA C d = some ds) : ∃ a xs, v = .ref a ∧ (SqL K H a xs ∨ SqT K H a xs) ∧ DatAll K G xs ds := by
  unfold DL.seqA at e
  split at e
  · cases e
    obtain ⟨a, vs, rfl, h1, h2⟩ := w.tup r
    exact ⟨a, vs, rfl, .inr h1, h2⟩
  · obtain ⟨a, vs, rfl, h1, h2⟩ := w.seq r e
    exact ⟨a, vs, rfl, .inl h1, h2⟩
def dList : List D → CS → KD → Prop := fun ds C k => ∃ x xs, ds = [x] ∧ seqA C x = some xs ∧ ∀ p, C p = none → k (.own p) (put C p (.lst xs))
theorem rl_list : RLD K (fun xs H Q => ∃ p ys, xs = [.ref p] ∧ (SqL K H p ys ∨ SqT K H p ys) ∧ ∀ l, H l = none → Q (.ref l) (upd H l (.lst ys))) dList := by
  rintro xs ds G C H k Q w rs ⟨x, ys, rfl, hs, hk⟩ q
  cases rs with
  | cons r1 r2 =>
    cases r2
    obtain ⟨a, vs, rfl, h1, h2⟩ := w.seqA r1 hs
    refine ⟨a, vs, rfl, h1, fun p hp => ?_⟩
    obtain ⟨w2, f2⟩ := w.newC hp (o := .lst vs) (c := .lst ys) fun H' e => ⟨vs, e, h2⟩
    exact q _ _ _ _ _ f2 w2 (.own p) (hk p (w.ne hp).2)
def dAny : List D → CS → KD → Prop := fun ds C k => ∃ x, ∃ bs : List Bool, ds = [x] ∧ seqR C x = some (bs.map D.bl) ∧ k (.bl (bs.any id)) C
theorem rl_any : RLD K (rAny K) dAny := by
  rintro xs ds G C H k Q w rs ⟨x, bs, rfl, hs, hk⟩ q
  cases rs with
  | cons r1 r2 =>
    cases r2
    obtain ⟨a, vs, rfl, h1, h2⟩ := w.seq r1 hs
    have := datAll_bls h2
    subst this
    exact ⟨a, bs, rfl, h1, q _ _ _ _ _ (Fr.refl ..) w (.bl _) hk⟩
def dAll : List D → CS → KD → Prop := fun ds C k => ∃ x, ∃ bs : List Bool, ds = [x] ∧ seqR C x = some (bs.map D.bl) ∧ k (.bl (bs.all id)) C
theorem rl_all : RLD K (rAll K) dAll := by
  rintro xs ds G C H k Q w rs ⟨x, bs, rfl, hs, hk⟩ q
  cases rs with
  | cons r1 r2 =>
    cases r2
    obtain ⟨a, vs, rfl, h1, h2⟩ := w.seq r1 hs
    have := datAll_bls h2
    subst this
    exact ⟨a, bs, rfl, h1, q _ _ _ _ _ (Fr.refl ..) w (.bl _) hk⟩
def dSum : List D → CS → KD → Prop := fun ds C k => ∃ x, ∃ ns : List Int, ds = [x] ∧ seqR C x = some (ns.map D.int) ∧ k (.int ns.sum) C
theorem rl_sum : RLD K (rSum K) dSum := by
  rintro xs ds G C H k Q w rs ⟨x, ns, rfl, hs, hk⟩ q
  cases rs with
  | cons r1 r2 =>
    cases r2
    obtain ⟨a, vs, rfl, h1, h2⟩ := w.seq r1 hs
    have := datAll_ints h2
    subst this
    exact ⟨a, ns, rfl, h1, q _ _ _ _ _ (Fr.refl ..) w (.int _) hk⟩
def dMinL : List D → CS → KD → Prop := fun ds C k => ∃ x, ∃ ns : List Int, ds = [x] ∧ seqR C x = some (ns.map D.int) ∧ 0 < ns.length ∧ ∀ m, m ∈ ns → (∀ y, y ∈ ns → m ≤ y) → k (.int m) C
theorem rl_minL : RLD K (rMin K) dMinL := by
  rintro xs ds G C H k Q w rs ⟨x, ns, rfl, hs, h0, hk⟩ q
  cases rs with
  | cons r1 r2 =>
    cases r2
    obtain ⟨a, vs, rfl, h1, h2⟩ := w.seq r1 hs
    have := datAll_ints h2
    subst this
    exact ⟨a, ns, rfl, h1, h0, fun m hm hy => q _ _ _ _ _ (Fr.refl ..) w (.int _) (hk m hm hy)⟩
/-- isinstance -/
def tyN (C : CS) : D → Option String
  | .non => some "NoneType"
  | .bl _ => some "bool"
  | .int _ => some "int"
  | .str _ => some "str"
  | .lst _ => some "list"
  | .slst _ => some "list"
  | .tup _ => some "tuple"
  | .own a => match C a with
    | some (.lst _) => some "list"
    | some (.dic _) => some "dict"
    | _ => none
  | _ => none
theorem sqL_ty {H : Hp} {a : Addr} {vs : List V} (h : SqL K H a vs) : TyX K H (.ref a) (.type "list") := by
  rcases h with (h | ⟨o, h⟩) | ⟨o, its, n, h, h1, _⟩
  · exact .base (.lst h)
  · exact .base (.frz h)
  · exact .kList h h1
theorem sqT_ty {H : Hp} {a : Addr} {vs : List V} (h : SqT K H a vs) : TyX K H (.ref a) (.type "tuple") := by
  rcases h with (h | ⟨o, h⟩) | ⟨o, its, n, h, h1, _⟩
  · exact .base (.tup h)
  · exact .fTuple h
  · exact .kTuple h h1
theorem tyN_ok {G H : Hp} {C : CS} {v : V} {d : D} {T : String} (w : Wld K G C H) (r : Dat K G v d) (e : tyN C d = some T) : TyX K H v (.type T) := by
  cases r with
  | non => simp [tyN] at e; subst e; exact .base .non
  | bl b => simp [tyN] at e; subst e; exact .base (.bl b)
  | int b => simp [tyN] at e; subst e; exact .base (.int b)
  | str b => simp [tyN] at e; subst e; exact .base (.str b)
  | lst a b => simp [tyN] at e; subst e; exact .base (.lst (w.ex _ _ a))
  | slst a b => simp [tyN] at e; subst e; exact sqL_ty (w.ex.seq a)
  | tup a b => simp [tyN] at e; subst e; exact sqT_ty (Same.sqT w.ex a)
  | own a =>
    unfold tyN at e
    cases q : C a with
    | none => simp [q] at e
    | some c =>
      obtain ⟨_, hc⟩ := w.cell a c q
      cases c with
      | lst ds => simp [q] at e; subst e; obtain ⟨vs, h1, _⟩ := hc; exact .base (.lst h1)
      | dic ds => simp [q] at e; subst e; obtain ⟨vs, h1, _⟩ := hc; exact .base (.dK h1)
      | ins _ _ _ => simp [q] at e
      | tbl _ _ => simp [q] at e
  | _ => simp [tyN] at e
def dIsi : List D → CS → KD → Prop := fun ds C k => ∃ x T U b, ds = [x, .opq (.ty U)] ∧ tyN C x = some T ∧ kitB T U = some b ∧ k (.bl b) C
theorem rl_isi : RLD K (rIsi K) dIsi := by
  rintro xs ds G C H k Q w rs ⟨x, T, U, b, rfl, ht, hb, hk⟩ q
  cases rs with
  | cons r1 r2 =>
    cases r2 with
    | cons r2 r3 =>
      cases r3; cases r2
      exact ⟨_, _, .type T, .type U, b, rfl, .ty U, tyN_ok w r1 ht, kit_ty hb, q _ _ _ _ _ (Fr.refl ..) w (.bl _) hk⟩
end
end DL
/-! DLh: the rules in the forms that a walk by syntax applies. -/
namespace DL
open PySem PySem.Spec PyProof.Rows L2

/-- the module leaves these built-in names alone -/
structure Zs (mg : Str → Option Value) : Prop where
  int : mg "int" = none
  bool : mg "bool" = none
  str : mg "str" = none
  list : mg "list" = none
  tuple : mg "tuple" = none
  len : mg "len" = none
  isi : mg "isinstance" = none
  abs : mg "abs" = none
  min : mg "min" = none
  max : mg "max" = none
  any : mg "any" = none
  all : mg "all" = none
  sum : mg "sum" = none
  range : mg "range" = none
  zip : mg "zip" = none
  enum : mg "enumerate" = none
  repr : mg "repr" = none
  sorted : mg "sorted" = none
  dict : mg "dict" = none
theorem bt_int : bootBuiltins "int" = some (.type "int") := by first | exact boot_int | exact PyProof.Rows.boot_int | decide +kernel
theorem bt_bool : bootBuiltins "bool" = some (.type "bool") := boot_bool
theorem bt_str : bootBuiltins "str" = some (.type "str") := boot_str
theorem bt_list : bootBuiltins "list" = some (.type "list") := boot_list
theorem bt_tuple : bootBuiltins "tuple" = some (.type "tuple") := by first | exact boot_tuple | exact PyProof.Rows.boot_tuple | decide +kernel
theorem bt_len : bootBuiltins "len" = some (.builtin "len") := PySem.boot_len
theorem bt_isi : bootBuiltins "isinstance" = some (.builtin "isinstance") := PyProof.Rows.boot_isinstance
theorem bt_abs : bootBuiltins "abs" = some (.builtin "abs") := boot_abs
theorem bt_min : bootBuiltins "min" = some (.builtin "min") := boot_min
theorem bt_max : bootBuiltins "max" = some (.builtin "max") := boot_max
theorem bt_any : bootBuiltins "any" = some (.builtin "any") := boot_any
theorem bt_all : bootBuiltins "all" = some (.builtin "all") := boot_all
theorem bt_sum : bootBuiltins "sum" = some (.builtin "sum") := boot_sum

/-- ** of ints of at most a thousand bits -/
def CPowW (i j : Int) : Prop := 0 ≤ j ∧ j ≤ 100 ∧ i.natAbs < 2 ^ 1000
theorem op_powW {X : Cx} : OpR X (binaryOp .Pow) (rI CPowW fun i j => .int (i ^ j.toNat)) := opI fun i j _ _ _ _ _ hc q => pow_int hc.1 (by
  obtain ⟨h0, h1, h2⟩ := hc
  have b : Builtin.Int.intBits i ≤ 1000 := by
    unfold Builtin.Int.intBits
    split
    · exact Nat.zero_le _
    · rename_i h
      have := (Nat.log2_lt (n := i.natAbs) (k := 1000) (by simpa using h)).mpr h2
      omega
  have : (Builtin.Int.intBits i : Int) * j ≤ 1000 * 100 := Int.mul_le_mul (by omega) h1 h0 (by decide)
  exact Int.le_trans this (by decide)) q
section
variable {X : Cx} {e a b : Expr} {es : List Expr} {env : DEnv} {C : CS} {k : KD} {pos p p1 p2 : Pos} {kb : Bool → CS → Prop}
theorem we_len (Z : Zs X.mg) (hg : Gl X "len") (h : WA X (e :: es) env C fun ds C1 => dLen ds C1 k) (he : starEach (e :: es) X.env = (false, eval e X.env) :: starEach es X.env := by rfl) (hpl : (backTo pos (starEach es X.env)).any (·.1) = false := by rfl) : WE X (.Call (.Name "len" p) (e :: es) [] pos) env C k := we_cb Z.len call_len rl_len hg bt_len h (he := he) (hpl := hpl)
theorem we_isi (Z : Zs X.mg) (hg : Gl X "isinstance") (h : WA X (e :: es) env C fun ds C1 => dIsi ds C1 k) (he : starEach (e :: es) X.env = (false, eval e X.env) :: starEach es X.env := by rfl) (hpl : (backTo pos (starEach es X.env)).any (·.1) = false := by rfl) : WE X (.Call (.Name "isinstance" p) (e :: es) [] pos) env C k := we_cb Z.isi call_isi rl_isi hg bt_isi h (he := he) (hpl := hpl)
theorem we_abs (Z : Zs X.mg) (hg : Gl X "abs") (h : WA X (e :: es) env C fun ds C1 => dInt1 (fun i => if i < 0 then -i else i) ds C1 k) (he : starEach (e :: es) X.env = (false, eval e X.env) :: starEach es X.env := by rfl) (hpl : (backTo pos (starEach es X.env)).any (·.1) = false := by rfl) : WE X (.Call (.Name "abs" p) (e :: es) [] pos) env C k := we_cb Z.abs call_abs rl_int1 hg bt_abs h (he := he) (hpl := hpl)
theorem we_max2 (hc : X.calm = true) (Z : Zs X.mg) (hg : Gl X "max") (h : WA X [a, b] env C fun ds C1 => dInt2 (fun i j => if j > i then j else i) ds C1 k) (he : starEach [a, b] X.env = (false, eval a X.env) :: starEach [b] X.env := by rfl) (hpl : (backTo pos (starEach [b] X.env)).any (·.1) = false := by rfl) : WE X (.Call (.Name "max" p) [a, b] [] pos) env C k := we_cb Z.max (call_max2 hc) rl_int2 hg bt_max h (he := he) (hpl := hpl)
theorem we_min2 (hc : X.calm = true) (Z : Zs X.mg) (hg : Gl X "min") (h : WA X [a, b] env C fun ds C1 => dInt2 (fun i j => if j < i then j else i) ds C1 k) (he : starEach [a, b] X.env = (false, eval a X.env) :: starEach [b] X.env := by rfl) (hpl : (backTo pos (starEach [b] X.env)).any (·.1) = false := by rfl) : WE X (.Call (.Name "min" p) [a, b] [] pos) env C k := we_cb Z.min (call_min2 hc) rl_int2 hg bt_min h (he := he) (hpl := hpl)
theorem we_minL (hc : X.calm = true) (Z : Zs X.mg) (hg : Gl X "min") (h : WA X [a] env C fun ds C1 => dMinL ds C1 k) (he : starEach [a] X.env = (false, eval a X.env) :: starEach [] X.env := by rfl) (hpl : (backTo pos (starEach [] X.env)).any (·.1) = false := by rfl) : WE X (.Call (.Name "min" p) [a] [] pos) env C k := we_cb Z.min (cr_min hc) rl_minL hg bt_min h (he := he) (hpl := hpl)
theorem we_any (hc : X.calm = true) (Z : Zs X.mg) (hg : Gl X "any") (h : WA X (e :: es) env C fun ds C1 => dAny ds C1 k) (he : starEach (e :: es) X.env = (false, eval e X.env) :: starEach es X.env := by rfl) (hpl : (backTo pos (starEach es X.env)).any (·.1) = false := by rfl) : WE X (.Call (.Name "any" p) (e :: es) [] pos) env C k := we_cb Z.any (cr_any hc) rl_any hg bt_any h (he := he) (hpl := hpl)
theorem we_all (hc : X.calm = true) (Z : Zs X.mg) (hg : Gl X "all") (h : WA X (e :: es) env C fun ds C1 => dAll ds C1 k) (he : starEach (e :: es) X.env = (false, eval e X.env) :: starEach es X.env := by rfl) (hpl : (backTo pos (starEach es X.env)).any (·.1) = false := by rfl) : WE X (.Call (.Name "all" p) (e :: es) [] pos) env C k := we_cb Z.all (cr_all hc) rl_all hg bt_all h (he := he) (hpl := hpl)
theorem we_sum (hc : X.calm = true) (Z : Zs X.mg) (hg : Gl X "sum") (h : WA X (e :: es) env C fun ds C1 => dSum ds C1 k) (he : starEach (e :: es) X.env = (false, eval e X.env) :: starEach es X.env := by rfl) (hpl : (backTo pos (starEach es X.env)).any (·.1) = false := by rfl) : WE X (.Call (.Name "sum" p) (e :: es) [] pos) env C k := we_cb Z.sum (cr_sum hc) rl_sum hg bt_sum h (he := he) (hpl := hpl)
theorem we_intC (Z : Zs X.mg) (hg : Gl X "int") (h : WA X (e :: es) env C fun ds C1 => dInt ds C1 k) (he : starEach (e :: es) X.env = (false, eval e X.env) :: starEach es X.env := by rfl) (hpl : (backTo pos (starEach es X.env)).any (·.1) = false := by rfl) : WE X (.Call (.Name "int" p) (e :: es) [] pos) env C k := we_ct Z.int call_int1 rl_int hg bt_int h (he := he) (hpl := hpl)
theorem we_strC (Z : Zs X.mg) (hg : Gl X "str") (h : WA X (e :: es) env C fun ds C1 => dStrInt ds C1 k) (he : starEach (e :: es) X.env = (false, eval e X.env) :: starEach es X.env := by rfl) (hpl : (backTo pos (starEach es X.env)).any (·.1) = false := by rfl) : WE X (.Call (.Name "str" p) (e :: es) [] pos) env C k := we_ct Z.str call_str_int rl_str hg bt_str h (he := he) (hpl := hpl)
theorem we_tupleC (Z : Zs X.mg) (hg : Gl X "tuple") (h : WA X (e :: es) env C fun ds C1 => dTuple ds C1 k) (he : starEach (e :: es) X.env = (false, eval e X.env) :: starEach es X.env := by rfl) (hpl : (backTo pos (starEach es X.env)).any (·.1) = false := by rfl) : WE X (.Call (.Name "tuple" p) (e :: es) [] pos) env C k := we_ct Z.tuple call_tuple_of rl_tuple hg bt_tuple h (he := he) (hpl := hpl)
theorem we_listC (Z : Zs X.mg) (hg : Gl X "list") (h : WA X (e :: es) env C fun ds C1 => dList ds C1 k) (he : starEach (e :: es) X.env = (false, eval e X.env) :: starEach es X.env := by rfl) (hpl : (backTo pos (starEach es X.env)).any (·.1) = false := by rfl) : WE X (.Call (.Name "list" p) (e :: es) [] pos) env C k := we_ct Z.list call_list_of rl_list hg bt_list h (he := he) (hpl := hpl)
theorem we_tyInt (Z : Zs X.mg) (hg : Gl X "int") (h : k (.opq (.ty "int")) C) : WE X (.Name "int" pos) env C k := we_bty Z.int hg bt_int h
theorem we_tyBool (Z : Zs X.mg) (hg : Gl X "bool") (h : k (.opq (.ty "bool")) C) : WE X (.Name "bool" pos) env C k := we_bty Z.bool hg bt_bool h
theorem we_tyStr (Z : Zs X.mg) (hg : Gl X "str") (h : k (.opq (.ty "str")) C) : WE X (.Name "str" pos) env C k := we_bty Z.str hg bt_str h
theorem we_tyList (Z : Zs X.mg) (hg : Gl X "list") (h : k (.opq (.ty "list")) C) : WE X (.Name "list" pos) env C k := we_bty Z.list hg bt_list h
theorem we_tyTuple (Z : Zs X.mg) (hg : Gl X "tuple") (h : k (.opq (.ty "tuple")) C) : WE X (.Name "tuple" pos) env C k := we_bty Z.tuple hg bt_tuple h

/-! operators by their sign -/
theorem we_add (h : WE X a env C fun x C1 => WE X b env C1 fun y C2 => dAdd x y C2 k) : WE X (.BinOp a .Add b pos) env C k := we_op op_addA r2_add h
theorem we_sub' (h : WE X a env C fun x C1 => WE X b env C1 fun y C2 => dI2 (fun i j => i - j) (fun _ _ => True) x y C2 k) : WE X (.BinOp a .Sub b pos) env C k := we_op op_sub r2_I0 h
theorem we_mul (h : WE X a env C fun x C1 => WE X b env C1 fun y C2 => dMul x y C2 k) : WE X (.BinOp a .Mult b pos) env C k := we_op op_mulA r2_mul h
theorem we_mod (h : WE X a env C fun x C1 => WE X b env C1 fun y C2 => dI2 (fun i j => i % j) (fun _ j => 0 < j) x y C2 k) : WE X (.BinOp a .Mod b pos) env C k := we_op op_mod r2_I h
theorem we_fdiv (h : WE X a env C fun x C1 => WE X b env C1 fun y C2 => dI2 (fun i j => i / j) CDiv x y C2 k) : WE X (.BinOp a .FloorDiv b pos) env C k := we_op op_fdiv r2_I h
theorem we_pow (h : WE X a env C fun x C1 => WE X b env C1 fun y C2 => dI2 (fun i j => i ^ j.toNat) CPowW x y C2 k) : WE X (.BinOp a .Pow b pos) env C k := we_op op_powW r2_I h
theorem we_neg (h : WE X a env C fun x C1 => ∃ i, x = .int i ∧ k (.int (-i)) C1) : WE X (.UnaryOp .USub a pos) env C k := we_un (p := fun x C k => ∃ i, x = .int i ∧ k (.int (-i)) C) un_neg (by
  rintro x d G C H k Q w r ⟨i, rfl, hk⟩ q
  cases r
  exact ⟨i, rfl, q _ _ _ _ _ (Fr.refl ..) w (.int _) hk⟩) h
theorem we_lt (h : WE X a env C fun x C1 => WE X b env C1 fun y C2 => dB2 (fun i j => decide (i < j)) x y C2 k) : WE X (.Compare a [.Lt] [b] pos) env C k := we_cmp op_lt r2_B h (nomark _)
theorem we_le (h : WE X a env C fun x C1 => WE X b env C1 fun y C2 => dB2 (fun i j => decide (i ≤ j)) x y C2 k) : WE X (.Compare a [.LtE] [b] pos) env C k := we_cmp op_le r2_B h (nomark _)
theorem we_gt (h : WE X a env C fun x C1 => WE X b env C1 fun y C2 => dB2 (fun i j => decide (j < i)) x y C2 k) : WE X (.Compare a [.Gt] [b] pos) env C k := we_cmp op_gt r2_B h (nomark _)
theorem we_ge (h : WE X a env C fun x C1 => WE X b env C1 fun y C2 => dB2 (fun i j => decide (j ≤ i)) x y C2 k) : WE X (.Compare a [.GtE] [b] pos) env C k := we_cmp op_ge r2_B h (nomark _)
theorem we_eq {m : Nat} (hr : Room m X.A) (h : WE X a env C fun x C1 => WE X b env C1 fun y C2 => dEq false x y C2 k) : WE X (.Compare a [.Eq] [b] pos) env C k := we_cmp (OpR.or (op_eqD hr.units) op_eq) r2_eq h (nomark _)
theorem we_ne {m : Nat} (hr : Room m X.A) (h : WE X a env C fun x C1 => WE X b env C1 fun y C2 => dEq true x y C2 k) : WE X (.Compare a [.NotEq] [b] pos) env C k := we_cmp (OpR.or (op_neD hr.units) op_ne) r2_ne h (nomark _)
theorem we_is (h : WE X a env C fun x C1 => WE X b env C1 fun y C2 => dIsN false x y C2 k) : WE X (.Compare a [.Is] [b] pos) env C k := we_cmp op_isN r2_isN h (nomark _)
theorem we_isnot (h : WE X a env C fun x C1 => WE X b env C1 fun y C2 => dIsN true x y C2 k) : WE X (.Compare a [.IsNot] [b] pos) env C k := we_cmp op_notN r2_notN h (nomark _)
theorem Room.u65 {m : Nat} {A : Around} (r : Room m A) : A.units + 65 < cLine := by have := r.un; omega
/-! ### a text in a tuple of texts -/
def dInT (neg : Bool) : OpD := fun x y C k => ∃ (z : Str) (zs : List Str), x = .str z ∧ y = .tup (zs.map D.str) ∧ k (.bl (if neg = true then !decide (z ∈ zs) else decide (z ∈ zs))) C
theorem inV_strs (z : Str) : ∀ zs : List Str, inV (.str z) (zs.map V.str) = decide (z ∈ zs)
  | [] => rfl
  | y :: zs => by
    unfold inV
    rw [List.map_cons, List.any_cons]
    have ih := inV_strs z zs
    unfold inV at ih
    rw [ih]
    by_cases h : y = z
    · subst h; simp [eqV]
    · have h' : ¬ z = y := fun e => h e.symm
      simp [eqV, h, h']
theorem flat_strs : ∀ zs : List Str, (zs.map V.str).all flatV = true
  | [] => rfl
  | y :: zs => by rw [List.map_cons, List.all_cons, flat_strs zs]; rfl
theorem r2_inT {K : PySem.W.Frag} : R2D K (rIn K false) (dInT false) := by
  rintro x y a b G C H k Q w da db ⟨z, zs, rfl, rfl, h⟩ q
  cases da
  obtain ⟨l, vs, rfl, h1, h2⟩ := w.tup db
  have := datAll_strs h2
  subst this
  refine ⟨l, _, rfl, .inr h1, rfl, flat_strs zs, ?_⟩
  rw [if_neg (by decide), inV_strs]
  exact q _ _ _ _ _ (Fr.refl ..) w (.bl _) h
theorem r2_ninT {K : PySem.W.Frag} : R2D K (rIn K true) (dInT true) := by
  rintro x y a b G C H k Q w da db ⟨z, zs, rfl, rfl, h⟩ q
  cases da
  obtain ⟨l, vs, rfl, h1, h2⟩ := w.tup db
  have := datAll_strs h2
  subst this
  refine ⟨l, _, rfl, .inr h1, rfl, flat_strs zs, ?_⟩
  rw [if_pos rfl, inV_strs]
  exact q _ _ _ _ _ (Fr.refl ..) w (.bl _) h
def dIn (neg : Bool) : OpD := fun x y C k => match y with
  | .str _ => dInS neg x y C k
  | .tup _ => dInT neg x y C k
  | _ => dInL neg x y C k
theorem r2_in {K : PySem.W.Frag} : R2D K (fun x y H Q => rInD K x y H Q ∨ (∃ (c : Nat) (z : Str), x = .str ⟨#[c]⟩ ∧ y = .str z ∧ Q (.bl (decide (c ∈ z.cps.toList))) H) ∨ rIn K false x y H Q) (dIn false) := by
  intro x y a b G C H k Q w da db h q
  unfold dIn at h
  split at h
  · exact .inr (.inl (r2_inS (K := K) x y a _ G C H k Q w da db h q))
  · exact .inr (.inr (r2_inT x y a _ G C H k Q w da db h q))
  · exact .inl (r2_inL x y a _ G C H k Q w da db h q)
theorem r2_nin {K : PySem.W.Frag} : R2D K (fun x y H Q => rNotInD K x y H Q ∨ (∃ (c : Nat) (z : Str), x = .str ⟨#[c]⟩ ∧ y = .str z ∧ Q (.bl (!decide (c ∈ z.cps.toList))) H) ∨ rIn K true x y H Q) (dIn true) := by
  intro x y a b G C H k Q w da db h q
  unfold dIn at h
  split at h
  · exact .inr (.inl (r2_ninS (K := K) x y a _ G C H k Q w da db h q))
  · exact .inr (.inr (r2_ninT x y a _ G C H k Q w da db h q))
  · exact .inl (r2_ninL x y a _ G C H k Q w da db h q)
theorem we_in {m : Nat} (hr : Room m X.A) (h : WE X a env C fun x C1 => WE X b env C1 fun y C2 => dIn false x y C2 k) (hm : behindInMarks .In b = false := by rfl) : WE X (.Compare a [.In] [b] pos) env C k := we_cmp (OpR.or (op_inD (Room.u65 hr)) (OpR.or op_in_sign op_in_seq)) r2_in h hm
theorem we_nin {m : Nat} (hr : Room m X.A) (h : WE X a env C fun x C1 => WE X b env C1 fun y C2 => dIn true x y C2 k) (hm : behindInMarks .NotIn b = false := by rfl) : WE X (.Compare a [.NotIn] [b] pos) env C k := we_cmp (OpR.or (op_notInD (Room.u65 hr)) (OpR.or op_notIn_sign op_notIn_seq)) r2_nin h hm
abbrev tb (kb : Bool → CS → Prop) : KD := fun d C => ∃ t, d = .bl t ∧ kb t C
theorem wt_lt (h : WE X a env C fun x C1 => WE X b env C1 fun y C2 => dB2 (fun i j => decide (i < j)) x y C2 (tb kb)) : WT X (.Compare a [.Lt] [b] pos) env C kb := wt_cmp op_lt r2_B h (nomark _)
theorem wt_le (h : WE X a env C fun x C1 => WE X b env C1 fun y C2 => dB2 (fun i j => decide (i ≤ j)) x y C2 (tb kb)) : WT X (.Compare a [.LtE] [b] pos) env C kb := wt_cmp op_le r2_B h (nomark _)
theorem wt_gt (h : WE X a env C fun x C1 => WE X b env C1 fun y C2 => dB2 (fun i j => decide (j < i)) x y C2 (tb kb)) : WT X (.Compare a [.Gt] [b] pos) env C kb := wt_cmp op_gt r2_B h (nomark _)
theorem wt_ge (h : WE X a env C fun x C1 => WE X b env C1 fun y C2 => dB2 (fun i j => decide (j ≤ i)) x y C2 (tb kb)) : WT X (.Compare a [.GtE] [b] pos) env C kb := wt_cmp op_ge r2_B h (nomark _)
theorem wt_eq {m : Nat} (hr : Room m X.A) (h : WE X a env C fun x C1 => WE X b env C1 fun y C2 => dEq false x y C2 (tb kb)) : WT X (.Compare a [.Eq] [b] pos) env C kb := wt_cmp (OpR.or (op_eqD hr.units) op_eq) r2_eq h (nomark _)
theorem wt_ne {m : Nat} (hr : Room m X.A) (h : WE X a env C fun x C1 => WE X b env C1 fun y C2 => dEq true x y C2 (tb kb)) : WT X (.Compare a [.NotEq] [b] pos) env C kb := wt_cmp (OpR.or (op_neD hr.units) op_ne) r2_ne h (nomark _)
theorem wt_is (h : WE X a env C fun x C1 => WE X b env C1 fun y C2 => dIsN false x y C2 (tb kb)) : WT X (.Compare a [.Is] [b] pos) env C kb := wt_cmp op_isN r2_isN h (nomark _)
theorem wt_isnot (h : WE X a env C fun x C1 => WE X b env C1 fun y C2 => dIsN true x y C2 (tb kb)) : WT X (.Compare a [.IsNot] [b] pos) env C kb := wt_cmp op_notN r2_notN h (nomark _)
theorem wt_in {m : Nat} (hr : Room m X.A) (h : WE X a env C fun x C1 => WE X b env C1 fun y C2 => dIn false x y C2 (tb kb)) (hm : behindInMarks .In b = false := by rfl) : WT X (.Compare a [.In] [b] pos) env C kb := wt_cmp (OpR.or (op_inD (Room.u65 hr)) (OpR.or op_in_sign op_in_seq)) r2_in h hm
theorem wt_nin {m : Nat} (hr : Room m X.A) (h : WE X a env C fun x C1 => WE X b env C1 fun y C2 => dIn true x y C2 (tb kb)) (hm : behindInMarks .NotIn b = false := by rfl) : WT X (.Compare a [.NotIn] [b] pos) env C kb := wt_cmp (OpR.or (op_notInD (Room.u65 hr)) (OpR.or op_notIn_sign op_notIn_seq)) r2_nin h hm
end

/-! ### names by place -/
/-- a name's value, found by syntax -/
inductive Get : List Str → Str → DEnv → D → Prop where
  | here (x : Str) (N : List Str) (d : D) (l : DEnv) : Get (x :: N) x (some d :: l) d
  | there (y : Str) (o : Option D) {x : Str} {N : List Str} {l : DEnv} {d : D} (h : Get N x l d) : Get (y :: N) x (o :: l) d
/-- the places behind a store -/
inductive Put : List Str → Str → DEnv → (D → DEnv) → Prop where
  | here (x : Str) (N : List Str) (o : Option D) (l : DEnv) : Put (x :: N) x (o :: l) fun d => some d :: l
  | there (y : Str) (o : Option D) {x : Str} {N : List Str} {l : DEnv} {f : D → DEnv} (h : Put N x l f) : Put (y :: N) x (o :: l) fun d => o :: f d
theorem Get.get {N : List Str} {x : Str} {env : DEnv} {d : D} (h : Get N x env d) : ∃ i : Nat, N[i]? = some x ∧ env[i]? = some (some d) := by
  induction h with
  | here => exact ⟨0, rfl, rfl⟩
  | there y o _ ih => obtain ⟨i, h1, h2⟩ := ih; exact ⟨i + 1, by simpa using h1, by simpa using h2⟩
theorem Put.set {N : List Str} {x : Str} {env : DEnv} {f : D → DEnv} (h : Put N x env f) : ∃ i : Nat, N[i]? = some x ∧ (∀ d, env.set i (some d) = f d) ∧ ∀ d, (wipeD env [i]).set i (some d) = f d := by
  induction h with
  | here => exact ⟨0, rfl, fun _ => rfl, fun _ => rfl⟩
  | there y o _ ih =>
    obtain ⟨i, h1, h2, h3⟩ := ih
    refine ⟨i + 1, by simpa using h1, fun d => by simpa using h2 d, fun d => ?_⟩
    have := h3 d
    simp only [wipeD] at this ⊢
    simpa using this
/-- x stands in a written list -/
inductive Mem : Str → List Str → Prop where
  | here (x : Str) (l : List Str) : Mem x (x :: l)
  | there (y : Str) {x : Str} {l : List Str} (h : Mem x l) : Mem x (y :: l)
theorem Mem.mem {x : Str} {l : List Str} (h : Mem x l) : x ∈ l := by
  induction h with
  | here => exact List.mem_cons_self
  | there y _ ih => exact List.mem_cons_of_mem _ ih
/-- a context's own names: by place; those that are read -/
structure Nms (X : Cx) (N M : List Str) : Prop where
  n : X.N = N
  nd : X.N.Nodup
  vis : ∀ y ∈ M, Vis X.env.scope y
  ndb : ∀ y ∈ M, (y == ("__debug__" : Str)) = false
  ncd : ∀ y ∈ M, (y == ("__classdict__" : Str)) = false
/-- .. those that may be stored -/
structure Sts (X : Cx) (N M : List Str) : Prop where
  n : X.N = N
  nd : X.N.Nodup
  loc : ∀ y ∈ M, Loc X.env.scope y
  fn : ∀ y ∈ M, X.fn y = true ∨ X.env.scope.names.lookup y = some .local
section
variable {X : Cx} {e : Expr} {env : DEnv} {C : CS} {k : KD} {pos pos' : Pos} {E : DEnds} {N M : List Str} {i : Nat} {x : Str} {d : D} {f : D → DEnv}
theorem we_nm (B : Nms X N M) (hm' : Mem x M) (hi : Get N x env d) (h : k d C) : WE X (.Name x pos) env C k := by
  obtain ⟨i, h1, h2⟩ := hi.get
  have hm : x ∈ M := hm'.mem
  exact we_var (by rw [B.n]; exact h1) (B.vis x hm) h2 h (B.ndb x hm) (B.ncd x hm)
theorem ws_nm (B : Sts X N M) (hm' : Mem x M) (hi : Put N x env f) (h : WE X e env C fun d C1 => E.nx (f d) C1) (hs : swapsWith e (some (.Name x pos')) pos.line X.env = pure false := by rfl) : WS X (.Assign [.Name x pos'] e pos) env C E := by
  obtain ⟨i, h1, h2, _⟩ := hi.set
  have hm : x ∈ M := hm'.mem
  exact ws_set (i := i) B.nd (by rw [B.n]; exact h1) (B.loc x hm) (h.imp fun d C' z => by rw [h2]; exact z) hs (B.fn x hm)
theorem wg_nm {kE : DEnv → CS → Prop} (B : Sts X N M) (hm' : Mem x M) (hi : Put N x env f) (h : kE (f d) C) : WG X (.Name x pos) d env C kE := by
  obtain ⟨i, h1, h2, _⟩ := hi.set
  have hm : x ∈ M := hm'.mem
  exact wg_name (i := i) B.nd (by rw [B.n]; exact h1) (B.loc x hm) (by rw [h2]; exact h) (B.fn x hm)
theorem ws_augNm {op : Operator} {ti : TIp} {p : OpD} (B : Sts X N M) (hm' : Mem x M) (hg : Get N x env d) (hi : Put N x env f) (ho : PIp X op ti) (hr : RID X.K ti p) (h : WE X e env C fun y C1 => p d y C1 fun z C2 => E.nx (f z) C2) : WS X (.AugAssign (.Name x pos') op e pos) env C E := by
  obtain ⟨i, h1, h2, _⟩ := hi.set
  obtain ⟨j, h3, h4⟩ := hg.get
  have hm : x ∈ M := hm'.mem
  have nd := B.nd
  rw [B.n] at nd
  have hij : i = j := nodup_ix nd h1 h3
  subst hij
  exact ws_aug (i := i) B.nd (by rw [B.n]; exact h1) (B.loc x hm) ho hr h4 (by simpa only [h2] using h) (B.fn x hm)
theorem ws_augAdd (B : Sts X N M) (hm' : Mem x M) (hg : Get N x env d) (hi : Put N x env f) (h : WE X e env C fun y C1 => dI2 (fun i j => i + j) (fun _ _ => True) d y C1 fun z C2 => E.nx (f z) C2) : WS X (.AugAssign (.Name x pos') .Add e pos) env C E :=
  ws_augNm B hm' hg hi ip_add (p := dI2 (fun i j => i + j) fun _ _ => True) (by
    rintro x y a b G C H k Q w da db ⟨i, j, rfl, rfl, _, hk⟩ q
    cases da; cases db
    exact ⟨i, j, rfl, rfl, q _ _ _ _ _ (Fr.refl ..) w (.int _) hk⟩) h
/-- the globals that a context reads -/
structure Gls (X : Cx) (gs : List Str) : Prop where
  gl : ∀ y ∈ gs, Gl X y
end
theorem Gls.at {X : Cx} {gs : List Str} {x : Str} (B : Gls X gs) (h : Mem x gs) : Gl X x := B.gl x h.mem

/-- looks at a scope, by computation -/
def locC (sc : Scope) (N : List Str) : Bool := N.all fun y => (sc.names.lookup y == some .local || sc.names.lookup y == some .cell) && !(y == ("__debug__" : Str)) && !(y == ("__classdict__" : Str))
def visC (sc : Scope) (N : List Str) : Bool := N.all fun y => (sc.names.lookup y == some .local || sc.names.lookup y == some .cell || sc.names.lookup y == some .free) && !(y == ("__debug__" : Str)) && !(y == ("__classdict__" : Str))
def onlyC (sc : Scope) (N : List Str) : Bool := N.all fun y => sc.names.lookup y == some .local
def glC (sc : Scope) (gs : List Str) : Bool := gs.all fun y => sc.names.lookup y == some .globalImplicit
theorem nk_eq {a b : Option NameKind} (h : (a == b) = true) : a = b := by
  cases a <;> cases b <;> first | rfl | (rename_i x y; cases x <;> cases y <;> first | rfl | (exact absurd h (by decide))) | (exact absurd h (by decide)) | (rename_i x; cases x <;> exact absurd h (by decide))
theorem nms_of {X : Cx} {N M : List Str} {sc : Scope} (hn : X.N = N) (hs : X.env.scope = sc) (nd : X.N.Nodup) (h : visC sc M = true) : Nms X N M := by
  unfold visC at h
  rw [List.all_eq_true] at h
  refine ⟨hn, nd, fun y hy => ?_, fun y hy => ?_, fun y hy => ?_⟩
  · have q := h y hy
    simp only [Bool.and_eq_true, Bool.or_eq_true] at q
    rw [hs]
    rcases q.1.1 with (q | q) | q
    · exact .inl (nk_eq q)
    · exact .inr (.inl (nk_eq q))
    · exact .inr (.inr (nk_eq q))
  · have q := h y hy
    simp only [Bool.and_eq_true, Bool.not_eq_true'] at q
    exact q.1.2
  · have q := h y hy
    simp only [Bool.and_eq_true, Bool.not_eq_true'] at q
    exact q.2
theorem sts_of {X : Cx} {N M : List Str} {sc : Scope} (hn : X.N = N) (hs : X.env.scope = sc) (nd : X.N.Nodup) (h : locC sc M = true) (hf : ∀ y, X.fn y = true) : Sts X N M := by
  unfold locC at h
  rw [List.all_eq_true] at h
  refine ⟨hn, nd, fun y hy => ?_, fun y _ => .inl (hf y)⟩
  have q := h y hy
  simp only [Bool.and_eq_true, Bool.or_eq_true] at q
  rw [hs]
  rcases q.1.1 with q | q
  · exact .inl (nk_eq q)
  · exact .inr (nk_eq q)
theorem gls_of {X : Cx} {gs : List Str} {sc : Scope} (hs : X.env.scope = sc) (h : glC sc gs = true) : Gls X gs := by
  unfold glC at h
  rw [List.all_eq_true] at h
  refine ⟨fun y hy => ?_⟩
  show X.env.kindOf y = some .globalImplicit
  unfold Env.kindOf
  rw [hs]
  exact nk_eq (h y hy)
end DL
/-! DLi: small steps by data. -/
namespace DL
open PySem PySem.Spec PyProof.Rows L2

def D.isIntB : D → Bool
  | .int _ => true
  | .bl _ => true
  | _ => false
def D.isBl : D → Bool
  | .bl _ => true
  | _ => false
def D.isStr : D → Bool
  | .str _ => true
  | _ => false
def D.isLst : D → Bool
  | .lst _ => true
  | .slst _ => true
  | _ => false
def D.isTup : D → Bool
  | .tup _ => true
  | _ => false
def D.isNon : D → Bool
  | .non => true
  | _ => false
/-- data whose kind shows -/
def D.kind : D → Bool
  | .non | .bl _ | .int _ | .str _ | .lst _ | .slst _ | .tup _ => true
  | _ => false
theorem kind_of_py {x : D} (h : x.isPy = true) : x.kind = true := by cases x <;> first | rfl | (simp [D.isPy] at h)
section
variable {C : CS} {k : KD} {kb : Bool → CS → Prop} {x y : D} {i j : Int} {b : Bool} {xs ys : List D} {s t : Str} {a : Addr}
theorem isi_int (h : x.kind = true) (q : k (.bl x.isIntB) C) : dIsi [x, .opq (.ty "int")] C k := by
  cases x <;> first | exact ⟨_, _, _, true, rfl, rfl, by decide +kernel, q⟩ | exact ⟨_, _, _, false, rfl, rfl, by decide +kernel, q⟩ | (simp [D.kind] at h; done)
theorem isi_bool (h : x.kind = true) (q : k (.bl x.isBl) C) : dIsi [x, .opq (.ty "bool")] C k := by
  cases x <;> first | exact ⟨_, _, _, true, rfl, rfl, by decide +kernel, q⟩ | exact ⟨_, _, _, false, rfl, rfl, by decide +kernel, q⟩ | (simp [D.kind] at h; done)
theorem isi_str (h : x.kind = true) (q : k (.bl x.isStr) C) : dIsi [x, .opq (.ty "str")] C k := by
  cases x <;> first | exact ⟨_, _, _, true, rfl, rfl, by decide +kernel, q⟩ | exact ⟨_, _, _, false, rfl, rfl, by decide +kernel, q⟩ | (simp [D.kind] at h; done)
theorem isi_list (h : x.kind = true) (q : k (.bl x.isLst) C) : dIsi [x, .opq (.ty "list")] C k := by
  cases x <;> first | exact ⟨_, _, _, true, rfl, rfl, by decide +kernel, q⟩ | exact ⟨_, _, _, false, rfl, rfl, by decide +kernel, q⟩ | (simp [D.kind] at h; done)
theorem isi_tuple (h : x.kind = true) (q : k (.bl x.isTup) C) : dIsi [x, .opq (.ty "tuple")] C k := by
  cases x <;> first | exact ⟨_, _, _, true, rfl, rfl, by decide +kernel, q⟩ | exact ⟨_, _, _, false, rfl, rfl, by decide +kernel, q⟩ | (simp [D.kind] at h; done)
theorem i2_ok {f : Int → Int → Int} {P : Int → Int → Prop} (h : P i j) (q : k (.int (f i j)) C) : dI2 f P (.int i) (.int j) C k := ⟨i, j, rfl, rfl, h, q⟩
theorem b2_ok {f : Int → Int → Bool} (q : k (.bl (f i j)) C) : dB2 f (.int i) (.int j) C k := ⟨i, j, rfl, rfl, q⟩
theorem add_ii (q : k (.int (i + j)) C) : dAdd (.int i) (.int j) C k := q
theorem add_ss (h : s.length + t.length ≤ sizeLine) (q : k (.str (s ++ t)) C) : dAdd (.str s) (.str t) C k := ⟨h, q⟩
theorem add_tt (h : xs.length + ys.length ≤ sizeLine) (q : k (.tup (xs ++ ys)) C) : dAdd (.tup xs) (.tup ys) C k := ⟨h, q⟩
theorem mul_ii (h : CMul i j) (q : k (.int (i * j)) C) : dMul (.int i) (.int j) C k := ⟨h, q⟩
theorem tb_ok (q : kb b C) : tb kb (.bl b) C := ⟨b, rfl, q⟩
theorem len_tup (q : k (.int (xs.length : Nat)) C) : dLen [.tup xs] C k := ⟨_, _, rfl, rfl, q⟩
theorem len_str (h : s.length ≤ sizeLine) (q : k (.int (s.length : Nat)) C) : dLen [.str s] C k := ⟨_, _, rfl, ⟨h, rfl⟩, q⟩
theorem len_fr (q : k (.int (xs.length : Nat)) C) : dLen [.lst xs] C k := ⟨_, _, rfl, ⟨xs, rfl, rfl⟩, q⟩
theorem len_sl (q : k (.int (xs.length : Nat)) C) : dLen [.slst xs] C k := ⟨_, _, rfl, ⟨xs, rfl, rfl⟩, q⟩
theorem len_own (h : C a = some (.lst xs)) (q : k (.int (xs.length : Nat)) C) : dLen [.own a] C k := ⟨_, _, rfl, ⟨xs, seqR_own h, rfl⟩, q⟩
theorem ix_t {d : D} (h : atI xs i = some d) (q : k d C) : dIx (.tup xs) (.int i) C k := ⟨d, h, q⟩
theorem ix_f {d : D} (h : atI xs i = some d) (q : k d C) : dIx (.lst xs) (.int i) C k := ⟨xs, d, rfl, h, q⟩
theorem ix_s {d : D} (h : atI xs i = some d) (q : k d C) : dIx (.slst xs) (.int i) C k := ⟨xs, d, rfl, h, q⟩
theorem ix_o {d : D} (hc : C a = some (.lst xs)) (h : atI xs i = some d) (q : k d C) : dIx (.own a) (.int i) C k := ⟨xs, d, seqR_own hc, h, q⟩
theorem ix_z {c : Nat} (hl : s.length ≤ sizeLine) (h : atI s.cps.toList i = some c) (q : k (.str ⟨#[c]⟩) C) : dIx (.str s) (.int i) C k := ⟨hl, c, h, q⟩
theorem sl_t {lo hi : Option Int} (q : k (.tup (cutD xs lo hi)) C) : dSl (.tup xs) lo hi C k := q
theorem sl_z {lo hi : Option Int} (hl : s.length ≤ sizeLine) (q : k (.str (cutS s lo hi)) C) : dSl (.str s) lo hi C k := ⟨hl, q⟩
theorem sl_f {lo hi : Option Int} (q : ∀ p, C p = none → k (.own p) (put C p (.lst (cutD xs lo hi)))) : dSl (.lst xs) lo hi C k := ⟨xs, rfl, q⟩
theorem sl_o {lo hi : Option Int} (hc : C a = some (.lst xs)) (q : ∀ p, C p = none → k (.own p) (put C p (.lst (cutD xs lo hi)))) : dSl (.own a) lo hi C k := ⟨xs, seqR_own hc, q⟩
theorem isn_k (h : x.kind = true) (q : k (.bl x.isNon) C) : dIsN false x .non C k := by
  refine ⟨rfl, ?_⟩
  cases x <;> first | exact q | (simp [D.kind] at h)
theorem nisn_k (h : x.kind = true) (q : k (.bl (!x.isNon)) C) : dIsN true x .non C k := by
  refine ⟨rfl, ?_⟩
  cases x <;> first | exact q | (simp [D.kind] at h)
theorem int1_ok {f : Int → Int} (q : k (.int (f i)) C) : dInt1 f [.int i] C k := ⟨i, rfl, q⟩
theorem int2_ok {f : Int → Int → Int} (q : k (.int (f i j)) C) : dInt2 f [.int i, .int j] C k := ⟨i, j, rfl, q⟩
theorem int_i (q : k (.int i) C) : dInt [.int i] C k := .inl ⟨i, rfl, q⟩
theorem int_b (q : k (.int (if b then 1 else 0)) C) : dInt [.bl b] C k := .inr ⟨b, rfl, q⟩
theorem ins_c {c : Nat} (q : k (.bl (decide (c ∈ s.cps.toList))) C) : dIn false (.str ⟨#[c]⟩) (.str s) C k := ⟨c, s, rfl, rfl, q⟩
theorem tup_t (q : k (.tup xs) C) : dTuple [.tup xs] C k := ⟨_, rfl, q⟩
theorem tup_f (q : k (.tup xs) C) : dTuple [.lst xs] C k := ⟨_, rfl, xs, rfl, q⟩
/-- equality of data -/
def D.ok (x : D) : Bool := x.isPy && SeqAt.shaped x.py
theorem eq_ok (hx : x.ok = true) (hy : y.ok = true) (q : k (.bl (PyData.eqv x.py y.py)) C) : dEq false x y C k := by
  unfold D.ok at hx hy
  rw [Bool.and_eq_true] at hx hy
  refine .inl ⟨x.py, y.py, ?_, ?_, hx.2, hy.2, q⟩
  · cases x <;> first | (unfold pyC; simp only [hx.1]; rfl) | (simp [D.isPy] at hx)
  · cases y <;> first | (unfold pyC; simp only [hy.1]; rfl) | (simp [D.isPy] at hy)
theorem ne_ok (hx : x.ok = true) (hy : y.ok = true) (q : k (.bl (!PyData.eqv x.py y.py)) C) : dEq true x y C k := by
  unfold D.ok at hx hy
  rw [Bool.and_eq_true] at hx hy
  refine .inl ⟨x.py, y.py, ?_, ?_, hx.2, hy.2, q⟩
  · cases x <;> first | (unfold pyC; simp only [hx.1]; rfl) | (simp [D.isPy] at hx)
  · cases y <;> first | (unfold pyC; simp only [hy.1]; rfl) | (simp [D.isPy] at hy)
theorem ne_sS (q : k (.bl (!(s == t))) C) : dEq true (.str s) (.str t) C k := .inr ⟨s, t, rfl, rfl, q⟩
theorem eq_ii (q : k (.bl (i == j)) C) : dEq false (.int i) (.int j) C k := .inl ⟨.int i, .int j, rfl, rfl, rfl, rfl, by simpa [PyData.eqv] using q⟩
theorem ne_ii (q : k (.bl (!(i == j))) C) : dEq true (.int i) (.int j) C k := .inl ⟨.int i, .int j, rfl, rfl, rfl, rfl, by simpa [PyData.eqv] using q⟩
end
end DL
namespace DL
theorem and_T {A B : Prop} (a : A) : (true = true → A) ∧ (true = false → B) := ⟨fun _ => a, fun h => Bool.noConfusion h⟩
theorem and_F {A B : Prop} (b : B) : (false = true → A) ∧ (false = false → B) := ⟨fun h => Bool.noConfusion h, fun _ => b⟩
theorem and_S {b : Bool} {A B : Prop} (h1 : b = true → A) (h2 : b = false → B) : (b = true → A) ∧ (b = false → B) := ⟨h1, h2⟩
theorem ex_bl {b : Bool} {A : Bool → Prop} (h : A b) : ∃ t, D.bl b = D.bl t ∧ A t := ⟨b, rfl, h⟩
theorem ex_int {i : Int} {A : Int → Prop} (h : A i) : ∃ t, D.int i = D.int t ∧ A t := ⟨i, rfl, h⟩
end DL
/-! DLj: comprehensions by names. -/
namespace DL
open PySem PySem.Spec PyProof.Rows L2

/-- a def's context -/
structure Dfc (X : Cx) (N : List Str) (dsc : Scope) : Prop where
  n : X.N = N
  nd : X.N.Nodup
  sc : X.env.scope = dsc
  calm : X.calm = true
def LcB (X : Cx) (elt : Expr) (ifs : List Expr) (scope : Scope) (N M gs : List Str) (f : D → DEnv) (xs : List D) (Pc : CS → Prop) (C1 : CS) (k : KD) : Prop := ∃ Iv : Nat → List D → CS → Prop, Iv 0 [] C1 ∧ (∀ j acc C, Iv j acc C → Pc C) ∧
  (∀ j d acc C, xs[j]? = some d → Iv j acc C → ∀ X', Blk X scope X' → Nms X' N M → Gls X' gs → WIf X' ifs (f d) C fun t C3 => (t = true → ∀ X', Blk X scope X' → Nms X' N M → Gls X' gs → WE X' elt (f d) C3 fun y C4 => acc.length < sizeLine ∧ Iv (j + 1) (acc ++ [y]) C4) ∧ (t = false → Iv (j + 1) acc C3)) ∧
  (∀ acc C, Iv xs.length acc C → ∀ p, C p = none → k (.own p) (put C p (.lst acc)))
section
variable {X : Cx} {elt iter : Expr} {ifs : List Expr} {scope dsc : Scope} {env : DEnv} {C C1 : CS} {k : KD} {pos px : Pos} {E : DEnds} {N M gs : List Str} {x : Str} {f : D → DEnv} {xs : List D} {Pc : CS → Prop}
theorem blk_nms (D0 : Dfc X N dsc) (hv : visC (relS scope dsc) M = true) : ∀ X', Blk X scope X' → Nms X' N M := by
  rintro X' ⟨s, H, Ca, cl, fp, rfl⟩
  exact nms_of (sc := relS scope dsc) D0.n (by rw [← D0.sc]; rfl) D0.nd hv
theorem blk_gls (D0 : Dfc X N dsc) (hg : glC (relS scope dsc) gs = true) : ∀ X', Blk X scope X' → Gls X' gs := by
  rintro X' ⟨s, H, Ca, cl, fp, rfl⟩
  exact gls_of (sc := relS scope dsc) (by rw [← D0.sc]; rfl) hg
theorem lcB_I (D0 : Dfc X N dsc) (hP : Put N x env f) (hv : visC (relS scope dsc) M = true) (hg : glC (relS scope dsc) gs = true) (h : LcB X elt ifs scope N M gs f xs Pc C1 k) : ∃ i, N[i]? = some x ∧ LcI X elt ifs scope [i] (gName i) env xs Pc C1 k := by
  obtain ⟨i, h1, h2, h3⟩ := hP.set
  refine ⟨i, h1, ?_⟩
  obtain ⟨Iv, i0, hp, turn, done⟩ := h
  refine ⟨Iv, i0, hp, fun j d acc C hd hi => gw_name (List.mem_singleton.mpr rfl) ?_, done⟩
  rw [h3]
  exact fun X' hX => WIf.imp (turn j d acc C hd hi X' hX (blk_nms D0 hv X' hX) (blk_gls D0 hg X' hX)) fun t C3 z => ⟨fun ht X'' hX'' => z.1 ht X'' hX'' (blk_nms D0 hv X'' hX'') (blk_gls D0 hg X'' hX''), z.2⟩
theorem idxOf_of {α : Type} [BEq α] [LawfulBEq α] {l : List α} (nd : l.Nodup) {i : Nat} {x : α} (h : l[i]? = some x) : l.idxOf x = i := by
  obtain ⟨hi, rfl⟩ := List.getElem?_eq_some_iff.mp h
  exact nd.idxOf_getElem i hi
theorem lc_own (D0 : Dfc X N dsc) {i : Nat} (h1 : N[i]? = some x) (ok : blkC N dsc scope [(x, N.idxOf x)] = true) : BlkOk X.N X.env.scope scope [(x, i)] := by
  have nd : N.Nodup := by rw [← D0.n]; exact D0.nd
  rw [idxOf_of nd h1] at ok
  rw [D0.n, D0.sc]
  exact blkOk_by ok
theorem lc_pg (D0 : Dfc X N dsc) {i : Nat} (h1 : N[i]? = some x) (hx : onlyC (relS scope dsc) [x] = true) (s : Shared) (H : Hp) (Ca : Addr) (cl : List (Str × Addr)) (fp : List Addr) : PG (X.blk s H scope (compEnvC scope cl Ca X.env) fp) (.Name x px) (gName i) := by
  have e : (relS scope dsc).names.lookup x = some .local := by
    unfold onlyC at hx
    simp only [List.all_cons, List.all_nil, Bool.and_true] at hx
    exact nk_eq hx
  have e2 : (X.blk s H scope (compEnvC scope cl Ca X.env) fp).env.scope.names.lookup x = some .local := by
    have : (X.blk s H scope (compEnvC scope cl Ca X.env) fp).env.scope = relS scope dsc := by rw [← D0.sc]; rfl
    rw [this]; exact e
  exact pg_name D0.nd (by rw [show (X.blk s H scope (compEnvC scope cl Ca X.env) fp).N = N from D0.n]; exact h1) (.inl e2) (.inr e2)
theorem lc1 (M gs : List Str) (D0 : Dfc X N dsc) (hP : Put N x env f) (ok : blkC N dsc scope [(x, N.idxOf x)] = true) (hv : visC (relS scope dsc) M = true) (hg : glC (relS scope dsc) gs = true) (hx : onlyC (relS scope dsc) [x] = true)
    (h : WI X (.Name x px) iter env C fun xs Pc C1 => LcB X elt ifs scope N M gs f xs Pc C1 k) (hs : ∀ x, foldedSetIterable iter X.env x = pure x := by intro _; rfl) : WE X (.ListComp elt [⟨.Name x px, iter, ifs, 0⟩] scope pos) env C k := by
  obtain ⟨i, h1, _⟩ := hP.set
  have nd : N.Nodup := by rw [← D0.n]; exact D0.nd
  refine we_lc [(x, i)] D0.calm D0.nd (lc_own D0 h1 ok) (lc_pg D0 h1 hx) ?_ hs
  obtain ⟨wi, hi, hw⟩ := h
  refine ⟨wi, hi, fun G σ H R w er q => hw G σ H R w er fun J G' C' H' xs Pc f1 w1 it z => ?_⟩
  obtain ⟨j, h2, h3⟩ := lcB_I D0 hP hv hg z
  have : i = j := nodup_ix nd h1 h2
  subst this
  exact q J G' C' H' xs Pc f1 w1 it h3
/-- y = [..] -/
theorem ws_lc1 (M gs : List Str) {M0 : List Str} {y : Str} {py spos : Pos} {fy : D → DEnv} (D0 : Dfc X N dsc) (hy : Put N y env fy) (hyl : onlyC dsc [y] = true)
    (hP : Put N x env f) (ok : blkC N dsc scope [(x, N.idxOf x)] = true) (hv : visC (relS scope dsc) M = true) (hg : glC (relS scope dsc) gs = true) (hx : onlyC (relS scope dsc) [x] = true)
    (hsw : swapsWith (.ListComp elt [⟨.Name x px, iter, ifs, 0⟩] scope pos) (some (.Name y py)) spos.line X.env = pure true)
    (h : WI X (.Name x px) iter env C fun xs Pc C1 => LcB X elt ifs scope N M gs f xs Pc C1 fun d C2 => E.nx (fy d) C2) (hs : ∀ x, foldedSetIterable iter X.env x = pure x := by intro _; rfl) :
    WS X (.Assign [.Name y py] (.ListComp elt [⟨.Name x px, iter, ifs, 0⟩] scope pos) spos) env C E := by
  obtain ⟨i, h1, _⟩ := hP.set
  obtain ⟨iy, g1, g2, _⟩ := hy.set
  have nd : N.Nodup := by rw [← D0.n]; exact D0.nd
  have e : X.env.scope.names.lookup y = some .local := by
    unfold onlyC at hyl
    simp only [List.all_cons, List.all_nil, Bool.and_true] at hyl
    rw [D0.sc]; exact nk_eq hyl
  refine ws_setLc [(x, i)] (i := iy) D0.calm D0.nd (by rw [D0.n]; exact g1) e hsw (lc_own D0 h1 ok) (lc_pg D0 h1 hx) ?_ hs
  obtain ⟨wi, hi, hw⟩ := h
  refine ⟨wi, hi, fun G σ H R w er q => hw G σ H R w er fun J G' C' H' xs Pc f1 w1 it z => ?_⟩
  obtain ⟨j, h2, h3⟩ := lcB_I D0 hP hv hg z
  have : i = j := nodup_ix nd h1 h2
  subst this
  refine q J G' C' H' xs Pc f1 w1 it ?_
  show LcI X elt ifs scope [i] (gName i) env xs Pc C' fun d C2 => E.nx (env.set iy (some d)) C2
  rw [show (fun (d : D) (C2 : CS) => E.nx (env.set iy (some d)) C2) = fun d C2 => E.nx (fy d) C2 from by funext d C2; rw [g2]]
  exact h3
/-- each item gives a value, nothing changes -/
theorem LcB.map (g : D → D) (hP : Pc C1) (hl : xs.length ≤ sizeLine) (hx : ∀ d ∈ xs, ∀ X', Blk X scope X' → Nms X' N M → Gls X' gs → WE X' elt (f d) C1 fun y C' => y = g d ∧ C' = C1)
    (hk : ∀ p, C1 p = none → k (.own p) (put C1 p (.lst (xs.map g)))) : LcB X elt [] scope N M gs f xs Pc C1 k := by
  refine ⟨fun j acc C => C = C1 ∧ acc = (xs.take j).map g, ⟨rfl, rfl⟩, fun j acc C h => by rw [h.1]; exact hP, ?_, ?_⟩
  · rintro j d acc C hd ⟨rfl, rfl⟩ X' hX B G
    refine wif_nil ⟨fun _ X' hX B G => (hx d (List.mem_of_getElem? hd) X' hX B G).imp fun y C' z => ?_, fun h => Bool.noConfusion h⟩
    obtain ⟨rfl, rfl⟩ := z
    have hj : j < xs.length := (List.getElem?_eq_some_iff.mp hd).1
    refine ⟨by simp; omega, rfl, ?_⟩
    rw [List.take_add_one, hd, List.map_append]
    rfl
  · rintro acc C ⟨rfl, rfl⟩ p hp
    rw [List.take_length]
    exact hk p hp
/-- .. with a test -/
theorem LcB.filter {c : Expr} (t : D → Bool) (g : D → D) (hP : Pc C1) (hl : xs.length ≤ sizeLine) (ht : ∀ d ∈ xs, ∀ X', Blk X scope X' → Nms X' N M → Gls X' gs → WT X' c (f d) C1 fun b C' => b = t d ∧ C' = C1)
    (hx : ∀ d ∈ xs, t d = true → ∀ X', Blk X scope X' → Nms X' N M → Gls X' gs → WE X' elt (f d) C1 fun y C' => y = g d ∧ C' = C1)
    (hk : ∀ p, C1 p = none → k (.own p) (put C1 p (.lst ((xs.filter t).map g)))) : LcB X elt [c] scope N M gs f xs Pc C1 k := by
  refine ⟨fun j acc C => C = C1 ∧ acc = ((xs.take j).filter t).map g, ⟨rfl, rfl⟩, fun j acc C h => by rw [h.1]; exact hP, ?_, ?_⟩
  · rintro j d acc C hd ⟨rfl, rfl⟩ X' hX B G
    have hj : j < xs.length := (List.getElem?_eq_some_iff.mp hd).1
    refine wif_one ((ht d (List.mem_of_getElem? hd) X' hX B G).imp fun b C' z => ?_)
    obtain ⟨rfl, rfl⟩ := z
    refine ⟨fun hb X' hX B G => (hx d (List.mem_of_getElem? hd) hb X' hX B G).imp fun y C' z => ?_, fun hb => ⟨rfl, ?_⟩⟩
    · obtain ⟨rfl, rfl⟩ := z
      refine ⟨?_, rfl, ?_⟩
      · have h1 := List.length_filter_le t (xs.take j)
        rw [List.length_take] at h1
        rw [List.length_map]
        omega
      · rw [List.take_add_one, hd, List.filter_append, List.map_append]
        simp [hb]
    · rw [List.take_add_one, hd, List.filter_append]
      simp [hb]
  · rintro acc C ⟨rfl, rfl⟩ p hp
    rw [List.take_length]
    exact hk p hp
end
end DL
/-! DLk: the context of a body as one fact; the rules over it; defs. -/
namespace DL
open PySem PySem.Spec PyProof.Rows L2

/-- a body runs: the module's facts, room for m calls -/
structure Ctx (P : Program) (w : World) (K : PySem.W.Frag) (mg : Str → Option Value) (base : Heap) (m : Nat) (X : Cx) : Prop where
  prog : X.prog = P
  w : X.w = w
  K : X.K = K
  mg : X.mg = mg
  base : X.base = base
  room : Room m X.A
  guards : X.A.guards = some []
  calm : X.calm = true
section
variable {P : Program} {w : World} {K : PySem.W.Frag} {mg : Str → Option Value} {base : Heap} {m n : Nat} {X X' : Cx} {scope : Scope} {x : Str} {S : DSp} {d : D}
theorem Ctx.blk (h : Ctx P w K mg base m X) (hX : Blk X scope X') : Ctx P w K mg base m X' := by
  obtain ⟨s, H, Ca, cl, fp, rfl⟩ := hX
  exact ⟨h.prog, h.w, h.K, h.mg, h.base, h.room, h.guards, h.calm⟩
theorem Ctx.zs (h : Ctx P w K mg base m X) (Z : Zs mg) : Zs X.mg := by rw [h.mg]; exact Z
theorem Ctx.fn (h : Ctx P w K mg base m X) (F : FnC P w K mg base x n S) : FnC X.prog X.w X.K X.mg X.base x n S := by rw [h.prog, h.w, h.K, h.mg, h.base]; exact F
/-- a constant of the module -/
def MgK (K : PySem.W.Frag) (mg : Str → Option Value) (x : Str) (d : D) : Prop := ∃ u v, mg x = some u ∧ RelV v u ∧ ∀ G, Dat K G v d
theorem Ctx.mgd (h : Ctx P w K mg base m X) (F : MgK K mg x d) : MgD X x d := by unfold MgD; rw [h.mg, h.K]; exact F
theorem mgk_int {i : Int} {t : Tok} (h : mg x = some (.int i t)) : MgK K mg x (.int i) := ⟨_, .int i, h, ⟨t, rfl⟩, fun _ => .int i⟩
theorem mgk_str {z : Str} {t : Tok} (h : mg x = some (.str z t)) : MgK K mg x (.str z) := ⟨_, .str z, h, ⟨t, rfl⟩, fun _ => .str z⟩
end
section
variable {P : Program} {w : World} {K : PySem.W.Frag} {mg : Str → Option Value} {base : Heap} {m n : Nat} {X : Cx} {e a b o : Expr} {es : List Expr} {env : DEnv} {C : CS} {k : KD} {pos p p1 p2 : Pos} {kb : Bool → CS → Prop} {E : DEnds}
theorem x_len (hx : Ctx P w K mg base m X) (Z : Zs mg) (hg : Gl X "len") (h : WA X (e :: es) env C fun ds C1 => dLen ds C1 k) (he : starEach (e :: es) X.env = (false, eval e X.env) :: starEach es X.env := by rfl) (hpl : (backTo pos (starEach es X.env)).any (·.1) = false := by rfl) : WE X (.Call (.Name "len" p) (e :: es) [] pos) env C k := we_len (hx.zs Z) hg h he hpl
theorem x_isi (hx : Ctx P w K mg base m X) (Z : Zs mg) (hg : Gl X "isinstance") (h : WA X (e :: es) env C fun ds C1 => dIsi ds C1 k) (he : starEach (e :: es) X.env = (false, eval e X.env) :: starEach es X.env := by rfl) (hpl : (backTo pos (starEach es X.env)).any (·.1) = false := by rfl) : WE X (.Call (.Name "isinstance" p) (e :: es) [] pos) env C k := we_isi (hx.zs Z) hg h he hpl
theorem x_abs (hx : Ctx P w K mg base m X) (Z : Zs mg) (hg : Gl X "abs") (h : WA X (e :: es) env C fun ds C1 => dInt1 (fun i => if i < 0 then -i else i) ds C1 k) (he : starEach (e :: es) X.env = (false, eval e X.env) :: starEach es X.env := by rfl) (hpl : (backTo pos (starEach es X.env)).any (·.1) = false := by rfl) : WE X (.Call (.Name "abs" p) (e :: es) [] pos) env C k := we_abs (hx.zs Z) hg h he hpl
theorem x_any (hx : Ctx P w K mg base m X) (Z : Zs mg) (hg : Gl X "any") (h : WA X (e :: es) env C fun ds C1 => dAny ds C1 k) (he : starEach (e :: es) X.env = (false, eval e X.env) :: starEach es X.env := by rfl) (hpl : (backTo pos (starEach es X.env)).any (·.1) = false := by rfl) : WE X (.Call (.Name "any" p) (e :: es) [] pos) env C k := we_any hx.calm (hx.zs Z) hg h he hpl
theorem x_all (hx : Ctx P w K mg base m X) (Z : Zs mg) (hg : Gl X "all") (h : WA X (e :: es) env C fun ds C1 => dAll ds C1 k) (he : starEach (e :: es) X.env = (false, eval e X.env) :: starEach es X.env := by rfl) (hpl : (backTo pos (starEach es X.env)).any (·.1) = false := by rfl) : WE X (.Call (.Name "all" p) (e :: es) [] pos) env C k := we_all hx.calm (hx.zs Z) hg h he hpl
theorem x_sum (hx : Ctx P w K mg base m X) (Z : Zs mg) (hg : Gl X "sum") (h : WA X (e :: es) env C fun ds C1 => dSum ds C1 k) (he : starEach (e :: es) X.env = (false, eval e X.env) :: starEach es X.env := by rfl) (hpl : (backTo pos (starEach es X.env)).any (·.1) = false := by rfl) : WE X (.Call (.Name "sum" p) (e :: es) [] pos) env C k := we_sum hx.calm (hx.zs Z) hg h he hpl
theorem x_intC (hx : Ctx P w K mg base m X) (Z : Zs mg) (hg : Gl X "int") (h : WA X (e :: es) env C fun ds C1 => dInt ds C1 k) (he : starEach (e :: es) X.env = (false, eval e X.env) :: starEach es X.env := by rfl) (hpl : (backTo pos (starEach es X.env)).any (·.1) = false := by rfl) : WE X (.Call (.Name "int" p) (e :: es) [] pos) env C k := we_intC (hx.zs Z) hg h he hpl
theorem x_strC (hx : Ctx P w K mg base m X) (Z : Zs mg) (hg : Gl X "str") (h : WA X (e :: es) env C fun ds C1 => dStrInt ds C1 k) (he : starEach (e :: es) X.env = (false, eval e X.env) :: starEach es X.env := by rfl) (hpl : (backTo pos (starEach es X.env)).any (·.1) = false := by rfl) : WE X (.Call (.Name "str" p) (e :: es) [] pos) env C k := we_strC (hx.zs Z) hg h he hpl
theorem x_tupleC (hx : Ctx P w K mg base m X) (Z : Zs mg) (hg : Gl X "tuple") (h : WA X (e :: es) env C fun ds C1 => dTuple ds C1 k) (he : starEach (e :: es) X.env = (false, eval e X.env) :: starEach es X.env := by rfl) (hpl : (backTo pos (starEach es X.env)).any (·.1) = false := by rfl) : WE X (.Call (.Name "tuple" p) (e :: es) [] pos) env C k := we_tupleC (hx.zs Z) hg h he hpl
theorem x_listC (hx : Ctx P w K mg base m X) (Z : Zs mg) (hg : Gl X "list") (h : WA X (e :: es) env C fun ds C1 => dList ds C1 k) (he : starEach (e :: es) X.env = (false, eval e X.env) :: starEach es X.env := by rfl) (hpl : (backTo pos (starEach es X.env)).any (·.1) = false := by rfl) : WE X (.Call (.Name "list" p) (e :: es) [] pos) env C k := we_listC (hx.zs Z) hg h he hpl
theorem x_max2 (hx : Ctx P w K mg base m X) (Z : Zs mg) (hg : Gl X "max") (h : WA X [a, b] env C fun ds C1 => dInt2 (fun i j => if j > i then j else i) ds C1 k) (he : starEach [a, b] X.env = (false, eval a X.env) :: starEach [b] X.env := by rfl) (hpl : (backTo pos (starEach [b] X.env)).any (·.1) = false := by rfl) : WE X (.Call (.Name "max" p) [a, b] [] pos) env C k := we_max2 hx.calm (hx.zs Z) hg h he hpl
theorem x_min2 (hx : Ctx P w K mg base m X) (Z : Zs mg) (hg : Gl X "min") (h : WA X [a, b] env C fun ds C1 => dInt2 (fun i j => if j < i then j else i) ds C1 k) (he : starEach [a, b] X.env = (false, eval a X.env) :: starEach [b] X.env := by rfl) (hpl : (backTo pos (starEach [b] X.env)).any (·.1) = false := by rfl) : WE X (.Call (.Name "min" p) [a, b] [] pos) env C k := we_min2 hx.calm (hx.zs Z) hg h he hpl
theorem x_minL (hx : Ctx P w K mg base m X) (Z : Zs mg) (hg : Gl X "min") (h : WA X [a] env C fun ds C1 => dMinL ds C1 k) (he : starEach [a] X.env = (false, eval a X.env) :: starEach [] X.env := by rfl) (hpl : (backTo pos (starEach [] X.env)).any (·.1) = false := by rfl) : WE X (.Call (.Name "min" p) [a] [] pos) env C k := we_minL hx.calm (hx.zs Z) hg h he hpl
theorem x_tyInt (hx : Ctx P w K mg base m X) (Z : Zs mg) (hg : Gl X "int") (h : k (.opq (.ty "int")) C) : WE X (.Name "int" pos) env C k := we_tyInt (hx.zs Z) hg h
theorem x_tyBool (hx : Ctx P w K mg base m X) (Z : Zs mg) (hg : Gl X "bool") (h : k (.opq (.ty "bool")) C) : WE X (.Name "bool" pos) env C k := we_tyBool (hx.zs Z) hg h
theorem x_tyStr (hx : Ctx P w K mg base m X) (Z : Zs mg) (hg : Gl X "str") (h : k (.opq (.ty "str")) C) : WE X (.Name "str" pos) env C k := we_tyStr (hx.zs Z) hg h
theorem x_tyList (hx : Ctx P w K mg base m X) (Z : Zs mg) (hg : Gl X "list") (h : k (.opq (.ty "list")) C) : WE X (.Name "list" pos) env C k := we_tyList (hx.zs Z) hg h
theorem x_tyTuple (hx : Ctx P w K mg base m X) (Z : Zs mg) (hg : Gl X "tuple") (h : k (.opq (.ty "tuple")) C) : WE X (.Name "tuple" pos) env C k := we_tyTuple (hx.zs Z) hg h
theorem x_eq (hx : Ctx P w K mg base m X) (h : WE X a env C fun x C1 => WE X b env C1 fun y C2 => dEq false x y C2 k) : WE X (.Compare a [.Eq] [b] pos) env C k := we_eq hx.room h
theorem xt_eq (hx : Ctx P w K mg base m X) (h : WE X a env C fun x C1 => WE X b env C1 fun y C2 => dEq false x y C2 (tb kb)) : WT X (.Compare a [.Eq] [b] pos) env C kb := wt_eq hx.room h
theorem x_ne (hx : Ctx P w K mg base m X) (h : WE X a env C fun x C1 => WE X b env C1 fun y C2 => dEq true x y C2 k) : WE X (.Compare a [.NotEq] [b] pos) env C k := we_ne hx.room h
theorem xt_ne (hx : Ctx P w K mg base m X) (h : WE X a env C fun x C1 => WE X b env C1 fun y C2 => dEq true x y C2 (tb kb)) : WT X (.Compare a [.NotEq] [b] pos) env C kb := wt_ne hx.room h
theorem x_in (hx : Ctx P w K mg base m X) (h : WE X a env C fun x C1 => WE X b env C1 fun y C2 => dIn false x y C2 k) (hm : behindInMarks .In b = false := by rfl) : WE X (.Compare a [.In] [b] pos) env C k := we_in hx.room h hm
theorem xt_in (hx : Ctx P w K mg base m X) (h : WE X a env C fun x C1 => WE X b env C1 fun y C2 => dIn false x y C2 (tb kb)) (hm : behindInMarks .In b = false := by rfl) : WT X (.Compare a [.In] [b] pos) env C kb := wt_in hx.room h hm
theorem x_nin (hx : Ctx P w K mg base m X) (h : WE X a env C fun x C1 => WE X b env C1 fun y C2 => dIn true x y C2 k) (hm : behindInMarks .NotIn b = false := by rfl) : WE X (.Compare a [.NotIn] [b] pos) env C k := we_nin hx.room h hm
theorem xt_nin (hx : Ctx P w K mg base m X) (h : WE X a env C fun x C1 => WE X b env C1 fun y C2 => dIn true x y C2 (tb kb)) (hm : behindInMarks .NotIn b = false := by rfl) : WT X (.Compare a [.NotIn] [b] pos) env C kb := wt_nin hx.room h hm
theorem x_call {x : Str} {S : DSp} (hx : Ctx P w K mg base m X) (h : FnC P w K mg base x n S) (hg : Gl X x) (ha : WA X (e :: es) env C fun ds C1 => S ds C1 k) (hle : n ≤ m := by decide)
    (hdb : (x == ("__debug__" : Str)) = false := by decide) (he : starEach (e :: es) X.env = (false, eval e X.env) :: starEach es X.env := by rfl) (hpl : (backTo pos (starEach es X.env)).any (·.1) = false := by rfl) : WE X (.Call (.Name x p) (e :: es) [] pos) env C k := we_call (hx.fn h) hx.guards hx.room hg ha hle hdb he hpl
theorem x_glob {x : Str} {d : D} (hx : Ctx P w K mg base m X) (hm : MgK K mg x d) (hg : Gl X x) (h : k d C) (hd : (x == ("__debug__" : Str)) = false := by decide) : WE X (.Name x pos) env C k := we_glob (hx.mgd hm) hg h hd

/-! walks -/
variable {tg iter : Expr} {body : List Stmt} {kI : KI}
theorem x_range1 (hx : Ctx P w K mg base m X) (Z : Zs mg) (hg : Gl X "range") (h : WA X [a] env C fun ds C1 => ∃ j : Int, ds = [.int j] ∧ -(2 ^ 62) ≤ j ∧ j < 2 ^ 62 ∧ kI (intsFrom 0 j.toNat) (fun _ => True) C1) (hs : starEach [a] X.env = [(false, eval a X.env)] := by rfl) :
    WI X tg (.Call (.Name "range" p) [a] [] pos) env C kI := wi_range1 (hx.zs Z).range hg h hs
/-- no exception leaves -/
structure Nox (X : Cx) : Prop where
  xe : X.xe = fun _ _ => False
theorem Nox.passes (h : Nox X) : PassesOwn (model X.prog X.w) X.A X.env X.xe := by rw [h.xe]; exact PassesOwn.never
theorem x_for (hx : Ctx P w K mg base m X) (hn : Nox X)
    (h : WI X tg iter env C fun xs Pc C1 => ∃ Iv : Nat → DEnv → CS → Prop, Iv 0 env C1 ∧ (∀ i env C, Iv i env C → Pc C) ∧
      (∀ i d env C, xs[i]? = some d → Iv i env C → WG X tg d env C fun env' C' => WSs X body env' C' { nx := Iv (i + 1), rt := E.rt, bk := E.nx, ct := Iv (i + 1) }) ∧ (∀ env C, Iv xs.length env C → E.nx env C))
    (hs : ∀ x, foldedSetIterable iter X.env x = pure x := by intro _; rfl) : WS X (.For tg iter body [] pos) env C E := ws_for hn.passes hx.calm h hs
theorem x_while {c : Expr} (hn : Nox X) (Iv : Nat → DEnv → CS → Prop) (h0 : ∃ m, Iv m env C)
    (h : ∀ m env C, Iv m env C → WT X c env C fun t C1 => (t = true → WSs X body env C1 { nx := fun env' C' => ∃ m', m' < m ∧ Iv m' env' C', rt := E.rt, bk := E.nx, ct := fun env' C' => ∃ m', m' < m ∧ Iv m' env' C' }) ∧ (t = false → E.nx env C1)) : WS X (.While c body [] pos) env C E := ws_while hn.passes Iv h0 h
end

/-! ### stores of two or three names at once -/
def envOf (sc : Scope) : Env := { scope := sc, locals := 0, globals := 0, cells := [], qual := "", func := none, code := .none, frame := none, builtins := 0 }
theorem sst_env {env : Env} {sc : Scope} (h : env.scope = sc) (ts : List Expr) (v : Expr) : swappedStores ts v env = swappedStores ts v (envOf sc) := by
  have e1 : env.blockKind = (envOf sc).blockKind := by unfold Env.blockKind; rw [h]; rfl
  have e2 : env.kindOf = (envOf sc).kindOf := by funext x; unfold Env.kindOf; rw [h]; rfl
  unfold swappedStores
  rw [e1, e2]
theorem sww_env {env : Env} {sc : Scope} (h : env.scope = sc) (v : Expr) (t : Option Expr) (l : Nat) : swapsWith v t l env = swapsWith v t l (envOf sc) := by
  have e1 : env.blockKind = (envOf sc).blockKind := by unfold Env.blockKind; rw [h]; rfl
  have e2 : env.kindOf = (envOf sc).kindOf := by funext x; unfold Env.kindOf; rw [h]; rfl
  have e3 : env.scope = (envOf sc).scope := h
  unfold swapsWith
  rw [e1, e2, e3]
end DL
/-! DLl: stores of several names; defs by an opaque context. -/
namespace DL
open PySem PySem.Spec PyProof.Rows L2

/-- a, b, c = x, y, z with plain local names: stored from the right -/
theorem ps_par3 {X : Cx} {pos : Pos} {i j l : Nat} {x y z : Str} {a b c : Expr} {ta : TA} {px py pz pt : Pos} {kt k2 pt2} (hc : X.calm = true) (hN : X.N.Nodup) (hi : X.N[i]? = some x) (hj : X.N[j]? = some y) (hl : X.N[l]? = some z)
    (hx : X.env.scope.names.lookup x = some .local) (hy : X.env.scope.names.lookup y = some .local) (hz : X.env.scope.names.lookup z = some .local) (ha : PA X [a, b, c] ta)
    (hw : swappedStores [.Tuple [.Name x px, .Name y py, .Name z pz] kt pt] (.Tuple [a, b, c] k2 pt2) X.env = pure (some [x, y, z]))
    (hs : swapsWithSole [.Tuple [.Name x px, .Name y py, .Name z pz] kt pt] (.Tuple [a, b, c] k2 pt2) pos.line X.env = pure false := by rfl) :
    PS X (.Assign [.Tuple [.Name x px, .Name y py, .Name z pz] kt pt] (.Tuple [a, b, c] k2 pt2) pos) (fun D σ H => ta σ H fun vs H1 => ∃ v w u, vs = [v, w, u] ∧ D.nx (((σ.set l (some u)).set j (some w)).set i (some v)) H1) := by
  refine ⟨fun pins s σ H D I h => ?_⟩
  rw [exec_Assign_arm]
  refine wpAny_bind (wpAny_standAt ?_)
  rw [hs]
  refine wpAny_bind (wpAny_pure ?_)
  rw [if_neg (by decide)]
  refine wpAny_bind (Tuple_ (L2.thn (ha.run _ pins s σ H _ I h) fun us s1 ⟨vs, H1, I1, r1, q1⟩ => ?_))
  obtain ⟨v, w, u, e1, q1⟩ := q1
  subst e1
  obtain ⟨u1, u2, u3, rfl, rv, rw', ru⟩ : ∃ u1 u2 u3, us = [u1, u2, u3] ∧ RelV v u1 ∧ RelV w u2 ∧ RelV u u3 := by
    cases r1 with
    | cons p q =>
      cases q with
      | cons p' q' =>
        cases q' with
        | cons p'' q'' =>
          cases q''
          exact ⟨_, _, _, rfl, p, p', p''⟩
  refine wpAny_newObj_type ?_ (by show 3 ≤ sizeLine; decide)
  have I2 : Inv X pins σ H1 { s1 with heap := s1.heap.push { cls := .type "tuple", data := .seq [u1, u2, u3].toArray } } := I1.kept (t' := s1.toks) fun b o e => Heap.get?_push_of_some _ e
  rw [hw]
  refine wpAny_bind (wpAny_pure ?_)
  show wpAny (model X.prog X.w) X.A (do rule "assign.swapped-stores"; let items ← unpackItems (.ref s1.heap.objs.size) 3 none; assignInOrder [fun v => bindName X.env z v, fun v => bindName X.env y v, fun v => bindName X.env x v] items.reverse; pure Flow.next) _ _ _
  refine wpAny_bind (wpAny_rule (wpAny_bind (unpackItems_tuple (items := #[u1, u2, u3]) (I.ok.hd hc) (IsTup.new s1.heap _) fun h' hx' => ?_)))
  have I3 := I2.kept (h' := h') (t' := s1.toks) fun b o e => hx' b o (Nat.ne_of_lt (Heap.lt_size e)) e
  show wpAny _ _ (assignInOrder [fun v => bindName X.env z v, fun v => bindName X.env y v, fun v => bindName X.env x v] [u3, u2, u1] >>= fun _ => pure Flow.next) _ _ _
  refine wpAny_bind (assignInOrder_cons (wpAny_bindName (store_ok I3 hN hl (.inl hz) ru (fun s2 I4 => ?_) (.inr hz))))
  refine assignInOrder_cons (wpAny_bindName (store_ok I4 hN hj (.inl hy) rw' (fun s3 I5 => ?_) (.inr hy)))
  refine assignInOrder_cons (wpAny_bindName (store_ok I5 hN hi (.inl hx) rv (fun s4 I6 => assignInOrder_nil (wpAny_pure ?_)) (.inr hx)))
  exact ⟨_, H1, I6, q1⟩

section
variable {X : Cx} {e a b c : Expr} {env : DEnv} {C : CS} {k : KD} {pos : Pos} {E : DEnds} {N : List Str} {dsc : Scope}
theorem only_loc {y : Str} (D0 : Dfc X N dsc) (h : onlyC dsc [y] = true) : X.env.scope.names.lookup y = some .local := by
  unfold onlyC at h
  simp only [List.all_cons, List.all_nil, Bool.and_true] at h
  rw [D0.sc]; exact nk_eq h
theorem x_par2 {x y : Str} {px py pt : Pos} {kt k2 : Nat} {pt2 : Pos} {f : D → DEnv} {g : D → D → DEnv} (D0 : Dfc X N dsc) (h1 : Put N y env f) (h2 : ∀ v, Put N x (f v) fun u => g u v) (hx : onlyC dsc [x] = true) (hy : onlyC dsc [y] = true) (hne : (x == y) = false)
    (hw : swappedStores [.Tuple [.Name x px, .Name y py] kt pt] (.Tuple [a, b] k2 pt2) (envOf dsc) = pure (some [x, y]))
    (h : WA X [a, b] env C fun ds C1 => ∃ u v, ds = [u, v] ∧ E.nx (g u v) C1)
    (hs : swapsWithSole [.Tuple [.Name x px, .Name y py] kt pt] (.Tuple [a, b] k2 pt2) pos.line X.env = pure false := by rfl) :
    WS X (.Assign [.Tuple [.Name x px, .Name y py] kt pt] (.Tuple [a, b] k2 pt2) pos) env C E := by
  obtain ⟨j, n1, s1, _⟩ := h1.set
  have ne : x ≠ y := fun e => by rw [e] at hne; simp at hne
  have hi : ∃ i : Nat, N[i]? = some x ∧ ∀ u v, (env.set j (some v)).set i (some u) = g u v := by
    obtain ⟨i, n2, _, _⟩ := (h2 .non).set
    refine ⟨i, n2, fun u v => ?_⟩
    obtain ⟨i', n3, s3, _⟩ := (h2 v).set
    have nd : N.Nodup := by rw [← D0.n]; exact D0.nd
    have : i = i' := nodup_ix nd n2 n3
    subst this
    rw [s1, s3]
  obtain ⟨i, n2, s2⟩ := hi
  have hij : i ≠ j := fun e => ne (by rw [e, n1] at n2; exact (Option.some.inj n2).symm)
  refine ws_par (i := i) (j := j) D0.calm D0.nd (by rw [D0.n]; exact n2) (by rw [D0.n]; exact n1) hij (only_loc D0 hx) (only_loc D0 hy) (h.imp fun ds C' z => ?_) (by rw [sst_env D0.sc]; exact hw) hs
  obtain ⟨u, v, e1, z⟩ := z
  exact ⟨u, v, e1, by rw [List.set_comm _ _ hij, s2]; exact z⟩
theorem x_par3 {x y z : Str} {px py pz pt : Pos} {kt k2 : Nat} {pt2 : Pos} {f : D → DEnv} {g : D → D → DEnv} {g3 : D → D → D → DEnv} (D0 : Dfc X N dsc) (h1 : Put N z env f) (h2 : ∀ v, Put N y (f v) fun u => g u v) (h3 : ∀ u v, Put N x (g u v) fun t => g3 t u v)
    (hx : onlyC dsc [x] = true) (hy : onlyC dsc [y] = true) (hz : onlyC dsc [z] = true)
    (hw : swappedStores [.Tuple [.Name x px, .Name y py, .Name z pz] kt pt] (.Tuple [a, b, c] k2 pt2) (envOf dsc) = pure (some [x, y, z]))
    (h : WA X [a, b, c] env C fun ds C1 => ∃ t u v, ds = [t, u, v] ∧ E.nx (g3 t u v) C1)
    (hs : swapsWithSole [.Tuple [.Name x px, .Name y py, .Name z pz] kt pt] (.Tuple [a, b, c] k2 pt2) pos.line X.env = pure false := by rfl) :
    WS X (.Assign [.Tuple [.Name x px, .Name y py, .Name z pz] kt pt] (.Tuple [a, b, c] k2 pt2) pos) env C E := by
  have nd : N.Nodup := by rw [← D0.n]; exact D0.nd
  obtain ⟨l, n1, s1, _⟩ := h1.set
  obtain ⟨j, n2, _, _⟩ := (h2 .non).set
  obtain ⟨i, n3, _, _⟩ := (h3 .non .non).set
  have all : ∀ t u v, ((env.set l (some v)).set j (some u)).set i (some t) = g3 t u v := fun t u v => by
    obtain ⟨j', m2, r2, _⟩ := (h2 v).set
    obtain ⟨i', m3, r3, _⟩ := (h3 u v).set
    have e1 : j = j' := nodup_ix nd n2 m2
    have e2 : i = i' := nodup_ix nd n3 m3
    subst e1; subst e2
    rw [s1, r2, r3]
  refine .of (ps_par3 (i := i) (j := j) (l := l) D0.calm D0.nd (by rw [D0.n]; exact n3) (by rw [D0.n]; exact n2) (by rw [D0.n]; exact n1) (only_loc D0 hx) (only_loc D0 hy) (only_loc D0 hz) pa_tAr (by rw [sst_env D0.sc]; exact hw) hs) fun G σ H D w er q => h G σ H _ w er fun vs G1 C1 H1 ds f1 w1 r1 zz => ?_
  obtain ⟨t, u, v, rfl, zz⟩ := zz
  cases r1 with
  | @cons t' _ _ _ r1 r2 =>
    cases r2 with
    | @cons u' _ _ _ r2 r3 =>
      cases r3 with
      | @cons v' _ _ _ r3 r4 =>
        cases r4
        exact ⟨t', u', v', rfl, q.nx G1 C1 H1 _ _ f1 w1 ((((er.mono f1.exG).set l r3).set j r2).set i r1) (by rw [all]; exact zz)⟩
end

/-! ### defs by an opaque context -/
section
variable {P : Program} {w : World} {K : PySem.W.Frag} {mg : Str → Option Value} {base : Heap}
structure Bdy (P : Program) (w : World) (K : PySem.W.Frag) (mg : Str → Option Value) (base : Heap) (n : Nat) (N M Ds : List Str) (dsc : Scope) (X : Cx) : Prop where
  x : Ctx P w K mg base n X
  b : Nms X N M
  s : Sts X N M
  g : Gls X Ds
  d : Dfc X N dsc
  nox : Nox X
theorem fnX {x qual : Str} {st : Stmt} {f : Addr} {fd : FuncData} {N M Ds ps : List Str} {n : Nat} {S : DSp} (F : Fun K x qual st f fd) (sc : FnScope N ps (defScope st)) (hv : visC (defScope st) M = true) (hlc : locC (defScope st) M = true) (hg : glC (defScope st) Ds = true)
    (hl : ∀ ds C k, S ds C k → ds.length = ps.length)
    (hb : ∀ (X : Cx), Bdy P w K mg base n N M Ds (defScope st) X → ∀ (ds : List D) (C : CS) (k : KD), S ds C k → WSs X (defBody st) (startD N ds) C { nx := fun _ C' => k .non C', rt := k }) : FnG P w K mg base CX0 (n + 1) f fd ps (toSp K S) :=
  fnD F sc hl fun cdv A outer s H E ds C k hgd hr h => hb _ ⟨⟨rfl, rfl, rfl, rfl, rfl, hr, hgd, rfl⟩, nms_of rfl (sc := defScope st) rfl sc.nd hv, sts_of rfl (sc := defScope st) rfl sc.nd hlc (fun _ => rfl), gls_of (sc := defScope st) rfl hg, ⟨rfl, sc.nd, rfl, rfl⟩, ⟨rfl⟩⟩ ds C k h
end
end DL
namespace DL
open PySem L2
theorem wo_n {X : Cx} {env : DEnv} {C : CS} {k : Option Int → CS → Prop} (h : k none C) : WO X none env C k := h
theorem wo_s {X : Cx} {e : Expr} {env : DEnv} {C : CS} {k : Option Int → CS → Prop} (h : WE X e env C fun d C1 => ∃ i, d = .int i ∧ k (some i) C1) : WO X (some e) env C k := h
theorem ex_2 {a b : D} {A : D → D → Prop} (h : A a b) : ∃ u v, [a, b] = [u, v] ∧ A u v := ⟨a, b, rfl, h⟩
theorem ex_3 {a b c : D} {A : D → D → D → Prop} (h : A a b c) : ∃ t u v, [a, b, c] = [t, u, v] ∧ A t u v := ⟨a, b, c, rfl, h⟩
end DL
/-! DLm: a test that stores; data that is fit for ==. -/
namespace DL
open PySem PySem.Spec PyProof.Rows L2
section
variable {X : Cx} {e a b c : Expr} {env : DEnv} {C : CS} {k : KD} {pos p1 p2 py pc : Pos} {E : DEnds} {N M : List Str} {s1 s2 : List Stmt}
/-- if (y := e) op b: .. -/
theorem x_ifW {y : Str} {op : CmpOp} {r : R2} {p : OpD} {f : D → DEnv} (B : Sts X N M) (hm' : Mem y M) (hP : Put N y env f) (ho : OpR X (compareOp op) r) (hr : R2D X.K r p)
    (h : WE X e env C fun d C1 => WE X b (f d) C1 fun z C2 => p d z C2 fun t' C3 => ∃ t, t' = .bl t ∧ (t = true → WSs X s1 (f d) C3 E) ∧ (t = false → WSs X s2 (f d) C3 E)) (hm : behindInMarks op b = false) :
    WS X (.If (.Compare (.NamedExpr (.Name y py) e p1) [op] [b] pc) s1 s2 pos) env C E := by
  obtain ⟨i, h1, h2, _⟩ := hP.set
  refine .of (ps_ifW (ptw_cmp ho (pew_named (i := i) B.nd (by rw [B.n]; exact h1) (B.loc y hm'.mem) (pew_of pe_tS) (B.fn y hm'.mem)) pe_tS hm) pss_tXs pss_tXs) fun G σ H D w er q => ?_
  refine h G σ H _ w er fun v G1 C1 H1 d f1 w1 r1 z => ?_
  have er1 : EnvR X.K G1 (f d) (σ.set i (some v)) := by rw [← h2]; exact (er.mono f1.exG).set i r1
  refine z G1 _ H1 _ w1 er1 fun u G2 C2 H2 y2 f2 w2 r2 z2 => ?_
  refine hr v u d y2 G2 C2 H2 _ _ w2 (r1.mono f2.exG) r2 z2 fun t' G3 C3 H3 d3 f3 w3 r3 z3 => ?_
  obtain ⟨t, rfl, z3⟩ := z3
  cases r3
  have F := (f1.trans f2).trans f3
  refine ⟨t, rfl, ?_⟩
  cases t with
  | true => exact iteT (z3.1 rfl G3 _ H3 D w3 (er1.mono (f2.trans f3).exG) (q.after F))
  | false => exact iteF (z3.2 rfl G3 _ H3 D w3 (er1.mono (f2.trans f3).exG) (q.after F))
theorem x_ifWge {y : Str} {f : D → DEnv} (B : Sts X N M) (hm' : Mem y M) (hP : Put N y env f)
    (h : WE X e env C fun d C1 => WE X b (f d) C1 fun z C2 => dB2 (fun i j => decide (j ≤ i)) d z C2 fun t' C3 => ∃ t, t' = .bl t ∧ (t = true → WSs X s1 (f d) C3 E) ∧ (t = false → WSs X s2 (f d) C3 E)) :
    WS X (.If (.Compare (.NamedExpr (.Name y py) e p1) [.GtE] [b] pc) s1 s2 pos) env C E := x_ifW B hm' hP op_ge r2_B h (nomark _)
end

/-! ### data fit for == -/
mutual
/-- built of what == compares, at most so deep -/
def D.fit : Nat → D → Bool
  | _, .non | _, .bl _ | _, .int _ => true
  | _, .str x => PyData.strOk x
  | 0, .lst _ | 0, .slst _ | 0, .tup _ => false
  | n + 1, .lst xs => fitL n xs
  | n + 1, .slst xs => fitL n xs
  | n + 1, .tup xs => fitL n xs
  | _, _ => false
def fitL : Nat → List D → Bool
  | _, [] => true
  | n, d :: ds => d.fit n && fitL n ds
end
theorem fitL_all {n : Nat} : ∀ {ds : List D}, fitL n ds = true ↔ ∀ d ∈ ds, d.fit n = true
  | [] => by simp [fitL]
  | d :: ds => by simp [fitL, fitL_all (ds := ds)]
mutual
theorem fit_py : ∀ (d : D) {n : Nat}, d.fit n = true → d.isPy = true
  | .non, _, _ | .bl _, _, _ | .int _, _, _ | .str _, _, _ => rfl
  | .lst xs, 0, h | .slst xs, 0, h | .tup xs, 0, h => by simp [D.fit] at h
  | .lst xs, n + 1, h => by unfold D.isPy; exact fitL_py xs (n := n) (by simpa [D.fit] using h)
  | .slst xs, n + 1, h => by unfold D.isPy; exact fitL_py xs (n := n) (by simpa [D.fit] using h)
  | .tup xs, n + 1, h => by unfold D.isPy; exact fitL_py xs (n := n) (by simpa [D.fit] using h)
  | .obj _ _ _, n, h => by cases n <;> simp [D.fit] at h
  | .own _, n, h => by cases n <;> simp [D.fit] at h
  | .opq _, n, h => by cases n <;> simp [D.fit] at h
theorem fitL_py : ∀ (ds : List D) {n : Nat}, fitL n ds = true → allPy ds = true
  | [], _, _ => rfl
  | d :: ds, n, h => by
    simp only [fitL, Bool.and_eq_true] at h
    simp only [allPy, Bool.and_eq_true]
    exact ⟨fit_py d h.1, fitL_py ds h.2⟩
end
mutual
theorem fit_lay : ∀ (d : D) {n : Nat}, d.fit n = true → d.py.canLay0 = true
  | .non, _, _ | .bl _, _, _ | .int _, _, _ => rfl
  | .str x, n, h => by cases n <;> exact h
  | .lst xs, 0, h | .slst xs, 0, h | .tup xs, 0, h => by simp [D.fit] at h
  | .lst xs, n + 1, h => by simp only [D.py, PyData.canLay0]; exact fitL_lay xs (n := n) (by simpa [D.fit] using h)
  | .slst xs, n + 1, h => by simp only [D.py, PyData.canLay0]; exact fitL_lay xs (n := n) (by simpa [D.fit] using h)
  | .tup xs, n + 1, h => by simp only [D.py, PyData.canLay0]; exact fitL_lay xs (n := n) (by simpa [D.fit] using h)
  | .obj _ _ _, n, h => by cases n <;> simp [D.fit] at h
  | .own _, n, h => by cases n <;> simp [D.fit] at h
  | .opq _, n, h => by cases n <;> simp [D.fit] at h
theorem fitL_lay : ∀ (ds : List D) {n : Nat}, fitL n ds = true → PyData.canLayAll0 (pyL ds) = true
  | [], _, _ => rfl
  | d :: ds, n, h => by
    simp only [fitL, Bool.and_eq_true] at h
    simp only [pyL, PyData.canLayAll0, Bool.and_eq_true]
    exact ⟨fit_lay d h.1, fitL_lay ds h.2⟩
end
mutual
theorem fit_depth : ∀ (d : D) {n : Nat}, d.fit n = true → d.py.depth ≤ n
  | .non, _, _ | .bl _, _, _ | .int _, _, _ | .str _, _, _ => Nat.zero_le _
  | .lst xs, 0, h | .slst xs, 0, h | .tup xs, 0, h => by simp [D.fit] at h
  | .lst xs, n + 1, h => Nat.succ_le_succ (fitL_depth xs (n := n) (by simpa [D.fit] using h))
  | .slst xs, n + 1, h => Nat.succ_le_succ (fitL_depth xs (n := n) (by simpa [D.fit] using h))
  | .tup xs, n + 1, h => Nat.succ_le_succ (fitL_depth xs (n := n) (by simpa [D.fit] using h))
  | .obj _ _ _, n, h => by cases n <;> simp [D.fit] at h
  | .own _, n, h => by cases n <;> simp [D.fit] at h
  | .opq _, n, h => by cases n <;> simp [D.fit] at h
theorem fitL_depth : ∀ (ds : List D) {n : Nat}, fitL n ds = true → PyData.depthAll (pyL ds) ≤ n
  | [], _, _ => Nat.zero_le _
  | d :: ds, n, h => by
    simp only [fitL, Bool.and_eq_true] at h
    exact Nat.max_le.mpr ⟨fit_depth d h.1, fitL_depth ds h.2⟩
end
theorem fit_ok {d : D} {n : Nat} (h : d.fit n = true) (hn : n ≤ 64 := by decide) : d.ok = true := by
  unfold D.ok SeqAt.shaped
  simp only [Bool.and_eq_true, decide_eq_true_eq]
  exact ⟨fit_py d h, fit_lay d h, Nat.le_trans (fit_depth d h) hn⟩
mutual
theorem fit_mono : ∀ (d : D) {n m : Nat}, d.fit n = true → n ≤ m → d.fit m = true
  | .non, _, _, _, _ | .bl _, _, _, _, _ | .int _, _, _, _, _ => by simp [D.fit]
  | .str x, n, m, h, _ => by
    have : PyData.strOk x = true := by cases n <;> exact h
    cases m <;> exact this
  | .lst xs, 0, _, h, _ | .slst xs, 0, _, h, _ | .tup xs, 0, _, h, _ => by simp [D.fit] at h
  | .lst xs, n + 1, 0, h, l | .slst xs, n + 1, 0, h, l | .tup xs, n + 1, 0, h, l => absurd l (by omega)
  | .lst xs, n + 1, m + 1, h, l => by simp only [D.fit] at h ⊢; exact fitL_mono xs h (by omega)
  | .slst xs, n + 1, m + 1, h, l => by simp only [D.fit] at h ⊢; exact fitL_mono xs h (by omega)
  | .tup xs, n + 1, m + 1, h, l => by simp only [D.fit] at h ⊢; exact fitL_mono xs h (by omega)
  | .obj _ _ _, n, _, h, _ => by cases n <;> simp [D.fit] at h
  | .own _, n, _, h, _ => by cases n <;> simp [D.fit] at h
  | .opq _, n, _, h, _ => by cases n <;> simp [D.fit] at h
theorem fitL_mono : ∀ (ds : List D) {n m : Nat}, fitL n ds = true → n ≤ m → fitL m ds = true
  | [], _, _, _, _ => rfl
  | d :: ds, n, m, h, l => by
    simp only [fitL, Bool.and_eq_true] at h ⊢
    exact ⟨fit_mono d h.1 l, fitL_mono ds h.2 l⟩
end
theorem eq_fit {C : CS} {k : KD} {x y : D} {n m : Nat} (hx : x.fit n = true) (hy : y.fit m = true) (q : k (.bl (PyData.eqv x.py y.py)) C) (hn : n ≤ 64 := by decide) (hm : m ≤ 64 := by decide) : dEq false x y C k := eq_ok (fit_ok hx hn) (fit_ok hy hm) q
theorem ne_fit {C : CS} {k : KD} {x y : D} {n m : Nat} (hx : x.fit n = true) (hy : y.fit m = true) (q : k (.bl (!PyData.eqv x.py y.py)) C) (hn : n ≤ 64 := by decide) (hm : m ≤ 64 := by decide) : dEq true x y C k := ne_ok (fit_ok hx hn) (fit_ok hy hm) q
end DL
namespace DL
open PySem L2
theorem wt_bo {X : Cx} {op : PySem.BoolOp} {es : List Expr} {env : DEnv} {C : CS} {kb : Bool → CS → Prop} {pos : Pos} (h : WW X (.BoolOp op es pos) env C kb) : WT X (.BoolOp op es pos) env C kb := wt_ww h
end DL
namespace DL
open PySem L2
theorem isStr_eq {x : D} (h : x.isStr = true) : ∃ s, x = .str s := by cases x <;> first | exact ⟨_, rfl⟩ | (simp [D.isStr] at h; done)
theorem fit_tup {xs : List D} {n : Nat} (h : (D.tup xs).fit n = true) : ∃ m, n = m + 1 ∧ ∀ d ∈ xs, d.fit m = true := by
  cases n with
  | zero => simp [D.fit] at h
  | succ m => exact ⟨m, rfl, fitL_all.mp (by simpa [D.fit] using h)⟩
end DL
namespace DL
open PySem L2
def eqL (xs ys : List D) : Bool := PyData.eqvAll (pyL xs) (pyL ys)
theorem fit_lstI {xs : List D} {n : Nat} (h : ∀ d ∈ xs, d.fit n = true) : (D.lst xs).fit (n + 1) = true := by simp only [D.fit]; exact fitL_all.mpr h
end DL
namespace DL
open PySem L2
theorem any_map {C : CS} {k : KD} {xs : List D} {f : D → Bool} (q : k (.bl (xs.any f)) C) : dAny [.lst (xs.map fun d => .bl (f d))] C k :=
  ⟨_, xs.map f, rfl, by simp only [seqR, List.map_map]; rfl, by rw [List.any_map]; exact q⟩
theorem all_map {C : CS} {k : KD} {xs : List D} {f : D → Bool} (q : k (.bl (xs.all f)) C) : dAll [.lst (xs.map fun d => .bl (f d))] C k :=
  ⟨_, xs.map f, rfl, by simp only [seqR, List.map_map]; rfl, by rw [List.all_map]; exact q⟩
end DL
namespace DL
open PySem L2
theorem sz_ok {n : Nat} {B : Prop} (h : Nat.ble n 1000 = true) (q : B) : n ≤ sizeLine ∧ B := ⟨Nat.le_trans (Nat.le_of_ble_eq_true h) (by decide), q⟩
theorem sz_as {n : Nat} {B : Prop} (h : n ≤ sizeLine) (q : B) : n ≤ sizeLine ∧ B := ⟨h, q⟩
theorem dec_t {p : Prop} [Decidable p] (h : decide p = true) : p := of_decide_eq_true h
theorem dec_f {p : Prop} [Decidable p] (h : decide p = false) : ¬ p := of_decide_eq_false h
end DL
namespace DL
open PySem PySem.Spec PyProof.Rows L2
section
variable {X : Cx} {e a b o : Expr} {es : List Expr} {env : DEnv} {C : CS} {k : KD} {pos apos cpos : Pos} {kb : Bool → CS → Prop}
abbrev H1 (X : Cx) (o e : Expr) (name : Str) (apos cpos : Pos) : Prop := attributeBase o name X.env (eval o X.env) = eval o X.env
theorem x_append (h : WE X o env C fun x C1 => tyD "list" C1 x ∧ WE X e env C1 fun y C2 => dAppend x [y] C2 k)
    (hbase : attributeBase o "append" X.env (eval o X.env) = eval o X.env := by rfl)
    (hfew : ((backTo cpos (starEach (e :: []) X.env)).all (fun x => !x.1) && (backToKw cpos (keywordEach [] X.env)).all (fun x => x.1.isSome)
      && decide ((e :: []).length + ([] : List Keyword).length + (if ([] : List Keyword).isEmpty then 0 else 1) < 30)) = true := by rfl)
    (hline : (apos.endLine == cpos.line) = true := by rfl) (hs : starEach (e :: []) X.env = (false, eval e X.env) :: starEach [] X.env := by rfl) (hplain : (backTo cpos (starEach [] X.env)).any (·.1) = false := by rfl) :
    WE X (.Call (.Attribute o "append" apos) [e] [] cpos) env C k :=
  we_bm PySem.F.plainAttrs_list PySem.F.slot_list_append PySem.F.type_list_append mt_append rm_append (h.imp fun x C1 z => ⟨z.1, wa_cons (z.2.imp fun y C2 q => wa_nil q) hs⟩) hbase hfew hline hs hplain
theorem app_ok {p : Addr} {xs : List D} {y : D} (hc : C p = some (.lst xs)) (hl : xs.length < sizeLine) (q : k .non (put C p (.lst (xs ++ [y])))) : dAppend (.own p) [y] C k := ⟨p, xs, y, rfl, rfl, hc, hl, q⟩
theorem app_put {p : Addr} {xs : List D} {y : D} (hl : xs.length < sizeLine) (q : k .non (put C p (.lst (xs ++ [y])))) : dAppend (.own p) [y] (put C p (.lst xs)) k := ⟨p, xs, y, rfl, rfl, put_same, hl, by rw [put_put]; exact q⟩
theorem ty_own {p : Addr} {xs : List D} {B : Prop} (hc : C p = some (.lst xs)) (q : B) : tyD "list" C (.own p) ∧ B := ⟨.inl ⟨rfl, xs, hc⟩, q⟩
theorem ty_put {p : Addr} {xs : List D} {B : Prop} (q : B) : tyD "list" (put C p (.lst xs)) (.own p) ∧ B := ⟨.inl ⟨rfl, xs, put_same⟩, q⟩
end
end DL
namespace DL
open PySem PySem.Spec PyProof.Rows L2
theorem x_gtup {P : Program} {w : World} {K : PySem.W.Frag} {mg : Str → Option Value} {base : Heap} {m : Nat} {X : Cx} {env : DEnv} {C : CS} {pos : Pos} {ts : List Expr} {n : Nat} {ds : List D} {kE : DEnv → CS → Prop} (hx : Ctx P w K mg base m X) (hl : ds.length = (assignEach ts X.env).length) (h : WGs X ts ds env C kE) (hst : (assignEach ts X.env).findIdx? (·.1) = none := by rfl) : WG X (.Tuple ts n pos) (.tup ds) env C kE := wg_tup hx.calm hl h hst
end DL
namespace DL
open PySem L2
theorem ix_p {C : CS} {k : KD} {p : Addr} {xs : List D} {i : Int} {d : D} (h : atI xs i = some d) (q : k d (put C p (.lst xs))) : dIx (.own p) (.int i) (put C p (.lst xs)) k := ix_o put_same h q
theorem setL_p {C : CS} {p : Addr} {xs : List D} {n : Int} {j : Nat} {d : D} {env : DEnv} {kE : DEnv → CS → Prop} (hj : ixN xs.length n = some j) (q : kE env (put C p (.lst (xs.set j d)))) : ∃ p' n' ys j', D.own p = .own p' ∧ D.int n = .int n' ∧ (put C p (.lst xs)) p' = some (.lst ys) ∧ ixN ys.length n' = some j' ∧ kE env (put (put C p (.lst xs)) p' (.lst (ys.set j' d))) :=
  ⟨p, n, xs, j, rfl, rfl, put_same, hj, by rw [put_put]; exact q⟩
theorem setL_o {C : CS} {p : Addr} {xs : List D} {n : Int} {j : Nat} {d : D} {env : DEnv} {kE : DEnv → CS → Prop} (hc : C p = some (.lst xs)) (hj : ixN xs.length n = some j) (q : kE env (put C p (.lst (xs.set j d)))) : ∃ p' n' ys j', D.own p = .own p' ∧ D.int n = .int n' ∧ C p' = some (.lst ys) ∧ ixN ys.length n' = some j' ∧ kE env (put C p' (.lst (ys.set j' d))) :=
  ⟨p, n, xs, j, rfl, rfl, hc, hj, q⟩
theorem len_put {C : CS} {k : KD} {p : Addr} {xs : List D} (q : k (.int (xs.length : Nat)) (put C p (.lst xs))) : dLen [.own p] (put C p (.lst xs)) k := len_own put_same q
end DL
namespace DL
open PySem PySem.Spec PyProof.Rows L2
theorem ws_asgD {X : Cx} {N : List Str} {dsc : Scope} {e tg : Expr} {env : DEnv} {C : CS} {pos : Pos} {E : DEnds} (D0 : Dfc X N dsc) (h : WE X e env C fun d C1 => WG X tg d env C1 E.nx) (hw : swappedStores [tg] e (envOf dsc) = pure none) (hs : swapsWithSole [tg] e pos.line X.env = pure false := by rfl)
    (h1 : (assignEach [tg] X.env).map (·.2) = [assign tg X.env] := by rfl) : WS X (.Assign [tg] e pos) env C E := ws_asg h hs (by rw [sst_env D0.sc]; exact hw) h1
theorem put_self {C : CS} {a : Addr} {c : Cell} (h : C a = some c) : put C a c = C := by
  funext b; unfold put; split
  · rename_i e; rw [e, h]
  · rfl
end DL
/-! DLn: methods by their names; texts. -/
namespace DL
open PySem PySem.Spec PyProof.Rows L2
section
variable {X : Cx} {e a b o : Expr} {es : List Expr} {env : DEnv} {C : CS} {k : KD} {pos apos cpos : Pos} {kb : Bool → CS → Prop}
theorem x_join (h : WE X o env C fun x C1 => tyD "str" C1 x ∧ WA X (e :: es) env C1 fun ds C2 => dJoin x ds C2 k)
    (hbase : attributeBase o "join" X.env (eval o X.env) = eval o X.env := by rfl)
    (hfew : ((backTo cpos (starEach (e :: es) X.env)).all (fun x => !x.1) && (backToKw cpos (keywordEach [] X.env)).all (fun x => x.1.isSome)
      && decide ((e :: es).length + ([] : List Keyword).length + (if ([] : List Keyword).isEmpty then 0 else 1) < 30)) = true := by rfl)
    (hline : (apos.endLine == cpos.line) = true := by rfl) (hs : starEach (e :: es) X.env = (false, eval e X.env) :: starEach es X.env := by rfl) (hplain : (backTo cpos (starEach es X.env)).any (·.1) = false := by rfl) :
    WE X (.Call (.Attribute o "join" apos) (e :: es) [] cpos) env C k :=
  we_bm PySem.F.plainAttrs_str PySem.F.slot_str_join PySem.F.type_str_join mt_join rm_join h hbase hfew hline hs hplain
theorem x_sindex (h : WE X o env C fun x C1 => tyD "str" C1 x ∧ WA X (e :: es) env C1 fun ds C2 => dSIndex x ds C2 k)
    (hbase : attributeBase o "index" X.env (eval o X.env) = eval o X.env := by rfl)
    (hfew : ((backTo cpos (starEach (e :: es) X.env)).all (fun x => !x.1) && (backToKw cpos (keywordEach [] X.env)).all (fun x => x.1.isSome)
      && decide ((e :: es).length + ([] : List Keyword).length + (if ([] : List Keyword).isEmpty then 0 else 1) < 30)) = true := by rfl)
    (hline : (apos.endLine == cpos.line) = true := by rfl) (hs : starEach (e :: es) X.env = (false, eval e X.env) :: starEach es X.env := by rfl) (hplain : (backTo cpos (starEach es X.env)).any (·.1) = false := by rfl) :
    WE X (.Call (.Attribute o "index" apos) (e :: es) [] cpos) env C k :=
  we_bm PySem.F.plainAttrs_str PySem.F.slot_str_index PySem.F.type_str_index mt_sindex rm_sindex h hbase hfew hline hs hplain
theorem x_insert (h : WE X o env C fun x C1 => tyD "list" C1 x ∧ WA X (e :: es) env C1 fun ds C2 => dInsert x ds C2 k)
    (hbase : attributeBase o "insert" X.env (eval o X.env) = eval o X.env := by rfl)
    (hfew : ((backTo cpos (starEach (e :: es) X.env)).all (fun x => !x.1) && (backToKw cpos (keywordEach [] X.env)).all (fun x => x.1.isSome)
      && decide ((e :: es).length + ([] : List Keyword).length + (if ([] : List Keyword).isEmpty then 0 else 1) < 30)) = true := by rfl)
    (hline : (apos.endLine == cpos.line) = true := by rfl) (hs : starEach (e :: es) X.env = (false, eval e X.env) :: starEach es X.env := by rfl) (hplain : (backTo cpos (starEach es X.env)).any (·.1) = false := by rfl) :
    WE X (.Call (.Attribute o "insert" apos) (e :: es) [] cpos) env C k :=
  we_bm PySem.F.plainAttrs_list PySem.F.slot_list_insert PySem.F.type_list_insert mt_insert rm_insert h hbase hfew hline hs hplain
theorem x_popAt (h : WE X o env C fun x C1 => tyD "list" C1 x ∧ WA X (e :: es) env C1 fun ds C2 => dPopAt x ds C2 k)
    (hbase : attributeBase o "pop" X.env (eval o X.env) = eval o X.env := by rfl)
    (hfew : ((backTo cpos (starEach (e :: es) X.env)).all (fun x => !x.1) && (backToKw cpos (keywordEach [] X.env)).all (fun x => x.1.isSome)
      && decide ((e :: es).length + ([] : List Keyword).length + (if ([] : List Keyword).isEmpty then 0 else 1) < 30)) = true := by rfl)
    (hline : (apos.endLine == cpos.line) = true := by rfl) (hs : starEach (e :: es) X.env = (false, eval e X.env) :: starEach es X.env := by rfl) (hplain : (backTo cpos (starEach es X.env)).any (·.1) = false := by rfl) :
    WE X (.Call (.Attribute o "pop" apos) (e :: es) [] cpos) env C k :=
  we_bm PySem.F.plainAttrs_list PySem.F.slot_list_pop PySem.F.type_list_pop mt_popAt rm_popAt h hbase hfew hline hs hplain
end
theorem x_ixL {X : Cx} {es : List Expr} {b : Expr} {env : DEnv} {C : CS} {k : KD} {pos p1 : Pos} (h : WA X es env C fun ds C1 => ds.length ≤ sizeLine ∧ WE X b env C1 fun y C2 => dIx (.lst ds) y C2 k) (hs : PlainIx b := by intro _ _; rfl) : WE X (.Subscript (.List es p1) b pos) env C k := we_ix (we_lstF h) hs
theorem ty_str {C : CS} {z : Str} {B : Prop} (q : B) : tyD "str" C (.str z) ∧ B := ⟨rfl, q⟩
theorem str_app (x y : Str) : (x ++ y).cps.toList = x.cps.toList ++ y.cps.toList := by
  show (x.cps ++ y.cps).toList = _
  rw [Array.toList_append]
theorem str_len (x : Str) : x.length = x.cps.toList.length := by
  show x.cps.size = _
  rw [Array.length_toList]
/-- cells forgotten -/
def Sub (C2 C1 : CS) : Prop := ∀ a c, C2 a = some c → C1 a = some c
theorem Sub.refl (C : CS) : Sub C C := fun _ _ h => h
theorem Sub.trans {C1 C2 C3 : CS} (a : Sub C1 C2) (b : Sub C2 C3) : Sub C1 C3 := fun x c h => b x c (a x c h)
theorem Sub.put {C C1 : CS} (h : Sub C C1) (a : Addr) (c : Cell) : Sub (put C a c) (put C1 a c) := fun x d e => by
  by_cases q : x = a
  · subst q; rw [put_same] at e ⊢; exact e
  · rw [put_ne q] at e ⊢; exact h x d e
theorem Sub.new {C C1 : CS} {a : Addr} {c : Cell} (h : Sub C C1) (ha : C a = none) : Sub C (DL.put C1 a c) := fun x d e => by
  have : x ≠ a := fun q => by subst q; rw [ha] at e; cases e
  rw [put_ne this]; exact h x d e
theorem fnS {P : Program} {w : World} {K : PySem.W.Frag} {mg : Str → Option Value} {base : Heap} {x qual : Str} {st : Stmt} {f : Addr} {fd : FuncData} {N M Ds ps : List Str} {n : Nat} {S : DSp} (F : Fun K x qual st f fd) (sc : FnScope N ps (defScope st)) (hv : visC (defScope st) M = true) (hlc : locC (defScope st) M = true) (hg : glC (defScope st) Ds = true)
    (hl : ∀ ds C k, S ds C k → ds.length = ps.length)
    (hb : ∀ (X : Cx), Bdy P w K mg base n N M Ds (defScope st) X → ∀ (ds : List D) (C : CS) (k : KD), S ds C k → WSs X (defBody st) (startD N ds) C { nx := fun _ C1 => ∃ C2, Sub C2 C1 ∧ k .non C2, rt := fun d C1 => ∃ C2, Sub C2 C1 ∧ k d C2 }) : FnG P w K mg base CX0 (n + 1) f fd ps (toSp K S) :=
  fnX F sc hv hlc hg hl fun X hB ds C k hS G σ H D0 wl er q => hb X hB ds C k hS G σ H D0 wl er
    ⟨fun G' C' H' σ' env f' w' er' ⟨C2, hs, z⟩ => let ⟨w2, f2⟩ := w'.sub hs; q.nx G' C2 H' σ' env (f'.trans f2) w2 er' z,
     fun v G' C' H' d f' w' r ⟨C2, hs, z⟩ => let ⟨w2, f2⟩ := w'.sub hs; q.rt v G' C2 H' d (f'.trans f2) w2 r z, fun G' C' H' σ' env f' w' er' z => z.elim, fun G' C' H' σ' env f' w' er' z => z.elim⟩
theorem pyL_strs : ∀ zs : List Str, pyL (zs.map D.str) = zs.map PyData.str
  | [] => rfl
  | z :: zs => by rw [List.map_cons, pyL, pyL_strs zs]; rfl
theorem any_strs (z : Str) : ∀ zs : List Str, ((zs.map PyData.str).any fun w => PyData.eqv w (.str z)) = decide (z ∈ zs)
  | [] => rfl
  | y :: zs => by
    rw [List.map_cons, List.any_cons, any_strs z zs]
    by_cases h : y = z
    · subst h; simp [PyData.eqv]
    · have h' : ¬ z = y := fun e => h e.symm
      simp [PyData.eqv, h, h']
end DL
/-! DLo: classes in a tuple; zip; two names in a comprehension. -/
namespace DL
open PySem PySem.Spec PyProof.Rows L2 RZ
/-- isinstance with a tuple of classes, wherever the tuple stands -/
def rIsiU (K : PySem.W.Frag) : List V → Hp → VK → Prop := fun xs H Q => ∃ (x : V) (tp : Addr) (cs : List V) (t : Value) (us : List Value) (b : Bool), xs = [x, .ref tp] ∧ SqT K H tp cs ∧ Paired ClsV cs us ∧ TyX K H x t ∧ PySem.W.kitAny K t us = some b ∧ Q (.bl b) H
theorem call_isiU {X : Cx} : CallR X (.builtin "isinstance") (rIsiU X.K) := by
  rintro pins s σ H xs us Q I r ⟨x, tp, cs, t, ws, b, rfl, hT, hcs, ty, e, q⟩
  obtain ⟨u1, u2, rfl, r1, r2⟩ := vals2 r
  obtain rfl : u2 = Value.ref tp := r2
  obtain ⟨P, hZ, hp, hne⟩ := kit_of I r1 ty
  obtain ⟨its, rv, ⟨⟨oc, od, dt, sl⟩, g1, g2, n, g3⟩, _⟩ := I.tuple hT
  obtain rfl := ClsV.all hcs rv
  simp only at g2 g3
  subst g2
  subst g3
  refine PySem.W.kia_tup hZ I.kIn hp g1 e hne ?_
  intro tk
  exact ⟨V.bl b, H, I.tok tk, rfl, q⟩
def kitL (T : String) : List String → Option Bool
  | [] => some false
  | U :: Us => match kitB T U with
    | some true => some true
    | some false => kitL T Us
    | none => none
theorem kitL_ok {K : PySem.W.Frag} {T : String} {b : Bool} : ∀ {Us : List String}, kitL T Us = some b → PySem.W.kitAny K (.type T) (Us.map fun U => .type U) = some b
  | [], h => by cases h; exact kitAny_nil
  | U :: Us, h => by
    unfold kitL at h
    cases e : kitB T U with
    | none => rw [e] at h; cases h
    | some t =>
      rw [e] at h
      cases t with
      | true => exact kitAny_cons (kit_ty e) (fun z => by cases z) fun _ => by cases h; rfl
      | false => exact kitAny_cons (kit_ty e) (fun _ => kitL_ok h) fun z => by cases z
def tysD (Us : List String) : List D := Us.map fun U => .opq (.ty U)
def dIsiT : List D → CS → KD → Prop := fun ds C k => ∃ x T Us b, ds = [x, .tup (tysD Us)] ∧ tyN C x = some T ∧ kitL T Us = some b ∧ k (.bl b) C
theorem dat_tys {K : PySem.W.Frag} {G : Hp} : ∀ {Us : List String} {vs : List V}, DatAll K G vs (tysD Us) → Paired ClsV vs (Us.map fun U => .type U)
  | [], _, h => by cases h; exact .nil
  | U :: Us, _, h => by
    cases h with
    | cons h1 h2 => cases h1; exact .cons (.ty U) (dat_tys h2)
theorem rl_isiT {K : PySem.W.Frag} : RLD K (rIsiU K) dIsiT := by
  rintro xs ds G C H k Q w rs ⟨x, T, Us, b, rfl, ht, hb, hk⟩ q
  cases rs with
  | cons r1 r2 =>
    cases r2 with
    | cons r2 r3 =>
      cases r3
      obtain ⟨a, vs, rfl, h1, h2⟩ := w.tup r2
      exact ⟨_, a, vs, .type T, _, b, rfl, h1, dat_tys h2, tyN_ok w r1 ht, kitL_ok hb, q _ _ _ _ _ (Fr.refl ..) w (.bl _) hk⟩
section
variable {X : Cx} {a e e2 elt iter : Expr} {ts es : List Expr} {env : DEnv} {C C1 : CS} {k : KD} {pos p p2 : Pos} {n m : Nat} {P : Program} {w : World} {K : PySem.W.Frag} {mg : Str → Option Value} {base : Heap}
theorem x_isiT (hx : Ctx P w K mg base m X) (Z : Zs mg) (hg : Gl X "isinstance") (h : WA X [a, .Tuple ts n p2] env C fun ds C1 => dIsiT ds C1 k) (he : starEach [a, .Tuple ts n p2] X.env = (false, eval a X.env) :: starEach [.Tuple ts n p2] X.env := by rfl)
    (hpl : (backTo pos (starEach [.Tuple ts n p2] X.env)).any (·.1) = false := by rfl) : WE X (.Call (.Name "isinstance" p) [a, .Tuple ts n p2] [] pos) env C k :=
  we_cb (hx.zs Z).isi call_isiU rl_isiT hg bt_isi h (he := he) (hpl := hpl)
end
section
variable {C : CS} {k : KD} {x : D}
theorem isi_lt (h : x.kind = true) (q : k (.bl (x.isLst || x.isTup)) C) : dIsiT [x, .tup [.opq (.ty "list"), .opq (.ty "tuple")]] C k := by
  cases x <;> first | exact ⟨_, _, ["list", "tuple"], true, rfl, rfl, by decide +kernel, q⟩ | exact ⟨_, _, ["list", "tuple"], false, rfl, rfl, by decide +kernel, q⟩ | (simp [D.kind] at h; done)
theorem isi_ownLT {a : Addr} {xs : List D} (h : C a = some (.lst xs)) (q : k (.bl true) C) : dIsiT [.own a, .tup [.opq (.ty "list"), .opq (.ty "tuple")]] C k :=
  ⟨_, "list", ["list", "tuple"], true, rfl, by simp [tyN, h], by decide +kernel, q⟩
end
/-! ### zip -/
/-- while P holds of the cells, a is the list of these data -/
def SeqOf (K : PySem.W.Frag) (a : Addr) (xs : List D) (Pc : CS → Prop) (G : Hp) : Prop := ∀ G' C' H', Same G G' → Wld K G' C' H' → Pc C' → ∃ vs, SqL K H' a vs ∧ DatAll K G' vs xs
/-- what a list's name says of the cells -/
def ownP (d : D) (xs : List D) : CS → Prop := fun C => ∀ a, d = .own a → C a = some (.lst xs)
theorem seqOf_dat {K : PySem.W.Frag} {G H : Hp} {C : CS} {v : V} {d : D} {xs : List D} (w : Wld K G C H) (r : Dat K G v d) (h : seqR C d = some xs) : ∃ a, v = .ref a ∧ SeqOf K a xs (ownP d xs) G ∧ ∃ vs, SqL K H a vs := by
  cases r with
  | lst x1 x2 =>
    simp [seqR] at h; subst h
    exact ⟨_, rfl, fun G' C' H' e w' _ => ⟨_, w'.ex.seq (e.seq (SqL.of x1)), x2.mono e⟩, _, w.ex.seq (SqL.of x1)⟩
  | slst x1 x2 =>
    simp [seqR] at h; subst h
    exact ⟨_, rfl, fun G' C' H' e w' _ => ⟨_, w'.ex.seq (e.seq x1), x2.mono e⟩, _, w.ex.seq x1⟩
  | own a =>
    obtain ⟨_, vs, y1, y2⟩ := w.cell a _ (own_seqR h)
    refine ⟨a, rfl, fun G' C' H' e w' p => ?_, _, SqL.of y1⟩
    obtain ⟨_, vs, z1, z2⟩ := w'.cell a _ (p a rfl)
    exact ⟨vs, SqL.of z1, z2⟩
  | _ => simp [seqR] at h
section
variable {X : Cx} {a b e e2 elt iter : Expr} {ts es : List Expr} {env : DEnv} {C C1 : CS} {k : KD} {kI : KI} {pos p p2 tpos : Pos} {n m : Nat} {P : Program} {w : World} {K : PySem.W.Frag} {mg : Str → Option Value} {base : Heap}
end
/-! ### a comprehension with two names -/
section
variable {X : Cx} {elt iter : Expr} {ifs : List Expr} {scope dsc : Scope} {env : DEnv} {C C1 : CS} {k : KD} {pos px py pt : Pos} {n : Nat} {E : DEnds} {N M gs : List Str} {x y : Str} {f1 : D → DEnv} {f2 : D → D → DEnv} {xs : List D} {Pc : CS → Prop}
end
section
variable {C : CS} {k : KD} {x : D} {xs : List D}
theorem isi_ltT (h : x.kind = true) (h2 : (x.isLst || x.isTup) = true) (q : k (.bl true) C) : dIsiT [x, .tup [.opq (.ty "list"), .opq (.ty "tuple")]] C k := isi_lt h (by rw [h2]; exact q)
theorem isi_ltF (h : x.kind = true) (h2 : (x.isLst || x.isTup) = false) (q : k (.bl false) C) : dIsiT [x, .tup [.opq (.ty "list"), .opq (.ty "tuple")]] C k := isi_lt h (by rw [h2]; exact q)
theorem isi_ls (h : seqR C x = some xs) (q : k (.bl true) C) : dIsi [x, .opq (.ty "list")] C k := by
  cases x with
  | lst xs => exact ⟨_, "list", _, true, rfl, rfl, by decide +kernel, q⟩
  | slst xs => exact ⟨_, "list", _, true, rfl, rfl, by decide +kernel, q⟩
  | own a =>
    have h' := own_seqR h
    exact ⟨_, "list", _, true, rfl, by simp [tyN, h'], by decide +kernel, q⟩
  | _ => simp [seqR] at h
theorem isi_lsT (h : seqR C x = some xs) (q : k (.bl false) C) : dIsi [x, .opq (.ty "tuple")] C k := by
  cases x with
  | lst xs => exact ⟨_, "list", _, false, rfl, rfl, by decide +kernel, q⟩
  | slst xs => exact ⟨_, "list", _, false, rfl, rfl, by decide +kernel, q⟩
  | own a =>
    have h' := own_seqR h
    exact ⟨_, "list", _, false, rfl, by simp [tyN, h'], by decide +kernel, q⟩
  | _ => simp [seqR] at h
theorem isiT_ls (h : seqR C x = some xs) (q : k (.bl true) C) : dIsiT [x, .tup [.opq (.ty "list"), .opq (.ty "tuple")]] C k := by
  cases x with
  | lst xs => exact isi_lt rfl q
  | slst xs => exact isi_lt rfl q
  | own a =>
    have h' := own_seqR h
    exact isi_ownLT h' q
  | _ => simp [seqR] at h
theorem len_ls (h : seqR C x = some xs) (q : k (.int (xs.length : Nat)) C) : dLen [x] C k := by
  cases x with
  | lst xs => exact ⟨_, _, rfl, ⟨_, h, rfl⟩, q⟩
  | slst xs => exact ⟨_, _, rfl, ⟨_, h, rfl⟩, q⟩
  | own a =>
    have h' := own_seqR h
    exact ⟨_, _, rfl, ⟨_, h, rfl⟩, q⟩
  | _ => simp [seqR] at h
theorem eq_bb {a b : Bool} (q : k (.bl (a == b)) C) : dEq false (.bl a) (.bl b) C k := eq_ok (by cases a <;> rfl) (by cases b <;> rfl) (by cases a <;> cases b <;> exact q)
theorem ne_bb {a b : Bool} (q : k (.bl (a != b)) C) : dEq true (.bl a) (.bl b) C k := ne_ok (by cases a <;> rfl) (by cases b <;> rfl) (by cases a <;> cases b <;> exact q)
end
/-! ### the same data -/
def Sm (C : CS) : Nat → D → D → Prop
  | 0, x, y => x = y ∧ x.fit 0 = true
  | n + 1, x, y => (x = y ∧ x.fit 0 = true) ∨ ∃ xs ys, xs.length = ys.length ∧ xs.length ≤ sizeLine ∧ ((seqR C x = some xs ∧ seqR C y = some ys) ∨ (x = .tup xs ∧ y = .tup ys)) ∧ ∀ (i : Nat) (a b : D), xs[i]? = some a → ys[i]? = some b → Sm C n a b
/-- trees of lists that are not too long -/
def Sz : Nat → D → Prop
  | 0, x => x.fit 0 = true
  | n + 1, x => x.fit 0 = true ∨ ∃ xs : List D, xs.length ≤ sizeLine ∧ (x = .lst xs ∨ x = .slst xs ∨ x = .tup xs) ∧ ∀ a ∈ xs, Sz n a
theorem Sm.of {C : CS} : ∀ {n : Nat} {x : D}, Sz n x → Sm C n x x
  | 0, _, h => ⟨rfl, h⟩
  | n + 1, x, h => by
    rcases h with h | ⟨xs, h1, h2, h3⟩
    · exact .inl ⟨rfl, h⟩
    · refine .inr ⟨xs, xs, rfl, h1, ?_, fun i a b ha hb => ?_⟩
      · rcases h2 with rfl | rfl | rfl
        · exact .inl ⟨rfl, rfl⟩
        · exact .inl ⟨rfl, rfl⟩
        · exact .inr ⟨rfl, rfl⟩
      · rw [ha] at hb; cases hb
        exact Sm.of (h3 a (List.mem_of_getElem? ha))
end DL
/-! DLp: lists unpacked; lists made and frozen by * and +. -/
namespace DL
open PySem PySem.Spec PyProof.Rows L2
section
variable {X : Cx} {a b e : Expr} {es ts : List Expr} {env : DEnv} {C : CS} {k : KD} {pos p1 p2 p3 : Pos} {n m : Nat} {P : Program} {w : World} {K : PySem.W.Frag} {mg : Str → Option Value} {base : Heap} {op : Operator}
end
section
variable {C : CS} {k : KD} {xs ys : List D} {i : Int} {p : Addr} {d : D}
theorem rep_len (n : Nat) (xs : List D) : (List.replicate n xs).flatten.length = n * xs.length := by simp
end
/-! ### a text times an int -/
theorem op_mulS {X : Cx} : OpR X (binaryOp .Mult) (fun x y H Q => ∃ z n, x = .str z ∧ y = .int n ∧ MulOk z n ∧ Q (.str (Txt.mul z n)) H) := by
  rintro pins s σ H x y v u Q I rx ry ⟨z, n, rfl, rfl, hok, q⟩
  obtain ⟨t, rfl⟩ := rx
  obtain ⟨t', rfl⟩ := ry
  exact SB.mul hok fun t' k => ⟨.str (Txt.mul z n), H, I.tok _, ⟨_, rfl⟩, q⟩
def dMulS : OpD := fun x y C k => ∃ z n, x = .str z ∧ y = .int n ∧ MulOk z n ∧ k (.str (Txt.mul z n)) C
theorem r2_mulS {K : PySem.W.Frag} : R2D K (fun x y H Q => ∃ z n, x = .str z ∧ y = .int n ∧ MulOk z n ∧ Q (.str (Txt.mul z n)) H) dMulS := by
  rintro x y a b G C H k Q w da db ⟨z, n, rfl, rfl, h1, h2⟩ q
  cases da
  cases db
  exact ⟨z, n, rfl, rfl, h1, q _ _ _ _ _ (Fr.refl ..) w (.str _) h2⟩
theorem x_mulS {X : Cx} {b : Expr} {env : DEnv} {C : CS} {k : KD} {pos p1 : Pos} {z : Str} {j : Nat} (h : WE X b env C fun y C1 => dMulS (.str z) y C1 k) : WE X (.BinOp (.Constant (.str z) j p1) .Mult b pos) env C k := we_op op_mulS r2_mulS (we_str h)
theorem mul_s {C : CS} {k : KD} {z : Str} {n : Int} (h : MulOk z n) (q : k (.str (Txt.mul z n)) C) : dMulS (.str z) (.int n) C k := ⟨z, n, rfl, rfl, h, q⟩
end DL
/-! DLq: repr of data. -/
namespace DL
open PySem PySem.Spec PyProof.Rows L2 RZ
/-- repr of a list or a tuple of data -/
def rRepr (K : PySem.W.Frag) : List V → Hp → VK → Prop := fun xs H Q => ∃ (v : V) (d : PyData), xs = [v] ∧ Dp K H v d ∧ isDisplay d = true ∧ d.showable = true ∧ d.hasDict = false ∧ d.depth ≤ 60 ∧ d.shown.length ≤ sizeLine ∧ Q (.str d.shown) H
theorem call_reprD {X : Cx} (hgd : X.A.guards = some []) (hu : X.A.units + 65 < cLine) : CallR X (.builtin "repr") (rRepr X.K) := by
  rintro pins s σ H xs us Q I r ⟨v, d, rfl, hd, hdis, hs, hnd, hdp, hsz, q⟩
  cases r with
  | cons r1 r2 =>
    cases r2
    obtain ⟨as, rd⟩ := Dp.reads I d v _ hd r1
    obtain ⟨a, rfl⟩ := isRef_of_reads rd hdis
    refine repr_of_reads' rd hs (PyData.noDict_hsm hnd) hgd (by omega) (fun _ _ e => e) ?_ hsz
    intro h' u tk hk
    exact ⟨.str d.shown, H, I.kept (t' := tk) hk, ⟨u, rfl⟩, q⟩
/-- repr of data -/
def rReprA (K : PySem.W.Frag) : List V → Hp → VK → Prop := fun xs H Q => ∃ (v : V) (d : PyData), xs = [v] ∧ Dp K H v d ∧ d.showable = true ∧ d.hasDict = false ∧ d.depth ≤ 60 ∧ d.shown.length ≤ sizeLine ∧ Q (.str d.shown) H
theorem call_reprA {X : Cx} (hgd : X.A.guards = some []) (hu : X.A.units + 65 < cLine) : CallR X (.builtin "repr") (rReprA X.K) := by
  rintro pins s σ H xs us Q I r ⟨v, d, rfl, hd, hs, hnd, hdp, hsz, q⟩
  by_cases hdis : isDisplay d = true
  · exact call_reprD hgd hu pins s σ H [v] us Q I r ⟨v, d, rfl, hd, hdis, hs, hnd, hdp, hsz, q⟩
  · cases r with
    | cons r1 r2 =>
      cases r2
      have fin : EP X pins σ Q (.str d.shown s.toks) { s with toks := s.toks + 1 } := ⟨.str d.shown, H, I.tok _, ⟨_, rfl⟩, q⟩
      cases hd with
      | non =>
        obtain rfl : _ = Value.none := r1
        exact P.repr_of_none fin
      | bl b =>
        obtain rfl : _ = Value.bool b := r1
        exact P.repr_of_bool fin
      | int i =>
        obtain ⟨t, rfl⟩ := r1
        exact P.repr_of_int (by simpa [PyData.showable] using hs) fin
      | str z =>
        obtain ⟨t, rfl⟩ := r1
        exact P.repr_of_str fin hsz
      | _ => exact absurd rfl hdis
def dRepr : List D → CS → KD → Prop := fun ds C k => ∃ x d, ds = [x] ∧ pyC C x = some d ∧ d.showable = true ∧ d.hasDict = false ∧ d.depth ≤ 60 ∧ d.shown.length ≤ sizeLine ∧ k (.str d.shown) C
theorem rl_repr {K : PySem.W.Frag} : RLD K (rReprA K) dRepr := by
  rintro xs ds G C H k Q w rs ⟨x, d, rfl, hd, h1, h2, h3, h4, hk⟩ q
  cases rs with
  | cons r1 r2 =>
    cases r2
    exact ⟨_, d, rfl, w.dp r1 hd, h1, h2, h3, h4, q _ _ _ _ _ (Fr.refl ..) w (.str _) hk⟩
section
variable {X : Cx} {e : Expr} {es : List Expr} {env : DEnv} {C : CS} {k : KD} {pos p : Pos} {m : Nat} {P : Program} {w : World} {K : PySem.W.Frag} {mg : Str → Option Value} {base : Heap}
theorem x_repr (hx : Ctx P w K mg base m X) (Z : Zs mg) (hg : Gl X "repr") (h : WA X (e :: es) env C fun ds C1 => dRepr ds C1 k) (he : starEach (e :: es) X.env = (false, eval e X.env) :: starEach es X.env := by rfl) (hpl : (backTo pos (starEach es X.env)).any (·.1) = false := by rfl) :
    WE X (.Call (.Name "repr" p) (e :: es) [] pos) env C k := we_cb (hx.zs Z).repr (call_reprA hx.guards (by have := hx.room.units; have := hx.room.un; omega)) rl_repr hg bootS_repr h (he := he) (hpl := hpl)
end
end DL
/-! DLr: comprehensions with any number of fors. -/
namespace DL
open PySem PySem.Spec PyProof.Rows L2
section
variable {elt t0 i0 t1 i1 : Expr} {ifs0 ifs1 : List Expr} {gens : List Comprehension} {scope : Scope} {pos : Pos} {it acc : Value} {env : Env} {i : Nat}
theorem turn_mid (h0 : gens[i]? = some ⟨t0, i0, ifs0, 0⟩) (h1 : gens[i + 1]? = some ⟨t1, i1, ifs1, 0⟩) : compTurn (.ListComp elt gens scope pos) i it acc env = (do
    standAt i0.pos
    match ← pyNext it with
    | none => pure (.done .next)
    | some v =>
      letOwnedTupleGo t0 it v
      assign t0 env v
      let mut ok := true
      for c in ifs0 do
        if ok then ok ← isTrue c env (eval c env)
      if ok then
        let x ← eval i1 env
        standAt i1.pos
        let x ← foldedSetIterable i1 env x
        let _ ← runOwn (.compStart (.ListComp elt gens scope pos) (i + 1) (← holding [x] (pyIter x)) acc env) env
      again (.compLoop (.ListComp elt gens scope pos) i it acc env)) := by
  unfold compTurn
  simp only [h0, h1]
  rfl
theorem turn_last (h0 : gens[i]? = some ⟨t0, i0, ifs0, 0⟩) (h1 : gens[i + 1]? = none) : compTurn (.ListComp elt gens scope pos) i it acc env = (do
    standAt i0.pos
    match ← pyNext it with
    | none => pure (.done .next)
    | some v =>
      letOwnedTupleGo t0 it v
      assign t0 env v
      let mut ok := true
      for c in ifs0 do
        if ok then ok ← isTrue c env (eval c env)
      if ok then
        (do let _ ← call (.builtin "list.append") [acc, ← eval elt env])
      again (.compLoop (.ListComp elt gens scope pos) i it acc env)) := by
  unfold compTurn
  simp only [h0, h1]
  rfl
end
section
variable {prog : Program} {w : World} {A : Around} {R : Result → Shared → Prop} {s : Shared} {elt t0 i0 t1 i1 : Expr} {ifs0 ifs1 : List Expr} {gens : List Comprehension} {scope : Scope} {pos : Pos} {it acc : Value} {env : Env} {i : Nat}
/-- what is raised in a comprehension's turn -/
def Nb (prog : Program) (w : World) (A : Around) (env : Env) (R : Result → Shared → Prop) : Value → Shared → Prop := notedBy (model prog w) A env fun e s' => R (.error e) s'
/-- the tests of a clause -/
def tests (env : Env) (ifs : List Expr) : Sem Bool := forIn ifs true fun c r => if r = true then do let ok ← isTrue c env (eval c env); pure (ForInStep.yield ok) else pure (ForInStep.yield r)
/-- a turn up to the tests -/
def TurnW (prog : Program) (w : World) (A : Around) (env : Env) (R : Result → Shared → Prop) (t : Expr) (ifs : List Expr) (it : Value) (B N : Shared → Prop) (s : Shared) : Prop :=
  wpAny (model prog w) A (pyNext it) (fun r s1 => match r with
    | none => R (.ok .next) s1
    | some v => wpAny (model prog w) A (letOwnedTupleGo t it v) (fun _ s2 => wpAny (model prog w) A (assign t env v) (fun _ s3 =>
        wpAny (model prog w) A (tests env ifs) (fun ok s4 => if ok = true then B s4 else N s4) (Nb prog w A env R) s3) (Nb prog w A env R) s2) (Nb prog w A env R) s1) (Nb prog w A env R) s
theorem loop_mid (h0 : gens[i]? = some ⟨t0, i0, ifs0, 0⟩) (h1 : gens[i + 1]? = some ⟨t1, i1, ifs1, 0⟩) (hs : ∀ x, foldedSetIterable i1 env x = pure x) (I : Nat → Shared → Prop)
    (turn : ∀ n s, I n s → TurnW prog w A env R t0 ifs0 it (fun s4 => wpAny (model prog w) A (eval i1 env) (fun x s5 => wpAny (model prog w) A (pyIter x) (fun it1 s6 =>
      codeAny (model prog w) A (.compStart (.ListComp elt gens scope pos) (i + 1) it1 acc env) (fun r s' => match r with
        | .ok _ => ∃ m, m < n ∧ I m s'
        | .error _ => False) s6) (Nb prog w A env R) s5) (Nb prog w A env R) s4) (fun s4 => ∃ m, m < n ∧ I m s4) s) (n : Nat) (h : I n s) :
    codeAny (model prog w) A (.compLoop (.ListComp elt gens scope pos) i it acc env) R s := by
  refine codeAny_loop rfl I ?_ n h
  intro n s hI
  show wpAny _ A ((compTurn (.ListComp elt gens scope pos) i it acc env).onRaise (fun x => do noteFrame x env; theTreesLotGoes x)) _ _ s
  refine wpAny_noted ?_
  rw [turn_mid h0 h1]
  have go := turn n s hI
  refine wpAny_bind (wpAny_standAt (wpAny_bind (wpAny_mono go ?_ fun _ _ z => z)))
  intro r s1 g1
  match r, g1 with
  | none, g1 => exact wpAny_pure g1
  | some v, g1 =>
    refine wpAny_bind (wpAny_mono g1 (fun _ s2 g2 => wpAny_bind (wpAny_mono g2 (fun _ s3 g3 => wpAny_bind (wpAny_mono g3 ?_ fun _ _ z => z)) fun _ _ z => z)) fun _ _ z => z)
    intro ok s4 g4
    match ok, g4 with
    | false, g4 => exact wpAny_pure ⟨rfl, g4⟩
    | true, g4 =>
      refine wpAny_bind (wpAny_mono g4 ?_ fun _ _ z => z)
      intro x s5 g5
      refine wpAny_bind (wpAny_standAt (wpAny_bind (wpAny_of_eq (hs x) (wpAny_bind (wpAny_holding (wpAny_mono g5 ?_ fun _ _ z => z))))))
      intro it1 s6 g6
      refine wpAny_bind (wpAny_runOwn ?_)
      rw [Around.mark_none]
      refine codeAny_mono g6 ?_
      intro r s' z
      match r, z with
      | .ok f, z => first | exact wpAny_pure ⟨rfl, z⟩ | exact wpAny_bind (wpAny_pure (wpAny_pure ⟨rfl, z⟩))
theorem loop_last (h0 : gens[i]? = some ⟨t0, i0, ifs0, 0⟩) (h1 : gens[i + 1]? = none) (I : Nat → Shared → Prop)
    (turn : ∀ n s, I n s → TurnW prog w A env R t0 ifs0 it (fun s4 => wpAny (model prog w) A (eval elt env) (fun x s5 => wpAny (model prog w) A (call (.builtin "list.append") [acc, x]) (fun _ s6 => ∃ m, m < n ∧ I m s6) (Nb prog w A env R) s5) (Nb prog w A env R) s4)
      (fun s4 => ∃ m, m < n ∧ I m s4) s) (n : Nat) (h : I n s) : codeAny (model prog w) A (.compLoop (.ListComp elt gens scope pos) i it acc env) R s := by
  refine codeAny_loop rfl I ?_ n h
  intro n s hI
  show wpAny _ A ((compTurn (.ListComp elt gens scope pos) i it acc env).onRaise (fun x => do noteFrame x env; theTreesLotGoes x)) _ _ s
  refine wpAny_noted ?_
  rw [turn_last h0 h1]
  have go := turn n s hI
  refine wpAny_bind (wpAny_standAt (wpAny_bind (wpAny_mono go ?_ fun _ _ z => z)))
  intro r s1 g1
  match r, g1 with
  | none, g1 => exact wpAny_pure g1
  | some v, g1 =>
    refine wpAny_bind (wpAny_mono g1 (fun _ s2 g2 => wpAny_bind (wpAny_mono g2 (fun _ s3 g3 => wpAny_bind (wpAny_mono g3 ?_ fun _ _ z => z)) fun _ _ z => z)) fun _ _ z => z)
    intro ok s4 g4
    match ok, g4 with
    | false, g4 => exact wpAny_pure ⟨rfl, g4⟩
    | true, g4 => exact wpAny_bind (wpAny_bind (wpAny_mono g4 (fun x s5 g5 => wpAny_bind (wpAny_mono g5 (fun _ s6 g6 => wpAny_pure (wpAny_pure ⟨rfl, g6⟩)) fun _ _ z => z)) fun _ _ z => z))
/-- an inner clause's start -/
theorem start_in (h0 : gens[i]? = some ⟨t0, i0, ifs0, 0⟩) (hl : codeAny (model prog w) A (.compLoop (.ListComp elt gens scope pos) i it acc env) R s)
    (hi : wpAny (model prog w) A (pyIter it) (fun it' s' => codeAny (model prog w) A (.compLoop (.ListComp elt gens scope pos) i it' acc env) R s') (Nb prog w A env R) s) : codeAny (model prog w) A (.compStart (.ListComp elt gens scope pos) i it acc env) R s := by
  have hc : (clausesOf (.ListComp elt gens scope pos))[i]? = some ⟨t0, i0, ifs0, 0⟩ := h0
  refine codeAny_of_tree ?_
  show wpAny _ _ ((compStart (.ListComp elt gens scope pos) i it acc env).onRaise (fun x => do noteFrame x env; standAt theWindowsPlace)) _ _ s
  refine wpAny_notedAt ?_
  unfold compStart
  simp only [hc, Option.elim_some]
  show wpAny _ _ (ask >>= _) _ _ s
  refine wpAny_bind (wpAny_askSetting (wpAny_ite ?_))
  split
  · first | exact wpAny_bind (wpAny_pure (wpAny_pure (And.intro rfl hl))) | exact wpAny_pure (And.intro rfl hl)
  · refine wpAny_bind (wpAny_rule ?_)
    show wpAny _ _ (standAt i0.pos >>= _) _ _ s
    exact wpAny_bind (wpAny_standAt (wpAny_bind (wpAny_mono hi (fun it' s' z => wpAny_pure (And.intro rfl z)) fun _ _ z => z)))
end
/-! ### the inner clauses -/
/-- a clause and its readings -/
structure Lv where
  tg : Expr
  iter : Expr
  ifs : List Expr
  wi : TI
  g : TG
  tt : TT
  vs : List Nat
def Lv.c (l : Lv) : Comprehension := ⟨l.tg, l.iter, l.ifs, 0⟩
structure LvOk (Y : Cx) (l : Lv) : Prop where
  pi : PI Y l.tg l.iter l.wi
  pg : PG Y l.tg l.g
  pt : PTs Y l.ifs l.tt
  fs : ∀ x, foldedSetIterable l.iter Y.env x = pure x
def restV : List Lv → List Nat
  | [] => []
  | l :: ls => l.vs ++ restV ls
theorem wipe_app (σ : L2.St) (us : List Nat) : ∀ vs : List Nat, wipe σ (vs ++ us) = wipe (wipe σ us) vs
  | [] => rfl
  | v :: vs => by
    show (wipe σ (vs ++ us)).set v none = (wipe (wipe σ us) vs).set v none
    rw [wipe_app σ us vs]
theorem wipe_two (σ : L2.St) (vs : List Nat) : wipe (wipe σ vs) vs = wipe σ vs := by
  apply wipe_ext
  · rw [wipe_length]
  · intro j hj
    rw [wipe_get, if_neg hj]
def tIn (D : Addr) (te : TE) : List Lv → L2.St → Hp → (Hp → Prop) → Prop
  | [], σ, H, Nx => te σ H fun y H1 => ∃ acc, H1 D = some (.lst acc) ∧ acc.length < sizeLine ∧ Nx (upd H1 D (.lst (acc ++ [y])))
  | l :: ls, σ, H, Nx => l.wi σ H fun J H1 => ∃ W : Nat → Nat → Hp → Prop, (∃ m, W 0 m H1) ∧ ∀ j k H, W j k H → (J.stop j H ∧ Nx H) ∨ (J.go j H ∧ ∃ N1 : Hp → Prop, (∀ H', N1 H' → ∃ k', k' < k ∧ W (j + 1) k' H') ∧
      ∀ x H', J.yld j H x H' → l.g x (wipe σ (restV (l :: ls))) H' fun σ2 H2 => wipe σ2 (restV (l :: ls)) = wipe σ (restV (l :: ls)) ∧ l.tt σ2 H2 fun b H3 => if b = true then tIn D te ls σ2 H3 N1 else N1 H3)
section
variable {Y : Cx} {elt : Expr} {te : TE} {scope : Scope} {pos : Pos} {gens : List Comprehension} {D : Addr}
/-- behind an inner clause -/
def Beh (Y : Cx) (pins : List (Addr × Obj)) (V : List Nat) (σ : L2.St) (Nx : Hp → Prop) (s' : Shared) : Prop := ∃ σ' H', Inv Y pins σ' H' s' ∧ wipe σ' V = wipe σ V ∧ Nx H'
/-- what a turn goes on with -/
def Body (Y : Cx) (elt : Expr) (scope : Scope) (pos : Pos) (gens : List Comprehension) (D : Addr) (R : Result → Shared → Prop) (P : Shared → Prop) (i : Nat) : List Lv → Shared → Prop
  | [], s => wpAny (model Y.prog Y.w) Y.A (eval elt Y.env) (fun x s1 => wpAny (model Y.prog Y.w) Y.A (call (.builtin "list.append") [.ref D, x]) (fun _ s2 => P s2) (Nb Y.prog Y.w Y.A Y.env R) s1) (Nb Y.prog Y.w Y.A Y.env R) s
  | l :: _, s => wpAny (model Y.prog Y.w) Y.A (eval l.iter Y.env) (fun x s1 => wpAny (model Y.prog Y.w) Y.A (pyIter x) (fun it s2 => codeAny (model Y.prog Y.w) Y.A (.compStart (.ListComp elt gens scope pos) i it (.ref D) Y.env) (fun r s' => match r with
      | .ok _ => P s'
      | .error _ => False) s2) (Nb Y.prog Y.w Y.A Y.env R) s1) (Nb Y.prog Y.w Y.A Y.env R) s
/-- the loop of a clause, from what the clauses behind it do -/
theorem loopLv {l : Lv} {ls : List Lv} {i : Nat} (hxe : Y.xe = fun _ _ => False) (hc : Y.calm = true) (hd : gens.drop i = (l :: ls).map Lv.c) (hfs : ∀ l' ∈ ls, ∀ x, foldedSetIterable l'.iter Y.env x = pure x) (opg : PG Y l.tg l.g) (opt : PTs Y l.ifs l.tt)
    (ih : ∀ (pins : List (Addr × Obj)) (σ : L2.St) (H : Hp) (s : Shared) (Nx : Hp → Prop) (R : Result → Shared → Prop) (P : Shared → Prop), Inv Y pins σ H s → tIn D te ls σ H Nx → (∀ s', Beh Y pins (restV ls) σ Nx s' → P s') → Body Y elt scope pos gens D R P (i + 1) ls s)
    {pins : List (Addr × Obj)} {σ : L2.St} {V : List Nat} (hV : restV (l :: ls) = V) {it : Addr} {fp : List Addr} {tn : Nat → Heap → Prop} {J : It} (T : Turn Y.prog Y.w Y.K l.tg J fp it tn) {Nx : Hp → Prop} {R : Result → Shared → Prop}
    (fin : ∀ s', Beh Y pins V σ Nx s' → R (.ok .next) s') {W : Nat → Nat → Hp → Prop} (stat : ∀ {H' : Hp} {s' : Shared} {σ' : L2.St}, Inv Y pins σ' H' s' → (∀ b ∈ fp, H' b = none) → ∀ b ∈ fp, FpOk Y pins H' b)
    (turn : ∀ j k H, W j k H → (J.stop j H ∧ Nx H) ∨ (J.go j H ∧ ∃ N1 : Hp → Prop, (∀ H', N1 H' → ∃ k', k' < k ∧ W (j + 1) k' H') ∧
      ∀ x H', J.yld j H x H' → l.g x (wipe σ V) H' fun σ2 H2 => wipe σ2 V = wipe σ V ∧ l.tt σ2 H2 fun b H3 => if b = true then tIn D te ls σ2 H3 N1 else N1 H3))
    {m0 : Nat} {H2 : Hp} {s2 : Shared} (I2 : Inv Y pins (wipe σ V) H2 s2) (st2 : tn 0 s2.heap) (n2 : ∀ b ∈ fp, H2 b = none) (w0 : W 0 m0 H2) :
    codeAny (model Y.prog Y.w) Y.A (.compLoop (.ListComp elt gens scope pos) i (.ref it) (.ref D) Y.env) R s2 := by
  have h0 : gens[i]? = some l.c := by
    have := congrArg (fun x : List Comprehension => x[0]?) hd
    simpa [List.getElem?_drop] using this
  have hd1 : gens.drop (i + 1) = ls.map Lv.c := by
    have := congrArg List.tail hd
    simpa [List.tail_drop] using this
  have hV' : V = l.vs ++ restV ls := hV.symm
  let Iv : Nat → Shared → Prop := fun k s' => ∃ j H', Inv Y pins (wipe σ V) H' s' ∧ tn j s'.heap ∧ (∀ b ∈ fp, H' b = none) ∧ W j k H'
  have turnW : ∀ n s, Iv n s → TurnW Y.prog Y.w Y.A Y.env R l.tg l.ifs (.ref it) (fun s4 => Body Y elt scope pos gens D R (fun s' => ∃ m, m < n ∧ Iv m s') (i + 1) ls s4) (fun s4 => ∃ m, m < n ∧ Iv m s4) s := by
    intro n s ⟨j, H3, I3, st3, n3, w3⟩
    rcases turn j n H3 w3 with ⟨stop, nx⟩ | ⟨go, N1, hN1, step⟩
    · refine thnF (T.done Y rfl rfl rfl hc j pins s (wipe σ V) H3 (fun _ _ => False) I3 (stat I3 n3) st3 stop) fun r s4 z => ?_
      obtain ⟨rfl, I4⟩ := z
      exact fin s4 ⟨_, _, I4, wipe_two σ V, nx⟩
    · refine thnF (T.item Y rfl rfl rfl hc j pins s (wipe σ V) H3 (fun _ _ => False) I3 (stat I3 n3) st3 go) fun r s4 z => ?_
      obtain ⟨u, rfl, z⟩ := z
      refine thnF z fun _ s5 ⟨x, H5, I5, r5, y5, st5, n5⟩ => ?_
      have I6 := I5.pinned (stat I5 n5) (T.obj _ _ st5)
      have pg := opg.run _ s5 (wipe σ V) H5 x u _ I6 r5 (step x H5 y5)
      rw [hxe] at pg
      refine thnF pg fun _ s6 ⟨σ6, H6, I7, hw6, q6⟩ => ?_
      have pt := opt.run _ s6 σ6 H6 _ I7 q6
      rw [hxe] at pt
      refine thnF pt fun b s7 ⟨H7, I8, q8⟩ => ?_
      have back : ∀ {s' : Shared} {σ' : L2.St} {H' : Hp}, Inv Y (pins ++ pinsAt fp s5.heap) σ' H' s' → wipe σ' (restV ls) = wipe σ6 (restV ls) → N1 H' → ∃ m, m < n ∧ Iv m s' := by
        intro s' σ' H' I' hw' nx
        obtain ⟨m', hm, w'⟩ := hN1 H' nx
        have hw2 : wipe σ' V = wipe σ V := by
          rw [hV', wipe_app, hw', ← wipe_app, ← hV']; exact hw6
        have pin' : ∀ b ∈ fp, ∀ ob, s5.heap.get? b = some ob → s'.heap.get? b = some ob ∧ H' b = none := fun b hb ob e =>
          let z := I'.pin (b, ob) (List.mem_append_right _ (List.mem_append_right _ (mem_pinsAt hb e)))
          ⟨z.1, z.2.1⟩
        refine ⟨m', hm, j + 1, H', I'.unpinned.weak ?_ ?_, T.keep _ _ _ st5 fun b hb ob e => (pin' b hb ob e).1, fun b hb => ?_, w'⟩
        · rw [← hw2, wipe_length]
        · intro k v e
          rw [← hw2] at e
          exact (wipe_some e).1
        · obtain ⟨ob, e, _⟩ := T.obj _ _ st5 b hb
          exact (pin' b hb ob e).2
      match b, q8 with
      | false, q8 => exact back I8 rfl q8
      | true, q8 => exact ih _ σ6 H7 s7 N1 R _ I8 q8 fun s' ⟨σ', H', I', hw', nx⟩ => back I' hw' nx
  match ls, hd1, turnW, hfs with
  | [], hd1, turnW, _ =>
    have h1 : gens[i + 1]? = none := by
      have := congrArg (fun x : List Comprehension => x[0]?) hd1
      simpa [List.getElem?_drop] using this
    exact loop_last h0 h1 Iv turnW m0 ⟨0, H2, I2, st2, n2, w0⟩
  | l' :: ls', hd1, turnW, hfs =>
    have h1 : gens[i + 1]? = some l'.c := by
      have := congrArg (fun x : List Comprehension => x[0]?) hd1
      simpa [List.getElem?_drop] using this
    exact loop_mid h0 h1 (hfs l' (by simp)) Iv turnW m0 ⟨0, H2, I2, st2, n2, w0⟩
theorem inner (hxe : Y.xe = fun _ _ => False) (hc : Y.calm = true) (he : PE Y elt te) : ∀ (ls : List Lv) (i : Nat), gens.drop i = ls.map Lv.c → (∀ l ∈ ls, LvOk Y l) → ∀ (pins : List (Addr × Obj)) (σ : L2.St) (H : Hp) (s : Shared) (Nx : Hp → Prop) (R : Result → Shared → Prop) (P : Shared → Prop),
    Inv Y pins σ H s → tIn D te ls σ H Nx → (∀ s', Beh Y pins (restV ls) σ Nx s' → P s') → Body Y elt scope pos gens D R P i ls s
  | [], i, hd, ok, pins, σ, H, s, Nx, R, P, I, q, fin => by
    have run := he.run pins s σ H _ I q
    rw [hxe] at run
    refine thnF run fun x s1 z => ?_
    obtain ⟨y, H1, I1, r1, acc, h1, h2, h3⟩ := z
    exact L2.app_ok (X := Y) I1 h1 h2 r1 fun s2 I2 => fin s2 ⟨σ, _, I2, rfl, h3⟩
  | l :: ls, i, hd, ok, pins, σ, H, s, Nx, R, P, I, q, fin => by
    have o := ok l List.mem_cons_self
    have h0 : gens[i]? = some l.c := by
      have := congrArg (fun x : List Comprehension => x[0]?) hd
      simpa [List.getElem?_drop] using this
    have hd1 : gens.drop (i + 1) = ls.map Lv.c := by
      have := congrArg List.tail hd
      simpa [List.tail_drop] using this
    have run := o.pi.run pins s σ H _ I q
    rw [hxe] at run
    refine thnF run fun xv s1 hx => thnF hx fun itv s2 h2 => ?_
    obtain ⟨it, fp, tn, J, H2, e, I2, T, st2, f2, W, ⟨m0, w0⟩, turn⟩ := h2
    subst e
    have loop := loopLv (D := D) (te := te) (elt := elt) (scope := scope) (pos := pos) (R := fun r s' => match r with
        | .ok _ => P s'
        | .error _ => False) hxe hc hd (fun l' hl' => (ok l' (List.mem_cons_of_mem _ hl')).fs) o.pg o.pt (inner hxe hc he ls (i + 1) hd1 fun l' hl' => ok l' (List.mem_cons_of_mem _ hl')) rfl T (fun s' z => fin s' z)
        (fun _ hn b hb => ⟨hn b hb, (f2 b hb).2⟩) turn (I2.weak (wipe_length _ _) (fun j v e => (wipe_some e).1)) st2 (fun b hb => (f2 b hb).1) w0
    exact start_in h0 loop (T.self Y.A 0 _ _ _ st2 loop)
end
/-! ### the whole -/
section
variable {X : Cx} {elt : Expr} {te : TE} {scope : Scope} {pos : Pos} {own : List (Str × Nat)} {l : Lv} {ls : List Lv} {wi : TI}
end
end DL
/-! DLs: comprehensions with any number of fors, by data. -/
namespace DL
open PySem PySem.Spec PyProof.Rows L2
/-- a source as it runs -/
def tI (X : Cx) (tg iter : Expr) : TI := fun σ H R => ∀ pins s, Inv X pins σ H s → wpAny (model X.prog X.w) X.A (eval iter X.env) (fun v s1 => wpAny (model X.prog X.w) X.A (pyIter v) (PIE X pins σ tg R) X.xe s1) X.xe s
theorem WI.ev {X : Cx} {tg iter : Expr} {env : DEnv} {C : CS} {kI : KI} (h : WI X tg iter env C kI) : EvI X.K (tI X tg iter) env C kI := fun G σ H R w er q pins s I => by
  obtain ⟨wi, hi, hw⟩ := h
  exact hi.run pins s σ H R I (hw G σ H R w er q)
/-- a clause by syntax: its target's reading and its names -/
structure Cl where
  tg : Expr
  iter : Expr
  ifs : List Expr
  g : TG
  vs : List Nat
/-- the world with the hidden list -/
structure Hd (K : PySem.W.Frag) (G0 : Hp) (C0 : CS) (H0 : Hp) (Da : Addr) (G : Hp) (C : CS) (H : Hp) (acc : List D) : Prop where
  f : Fr G0 C0 H0 G C H
  w : Wld K G C H
  l : ∃ vs, H Da = some (.lst vs) ∧ DatAll K G vs acc
  c : C Da = none
  g : G Da = none
section
variable {K : PySem.W.Frag} {G0 H0 : Hp} {C0 : CS} {Da : Addr} {G H G' H' : Hp} {C C' : CS} {acc : List D}
theorem Hd.step (h : Hd K G0 C0 H0 Da G C H acc) (f : Fr G C H G' C' H') (w : Wld K G' C' H') : Hd K G0 C0 H0 Da G' C' H' acc := by
  obtain ⟨vs, h1, h2⟩ := h.l
  refine ⟨h.f.trans f, w, ⟨vs, f.keep _ _ h1 h.c (by intro _ z; cases z), h2.mono f.exG⟩, ?_, ?_⟩
  · cases e : C' Da with
    | none => rfl
    | some c => exact absurd h.c (f.newC Da (by rw [h1]; simp) (by rw [e]; simp))
  · cases e : G' Da with
    | none => rfl
    | some c => exact ((f.newG Da (by rw [h1]; simp) (by rw [e]; simp)).elim (fun z => z h.g) fun z => z h.c).elim
end
section
variable {X : Cx} {scope : Scope} {elt : Expr} {G0 H0 : Hp} {C0 : CS} {Da : Addr}
end
theorem wi_ls {X : Cx} {tg e : Expr} {env : DEnv} {C : CS} {kI : KI} (h : WE X e env C fun d C1 => ∃ xs, seqR C1 d = some xs ∧ kI xs (ownP d xs) C1) : WI X tg e env C kI := by
  refine wi_list (h.imp ?_)
  rintro d C1 ⟨xs, hs, hk⟩
  refine ⟨xs, hs, ?_⟩
  have e1 : (∀ a, d ≠ .own a) → ownP d xs = fun _ => True := fun hn => by
    funext C2
    exact propext ⟨fun _ => trivial, fun _ a z => absurd z (hn a)⟩
  cases d with
  | own a =>
    have : ownP (.own a) xs = fun C2 => C2 a = some (.lst xs) := by
      funext C2
      exact propext ⟨fun z => z a rfl, fun z b e => by cases e; exact z⟩
    rw [this] at hk
    exact hk
  | lst ys => rw [e1 (fun _ => by simp)] at hk; exact hk
  | slst ys => rw [e1 (fun _ => by simp)] at hk; exact hk
  | _ => simp [seqR] at hs
end DL
/-! DLt: what is made and then stands still: lists frozen wherever they are made; == of lists' cells; repr's bound. -/
namespace DL
open PySem PySem.Spec PyProof.Rows L2 RZ
/-- a value is taken on, a list's cell frozen -/
def FrzA (k : KD) : KD := fun d C1 => (∃ a ds, d = .own a ∧ C1 a = some (.lst ds) ∧ k (.lst ds) (del C1 a)) ∨ ((∀ a, d ≠ .own a) ∧ k d C1)
theorem ev_frzA {K : PySem.W.Frag} {te : TE} {env : DEnv} {C : CS} {k : KD} (h : Ev K te env C (FrzA k)) : Ev K te env C k := fun G σ H Q w er q =>
  h G σ H _ w er fun v G1 C1 H1 d f1 w1 d1 hb => by
    rcases hb with ⟨a, ds, rfl, hc, h2⟩ | ⟨_, h2⟩
    · cases d1
      obtain ⟨G2, w2, f2, r2⟩ := w1.freeze hc
      exact q _ _ _ _ _ (f1.trans f2) w2 r2 h2
    · exact q _ _ _ _ _ f1 w1 d1 h2
section
variable {X : Cx} {e a b : Expr} {es : List Expr} {env : DEnv} {C : CS} {k : KD} {pos p p1 p2 : Pos} {P : Program} {w : World} {K : PySem.W.Frag} {mg : Str → Option Value} {base : Heap} {m : Nat}
theorem we_fa (h : WE X e env C (FrzA k)) : WE X e env C k := ev_frzA h
theorem x_addA (h : WE X a env C fun x C1 => WE X b env C1 fun y C2 => dAdd x y C2 (FrzA k)) : WE X (.BinOp a .Add b pos) env C k := we_fa (we_add h)
theorem x_mulA (h : WE X a env C fun x C1 => WE X b env C1 fun y C2 => dMul x y C2 (FrzA k)) : WE X (.BinOp a .Mult b pos) env C k := we_fa (we_mul h)
theorem x_sliceA {lo hi : Option Expr} {p2 : Pos} (h : WE X a env C fun x C1 => WO X lo env C1 fun l C2 => WO X hi env C2 fun u C3 => dSl x l u C3 (FrzA k)) : WE X (.Subscript a (.Slice lo hi none p2) pos) env C k := we_fa (we_slice h)
theorem x_listA (hx : Ctx P w K mg base m X) (Z : Zs mg) (hg : Gl X "list") (h : WA X (e :: es) env C fun ds C1 => dList ds C1 (FrzA k)) (he : starEach (e :: es) X.env = (false, eval e X.env) :: starEach es X.env := by rfl) (hpl : (backTo pos (starEach es X.env)).any (·.1) = false := by rfl) : WE X (.Call (.Name "list" p) (e :: es) [] pos) env C k := we_fa (x_listC hx Z hg h he hpl)
end
section
variable {C : CS} {k : KD} {x : D} {xs ys : List D} {i j : Int} {p : Addr} {s t : Str} {lo hi : Option Int} {b : Bool}
theorem fa_int (q : k (.int i) C) : FrzA k (.int i) C := .inr ⟨fun _ z => (by cases z), q⟩
theorem fa_str (q : k (.str s) C) : FrzA k (.str s) C := .inr ⟨fun _ z => (by cases z), q⟩
theorem fa_bl (q : k (.bl b) C) : FrzA k (.bl b) C := .inr ⟨fun _ z => (by cases z), q⟩
theorem fa_non (q : k .non C) : FrzA k .non C := .inr ⟨fun _ z => (by cases z), q⟩
theorem fa_tup (q : k (.tup xs) C) : FrzA k (.tup xs) C := .inr ⟨fun _ z => (by cases z), q⟩
theorem fa_lst (q : k (.lst xs) C) : FrzA k (.lst xs) C := .inr ⟨fun _ z => (by cases z), q⟩
theorem fa_put (h : C p = none) (q : k (.lst xs) C) : FrzA k (.own p) (put C p (.lst xs)) := .inl ⟨p, xs, rfl, put_same, by rw [del_put h]; exact q⟩
theorem slA_o {a : Addr} (hc : C a = some (.lst xs)) (q : k (.lst (cutD xs lo hi)) C) : dSl (.own a) lo hi C (FrzA k) := sl_o hc fun _ hp => fa_put hp q
theorem slA_p (q : k (.lst (cutD xs lo hi)) (put C p (.lst xs))) : dSl (.own p) lo hi (put C p (.lst xs)) (FrzA k) := slA_o put_same q
theorem slA_f (q : k (.lst (cutD xs lo hi)) C) : dSl (.lst xs) lo hi C (FrzA k) := sl_f fun _ hp => fa_put hp q
theorem slA_t (q : k (.tup (cutD xs lo hi)) C) : dSl (.tup xs) lo hi C (FrzA k) := sl_t (fa_tup q)
theorem slA_z (hl : s.length ≤ sizeLine) (q : k (.str (cutS s lo hi)) C) : dSl (.str s) lo hi C (FrzA k) := sl_z hl (fa_str q)
theorem addA_ll (h : xs.length + ys.length ≤ sizeLine) (q : k (.lst (xs ++ ys)) C) : dAdd (.lst xs) (.lst ys) C (FrzA k) := add_lst rfl rfl h fun _ hp => fa_put hp q
theorem addA_ol {a : Addr} (hc : C a = some (.lst xs)) (h : xs.length + ys.length ≤ sizeLine) (q : k (.lst (xs ++ ys)) C) : dAdd (.own a) (.lst ys) C (FrzA k) := add_lst (seqL_own hc) rfl h fun _ hp => fa_put hp q
theorem addA_pl (h : xs.length + ys.length ≤ sizeLine) (q : k (.lst (xs ++ ys)) (put C p (.lst xs))) : dAdd (.own p) (.lst ys) (put C p (.lst xs)) (FrzA k) := addA_ol put_same h q
theorem addA_ii (q : k (.int (i + j)) C) : dAdd (.int i) (.int j) C (FrzA k) := add_ii (fa_int q)
theorem addA_ss (h : s.length + t.length ≤ sizeLine) (q : k (.str (s ++ t)) C) : dAdd (.str s) (.str t) C (FrzA k) := add_ss h (fa_str q)
theorem addA_tt (h : xs.length + ys.length ≤ sizeLine) (q : k (.tup (xs ++ ys)) C) : dAdd (.tup xs) (.tup ys) C (FrzA k) := add_tt h (fa_tup q)
theorem mulA_ii (h : CMul i j) (q : k (.int (i * j)) C) : dMul (.int i) (.int j) C (FrzA k) := mul_ii h (fa_int q)
theorem listA_o {a : Addr} (hc : C a = some (.lst xs)) (q : k (.lst xs) C) : dList [.own a] C (FrzA k) := ⟨_, _, rfl, seqR_own hc, fun _ hp => fa_put hp q⟩
theorem listA_p (q : k (.lst xs) (put C p (.lst xs))) : dList [.own p] (put C p (.lst xs)) (FrzA k) := listA_o put_same q
theorem listA_l (q : k (.lst xs) C) : dList [.lst xs] C (FrzA k) := ⟨_, _, rfl, rfl, fun _ hp => fa_put hp q⟩
theorem listA_t (q : k (.lst xs) C) : dList [.tup xs] C (FrzA k) := ⟨_, _, rfl, rfl, fun _ hp => fa_put hp q⟩
end
/-! ### == of lists' cells -/
theorem eqv_fit {d : D} {n : Nat} (h : d.fit n = true) : PyData.eqv d.py d.py = true := SeqAt.eqv_refl _ (fit_lay d h)
theorem pyC_own {C : CS} {a : Addr} {xs : List D} {n : Nat} (hc : C a = some (.lst xs)) (h : ∀ d ∈ xs, d.fit n = true) : pyC C (.own a) = some (.list (pyL xs)) := by
  unfold pyC
  simp only [hc]
  rw [if_pos (fitL_py xs (fitL_all.mpr h))]
theorem shaped_lst {xs : List D} {n : Nat} (h : ∀ d ∈ xs, d.fit n = true) (hn : n < 64) : SeqAt.shaped (.list (pyL xs)) = true := by
  have := fit_ok (d := .lst xs) (n := n + 1) (fit_lstI h) (by omega)
  unfold D.ok at this
  rw [Bool.and_eq_true] at this
  exact this.2
section
variable {C : CS} {k : KD} {a b : Addr} {xs ys : List D} {n m : Nat}
end
/-! ### repr: data whose text is short -/
mutual
/-- how many parts it has (signs of texts among them) -/
def D.wt : D → Nat
  | .int _ => 200
  | .str x => x.cps.size
  | .lst xs | .slst xs | .tup xs => wtL xs
  | _ => 0
def wtL : List D → Nat
  | [] => 0
  | d :: ds => d.wt + 1 + wtL ds
end
mutual
/-- its ints have at most sixty figures -/
def D.shI : D → Bool
  | .int i => decide (i.natAbs < 10 ^ 60)
  | .lst xs | .slst xs | .tup xs => shL xs
  | _ => true
def shL : List D → Bool
  | [] => true
  | d :: ds => d.shI && shL ds
end
theorem shL_all : ∀ {ds : List D}, shL ds = true ↔ ∀ d ∈ ds, d.shI = true
  | [] => by simp [shL]
  | d :: ds => by simp [shL, shL_all (ds := ds)]
theorem int_log {i : Int} (h : i.natAbs < 10 ^ 60) : (if (i == 0) = true then 0 else i.natAbs.log2 + 1) ≤ 200 := by
  split
  · omega
  · rename_i z
    have z : i.natAbs ≠ 0 := by simpa using z
    have := (Nat.log2_lt (n := i.natAbs) (k := 200) z).mpr (Nat.lt_trans h (by decide +kernel))
    omega
mutual
theorem wt_py : ∀ (d : D) {n : Nat}, d.fit n = true → d.shI = true → d.py.weight ≤ d.wt ∧ d.py.leavesShort 61 = true ∧ d.py.showable = true ∧ d.py.hasDict = false
  | .non, _, _, _ | .bl _, _, _, _ => ⟨Nat.le_refl _, rfl, rfl, rfl⟩
  | .int i, _, _, h => by
    have h : i.natAbs < 10 ^ 60 := by simpa [D.shI] using h
    refine ⟨int_log h, ?_, ?_, rfl⟩
    · simp only [D.py, PyData.leavesShort, decide_eq_true_eq]
      have e := int_text_length_le10 (k := 60) (by decide) h
      show (Str.ofString (toString i)).length ≤ 61
      rw [PySem.ofString_length]; exact e
    · simp only [D.py, PyData.showable, decide_eq_true_eq]
      by_cases z : i.natAbs = 0
      · rw [z]; decide
      · exact (Nat.log2_lt z).mpr (Nat.lt_trans h (by decide +kernel))
  | .str x, n, h, _ => by
    have hx : PyData.strOk x = true := by cases n <;> exact h
    exact ⟨Nat.le_refl _, PyData.leavesShort_of_canLay0 61 (.str x) hx rfl, rfl, rfl⟩
  | .lst xs, 0, h, _ | .slst xs, 0, h, _ | .tup xs, 0, h, _ => by simp [D.fit] at h
  | .lst xs, n + 1, h, s => wtL_py xs (n := n) (by simpa [D.fit] using h) (by simpa [D.shI] using s)
  | .slst xs, n + 1, h, s => wtL_py xs (n := n) (by simpa [D.fit] using h) (by simpa [D.shI] using s)
  | .tup xs, n + 1, h, s => wtL_py xs (n := n) (by simpa [D.fit] using h) (by simpa [D.shI] using s)
  | .obj _ _ _, n, h, _ => by cases n <;> simp [D.fit] at h
  | .own _, n, h, _ => by cases n <;> simp [D.fit] at h
  | .opq _, n, h, _ => by cases n <;> simp [D.fit] at h
theorem wtL_py : ∀ (ds : List D) {n : Nat}, fitL n ds = true → shL ds = true → PyData.weightAll (pyL ds) ≤ wtL ds ∧ PyData.leavesShortAll 61 (pyL ds) = true ∧ PyData.showableAll (pyL ds) = true ∧ PyData.hasDictAll (pyL ds) = false
  | [], _, _, _ => ⟨Nat.le_refl _, rfl, rfl, rfl⟩
  | d :: ds, n, h, s => by
    simp only [fitL, shL, Bool.and_eq_true] at h s
    obtain ⟨a, b, c, e⟩ := wt_py d h.1 s.1
    obtain ⟨a', b', c', e'⟩ := wtL_py ds h.2 s.2
    refine ⟨?_, ?_, ?_, ?_⟩
    · simp only [pyL, PyData.weightAll, wtL]; omega
    · simp only [pyL, PyData.leavesShortAll, b, b', Bool.and_self]
    · simp only [pyL, PyData.showableAll, c, c', Bool.and_self]
    · simp only [pyL, PyData.hasDictAll, e, e', Bool.or_self]
end
section
variable {C : CS} {k : KD} {x : D} {n : Nat} {a : Addr} {xs : List D}
end
end DL
namespace DL
open PySem PySem.Spec PyProof.Rows L2
/-- a list that a name has is frozen -/
theorem wss_frzI {X : Cx} {sts : List Stmt} {env : DEnv} {C : CS} {E : DEnds} (i : Nat) {p : Addr} {ds : List D} (he : env[i]? = some (some (.own p))) (hc : C p = some (.lst ds)) (h : WSs X sts (env.set i (some (.lst ds))) (del C p) E) : WSs X sts env C E := fun G σ H D0 w er q => by
  obtain ⟨G2, w2, f2, r2⟩ := w.freeze hc
  obtain ⟨v, h1, h2⟩ := er.2 i _ he
  cases h2
  have er2 : EnvR X.K G2 (env.set i (some (.lst ds))) σ := by
    have := (er.mono f2.exG).set i r2
    have hσ : σ.set i (some (.ref p)) = σ := by
      apply List.ext_getElem?
      intro j
      by_cases e : i = j
      · subst e
        rw [List.getElem?_set_self (List.getElem?_eq_some_iff.mp h1).1, h1]
      · rw [List.getElem?_set_ne e]
    rw [hσ] at this
    exact this
  exact h G2 σ H D0 w2 er2 (q.after f2)
end DL
/-! DLu: chains of comparisons; tuples backwards; texts in a tuple; tuples of the module; upper. -/
namespace DL
open PySem PySem.Spec PyProof.Rows L2
/-! ### a op b op' c -/
section
variable {K : PySem.W.Frag} {env : DEnv} {C : CS} {ta tb tc : TE} {k : KD} {r r' : R2} {p p' : OpD}
theorem ev_chain (hr : R2D K r p) (hr' : R2D K r' p') (h : Ev K ta env C fun x C1 => Ev K tb env C1 fun y C2 => p x y C2 fun z C3 => ∃ t, z = .bl t ∧ (t = true → Ev K tc env C3 fun w C4 => p' y w C4 k) ∧ (t = false → k (.bl false) C3)) : Ev K (tChain r r' ta tb tc) env C k := fun G σ H Q w er q =>
  h G σ H _ w er fun v G1 C1 H1 x f1 w1 d1 h1 => h1 G1 σ H1 _ w1 (er.mono f1.exG) fun u G2 C2 H2 y f2 w2 d2 h2 => hr v u x y G2 C2 H2 _ _ w2 (d1.mono f2.exG) d2 h2 fun z' G3 C3 H3 z f3 w3 d3 h3 => by
    obtain ⟨t, rfl, h4, h5⟩ := h3
    cases d3
    refine ⟨t, rfl, ?_⟩
    have F := (f1.trans f2).trans f3
    cases t with
    | true => exact iteT (h4 rfl G3 σ H3 _ w3 (er.mono F.exG) fun w' G4 C4 H4 d f4 w4 d4 h6 => hr' u w' y d G4 C4 H4 k Q w4 (d2.mono (f3.trans f4).exG) d4 h6 (q.after (F.trans f4)))
    | false => exact iteF (q _ G3 C3 H3 _ F w3 (.bl false) (h5 rfl))
end
section
variable {X : Cx} {a b c e : Expr} {env : DEnv} {C : CS} {k : KD} {kb : Bool → CS → Prop} {pos : Pos}
theorem we_lele (h : WE X a env C fun x C1 => WE X b env C1 fun y C2 => dB2 (fun i j => decide (i ≤ j)) x y C2 fun z C3 => ∃ t, z = .bl t ∧ (t = true → WE X c env C3 fun w C4 => dB2 (fun i j => decide (i ≤ j)) y w C4 k) ∧ (t = false → k (.bl false) C3))
    (hm : lastMarks [.LtE, .LtE] [b, c] = false := by with_unfolding_all rfl) : WE X (.Compare a [.LtE, .LtE] [b, c] pos) env C k := .of (pe_chain op_le op_le pe_tS pe_tS pe_tS hm) (ev_chain r2_B r2_B h)
theorem wt_lele (h : WE X a env C fun x C1 => WE X b env C1 fun y C2 => dB2 (fun i j => decide (i ≤ j)) x y C2 fun z C3 => ∃ t, z = .bl t ∧ (t = true → WE X c env C3 fun w C4 => dB2 (fun i j => decide (i ≤ j)) y w C4 (tb kb)) ∧ (t = false → kb false C3))
    (hm : lastMarks [.LtE, .LtE] [b, c] = false := by with_unfolding_all rfl) : WT X (.Compare a [.LtE, .LtE] [b, c] pos) env C kb :=
  .of (pt_chain op_le op_le pe_tS pe_tS pe_tS hm) (eb_test (ev_chain r2_B r2_B (h.imp fun x C1 z => WE.imp z fun y C2 z => by
    obtain ⟨i, j, rfl, rfl, t, e, h1, h2⟩ := z
    exact ⟨i, j, rfl, rfl, t, e, h1, fun ht => ⟨false, rfl, h2 ht⟩⟩)))
end
/-! ### t[::-1] -/
section
variable {prog : Program} {w : World} {A : Around} {E : Value → Shared → Prop} {s : Shared}
theorem sliceApplied_back {sl : Addr} {vl vu vs : Value} {n : Nat} {Q : Int × Int × Nat → Shared → Prop} (hs : s.heap.IsSliceOf sl vl vu vs) (pl : IsPart vl none) (pu : IsPart vu none) (ps : IsPart vs (some (-1)))
    (h : Q ((n : Int) - 1, -1, n) s) : wpAny (model prog w) A (Builtin.Slice.sliceApplied (.ref sl) (pure (n : Int))) Q E s := by
  obtain ⟨os, hos, hcs, hds⟩ := id hs
  unfold Builtin.Slice.sliceApplied Builtin.Slice.sliceFields
  refine wpAny_bind (wpAny_bind (wpAny_field hos hds (x := vl) rfl (wpAny_bind (wpAny_field hos hds (x := vu) rfl (wpAny_bind (wpAny_field hos hds (x := vs) rfl (wpAny_pure ?_)))))))
  refine wpAny_bind (HT.slicePart_ ps ?_)
  show wpAny _ _ (if ((-1 : Int) == 0) = true then _ else _) _ _ s
  rw [if_neg (by decide)]
  refine wpAny_bind (HT.slicePart_ pl (wpAny_bind (HT.slicePart_ pu (wpAny_bind (wpAny_pure ?_)))))
  show wpAny _ _ (match Builtin.Slice.sliceAdjust none none (-1) (n : Int) with | (lo, hi) => pure (lo, (-1 : Int), Builtin.Slice.slicePlaces lo hi (-1))) _ _ s
  have e1 : Builtin.Slice.sliceAdjust none none (-1) (n : Int) = ((n : Int) - 1, -1) := rfl
  rw [e1]
  show wpAny _ _ (pure ((n : Int) - 1, (-1 : Int), Builtin.Slice.slicePlaces ((n : Int) - 1) (-1) (-1))) _ _ s
  have e2 : Builtin.Slice.slicePlaces ((n : Int) - 1) (-1) (-1) = n := by
    unfold Builtin.Slice.slicePlaces
    rw [if_neg (by decide), show -(-1 : Int) = 1 from rfl, Int.ediv_one]
    split <;> omega
  rw [e2]
  exact wpAny_pure h
theorem pick_back (xs : Array Value) : ((List.range xs.size).filterMap fun (m : Nat) => xs[(((xs.size : Nat) : Int) - 1 + (m : Int) * (-1)).toNat]?).toArray = xs.toList.reverse.toArray := by
  congr 1
  apply List.ext_getElem?
  have e : ((List.range xs.size).filterMap fun (m : Nat) => xs[(((xs.size : Nat) : Int) - 1 + (m : Int) * (-1)).toNat]?) = (List.range xs.size).map fun m => xs.toList.reverse.getD m .none := by
    have : ∀ l : List Nat, (∀ m ∈ l, m < xs.size) → (l.filterMap fun (m : Nat) => xs[(((xs.size : Nat) : Int) - 1 + (m : Int) * (-1)).toNat]?) = l.map fun m => xs.toList.reverse.getD m .none := by
      intro l
      induction l with
      | nil => intro _; rfl
      | cons m l ih =>
        intro hl
        have hm := hl m List.mem_cons_self
        have e1 : (((xs.size : Nat) : Int) - 1 + (m : Int) * (-1)).toNat = xs.size - 1 - m := by omega
        have e2 : xs[xs.size - 1 - m]? = some (xs.toList.reverse.getD m .none) := by
          rw [List.getD_eq_getElem?_getD, List.getElem?_reverse (by simpa using hm), Array.length_toList, Array.getElem?_toList]
          rw [Array.getElem?_eq_getElem (by omega)]
          rfl
        rw [List.filterMap_cons, e1, e2, List.map_cons, ih fun m hm => hl m (List.mem_cons_of_mem _ hm)]
    exact this _ fun m hm => List.mem_range.mp hm
  intro i
  rw [e, List.getElem?_map]
  by_cases hi : i < xs.size
  · rw [List.getElem?_range hi, List.getElem?_eq_getElem (by simpa using hi)]
    simp [List.getD_eq_getElem?_getD, List.getElem?_eq_getElem (show i < xs.toList.reverse.length by simpa using hi)]
  · rw [List.getElem?_eq_none (by simpa using hi), List.getElem?_eq_none (by simpa using hi)]; rfl
theorem getItem_tuple_back {t sl : Addr} {items : Array Value} {vl vu vs : Value} {Q : Value → Shared → Prop} (ht : IsTup s.heap t items) (hs : s.heap.IsSliceOf sl vl vu vs) (pl : IsPart vl none) (pu : IsPart vu none) (ps : IsPart vs (some (-1)))
    (h : Q (.ref s.heap.objs.size) { s with heap := s.heap.push { cls := .type "tuple", data := .seq items.toList.reverse.toArray } })
    (hsz : items.size ≤ sizeLine) : wpAny (model prog w) A (getItem (.ref t) (.ref sl)) Q E s := by
  have htake : sizeOk (.seq items.toList.reverse.toArray) := by
    show items.toList.reverse.toArray.size ≤ sizeLine
    rw [List.size_toArray, List.length_reverse, Array.length_toList]
    exact hsz
  obtain ⟨os, hos, hcs, hds⟩ := id hs
  have hTs : s.TypeIs (.ref sl) "slice" := ⟨os, hos, hcs⟩
  unfold getItem
  try with_reducible refine wpAny_holding ?_
  first | refine wpAny_bind (wpAny_pure ?_) | skip
  refine wpAny_bind (wpAny_sequenceKey ht.typeIs (by decide) ?_)
  refine wpAny_bind (wpAny_callSpecial?_slot (name := Str.ofString "__getitem__") ht.typeIs PyProof.Rows.slot_tuple_getitem
    (wpAny_call_entry PyProof.Rows.slot_tuple_getitem ht.typeIs entry_tuple_getitem ?_ (args_tuple_getitem _ _)))
  show wpAny _ _ (Builtin.Tuple.tupleItemsOf (.ref t) >>= _) _ _ s
  refine wpAny_bind (tupleItemsOf_ ht ?_)
  refine wpAny_bind (wpAny_typeOf hTs ?_)
  rw [if_pos (by decide)]
  refine wpAny_bind (sliceApplied_back hs pl pu ps ?_)
  have hno : ¬ ((((items.size : Nat) : Int) - 1 == 0 && (-1 : Int) == 1 && items.size == items.size) = true) := by
    rw [show ((-1 : Int) == 1) = false from rfl, Bool.and_false, Bool.false_and]
    exact Bool.false_ne_true
  show wpAny _ _ (if (((items.size : Nat) : Int) - 1 == 0 && (-1 : Int) == 1 && items.size == items.size) = true then _ else _) _ _ s
  rw [if_neg hno, pick_back]
  first
    | exact wpAny_bind (m := Builtin.Tuple.tupleExact _) (wpAny_newObj_type (wpAny_pure ⟨_, rfl, wpAny_pure h⟩) htake)
    | exact wpAny_bind (m := Builtin.Tuple.tupleExact _) (wpAny_newObj_type (wpAny_bind (wpAny_pure (wpAny_pure ⟨_, rfl, wpAny_pure h⟩))) htake)
    | exact wpAny_bind (wpAny_bind (m := Builtin.Tuple.tupleExact _) (wpAny_newObj_type (wpAny_pure (wpAny_pure ⟨_, rfl, wpAny_pure h⟩)) htake))
    | exact wpAny_bind (wpAny_bind (m := Builtin.Tuple.tupleExact _) (wpAny_newObj_type (wpAny_pure ⟨_, rfl, wpAny_pure h⟩) htake))
end
def tRevT (K : PySem.W.Frag) (te : TE) : TE := fun σ H Q => te σ H fun x H1 => ∃ a xs, x = .ref a ∧ SqT K H1 a xs ∧ ∀ p, H1 p = none → Q (.ref p) (upd H1 p (.tup xs.reverse))
theorem pe_revT {X : Cx} {e : Expr} {te : TE} {k : Nat} {p1 p2 p3 pos : Pos} (he : PE X e te) : PE X (.Subscript e (.Slice none none (some (.UnaryOp .USub (.Constant (.int 1) k p1) p2)) p3) pos) (tRevT X.K te) := by
  refine ⟨fun pins s σ H Q I h => ?_⟩
  refine Subscript_ (L2.thn (he.run pins s σ H _ I h) fun v s1 ⟨x, H1, I1, r1, q1⟩ => ?_)
  obtain ⟨a, xs, ex, hx, q⟩ := q1
  subst ex
  cases r1
  have hst : PO X (some (.UnaryOp .USub (.Constant (.int 1) k p1) p2)) (tPart (tUn (rU fun i => .int (-i)) (tC (.int 1)))) := po_some (pe_un un_neg pe_int)
  refine wpAny_Slice (L2.thn (po_none.run pins s1 σ H1 (fun o H2 => o = none ∧ H2 = H1) I1 ⟨rfl, rfl⟩) fun vl s2 ⟨l, H2, I2, pl, el, e2⟩ => ?_)
  subst el e2
  refine L2.thn (po_none.run pins s2 σ H2 (fun o H3 => o = none ∧ H3 = H2) I2 ⟨rfl, rfl⟩) fun vu s3 ⟨u, H3, I3, pu, eu, e3⟩ => ?_
  subst eu e3
  refine L2.thn (hst.run pins s3 σ H3 (fun o H4 => o = some (-1) ∧ H4 = H3) I3 ⟨1, rfl, -1, rfl, rfl, rfl⟩) fun vs s4 ⟨o, H4, I4, ps, eo, e4⟩ => ?_
  subst eo e4
  have I5 : Inv X pins σ H4 { s4 with heap := s4.heap.push { cls := .type "slice", data := .fields #[vl, vu, vs] } } := I4.kept (t' := s4.toks) fun b ob q => Heap.get?_push_of_some _ q
  obtain ⟨its, r, ht, hz⟩ := I5.tuple hx
  have hlen := r.length
  show wpAny (model X.prog X.w) X.A (subscriptTail e (.Slice none none (some (.UnaryOp .USub (.Constant (.int 1) k p1) p2)) p3) (.ref a) (.ref s4.heap.objs.size)) (EP X pins σ Q) X.xe { s4 with heap := s4.heap.push { cls := .type "slice", data := .fields #[vl, vu, vs] } }
  refine tail_any (ops := [.ref a, .ref s4.heap.objs.size]) ht.typeIs (PyProof.Rows.slot_tuple_getitem.lookup) ?_ (by with_unfolding_all rfl)
  refine getItem_tuple_back ht (Heap.IsSliceOf.new _ vl vu vs) pl pu ps ?_ (by rw [List.size_toArray]; omega)
  refine ⟨.ref _, _, I5.laid (t' := s4.toks) (o := .tup xs.reverse) (fun b ob q => Heap.get?_push_of_some _ q) (Nat.le_refl _) ?_, rfl, q _ (I5.hok.fresh (Nat.le_refl _))⟩
  exact ⟨by rw [List.length_reverse]; exact hz, _, r.reverse, IsTup.new _ _⟩
section
variable {X : Cx} {e : Expr} {env : DEnv} {C : CS} {k : KD} {pos p1 p2 p3 : Pos} {j : Nat}
theorem we_revT (h : WE X e env C fun d C1 => ∃ xs, d = .tup xs ∧ k (.tup xs.reverse) C1) : WE X (.Subscript e (.Slice none none (some (.UnaryOp .USub (.Constant (.int 1) j p1) p2)) p3) pos) env C k :=
  .of (pe_revT pe_tS) fun G σ H Q w er q => h G σ H _ w er fun v G1 C1 H1 d f1 w1 r1 z => by
    obtain ⟨xs, rfl, z⟩ := z
    obtain ⟨a, vs, rfl, h1, h2⟩ := w1.tup r1
    refine ⟨a, vs, rfl, h1, fun p hp => ?_⟩
    obtain ⟨w2, f2, s2⟩ := w1.newG hp (.tup vs.reverse)
    exact q _ _ _ _ _ (f1.trans f2) w2 (.tup (SqT.of upd_same) (h2.rev.mono s2)) z
end
/-! ### tuples of texts -/
theorem in_tup {C : CS} {k : KD} {z : Str} {xs : List D} {zs : List Str} (e : xs = zs.map D.str) (q : k (.bl (decide (z ∈ zs))) C) : dIn false (.str z) (.tup xs) C k := ⟨z, zs, rfl, by rw [e], q⟩
/-! ### tuples of the module -/
theorem datAll_strsI {K : PySem.W.Frag} {G : Hp} : ∀ zs : List Str, DatAll K G (zs.map V.str) (zs.map D.str)
  | [] => .nil
  | z :: zs => .cons (.str z) (datAll_strsI zs)
/-! ### upper -/
def dUpper : D → List D → CS → KD → Prop := fun x ds C k => ∃ z, x = .str z ∧ ds = [] ∧ z.length ≤ 5592405 ∧ k (.str (Txt.upper z)) C
theorem rm_upper {K : PySem.W.Frag} : RMD K (fun x xs H Q => ∃ a, x = .str a ∧ xs = [] ∧ a.length ≤ 5592405 ∧ Q (.str (Txt.upper a)) H) dUpper := by
  rintro x a xs ds G C H k Q w r rs ⟨z, rfl, rfl, h, hk⟩ q
  cases r; cases rs
  exact ⟨z, rfl, rfl, h, q _ _ _ _ _ (Fr.refl ..) w (.str _) hk⟩
theorem x_upper {X : Cx} {o : Expr} {env : DEnv} {C : CS} {k : KD} {apos cpos : Pos} (h : WE X o env C fun x C1 => tyD "str" C1 x ∧ dUpper x [] C1 k) (hbase : attributeBase o "upper" X.env (eval o X.env) = eval o X.env := by rfl) (hline : (apos.endLine == cpos.line) = true := by rfl) :
    WE X (.Call (.Attribute o "upper" apos) [] [] cpos) env C k := we_bm0 PySem.F.plainAttrs_str PySem.F.slot_str_upper PySem.F.type_str_upper mt_upper rm_upper h hbase hline
end DL
/-! DLv: instances by data: fields, methods, makings, properties. -/
namespace DL
open PySem PySem.Spec PyProof.Rows L2
section
variable {X : Cx} {CT : CXT} {n : Nat} {fa Ca : Addr} {fd : FuncData} {ps : List Str} {sp : Sp} {E : XK} {x m : Str} {p pos apos : Pos} {e o : Expr} {es : List Expr} {ta : TE} {t : TA} {dvs : List V} {ds : List Value}
theorem goD {pins : List (Addr × Obj)} {σ : L2.St} {H : Hp} {s : Shared} {Q : VK} {us : List Value} {as : List V} (F : FnG X.prog X.w X.K X.mg X.base CT n fa fd ps sp) (hgd : X.A.guards = some []) (hr : Room n X.A) (hb : Binds X.K fd ps ds) (hd : Vals dvs ds) (hx : Passes CT X E)
    (I : Inv X pins σ H s) (r : Vals as us) (h : sp (as ++ dvs) H Q E) : wpAny (model X.prog X.w) X.A (call (.ref fa) us) (EP X pins σ Q) X.xe s := by
  have r2 : Vals (as ++ dvs) (us ++ ds) := r.append hd
  have hlen : (us ++ ds).length = ps.length := by
    rw [← r2.length]
    exact F.len _ _ _ _ h
  refine wpAny_call (codeAny_mono (F.run hgd hr I.env0 (hb s us I.kIn hlen) r2 h) ?_)
  intro res s' z
  match res, z with
  | .error e, z => exact hx pins σ H s e s' I z
  | .ok (.ret u), z => exact I.after z
/-- o.m(e, ..) -/
theorem pe_methG {pl : Sem Bool} (he : PE X o ta) (c : Cls X.K Ca) (hm : Meth X.K Ca m fa) (F : FnG X.prog X.w X.K X.mg X.base CT n fa fd ps sp) (hgd : X.A.guards = some []) (hr : Room n X.A) (hb : Binds X.K fd ps ds) (hd : Vals dvs ds) (hx : Passes CT X E) (ha : PA X (e :: es) t)
    (hst : starEach (e :: es) X.env = (false, eval e X.env) :: starEach es X.env := by rfl) (hpl : (backTo pos (starEach es X.env)).any (·.1) = false := by rfl)
    (ht : eval (.Call (.Attribute o m apos) (e :: es) [] pos) X.env = (do
      let ov ← eval o X.env
      standAt apos.atName
      let (f, first) ← holding [ov] (getMethod ov m pl)
      callWith pos f first (backTo pos (starEach (e :: es) X.env)) (backToKw pos (keywordEach [] X.env))) := by rfl) :
    PE X (.Call (.Attribute o m apos) (e :: es) [] pos) (tMeth Ca m sp dvs E ta t) := by
  refine ⟨fun pins s σ H Q I h => ?_⟩
  refine PySem.W.methodCall_KW (pl := pl) (thn (he.run pins s σ H _ I h) fun u s1 ⟨x, H1, I1, rx, a, dx, fs, ex, ea, l, q⟩ => ?_) ht
  subst ex
  obtain rfl : u = Value.ref a := rx
  refine getmeth_ok I1 ea c hm l ?_
  refine PySem.W.callWith_K (first := [.ref a]) (h₀ := X.base) I.ok.mod.kin hm.kp (thn (ha.run pos pins s1 σ H1 _ I1 q) fun us s2 ⟨vs, H2, I2, r, q2⟩ => ⟨I2.kIn, ?_⟩) hst hpl
  exact goD (us := .ref a :: us) (as := .ref a :: vs) F hgd hr hb hd hx I2 (.cons rfl r) q2
/-- o.m() -/
theorem pe_methG0 {pl : Sem Bool} (he : PE X o ta) (c : Cls X.K Ca) (hm : Meth X.K Ca m fa) (F : FnG X.prog X.w X.K X.mg X.base CT n fa fd ps sp) (hgd : X.A.guards = some []) (hr : Room n X.A) (hb : Binds X.K fd ps ds) (hd : Vals dvs ds) (hx : Passes CT X E)
    (ht : eval (.Call (.Attribute o m apos) [] [] pos) X.env = (do
      let ov ← eval o X.env
      standAt apos.atName
      let (f, first) ← holding [ov] (getMethod ov m pl)
      callWith pos f first (backTo pos (starEach [] X.env)) (backToKw pos (keywordEach [] X.env))) := by rfl) :
    PE X (.Call (.Attribute o m apos) [] [] pos) (tMeth Ca m sp dvs E ta tNil) := by
  refine ⟨fun pins s σ H Q I h => ?_⟩
  refine PySem.W.methodCall_KW (pl := pl) (thn (he.run pins s σ H _ I h) fun u s1 ⟨x, H1, I1, rx, a, dx, fs, ex, ea, l, q⟩ => ?_) ht
  subst ex
  obtain rfl : u = Value.ref a := rx
  refine getmeth_ok I1 ea c hm l ?_
  exact PySem.W.callWith_K0 (first := [.ref a]) I1.kIn hm.kp (goD (us := [.ref a]) (as := [.ref a]) F hgd hr hb hd hx I1 (.cons rfl .nil) q)
theorem makeG {pins : List (Addr × Obj)} {σ : L2.St} {H : Hp} {s : Shared} {Q : VK} {us : List Value} {vs : List V} (M : Mk X.K Ca fa) (F : FnG X.prog X.w X.K X.mg X.base CT n fa fd ps sp) (hgd : X.A.guards = some []) (hr : Room (n + 1) X.A) (hb : Binds X.K fd ps ds) (hd : Vals dvs ds)
    (hx : Passes CT X E) (I : Inv X pins σ H s) (r : Vals vs us)
    (h : ∀ x dx, H x = none → H dx = none → dx ≠ x → sp (.ref x :: (vs ++ dvs)) (upd (upd H dx (.own x)) x (.ins Ca dx [])) (fun v H2 => v = .non ∧ Q (.ref x) H2) E) :
    wpAny (model X.prog X.w) X.A (call (.ref Ca) us) (EP X pins σ Q) X.xe s := by
  have hq := h (s.heap.objs.size + 1) s.heap.objs.size (I.hok.fresh (Nat.le_succ _)) (I.hok.fresh (Nat.le_refl _)) (Nat.ne_of_lt (Nat.lt_succ_self _))
  have I2 := Inv.made (C := Ca) I
  have r2 : Vals (V.ref (s.heap.objs.size + 1) :: (vs ++ dvs)) (Value.ref (s.heap.objs.size + 1) :: (us ++ ds)) := .cons rfl (r.append hd)
  have hl : (Value.ref (s.heap.objs.size + 1) :: us ++ ds).length = ps.length := by
    have e := r2.length
    rw [F.len _ _ _ _ hq] at e
    exact e.symm
  refine wpAny_call (make_map (f := fa) I.kIn M.makes M.init (beq_iff_eq.mp M.fn) (codeAny_mono (F.run (by exact hgd) (hr.make Ca us []) (I2.env0.make Ca us []) (hb _ (Value.ref (s.heap.objs.size + 1) :: us) I2.kIn hl) r2 hq) fun r s' hq' => ?_))
  cases r with
  | error e => exact hx pins σ _ _ e s' I2 hq'
  | ok fl =>
    cases fl with
    | ret u =>
      obtain ⟨v, H', I3, rv, ev, q3⟩ := I2.after hq'
      subst ev
      exact ⟨rv, ⟨V.ref (s.heap.objs.size + 1), H', I3, rfl, q3⟩⟩
    | next => exact False.elim hq'
    | brk => exact False.elim hq'
    | cont => exact False.elim hq'
theorem pe_makeG (M : Mk X.K Ca fa) (F : FnG X.prog X.w X.K X.mg X.base CT n fa fd ps sp) (hgd : X.A.guards = some []) (hr : Room (n + 1) X.A) (hg : Gl X x) (hm : X.mg x = some (.ref Ca)) (hb : Binds X.K fd ps ds) (hd : Vals dvs ds) (hx : Passes CT X E)
    (ha : PA X (e :: es) t) (hdb : (x == ("__debug__" : Str)) = false := by decide) (he : starEach (e :: es) X.env = (false, eval e X.env) :: starEach es X.env := by rfl) (hpl : (backTo pos (starEach es X.env)).any (·.1) = false := by rfl) :
    PE X (.Call (.Name x p) (e :: es) [] pos) (tMake Ca sp dvs E t) := by
  refine ⟨fun pins s σ H Q I h => ?_⟩
  refine wpAny_Call_Name_kw (ld_glob I hg hm ?_ hdb)
  refine PySem.W.callWith_K (h₀ := X.base) I.ok.mod.kin M.kp (thn (ha.run pos pins s σ H _ I h) fun us s1 ⟨vs, H1, I1, r, q⟩ => ⟨I1.kIn, ?_⟩) he hpl
  exact makeG M F hgd hr hb hd hx I1 r q
end

/-! ### fields by data -/
/-- a field's value, found by syntax -/
inductive FGet : List Str → List D → Str → D → Prop where
  | here (f : Str) (ks : List Str) (d : D) (xs : List D) : FGet (f :: ks) (d :: xs) f d
  | there {g f : Str} {ks : List Str} {x d : D} {xs : List D} (hne : (f == g) = false) (h : FGet ks xs f d) : FGet (g :: ks) (x :: xs) f d
/-- the fields behind a store -/
inductive FPut (f : Str) (d : D) : List Str → List D → List Str → List D → Prop where
  | nil : FPut f d [] [] [f] [d]
  | here (ks : List Str) (x : D) (xs : List D) : FPut f d (f :: ks) (x :: xs) (f :: ks) (d :: xs)
  | there {g : Str} {ks ks' : List Str} {x : D} {xs xs' : List D} (hne : (g == f) = false) (h : FPut f d ks xs ks' xs') : FPut f d (g :: ks) (x :: xs) (g :: ks') (x :: xs')
section
variable {K : PySem.W.Frag} {G H : Hp}
theorem FGet.look {f : Str} {d : D} : ∀ {fs : List (Str × V)} {ks : List Str} {xs : List D}, FGet ks xs f d → fs.map (·.1) = ks → DatAll K G (fs.map (·.2)) xs → ∃ v, fs.lookup f = some v ∧ Dat K G v d
  | [], _, _, h, e, r => by cases e; cases h
  | (g, v) :: fs, _, _, h, e, r => by
    cases e
    cases h with
    | here =>
      cases r with
      | cons r1 r2 => exact ⟨v, by simp, r1⟩
    | there hne h =>
      cases r with
      | cons r1 r2 =>
        obtain ⟨u, h1, h2⟩ := FGet.look h rfl r2
        exact ⟨u, by rw [List.lookup_cons, hne]; exact h1, h2⟩
theorem FPut.put {f : Str} {d : D} {y : V} (ry : Dat K G y d) : ∀ {fs : List (Str × V)} {ks ks' : List Str} {xs xs' : List D}, FPut f d ks xs ks' xs' → fs.map (·.1) = ks → DatAll K G (fs.map (·.2)) xs → (putF f y fs).map (·.1) = ks' ∧ DatAll K G ((putF f y fs).map (·.2)) xs'
  | [], _, _, _, _, h, e, r => by cases e; cases h; exact ⟨rfl, .cons ry .nil⟩
  | (g, v) :: fs, _, _, _, _, h, e, r => by
    cases e
    cases h with
    | here =>
      cases r with
      | cons r1 r2 =>
        unfold putF
        rw [if_pos rfl]
        exact ⟨rfl, .cons ry r2⟩
    | there hne h =>
      cases r with
      | cons r1 r2 =>
        obtain ⟨h1, h2⟩ := FPut.put ry h rfl r2
        have : g ≠ f := fun z => by rw [z] at hne; simp at hne
        unfold putF
        rw [if_neg this]
        exact ⟨by rw [List.map_cons, h1], .cons r1 h2⟩
theorem look_none {f : Str} : ∀ {fs : List (Str × V)} {ks : List Str}, fs.map (·.1) = ks → f ∉ ks → fs.lookup f = none
  | [], _, _, _ => rfl
  | (g, v) :: fs, _, e, h => by
    cases e
    have h1 : f ≠ g := fun z => h (by simp [z])
    rw [List.lookup_cons, beq_eq_false_iff_ne.mpr h1]
    exact look_none rfl fun z => h (by simp at z ⊢; exact .inr z)
end
/-- an instance: a cell, or frozen -/
def insD (C : CS) : D → Option (Addr × List Str × List D)
  | .obj Cl ks xs => some (Cl, ks, xs)
  | .own a => match C a with
    | some (.ins Cl ks xs) => some (Cl, ks, xs)
    | _ => none
  | _ => none
theorem insD_own {C : CS} {a Cl : Addr} {ks : List Str} {xs : List D} (h : C a = some (.ins Cl ks xs)) : insD C (.own a) = some (Cl, ks, xs) := by unfold insD; simp only [h]
theorem Wld.ins {K : PySem.W.Frag} {G H : Hp} {C : CS} {v : V} {d : D} {Cl : Addr} {ks : List Str} {xs : List D} (w : Wld K G C H) (r : Dat K G v d) (e : insD C d = some (Cl, ks, xs)) : ∃ a dx fs, v = .ref a ∧ H a = some (.ins Cl dx fs) ∧ fs.map (·.1) = ks ∧ DatAll K G (fs.map (·.2)) xs := by
  cases r with
  | obj a b c => simp [insD] at e; obtain ⟨rfl, rfl, rfl⟩ := e; exact ⟨_, _, _, rfl, w.ex _ _ a, b, c⟩
  | own a =>
    unfold insD at e
    cases q : C a with
    | none => simp [q] at e
    | some c =>
      cases c with
      | ins Cl' ks' xs' =>
        simp [q] at e
        obtain ⟨rfl, rfl, rfl⟩ := e
        obtain ⟨_, dx, fs, h1, h2, h3⟩ := w.cell a _ q
        exact ⟨a, dx, fs, rfl, h1, h2, h3⟩
      | _ => simp [q] at e
  | _ => simp [insD] at e
def FldC (K : PySem.W.Frag) (Cl : Addr) (f : Str) : Prop := Cls K Cl ∧ NoAttr K Cl f
/-- a def by its address; dfl: what fills up the parameters -/
def FnA (P : Program) (w : World) (K : PySem.W.Frag) (mg : Str → Option Value) (base : Heap) (f : Addr) (n : Nat) (dfl : List D) (S : DSp) : Prop :=
  ∃ (fd : FuncData) (ps : List Str) (ds : List Value) (dvs : List V), FnG P w K mg base CX0 n f fd ps (toSp K S) ∧ Binds K fd ps ds ∧ Vals dvs ds ∧ ∀ G, DatAll K G dvs dfl
def MthC (P : Program) (w : World) (K : PySem.W.Frag) (mg : Str → Option Value) (base : Heap) (Cl : Addr) (m : Str) (n : Nat) (dfl : List D) (S : DSp) : Prop := Cls K Cl ∧ ∃ f, Meth K Cl m f ∧ FnA P w K mg base f n dfl S
def MakC (P : Program) (w : World) (K : PySem.W.Frag) (mg : Str → Option Value) (base : Heap) (x : Str) (Cl : Addr) (n : Nat) (dfl : List D) (S : DSp) : Prop := mg x = some (.ref Cl) ∧ ∃ f, Mk K Cl f ∧ FnA P w K mg base f n dfl S
section
variable {P : Program} {w : World} {K : PySem.W.Frag} {mg : Str → Option Value} {base : Heap} {j n : Nat} {X : Cx} {Cl : Addr} {m f x : Str} {S : DSp} {dfl : List D} {e o v : Expr} {es : List Expr} {env : DEnv} {C : CS} {k : KD} {pos p apos pos' : Pos} {E : DEnds}
theorem toSp_ok {G G' : Hp} {C' : CS} {H' : Hp} {vs dvs : List V} {ds : List D} {Q : VK} {X0 : XK} {C0 : CS} {H0 : Hp} (w1 : Wld K G' C' H') (r : DatAll K G' vs ds) (rd : ∀ G, DatAll K G dvs dfl) (f1 : Fr G C0 H0 G' C' H') (q : Kont K G C0 H0 k Q) (z : S (ds ++ dfl) C' k) : toSp K S (vs ++ dvs) H' Q X0 :=
  ⟨G', C', ds ++ dfl, k, w1, r.append (rd G'), z, q.after f1⟩
theorem x_fld (hx : Ctx P w K mg base j X) (h : WE X e env C fun d C1 => ∃ Cl ks xs v, insD C1 d = some (Cl, ks, xs) ∧ FldC K Cl f ∧ FGet ks xs f v ∧ k v C1) (hb : attributeBase e f X.env (eval e X.env) = eval e X.env := by rfl) : WE X (.Attribute e f pos) env C k :=
  .of (pe_fld pe_tS hb) fun G σ H Q w er q => h G σ H _ w er fun u G1 C1 H1 d f1 w1 r1 z => by
    obtain ⟨Cl, ks, xs, v, hi, ⟨hc, hn⟩, hg, hk⟩ := z
    obtain ⟨a, dx, fs, rfl, h1, h2, h3⟩ := w1.ins r1 hi
    obtain ⟨v', g1, g2⟩ := hg.look h2 h3
    exact ⟨a, Cl, dx, fs, v', rfl, h1, by rw [hx.K]; exact hc, by rw [hx.K]; exact hn, g1, q _ _ _ _ _ f1 w1 g2 hk⟩
theorem x_setFld (hx : Ctx P w K mg base j X) (h : WE X v env C fun y C1 => WE X o env C1 fun d C2 => ∃ p Cl ks xs ks' xs', d = .own p ∧ C2 p = some (.ins Cl ks xs) ∧ FldC K Cl f ∧ ks.length < 1000 ∧ FPut f y ks xs ks' xs' ∧ E.nx env (put C2 p (.ins Cl ks' xs')))
    (hs : swapsWith v (some (.Attribute o f pos')) pos.line X.env = pure false := by rfl) : WS X (.Assign [.Attribute o f pos'] v pos) env C E :=
  .of (ps_fld pe_tS pe_tS hs) fun G σ H D w er q => h G σ H _ w er fun y' G1 C1 H1 y f1 w1 r1 h1 => h1 G1 σ H1 _ w1 (er.mono f1.exG) fun o' G2 C2 H2 d f2 w2 r2 z => by
    obtain ⟨p, Cl, ks, xs, ks', xs', rfl, hp, ⟨hc, hn⟩, hl, hput, hk⟩ := z
    cases r2
    obtain ⟨_, dx, fs, g1, g2, g3⟩ := w2.cell p _ hp
    obtain ⟨u1, u2⟩ := hput.put (r1.mono f2.exG) g2 g3
    obtain ⟨w3, f3⟩ := w2.write hp (o := .ins Cl dx (putF f y' fs)) (c' := .ins Cl ks' xs') fun H' e => ⟨dx, _, e, u1, u2⟩
    exact ⟨p, Cl, dx, fs, rfl, g1, by rw [hx.K]; exact hc, by rw [hx.K]; exact hn, by rw [← List.length_map (f := (·.1)), g2]; exact hl, q.nx _ _ _ _ _ ((f1.trans f2).trans f3) w3 (er.mono ((f1.trans f2).trans f3).exG) hk⟩
theorem x_meth (hx : Ctx P w K mg base j X) (hM : MthC P w K mg base Cl m n dfl S) (h : WE X o env C fun d C1 => (∃ ks xs, insD C1 d = some (Cl, ks, xs) ∧ m ∉ ks) ∧ WA X (e :: es) env C1 fun ds C2 => S (d :: (ds ++ dfl)) C2 k) (hle : n ≤ j := by decide)
    (hst : starEach (e :: es) X.env = (false, eval e X.env) :: starEach es X.env := by rfl) (hpl : (backTo pos (starEach es X.env)).any (·.1) = false := by rfl) {pl : Sem Bool}
    (ht : eval (.Call (.Attribute o m apos) (e :: es) [] pos) X.env = (do
      let ov ← eval o X.env
      standAt apos.atName
      let (f, first) ← holding [ov] (getMethod ov m pl)
      callWith pos f first (backTo pos (starEach (e :: es) X.env)) (backToKw pos (keywordEach [] X.env))) := by rfl) : WE X (.Call (.Attribute o m apos) (e :: es) [] pos) env C k := by
  obtain ⟨hc, fa, hm, fd, ps, ds, dvs, F, hb, hd, hdat⟩ := hM
  have hroom := hx.room
  obtain ⟨e1, e2, e3, e4, e5, _, hgd, hcalm⟩ := hx
  subst e1 e2 e3 e4 e5
  refine .of (pe_methG pe_tS hc hm F hgd (hroom.mono hle) hb hd pass0 pa_tAr hst hpl ht) fun G σ H Q w er q => h G σ H _ w er fun u G1 C1 H1 d f1 w1 r1 z => ?_
  obtain ⟨⟨ks, xs, hi, hnk⟩, z⟩ := z
  obtain ⟨a, dx, fs, rfl, h1, h2, h3⟩ := w1.ins r1 hi
  refine ⟨a, dx, fs, rfl, h1, look_none h2 hnk, z G1 σ H1 _ w1 (er.mono f1.exG) fun vs G2 C2 H2 ds2 f2 w2 r2 zz => ?_⟩
  exact toSp_ok (ds := d :: ds2) w2 (.cons (r1.mono f2.exG) r2) hdat (f1.trans f2) q zz
theorem x_meth0 (hx : Ctx P w K mg base j X) (hM : MthC P w K mg base Cl m n dfl S) (h : WE X o env C fun d C1 => (∃ ks xs, insD C1 d = some (Cl, ks, xs) ∧ m ∉ ks) ∧ S (d :: dfl) C1 k) (hle : n ≤ j := by decide) {pl : Sem Bool}
    (ht : eval (.Call (.Attribute o m apos) [] [] pos) X.env = (do
      let ov ← eval o X.env
      standAt apos.atName
      let (f, first) ← holding [ov] (getMethod ov m pl)
      callWith pos f first (backTo pos (starEach [] X.env)) (backToKw pos (keywordEach [] X.env))) := by rfl) : WE X (.Call (.Attribute o m apos) [] [] pos) env C k := by
  obtain ⟨hc, fa, hm, fd, ps, ds, dvs, F, hb, hd, hdat⟩ := hM
  have hroom := hx.room
  obtain ⟨e1, e2, e3, e4, e5, _, hgd, hcalm⟩ := hx
  subst e1 e2 e3 e4 e5
  refine .of (pe_methG0 pe_tS hc hm F hgd (hroom.mono hle) hb hd pass0 ht) fun G σ H Q w er q => h G σ H _ w er fun u G1 C1 H1 d f1 w1 r1 z => ?_
  obtain ⟨⟨ks, xs, hi, hnk⟩, z⟩ := z
  obtain ⟨a, dx, fs, rfl, h1, h2, h3⟩ := w1.ins r1 hi
  exact ⟨a, dx, fs, rfl, h1, look_none h2 hnk, toSp_ok (ds := [d]) (vs := [.ref a]) (X0 := E0) w1 (.cons r1 .nil) hdat f1 q z⟩
theorem made_ok {G H : Hp} {a dx : Addr} (w1 : Wld K G C H) (ha : H a = none) (hd : H dx = none) (hne : dx ≠ a) : Wld K G (put C a (.ins Cl [] [])) (upd (upd H dx (.own a)) a (.ins Cl dx [])) ∧ Fr G C H G (put C a (.ins Cl [] [])) (upd (upd H dx (.own a)) a (.ins Cl dx [])) := by
  have w2 : Wld K G C (upd H dx (.own a)) := by
    obtain ⟨g, c⟩ := w1.ne hd
    exact ⟨fun b o e => by rw [upd_ne (ne_of_none e g)]; exact w1.ex b o e, fun b c' e => by
      obtain ⟨h1, h2⟩ := w1.cell b c' e
      exact ⟨h1, h2.mono (fun _ _ h => h) (upd_ne (cell_ne e c))⟩, w1.nt⟩
  have f2 : Fr G C H G C (upd H dx (.own a)) := Fr.fresh hd
  have ha2 : upd H dx (.own a) a = none := by rw [upd_ne hne.symm]; exact ha
  obtain ⟨w3, f3⟩ := w2.newC ha2 (o := .ins Cl dx []) (c := .ins Cl [] []) fun H' e => ⟨dx, [], e, rfl, .nil⟩
  exact ⟨w3, f2.trans f3⟩
theorem x_make (hx : Ctx P w K mg base j X) (hM : MakC P w K mg base x Cl n dfl S) (hg : Gl X x) (h : WA X (e :: es) env C fun ds C1 => ∀ a, C1 a = none → S (.own a :: (ds ++ dfl)) (put C1 a (.ins Cl [] [])) fun d C2 => d = .non ∧ k (.own a) C2) (hle : n + 1 ≤ j := by decide)
    (hdb : (x == ("__debug__" : Str)) = false := by decide) (he : starEach (e :: es) X.env = (false, eval e X.env) :: starEach es X.env := by rfl) (hpl : (backTo pos (starEach es X.env)).any (·.1) = false := by rfl) : WE X (.Call (.Name x p) (e :: es) [] pos) env C k := by
  obtain ⟨hmg, fa, hm, fd, ps, ds, dvs, F, hb, hd, hdat⟩ := hM
  have hroom := hx.room
  obtain ⟨e1, e2, e3, e4, e5, _, hgd, hcalm⟩ := hx
  subst e1 e2 e3 e4 e5
  refine .of (pe_makeG hm F hgd (hroom.mono hle) hg hmg hb hd pass0 pa_tAr hdb he hpl) fun G σ H Q w er q => h G σ H _ w er fun vs G1 C1 H1 ds1 f1 w1 r1 z => fun a dx ha hdx hne => ?_
  obtain ⟨w3, f3⟩ := made_ok (Cl := Cl) w1 ha hdx hne
  refine toSp_ok (ds := .own a :: ds1) (vs := .ref a :: vs) (k := fun d C2 => d = .non ∧ k (.own a) C2) w3 (.cons (.own a) (r1.mono f3.exG)) hdat (Fr.refl ..) ?_ (z a (w1.ne ha).2)
  rintro v G2 C2 H2 d f2 w2 r2 ⟨rfl, zk⟩
  cases r2
  exact ⟨rfl, q _ _ _ _ _ ((f1.trans f3).trans f2) w2 (.own a) zk⟩
end
end DL
/-! DLw: dicts by data (keys ints and texts). -/
namespace DL
open PySem PySem.Spec PyProof.Rows L2
/-- a key as data -/
def kD : Key → D
  | .inl i => .int i
  | .inr s => .str s
def valD (kvs : List (Key × D)) (k : Key) : Option D := (kvs.find? fun kv => decide (kv.1 = k)).map (·.2)
def putD (kvs : List (Key × D)) (k : Key) (v : D) : List (Key × D) :=
  if (kvs.any fun kv => decide (kv.1 = k)) = true then kvs.map (fun kv => if kv.1 = k then (kv.1, v) else kv) else kvs ++ [(k, v)]
def dropD (kvs : List (Key × D)) (k : Key) : List (Key × D) := kvs.filter fun kv => decide (kv.1 ≠ k)
section
variable {K : PySem.W.Frag} {G H : Hp} {C : CS}
theorem dat_key {v : V} {k : Key} (r : Dat K G v (kD k)) : v = kV k := by
  cases k <;> (cases r; rfl)
theorem rel_val {k : Key} : ∀ {kw : List (Key × V)} {kvs : List (Key × D)}, kw.map (·.1) = kvs.map (·.1) → DatAll K G (kw.map (·.2)) (kvs.map (·.2)) → (valD kvs k = none → valV kw k = none) ∧ (∀ d, valD kvs k = some d → ∃ v, valV kw k = some v ∧ Dat K G v d) ∧ (valV kw k).isSome = (valD kvs k).isSome
  | [], [], _, _ => ⟨fun _ => rfl, fun d h => (by cases h), rfl⟩
  | (a, v) :: kw, (b, d) :: kvs, e, r => by
    simp only [List.map_cons, List.cons.injEq] at e
    obtain ⟨rfl, e⟩ := e
    cases r with
    | cons r1 r2 =>
      obtain ⟨h1, h2, h3⟩ := rel_val (k := k) e r2
      by_cases hk : a = k
      · have e1 : valV ((a, v) :: kw) k = some v := valV_pos (p := (a, v)) hk
        have e2 : valD ((a, d) :: kvs) k = some d := by simp [valD, List.find?_cons, hk]
        refine ⟨fun z => (by rw [e2] at z; cases z), fun d' z => ?_, by rw [e1, e2]; rfl⟩
        rw [e2] at z; cases z
        exact ⟨v, e1, r1⟩
      · have e1 : valV ((a, v) :: kw) k = valV kw k := valV_neg (p := (a, v)) hk
        have e2 : valD ((a, d) :: kvs) k = valD kvs k := by simp [valD, List.find?_cons, hk]
        rw [e1, e2]
        exact ⟨h1, h2, h3⟩
  | [], _ :: _, e, _ => by simp at e
  | _ :: _, [], e, _ => by simp at e
theorem any_rel {k : Key} : ∀ {kw : List (Key × V)} {kvs : List (Key × D)}, kw.map (·.1) = kvs.map (·.1) → (kw.any fun kv => decide (kv.1 = k)) = (kvs.any fun kv => decide (kv.1 = k))
  | [], [], _ => rfl
  | (a, v) :: kw, (b, d) :: kvs, e => by
    simp only [List.map_cons, List.cons.injEq] at e
    obtain ⟨rfl, e⟩ := e
    rw [List.any_cons, List.any_cons, any_rel e]
  | [], _ :: _, e => by simp at e
  | _ :: _, [], e => by simp at e
theorem map_rel {k : Key} {y : V} {z : D} (rz : Dat K G y z) : ∀ {kw : List (Key × V)} {kvs : List (Key × D)}, kw.map (·.1) = kvs.map (·.1) → DatAll K G (kw.map (·.2)) (kvs.map (·.2)) →
    (kw.map fun kv => if kv.1 = k then (kv.1, y) else kv).map (·.1) = (kvs.map fun kv => if kv.1 = k then (kv.1, z) else kv).map (·.1) ∧ DatAll K G ((kw.map fun kv => if kv.1 = k then (kv.1, y) else kv).map (·.2)) ((kvs.map fun kv => if kv.1 = k then (kv.1, z) else kv).map (·.2))
  | [], [], _, _ => ⟨rfl, .nil⟩
  | (a, v) :: kw, (b, d) :: kvs, e, r => by
    simp only [List.map_cons, List.cons.injEq] at e
    obtain ⟨rfl, e⟩ := e
    cases r with
    | cons r1 r2 =>
      obtain ⟨h1, h2⟩ := map_rel (k := k) rz e r2
      by_cases hk : a = k
      · subst hk
        simp only [List.map_cons, if_true]
        exact ⟨by rw [h1], .cons rz h2⟩
      · simp only [List.map_cons, hk, if_false]
        exact ⟨by rw [h1], .cons r1 h2⟩
  | [], _ :: _, e, _ => by simp at e
  | _ :: _, [], e, _ => by simp at e
theorem put_rel {k : Key} {y : V} {z : D} (rz : Dat K G y z) {kw : List (Key × V)} {kvs : List (Key × D)} (e : kw.map (·.1) = kvs.map (·.1)) (r : DatAll K G (kw.map (·.2)) (kvs.map (·.2))) : (L2.putK kw k y).map (·.1) = (putD kvs k z).map (·.1) ∧ DatAll K G ((L2.putK kw k y).map (·.2)) ((putD kvs k z).map (·.2)) := by
  unfold L2.putK putD
  rw [any_rel e]
  split
  · exact map_rel rz e r
  · rw [List.map_append, List.map_append, List.map_append, List.map_append, e]
    exact ⟨rfl, r.append (.cons rz .nil)⟩
theorem drop_rel {k : Key} : ∀ {kw : List (Key × V)} {kvs : List (Key × D)}, kw.map (·.1) = kvs.map (·.1) → DatAll K G (kw.map (·.2)) (kvs.map (·.2)) → (dropK kw k).map (·.1) = (dropD kvs k).map (·.1) ∧ DatAll K G ((dropK kw k).map (·.2)) ((dropD kvs k).map (·.2))
  | [], [], _, _ => ⟨rfl, .nil⟩
  | (a, v) :: kw, (b, d) :: kvs, e, r => by
    simp only [List.map_cons, List.cons.injEq] at e
    obtain ⟨rfl, e⟩ := e
    cases r with
    | cons r1 r2 =>
      obtain ⟨h1, h2⟩ := drop_rel (k := k) e r2
      unfold dropK dropD at *
      by_cases hk : a = k
      · rw [List.filter_cons_of_neg (by simp [hk]), List.filter_cons_of_neg (by simp [hk])]
        exact ⟨h1, h2⟩
      · rw [List.filter_cons_of_pos (by simp [hk]), List.filter_cons_of_pos (by simp [hk]), List.map_cons, List.map_cons, List.map_cons, List.map_cons, h1]
        exact ⟨rfl, .cons r1 h2⟩
  | [], _ :: _, e, _ => by simp at e
  | _ :: _, [], e, _ => by simp at e
theorem Wld.dic {v : V} {a : Addr} {kvs : List (Key × D)} (w : Wld K G C H) (r : Dat K G v (.own a)) (e : C a = some (.dic kvs)) : v = .ref a ∧ ∃ kw : List (Key × V), H a = some (.dK kw) ∧ kw.map (·.1) = kvs.map (·.1) ∧ DatAll K G (kw.map (·.2)) (kvs.map (·.2)) := by
  cases r
  obtain ⟨_, kw, h1, h2, h3⟩ := w.cell a _ e
  exact ⟨rfl, kw, h1, h2, h3⟩
end
/-! ### d[k], lists and dicts alike -/
def rIxD : R2 := fun x y H Q => ∃ a v, x = .ref a ∧ DGet H a y (some v) ∧ Q v H
theorem ix_dict {X : Cx} (hu : X.A.units + 1 < cLine) : IxR X rIxD := by
  intro value slice pins s σ H x y v u Q I rx ry h hs
  obtain ⟨a, z, rfl, g, q⟩ := h
  obtain rfl : v = Value.ref a := rx
  have hT := dict_typeIs I g
  have h2 : wpAny (model X.prog X.w) X.A (getItem (.ref a) u) (EP X pins σ Q) X.xe s := d_getItem hu I g ry fun w' s3 I3 rw' => ⟨z, H, I3, rw', q⟩
  unfold subscriptTail
  refine wpAny_bind ?_
  rw [getitemInPython_of_ne hT.not_modules]
  refine wpAny_bind (wpAny_specialOf hT PySem.F.slot_dict_getitem.lookup ?_)
  have fin : wpAny (model X.prog X.w) X.A (subscripted slice false (.ref a) u) (fun r s₃ => wpAny (model X.prog X.w) X.A (letTemporaryGo value (.ref a) r >>= fun _ => pure r) (EP X pins σ Q) X.xe s₃) X.xe s := by
    rw [hs]
    exact wpAny_operating (wpAny_mono h2 (fun r s₃ h₃ => wpAny_bind (wpAny_letTemporaryGo (wpAny_pure h₃))) fun _ _ x => x)
  first
    | exact wpAny_pure (wpAny_bind fin)
    | exact wpAny_bind (wpAny_pure (wpAny_bind fin))
    | exact wpAny_bind fin
theorem IxR.or {X : Cx} {r r' : R2} (h : IxR X r) (h' : IxR X r') : IxR X fun x y H Q => r x y H Q ∨ r' x y H Q := by
  intro value slice pins s σ H x y v u Q I rx ry hq hs
  rcases hq with hq | hq
  · exact h value slice pins s σ H x y v u Q I rx ry hq hs
  · exact h' value slice pins s σ H x y v u Q I rx ry hq hs
def dGetD : OpD := fun x y C k => ∃ a kvs ky d, x = .own a ∧ y = kD ky ∧ C a = some (.dic kvs) ∧ valD kvs ky = some d ∧ k d C
def dIxD : OpD := fun x y C k => dIx x y C k ∨ dGetD x y C k
theorem r2_ixD {K : PySem.W.Frag} : R2D K (fun x y H Q => rIx K x y H Q ∨ rIxD x y H Q) dIxD := by
  rintro x y a b G C H k Q w da db (h | ⟨p, kvs, ky, d, rfl, rfl, hp, hv, hk⟩) q
  · exact .inl (r2_ix x y a b G C H k Q w da db h q)
  · obtain ⟨rfl, kw, h1, h2, h3⟩ := w.dic da hp
    obtain rfl := dat_key db
    obtain ⟨_, g2, _⟩ := rel_val (k := ky) h2 h3
    obtain ⟨v, e, r⟩ := g2 d hv
    refine .inr ⟨p, v, rfl, ?_, q _ _ _ _ _ (Fr.refl ..) w r hk⟩
    rw [← e]
    exact DGet.k h1
/-! ### in -/
def rInDk (neg : Bool) : R2 := fun y x H Q => ∃ a o, x = .ref a ∧ DGet H a y o ∧ Q (.bl (if neg = true then !o.isSome else o.isSome)) H
theorem op_inDk {X : Cx} (hu : X.A.units + 1 < cLine) : OpR X (compareOp .In) (rInDk false) := by
  rintro pins s σ H y x u v Q I ry rx ⟨a, o, rfl, g, q⟩
  obtain rfl : v = Value.ref a := rx
  exact d_in hu I g ry fun s3 I3 => ⟨.bl o.isSome, H, I3, rfl, q⟩
theorem op_ninDk {X : Cx} (hu : X.A.units + 1 < cLine) : OpR X (compareOp .NotIn) (rInDk true) := by
  rintro pins s σ H y x u v Q I ry rx ⟨a, o, rfl, g, q⟩
  obtain rfl : v = Value.ref a := rx
  exact d_notIn hu I g ry fun s3 I3 => ⟨.bl (!o.isSome), H, I3, rfl, q⟩
def dInDk (neg : Bool) : OpD := fun y x C k => ∃ a kvs ky, x = .own a ∧ y = kD ky ∧ C a = some (.dic kvs) ∧ k (.bl (if neg = true then !(valD kvs ky).isSome else (valD kvs ky).isSome)) C
theorem r2_inDk {K : PySem.W.Frag} {neg : Bool} : R2D K (rInDk neg) (dInDk neg) := by
  rintro y x b a G C H k Q w db da ⟨p, kvs, ky, rfl, rfl, hp, hk⟩ q
  obtain ⟨rfl, kw, h1, h2, h3⟩ := w.dic da hp
  obtain rfl := dat_key db
  obtain ⟨_, _, g3⟩ := rel_val (k := ky) h2 h3
  refine ⟨p, valV kw ky, rfl, DGet.k h1, ?_⟩
  rw [g3]
  exact q _ _ _ _ _ (Fr.refl ..) w (.bl _) hk
def dInX (neg : Bool) : OpD := fun x y C k => dIn neg x y C k ∨ dInDk neg x y C k
theorem OpD.or {K : PySem.W.Frag} {r r' : R2} {p p' : OpD} (h : R2D K r p) (h' : R2D K r' p') : R2D K (fun x y H Q => r x y H Q ∨ r' x y H Q) fun x y C k => p x y C k ∨ p' x y C k := by
  rintro x y a b G C H k Q w da db (z | z) q
  · exact .inl (h x y a b G C H k Q w da db z q)
  · exact .inr (h' x y a b G C H k Q w da db z q)
/-! ### d[k] = v -/
def rSetD : TSet := fun x i v H Q => ∃ a H', x = .ref a ∧ DPut H a i v H' ∧ Q H'
theorem set_dict {X : Cx} (hu : X.A.units + 1 < cLine) : PSet X rSetD := by
  intro pins s σ H o i v ov iv u Q I ro ri rv h
  obtain ⟨a, H', rfl, g, q⟩ := h
  obtain rfl : ov = Value.ref a := ro
  exact d_setItem hu I g ri rv fun s4 I4 => ⟨H', I4, q⟩
theorem PSet.or {X : Cx} {t t' : TSet} (h : PSet X t) (h' : PSet X t') : PSet X fun x i v H Q => t x i v H Q ∨ t' x i v H Q := by
  intro pins s σ H o i v ov iv u Q I ro ri rv hq
  rcases hq with hq | hq
  · exact h pins s σ H o i v ov iv u Q I ro ri rv hq
  · exact h' pins s σ H o i v ov iv u Q I ro ri rv hq
def dSetX (x y d : D) (C : CS) (kC : CS → Prop) : Prop := (∃ p n xs j, x = .own p ∧ y = .int n ∧ C p = some (.lst xs) ∧ ixN xs.length n = some j ∧ kC (put C p (.lst (xs.set j d)))) ∨
  ∃ p kvs ky, x = .own p ∧ y = kD ky ∧ C p = some (.dic kvs) ∧ kvs.length < sizeLine ∧ kC (put C p (.dic (putD kvs ky d)))
section
variable {P : Program} {w : World} {K : PySem.W.Frag} {mg : Str → Option Value} {base : Heap} {j n : Nat} {X : Cx} {a b e o i : Expr} {es : List Expr} {env : DEnv} {C : CS} {k : KD} {kb : Bool → CS → Prop} {pos p apos cpos tpos p0 : Pos} {E : DEnds}
theorem Ctx.hu (hx : Ctx P w K mg base j X) : X.A.units + 1 < cLine := by have := hx.room.units; have := hx.room.un; omega
theorem x_ixD (hx : Ctx P w K mg base j X) (h : WE X a env C fun x C1 => WE X b env C1 fun y C2 => dIxD x y C2 k) (hs : PlainIx b := by intro _ _; rfl) : WE X (.Subscript a b pos) env C k := .of (pe_ix (IxR.or ix_seq (ix_dict hx.hu)) pe_tS pe_tS hs) (ev_op r2_ixD h)
theorem x_inX (hx : Ctx P w K mg base j X) (h : WE X a env C fun x C1 => WE X b env C1 fun y C2 => dInX false x y C2 k) (hm : behindInMarks .In b = false := by rfl) : WE X (.Compare a [.In] [b] pos) env C k := we_cmp (OpR.or (OpR.or (op_inD (Room.u65 hx.room)) (OpR.or op_in_sign op_in_seq)) (op_inDk hx.hu)) (OpD.or r2_in r2_inDk) h hm
theorem xt_inX (hx : Ctx P w K mg base j X) (h : WE X a env C fun x C1 => WE X b env C1 fun y C2 => dInX false x y C2 (tb kb)) (hm : behindInMarks .In b = false := by rfl) : WT X (.Compare a [.In] [b] pos) env C kb := wt_cmp (OpR.or (OpR.or (op_inD (Room.u65 hx.room)) (OpR.or op_in_sign op_in_seq)) (op_inDk hx.hu)) (OpD.or r2_in r2_inDk) h hm
theorem x_ninX (hx : Ctx P w K mg base j X) (h : WE X a env C fun x C1 => WE X b env C1 fun y C2 => dInX true x y C2 k) (hm : behindInMarks .NotIn b = false := by rfl) : WE X (.Compare a [.NotIn] [b] pos) env C k := we_cmp (OpR.or (OpR.or (op_notInD (Room.u65 hx.room)) (OpR.or op_notIn_sign op_notIn_seq)) (op_ninDk hx.hu)) (OpD.or r2_nin r2_inDk) h hm
theorem xt_ninX (hx : Ctx P w K mg base j X) (h : WE X a env C fun x C1 => WE X b env C1 fun y C2 => dInX true x y C2 (tb kb)) (hm : behindInMarks .NotIn b = false := by rfl) : WT X (.Compare a [.NotIn] [b] pos) env C kb := wt_cmp (OpR.or (OpR.or (op_notInD (Room.u65 hx.room)) (OpR.or op_notIn_sign op_notIn_seq)) (op_ninDk hx.hu)) (OpD.or r2_nin r2_inDk) h hm
theorem set_dat {G H : Hp} {x i' v : V} {dx di dv : D} {kC : CS → Prop} {Q : Hp → Prop} (w1 : Wld K G C H) (rx : Dat K G x dx) (ri : Dat K G i' di) (rv : Dat K G v dv) (h : dSetX dx di dv C kC) (q : ∀ C' H', Fr G C H G C' H' → Wld K G C' H' → kC C' → Q H') : rSetL x i' v H Q ∨ rSetD x i' v H Q := by
  rcases h with ⟨p, n, xs, j, rfl, rfl, hp, hj, hk⟩ | ⟨p, kvs, ky, rfl, rfl, hp, hl, hk⟩
  · exact .inl (set_ok w1 hp rx ri rv hj fun H' f w' => q _ H' f w' hk)
  · obtain ⟨rfl, kw, h1, h2, h3⟩ := w1.dic rx hp
    obtain rfl := dat_key ri
    obtain ⟨g1, g2⟩ := put_rel (k := ky) rv h2 h3
    have hlen : kw.length = kvs.length := by rw [← List.length_map (f := (·.1)) (as := kw), h2, List.length_map]
    obtain ⟨w3, f3⟩ := w1.write hp (o := .dK (L2.putK kw ky v)) (c' := .dic (putD kvs ky dv)) fun H' e => ⟨_, e, g1, g2⟩
    exact .inr ⟨p, _, rfl, DPut.k h1 (by rw [hlen]; exact hl), q _ _ f3 w3 hk⟩
theorem x_setX (hx : Ctx P w K mg base j X) {d : D} {kE : DEnv → CS → Prop} (h : WE X o env C fun x C1 => WE X i env C1 fun y C2 => dSetX x y d C2 (kE env))
    (ha : ∀ v, assign (.Subscript o i pos) X.env v = (do
      let ov ← holding [v] (eval o X.env)
      let iv ← holding [v, ov] (eval i X.env)
      standAt pos
      holding [v, ov, iv] (setItem ov iv v)
      release [v, ov, iv] []) := by intro _; rfl) : WG X (.Subscript o i pos) d env C kE :=
  .of (pg_sub pe_tS pe_tS (PSet.or set_list (set_dict hx.hu)) ha) fun G σ H v Q w er r q => h G σ H _ w er fun x' G1 C1 H1 x f1 w1 r1 h1 => h1 G1 σ H1 _ w1 (er.mono f1.exG) fun y' G2 C2 H2 y f2 w2 r2 h2 =>
    set_dat w2 (r1.mono f2.exG) r2 (r.mono (f1.trans f2).exG) h2 fun C' H' f3 w3 hk => q _ _ _ _ _ ((f1.trans f2).trans f3) w3 (er.mono (f1.trans f2).exG) hk
/-- {} -/
theorem x_dnew (h : ∀ a, C a = none → k (.own a) (put C a (.dic []))) : WE X (.Dict [] [] pos) env C k := .of pe_dnewK fun G σ H Q w er q p hp => by
  obtain ⟨w3, f3⟩ := w.newC hp (o := .dK []) (c := .dic []) fun H' e => ⟨[], e, rfl, .nil⟩
  exact q _ _ _ _ _ f3 w3 (.own p) (h p (w.ne hp).2)
/-- d.get(k, x) -/
theorem x_dget2 (hx : Ctx P w K mg base j X) (h : WE X o env C fun x C1 => ∃ p kvs, x = .own p ∧ C1 p = some (.dic kvs) ∧ WE X a env C1 fun y C2 => WE X b env C2 fun z C3 => ∃ kvs ky, y = kD ky ∧ C3 p = some (.dic kvs) ∧ k ((valD kvs ky).getD z) C3)
    (m : M2 X o "get" apos a b cpos) : WE X (.Call (.Attribute o "get" apos) [a, b] [] cpos) env C k :=
  .of (pe_dget2 hx.hu pe_tS pe_tS pe_tS m) fun G σ H Q w er q => h G σ H _ w er fun x' G1 C1 H1 x f1 w1 r1 z => by
    obtain ⟨p, kvs, rfl, hp, z⟩ := z
    obtain ⟨rfl, kw, h1, h2, h3⟩ := w1.dic r1 hp
    refine ⟨p, rfl, .inl ⟨kw, .inl h1⟩, z G1 σ H1 _ w1 (er.mono f1.exG) fun y' G2 C2 H2 y f2 w2 r2 z2 => z2 G2 σ H2 _ w2 (er.mono (f1.trans f2).exG) fun z' G3 C3 H3 zd f3 w3 r3 z3 => ?_⟩
    obtain ⟨kvs', ky, rfl, hp', hk⟩ := z3
    obtain ⟨_, kw', g1, g2, g3⟩ := w3.dic (.own p) hp'
    have e := dat_key r2
    subst e
    obtain ⟨u1, u2, u3⟩ := rel_val (k := ky) g2 g3
    refine ⟨valV kw' ky, DGet.k g1, ?_⟩
    cases hv : valD kvs' ky with
    | none =>
      rw [u1 hv]
      rw [hv] at hk
      exact q _ _ _ _ _ ((f1.trans f2).trans f3) w3 r3 hk
    | some d =>
      obtain ⟨v, e1, e2⟩ := u2 d hv
      rw [e1]
      rw [hv] at hk
      exact q _ _ _ _ _ ((f1.trans f2).trans f3) w3 e2 hk
/-- d.pop(k), there -/
theorem x_dpop1 (h : WE X o env C fun x C1 => ∃ p kvs, x = .own p ∧ C1 p = some (.dic kvs) ∧ WE X a env C1 fun y C2 => ∃ kvs ky d, y = kD ky ∧ C2 p = some (.dic kvs) ∧ valD kvs ky = some d ∧ k d (put C2 p (.dic (dropD kvs ky))))
    (m : M1 X o "pop" apos a cpos) : WE X (.Call (.Attribute o "pop" apos) [a] [] cpos) env C k :=
  .of (pe_dpop1 pe_tS pe_tS m) fun G σ H Q w er q => h G σ H _ w er fun x' G1 C1 H1 x f1 w1 r1 z => by
    obtain ⟨p, kvs, rfl, hp, z⟩ := z
    obtain ⟨rfl, kw, h1, h2, h3⟩ := w1.dic r1 hp
    refine ⟨p, rfl, .inl ⟨kw, .inl h1⟩, z G1 σ H1 _ w1 (er.mono f1.exG) fun y' G2 C2 H2 y f2 w2 r2 z2 => ?_⟩
    obtain ⟨kvs', ky, d, rfl, hp', hv, hk⟩ := z2
    obtain ⟨_, kw', g1, g2, g3⟩ := w2.dic (.own p) hp'
    obtain rfl := dat_key r2
    obtain ⟨_, u2, _⟩ := rel_val (k := ky) g2 g3
    obtain ⟨v, e1, e2⟩ := u2 d hv
    obtain ⟨v1, v2⟩ := drop_rel (k := ky) g2 g3
    obtain ⟨w3, f3⟩ := w2.write hp' (o := .dK (dropK kw' ky)) (c' := .dic (dropD kvs' ky)) fun H' e => ⟨_, e, v1, v2⟩
    exact ⟨kw', ky, v, g1, rfl, e1, q _ _ _ _ _ ((f1.trans f2).trans f3) w3 e2 hk⟩
/-- del d[k] -/
theorem x_ddel (h : WE X o env C fun x C1 => WE X i env C1 fun y C2 => ∃ p kvs ky, x = .own p ∧ y = kD ky ∧ C2 p = some (.dic kvs) ∧ (valD kvs ky).isSome = true ∧ E.nx env (put C2 p (.dic (dropD kvs ky)))) : WS X (.Delete [.Subscript o i tpos] pos) env C E :=
  .of (ps_ddel pe_tS pe_tS) fun G σ H D w er q => h G σ H _ w er fun x' G1 C1 H1 x f1 w1 r1 h1 => h1 G1 σ H1 _ w1 (er.mono f1.exG) fun y' G2 C2 H2 y f2 w2 r2 z => by
    obtain ⟨p, kvs, ky, rfl, rfl, hp, hv, hk⟩ := z
    obtain ⟨rfl, kw, g1, g2, g3⟩ := w2.dic (r1.mono f2.exG) hp
    obtain rfl := dat_key r2
    obtain ⟨_, _, u3⟩ := rel_val (k := ky) g2 g3
    obtain ⟨v1, v2⟩ := drop_rel (k := ky) g2 g3
    obtain ⟨w3, f3⟩ := w2.write hp (o := .dK (dropK kw ky)) (c' := .dic (dropD kvs ky)) fun H' e => ⟨_, e, v1, v2⟩
    exact ⟨p, kw, ky, rfl, g1, rfl, by rw [u3]; exact hv, q.nx _ _ _ _ _ ((f1.trans f2).trans f3) w3 (er.mono ((f1.trans f2).trans f3).exG) hk⟩
end
/-! ### len, sorted, list of a dict -/
def dLenK : List D → CS → KD → Prop := fun ds C k => ∃ a kvs, ds = [.own a] ∧ C a = some (.dic kvs) ∧ k (.int (kvs.length : Nat)) C
theorem rl_lenK {K : PySem.W.Frag} : RLD K (fun xs H Q => ∃ a kvs, xs = [V.ref a] ∧ H a = some (.dK kvs) ∧ Q (.int kvs.length) H) dLenK := by
  rintro xs ds G C H k Q w rs ⟨a, kvs, rfl, hp, hk⟩ q
  cases rs with
  | cons r1 r2 =>
    cases r2
    obtain ⟨rfl, kw, h1, h2, _⟩ := w.dic r1 hp
    have hlen : kw.length = kvs.length := by rw [← List.length_map (f := (·.1)) (as := kw), h2, List.length_map]
    exact ⟨a, kw, rfl, h1, by rw [hlen]; exact q _ _ _ _ _ (Fr.refl ..) w (.int _) hk⟩
def dLenX : List D → CS → KD → Prop := fun ds C k => dLen ds C k ∨ dLenK ds C k
theorem CallR.or {X : Cx} {f : Value} {r r' : List V → Hp → VK → Prop} (h : CallR X f r) (h' : CallR X f r') : CallR X f fun xs H Q => r xs H Q ∨ r' xs H Q := by
  intro pins s σ H xs us Q I rv hq
  rcases hq with hq | hq
  · exact h pins s σ H xs us Q I rv hq
  · exact h' pins s σ H xs us Q I rv hq
theorem RLD.or {K : PySem.W.Frag} {r r' : List V → Hp → VK → Prop} {p p' : List D → CS → KD → Prop} (h : RLD K r p) (h' : RLD K r' p') : RLD K (fun xs H Q => r xs H Q ∨ r' xs H Q) fun ds C k => p ds C k ∨ p' ds C k := by
  rintro xs ds G C H k Q w rs (z | z) q
  · exact .inl (h xs ds G C H k Q w rs z q)
  · exact .inr (h' xs ds G C H k Q w rs z q)
/-- sorted(d), keys texts -/
def dSortedK : List D → CS → KD → Prop := fun ds C k => ∃ (a : Addr) (kvs : List (Key × D)) (ks : List Str), ds = [.own a] ∧ C a = some (.dic kvs) ∧ kvs.map (·.1) = ks.map Sum.inr ∧ ks.length < 64 ∧ ∀ ys p, ys.Perm ks → sortedS ys = true → C p = none → k (.own p) (put C p (.lst (ys.map D.str)))
theorem rl_sortedK {K : PySem.W.Frag} : RLD K (fun xs H Q => ∃ (a : Addr) (kvs : List (Key × V)) (ks : List Str), xs = [.ref a] ∧ Rd H a (.dK kvs) ∧ kvs.map (·.1) = ks.map Sum.inr ∧ ks.length < 64 ∧
    ∀ ys p, ys.Perm ks → sortedS ys = true → H p = none → Q (.ref p) (upd H p (.lst (ys.map V.str)))) dSortedK := by
  rintro xs ds G C H k Q w rs ⟨a, kvs, ks, rfl, hp, hks, h64, hk⟩ q
  cases rs with
  | cons r1 r2 =>
    cases r2
    obtain ⟨rfl, kw, h1, h2, _⟩ := w.dic r1 hp
    refine ⟨a, kw, ks, rfl, .inl h1, h2.trans hks, h64, fun ys p hperm hs hp => ?_⟩
    obtain ⟨w3, f3⟩ := w.newC hp (o := .lst (ys.map V.str)) (c := .lst (ys.map D.str)) fun H' e => ⟨_, e, datAll_strsI ys⟩
    exact q _ _ _ _ _ f3 w3 (.own p) (hk ys p hperm hs (w.ne hp).2)
section
variable {P : Program} {w : World} {K : PySem.W.Frag} {mg : Str → Option Value} {base : Heap} {j n : Nat} {X : Cx} {e : Expr} {es : List Expr} {env : DEnv} {C : CS} {k : KD} {pos p : Pos}
theorem x_lenX (hx : Ctx P w K mg base j X) (Z : Zs mg) (hg : Gl X "len") (h : WA X (e :: es) env C fun ds C1 => dLenX ds C1 k) (he : starEach (e :: es) X.env = (false, eval e X.env) :: starEach es X.env := by rfl) (hpl : (backTo pos (starEach es X.env)).any (·.1) = false := by rfl) : WE X (.Call (.Name "len" p) (e :: es) [] pos) env C k := we_cb (hx.zs Z).len (CallR.or call_len call_lenD) (RLD.or rl_len rl_lenK) hg bt_len h (he := he) (hpl := hpl)
theorem x_sortedK (hx : Ctx P w K mg base j X) (Z : Zs mg) (hg : Gl X "sorted") (h : WA X (e :: es) env C fun ds C1 => dSortedK ds C1 k) (he : starEach (e :: es) X.env = (false, eval e X.env) :: starEach es X.env := by rfl) (hpl : (backTo pos (starEach es X.env)).any (·.1) = false := by rfl) : WE X (.Call (.Name "sorted" p) (e :: es) [] pos) env C k := we_cb (hx.zs Z).sorted (call_sortedD hx.calm) rl_sortedK hg (by decide +kernel) h (he := he) (hpl := hpl)
end
end DL
/-! DLx: enumerate of a tuple; own __len__ and __contains__; strip with signs; dict of pairs. -/
namespace PySem
open Sem (wp)
open AutoSeq1 (wpAny_loadPart')
section
variable {prog : Program} {w : World} {A : Around} {E : Value → Shared → Prop} {s : Shared}
end
end PySem

namespace L2
open PySem PySem.Spec PyProof.Rows
end L2

namespace L2
open PySem PySem.Spec PyProof.Rows
section
variable {X : Cx} {CT : CXT} {n : Nat} {fa Ca : Addr} {fd : FuncData} {ps : List Str} {sp : Sp} {E : XK} {dvs : List V} {ds : List Value}
end
end L2
namespace DL
open PySem PySem.Spec PyProof.Rows L2
section
variable {P : Program} {w : World} {K : PySem.W.Frag} {mg : Str → Option Value} {base : Heap} {j n m : Nat} {X : Cx} {Cl : Addr} {S : DSp} {dfl : List D} {a b e o : Expr} {ts es : List Expr} {env : DEnv} {C : CS} {k : KD} {kI : KI} {kb : Bool → CS → Prop} {pos p apos tpos cpos : Pos}
/-! ### strip -/
def dStripC : D → List D → CS → KD → Prop := fun x ds C k => ∃ z y, x = .str z ∧ ds = [.str y] ∧ z.length ≤ sizeLine ∧ k (.str (Txt.stripChars z y)) C
theorem rm_stripC {K : PySem.W.Frag} : RMD K (fun x xs H Q => ∃ a b, x = .str a ∧ xs = [.str b] ∧ a.length ≤ sizeLine ∧ Q (.str (Txt.stripChars a b)) H) dStripC := by
  rintro x a xs ds G C H k Q w da rs ⟨z, y, rfl, rfl, hl, hk⟩ q
  cases da
  cases rs with
  | cons r1 r2 =>
    cases r2
    cases r1
    exact ⟨z, y, rfl, rfl, hl, q _ _ _ _ _ (Fr.refl ..) w (.str _) hk⟩
theorem x_stripC (h : WE X o env C fun x C1 => tyD "str" C1 x ∧ WA X (e :: es) env C1 fun ds C2 => dStripC x ds C2 k) (hbase : attributeBase o "strip" X.env (eval o X.env) = eval o X.env := by rfl)
    (hfew : ((backTo cpos (starEach (e :: es) X.env)).all (fun x => !x.1) && (backToKw cpos (keywordEach [] X.env)).all (fun x => x.1.isSome)
      && decide ((e :: es).length + ([] : List Keyword).length + (if ([] : List Keyword).isEmpty then 0 else 1) < 30)) = true := by rfl)
    (hline : (apos.endLine == cpos.line) = true := by rfl) (hs : starEach (e :: es) X.env = (false, eval e X.env) :: starEach es X.env := by rfl) (hplain : (backTo cpos (starEach es X.env)).any (·.1) = false := by rfl) :
    WE X (.Call (.Attribute o "strip" apos) (e :: es) [] cpos) env C k :=
  we_bm PySem.F.plainAttrs_str PySem.F.slot_str_strip PySem.F.type_str_strip mt_stripChars rm_stripC h hbase hfew hline hs hplain
end
/-! ### dict of pairs -/
def mergeD (kvs more : List (Key × D)) : List (Key × D) := more.foldl (fun acc kv => putD acc kv.1 kv.2) kvs
section
variable {K : PySem.W.Frag} {G H : Hp} {C : CS}
theorem merge_rel : ∀ {mw : List (Key × V)} {more : List (Key × D)} {kw : List (Key × V)} {kvs : List (Key × D)}, mw.map (·.1) = more.map (·.1) → DatAll K G (mw.map (·.2)) (more.map (·.2)) → kw.map (·.1) = kvs.map (·.1) → DatAll K G (kw.map (·.2)) (kvs.map (·.2)) →
    (mergeK kw mw).map (·.1) = (mergeD kvs more).map (·.1) ∧ DatAll K G ((mergeK kw mw).map (·.2)) ((mergeD kvs more).map (·.2))
  | [], [], _, _, _, _, e, r => ⟨e, r⟩
  | (a, v) :: mw, (b, d) :: more, kw, kvs, e1, r1, e, r => by
    simp only [List.map_cons, List.cons.injEq] at e1
    obtain ⟨rfl, e1⟩ := e1
    cases r1 with
    | cons r1 r2 =>
      obtain ⟨g1, g2⟩ := put_rel (k := a) r1 e r
      exact merge_rel (mw := mw) (more := more) e1 r2 g1 g2
  | [], _ :: _, _, _, e, _, _, _ => by simp at e
  | _ :: _, [], _, _, e, _, _, _ => by simp at e
theorem pairs_dat : ∀ {vs : List V} {kvs : List (Key × D)}, DatAll K G vs (kvs.map fun kv => D.tup [kD kv.1, kv.2]) → (∀ a o, G a = some o → H a = some o) → ∃ (ps : List Addr) (kw : List (Key × V)), vs = ps.map V.ref ∧ Paired (fun p kv => SqT K H p [kV kv.1, kv.2]) ps kw ∧ kw.map (·.1) = kvs.map (·.1) ∧ DatAll K G (kw.map (·.2)) (kvs.map (·.2))
  | [], [], _, _ => ⟨[], [], rfl, .nil, rfl, .nil⟩
  | v :: vs, (ky, d) :: kvs, r, e => by
    cases r with
    | cons r1 r2 =>
      obtain ⟨ps, kw, h1, h2, h3, h4⟩ := pairs_dat (vs := vs) (kvs := kvs) r2 e
      cases r1 with
      | @tup p us _ x1 x2 =>
        cases x2 with
        | @cons u1 _ us' _ y1 y2 =>
          cases y2 with
          | @cons u2 _ us'' _ z1 z2 =>
            cases z2
            obtain rfl := dat_key y1
            exact ⟨p :: ps, (ky, u2) :: kw, by rw [h1]; rfl, .cons (Same.sqT e x1) h2, by simp [h3], .cons z1 h4⟩
  | [], _ :: _, r, _ => by cases r
  | _ :: _, [], r, _ => by cases r
def dDictP : List D → CS → KD → Prop := fun ds C k => ∃ (d : D) (kvs : List (Key × D)), ds = [d] ∧ seqR C d = some (kvs.map fun kv => D.tup [kD kv.1, kv.2]) ∧ ∀ p, C p = none → k (.own p) (put C p (.dic (mergeD [] kvs)))
theorem rl_dictP : RLD K (fun xs H Q => ∃ (a : Addr) (ps : List Addr) (kvs : List (Key × V)), xs = [.ref a] ∧ SqL K H a (ps.map V.ref) ∧ Paired (fun p kv => SqT K H p [kV kv.1, kv.2]) ps kvs ∧
    ∀ p, H p = none → Q (.ref p) (upd H p (.dK (mergeK [] kvs)))) dDictP := by
  rintro xs ds G C H k Q w rs ⟨d, kvs, rfl, hs, hk⟩ q
  cases rs with
  | @cons v1 _ vs1 _ r1 r2 =>
    cases r2
    obtain ⟨a, rfl, g1, vs', t1⟩ := seqOf_dat w r1 hs
    obtain ⟨vs, h1, h2⟩ : ∃ vs, SqL K H a vs ∧ DatAll K G vs (kvs.map fun kv => D.tup [kD kv.1, kv.2]) := by
      cases r1 with
      | lst x1 x2 => simp [seqR] at hs; subst hs; exact ⟨_, w.ex.seq (SqL.of x1), x2⟩
      | slst x1 x2 => simp [seqR] at hs; subst hs; exact ⟨_, w.ex.seq x1, x2⟩
      | own a =>
        obtain ⟨_, vs, y1, y2⟩ := w.cell a _ (own_seqR hs)
        exact ⟨vs, SqL.of y1, y2⟩
      | _ => simp [seqR] at hs
    obtain ⟨ps, kw, rfl, g2, g3, g4⟩ := pairs_dat h2 w.ex
    refine ⟨a, ps, kw, rfl, h1, g2, fun p hp => ?_⟩
    obtain ⟨m1, m2⟩ := merge_rel (kw := []) (kvs := []) g3 g4 rfl .nil
    obtain ⟨w3, f3⟩ := w.newC hp (o := .dK (mergeK [] kw)) (c := .dic (mergeD [] kvs)) fun H' e => ⟨_, e, m1, m2⟩
    exact q _ _ _ _ _ f3 w3 (.own p) (hk p (w.ne hp).2)
end
section
variable {P : Program} {w : World} {K : PySem.W.Frag} {mg : Str → Option Value} {base : Heap} {j n m : Nat} {X : Cx} {e : Expr} {es : List Expr} {env : DEnv} {C : CS} {k : KD} {pos p : Pos}
theorem x_dictP (hx : Ctx P w K mg base j X) (Z : Zs mg) (hg : Gl X "dict") (h : WA X (e :: es) env C fun ds C1 => dDictP ds C1 k) (he : starEach (e :: es) X.env = (false, eval e X.env) :: starEach es X.env := by rfl) (hpl : (backTo pos (starEach es X.env)).any (·.1) = false := by rfl) :
    WE X (.Call (.Name "dict" p) (e :: es) [] pos) env C k := we_ct (hx.zs Z).dict (call_dictP hx.calm) rl_dictP hg (by decide +kernel) h (he := he) (hpl := hpl)
end
/-! ### short answers -/
section
variable {C C1 : CS} {k : KD} {kC : CS → Prop} {K : PySem.W.Frag} {Cl p a : Addr} {ks : List Str} {xs : List D} {f s : Str} {d v : D} {kvs : List (Key × D)} {q : D → Prop}
theorem fld_ok (h1 : insD C d = some (Cl, ks, xs)) (h2 : FldC K Cl f) (h3 : FGet ks xs f v) (h : q v) : ∃ Cl ks xs v, insD C d = some (Cl, ks, xs) ∧ FldC K Cl f ∧ FGet ks xs f v ∧ q v := ⟨_, _, _, _, h1, h2, h3, h⟩
theorem ixD_ok (h1 : C a = some (.dic kvs)) (h2 : valD kvs (Sum.inr s) = some d) (h : k d C) : dIxD (.own a) (.str s) C k := .inr ⟨_, _, Sum.inr s, _, rfl, rfl, h1, h2, h⟩
theorem inX_ok (h1 : C a = some (.dic kvs)) (h : k (.bl (valD kvs (Sum.inr s)).isSome) C) : dInX false (.str s) (.own a) C k := .inr ⟨_, _, Sum.inr s, rfl, rfl, h1, h⟩
theorem ninX_ok (h1 : C a = some (.dic kvs)) (h : k (.bl (!(valD kvs (Sum.inr s)).isSome)) C) : dInX true (.str s) (.own a) C k := .inr ⟨_, _, Sum.inr s, rfl, rfl, h1, h⟩
theorem lenX_ok (h1 : C a = some (.dic kvs)) (h : k (.int (kvs.length : Nat)) C) : dLenX [.own a] C k := .inr ⟨_, _, rfl, h1, h⟩
theorem setX_ok (h1 : C p = some (.dic kvs)) (hl : kvs.length < sizeLine) (h : kC (put C p (.dic (putD kvs (Sum.inr s) d)))) : dSetX (.own p) (.str s) d C kC := .inr ⟨_, _, Sum.inr s, rfl, rfl, h1, hl, h⟩
end
end DL
/-! DLy: targets with a star. -/
namespace PySem
open Sem (wp)
open PyProof.Rows
theorem Walks.shift {prog : Program} {w : World} {A : Around} {I : Addr} {fp wr : List Addr} {n : Nat} {P : Nat → Value → Prop} {St : Nat → Heap → Prop} (W : Walks prog w A I fp wr n P St) (i : Nat) (hi : i ≤ n) :
    Walks prog w A I fp wr (n - i) (fun j => P (i + j)) (fun j => St (i + j)) where
  sub := W.sub
  frame := fun j => W.frame (i + j)
  item := fun j s Q E hj st hQ => W.item (i + j) s Q E (by omega) st hQ
  done := fun s Q E st hQ => W.done s Q E (by rw [show i + (n - i) = n by omega] at st; exact st) hQ
  self := fun j => W.self (i + j)
section
variable {prog : Program} {w : World} {A : Around} {E : Value → Shared → Prop} {s : Shared}
theorem items_acc {items : Array Value} {acc : Array Value} {i : Nat} (h : ItemsOf (fun j v => items[i + j]? = some v) acc (items.size - i)) : acc.toList = items.toList.drop i := by
  apply List.ext_getElem?
  intro j
  rw [List.getElem?_drop, Array.getElem?_toList, Array.getElem?_toList]
  by_cases hj : j < acc.size
  · have e : acc[j]? = some acc[j] := by simp [hj]
    rw [e, h.2 j _ e]
  · have e1 : acc[j]? = none := by simp; omega
    have hs := h.1
    have e2 : items[i + j]? = none := by simp; omega
    rw [e1, e2]
theorem unpackItems_star {t : Addr} {items : Array Value} {n i : Nat} {Q : List Value → Shared → Prop} (hh : A.handled = none) (ht : PyProof.Rows.IsTup s.heap t items) (hi : i < n) (hn : n ≤ items.size + 1) (hsz : items.size ≤ sizeLine)
    (hQ : ∀ (h' : Heap) (tk : Nat), (∀ b o, s.heap.get? b = some o → h'.get? b = some o) →
      Q (items.toList.take i ++ [.ref h'.objs.size] ++ items.toList.drop (items.size - (n - 1 - i))) { s with heap := h'.push { cls := .type "list", data := .seq ((items.toList.drop i).take (items.size - (n - 1))).toArray }, toks := tk }) : wpAny (model prog w) A (unpackItems (.ref t) n (some i)) Q E s := by
  have hlt : t ≠ s.heap.objs.size := by obtain ⟨o, ho, _⟩ := ht; exact Nat.ne_of_lt (Heap.lt_size ho)
  unfold unpackItems
  refine wpAny_bind ?_
  unfold notIterableAtAll
  refine wpAny_bind (wpAny_specialOf ht.typeIs slot_tuple_iter.lookup ?_)
  refine wpAny_pure ?_
  simp only [Bool.false_eq_true, if_false]
  refine wpAny_bind (wpAny_holding (iter_tuple ht ?_))
  refine wpAny_bind (wpAny_holding (draw_tuple hlt i 0 _ _ ⟨_, Heap.get?_push_size _ rfl, rfl, rfl⟩ (ht.push _) (by omega) fun h₁ hit₁ hs₁ => ?_))
  have hall : List.take i (List.drop 0 items.toList) = items.toList.take i := by rw [List.drop_zero]
  rw [hall]
  rw [if_neg (by simp; omega)]
  have ht₁ : PyProof.Rows.IsTup h₁ t items := (ht.push _).extBut hs₁.extBut hlt
  have W := ((Walks.tuple (prog := prog) (w := w) (A := A.in1) hh s.heap.objs.size t hlt items).shift i (by omega)).toS
  have hst : (fun (j : Nat) (s' : Shared) => s'.heap.IsTupleIter s.heap.objs.size t (i + j) ∧ s'.heap.IsTuple t items) 0 { s with heap := h₁ } := ⟨by have h0 := hit₁; rw [Nat.zero_add] at h0; exact h0, ht₁⟩
  have hsz1 : h₁.objs.size = s.heap.objs.size + 1 := by rw [hs₁.1, Heap.size_push]
  refine wpAny_bind (wpAny_holding (wpAny_collect_iter (s := { s with heap := h₁ }) (.inr (.inr (.inr rfl))) W (fun j s' st => let ⟨o, ho, hc, _⟩ := st.1; ⟨o, ho, hc⟩) hst (fun b hb => ?_) (by simp) (fun s' acc hm hacc => ?_) (by omega)))
  · have e' : b = s.heap.objs.size ∨ b = t := by simpa using hb
    show b < h₁.objs.size
    rw [hsz1]
    rcases e' with rfl | rfl
    · exact Nat.lt_succ_self _
    · obtain ⟨o, ho, _⟩ := ht
      exact Nat.lt_succ_of_lt (Heap.lt_size ho)
  · have hl := items_acc hacc
    rw [hl]
    have hlen : (items.toList.drop i).length = items.size - i := by simp
    rw [hlen, if_neg (by omega)]
    refine wpAny_bind (wpAny_newList ?_ (by simp; omega))
    refine wpAny_pure ?_
    have e1 : items.size - i - (n - 1 - i) = items.size - (n - 1) := by omega
    have e2 : List.drop (items.size - i - (n - 1 - i)) (List.drop i items.toList) = items.toList.drop (items.size - (n - 1 - i)) := by
      rw [List.drop_drop]; congr 1; omega
    rw [e2, e1]
    obtain ⟨hh1, hg, hdr, ho, _⟩ := hm
    obtain ⟨hp', g', d', tk', os'⟩ := s'
    simp only at hg hdr ho
    subst hg hdr ho
    refine hQ _ tk' fun b o e => ?_
    have hb : b ≠ s.heap.objs.size := Nat.ne_of_lt (Heap.lt_size e)
    exact hh1 b o (by simpa using hb) (hs₁.extBut b o hb (Heap.get?_push_of_some _ e))
theorem unpack_star {t : Addr} {items : Array Value} {targets : List (Bool × (Value → Sem Unit))} {n i : Nat} {Q : Unit → Shared → Prop} (hh : A.handled = none) (ht : PyProof.Rows.IsTup s.heap t items) (hn : targets.length = n) (hstar : targets.findIdx? (·.1) = some i) (hi : i < n) (hn' : n ≤ items.size + 1) (hsz : items.size ≤ sizeLine)
    (h : ∀ (h' : Heap) (tk : Nat), (∀ b o, s.heap.get? b = some o → h'.get? b = some o) →
      wpAny (model prog w) A (assignInOrder (targets.map (·.2)) (items.toList.take i ++ [.ref h'.objs.size] ++ items.toList.drop (items.size - (n - 1 - i)))) Q E { s with heap := h'.push { cls := .type "list", data := .seq ((items.toList.drop i).take (items.size - (n - 1))).toArray }, toks := tk }) :
    wpAny (model prog w) A (unpack (.ref t) targets) Q E s := by
  unfold unpack
  rw [hn, hstar]
  exact wpAny_bind (wpAny_holding (unpackItems_star hh ht hi hn' hsz h))
end
end PySem
namespace L2
open PySem PySem.Spec PyProof.Rows
/-- (a, *b, c) = a tuple: n targets, the i-th has the star -/
def gStar (K : PySem.W.Frag) (n i : Nat) (t : TGs) : TG := fun v σ H Q => ∃ a xs, v = .ref a ∧ SqT K H a xs ∧ i < n ∧ n ≤ xs.length + 1 ∧
  ∀ q, H q = none → t (xs.take i ++ [.ref q] ++ xs.drop (xs.length - (n - 1 - i))) σ (upd H q (.lst ((xs.drop i).take (xs.length - (n - 1))))) Q
theorem pg_star {X : Cx} {es : List Expr} {k : Nat} {t : TGs} {n i : Nat} {pos : Pos} (hc : X.calm = true) (h : PGs X es t)
    (hn : (assignEach es X.env).length = n := by rfl) (hst : (assignEach es X.env).findIdx? (·.1) = some i := by rfl) : PG X (.Tuple es k pos) (gStar X.K n i t) := by
  refine ⟨fun pins s σ H v u Q I r hw => ?_⟩
  obtain ⟨a, xs, e1, hq, hi, hl, hw⟩ := hw
  subst e1
  cases r
  obtain ⟨its, rv, ht, hz⟩ := I.tuple hq
  have hlen := rv.length
  rw [assign_Tuple]
  refine wpAny_bind (wpAny_standAt (PySem.unpack_star (n := n) (i := i) (I.ok.hd hc) ht hn hst hi (by simp; omega) (by rw [List.size_toArray, ← hlen]; exact hz) fun h' tk hx => ?_))
  have I1 : Inv X pins σ H { s with heap := h' } := I.kept (t' := s.toks) hx
  have hf : H h'.objs.size = none := I1.hok.fresh (Nat.le_refl _)
  have rm : Vals ((xs.drop i).take (xs.length - (n - 1))) ((its.drop i).take (its.length - (n - 1))) := by rw [hlen]; exact (rv.drop i).take _
  have hz2 : ((xs.drop i).take (xs.length - (n - 1))).length ≤ sizeLine := Nat.le_trans (by simp; omega) hz
  have e1 : its.toArray.toList = its := by simp
  have e2 : its.toArray.size = its.length := by simp
  rw [e1, e2]
  have I2 : Inv X pins σ (upd H h'.objs.size (.lst ((xs.drop i).take (xs.length - (n - 1))))) { s with heap := h'.push { cls := .type "list", data := .seq ((its.drop i).take (its.length - (n - 1))).toArray }, toks := tk } :=
    I1.laid (t' := tk) (fun b u e => Heap.get?_push_of_some _ e) (Nat.le_refl _) ⟨hz2, _, 0, rm, Heap.get?_push_size _ rfl⟩
  have rv2 : Vals (xs.take i ++ [.ref h'.objs.size] ++ xs.drop (xs.length - (n - 1 - i))) (its.take i ++ [.ref h'.objs.size] ++ its.drop (its.length - (n - 1 - i))) := by
    rw [hlen]
    have r1 : Vals [V.ref h'.objs.size] [Value.ref h'.objs.size] := .cons rfl .nil
    exact ((rv.take i).append r1).append (rv.drop _)
  exact h.run pins _ σ _ _ _ Q I2 rv2 (hw _ hf)
end L2
namespace L2
open PySem PySem.Spec PyProof.Rows
theorem pgs_consS {X : Cx} {e : Expr} {es : List Expr} {t : TG} {u : TGs} {p : Pos} (h1 : PG X e t) (h2 : PGs X es u)
    (hs : (assignEach (.Starred e p :: es) X.env).map (·.2) = assign e X.env :: (assignEach es X.env).map (·.2) := by rfl) : PGs X (.Starred e p :: es) (gCons t u) := by
  refine ⟨fun pins s σ H vs us Q I r h => ?_⟩
  obtain ⟨v, vr, e1, h⟩ := h
  subst e1
  cases r with
  | cons r rr =>
    rw [hs]
    refine assignInOrder_cons (thn (h1.run pins s σ H _ _ _ I r h) fun _ s1 ⟨σ1, H1, I1, q1⟩ => ?_)
    exact h2.run pins s1 σ1 H1 _ _ Q I1 rr q1
end L2
namespace DL
open PySem PySem.Spec PyProof.Rows L2
section
variable {X : Cx} {env : DEnv} {C : CS} {pos p : Pos} {K : PySem.W.Frag} {G : Hp}
theorem datAll_take' : ∀ {vs : List V} {ds : List D} (n : Nat), DatAll K G vs ds → DatAll K G (vs.take n) (ds.take n)
  | _, _, 0, _ => by rw [List.take_zero, List.take_zero]; exact .nil
  | _, _, n + 1, .nil => .nil
  | _, _, n + 1, .cons a r => .cons a (datAll_take' n r)
theorem datAll_drop' : ∀ {vs : List V} {ds : List D} (n : Nat), DatAll K G vs ds → DatAll K G (vs.drop n) (ds.drop n)
  | _, _, 0, r => r
  | _, _, n + 1, .nil => .nil
  | _, _, n + 1, .cons a r => datAll_drop' n r
theorem wgs_consS {t : Expr} {ts : List Expr} {d : D} {ds : List D} {kE : DEnv → CS → Prop} (h : WG X t d env C fun env1 C1 => WGs X ts ds env1 C1 kE) (hs : (assignEach (.Starred t p :: ts) X.env).map (·.2) = assign t X.env :: (assignEach ts X.env).map (·.2) := by rfl) : WGs X (.Starred t p :: ts) (d :: ds) env C kE := fun G σ H vs Q w er r q pins s us I ru => by
  cases r with
  | @cons v vr _ _ r1 r2 =>
    refine (pgs_consS (X := X) pg_tGt pgs_tGts hs).run pins s σ H (v :: vr) us Q I ru ⟨v, vr, rfl, ?_⟩
    exact h G σ H v _ w er r1 fun G1 C1 H1 σ1 env1 f1 w1 er1 h1 => h1 G1 σ1 H1 vr Q w1 er1 (r2.mono f1.exG) (q.after f1)
/-- (a, *b, c) = a tuple; b is a new list -/
theorem wg_tupS {ts : List Expr} {n m i : Nat} {ds : List D} {kE : DEnv → CS → Prop} (hc : X.calm = true) (hm : (assignEach ts X.env).length = m) (hst : (assignEach ts X.env).findIdx? (·.1) = some i) (hi : i < m) (hl : m ≤ ds.length + 1)
    (h : ∀ q, C q = none → WGs X ts (ds.take i ++ [.own q] ++ ds.drop (ds.length - (m - 1 - i))) env (put C q (.lst ((ds.drop i).take (ds.length - (m - 1))))) kE) : WG X (.Tuple ts n pos) (.tup ds) env C kE :=
  .of (pg_star hc pgs_tGts hm hst) fun G σ H v Q w er r q => by
    cases r with
    | tup h1 h2 =>
      have hlen := h2.length
      refine ⟨_, _, rfl, Same.sqT w.ex h1, hi, by rw [hlen]; exact hl, fun a ha => ?_⟩
      rw [hlen]
      obtain ⟨w3, f3⟩ := w.newC ha (o := .lst _) (c := .lst ((ds.drop i).take (ds.length - (m - 1)))) fun H' e => ⟨_, e, datAll_take' _ (datAll_drop' i h2)⟩
      have r1 : DatAll X.K G [V.ref a] [D.own a] := .cons (.own a) .nil
      have h2' := h2.mono f3.exG
      exact h a (w.ne ha).2 G σ _ _ Q w3 (er.mono f3.exG) (((datAll_take' i h2').append r1).append (datAll_drop' _ h2')) (q.after f3)
/-- f(.., *e, ..), (.., *e, ..) -/
theorem wa_star {e : Expr} {es : List Expr} {ka : List D → CS → Prop} (h : WE X e env C fun d C1 => ∃ xs, seqA C1 d = some xs ∧ WA X es env C1 fun ds C2 => ka (xs ++ ds) C2) (hs : starEach (.Starred e p :: es) X.env = (true, eval e X.env) :: starEach es X.env := by rfl) : WA X (.Starred e p :: es) env C ka :=
  .of (StX.pa_star pe_tS pa_tAr hs) fun G σ H Q w er q => h G σ H _ w er fun v G1 C1 H1 x f1 w1 d1 hb => by
    obtain ⟨ds0, hsq, hb⟩ := hb
    obtain ⟨a, vs0, rfl, h1, h2⟩ := w1.seqA d1 hsq
    exact ⟨a, vs0, rfl, h1.symm, hb G1 σ H1 _ w1 (er.mono f1.exG) fun vs G2 C2 H2 ds f2 w2 d2 hp => q (vs0 ++ vs) G2 C2 H2 (ds0 ++ ds) (f1.trans f2) w2 ((h2.mono f2.exG).append d2) hp⟩
end
end DL
/-! DLz: f-strings and split by data. -/
namespace DL
open PySem PySem.Spec PyProof.Rows L2
section
variable {X : Cx} {env : DEnv} {C : CS} {k : KD} {pos p apos cpos : Pos} {K : PySem.W.Frag} {e o : Expr} {es : List Expr}
/-- {e} -/
theorem x_fmt (h : WE X e env C fun d C1 => (∃ y, d = .str y ∧ y.length ≤ sizeLine ∧ k (.str y) C1) ∨ ∃ i : Int, d = .int i ∧ i.natAbs.log2 < 1920 ∧ k (.str (toString i)) C1) : WE X (.FormattedValue e (-1) none pos) env C k :=
  .of (pe_fmt pe_tS) fun G σ H Q w er q => h G σ H _ w er fun v G1 C1 H1 d f1 w1 r1 z => by
    rcases z with ⟨y, rfl, hl, hk⟩ | ⟨i, rfl, hl, hk⟩
    · cases r1; exact .inl ⟨y, rfl, hl, q _ _ _ _ _ f1 w1 (.str y) hk⟩
    · cases r1; exact .inr ⟨i, rfl, hl, q _ _ _ _ _ f1 w1 (.str _) hk⟩
def WJs (X : Cx) : List Expr → Str → DEnv → CS → (Str → CS → Prop) → Prop
  | [], acc, _, C, k => k acc C
  | e :: es, acc, env, C, k => WE X e env C fun d C1 => ∃ y : Str, d = .str y ∧ (acc ++ y).length ≤ sizeLine ∧ WJs X es (acc ++ y) env C1 k
theorem pj_tS : ∀ es : List Expr, ∃ ts, PJ X es ts ∧ ∀ (acc : Str) (env : DEnv) (C : CS) (kj : Str → CS → Prop) (G : Hp) (σ : L2.St) (H : Hp) (Q : Str → Hp → Prop), WJs X es acc env C kj → Wld X.K G C H → EnvR X.K G env σ →
    (∀ G' C' H' y, Fr G C H G' C' H' → Wld X.K G' C' H' → kj y C' → Q y H') → tJs ts acc σ H Q
  | [] => ⟨[], .nil, fun acc env C kj G σ H Q h w er q => q G C H acc (Fr.refl ..) w h⟩
  | e :: es => by
    obtain ⟨ts, hp, hh⟩ := pj_tS es
    refine ⟨_ :: ts, .cons pe_tS hp, fun acc env C kj G σ H Q h w er q => ?_⟩
    refine h G σ H _ w er fun v G1 C1 H1 d f1 w1 r1 z => ?_
    obtain ⟨y, rfl, hl, z⟩ := z
    cases r1
    exact ⟨y, rfl, hl, hh (acc ++ y) env C1 kj G1 σ H1 Q z w1 (er.mono f1.exG) fun G2 C2 H2 y2 f2 w2 k2 => q G2 C2 H2 y2 (f1.trans f2) w2 k2⟩
/-- f".." of two or more parts -/
theorem x_joined {v1 v2 : Expr} {rest : List Expr} (h : WJs X (v1 :: v2 :: rest) Str.empty env C fun out C1 => k (.str out) C1) : WE X (.JoinedStr (v1 :: v2 :: rest) pos) env C k := by
  obtain ⟨ts, hp, hh⟩ := pj_tS (X := X) (v1 :: v2 :: rest)
  exact .of (pe_joined hp) fun G σ H Q w er q => hh _ _ _ _ G σ H _ h w er fun G1 C1 H1 y f1 w1 z => q _ _ _ _ _ f1 w1 (.str y) z
/-! ### split -/
def dSplit : D → List D → CS → KD → Prop := fun x ds C k => ∃ z y, x = .str z ∧ ds = [.str y] ∧ (y.length == 0) = false ∧ z.length + 2 ≤ sizeLine ∧ ∀ p, C p = none → k (.own p) (put C p (.lst ((Txt.split z y).map D.str)))
theorem rm_split : RMD K (fun x xs H Q => ∃ a b, x = .str a ∧ xs = [.str b] ∧ (b.length == 0) = false ∧ a.length + 2 ≤ sizeLine ∧ rNewStrs (Txt.split a b) H Q) dSplit := by
  rintro x a xs ds G C H k Q w da rs ⟨z, y, rfl, rfl, hb, hl, hk⟩ q
  cases da
  cases rs with
  | cons r1 r2 =>
    cases r2
    cases r1
    refine ⟨z, y, rfl, rfl, hb, hl, fun p hp => ?_⟩
    obtain ⟨w2, f2⟩ := w.newC hp (o := .lst ((Txt.split z y).map V.str)) (c := .lst ((Txt.split z y).map D.str)) fun H' e => ⟨_, e, datAll_strsI _⟩
    exact q _ _ _ _ _ f2 w2 (.own p) (hk p (w.ne hp).2)
theorem x_split (h : WE X o env C fun x C1 => tyD "str" C1 x ∧ WA X (e :: es) env C1 fun ds C2 => dSplit x ds C2 k) (hbase : attributeBase o "split" X.env (eval o X.env) = eval o X.env := by rfl)
    (hfew : ((backTo cpos (starEach (e :: es) X.env)).all (fun x => !x.1) && (backToKw cpos (keywordEach [] X.env)).all (fun x => x.1.isSome)
      && decide ((e :: es).length + ([] : List Keyword).length + (if ([] : List Keyword).isEmpty then 0 else 1) < 30)) = true := by rfl)
    (hline : (apos.endLine == cpos.line) = true := by rfl) (hs : starEach (e :: es) X.env = (false, eval e X.env) :: starEach es X.env := by rfl) (hplain : (backTo cpos (starEach es X.env)).any (·.1) = false := by rfl) :
    WE X (.Call (.Attribute o "split" apos) (e :: es) [] cpos) env C k :=
  we_bm PySem.F.plainAttrs_str PySem.F.slot_str_split PySem.F.type_str_split mt_split rm_split h hbase hfew hline hs hplain
/-! ### short answers -/
theorem wjs_cons {acc : Str} {kj : Str → CS → Prop} (h : WE X e env C fun d C1 => ∃ y : Str, d = .str y ∧ (acc ++ y).length ≤ sizeLine ∧ WJs X es (acc ++ y) env C1 kj) : WJs X (e :: es) acc env C kj := h
theorem wjs_nil {acc : Str} {kj : Str → CS → Prop} (h : kj acc C) : WJs X [] acc env C kj := h
end
end DL
/-! DMa: extend; classmethods; a class in a local name; cells that stay. -/
namespace DL
open PySem PySem.Spec PyProof.Rows L2
section
variable {X : Cx} {env : DEnv} {C : CS} {k : KD} {pos p apos cpos : Pos} {K : PySem.W.Frag} {e o : Expr} {es : List Expr}
/-! ### extend -/
def dExtend : D → List D → CS → KD → Prop := fun x ds C k => ∃ a xs y zs, x = .own a ∧ ds = [y] ∧ C a = some (.lst xs) ∧ seqL C y = some zs ∧ xs.length + zs.length ≤ sizeLine ∧ k .non (put C a (.lst (xs ++ zs)))
theorem rm_extend : RMD K rExtend dExtend := by
  rintro x a xs ds G C H k Q w r rs ⟨p, ys, y, zs, rfl, rfl, hp, hy, hl, hk⟩ q
  cases r
  cases rs with
  | cons r1 r2 =>
    cases r2
    obtain ⟨_, vs, h1, h2⟩ := w.cell p _ hp
    obtain ⟨b, us, rfl, h3, h4⟩ := w.lst r1 hy
    refine ⟨p, b, vs, us, rfl, rfl, h1, h3, by rw [h2.length, h4.length]; exact hl, ?_⟩
    obtain ⟨w2, f2⟩ := w.write hp (o := .lst (vs ++ us)) (c' := .lst (ys ++ zs)) fun H' e => ⟨_, e, h2.append h4⟩
    exact q _ _ _ _ _ f2 w2 .non hk
theorem x_extend (h : WE X o env C fun x C1 => tyD "list" C1 x ∧ WA X (e :: es) env C1 fun ds C2 => dExtend x ds C2 k) (hbase : attributeBase o "extend" X.env (eval o X.env) = eval o X.env := by rfl)
    (hfew : ((backTo cpos (starEach (e :: es) X.env)).all (fun x => !x.1) && (backToKw cpos (keywordEach [] X.env)).all (fun x => x.1.isSome)
      && decide ((e :: es).length + ([] : List Keyword).length + (if ([] : List Keyword).isEmpty then 0 else 1) < 30)) = true := by rfl)
    (hline : (apos.endLine == cpos.line) = true := by rfl) (hs : starEach (e :: es) X.env = (false, eval e X.env) :: starEach es X.env := by rfl) (hplain : (backTo cpos (starEach es X.env)).any (·.1) = false := by rfl) :
    WE X (.Call (.Attribute o "extend" apos) (e :: es) [] cpos) env C k :=
  we_bm PySem.F.plainAttrs_list PySem.F.slot_list_extend PySem.F.type_list_extend mt_extend rm_extend h hbase hfew hline hs hplain
end
/-! ### classmethods -/
section
variable {X : Cx} {CT : CXT} {n : Nat} {fa Ca pa : Addr} {mc : Value} {fd : FuncData} {ps : List Str} {sp : Sp} {E : XK} {x m : Str} {p pos apos : Pos} {e o : Expr} {es : List Expr} {ta : TE} {t : TA} {dvs : List V} {ds : List Value}
end
section
variable {P : Program} {w : World} {K : PySem.W.Frag} {mg : Str → Option Value} {base : Heap} {j n : Nat} {X : Cx} {Cl : Addr} {m f x : Str} {S : DSp} {dfl : List D} {e o v : Expr} {es : List Expr} {env : DEnv} {C : CS} {k : KD} {pos p apos pos' : Pos} {E : DEnds}
end
/-! ### cells that stay: all but bs -/
def Fx (bs : List Addr) (C C' : CS) : Prop := ∀ q, q ∉ bs → C q ≠ none → C' q = C q
theorem Fx.refl {bs : List Addr} (C : CS) : Fx bs C C := fun _ _ _ => rfl
theorem Fx.trans {bs : List Addr} {C C1 C2 : CS} (h1 : Fx bs C C1) (h2 : Fx bs C1 C2) : Fx bs C C2 := fun q a b => by
  have e := h1 q a b
  rw [h2 q a (by rw [e]; exact b), e]
theorem Fx.mono {bs cs : List Addr} {C C1 : CS} (h : Fx bs C C1) (hs : ∀ q, q ∈ bs → q ∈ cs) : Fx cs C C1 := fun q a b => h q (fun z => a (hs q z)) b
theorem Fx.put {bs : List Addr} {C C1 : CS} {a : Addr} {c : Cell} (h : Fx bs C C1) (ha : a ∈ bs ∨ C a = none) : Fx bs C (DL.put C1 a c) := fun q x y => by
  by_cases e : q = a
  · subst e
    rcases ha with ha | ha
    · exact absurd ha x
    · exact absurd ha y
  · rw [put_ne e]; exact h q x y
theorem Fx.at {bs : List Addr} {C C1 : CS} {a : Addr} {c : Cell} (h : Fx bs C C1) (ha : a ∉ bs) (e : C a = some c) : C1 a = some c := by rw [h a ha (by rw [e]; simp)]; exact e
theorem Fx.new {bs : List Addr} {a : Addr} {C C1 C2 : CS} (h2 : Fx (a :: bs) C1 C2) (h : Fx bs C C1) (ha : C a = none) : Fx bs C C2 := fun q x y => by
  have hq : q ≠ a := fun e => y (e ▸ ha)
  have e := h q x y
  rw [h2 q (by simp [hq, x]) (by rw [e]; exact y), e]
theorem Fx.del {bs : List Addr} {C C1 : CS} {a : Addr} (h : Fx bs C C1) (ha : a ∈ bs ∨ C a = none) : Fx bs C (DL.del C1 a) := fun q x y => by
  by_cases e : q = a
  · subst e
    rcases ha with ha | ha
    · exact absurd ha x
    · exact absurd ha y
  · rw [del_ne e]; exact h q x y
end DL
/-! DMb: a place where a walk stops. -/
namespace DL
open PySem PySem.Spec PyProof.Rows L2
/-- what follows, not looked into -/
def WSh (X : Cx) (sts : List Stmt) (env : DEnv) (C : CS) (E : DEnds) : Prop := WSs X sts env C E
theorem wss_consH {X : Cx} {st : Stmt} {rest : List Stmt} {env : DEnv} {C : CS} {E : DEnds} (h : WS X st env C { E with nx := fun env' C' => WSh X rest env' C' E }) : WSs X (st :: rest) env C E := wss_cons h
theorem wsh_go {X : Cx} {sts : List Stmt} {env : DEnv} {C : CS} {E : DEnds} (h : WSs X sts env C E) : WSh X sts env C E := h
section
variable {C : CS} {k : KD} {a b : Addr} {xs ys : List D} {n m : Nat}
theorem ne_ol (ha : C a = some (.lst xs)) (hx : ∀ d ∈ xs, d.fit n = true) (hy : ∀ d ∈ ys, d.fit m = true) (hn : n < 64) (hm : m < 64) (q : k (.bl (!eqL xs ys)) C) : dEq true (.own a) (.lst ys) C k := by
  refine .inl ⟨_, .list (pyL ys), pyC_own ha hx, ?_, shaped_lst hx hn, shaped_lst hy hm, q⟩
  unfold pyC
  simp only [D.isPy, fitL_py ys (fitL_all.mpr hy), if_true, D.py]
end
end DL
/-! DMc: own ==; x or y by truth; methods with keywords. -/
namespace L2
open PySem PySem.Spec PyProof.Rows
section
variable {X : Cx} {CT : CXT} {n : Nat} {fa Ca : Addr} {fd : FuncData} {ps : List Str} {sp : Sp} {E : XK} {dvs : List V} {ds : List Value}
end
end L2
namespace DL
open PySem PySem.Spec PyProof.Rows L2
section
variable {P : Program} {w : World} {K : PySem.W.Frag} {mg : Str → Option Value} {base : Heap} {j n : Nat} {X : Cx} {Cl : Addr} {S : DSp} {dfl : List D} {a b : Expr} {env : DEnv} {C : CS} {k : KD} {kb : Bool → CS → Prop} {pos : Pos}
end
/-! ### x or y, by truth: None, ints -/
section
variable {X : Cx} {a b : Expr} {rest : List Expr} {env : DEnv} {C : CS} {k : KD} {pos : Pos} {K : PySem.W.Frag}
def truD : D → Option Bool
  | .non => some false
  | .bl b => some b
  | .int i => some (!(i == 0))
  | _ => none
theorem truD_ok {G H : Hp} {v : V} {d : D} {t : Bool} (r : Dat K G v d) (e : truD d = some t) : TruV K v H t := by
  cases r <;> simp [truD] at e
  · exact e
  · exact e.symm
  · rename_i i
    show t = !(i == 0)
    rw [e, Bool.not_not]
end
end DL
/-! DMd: methods and makings with keywords. -/
namespace DL
open PySem PySem.Spec PyProof.Rows L2
section
variable {X : Cx} {CT : CXT} {n np : Nat} {fa Ca : Addr} {fd : FuncData} {ps ks : List Str} {sp : Sp} {E : XK} {x m : Str} {p pos apos kpos : Pos} {e o : Expr} {es : List Expr} {kws : List Keyword} {ta te : TE} {t tk : TA} {g : List Value → List Value → List Value} {gV : List V → List V → List V} {nm : Option Str}
/-- the widest reading of keywords -/
def tKr (X : Cx) (kws : List Keyword) : TA := fun σ H Q => ∀ (pos : Pos) pins s, Inv X pins σ H s → wpAny (model X.prog X.w) X.A (evalAll ((backToKw pos (keywordEach kws X.env)).map (·.2))) (AP X pins σ Q) X.xe s
def WK (X : Cx) (kws : List Keyword) (env : DEnv) (C : CS) (ka : List D → CS → Prop) : Prop := EvA X.K (tKr X kws) env C ka
theorem WK.of {te : TA} {env : DEnv} {C : CS} {ka : List D → CS → Prop} (h : PK X kws te) (hv : EvA X.K te env C ka) : WK X kws env C ka := fun G σ H Q w er q pos pins s I => h.run pos pins s σ H Q I (hv G σ H Q w er q)
end
section
variable {P : Program} {w : World} {K : PySem.W.Frag} {mg : Str → Option Value} {base : Heap} {j n np : Nat} {X : Cx} {Cl : Addr} {m f x : Str} {S : DSp} {gD : List D → List D → List D} {ks : List Str} {e o v : Expr} {es : List Expr} {kws : List Keyword} {env : DEnv} {C : CS} {k : KD} {pos p apos pos' : Pos} {E : DEnds}
end
end DL
/-! DMe: != of instances with an own == and no own !=. -/
namespace L2
open PySem PySem.Spec PyProof.Rows
section
variable {prog : Program} {w : World} {A A₀ : Around} {E : Value → Shared → Prop} {s : Shared} {K : PySem.W.Frag} {x C L f : Addr} {h₀ : Heap} {m : Str → Option Value} {ox : Obj} {od : Option Obj} {name : Str} {b tb : Value}
end
end L2
namespace L2
open PySem PySem.Spec PyProof.Rows
section
variable {X : Cx} {CT : CXT} {n : Nat} {fa Ca : Addr} {fd : FuncData} {ps : List Str} {sp : Sp} {E : XK} {dvs : List V} {ds : List Value}
end
end L2
namespace DL
open PySem PySem.Spec PyProof.Rows L2
section
variable {P : Program} {w : World} {K : PySem.W.Frag} {mg : Str → Option Value} {base : Heap} {j n : Nat} {X : Cx} {Cl : Addr} {S : DSp} {dfl : List D} {a b : Expr} {env : DEnv} {C : CS} {k : KD} {kb : Bool → CS → Prop} {pos : Pos}
end
end DL
/-! DMf: for k, v in d.items(): the cell d stands away in the loop. -/
namespace DL
open PySem PySem.Spec PyProof.Rows L2
section
variable {K : PySem.W.Frag} {G G2 H H2 : Hp} {C C2 : CS} {p : Addr} {od : Obj} {kvs : List (Key × D)} {kw : List (Key × V)}
theorem Wld.lock (w : Wld K G C H) (hp : C p = some (.dic kvs)) (o : HO) : Wld K G (del C p) (upd H p o) := by
  obtain ⟨g, _⟩ := w.cell p _ hp
  refine ⟨fun b u q => ?_, fun b c q => ?_, w.nt⟩
  · have ne : b ≠ p := ne_of_none q g
    rw [upd_ne ne]; exact w.ex b u q
  · have ne : b ≠ p := fun z => by subst z; rw [del_same] at q; cases q
    rw [del_ne ne] at q
    obtain ⟨h1, h2⟩ := w.cell b c q
    exact ⟨h1, h2.mono (fun _ _ h => h) (upd_ne ne)⟩
theorem Wld.unlock {o : HO} (w : Wld K G C H) (hp : C p = some (.dic kvs)) (e1 : kw.map (·.1) = kvs.map (·.1)) (e2 : DatAll K G (kw.map (·.2)) (kvs.map (·.2))) (f : Fr G (del C p) (upd H p o) G2 C2 H2) (w2 : Wld K G2 C2 H2) :
    Wld K G2 (put C2 p (.dic kvs)) (upd H2 p (.dK kw)) ∧ Fr G C H G2 (put C2 p (.dic kvs)) (upd H2 p (.dK kw)) := by
  obtain ⟨g, _⟩ := w.cell p _ hp
  have hHp : upd H p o p ≠ none := by rw [upd_same]; simp
  have g2 : G2 p = none := by
    cases q : G2 p with
    | none => rfl
    | some u =>
      rcases f.newG p hHp (by rw [q]; simp) with z | z
      · exact absurd g z
      · exact absurd del_same z
  refine ⟨⟨fun b u q => ?_, fun b c q => ?_, w2.nt⟩, ⟨f.exG, fun b u q n nt => ?_, fun b q => ?_, fun b q n => ?_, fun b q n => ?_⟩⟩
  · have ne : b ≠ p := ne_of_none q g2
    rw [upd_ne ne]; exact w2.ex b u q
  · by_cases z : b = p
    · subst z
      rw [put_same] at q
      cases q
      exact ⟨g2, kw, upd_same, e1, e2.mono f.exG⟩
    · rw [put_ne z] at q
      obtain ⟨h1, h2⟩ := w2.cell b c q
      exact ⟨h1, h2.mono (fun _ _ h => h) (upd_ne z)⟩
  · have ne : b ≠ p := fun z => by subst z; rw [hp] at n; cases n
    rw [upd_ne ne]
    exact f.keep b u (by rw [upd_ne ne]; exact q) (by rw [del_ne ne]; exact n) nt
  · by_cases z : b = p
    · subst z; rw [upd_same]; simp
    · rw [upd_ne z]; exact f.dom b (by rw [upd_ne z]; exact q)
  · by_cases z : b = p
    · subst z; rw [hp]; simp
    · rw [put_ne z] at n
      have := f.newC b (by rw [upd_ne z]; exact q) n
      rwa [del_ne z] at this
  · by_cases z : b = p
    · subst z; right; rw [hp]; simp
    · rcases f.newG b (by rw [upd_ne z]; exact q) n with y | y
      · exact .inl y
      · rw [del_ne z] at y; exact .inr y
end
section
variable {P : Program} {w : World} {K : PySem.W.Frag} {mg : Str → Option Value} {base : Heap} {m : Nat} {X : Cx} {e : Expr} {elts : List Expr} {kk : Nat} {body : List Stmt} {env : DEnv} {C : CS} {E : DEnds} {p : Addr} {kvs : List (Key × D)} {tpos apos cpos pos : Pos}
end
end DL
/-! DMg: isinstance of an own class; displays of dicts with pairs. -/
namespace DL
open PySem PySem.Spec PyProof.Rows L2
section
variable {P : Program} {w : World} {K : PySem.W.Frag} {mg : Str → Option Value} {base : Heap} {m : Nat} {X : Cx} {Cl : Addr} {cn : Str} {e : Expr} {env : DEnv} {C : CS} {k : KD} {pos p p2 : Pos}
end
/-! ### {k: v, ..} -/
abbrev DD (K : PySem.W.Frag) (G : Hp) : List (V × V) → List (D × D) → Prop := Paired fun v d => Dat K G v.1 d.1 ∧ Dat K G v.2 d.2
section
variable {K : PySem.W.Frag} {X : Cx} {env : DEnv} {C : CS} {k : KD} {e v : Expr} {keys : List (Option Expr)} {values : List Expr} {pos : Pos} {kp : List (D × D) → CS → Prop}
theorem DD.mono {G G' : Hp} {vs : List (V × V)} {ds : List (D × D)} (s : Same G G') (r : DD K G vs ds) : DD K G' vs ds := by
  unfold DD at *
  induction r with
  | nil => exact .nil
  | cons a b ih => exact .cons ⟨a.1.mono s, a.2.mono s⟩ ih
end
end DL
/-! DMh: a limit or 0. -/
namespace DL
open PySem PySem.Spec PyProof.Rows L2
section
variable {X : Cx} {a : Expr} {env : DEnv} {C : CS} {k : KD} {z : Nat} {p1 p2 : Pos}
end
end DL
/-! DMi: own exception classes over any built-in one, with one field that their __init__ stores. -/
namespace DL
open PySem PySem.Spec PyProof.Rows L2
/-- x(..), x a class of its own straight below: an object with its args, then the own __init__ -/
def MkB (newId : String) (bm : List Value) : Prop :=
  ∀ {prog : Program} {w : World} {A : Around} {R : Result → Shared → Prop} {h : Heap} {g : Array GenState} {d : Drawn} {t : Nat} {os : OsState} {nm q : Str} {C N : Addr} {bs : List Value} {hdct : Bool} {sn : List Str} {sub : List Value} {ab : Bool}
    {col : Option Bool} {dd : Option Addr} {k0 k1 k2 k3 k5 : Option Value} {rest : List Value} {fI : Addr}, h.get? C = some (excClassObj nm q C N bs bm hdct sn sub ab col dd k0 k1 k2 k3 k5 newId) →
    PySem.W.Looks (model prog w) h (typeLookup (.ref C) "__init__") (some (.ref fI)) → (∀ self, PySem.W.Looks (model prog w) h (bindSpecial (.ref fI) self) (.ref fI, [self])) → rest.length ≤ sizeLine →
    codeAny (model prog w) (A.under (.builtin "type.__call__" ⟨.ref C :: rest, []⟩)) (.call (.ref fI) ⟨.ref (h.objs.size + 1) :: rest, []⟩) (PySem.W.InitBack (h.objs.size + 1) R) ⟨(h.push (PySem.W.kdv_tup rest)).push (PySem.HandSPX.excO C h.objs.size), g, d, t, os⟩ →
    codeAny (model prog w) A (.call (.ref C) ⟨rest, []⟩) R ⟨h, g, d, t, os⟩
/-- B.__init__(e, ..) -/
def InB (newId initId : String) (bm : List Value) : Prop :=
  ∀ {prog : Program} {w : World} {A : Around} {R : Result → Shared → Prop} {h : Heap} {g : Array GenState} {d : Drawn} {t : Nat} {os : OsState} {nm q : Str} {C N : Addr} {bs : List Value} {hdct : Bool} {sn : List Str} {sub : List Value} {ab : Bool}
    {col : Option Bool} {dd : Option Addr} {k0 k1 k2 k3 k5 : Option Value} {e t0 : Addr} {rest : List Value}, h.get? C = some (excClassObj nm q C N bs bm hdct sn sub ab col dd k0 k1 k2 k3 k5 newId) → h.get? e = some (PySem.HandSPX.excO C t0) → rest.length ≤ sizeLine →
    (∀ h' t1, (∀ b o, b ≠ e → h.get? b = some o → h'.get? b = some o) → h'.get? e = some (PySem.HandSPX.excO C t1) → R (.ok (.ret .none)) ⟨h', g, d, t, os⟩) →
    codeAny (model prog w) A (.call (.builtin initId) ⟨.ref e :: rest, []⟩) R ⟨h, g, d, t, os⟩
theorem mkB_of {B newId initId : String} {bm : List Value} (F : ExcBaseFacts B newId initId bm) : MkB newId bm := fun hC hi hb hr hq => PySem.HandSPX.call_own F (fun _ => rfl) hC hi hb hr hq
theorem inB_of {B newId initId : String} {bm : List Value} (F : ExcBaseFacts B newId initId bm) : InB newId initId bm := fun hC he hr hq => PySem.HandSPX.init_base F (fun _ => rfl) hC he hr hq
structure XB (B newId initId : String) (bm : List Value) : Prop where
  make : MkB newId bm
  ini : InB newId initId bm
  store : StoreFacts B bm "object.__setattr__" "object"
  typ : typeOf (.type B) = pure (.type "type")
theorem xb_ValueError : XB "ValueError" "ValueError.__new__" "ValueError.__init__" [.type "ValueError", .type "Exception", .type "BaseException", .type "object"] := ⟨mkB_of F.excBase_ValueError, inB_of F.excBase_ValueError, F.store_ValueError, by kernel_rfl⟩
/-- what the written part says of such a class: its own class object, straight below the built-in one -/
structure OxB (K : PySem.W.Frag) (newId : String) (bm : List Value) (C : Addr) : Prop where
  cls : ∃ nm q N bs sn sub ab col dd k0 k1 k2 k3 k5, K.lookup C = some (excClassObj nm q C N bs bm true sn sub ab col dd k0 k1 k2 k3 k5 newId)
  sa : PySem.W.findIn K (.ref C) "__setattr__" = some (some (.builtin "object.__setattr__"))
  exC : PySem.W.subIn K (.ref C) (.type "BaseException") = some true
  tyC : PySem.W.typeIn K (.ref C) = some (.type "type")
  kC : PySem.W.keepIn K (.ref C) = true
end DL
namespace PySem
namespace DLX
open PySem.W PySem.Calls PyProof.Rows PySem.HandSPX
section
open Builtin Builtin.ObjectAttr
variable {prog : Program} {w : World} {A : Around} {E : Value → Shared → Prop} {R : Result → Shared → Prop} {hp : Heap} {g : Array GenState} {d : Drawn} {t : Nat} {os : OsState}
/-- the first field of such an exception: it gets its dict -/
theorem osaB {K : W.Frag} {name : Str} {tk : Tok} {v : Value} {x C : Addr} {fv : Array Value} {cd : ClassData} {B : String} {bm : List Value} (SB : StoreFacts B bm "object.__setattr__" "object")
    (X : K.In hp) (hx : hp.get? x = some { cls := .ref C, data := .fields fv }) (hcd : W.clsIn K C = some cd) (hm : cd.mro = .ref C :: bm) (hh : cd.hasDict = true) (ha : W.findIn K (.ref C) name = some none)
    (hq : ∀ h' tk' dx, (∀ b o, b ≠ x → hp.get? b = some o → h'.get? b = some o) → hp.objs.size ≤ dx → dx ≠ x → h'.get? x = some { cls := .ref C, dict := some dx, data := .fields fv } →
      h'.Ns1 dx (fun y => if y = name then some v else none) → R (.ok (.ret .none)) ⟨h', g, d, tk', os⟩) :
    codeAny (model prog w) A (.call (.builtin "object.__setattr__") ⟨[.ref x, .str name tk, v], []⟩) R ⟨hp, g, d, t, os⟩ := by
  have I : W.InstAt hp x { cls := .ref C, data := .fields fv } C none := ⟨hx, rfl, rfl, trivial⟩
  have hob : cd.mro.contains (.type "object") = true := by rw [hm, List.contains_cons, SB.hasOwner, Bool.or_true]
  have ne : cd.mro.isEmpty = false := by rw [hm]; rfl
  have hxs : x ≠ hp.objs.size := Nat.ne_of_lt (Heap.lt_size hx)
  have sub : W.Looks (model prog w) hp (isInstance (.ref x) (.type "object")) true := I.type.andThen (W.looks_mroIn X (by unfold W.mroIn; rw [hcd, Option.bind_some, if_neg (by rw [ne]; decide), hob]))
  refine codeAny_call_builtin SB.slot.plain SB.entry (@W.check_slot (model prog w) _ _ ⟨hp, g, d, t, os⟩ "object.__setattr__" "object" "__setattr__" (.ref x) [.str name tk, v] [] _ SB.kind SB.split sub (SB.args (.ref x) (.str name tk) v) ?_)
  have hmr : W.Looks (model prog w) hp (mroOf (.ref C)) cd.mro := (W.looks_clsIn X hcd).andThen .now
  have L3 : W.Looks (model prog w) hp (storeTaker? none) none := .now
  have hcls : W.Looks (model prog w) hp (classData C) cd := W.looks_clsIn X hcd
  have pass : refuseLoop (.ref x) "__setattr__" cd.mro = pure () := by rw [hm, refuseLoop_ref]; exact SB.passes _
  rw [W.osa_eq, refuse_eq]
  refine wpAny_bind (wpAny_bind (I.type.at (wpAny_bind (hmr.at ?_))))
  rw [pass]
  refine wpAny_pure (wpAny_bind (I.type.at (wpAny_bind ((W.looks_findIn X ha).at (wpAny_bind (L3.at ?_))))))
  show wpAny _ _ (storeInOwnDict (.ref x) (.ref C) (.str name tk) name v false) _ _ _
  clear pass hmr sub hob ne
  obtain ⟨nm, bs, mro, ns, qn, hd, sn, sb, ab, col, del⟩ := cd
  dsimp only at hh
  subst hh
  unfold storeInOwnDict ownDictForStores
  repeat (first | with_reducible refine store_in_new ?_ ?_ | with_reducible refine wpAny_loadPart_at hx ?_ | with_reducible refine hcls.at ?_ | wp_step)
  · exact ⟨_, #[], _, (Heap.get?_update_ne _ _ _ _ hxs.symm).trans (Heap.get?_push_at rfl rfl), rfl, fun e he => absurd he (by simp), fun _ => rfl⟩
  · intro h' tk' hn' hs
    have hx₁ : (hp.push { cls := .type "dict", data := .dict #[] }).get? x = some { cls := .ref C, data := .fields fv } := Heap.get?_push_of_some _ hx
    refine hq h' tk' hp.objs.size (fun b o hb ho => ?_) (Nat.le_refl _) hxs.symm ?_ hn'
    · exact (hs.2 b (Nat.ne_of_lt (Heap.lt_size ho))).trans ((Heap.get?_update_ne _ _ _ _ hb).trans (Heap.get?_push_of_some _ ho))
    · exact (hs.2 x hxs).trans (Heap.get?_update_self _ hx₁ rfl)
end
end DLX
end PySem
namespace DL
open PySem PySem.Spec PyProof.Rows L2
section
variable {X : Cx} {pins : List (Addr × Obj)} {σ : L2.St} {H : Hp} {s : Shared} {a C dx : Addr} {f : Str} {y : V} {u : Value} {E : Value → Shared → Prop} {A : Around} {B newId initId : String} {bm : List Value}
theorem ostB (S : XB B newId initId bm) (T : OxB X.K newId bm C) {Q : Unit → Shared → Prop} (I : Inv X pins σ H s) (e : H a = some (exo a C none)) (hno : PySem.W.findIn X.K (.ref C) f = some none) (ry : RelV y u)
    (h : ∀ dx s', H dx = none → dx ≠ a → Inv X pins σ (upd (upd H dx (exd dx [(f, y)])) a (exo a C (some dx))) s' → Q () s') : wpAny (model X.prog X.w) A (setAttr (.ref a) f u) Q E s := by
  obtain ⟨nm, q, N, bs, sn, sub, ab, col, dd, k0, k1, k2, k3, k5, hC⟩ := T.cls
  have hcl : PySem.W.clsIn X.K C = some { name := nm, bases := bs, mro := .ref C :: bm, ns := N, qualname := q, hasDict := true, slotNames := sn, subclasses := sub, abstract := ab, collection := col, hasDel := false } := by unfold PySem.W.clsIn; rw [hC] <;> rfl
  obtain ⟨t1, ho⟩ := exo_at I.hok e
  obtain ⟨hp, g, d, t, os⟩ := s
  refine PySem.W.set_plain I.kIn (ox := { cls := .ref C, dict := none, data := .fields #[.ref t1, .none, .none, .none, .bool false, .none] }) (od := none) ⟨ho, rfl, rfl, trivial⟩ T.sa ?_
  refine PySem.DLX.osaB S.store I.kIn ho hcl rfl rfl hno (fun h' tk' dx k dn dne hx hn => ?_)
  have hnd : H dx = none := I.hok.fresh dn
  have nd : ∀ {b : Addr} {o : Obj}, hp.get? b = some o → b ≠ dx := fun {b o} q => Nat.ne_of_lt (Nat.lt_of_lt_of_le (Heap.lt_size q) dn)
  have na : ∀ {b : Addr}, H b = none → b ≠ a := fun {b} n z => by
    rw [z, e] at n
    cases n
  have un : Un X.fs [] H (upd (upd H dx (exd dx [(f, y)])) a (exo a C (some dx))) hp h' := by
    refine ⟨fun b o q n _ _ => k b o (na n) q, fun b o q n _ _ => ⟨o.slots, k b o (na n) q⟩, fun b o q n _ => by rw [upd_ne (na n), upd_ne (nd q)]; exact n, fun b o q _ => ?_,
      fun b xs q => by rw [upd_ne (at_ne e q exo_tup), upd_ne (ne_of_none q hnd)]; exact q, fun b o v q => by rw [upd_ne (at_ne e q exo_frz), upd_ne (ne_of_none q hnd)]; exact q,
      fun b ps q => ⟨#[], by rw [upd_ne (at_ne e q exo_tbl), upd_ne (ne_of_none q hnd), q]; simp⟩⟩
    by_cases hb : b = a
    · exact ⟨_, by rw [hb]; exact hx⟩
    · exact ⟨o, k b o hb q⟩
  refine h dx _ hnd dne (I.un (t' := tk') un fun b o q => ?_)
  by_cases hb : b = a
  · subst hb
    rw [upd_same] at q
    cases q
    exact exo_ok hx
  · rw [upd_ne hb] at q
    by_cases hd : b = dx
    · subst hd
      rw [upd_same] at q
      cases q
      exact exd_ok hn (relO_put (fs := []) ry fun g => True.intro)
    · rw [upd_ne hd] at q
      exact (I.hok b o q).stay (fun c v hc z => k c v (by
          rcases hc with hc | hc
          · rw [hc]; exact hb
          · exact at_ne e hc exo_own) z)
        (fun c hc => by rw [upd_ne (at_ne e hc exo_own), upd_ne (ne_of_none hc hnd)]; exact hc) (fun c xs hc => by rw [upd_ne (at_ne e hc exo_tup), upd_ne (ne_of_none hc hnd)]; exact hc)
theorem oinB (S : XB B newId initId bm) (T : OxB X.K newId bm C) {us : List Value} {Q : Value → Shared → Prop} (I : Inv X pins σ H s) (e : H a = some (exo a C none)) (hl : us.length ≤ sizeLine) (h : ∀ s', Inv X pins σ H s' → Q .none s') :
    wpAny (model X.prog X.w) A (call (.builtin initId) (.ref a :: us)) Q E s := by
  obtain ⟨nm, q, N, bs, sn, sub, ab, col, dd, k0, k1, k2, k3, k5, hC⟩ := T.cls
  obtain ⟨t1, ho⟩ := exo_at I.hok e
  obtain ⟨hp, g, d, t, os⟩ := s
  refine wpAny_call (S.ini (I.kIn _ _ hC) ho hl fun h' t2 k hx => ?_)
  have J := I.write (t' := t) (x := a) (e := a) (o := exo a C none) (by rw [e]; exact True.intro) (.inl rfl) k ⟨_, hx⟩ (exo_ok hx)
  have eu : upd H a (exo a C none) = H := by
    funext b
    by_cases hb : b = a
    · rw [hb, upd_same, e]
    · rw [upd_ne hb]
  rw [eu] at J
  exact h _ J
end
/-- B.__init__(self, ..) -/
def tBI (K : PySem.W.Frag) (newId : String) (bm : List Value) (ta : TA) : TE := fun σ H Q => ta σ H fun vs H1 => ∃ (a C : Addr) (ws : List V), vs = .ref a :: ws ∧ ws.length ≤ 1000 ∧ OxB K newId bm C ∧ H1 a = some (exo a C none) ∧ Q .non H1
/-- self.f = e -/
def tOstB (K : PySem.W.Frag) (newId : String) (bm : List Value) (f : Str) (to te : TE) : TS := fun D σ H => te σ H fun y H1 => to σ H1 fun x H2 => ∃ a C : Addr, x = .ref a ∧ OxB K newId bm C ∧ PySem.W.findIn K (.ref C) f = some none ∧
  H2 a = some (exo a C none) ∧ ∀ dx, H2 dx = none → dx ≠ a → D.nx σ (upd (upd H2 dx (exd dx [(f, y)])) a (exo a C (some dx)))
section
variable {X : Cx} {o e : Expr} {es : List Expr} {to te : TE} {ta : TA} {f bn : Str} {p p' p1 p2 pos : Pos} {B newId initId : String} {bm : List Value}
theorem pe_bI {pl : Sem Bool} (S : XB B newId initId bm) (hg : Gl X bn) (hm : X.mg bn = none) (hbt : bootBuiltins bn = some (.type B)) (vV : PySem.W.findCls X.K (.type B) (.type "type") "__init__" = some (.val (.builtin initId))) (ha : PA X (e :: es) ta) (hd1 : bn ≠ "__name__") (hd2 : (bn == ("__debug__" : Str)) = false)
    (hs : Manifest.isStub B = false) (hh : PySem.W.handedIn (.builtin initId) = true)
    (hc : eval (.Call (.Attribute (.Name bn p1) "__init__" p2) (e :: es) [] pos) X.env = (do
      let ov ← eval (.Name bn p1) X.env
      standAt p2.atName
      let (f, first) ← holding [ov] (getMethod ov "__init__" pl)
      callWith pos f first (backTo pos (starEach (e :: es) X.env)) (backToKw pos (keywordEach [] X.env))) := by rfl)
    (he : starEach (e :: es) X.env = (false, eval e X.env) :: starEach es X.env := by rfl) (hpl : (backTo pos (starEach es X.env)).any (·.1) = false := by rfl) :
    PE X (.Call (.Attribute (.Name bn p1) "__init__" p2) (e :: es) [] pos) (tBI X.K newId bm ta) := by
  refine ⟨fun pins s σ H Q I h => ?_⟩
  refine PySem.W.methodCall_KW (ld_blt I hg hm hbt ?_ hd1 hd2) hc
  obtain ⟨m, fr⟩ := I.fr
  refine PySem.W.method_type fr I.ok.mod.kin S.typ hs vV hh ?_
  refine PyProof.Rows.callWith_method1 (thn (ha.run pos pins _ σ H _ (I.tok _) h) fun us s1 ⟨vs, H1, I1, r1, a, C, ws, ev, hl, T, ea, q⟩ => ?_) he hpl
  subst ev
  cases r1 with
  | @cons _ u0 _ ur ra rw' =>
    obtain rfl : u0 = Value.ref a := ra
    have hlen : ur.length ≤ sizeLine := by
      rw [← Paired.length rw', sizeLine_eq]
      omega
    exact oinB S T I1 ea hlen fun s' J => ⟨.non, H1, J, rfl, q⟩
theorem ps_ostB (S : XB B newId initId bm) (ho : PE X o to) (he : PE X e te) (hs : swapsWith e (some (.Attribute o f p')) pos.line X.env = pure false := by rfl) : PS X (.Assign [.Attribute o f p'] e pos) (tOstB X.K newId bm f to te) := by
  refine ⟨fun pins s σ H D I h => ?_⟩
  refine plainObj_wpAny_Assign_Attribute (thn (he.run pins s σ H _ I h) fun v s1 ⟨y, H1, I1, r1, q1⟩ => thn (ho.run pins s1 σ H1 _ I1 q1) fun u s2 ⟨x, H2, I2, r2, a, C, ex, T, hno, ea, q⟩ => ?_) hs
  subst ex
  obtain rfl : u = Value.ref a := r2
  exact ostB S T I2 ea hno r1 fun dx s' n ne J => ⟨σ, _, J, q dx n ne⟩
/-- C(e, ..), by its own __init__ -/
theorem pmk_oxB {CX : CXT} {x : Str} {C fI : Addr} {k : Nat} {fd : FuncData} {ps : List Str} {sp : Sp} {ds : List Value} {dvs : List V} (S : XB B newId initId bm) (T : OxB X.K newId bm C) (iC : PySem.W.findIn X.K (.ref C) "__init__" = some (some (.ref fI))) (tI : PySem.W.typeIn X.K (.ref fI) = some (.type "function"))
    (F1 : FnOk X.prog X.w X.K X.mg X.base CX k fI fd ps sp) (hr : Room (k + 1) X.A) (hb : Binds X.K fd ps ds) (hd : Vals dvs ds) (hx : Passes CX X (fun _ _ _ => False)) (hg : Gl X x) (hm : X.mg x = some (.ref C)) (ha : PA X (e :: es) ta)
    (hdb : (x == ("__debug__" : Str)) = false := by decide) (he : starEach (e :: es) X.env = (false, eval e X.env) :: starEach es X.env := by rfl) (hpl : (backTo pos (starEach es X.env)).any (·.1) = false := by rfl) :
    PMk X (.Call (.Name x p) (e :: es) [] pos) (tMkO C sp dvs ta) := by
  intro pins s σ H Q I h
  obtain ⟨nm, q, N, bs, sn, sub, ab, col, dd, k0, k1, k2, k3, k5, hC⟩ := T.cls
  refine wpAny_Call_Name_kw (ld_glob I hg hm ?_ hdb)
  refine PySem.W.callWith_K (h₀ := X.base) I.ok.mod.kin T.kC (thn (ha.run pos pins s σ H _ I h) fun us s1 ⟨vs, H1, I1, r1, hz, q1⟩ => ⟨I1.kIn, ?_⟩) he hpl
  obtain ⟨hp, g, dr, tk, os⟩ := s1
  have hsz : hp.objs.size ≤ hp.objs.size + 1 := Nat.le_succ _
  have hn : H1 (hp.objs.size + 1) = none := I1.hok.fresh hsz
  have hq := q1 (hp.objs.size + 1) hn
  have kk : ∀ b o, hp.get? b = some o → ((hp.push (PySem.W.kdv_tup us)).push (PySem.HandSPX.excO C hp.objs.size)).get? b = some o := fun b o e => Heap.get?_push_of_some _ (Heap.get?_push_of_some _ e)
  have hget : ((hp.push (PySem.W.kdv_tup us)).push (PySem.HandSPX.excO C hp.objs.size)).get? (hp.objs.size + 1) = some (PySem.HandSPX.excO C hp.objs.size) := by heap_get
  have I2 : Inv X pins σ (upd H1 (hp.objs.size + 1) (exo (hp.objs.size + 1) C none)) ⟨(hp.push (PySem.W.kdv_tup us)).push (PySem.HandSPX.excO C hp.objs.size), g, dr, tk, os⟩ :=
    I1.laid (t' := tk) (a := hp.objs.size + 1) (o := exo (hp.objs.size + 1) C none) (h' := (hp.push (PySem.W.kdv_tup us)).push (PySem.HandSPX.excO C hp.objs.size)) kk hsz (exo_ok hget)
  have r2 : Vals (V.ref (hp.objs.size + 1) :: (vs ++ dvs)) (Value.ref (hp.objs.size + 1) :: (us ++ ds)) := .cons rfl (r1.append hd)
  have hl : (Value.ref (hp.objs.size + 1) :: us ++ ds).length = ps.length := by
    have e := r2.length
    rw [F1.len _ _ _ _ hq] at e
    exact e.symm
  have hus : us.length ≤ sizeLine := by
    rw [← Paired.length r1, sizeLine_eq]
    omega
  refine wpAny_call (S.make (I1.kIn _ _ hC) (PySem.W.looks_findIn I1.kIn iC) (fun self => PySem.W.bind_fn I1.kIn self tI) hus
    (codeAny_mono (F1.run _ X.stack _ _ ⟨Value.ref (hp.objs.size + 1) :: us, []⟩ (Value.ref (hp.objs.size + 1) :: (us ++ ds)) _ _ (fun _ _ _ => False) (hr.make C us []) (I2.env0.make C us []) (hb _ (Value.ref (hp.objs.size + 1) :: us) I2.kIn hl) r2 hq) fun r s' hq' => ?_))
  cases r with
  | error er => exact hx pins σ _ _ er s' I2 hq'
  | ok fl =>
    cases fl with
    | ret u =>
      obtain ⟨v, H2, os2, bare2, un2, hok2, rv, ev, d, fs, ea, ed, hd1, q2⟩ := hq'
      subst ev
      obtain ⟨h2, g2, d2, t2, os'⟩ := s'
      exact ⟨rv, mk_end (raises_own T.exC T.tyC) I1 hsz kk un2 hok2 os2 bare2 ea ed hd1 q2⟩
    | next => exact False.elim hq'
    | brk => exact False.elim hq'
    | cont => exact False.elim hq'
end
end DL
/-! DMj: raising and catching by data: what stands since an anchor (the entry of a def or of a try). -/
namespace DL
open PySem PySem.Spec PyProof.Rows L2
abbrev KX := Value → List (Str × D) → CS → Prop
abbrev DSpX := List D → CS → KD → KX → Prop
/-- an exception's fields, told by its dict -/
def ExR (K : PySem.W.Frag) (G : Hp) (C : CS) (H : Hp) (od : Option Addr) (fs : List (Str × D)) : Prop :=
  (od = none ∧ fs = []) ∨ ∃ (dd : Addr) (fv : List (Str × V)), od = some dd ∧ H dd = some (.xd fv) ∧ C dd = none ∧ fv.map (·.1) = fs.map (·.1) ∧ DatAll K G (fv.map (·.2)) (fs.map (·.2))
theorem ExR.fr {K : PySem.W.Frag} {G G1 : Hp} {C C1 : CS} {H H1 : Hp} {od : Option Addr} {fs : List (Str × D)} (h : ExR K G C H od fs) (f : Fr G C H G1 C1 H1) : ExR K G1 C1 H1 od fs := by
  rcases h with h | ⟨dd, fv, e, h1, h2, h3, h4⟩
  · exact .inl h
  · refine .inr ⟨dd, fv, e, f.keep dd _ h1 h2 (by intro _ z; cases z), ?_, h3, h4.mono f.exG⟩
    cases q : C1 dd with
    | none => rfl
    | some c => exact absurd h2 (f.newC dd (by rw [h1]; simp) (by rw [q]; simp))
def KontX (K : PySem.W.Frag) (G : Hp) (C : CS) (H : Hp) (kx : KX) (E : XK) : Prop := ∀ cls fs od G' C' H', Fr G C H G' C' H' → Wld K G' C' H' → ExR K G' C' H' od fs → kx cls fs C' → E cls od H'
/-- a promise by data of a def that may raise -/
def toSpX (K : PySem.W.Frag) (S : DSpX) : Sp := fun vs H Q E => ∃ (G : Hp) (C : CS) (ds : List D) (k : KD) (kx : KX), Wld K G C H ∧ DatAll K G vs ds ∧ S ds C k kx ∧ Kont K G C H k Q ∧ KontX K G C H kx E
structure Anc where
  G : Hp
  C : CS
  H : Hp
abbrev Anc.fr (A : Anc) (G : Hp) (C : CS) (H : Hp) : Prop := Fr A.G A.C A.H G C H
/-- exceptions are taken here: kx is asked of them -/
def Thr (X : Cx) (A : Anc) (kx : DEnv → KX) : Prop := ∃ W : WX, Takes X W ∧ ∀ cls fs od σ env G' C' H', A.fr G' C' H' → Wld X.K G' C' H' → EnvR X.K G' env σ → ExR X.K G' C' H' od fs → kx env cls fs C' → W cls od σ H'
def WEA (X : Cx) (A : Anc) (e : Expr) (env : DEnv) (C : CS) (k : KD) : Prop := ∀ G σ H Q, Wld X.K G C H → EnvR X.K G env σ → A.fr G C H → Kont X.K G C H k Q → tS X e σ H Q
def WSA (X : Cx) (A : Anc) (st : Stmt) (env : DEnv) (C : CS) (E : DEnds) : Prop := ∀ G σ H D, Wld X.K G C H → EnvR X.K G env σ → A.fr G C H → KontS X.K G C H E D → tX X st D σ H
def WSsA (X : Cx) (A : Anc) (sts : List Stmt) (env : DEnv) (C : CS) (E : DEnds) : Prop := ∀ G σ H D, Wld X.K G C H → EnvR X.K G env σ → A.fr G C H → KontS X.K G C H E D → tXs X sts D σ H
section
variable {X : Cx} {A : Anc} {e : Expr} {st : Stmt} {sts rest s1 s2 : List Stmt} {env : DEnv} {C : CS} {k : KD} {E : DEnds} {pos : Pos} {kx : DEnv → KX}
theorem wsA_nox (h : WS X.nox st env C E) : WSA X A st env C E := fun G σ H D w er fr q pins s I =>
  wpAny_mono (h G σ H D w er q pins s (I.wish _)) (fun _ _ q => q.unwish) fun _ _ z => False.elim z
theorem wssA_nox (h : WSs X.nox sts env C E) : WSsA X A sts env C E := fun G σ H D w er fr q pins s I =>
  wpAny_mono (h G σ H D w er q pins s (I.wish _)) (fun _ _ q => q.unwish) fun _ _ z => False.elim z
theorem wssA_nil (h : E.nx env C) : WSsA X A [] env C E := wssA_nox (wss_nil h)
theorem wssA_cons (h : WSA X A st env C { E with nx := fun env' C' => WSsA X A rest env' C' E }) : WSsA X A (st :: rest) env C E := fun G σ H D w er fr q pins s I =>
  (pss_cons ps_tX pss_tXs).run pins s σ H D I (h G σ H { D with nx := tXs X rest D } w er fr ⟨fun G1 C1 H1 σ1 env1 f1 w1 er1 h1 => h1 G1 σ1 H1 D w1 er1 (fr.trans f1) (q.after f1), q.rt, q.bk, q.ct⟩)
theorem wsA_if {c : Expr} (h : WT X.nox c env C fun t C1 => (t = true → WSsA X A s1 env C1 E) ∧ (t = false → WSsA X A s2 env C1 E)) : WSA X A (.If c s1 s2 pos) env C E := fun G σ H D w er fr q pins s I =>
  (ps_if (PT.nox pt_tT) pss_tXs pss_tXs).run pins s σ H D I (h G σ H _ w er fun b G1 C1 H1 f1 w1 hb => by
    cases b with
    | true => exact iteT (hb.1 rfl G1 σ H1 D w1 (er.mono f1.exG) (fr.trans f1) (q.after f1))
    | false => exact iteF (hb.2 rfl G1 σ H1 D w1 (er.mono f1.exG) (fr.trans f1) (q.after f1)))
theorem wsA_expr (h : WEA X A e env C fun _ C1 => E.nx env C1) (hs : swapsWith e none pos.line X.env = pure false := by rfl) : WSA X A (.Expr e pos) env C E := fun G σ H D w er fr q pins s I =>
  (ps_expr pe_tS hs).run pins s σ H D I (h G σ H _ w er fr fun v G1 C1 H1 d f1 w1 r1 z => q.nx G1 C1 H1 σ env f1 w1 (er.mono f1.exG) z)
theorem wsA_ret (h : WEA X A e env C E.rt) : WSA X A (.Return (some e) pos) env C E := fun G σ H D w er fr q pins s I => (ps_ret pe_tS).run pins s σ H D I (h G σ H _ w er fr q.rt)
end
/-! ### raise -/
section
variable {P : Program} {w : World} {K : PySem.W.Frag} {mg : Str → Option Value} {base : Heap} {j n : Nat} {X : Cx} {A : Anc} {e : Expr} {env : DEnv} {C : CS} {E : DEnds} {pos p pos' : Pos} {kx : DEnv → KX} {x f : Str} {Cl : Addr}
/-- what an own __init__ of one field does -/
def spXI (Cl : Addr) (f : Str) : Sp := fun vs H Q _ => ∃ (a : Addr) (y : V), vs = [.ref a, y] ∧ H a = some (exo a Cl none) ∧ ∀ dx, H dx = none → dx ≠ a → Q .non (upd (upd H dx (exd dx [(f, y)])) a (exo a Cl (some dx)))
/-- x(e): a new exception of the class at Cl with one field -/
def XMk (P : Program) (w : World) (K : PySem.W.Frag) (mg : Str → Option Value) (base : Heap) (x : Str) (Cl : Addr) (f : Str) (n : Nat) : Prop :=
  mg x = some (.ref Cl) ∧ ∃ (B newId initId : String) (bm : List Value) (fI : Addr) (fd : FuncData) (ps : List Str), XB B newId initId bm ∧ OxB K newId bm Cl ∧ PySem.W.findIn K (.ref Cl) "__init__" = some (some (.ref fI)) ∧ PySem.W.typeIn K (.ref fI) = some (.type "function") ∧
    FnOk P w K mg base CX0 n fI fd ps (spXI Cl f) ∧ Binds K fd ps []
theorem wsA_raise1 (hx : Ctx P w K mg base j X) (hM : XMk P w K mg base x Cl f n) (T : Thr X A kx) (hg : Gl X x) (h : WE X.nox e env C fun d C1 => kx env (.ref Cl) [(f, d)] C1) (hle : n + 1 ≤ j := by decide)
    (hdb : (x == ("__debug__" : Str)) = false := by decide) (he : starEach [e] X.env = (false, eval e X.env) :: starEach [] X.env := by rfl) (hpl : (backTo pos' (starEach [] X.env)).any (·.1) = false := by rfl) :
    WSA X A (.Raise (some (.Call (.Name x p) [e] [] pos')) none pos) env C E := by
  obtain ⟨hm, B, newId, initId, bm, fI, fd, ps, S, T1, iC, tI, F1, hb⟩ := hM
  have hroom := hx.room
  obtain ⟨e1, e2, e3, e4, e5, _, hgd, hcalm⟩ := hx
  subst e1 e2 e3 e4 e5
  obtain ⟨W, tk, hW⟩ := T
  intro G σ H D w er fr q pins s I
  have mk := pmk_oxB (X := X) (p := p) (pos := pos') S T1 iC tI F1 (hroom.mono hle) hb (dvs := []) .nil pass0 hg hm (pa_cons (X := X) (PE.nox pe_tS) pa_nil he) hdb he hpl
  refine (ps_raise hcalm tk mk).run pins s σ H D I ?_
  refine h G σ H _ w er fun v G1 C1 H1 d f1 w1 r1 hk => ?_
  refine ⟨by simp, fun a ha => ⟨a, v, rfl, upd_same, fun dx hdx hne => ⟨rfl, dx, [(f, v)], upd_same, by rw [upd_ne hne]; exact upd_same, ?_, ?_⟩⟩⟩
  · rw [upd_ne hne] at hdx; exact hdx
  · have hd0 : H1 dx = none := by rw [upd_ne hne] at hdx; exact hdx
    have eH : upd (L2.del (upd (upd (upd H1 a (exo a Cl none)) dx (exd dx [(f, v)])) a (exo a Cl (some dx))) a) dx (.xd [(f, v)]) = upd H1 dx (.xd [(f, v)]) := by
      funext b
      by_cases hb : b = dx
      · subst hb; rw [upd_same, upd_same]
      · rw [upd_ne hb, upd_ne hb]
        by_cases hb2 : b = a
        · subst hb2; rw [L2.del_same, ha]
        · rw [L2.del_ne hb2, upd_ne hb2, upd_ne hb, upd_ne hb2]
    rw [eH]
    obtain ⟨g1, c1⟩ := w1.ne hd0
    have w2 : Wld X.K G1 C1 (upd H1 dx (.xd [(f, v)])) := ⟨fun b u e => by rw [upd_ne (ne_of_none e g1)]; exact w1.ex b u e, fun b c' e => by
      obtain ⟨h1, h2⟩ := w1.cell b c' e
      exact ⟨h1, h2.mono (fun _ _ h => h) (upd_ne (cell_ne e c1))⟩, w1.nt⟩
    have f2 : Fr G1 C1 H1 G1 C1 (upd H1 dx (.xd [(f, v)])) := Fr.fresh hd0
    exact hW (.ref Cl) [(f, d)] (some dx) σ env G1 C1 _ ((fr.trans f1).trans f2) w2 (er.mono f1.exG) (.inr ⟨dx, _, rfl, upd_same, c1, rfl, .cons r1 .nil⟩) hk
end
end DL
/-! DMk: defs that raise, calls of them, try. -/
namespace DL
open PySem PySem.Spec PyProof.Rows L2
section
variable {P : Program} {w : World} {K : PySem.W.Frag} {mg : Str → Option Value} {base : Heap}
structure BdyX (P : Program) (w : World) (K : PySem.W.Frag) (mg : Str → Option Value) (base : Heap) (n : Nat) (N M Ds : List Str) (dsc : Scope) (X : Cx) : Prop where
  x : Ctx P w K mg base n X
  b : Bdy P w K mg base n N M Ds dsc X.nox
/-- a def by its address, which may raise -/
def FnX (P : Program) (w : World) (K : PySem.W.Frag) (mg : Str → Option Value) (base : Heap) (f : Addr) (n : Nat) (dfl : List D) (S : DSpX) : Prop :=
  ∃ (fd : FuncData) (ps : List Str) (ds : List Value) (dvs : List V), FnG P w K mg base (L2.CX P w) n f fd ps (toSpX K S) ∧ Binds K fd ps ds ∧ Vals dvs ds ∧ ∀ G, DatAll K G dvs dfl
def FnXC (P : Program) (w : World) (K : PySem.W.Frag) (mg : Str → Option Value) (base : Heap) (x : Str) (n : Nat) (dfl : List D) (S : DSpX) : Prop := ∃ f, mg x = some (.ref f) ∧ PySem.W.keepIn K (.ref f) = true ∧ FnX P w K mg base f n dfl S
end
section
variable {X : Cx} {n : Nat} {fa Ca : Addr} {fd : FuncData} {ps : List Str} {sp : Sp} {ds : List Value} {dvs : List V} {W : WX} {x m : Str} {p pos apos : Pos} {e o : Expr} {es : List Expr} {ta : TE} {t : TA}
theorem PA.nox {es : List Expr} {t : TA} (h : PA X.nox es t) : PA X es t := ⟨fun pos pins s σ H Q I hw =>
  wpAny_mono (h.run pos pins s σ H Q (I.wish _) hw) (fun _ _ ⟨v, H', I', r, q⟩ => ⟨v, H', I'.unwish, r, q⟩) fun _ _ z => False.elim z⟩
theorem goX {pins : List (Addr × Obj)} {σ : L2.St} {H : Hp} {s : Shared} {Q : VK} {us : List Value} {as : List V} (F : FnG X.prog X.w X.K X.mg X.base (L2.CX X.prog X.w) n fa fd ps sp) (hgd : X.A.guards = some []) (hr : Room n X.A) (hb : Binds X.K fd ps ds) (hd : Vals dvs ds) (tk : Takes X W)
    (I : Inv X pins σ H s) (r : Vals as us) (h : sp (as ++ dvs) H Q (fun cls od H' => W cls od σ H')) : wpAny (model X.prog X.w) X.A (call (.ref fa) us) (EP X pins σ Q) X.xe s := by
  have r2 : Vals (as ++ dvs) (us ++ ds) := r.append hd
  have hlen : (us ++ ds).length = ps.length := by
    rw [← r2.length]
    exact F.len _ _ _ _ h
  refine wpAny_call (codeAny_mono (F.run hgd hr I.env0 (hb s us I.kIn hlen) r2 h) ?_)
  intro res s' z
  match res, z with
  | .error e, z => exact tk e s' (XE.of_call I (fun _ _ _ h => h) z)
  | .ok (.ret u), z => exact I.after z
theorem pe_callX (F : FnG X.prog X.w X.K X.mg X.base (L2.CX X.prog X.w) n fa fd ps sp) (hgd : X.A.guards = some []) (hr : Room n X.A) (hg : Gl X x) (hm : X.mg x = some (.ref fa)) (hk : PySem.W.keepIn X.K (.ref fa) = true) (hb : Binds X.K fd ps ds) (hd : Vals dvs ds) (tk : Takes X W)
    (ha : PA X (e :: es) t) (hdb : (x == ("__debug__" : Str)) = false := by decide) (he : starEach (e :: es) X.env = (false, eval e X.env) :: starEach es X.env := by rfl) (hpl : (backTo pos (starEach es X.env)).any (·.1) = false := by rfl) :
    PE X (.Call (.Name x p) (e :: es) [] pos) (fun σ H Q => t σ H fun vs H2 => sp (vs ++ dvs) H2 Q (fun cls od H' => W cls od σ H')) := ⟨fun pins s σ H Q I h => wpAny_Call_Name_kw (ld_glob I hg hm (PySem.W.callWith_K (h₀ := X.base) I.ok.mod.kin hk (thn (ha.run pos pins s σ H _ I h) fun us s1 z => by
      obtain ⟨as, H1, I1, r, q⟩ := z
      exact ⟨I1.kIn, goX F hgd hr hb hd tk I1 r q⟩) he hpl) hdb)⟩
end
section
variable {P : Program} {w : World} {K : PySem.W.Frag} {mg : Str → Option Value} {base : Heap} {j n : Nat} {X : Cx} {A : Anc} {Cl : Addr} {m x : Str} {S : DSpX} {dfl : List D} {e o : Expr} {es : List Expr} {env : DEnv} {C : CS} {k : KD} {kx : DEnv → KX} {pos apos p : Pos}
/-- the end of a call that may raise -/
theorem spX_ok {G' : Hp} {C' : CS} {H' : Hp} {vs : List V} {ds : List D} {Q : VK} {W : WX} {σ : L2.St} (hW : ∀ cls fs od σ env G' C' H', A.fr G' C' H' → Wld X.K G' C' H' → EnvR X.K G' env σ → ExR X.K G' C' H' od fs → kx env cls fs C' → W cls od σ H')
    (fr : A.fr G' C' H') (w1 : Wld X.K G' C' H') (er : EnvR X.K G' env σ) (r : DatAll X.K G' vs ds) (q : Kont X.K G' C' H' k Q) (z : S ds C' k (kx env)) : toSpX X.K S vs H' Q (fun cls od H' => W cls od σ H') :=
  ⟨G', C', ds, k, kx env, w1, r, z, q, fun cls fs od G2 C2 H2 f2 w2 ex hk => hW cls fs od σ env G2 C2 H2 (fr.trans f2) w2 (er.mono f2.exG) ex hk⟩
theorem weA_callX (hx : Ctx P w K mg base j X) (hM : FnXC P w K mg base x n dfl S) (T : Thr X A kx) (hg : Gl X x) (h : WA X.nox (e :: es) env C fun ds C2 => S (ds ++ dfl) C2 k (kx env)) (hle : n ≤ j := by decide)
    (hdb : (x == ("__debug__" : Str)) = false := by decide) (he : starEach (e :: es) X.env = (false, eval e X.env) :: starEach es X.env := by rfl) (hpl : (backTo pos (starEach es X.env)).any (·.1) = false := by rfl) : WEA X A (.Call (.Name x p) (e :: es) [] pos) env C k := by
  obtain ⟨fa, hm, hkp, fd, ps, ds, dvs, F, hb, hd, hdat⟩ := hM
  have hroom := hx.room
  obtain ⟨e1, e2, e3, e4, e5, _, hgd, hcalm⟩ := hx
  subst e1 e2 e3 e4 e5
  obtain ⟨W, tk, hW⟩ := T
  intro G σ H Q w er fr q pins s I
  refine (pe_callX F hgd (hroom.mono hle) hg hm hkp hb hd tk (PA.nox pa_tAr) hdb he hpl).run pins s σ H Q I ?_
  exact h G σ H _ w er fun vs G2 C2 H2 ds2 f2 w2 r2 zz => spX_ok hW (fr.trans f2) w2 (er.mono f2.exG) (r2.append (hdat _)) (q.after f2) zz
end
end DL
/-! DMl: try: body, except x as n: suite. -/
namespace DL
open PySem PySem.Spec PyProof.Rows L2
theorem EnvR.unset {K : PySem.W.Frag} {G : Hp} {env : DEnv} {σ : L2.St} (h : EnvR K G env σ) (i : Nat) : EnvR K G (env.set i none) (σ.set i none) := by
  refine ⟨by simp [h.1], fun j d' q => ?_⟩
  by_cases e : i = j
  · subst e
    by_cases l : i < env.length
    · rw [List.getElem?_set_self l] at q; cases q
    · rw [List.getElem?_eq_none (by simp; omega)] at q; cases q
  · rw [List.getElem?_set_ne e] at q ⊢
    exact h.2 j d' q
def DEnds.unset (E : DEnds) (i : Nat) : DEnds := { nx := fun env C => E.nx (env.set i none) C, rt := E.rt, bk := fun env C => E.bk (env.set i none) C, ct := fun env C => E.ct (env.set i none) C }
theorem KontS.unset {K : PySem.W.Frag} {G : Hp} {C : CS} {H : Hp} {E : DEnds} {D : Ends} {i : Nat} (h : KontS K G C H E D) :
    KontS K G C H (E.unset i) { nx := fun σ' H' => D.nx (σ'.set i none) H', rt := D.rt, bk := fun σ' H' => D.bk (σ'.set i none) H', ct := fun σ' H' => D.ct (σ'.set i none) H' } :=
  ⟨fun G' C' H' σ env f w er z => h.nx G' C' H' _ _ f w (er.unset i) z, h.rt, fun G' C' H' σ env f w er z => h.bk G' C' H' _ _ f w (er.unset i) z, fun G' C' H' σ env f w er z => h.ct G' C' H' _ _ f w (er.unset i) z⟩
/-- what an except suite does with the exception at a -/
def WSuite (X : Cx) (suite : List Stmt) (i : Nat) (env : DEnv) (C : CS) (E : DEnds) (cls : Value) (fs : List (Str × D)) : Prop :=
  ∀ (a : Addr) (oe : Obj) (od : Option Addr) (pn : List (Addr × Obj)) (A : Anc), Zc cls od oe → (∃ vs, oe.data = .fields vs) → A.C = C → A.H a = none → ExR X.K A.G C A.H od fs → WSsA (X.suite a ((a, oe) :: pn)) A suite (env.set i (some (.opq (.ref a)))) C (E.unset i)
section
variable {P : Program} {w : World} {K : PySem.W.Frag} {mg : Str → Option Value} {base : Heap} {j : Nat} {X : Cx} {N M gs : List Str} {dsc : Scope} {body suite : List Stmt} {b₀ : Stmt} {x n : Str} {i : Nat} {Cl : Addr} {env : DEnv} {C : CS} {E : DEnds} {np pos pos' : Pos}
theorem Ctx.tr (h : Ctx P w K mg base j X) (pn : List (Addr × Obj)) (xe : Value → Shared → Prop) : Ctx P w K mg base j (X.tr pn xe) := ⟨h.prog, h.w, h.K, h.mg, h.base, h.room, h.guards, h.calm⟩
theorem Nms.tr (h : Nms X N M) (pn : List (Addr × Obj)) (xe : Value → Shared → Prop) : Nms (X.tr pn xe) N M := ⟨h.n, h.nd, h.vis, h.ndb, h.ncd⟩
theorem Sts.tr (h : Sts X N M) (pn : List (Addr × Obj)) (xe : Value → Shared → Prop) : Sts (X.tr pn xe) N M := ⟨h.n, h.nd, h.loc, h.fn⟩
theorem Gls.tr (h : Gls X gs) (pn : List (Addr × Obj)) (xe : Value → Shared → Prop) : Gls (X.tr pn xe) gs := ⟨h.gl⟩
theorem Dfc.tr (h : Dfc X N dsc) (pn : List (Addr × Obj)) (xe : Value → Shared → Prop) : Dfc (X.tr pn xe) N dsc := ⟨h.n, h.nd, h.sc, h.calm⟩
/-- the context of a try's body, seen from a def's -/
structure BdT (P : Program) (w : World) (K : PySem.W.Frag) (mg : Str → Option Value) (base : Heap) (m : Nat) (N M Ds : List Str) (dsc : Scope) (X : Cx) : Prop where
  x : Ctx P w K mg base m X
  b : Bdy P w K mg base m N M Ds dsc X.nox
theorem Bdy.tr {m : Nat} {Ds : List Str} (h : Bdy P w K mg base m N M Ds dsc X) (pn : List (Addr × Obj)) (xe : Value → Shared → Prop) : BdT P w K mg base m N M Ds dsc (X.tr pn xe) := ⟨h.x.tr pn xe, h.x.tr pn _, h.b.tr pn _, h.s.tr pn _, h.g.tr pn _, h.d.tr pn _, ⟨rfl⟩⟩
/-- an except clause for an own class -/
structure XCat (K : PySem.W.Frag) (mg : Str → Option Value) (x : Str) (Cl : Addr) : Prop where
  nm : mg x = some (.ref Cl)
  exm : PySem.W.exmOne K (.ref Cl) (.ref Cl) = some true
theorem ws_try {m : Nat} {Ds : List Str} (hs : X.stack = X.env :: X.outer) (hf : X.env.frame = some X.env.locals) (hB : Bdy P w K mg base m N M Ds dsc X) (hi : N[i]? = some n) (hln : X.env.kindOf n = some .local) (hg : Gl X x) (hc : XCat K mg x Cl) (hdb : (x == ("__debug__" : Str)) = false)
    (h : ∀ (X' : Cx) (A : Anc), BdT P w K mg base m N M Ds dsc X' → A.C = C → Thr X' A (fun env' cls fs C' => cls = .ref Cl ∧ WSuite X (b₀ :: suite) i env' C' E cls fs) → X'.env = X.env → WSsA X' A body env C E) :
    WS X (.Try body [.ExceptHandler (some (.Name x np)) (some n) (b₀ :: suite) pos'] [] [] pos) env C E := by
  have hnm : X.mg x = some (.ref Cl) := by rw [hB.x.mg]; exact hc.nm
  have hK : X.K = K := hB.x.K
  have ps := ps_try_as (X := X) (x := x) (n := n) (c := .ref Cl) (i := i) (body := body) (suite := suite) (b₀ := b₀) (np := np) (pos := pos) (pos' := pos') (Wout := fun _ _ _ _ => False)
    (tb := fun W => fun D σ H => ∀ pn xe, Takes (X.tr pn xe) W → PassesOwn (model X.prog X.w) X.A X.env xe → tXs (X.tr pn xe) body D σ H)
    (ts := fun a cls d => fun D σ H => ∀ oe pn, Zc cls d oe → (∃ vs, oe.data = .fields vs) → tXs (X.suite a ((a, oe) :: pn)) (b₀ :: suite) D σ H)
    hs hf hB.b.nd (by rw [hB.b.n]; exact hi) hln ⟨hg, hdb, .inl hnm⟩
    (fun u s' ⟨_, _, _, _, _, _, _, _, _, _, _, _, _, _, _, _, z⟩ => z.elim)
    (fun W pn xe tk po => ⟨fun pins s σ H D I z => z pn xe tk po pins s I⟩)
    (fun a oe cls d pn hz hv => ⟨fun pins s σ H D I z => z oe pn hz hv pins s I⟩)
  refine .of ps fun G σ H D w er q pn xe tk po => ?_
  refine h (X.tr pn xe) ⟨G, C, H⟩ (hB.tr pn xe) rfl ⟨_, tk, fun cls fs od σ' env' G' C' H' fr w' er' ex hk => ?_⟩ rfl G σ H D w er (Fr.refl ..) q
  obtain ⟨rfl, hsu⟩ := hk
  refine ⟨true, by rw [hK]; exact hc.exm, fun _ a ha oe pn2 hz hv => ?_, fun e => Bool.noConfusion e⟩
  exact hsu a oe od pn2 ⟨G', C', H'⟩ hz hv rfl ha ex G' _ H' _ w' (er'.set i (.opq _)) (Fr.refl ..) (q.after fr).unset
end
/-! ### in a suite -/
section
variable {X : Cx} {A : Anc} {a b e : Expr} {env : DEnv} {C : CS} {k : KD} {pos p : Pos}
end
end DL
/-! DMm: the caught exception's fields; defs with a try. -/
namespace DL
open PySem PySem.Spec PyProof.Rows L2
theorem lookup_dat {K : PySem.W.Frag} {G : Hp} {f : Str} {y : D} : ∀ {fv : List (Str × V)} {fs : List (Str × D)}, fv.map (·.1) = fs.map (·.1) → DatAll K G (fv.map (·.2)) (fs.map (·.2)) → fs.lookup f = some y → ∃ v, fv.lookup f = some v ∧ Dat K G v y
  | [], [], _, _, h => by simp at h
  | [], _ :: _, e, _, _ => by simp at e
  | _ :: _, [], e, _, _ => by simp at e
  | (g, v) :: fv, (g', d) :: fs, e, r, h => by
    simp only [List.map_cons, List.cons.injEq] at e
    obtain ⟨rfl, e⟩ := e
    cases r with
    | cons r1 r2 =>
      rw [List.lookup_cons] at h ⊢
      by_cases q : (f == g) = true
      · rw [q] at h ⊢
        simp only [Option.some.injEq] at h
        subst h
        exact ⟨v, rfl, r1⟩
      · rw [Bool.eq_false_iff.mpr q] at h ⊢
        exact lookup_dat e r2 h
section
variable {P : Program} {w : World} {K : PySem.W.Frag} {mg : Str → Option Value} {base : Heap} {X : Cx} {A : Anc} {a Cl : Addr} {oe : Obj} {od : Option Addr} {pn : List (Addr × Obj)} {o : Expr} {f : Str} {fs : List (Str × D)} {env : DEnv} {C : CS} {k : KD} {pos : Pos}
/-- e.f, e the caught exception -/
theorem weA_xf (T : XfC X.K Cl) (hno : PySem.W.findIn X.K (.ref Cl) f = some none) (hz : Zc (.ref Cl) od oe) (hv : ∃ vs, oe.data = .fields vs) (hE : ExR X.K A.G A.C A.H od fs)
    (h : WE (X.suite a ((a, oe) :: pn)) o env C fun d C1 => d = .opq (.ref a) ∧ ∃ y, fs.lookup f = some y ∧ k y C1) (hb : attributeBase o f X.env (eval o X.env) = eval o X.env := by rfl) : WEA (X.suite a ((a, oe) :: pn)) A (.Attribute o f pos) env C k := fun G σ H Q w er fr q pins s I => by
  refine (pe_xf (pos := pos) T hno hz hv pe_tS hb).run pins s σ H Q I ?_
  refine h G σ H _ w er fun v G1 C1 H1 d f1 w1 r1 z => ?_
  obtain ⟨rfl, y, hl, hk⟩ := z
  cases r1
  rcases hE.fr (fr.trans f1) with ⟨_, rfl⟩ | ⟨dd, fv, rfl, h1, h2, h3, h4⟩
  · simp at hl
  · obtain ⟨u, hu, ru⟩ := lookup_dat h3 h4 hl
    exact ⟨rfl, rfl, dd, fv, u, rfl, h1, hu, q u G1 C1 H1 y f1 w1 ru hk⟩
structure BdyT (P : Program) (w : World) (K : PySem.W.Frag) (mg : Str → Option Value) (base : Heap) (n : Nat) (N M Ds : List Str) (dsc : Scope) (X : Cx) : Prop where
  b : Bdy P w K mg base n N M Ds dsc X
  hs : X.stack = X.env :: X.outer
  hf : X.env.frame = some X.env.locals
  kind : ∀ y, (envOf dsc).kindOf y = some .local → X.env.kindOf y = some .local
theorem kindOf_env {env : Env} {sc : Scope} (h : env.scope = sc) : env.kindOf = (envOf sc).kindOf := by
  funext x
  unfold Env.kindOf
  rw [h]
  rfl
theorem fnXT {x qual : Str} {st : Stmt} {f : Addr} {fd : FuncData} {N M Ds ps : List Str} {n : Nat} {S : DSp} (F : Fun K x qual st f fd) (sc : FnScope N ps (defScope st)) (hv : visC (defScope st) M = true) (hlc : locC (defScope st) M = true) (hg : glC (defScope st) Ds = true)
    (hl : ∀ ds C k, S ds C k → ds.length = ps.length)
    (hb : ∀ (X : Cx), BdyT P w K mg base n N M Ds (defScope st) X → ∀ (ds : List D) (C : CS) (k : KD), S ds C k → WSs X (defBody st) (startD N ds) C { nx := fun _ C' => k .non C', rt := k }) : FnG P w K mg base CX0 (n + 1) f fd ps (toSp K S) :=
  fnD F sc hl fun cdv A outer s H E ds C k hgd hr h => hb _ ⟨⟨⟨rfl, rfl, rfl, rfl, rfl, hr, hgd, rfl⟩, nms_of rfl (sc := defScope st) rfl sc.nd hv, sts_of rfl (sc := defScope st) rfl sc.nd hlc (fun _ => rfl), gls_of (sc := defScope st) rfl hg, ⟨rfl, sc.nd, rfl, rfl⟩, ⟨rfl⟩⟩, rfl, rfl, fun y e => by rw [kindOf_env (sc := defScope st) rfl]; exact e⟩ ds C k h
/-- names and builtins within a suite -/
theorem Nms.suite {N M : List Str} (h : Nms X N M) (a : Addr) (pn : List (Addr × Obj)) : Nms (X.suite a pn) N M := ⟨h.n, h.nd, h.vis, h.ndb, h.ncd⟩
theorem Gls.suite {gs : List Str} (h : Gls X gs) (a : Addr) (pn : List (Addr × Obj)) : Gls (X.suite a pn) gs := ⟨h.gl⟩
end
end DL
/-! DMn: isinstance of a caught exception; anchored flow; own == of others; own str and repr. -/
namespace L2
open PySem PySem.Spec PyProof.Rows
/-- what isinstance asks of an own exception class -/
structure XIs (K : PySem.W.Frag) (D : Addr) : Prop where
  xf : XfC K D
  ha : PySem.W.findIn K (.ref D) "__class__" = some (some (.builtin "object.__class__"))
  hn : PySem.W.specialIn K (.builtin "object.__class__") "__get__" = some (some (.builtin "getset_descriptor.__get__"))
  ht : PySem.W.takesIn K (.builtin "object.__class__") = some true
  hm : PySem.W.mroIn K D (.type "object") = some true
def XdOk (H : Hp) (od : Option Addr) : Prop := od = none ∨ ∃ (dd : Addr) (fs : List (Str × V)), od = some dd ∧ H dd = some (.xd fs)
theorem inst_of {X : Cx} {pins : List (Addr × Obj)} {σ : St} {H : Hp} {s : Shared} {a D : Addr} {oe : Obj} {od : Option Addr} (I : Inv X pins σ H s) (hg : s.heap.get? a = some oe) (hz : Zc (.ref D) od oe) (hf : ∃ vs, oe.data = .fields vs) (hx : XdOk H od) : ∃ od', PySem.W.InstAt s.heap a oe D od' := by
  obtain ⟨vs, hd⟩ := hf
  rcases hx with rfl | ⟨dd, fs, rfl, ea⟩
  · refine ⟨none, ?_⟩
    obtain ⟨oc, oda, odt, osl⟩ := oe
    obtain ⟨h1, h2⟩ := hz
    dsimp only at h1 h2 hd
    subst h1 h2 hd
    exact ⟨hg, rfl, rfl, trivial⟩
  · have hx : ObjOk X.prog X.w H s.heap dd (.xd fs) := I.hok dd _ ea
    obtain ⟨mA, hns, hr⟩ := hx
    obtain ⟨od, ho, hl⟩ := lookIn_ns hns
    exact ⟨some od, hg, hz.1, by unfold PySem.W.notCls; rw [hd] <;> rfl, by rw [hz.2]; exact ho⟩
theorem kit_x {K : PySem.W.Frag} {D a : Addr} {oe : Obj} {od : Option Obj} (T : XIs K D) : PySem.W.KitX K (.ref a) (.ref D) (fun h => PySem.W.InstAt h a oe D od) := by
  obtain ⟨cd, hc, _⟩ := PySem.W.any_some T.xf.hdC
  exact PySem.W.kitx_exc (by rw [hc]; rfl) T.xf.ga T.xf.gg T.xf.exC T.ha T.hn T.ht T.hm
theorem call_isX1 {X : Cx} {a D : Addr} {oe : Obj} {od : Option Addr} {pn : List (Addr × Obj)} (T : XIs X.K D) (hz : Zc (.ref D) od oe) (hf : ∃ vs, oe.data = .fields vs) : CallR (X.suite a ((a, oe) :: pn)) (.builtin "isinstance") (fun xs H Q => ∃ (c : V) (cv : Value) (b : Bool), xs = [.ref a, c] ∧ ClsV c cv ∧ XdOk H od ∧ PySem.W.kitOne X.K (.ref D) cv = some b ∧ Q (.bl b) H) := by
  intro pins s σ H xs us Q I r h
  obtain ⟨c, cv, b, rfl, hcv, hxd, e, q⟩ := h
  obtain ⟨u1, u2, rfl, rx, rt⟩ := vals2 r
  cases rx
  have ec := hcv.eq rt
  subst ec
  obtain ⟨hget, _⟩ := I.pin (a, oe) (List.mem_append.mpr (.inl List.mem_cons_self))
  obtain ⟨od', J⟩ := inst_of I hget hz hf hxd
  exact PySem.W.kia_one (kit_x T) I.kIn J e (fun z => nomatch z) fun tk => ⟨.bl b, H, I.tok tk, rfl, q⟩
/-! own ==, str, repr -/
section
variable {X : Cx} {CT : CXT} {n : Nat} {fa Ca : Addr} {fd : FuncData} {ps : List Str} {sp : Sp} {E : XK} {dvs : List V} {ds : List Value}
end
end L2
namespace DL
open PySem PySem.Spec PyProof.Rows L2
section
variable {P : Program} {w : World} {K : PySem.W.Frag} {mg : Str → Option Value} {base : Heap} {j n m : Nat} {X : Cx} {Cl : Addr} {S : DSp} {dfl : List D} {a b e o : Expr} {es : List Expr} {env : DEnv} {C : CS} {k : KD} {kb : Bool → CS → Prop} {pos p p2 : Pos} {cn : Str}
end
/-! ### anchored flow -/
def WTA (X : Cx) (A : Anc) (e : Expr) (env : DEnv) (C : CS) (k : Bool → CS → Prop) : Prop := ∀ G σ H Q, Wld X.K G C H → EnvR X.K G env σ → A.fr G C H → KontB X.K G C H k Q → tT X e σ H Q
section
variable {X : Cx} {A : Anc} {a b e c : Expr} {rest : List Expr} {s1 s2 : List Stmt} {env : DEnv} {C : CS} {k : KD} {kb : Bool → CS → Prop} {E : DEnds} {pos p pos' : Pos} {N M : List Str} {x : Str} {f : D → DEnv}
theorem Sts.suite {N M : List Str} (h : Sts X N M) (a : Addr) (pn : List (Addr × Obj)) : Sts (X.suite a pn) N M := ⟨h.n, h.nd, h.loc, h.fn⟩
theorem wtA_val (h : WEA X A e env C fun d C1 => ∃ t, d = .bl t ∧ kb t C1) (he : ∀ whole, isTrue e X.env whole = (do let v ← whole; standAt e.pos; holding [v] (truthy v)) := by intro _; rfl) : WTA X A e env C kb := fun G σ H Q w er fr q pins s I =>
  (pt_val pe_tS he).run pins s σ H Q I (h G σ H _ w er fr fun v G1 C1 H1 d f1 w1 r1 z => by
    obtain ⟨t, rfl, z⟩ := z
    cases r1
    exact ⟨t, rfl, q t G1 C1 H1 f1 w1 z⟩)
theorem weA_if (h : WTA X A c env C fun t C1 => (t = true → WEA X A a env C1 k) ∧ (t = false → WEA X A b env C1 k)) : WEA X A (.IfExp c a b pos) env C k := fun G σ H Q w er fr q pins s I =>
  (pe_ifExp pt_tT pe_tS pe_tS).run pins s σ H Q I (h G σ H _ w er fr fun t G1 C1 H1 f1 w1 hb => by
    cases t with
    | true => exact iteT (hb.1 rfl G1 σ H1 Q w1 (er.mono f1.exG) (fr.trans f1) (q.after f1))
    | false => exact iteF (hb.2 rfl G1 σ H1 Q w1 (er.mono f1.exG) (fr.trans f1) (q.after f1)))
end
/-! ### isinstance(e, ..) in a suite -/
section
variable {P : Program} {w : World} {K : PySem.W.Frag} {mg : Str → Option Value} {base : Heap} {m : Nat} {X : Cx} {A : Anc} {a Cl : Addr} {oe : Obj} {od : Option Addr} {pn : List (Addr × Obj)} {o c : Expr} {es : List Expr} {fs : List (Str × D)} {env : DEnv} {C : CS} {k : KD} {pos p p2 : Pos} {nt : Nat}
theorem ExR.xd {G G1 : Hp} {C C1 : CS} {H H1 : Hp} (hE : ExR K G C H od fs) (f : Fr G C H G1 C1 H1) : XdOk H1 od := by
  rcases hE.fr f with ⟨h, _⟩ | ⟨dd, fv, h, h1, _⟩
  · exact .inl h
  · exact .inr ⟨dd, fv, h, h1⟩
/-- a class by data -/
def clsU : D → Option Value
  | .opq (.ty n) => some (.type n)
  | .opq (.ref C) => some (.ref C)
  | _ => none
theorem clsU_ok {G : Hp} {v : V} {d : D} {u : Value} (r : Dat K G v d) (e : clsU d = some u) : ClsV v u := by
  cases r with
  | opq v =>
    cases v <;> simp [clsU] at e
    · subst e; exact .own _
    · subst e; exact .ty _
  | _ => simp [clsU] at e
theorem weA_isX1 (hx : Ctx P w K mg base m X) (Z : Zs mg) (hg : Gl X "isinstance") (T : XIs K Cl) (hz : Zc (.ref Cl) od oe) (hv : ∃ vs, oe.data = .fields vs) (hE : ExR K A.G A.C A.H od fs)
    (h : WA (X.suite a ((a, oe) :: pn)) [o, c] env C fun ds C1 => ∃ d u b, ds = [.opq (.ref a), d] ∧ clsU d = some u ∧ PySem.W.kitOne K (.ref Cl) u = some b ∧ k (.bl b) C1)
    (he : starEach [o, c] X.env = (false, eval o X.env) :: starEach [c] X.env := by rfl) (hpl : (backTo pos (starEach [c] X.env)).any (·.1) = false := by rfl) : WEA (X.suite a ((a, oe) :: pn)) A (.Call (.Name "isinstance" p) [o, c] [] pos) env C k := fun G σ H Q w er fr q pins s I => by
  have T' : XIs X.K Cl := by rw [hx.K]; exact T
  refine (pe_callB (X := X.suite a ((a, oe) :: pn)) (call_isX1 T' hz hv) hg (hx.zs Z).isi bt_isi pa_tAr (by decide) (by decide) he hpl).run pins s σ H Q I (h G σ H _ w er fun vs G1 C1 H1 ds f1 w1 r1 z => ?_)
  obtain ⟨d, u, b, rfl, hu, hk, hq⟩ := z
  cases r1 with
  | cons r1 r2 =>
    cases r2 with
    | cons r2 r3 =>
      cases r3; cases r1
      exact ⟨_, u, b, rfl, clsU_ok r2 hu, hE.xd (fr.trans f1), by rw [hx.K]; exact hk, q _ G1 C1 H1 _ f1 w1 (.bl b) hq⟩
/-- classes and a caught exception's class -/
theorem kit_bt {T : String} {b : Bool} (hT : PySem.W.kitMeta T = true) (h : PySem.W.subIn K (.ref Cl) (.type T) = some b) : PySem.W.kitOne K (.ref Cl) (.type T) = some b := by
  unfold PySem.W.kitOne
  rw [if_neg (by intro z; exact Value.noConfusion (beq_iff_eq.mp z))]
  show (if PySem.W.kitMeta T = true then PySem.W.subIn K (.ref Cl) (.type T) else none) = some b
  rw [if_pos hT, h]
end
end DL
/-! DMo: raising methods with keywords; loops whose bodies may raise. -/
namespace DL
open PySem PySem.Spec PyProof.Rows L2
section
variable {P : Program} {w : World} {K : PySem.W.Frag} {mg : Str → Option Value} {base : Heap}
/-- as BdyX, with what loops ask -/
structure BdyP (P : Program) (w : World) (K : PySem.W.Frag) (mg : Str → Option Value) (base : Heap) (n : Nat) (N M Ds : List Str) (dsc : Scope) (X : Cx) : Prop where
  x : Ctx P w K mg base n X
  b : Bdy P w K mg base n N M Ds dsc X.nox
  p : PassesOwn (model X.prog X.w) X.A X.env X.xe
theorem fnXP {x qual : Str} {st : Stmt} {f : Addr} {fd : FuncData} {N M Ds ps : List Str} {n : Nat} {S : DSpX} (F : Fun K x qual st f fd) (sc : FnScope N ps (defScope st)) (hv : visC (defScope st) M = true) (hlc : locC (defScope st) M = true) (hg : glC (defScope st) Ds = true)
    (hl : ∀ ds C k kx, S ds C k kx → ds.length = ps.length)
    (hb : ∀ (X : Cx) (A : Anc), BdyP P w K mg base n N M Ds (defScope st) X → ∀ (ds : List D) (k : KD) (kx : KX), S ds A.C k kx → Thr X A (fun _ => kx) → WSsA X A (defBody st) (startD N ds) A.C { nx := fun _ C' => k .non C', rt := k }) : FnG P w K mg base (L2.CX P w) (n + 1) f fd ps (toSpX K S) := by
  refine fnG_of F sc (fun vs H Q E h => ?_) (fun cdv A outer s H vs Q E hgd hr h => ?_)
  · obtain ⟨G, C, ds, k, kx, _, r, hS, _⟩ := h
    rw [r.length]
    exact hl _ _ _ _ hS
  · obtain ⟨G, C, ds, k, kx, wl, r, hS, q, qx⟩ := h
    refine ⟨_, pss_tXs, ?_⟩
    refine hb (cxOf (L2.CX P w) P w K mg base N qual (defScope st) f cdv A outer s H E) ⟨G, C, H⟩ ⟨⟨rfl, rfl, rfl, rfl, rfl, hr, hgd, rfl⟩, ⟨⟨rfl, rfl, rfl, rfl, rfl, hr, hgd, rfl⟩, nms_of rfl (sc := defScope st) rfl sc.nd hv, sts_of rfl (sc := defScope st) rfl sc.nd hlc (fun _ => rfl), gls_of (sc := defScope st) rfl hg, ⟨rfl, sc.nd, rfl, rfl⟩, ⟨rfl⟩⟩, passes_of rfl⟩ ds k kx hS
      ⟨fun cls d _ H' => E cls d H', takes_of rfl rfl rfl rfl, fun cls fs od σ env G' C' H' fr w' er ex hk => qx cls fs od G' C' H' fr w' ex hk⟩ G _ H _ wl (envR_start r) (Fr.refl ..) ⟨?_, q, ?_, ?_⟩
    · exact fun G' C' H' σ env f w' er z => q .non G' C' H' .non f w' .non z
    · exact fun G' C' H' σ env f w' er z => z.elim
    · exact fun G' C' H' σ env f w' er z => z.elim
theorem Nms.ofnox {X : Cx} {N M : List Str} (h : Nms X.nox N M) : Nms X N M := ⟨h.n, h.nd, h.vis, h.ndb, h.ncd⟩
theorem Sts.ofnox {X : Cx} {N M : List Str} (h : Sts X.nox N M) : Sts X N M := ⟨h.n, h.nd, h.loc, h.fn⟩
theorem Gls.ofnox {X : Cx} {gs : List Str} (h : Gls X.nox gs) : Gls X gs := ⟨h.gl⟩
end
section
variable {X : Cx} {n np : Nat} {fa Ca : Addr} {fd : FuncData} {ps ks : List Str} {sp : Sp} {W : WX} {m : Str} {pos apos : Pos} {o : Expr} {kws : List Keyword} {ta : TE} {tk : TA} {g : List Value → List Value → List Value} {gV : List V → List V → List V}
theorem PK.nox (h : PK X.nox kws tk) : PK X kws tk := ⟨fun pos pins s σ H Q I hw =>
  wpAny_mono (h.run pos pins s σ H Q (I.wish _) hw) (fun _ _ ⟨v, H', I', r, q⟩ => ⟨v, H', I'.unwish, r, q⟩) fun _ _ z => False.elim z⟩
end
section
variable {P : Program} {w : World} {K : PySem.W.Frag} {mg : Str → Option Value} {base : Heap} {j n : Nat} {X : Cx} {A : Anc} {Cl : Addr} {m : Str} {S : DSpX} {gD : List D → List D → List D} {ks : List Str} {o : Expr} {kws : List Keyword} {env : DEnv} {C : CS} {k : KD} {kx : DEnv → KX} {pos apos : Pos}
end
/-! ### loops -/
section
variable {P : Program} {w : World} {K : PySem.W.Frag} {mg : Str → Option Value} {base : Heap} {m : Nat} {X : Cx} {A : Anc} {e tg iter : Expr} {elts : List Expr} {kk : Nat} {body : List Stmt} {env : DEnv} {C : CS} {E : DEnds} {p : Addr} {kvs : List (Key × D)} {tpos apos cpos pos : Pos}
theorem wsA_for (hp : PassesOwn (model X.prog X.w) X.A X.env X.xe) (hc : X.calm = true)
    (h : WI X tg iter env C fun xs Pc C1 => ∃ Iv : Nat → DEnv → CS → Prop, Iv 0 env C1 ∧ (∀ i env C, Iv i env C → Pc C) ∧
      (∀ i d env C, xs[i]? = some d → Iv i env C → WG X tg d env C fun env' C' => WSsA X A body env' C' { nx := Iv (i + 1), rt := E.rt, bk := E.nx, ct := Iv (i + 1) }) ∧ (∀ env C, Iv xs.length env C → E.nx env C))
    (hs : ∀ x, foldedSetIterable iter X.env x = pure x := by intro _; rfl) : WSA X A (.For tg iter body [] pos) env C E := by
  obtain ⟨wi, hi, h⟩ := h
  intro G σ H D w er fr q pins s I
  refine (ps_for hp hc hi pg_tGt pss_tXs hs).run pins s σ H D I (h G σ H _ w er fun J G1 C1 H1 xs Pc f1 w1 it z => ?_)
  obtain ⟨Iv, i0, hP, turn, done⟩ := z
  let Wn : Nat → L2.St → Hp → Prop := fun i σ2 H2 => i ≤ xs.length ∧ ∃ G2 C2 env2, Fr G C H G2 C2 H2 ∧ Same G1 G2 ∧ Wld X.K G2 C2 H2 ∧ EnvR X.K G2 env2 σ2 ∧ Iv i env2 C2
  refine ⟨fun i m σ2 H2 => m = xs.length - i ∧ Wn i σ2 H2, ⟨xs.length, rfl, Nat.zero_le _, G1, C1, env, f1, fun _ _ h => h, w1, er.mono f1.exG, i0⟩, ?_⟩
  rintro i m σ2 H2 ⟨rfl, hi2, G2, C2, env2, f2, s2, w2, er2, i2⟩
  obtain ⟨go, stop⟩ := it G2 C2 H2 s2 w2 (hP _ _ _ i2)
  by_cases hlt : i < xs.length
  · obtain ⟨hgo, hy⟩ := go i xs[i] (by simp [hlt])
    refine .inr ⟨hgo, Wn (i + 1), fun σ' H' h' => ⟨xs.length - (i + 1), by omega, rfl, h'⟩, fun x H3 hx => ?_⟩
    obtain ⟨G3, f3, w3, r3⟩ := hy x H3 hx
    refine turn i xs[i] env2 C2 (by simp [hlt]) i2 G3 σ2 H3 x _ w3 (er2.mono f3.exG) r3 fun G4 C4 H4 σ4 env4 f4 w4 er4 h4 => ?_
    have nx : KontE X.K G4 C4 H4 (Iv (i + 1)) (Wn (i + 1)) := fun G5 C5 H5 σ5 env5 f5 w5 er5 h5 => ⟨hlt, G5, C5, env5, ((f2.trans f3).trans f4).trans f5, ((s2.trans f3.exG).trans f4.exG).trans f5.exG, w5, er5, h5⟩
    exact h4 G4 σ4 H4 _ w4 er4 (fr.trans ((f2.trans f3).trans f4)) ⟨nx, q.rt.after ((f2.trans f3).trans f4), q.nx.after ((f2.trans f3).trans f4), nx⟩
  · have e : i = xs.length := by omega
    subst e
    exact .inl ⟨stop _ (Nat.le_refl _), q.nx G2 C2 H2 σ2 env2 f2 w2 er2 (done _ _ i2)⟩
theorem Fr.lock {G H : Hp} {C : CS} {c : Cell} {p : Addr} (w : Wld K G C H) (hp : C p = some c) (o : HO) : Fr G C H G (del C p) (upd H p o) := by
  refine ⟨fun _ _ h => h, fun b u q n _ => ?_, fun b q => ?_, fun b q n => ?_, fun b q n => .inl n⟩
  · have ne : b ≠ p := fun z => by subst z; rw [hp] at n; cases n
    rw [upd_ne ne]; exact q
  · by_cases z : b = p
    · subst z; rw [upd_same]; simp
    · rw [upd_ne z]; exact q
  · by_cases z : b = p
    · subst z; rw [del_same] at n; exact absurd rfl n
    · rw [del_ne z] at n; exact n
end
end DL
/-! DMp: several except clauses, each with a name. -/
namespace L2
open PySem PySem.Spec PyProof.Rows
abbrev Ends.unset (D : Ends) (i : Nat) : Ends := { nx := fun σ' H' => D.nx (σ'.set i none) H', rt := D.rt, bk := fun σ' H' => D.bk (σ'.set i none) H', ct := fun σ' H' => D.ct (σ'.set i none) H' }
abbrev HdL := List (Value × Nat × (Addr → Value → Option Addr → TS))
section
variable {X : Cx} {body : List Stmt} {h₀ : ExceptHandler} {hds : List ExceptHandler} {l : HdL} {pos : Pos} {tb : WX → TS} {Wout : WX}
end
end L2
namespace DL
open PySem PySem.Spec PyProof.Rows L2
section
variable {P : Program} {w : World} {K : PySem.W.Frag} {mg : Str → Option Value} {base : Heap} {X : Cx} {N M : List Str} {dsc : Scope} {body : List Stmt} {h₀ : ExceptHandler} {hds : List ExceptHandler} {l : List (Addr × Nat × List Stmt)} {env : DEnv} {C : CS} {E : DEnds} {pos : Pos}
end
end DL
/-! DMq: raise X(), X an own exception class without own __init__. -/
namespace L2
open PySem PySem.Spec PyProof.Rows
end L2
namespace DL
open PySem PySem.Spec PyProof.Rows L2
section
variable {P : Program} {w : World} {K : PySem.W.Frag} {mg : Str → Option Value} {base : Heap} {j : Nat} {X : Cx} {A : Anc} {env : DEnv} {C : CS} {E : DEnds} {pos p pos' : Pos} {kx : DEnv → KX} {x : Str} {Cl : Addr}
end
end DL
/-! DMr: in and not in with a tuple of data; a statement's end; what raises below an attribute; == as a test in a suite. -/
namespace L2
open PySem PySem.Spec PyProof.Rows
section
variable {X : Cx}
end
end L2
namespace DL
open PySem PySem.Spec PyProof.Rows L2
section
variable {P : Program} {w : World} {K : PySem.W.Frag} {mg : Str → Option Value} {base : Heap} {m : Nat} {X : Cx} {A : Anc} {a b o : Expr} {env : DEnv} {C : CS} {k : KD} {kb : Bool → CS → Prop} {pos p : Pos} {f : Str}
theorem WS.imp {X : Cx} {st : Stmt} {env : DEnv} {C : CS} {E1 E2 : DEnds} (h : WS X st env C E1) (hn : ∀ env' C', E1.nx env' C' → E2.nx env' C') (hr : E1.rt = E2.rt := by rfl) (hb : E1.bk = E2.bk := by rfl) (hc : E1.ct = E2.ct := by rfl) : WS X st env C E2 := fun G σ H D w er q =>
  h G σ H D w er ⟨fun G1 C1 H1 σ1 env1 f1 w1 er1 z => q.nx G1 C1 H1 σ1 env1 f1 w1 er1 (hn _ _ z), by rw [hr]; exact q.rt, by rw [hb]; exact q.bk, by rw [hc]; exact q.ct⟩
/-- a statement, then the rest, with a word between them -/
theorem wss_mid {X : Cx} {st : Stmt} {rest : List Stmt} {env : DEnv} {C : CS} {E : DEnds} (Pm : DEnv → CS → Prop) (h : WS X st env C { E with nx := Pm }) (hk : ∀ env' C', Pm env' C' → WSs X rest env' C' E) : WSs X (st :: rest) env C E := wss_cons (WS.imp h hk)
end
end DL
/-! DMs: xs[::-1] of a list. -/
namespace DL
open PySem PySem.Spec PyProof.Rows L2
/-! xs[::-1] of a list: a new list -/
section
variable {X : Cx} {e : Expr} {env : DEnv} {C : CS} {k : KD} {pos p1 p2 p3 : Pos} {j : Nat}
end
end DL
/-! DMt: a lambda's code, entered from the def that got it; the caller's guards stand. -/
namespace DL
open PySem PySem.Spec PyProof.Rows L2 LamX
section
variable {X : Cx} {pins : List (Addr × Obj)} {σ : L2.St} {H HZ : Hp} {s s1 : Shared} {A1 : Around} {outer1 : List Env} {E : XK} {scope : Scope} {f c' : Addr} {params : Arguments} {body : Expr} {pm ctv : Value} {k : Nat} {tb : TE} {Q : VK}
end
section
variable {P : Program} {w : World} {K : PySem.W.Frag} {mg : Str → Option Value} {base : Heap} {X : Cx} {N M : List Str} {dsc : Scope} {body : List Stmt} {h₀ : ExceptHandler} {hds : List ExceptHandler} {l : List (Addr × Nat × List Stmt)} {env : DEnv} {C : CS} {E : DEnds} {pos : Pos}
end
end DL
/-! DMu: a lambda is made; what becomes of the one table is told outright. -/
namespace DL
open PySem PySem.Spec PySem.W PyProof.Rows L2 LamX
/-- the heap behind the making: the old one, or the table is longer by a new code object -/
inductive Made (R : Addr → Prop) (H : Hp) (P c' : Addr) (q : Str) (ps : Array Value) : Hp → Array Value → Prop
  | hit : R c' → Made R H P c' q ps H ps
  | new (pos : Pos) : H c' = none → c' ≠ P → Made R H P c' q ps (upd (upd H P (.tbl (ps ++ #[rawInt pos.line, rawInt pos.col, .ref c']))) c' (CodeO c' q)) (ps ++ #[rawInt pos.line, rawInt pos.col, .ref c'])
section
variable {X : Cx} {pins : List (Addr × Obj)} {σ : L2.St} {H : Hp} {s : Shared} {c P : Addr} {ps : Array Value} {params : Arguments} {body : Expr} {scope : Scope} {pos : Pos} {E : Value → Shared → Prop} {Qv : Value → Shared → Prop} {R : Addr → Prop}
end
section
variable {K : PySem.W.Frag} {G H H1 : Hp} {C : CS} {P c' : Addr} {q : Str} {cs : List Addr} {ps ps1 : Array Value}
/-- the world behind the making -/
theorem Wld.made (w : Wld K G C H) (hC : C P = some (.tbl q cs)) (hP : H P = some (.tbl ps)) (ht : TriplesOk ps.toList) (ha : ∀ (pos : Pos) (cv : Value), codeAmong pos ps.toList = some cv → ∃ c0, cv = .ref c0 ∧ G c0 = some (CodeO c0 q))
    (m : Made (fun c0 => G c0 = some (CodeO c0 q)) H P c' q ps H1 ps1) : ∃ G', Wld K G' (put C P (.tbl q (c' :: cs))) H1 ∧ Fr G C H G' (put C P (.tbl q (c' :: cs))) H1 ∧ G' c' = some (CodeO c' q) := by
  obtain ⟨gP, ⟨_, _, _, _, hcs⟩⟩ := w.cell P _ hC
  cases m with
  | hit hR =>
    refine ⟨G, ⟨w.ex, fun a d e => ?_, w.nt⟩, ⟨fun _ _ h => h, fun _ _ h _ _ => h, fun _ h => h, fun a _ k => ?_, fun _ _ k => .inl k⟩, hR⟩
    · by_cases z : a = P
      · subst z
        rw [put_same] at e
        cases e
        exact ⟨gP, ps, hP, ht, ha, fun d hd => (List.mem_cons.mp hd).elim (fun z => by rw [z]; exact hR) (hcs d)⟩
      · rw [put_ne z] at e
        exact w.cell a d e
    · by_cases z : a = P
      · subst z; rw [hC]; simp
      · rw [put_ne z] at k; exact k
  | new pos nCc nPc =>
    obtain ⟨gc, cc⟩ := w.ne nCc
    have sG : Same G (upd G c' (CodeO c' q)) := fun b u e => by rw [upd_ne (ne_of_none e gc)]; exact e
    have eH : ∀ {b : Addr}, b ≠ c' → b ≠ P → (upd (upd H P (.tbl (ps ++ #[rawInt pos.line, rawInt pos.col, .ref c']))) c' (CodeO c' q)) b = H b := fun h1 h2 => by rw [upd_ne h1, upd_ne h2]
    have eLt : (ps ++ #[rawInt pos.line, rawInt pos.col, .ref c']).toList = ps.toList ++ [rawInt pos.line, rawInt pos.col, .ref c'] := by simp
    refine ⟨upd G c' (CodeO c' q), ⟨fun b u e => ?_, fun a d e => ?_, fun b ps' e => ?_⟩, ⟨sG, fun a o e n _ => ?_, fun a e => ?_, fun a _ k => ?_, fun a e k => ?_⟩, upd_same⟩
    · by_cases z : b = c'
      · subst z; rw [upd_same] at e ⊢; exact e
      · rw [upd_ne z] at e
        rw [eH z (fun y => by rw [y, gP] at e; cases e)]
        exact w.ex b u e
    · by_cases z : a = P
      · subst z
        rw [put_same] at e
        cases e
        refine ⟨by rw [upd_ne nPc.symm]; exact gP, _, by rw [upd_ne nPc.symm, upd_same], by rw [eLt]; exact PySem.TriplesOk_snoc _ _ _ _ ht, fun p' cv hcv => ?_, fun d hd => ?_⟩
        · rw [eLt] at hcv
          rcases among_app _ ht hcv with y | y
          · obtain ⟨c0, e1, e2⟩ := ha p' cv y
            exact ⟨c0, e1, sG _ _ e2⟩
          · exact ⟨c', y, upd_same⟩
        · rcases List.mem_cons.mp hd with rfl | hd
          · exact upd_same
          · exact sG _ _ (hcs d hd)
      · rw [put_ne z] at e
        obtain ⟨g1, g2⟩ := w.cell a d e
        have nc : a ≠ c' := fun y => by rw [y, cc] at e; cases e
        exact ⟨by rw [upd_ne nc]; exact g1, g2.mono sG (eH nc z)⟩
    · by_cases z : b = c'
      · subst z
        rw [upd_same] at e
        exact codeO_ne _ (Option.some.inj e)
      · rw [upd_ne z] at e
        exact w.nt b ps' e
    · rw [eH (fun y => by rw [y, nCc] at e; cases e) (fun y => by rw [y, hC] at n; cases n)]
      exact e
    · by_cases z : a = c'
      · subst z; rw [upd_same]; simp
      · by_cases y : a = P
        · subst y; rw [upd_ne z, upd_same]; simp
        · rw [eH z y]; exact e
    · by_cases z : a = P
      · subst z; rw [hC]; simp
      · rw [put_ne z] at k; exact k
    · by_cases z : a = c'
      · subst z; exact absurd nCc e
      · rw [upd_ne z] at k; exact .inl k
end
end DL
/-! DMv: x(lambda: body), x a def of the module that calls what it got. -/
namespace DL
open PySem PySem.Spec PyProof.Rows L2 LamX
section
variable {P : Program} {w : World} {K : PySem.W.Frag} {mg : Str → Option Value} {base : Heap} {X : Cx} {j k : Nat} {x a : Str} {st : Stmt} {g cT Pt : Addr} {fd : FuncData} {Ng M Ds : List Str} {params : Arguments} {body : Expr} {scope : Scope} {lps p pos : Pos} {env : DEnv} {C : CS} {kd : KD} {cs : List Addr} {S : DEnv → CS → KD → KX → Prop}
end
end DL
/-! DMw: a law whose def makes lambdas: its body with its own code object, its end with the table. -/
namespace DL
open PySem PySem.Spec PyProof.Rows L2 LamX
section
variable {P : Program} {w : World} {K : PySem.W.Frag} {mg mb : Str → Option Value} {base : Heap} {CT : CXT} {n : Nat} {fa a ct Pt : Addr} {fd : FuncData} {x : Str} {sp : Sp} {s : Shared} {vs : List Value} {ns : List Int}
end
/-! anchored displays -/
section
variable {X : Cx} {A : Anc} {e : Expr} {es : List Expr} {env : DEnv} {C : CS} {k : KD} {ka : List D → CS → Prop} {pos : Pos} {x1 : Nat}
end
end DL
/-! DMx: y = [.. for a, b in ..]. -/
namespace DL
open PySem PySem.Spec PyProof.Rows L2
section
variable {X : Cx} {elt iter : Expr} {ifs : List Expr} {scope dsc : Scope} {env : DEnv} {C C1 : CS} {k : KD} {pos px py pt : Pos} {n : Nat} {E : DEnds} {N M gs : List Str} {x y : Str} {f1 : D → DEnv} {f2 : D → D → DEnv} {xs : List D} {Pc : CS → Prop}
end
/-! sorted(a list of texts) -/
section
variable {P : Program} {w : World} {K : PySem.W.Frag} {mg : Str → Option Value} {base : Heap} {j n : Nat} {X : Cx} {e : Expr} {es : List Expr} {env : DEnv} {C : CS} {k : KD} {pos p : Pos}
end
/-- what stands behind is not looked into -/
theorem wss_gen {X : Cx} {sts : List Stmt} {env : DEnv} {C : CS} {E : DEnds} (h : ∀ E' : DEnds, (∀ env' C', E.nx env' C' → E'.nx env' C') → (∀ d C', E.rt d C' → E'.rt d C') → WSs X sts env C E') : WSs X sts env C E := h E (fun _ _ h => h) fun _ _ h => h
end DL
/-! DMy: classes straight below KeyError: their __new__ is LookupError's. -/
namespace PySem
namespace DLX
open PySem.W PySem.Calls PyProof.Rows PySem.HandSPX Builtin Builtin.ObjectAttr
section
variable {M : Model} {A : Around} {E : Value → Shared → Prop} {h : Heap} {g : Array GenState} {d : Drawn} {t : Nat} {os : OsState} {nm q : Str} {C N : Addr} {bs bm bmB : List Value} {hdct : Bool} {sn : List Str} {sub : List Value} {ab : Bool} {col : Option Bool} {dd : Option Addr} {k0 k1 k2 k3 k5 : Option Value} {B newId initId : String}
variable {prog : Program} {w : World} {R : Result → Shared → Prop}
end
end DLX
end PySem
namespace DL
open PySem PySem.Spec PyProof.Rows L2 PySem.F PySem.DLX PySem.HandSPX
section
variable {M : Model} {A : Around} {E : Value → Shared → Prop} {h : Heap} {g : Array GenState} {d : Drawn} {t : Nat} {os : OsState} {nm q : Str} {C N : Addr} {bs bm : List Value} {hdct : Bool} {sn : List Str} {sub : List Value} {ab : Bool} {col : Option Bool} {dd : Option Addr} {k0 k1 k2 k3 k5 : Option Value} {B newId initId : String}
end
end DL
/-! DMz: zip(a, b, strict=True) of two tuples of one length. -/
namespace DLZ
open PySem RZ
open PySem.Sem (wp)
/-- a zip that asks that all end together -/
abbrev ZipS (hp : Heap) (zz TI TO : Addr) (f0 : Value) : Prop := hp.get? zz = some { cls := .type "zip", dict := none, data := .fields #[f0, .bool false, .bool true, .ref TI, .ref TO], slots := #[] }
section
variable {prog : Program} {w : World} {A : Around} {E : Value → Shared → Prop} {s : Shared}
theorem noe_item {it l : Addr} {i : Nat} {items : Array Value} {x : Value} {Q : Option Value → Shared → Prop} (hit : s.heap.IsTupleIter it l i) (hl : s.heap.IsTuple l items) (hx : items[i]? = some x)
    (hQ : ∀ h', h'.IsTupleIter it l (i + 1) → Heap.SameBut it s.heap h' → Q (some x) { s with heap := h' }) : wpAny (model prog w) A (Builtin.SmallTypes.nextOrEnd (.ref it)) Q E s := by
  unfold Builtin.SmallTypes.nextOrEnd
  refine wpAny_bind (wpAny_attempt (nextOf_tuple_item hit hl hx ?_))
  intro h' a b
  exact wpAny_pure (hQ h' a b)
theorem noe_end {it l : Addr} {i : Nat} {items : Array Value} {Q : Option Value → Shared → Prop} (hh : A.handled = none) (hit : s.heap.IsTupleIter it l i) (hl : s.heap.IsTuple l items) (hx : items[i]? = none)
    (hQ : ∀ h', Heap.ExtBut it s.heap h' → Q none { s with heap := h' }) : wpAny (model prog w) A (Builtin.SmallTypes.nextOrEnd (.ref it)) Q E s := by
  unfold Builtin.SmallTypes.nextOrEnd
  refine wpAny_bind (wpAny_attempt (nextOf_tuple_end hh hit hl hx ?_))
  intro h' e hk he
  obtain ⟨o, ho, hc⟩ := he
  refine wpAny_bind (wpAny_isInstance (T := "StopIteration") (b := true) ⟨o, ho, hc⟩ isSubtype_stop ?_)
  exact wpAny_pure (hQ _ hk)
theorem nextS_item {zz TI TO i1 i2 l1 l2 : Addr} {k1 k2 : Nat} {xs ys : Array Value} {x y a b : Value} {Q : Value → Shared → Prop} (ap : ZipApart zz TI TO i1 i2 l1 l2) (az : ZipS s.heap zz TI TO .none) (pI : IsPair s.heap TI (.ref i1) (.ref i2)) (pO : IsPair s.heap TO a b)
    (t1 : s.heap.IsTupleIter i1 l1 k1) (t2 : s.heap.IsTupleIter i2 l2 k2) (u1 : s.heap.IsTuple l1 xs) (u2 : s.heap.IsTuple l2 ys) (hx : xs[k1]? = some x) (hy : ys[k2]? = some y)
    (hQ : ∀ h', ZipS h' zz TI TO (rawInt s.heap.objs.size) → IsPair h' TO x y → h'.IsTupleIter i1 l1 (k1 + 1) → h'.IsTupleIter i2 l2 (k2 + 1) → IsPair h' s.heap.objs.size x y → h'.objs.size = s.heap.objs.size + 1 →
      (∀ c o, c ≠ zz → c ≠ TO → c ≠ i1 → c ≠ i2 → s.heap.get? c = some o → h'.get? c = some o) → Q (.ref s.heap.objs.size) { s with heap := h' }) :
    wpAny (model prog w) A (Builtin.«zip.__next__» ⟨[.ref zz], []⟩) (fun fin s' => ∃ v, fin = .done (.ret v) ∧ Q v s') E s := by
  show wpAny _ _ (field (.ref zz) 2 >>= _) _ _ _
  refine wpAny_bind (wpAny_field az rfl (x := .bool true) rfl ?_)
  show wpAny _ _ (field (.ref zz) 3 >>= _) _ _ _
  refine wpAny_bind (wpAny_field az rfl (x := .ref TI) rfl ?_)
  refine wpAny_bind (wpAny_seqItems pI rfl ?_)
  show wpAny _ _ (Builtin.SmallTypes.ownedTupleIsFree (.ref zz) >>= _) _ _ _
  refine wpAny_bind ?_
  unfold Builtin.SmallTypes.ownedTupleIsFree
  refine wpAny_bind (wpAny_field az rfl (x := .none) rfl (wpAny_pure ?_))
  simp only [if_true]
  refine wpAny_bind (wpAny_rule ?_)
  refine wpAny_bind (wpAny_field az rfl (x := .ref TO) rfl ?_)
  refine wpAny_bind (wpAny_setField_rec az (by simp) ?_)
  intro j1 z1 e1
  replace z1 : ZipS j1 zz TI TO .ellipsis := z1
  refine wpAny_bind ?_
  simp only [List.zipIdx_cons, List.zipIdx_nil, List.forIn_cons, List.forIn_nil]
  refine wpAny_bind (wpAny_bind (wpAny_onRaise ?_))
  show wpAny _ _ (Builtin.SmallTypes.nextOrEnd (.ref i1)) _ _ _
  refine noe_item (t1.extBut e1.extBut ap.i1z) (u1.extBut e1.extBut ap.l1z) hx ?_
  intro j2 v1 e2
  have o2 : IsPair j2 TO a b := e2.extBut _ _ ap.TOi1 (e1.extBut _ _ ap.TOz pO)
  refine wpAny_bind (wpAny_seqItems o2 rfl ?_)
  refine wpAny_bind (wpAny_updateSeq_pair o2 ?_)
  intro j3 o3 e3
  replace o3 : IsPair j3 TO x b := o3
  refine wpAny_bind (wpAny_letGo (wpAny_pure ?_))
  refine wpAny_bind (wpAny_bind (wpAny_onRaise ?_))
  show wpAny _ _ (Builtin.SmallTypes.nextOrEnd (.ref i2)) _ _ _
  refine noe_item (((t2.extBut e1.extBut ap.i2z).extBut e2.extBut ap.i12.symm).extBut e3.extBut ap.TOi2.symm) (((u2.extBut e1.extBut ap.l2z).extBut e2.extBut ap.l2i1).extBut e3.extBut ap.l2TO) hy ?_
  intro j4 v2 e4
  have o4 : IsPair j4 TO x b := e4.extBut _ _ ap.TOi2 o3
  refine wpAny_bind (wpAny_seqItems o4 rfl ?_)
  refine wpAny_bind (wpAny_updateSeq_pair o4 ?_)
  intro j5 o5 e5
  replace o5 : IsPair j5 TO x y := o5
  refine wpAny_bind (wpAny_letGo (wpAny_pure (wpAny_pure ?_)))
  refine wpAny_bind (wpAny_seqItems o5 rfl ?_)
  refine wpAny_bind (wpAny_newTuple ?_)
  have hsz : j5.objs.size = s.heap.objs.size := by rw [e5.1, e4.1, e3.1, e2.1, e1.1]
  have z5 : ZipS j5 zz TI TO .ellipsis := e5.extBut _ _ ap.TOz.symm (e4.extBut _ _ ap.i2z.symm (e3.extBut _ _ ap.TOz.symm (e2.extBut _ _ ap.i1z.symm z1)))
  have k5 : ∀ c o, c ≠ zz → c ≠ TO → c ≠ i1 → c ≠ i2 → s.heap.get? c = some o → j5.get? c = some o := by
    intro c o c1 c2 c3 c4 e
    exact e5.extBut _ _ c2 (e4.extBut _ _ c4 (e3.extBut _ _ c2 (e2.extBut _ _ c3 (e1.extBut _ _ c1 e))))
  have w1 : j5.IsTupleIter i1 l1 (k1 + 1) := ((v1.extBut e3.extBut ap.TOi1.symm).extBut e4.extBut ap.i12).extBut e5.extBut ap.TOi1.symm
  have w2 : j5.IsTupleIter i2 l2 (k2 + 1) := v2.extBut e5.extBut ap.TOi2.symm
  have zlt : zz < j5.objs.size := Heap.lt_size z5
  have olt : TO < j5.objs.size := Heap.lt_size o5
  show wpAny _ _ (Builtin.SmallTypes.ownedTupleHandOut (.ref zz) (.ref j5.objs.size) >>= _) _ _ _
  refine wpAny_bind ?_
  unfold Builtin.SmallTypes.ownedTupleHandOut
  have z6 : ZipS (j5.push { cls := .type "tuple", data := .seq #[x, y] }) zz TI TO .ellipsis := Heap.get?_push_of_some _ z5
  refine wpAny_bind (wpAny_setField_rec z6 (by simp) ?_)
  intro j7 z7 e7
  replace z7 : ZipS j7 zz TI TO (rawInt j5.objs.size) := z7
  refine wpAny_setField_rec z7 (by simp) ?_
  intro j8 z8 e8
  replace z8 : ZipS j8 zz TI TO (rawInt j5.objs.size) := z8
  have up : ∀ c o, c ≠ zz → j5.get? c = some o → j8.get? c = some o := by
    intro c o c1 e
    exact e8.extBut _ _ c1 (e7.extBut _ _ c1 (Heap.get?_push_of_some _ e))
  have T8 : IsPair j8 j5.objs.size x y := e8.extBut _ _ (Nat.ne_of_gt zlt) (e7.extBut _ _ (Nat.ne_of_gt zlt) (Heap.get?_push_size _ rfl))
  have s8 : j8.objs.size = j5.objs.size + 1 := by rw [e8.1, e7.1, Heap.size_push]
  rw [hsz] at z8 T8 s8
  refine wpAny_pure ⟨_, rfl, ?_⟩
  show Q (.ref j5.objs.size) _
  rw [hsz]
  refine hQ j8 z8 (up _ _ ap.TOz o5) (w1.at ?_) (w2.at ?_) T8 s8 ?_
  · intro o e
    exact up _ o ap.i1z e
  · intro o e
    exact up _ o ap.i2z e
  · intro c o c1 c2 c3 c4 e
    exact up c o c1 (k5 c o c1 c2 c3 c4 e)
theorem nextS_end {zz TI TO i1 i2 l1 l2 : Addr} {k1 k2 : Nat} {xs ys : Array Value} {a b : Value} {Q : Fin → Shared → Prop} (hh : A.handled = none) (ap : ZipApart zz TI TO i1 i2 l1 l2) (az : ZipS s.heap zz TI TO .none) (pI : IsPair s.heap TI (.ref i1) (.ref i2)) (pO : IsPair s.heap TO a b)
    (t1 : s.heap.IsTupleIter i1 l1 k1) (t2 : s.heap.IsTupleIter i2 l2 k2) (u1 : s.heap.IsTuple l1 xs) (u2 : s.heap.IsTuple l2 ys) (hx : xs[k1]? = none) (hy : ys[k2]? = none)
    (hE : ∀ h' e, (∀ c o, c ≠ zz → c ≠ TO → c ≠ i1 → c ≠ i2 → s.heap.get? c = some o → h'.get? c = some o) → (∃ o, h'.get? e = some o ∧ o.cls = .type "StopIteration") → E (.ref e) { s with heap := h' }) :
    wpAny (model prog w) A (Builtin.«zip.__next__» ⟨[.ref zz], []⟩) Q E s := by
  show wpAny _ _ (field (.ref zz) 2 >>= _) _ _ _
  refine wpAny_bind (wpAny_field az rfl (x := .bool true) rfl ?_)
  show wpAny _ _ (field (.ref zz) 3 >>= _) _ _ _
  refine wpAny_bind (wpAny_field az rfl (x := .ref TI) rfl ?_)
  refine wpAny_bind (wpAny_seqItems pI rfl ?_)
  show wpAny _ _ (Builtin.SmallTypes.ownedTupleIsFree (.ref zz) >>= _) _ _ _
  refine wpAny_bind ?_
  unfold Builtin.SmallTypes.ownedTupleIsFree
  refine wpAny_bind (wpAny_field az rfl (x := .none) rfl (wpAny_pure ?_))
  simp only [if_true]
  refine wpAny_bind (wpAny_rule ?_)
  refine wpAny_bind (wpAny_field az rfl (x := .ref TO) rfl ?_)
  refine wpAny_bind (wpAny_setField_rec az (by simp) ?_)
  intro j1 z1 e1
  replace z1 : ZipS j1 zz TI TO .ellipsis := z1
  refine wpAny_bind ?_
  simp only [List.zipIdx_cons, List.zipIdx_nil, List.forIn_cons, List.forIn_nil]
  refine wpAny_bind (wpAny_bind (wpAny_onRaise ?_))
  show wpAny _ _ (Builtin.SmallTypes.nextOrEnd (.ref i1)) _ _ _
  refine noe_end hh (t1.extBut e1.extBut ap.i1z) (u1.extBut e1.extBut ap.l1z) hx ?_
  intro j2 e2
  have z2 : ZipS j2 zz TI TO .ellipsis := e2 _ _ ap.i1z.symm z1
  refine wpAny_bind (wpAny_setField_rec z2 (by simp) ?_)
  intro j3 z3 e3
  refine wpAny_bind (wpAny_bind ?_)
  first
    | (show wpAny _ _ (if 0 > 0 then _ else _) _ _ _
       rw [if_neg (by decide)])
    | (show wpAny _ _ ((if 0 > 0 then _ else _) >>= _) _ _ _
       rw [if_neg (by decide)])
    | wp_step
  have v2 : j3.IsTupleIter i2 l2 k2 := (((t2.extBut e1.extBut ap.i2z).extBut e2 ap.i12.symm).extBut e3.extBut ap.i2z)
  have w2 : j3.IsTuple l2 ys := (((u2.extBut e1.extBut ap.l2z).extBut e2 ap.l2i1).extBut e3.extBut ap.l2z)
  simp only [List.drop_succ_cons, List.drop_zero, List.zipIdx_cons, List.zipIdx_nil, List.forIn'_cons, List.forIn'_nil]
  refine wpAny_bind (wpAny_bind (noe_end hh v2 w2 hy ?_))
  intro j4 e4
  rw [if_neg (by decide)]
  refine wpAny_pure (wpAny_pure (wpAny_bind (wpAny_rule ?_)))
  unfold Builtin.SmallTypes.stopIteration
  show wpAny _ _ (newExc (.type "StopIteration") [] >>= _) _ _ _
  refine wpAny_bind ?_
  simp only [newExc, newTuple]
  refine wpAny_bind (wpAny_newObj_type ?_ (by size_fits))
  refine wpAny_bind (m := firstArgMember _ _) (wpAny_of_eq (a := Value.none) (by first | rfl | (simp only [firstArgMember]; rfl)) ?_)
  refine wpAny_newObj_type ?_ (by size_fits)
  simp only [raiseNew]
  refine wpAny_bind (wpAny_handled ?_)
  first
    | rw [show A.in1.handled = none from hh]
    | rw [hh]
  refine wpAny_bind (wpAny_pure (wpAny_throw ?_))
  refine hE _ _ ?_ ⟨_, Heap.get?_push_size _ rfl, rfl⟩
  intro c o c1 c2 c3 c4 e
  exact Heap.get?_push_of_some _ (Heap.get?_push_of_some _ (e4 _ _ c4 (e3.extBut _ _ c1 (e2 _ _ c3 (e1.extBut _ _ c1 e)))))
theorem pyNextS_item {zz TI TO i1 i2 l1 l2 : Addr} {k1 k2 : Nat} {xs ys : Array Value} {x y a b : Value} {Q : Option Value → Shared → Prop} (ap : ZipApart zz TI TO i1 i2 l1 l2) (az : ZipS s.heap zz TI TO .none) (pI : IsPair s.heap TI (.ref i1) (.ref i2)) (pO : IsPair s.heap TO a b)
    (t1 : s.heap.IsTupleIter i1 l1 k1) (t2 : s.heap.IsTupleIter i2 l2 k2) (u1 : s.heap.IsTuple l1 xs) (u2 : s.heap.IsTuple l2 ys) (hx : xs[k1]? = some x) (hy : ys[k2]? = some y)
    (hQ : ∀ h', ZipS h' zz TI TO (rawInt s.heap.objs.size) → IsPair h' TO x y → h'.IsTupleIter i1 l1 (k1 + 1) → h'.IsTupleIter i2 l2 (k2 + 1) → IsPair h' s.heap.objs.size x y → h'.objs.size = s.heap.objs.size + 1 →
      (∀ c o, c ≠ zz → c ≠ TO → c ≠ i1 → c ≠ i2 → s.heap.get? c = some o → h'.get? c = some o) → Q (some (.ref s.heap.objs.size)) { s with heap := h' }) : wpAny (model prog w) A (pyNext (.ref zz)) Q E s := by
  have ty : s.TypeIs (.ref zz) "zip" := ⟨_, az, rfl⟩
  unfold pyNext
  refine wpAny_bind (wpAny_attempt (wpAny_callSpecial?_slot (name := Str.ofString "__next__") ty F.slot_zip_next (wpAny_call_entry F.slot_zip_next ty F.entry_zip_next (nextS_item ap az pI pO t1 t2 u1 u2 hx hy ?_) (F.args_zip_next_1 _))))
  intro h' a1 a2 a3 a4 a5 a6 a7
  exact wpAny_pure (hQ h' a1 a2 a3 a4 a5 a6 a7)
theorem pyNextS_end {zz TI TO i1 i2 l1 l2 : Addr} {k1 k2 : Nat} {xs ys : Array Value} {a b : Value} {Q : Option Value → Shared → Prop} (hh : A.handled = none) (ap : ZipApart zz TI TO i1 i2 l1 l2) (az : ZipS s.heap zz TI TO .none) (pI : IsPair s.heap TI (.ref i1) (.ref i2)) (pO : IsPair s.heap TO a b)
    (t1 : s.heap.IsTupleIter i1 l1 k1) (t2 : s.heap.IsTupleIter i2 l2 k2) (u1 : s.heap.IsTuple l1 xs) (u2 : s.heap.IsTuple l2 ys) (hx : xs[k1]? = none) (hy : ys[k2]? = none)
    (hQ : ∀ h', (∀ c o, c ≠ zz → c ≠ TO → c ≠ i1 → c ≠ i2 → s.heap.get? c = some o → h'.get? c = some o) → Q none { s with heap := h' }) : wpAny (model prog w) A (pyNext (.ref zz)) Q E s := by
  have ty : s.TypeIs (.ref zz) "zip" := ⟨_, az, rfl⟩
  unfold pyNext
  refine wpAny_bind (wpAny_attempt (wpAny_callSpecial?_slot (name := Str.ofString "__next__") ty F.slot_zip_next (wpAny_call_entry F.slot_zip_next ty F.entry_zip_next (nextS_end hh ap az pI pO t1 t2 u1 u2 hx hy ?_) (F.args_zip_next_1 _))))
  intro h' e hk he
  obtain ⟨o, ho, hc⟩ := he
  refine wpAny_bind (wpAny_isInstance (T := "StopIteration") (b := true) ⟨o, ho, hc⟩ isSubtype_stop ?_)
  exact wpAny_pure (hQ _ hk)
theorem goS {elts : List Expr} {x1 : Nat} {pos : Pos} {zz TI TO T : Addr} {Q : Unit → Shared → Prop} (az : ZipS s.heap zz TI TO (rawInt T)) (hQ : ∀ h', ZipS h' zz TI TO .none → Heap.SameBut zz s.heap h' → Q () { s with heap := h' }) :
    wpAny (model prog w) A (letOwnedTupleGo (.Tuple elts x1 pos) (.ref zz) (.ref T)) Q E s := by
  unfold letOwnedTupleGo
  refine wpAny_bind (wpAny_load az ?_)
  show wpAny _ _ (if (["enumerate", "zip", "dict_itemiterator", "dict_reverseitemiterator", "odict_iterator", "itertools.zip_longest", "itertools.pairwise"].contains "zip" && (#[rawInt T, .bool false, .bool true, .ref TI, .ref TO] : Array Value)[0]? == some (rawInt T)) = true then _ else _) Q E s
  rw [if_pos (by simp)]
  refine wpAny_bind (wpAny_rule ?_)
  show wpAny _ _ (setField (.ref zz) 0 .none) Q E s
  refine wpAny_setField_rec az (by simp) ?_
  intro h' a1 a2
  exact hQ h' a1 a2
theorem iterS {zz TI TO : Addr} {f0 : Value} {Q : Value → Shared → Prop} (az : ZipS s.heap zz TI TO f0) (h : Q (.ref zz) s) : wpAny (model prog w) A (pyIter (.ref zz)) Q E s := by
  have ty : s.TypeIs (.ref zz) "zip" := ⟨_, az, rfl⟩
  refine wpAny_pyIter_slot ty F.slot_zip_iter (wpAny_call_entry F.slot_zip_iter ty F.entry_zip_iter ?_ (F.args_zip_iter_1 _))
  show wpAny _ _ (ret (.ref zz)) _ _ s
  exact wpAny_pure ⟨_, rfl, "zip", _, ty, F.slot_zip_next.lookup, h⟩
/-- the heap behind zip(a, b, strict=True) -/
abbrev hp5 (h : Heap) (l1 l2 : Addr) : Heap := (zipTH4 h l1 l2).push { cls := .type "zip", data := .fields #[.none, .bool false, .bool true, .ref (zipTH2 h l1 l2).objs.size, .ref (zipTH3 h l1 l2).objs.size] }
theorem meetsS (l1 l2 : Addr) (xs ys : Array Value) : Meets (Builtin.«zip.__new__» ⟨[.type "zip", .ref l1, .ref l2], [("strict", .bool true)]⟩) (fun _ R s => s.heap.IsTuple l1 xs ∧ s.heap.IsTuple l2 ys ∧ R (.ok (.ret (.ref (zipTH4 s.heap l1 l2).objs.size))) { s with heap := hp5 s.heap l1 l2 }) := by
  refine .of_wp ?_
  intro prog w A R s h
  obtain ⟨hp, g, d, tk, os⟩ := s
  obtain ⟨hl1, hl2, h⟩ := h
  have sb := sub_zip
  have hL1 : Heap.IsTuple (Shared.heap ⟨hp, g, d, tk, os⟩) l1 xs := hl1
  have hL2 : Heap.IsTuple (Shared.heap ⟨hp.push { cls := .type "tuple_iterator", data := .fields #[.ref l1, .int 0 0] }, g, d, tk, os⟩) l2 ys := Heap.IsTuple.push hl2 _
  wp_walk using wpAny_pyIter_tuple hL1, wpAny_pyIter_tuple hL2
  exact ⟨_, rfl, h⟩
theorem tcS (a b : Value) : checkTypeCall "zip" ⟨[a, b], [("strict", .bool true)]⟩ = pure () := by kernel_rfl
theorem ncS (a b : Value) : checkBuiltinCall "zip.__new__" ⟨[.type "zip", a, b], [("strict", .bool true)]⟩ = pure () := by kernel_rfl
abbrev kwS : List (Str × Value) := [("strict", .bool true)]
theorem argsS (o a b : Value) : argsOk "object.__init__" ⟨[o, a, b], kwS⟩ := by
  unfold argsOk
  rw [signature?_of (id := "object.__init__") (n := ['_', '_', 't', 'i', 'n', 'i', '_', '_']) (o := ['t', 'c', 'e', 'j', 'b', 'o']) (by kernel_rfl) F.owner_object]
  kernel_rfl
theorem initS {self a : Value} {rest : List Value} (hl : typeLookup (.type "zip") "__init__" = pure (some (.builtin "object.__init__"))) (hm : Bind.madeBy (.type "zip") = pure (some "zip.__new__")) :
    Meets (Builtin.«object.__init__» ⟨self :: a :: rest, kwS⟩) (fun _ R s => s.TypeIs self "zip" ∧ R (.ok (.ret .none)) s) := by
  refine Meets.of_wp ?_
  intro prog w A R s hs
  obtain ⟨hT, hq⟩ := hs
  have hne : (some "zip.__new__" != some "object.__new__") = true := by decide
  repeat (any_goals (first
    | assumption
    | wp_step))
  exact ⟨_, rfl, hq⟩
theorem callS {l1 l2 : Addr} {xs ys : Array Value} {Q : Value → Shared → Prop} (u1 : s.heap.IsTuple l1 xs) (u2 : s.heap.IsTuple l2 ys) (h : (⟨hp5 s.heap l1 l2, s.gens, s.drawn, s.toks, s.os⟩ : Shared).TypeIs (.ref (zipTH4 s.heap l1 l2).objs.size) "zip" → Q (.ref (zipTH4 s.heap l1 l2).objs.size) { s with heap := hp5 s.heap l1 l2 }) :
    wpAny (model prog w) A (call (.type "zip") [.ref l1, .ref l2] kwS) Q E s := by
  have ft := F.called_zip
  obtain ⟨c, tl, hmro⟩ := ft.mro
  have hmade := ft.made
  have hsub := ft.sub
  refine wpAny_call (codeAny_of_tree ?_)
  show wpAny _ _ (callAny (.type "zip") _) _ _ _
  refine wpAny_pure ⟨Code.quiet_builtin _ (by decide +kernel), codeAny_builtin F.entry_type_call ?_⟩
  rw [Around.under_plain (weight_type_call_type "zip" [.ref l1, .ref l2] kwS) (units_type_call_type "zip" [.ref l1, .ref l2] kwS)]
  have n1 := ft.notType
  have n2 := ft.canCreate
  have c1 := tcS (.ref l1) (.ref l2)
  repeat (any_goals (first
    | assumption
    | wp_step))
  have tz : (⟨hp5 s.heap l1 l2, s.gens, s.drawn, s.toks, s.os⟩ : Shared).TypeIs (.ref (zipTH4 s.heap l1 l2).objs.size) "zip" := ⟨_, Heap.get?_push_size _ rfl, rfl⟩
  have made := meetsS l1 l2 xs ys prog w A.in1 (wants (fun obj s1 => obj = .ref (zipTH4 s.heap l1 l2).objs.size ∧ s1 = { s with heap := hp5 s.heap l1 l2 }) E) s ⟨u1, u2, ⟨rfl, rfl⟩⟩
  refine codeAny_mono (codeAny_call_builtin ft.plain F.entry_zip_new (wpAny_of_eq (ncS (.ref l1) (.ref l2)) made)) ?_
  intro r s1 hr
  cases r with
  | error e => exact hr
  | ok fl =>
    cases fl with
    | ret obj =>
      obtain ⟨rfl, rfl⟩ := hr
      have lk := ft.init.lookup
      have bd := ft.init.bind (.ref (zipTH4 s.heap l1 l2).objs.size)
      repeat (any_goals (first
        | assumption
        | wp_step))
      refine codeAny_mono (codeAny_call_builtin ft.init.plain F.entry_object_init (ft.init.check _ _ _ _ _ _ _ _ tz (argsS _ _ _) (initS lk hmade prog w A.in1 (wants (fun r s2 => r = .none ∧ s2 = { s with heap := hp5 s.heap l1 l2 }) E) _ ⟨tz, ⟨rfl, rfl⟩⟩))) ?_
      intro r2 s2 hr2
      cases r2 with
      | error e => exact hr2
      | ok fl2 =>
        cases fl2 with
        | ret r =>
          obtain ⟨rfl, rfl⟩ := hr2
          have hq := h tz
          repeat (any_goals (first
            | assumption
            | wp_step))
        | _ => exact hr2.elim
    | _ => exact hr.elim
end
end DLZ
namespace DLZ
open PySem PySem.Spec PyProof.Rows L2 RZ
/-- as ItzT; they end together -/
def ItzS (K : PySem.W.Frag) (a b : Addr) : It :=
  ⟨(ItzT K a b).go, (ItzT K a b).yld, fun i H => ∃ xs ys : List V, SqT K H a xs ∧ SqT K H b ys ∧ xs.length ≤ i ∧ ys.length ≤ i⟩
theorem turnS {P : Program} {w : World} {K : PySem.W.Frag} {elts : List Expr} {kk : Nat} {tpos : Pos} {a b zz TI TO i1 i2 : Addr} (ap : ZipApart zz TI TO i1 i2 a b) :
    Turn P w K (.Tuple elts kk tpos) (ItzS K a b) [zz, TI, TO, i1, i2] zz (fun i h => ZipS h zz TI TO .none ∧ IsPair h TI (.ref i1) (.ref i2) ∧ (∃ x y, IsPair h TO x y) ∧ h.IsTupleIter i1 a i ∧ h.IsTupleIter i2 b i) where
  mem := by simp
  obj := by
    rintro i h ⟨az, pI, ⟨x, y, pO⟩, ⟨o1, e1, _, d1⟩, ⟨o2, e2, _, d2⟩⟩ c hc
    simp only [List.mem_cons, List.not_mem_nil, or_false] at hc
    rcases hc with rfl | rfl | rfl | rfl | rfl
    · exact ⟨_, az, fun v q => nomatch q⟩
    · exact ⟨_, pI, fun v q => nomatch q⟩
    · exact ⟨_, pO, fun v q => nomatch q⟩
    · exact ⟨o1, e1, fun v q => by rw [d1] at q; cases q⟩
    · exact ⟨o2, e2, fun v q => by rw [d2] at q; cases q⟩
  keep := by
    rintro i h h' ⟨az, pI, ⟨x, y, pO⟩, v1, v2⟩ k
    exact ⟨k zz (by simp) _ az, k TI (by simp) _ pI, ⟨x, y, k TO (by simp) _ pO⟩, v1.at fun o q => k i1 (by simp) o q, v2.at fun o q => k i2 (by simp) o q⟩
  item := by
    intro X hP hw hK hc i pins s σ H E I hf st hg
    subst hP hw hK
    obtain ⟨az, pI, ⟨x0, y0, pO⟩, v1, v2⟩ := st
    obtain ⟨xs, ys, x, y, hqx, hqy, hx, hy⟩ := hg
    obtain ⟨its, rv, p, _⟩ := I.tuple hqx
    obtain ⟨its2, rv2, p2, _⟩ := I.tuple hqy
    obtain ⟨u, hu, ru⟩ := rv.get hx
    obtain ⟨u2, hu2, ru2⟩ := rv2.get hy
    have zl : zz < s.heap.objs.size := Heap.lt_size az
    refine pyNextS_item ap az pI pO v1 v2 p p2 (x := u) (y := u2) (by simpa using hu) (by simpa using hu2) ?_
    intro h' z' TO' h1' h2' hT hsz hk
    refine ⟨_, rfl, goS (s := { s with heap := h' }) z' ?_⟩
    intro h'' z'' sb
    have T2 : h''.get? s.heap.objs.size = some { cls := .type "tuple", data := .seq #[u, u2] } := (sb.2 _ (Nat.ne_of_gt zl)).trans hT
    have new : ObjOk X.prog X.w (upd H s.heap.objs.size (.tup [x, y])) h'' s.heap.objs.size (.tup [x, y]) := ⟨by show 2 ≤ sizeLine; decide, [u, u2], .cons ru (.cons ru2 .nil), ⟨_, T2, rfl, _, rfl⟩⟩
    have I1 : Inv X pins σ (upd H s.heap.objs.size (.tup [x, y])) { s with heap := h'' } := I.turnedNew (t' := s.toks) (ch := [zz, TI, TO, i1, i2])
      (fun c o hb q => (sb.2 c (fun q' => hb (by simp [q']))).trans (hk c o (fun q' => hb (by simp [q'])) (fun q' => hb (by simp [q'])) (fun q' => hb (by simp [q'])) (fun q' => hb (by simp [q'])) q)) hf (Nat.le_refl _) new
    refine ⟨.ref s.heap.objs.size, _, I1, rfl, ⟨_, x, y, rfl, I.hok.fresh (Nat.le_refl _), rfl, fun l hl => by rw [I.tuple_inj hl hqx]; exact hx, fun l hl => by rw [I.tuple_inj hl hqy]; exact hy⟩, ⟨z'', ?_, ⟨u, u2, ?_⟩, ?_, ?_⟩, ?_⟩
    · exact (sb.2 _ ap.TIz).trans (hk _ _ ap.TIz ap.TITO ap.TIi1 ap.TIi2 pI)
    · exact (sb.2 _ ap.TOz).trans TO'
    · exact h1'.at fun o q => (sb.2 _ ap.i1z).trans q
    · exact h2'.at fun o q => (sb.2 _ ap.i2z).trans q
    · intro c hcm
      have lt : c < s.heap.objs.size := by
        have hc := hcm
        simp only [List.mem_cons, List.not_mem_nil, or_false] at hc
        rcases hc with rfl | rfl | rfl | rfl | rfl
        · exact zl
        · exact Heap.lt_size pI
        · exact Heap.lt_size pO
        · obtain ⟨_, e1, _⟩ := v1; exact Heap.lt_size e1
        · obtain ⟨_, e2, _⟩ := v2; exact Heap.lt_size e2
      rw [upd_ne (Nat.ne_of_lt lt)]
      exact (hf c hcm).1
  done := by
    intro X hP hw hK hc i pins s σ H E I hf st hg
    subst hP hw hK
    obtain ⟨az, pI, ⟨x0, y0, pO⟩, v1, v2⟩ := st
    obtain ⟨xs, ys, hqx, hqy, g1, g2⟩ := hg
    obtain ⟨its, rv, p, _⟩ := I.tuple hqx
    obtain ⟨its2, rv2, p2, _⟩ := I.tuple hqy
    have l1 := rv.length
    have l2 := rv2.length
    refine pyNextS_end (I.ok.hd hc) ap az pI pO v1 v2 p p2 (by simp; omega) (by simp; omega) ?_
    intro h' hk
    exact ⟨rfl, I.turnedL (t' := s.toks) (ch := [zz, TI, TO, i1, i2]) (fun c o hb q => hk c o (fun q' => hb (by simp [q'])) (fun q' => hb (by simp [q'])) (fun q' => hb (by simp [q'])) (fun q' => hb (by simp [q'])) q) hf⟩
  self := fun A i s Q E st h => iterS st.1 h
end DLZ
namespace DLZ
open PySem PySem.Spec PyProof.Rows L2 RZ
theorem cwType {M : Model} {A : Around} {E : Value → Shared → Prop} {s : Shared} {pos : Pos} {T : String} {first : List Value} {args : List (Bool × Sem Value)} {kws : List (Option Str × Sem Value)} {Q : Value → Shared → Prop} (hpl : args.any (·.1) = false) (hnone : kws.any (·.1.isNone) = false)
    (h : wpAny M A (evalArgs (.type T) true args kws) (fun a s1 => wpAny M A (call (.type T) (first ++ a.pos) a.kw) Q E s1) E s) : wpAny M A (callWith pos (.type T) first args kws) Q E s := by
  unfold callWith
  refine wpAny_bind (wpAny_holding (wpAny_mono h ?_ fun _ _ x => x))
  intro a s1 h1
  refine wpAny_bind (wpAny_standAt ?_)
  simp only [hpl, hnone, Bool.or_false]
  refine wpAny_bind (wpAny_pure ?_)
  refine wpAny_bind (wpAny_mono h1 ?_ fun _ _ x => x)
  intro r s2 hr
  exact wpAny_bind (wpAny_holding (wpAny_point (wpAny_pure hr)))
theorem hp5_at (h : Heap) (l1 l2 : Addr) : (zipTH4 h l1 l2).objs.size = h.objs.size + 4 ∧ ZipS (hp5 h l1 l2) (h.objs.size + 4) (h.objs.size + 2) (h.objs.size + 3) .none ∧ IsPair (hp5 h l1 l2) (h.objs.size + 2) (.ref h.objs.size) (.ref (h.objs.size + 1)) ∧ IsPair (hp5 h l1 l2) (h.objs.size + 3) .none .none ∧
    (hp5 h l1 l2).IsTupleIter h.objs.size l1 0 ∧ (hp5 h l1 l2).IsTupleIter (h.objs.size + 1) l2 0 ∧ ∀ c o, h.get? c = some o → (hp5 h l1 l2).get? c = some o := by
  have z1 : (zipTH1 h l1).objs.size = h.objs.size + 1 := Heap.size_push ..
  have z2 : (zipTH2 h l1 l2).objs.size = h.objs.size + 2 := by rw [Heap.size_push, z1]
  have z3 : (zipTH3 h l1 l2).objs.size = h.objs.size + 3 := by rw [Heap.size_push, z2]
  have z4 : (zipTH4 h l1 l2).objs.size = h.objs.size + 4 := by rw [Heap.size_push, z3]
  have g5 : (hp5 h l1 l2).get? (zipTH4 h l1 l2).objs.size = some _ := Heap.get?_push_size _ rfl
  have g4 : (hp5 h l1 l2).get? (zipTH3 h l1 l2).objs.size = some _ := Heap.get?_push_of_some _ (Heap.get?_push_size _ rfl)
  have g3 : (hp5 h l1 l2).get? (zipTH2 h l1 l2).objs.size = some _ := Heap.get?_push_of_some _ (Heap.get?_push_of_some _ (Heap.get?_push_size _ rfl))
  have g2 : (hp5 h l1 l2).get? (zipTH1 h l1).objs.size = some _ := Heap.get?_push_of_some _ (Heap.get?_push_of_some _ (Heap.get?_push_of_some _ (Heap.get?_push_size _ rfl)))
  have g1 : (hp5 h l1 l2).get? h.objs.size = some _ := Heap.get?_push_of_some _ (Heap.get?_push_of_some _ (Heap.get?_push_of_some _ (Heap.get?_push_of_some _ (Heap.get?_push_size _ rfl))))
  rw [z2, z3, z4] at g5
  rw [z3] at g4
  rw [z1, z2] at g3
  rw [z1] at g2
  refine ⟨z4, g5, g3, g4, ⟨_, g1, rfl, rfl⟩, ⟨_, g2, rfl, rfl⟩, ?_⟩
  intro c o e
  exact Heap.get?_push_of_some _ (Heap.get?_push_of_some _ (Heap.get?_push_of_some _ (Heap.get?_push_of_some _ (Heap.get?_push_of_some _ e))))
def iZipS (K : PySem.W.Frag) (ta tk : TA) : TI := fun σ H R => ta σ H fun vs H1 => tk σ H1 fun zs H2 => ∃ a b xs ys, vs = [.ref a, .ref b] ∧ zs = [.bl true] ∧ SqT K H2 a xs ∧ SqT K H2 b ys ∧ R (ItzS K a b) H2
theorem pi_zipS {X : Cx} {e e2 : Expr} {kws : List Keyword} {ta tk : TA} {p pos tpos : Pos} {elts : List Expr} {kk : Nat} (hg : Gl X "zip") (hm : X.mg "zip" = none) (ha : PA X [e, e2] ta) (hk : PK X kws tk)
    (hs : backTo pos (starEach [e, e2] X.env) = (false, eval e X.env) :: backTo pos (starEach [e2] X.env) := by rfl) (hpl : (backTo pos (starEach [e, e2] X.env)).any (·.1) = false := by rfl)
    (hall : (backToKw pos (keywordEach kws X.env)).all (·.1.isSome) = true := by rfl) (hnone : (backToKw pos (keywordEach kws X.env)).any (·.1.isNone) = false := by rfl) (hks : (backToKw pos (keywordEach kws X.env)).filterMap (·.1) = (["strict"] : List Str) := by rfl) :
    PI X (.Tuple elts kk tpos) (.Call (.Name "zip" p) [e, e2] kws pos) (iZipS X.K ta tk) := by
  refine ⟨fun pins s σ H R I h => ?_⟩
  refine wpAny_Call_Name_kw (ld_blt I hg hm PyProof.Rows.boot_zip ?_)
  refine cwType hpl hnone ?_
  rw [hs]
  refine evalArgs_kw hall ?_
  rw [← hs]
  refine thn (ha.run pos pins s σ H _ I h) ?_
  intro us s1 z1
  obtain ⟨vs, H1, I1, r1, q1⟩ := z1
  refine thn (hk.run pos pins s1 σ H1 _ I1 q1) ?_
  intro ws s2 z2
  obtain ⟨zs, H2, I2, r2, a, b, xs, ys, rfl, rfl, hqx, hqy, q⟩ := z2
  rw [hks]
  cases r1 with
  | cons ra rr =>
    cases rr with
    | cons rb rr =>
      cases rr
      cases ra
      cases rb
      cases r2 with
      | cons rt rr =>
        cases rr
        cases rt
        have fresh5 : ∀ c, c ∈ [s2.heap.objs.size + 4, s2.heap.objs.size + 2, s2.heap.objs.size + 3, s2.heap.objs.size, s2.heap.objs.size + 1] → FpOk X pins H2 c := by
          intro c hcm
          have hle : s2.heap.objs.size ≤ c := by
            simp only [List.mem_cons, List.not_mem_nil, or_false] at hcm
            omega
          exact I2.fpOk hle (I2.hok.fresh hle)
        obtain ⟨its, rv, p1, _⟩ := I2.tuple hqx
        obtain ⟨its2, rv2, p2, _⟩ := I2.tuple hqy
        obtain ⟨o1, ho1, _⟩ := id p1
        obtain ⟨o2, ho2, _⟩ := id p2
        refine callS (show s2.heap.IsTuple a its.toArray from p1) (show s2.heap.IsTuple b its2.toArray from p2) ?_
        intro tz
        obtain ⟨f0, f1, f2, f3, f4, f5, f6⟩ := hp5_at s2.heap a b
        rw [f0]
        refine iterS f1 ?_
        have I3 : Inv X pins σ H2 { s2 with heap := hp5 s2.heap a b } := I2.kept (t' := s2.toks) f6
        exact ⟨s2.heap.objs.size + 4, [s2.heap.objs.size + 4, s2.heap.objs.size + 2, s2.heap.objs.size + 3, s2.heap.objs.size, s2.heap.objs.size + 1], _, _, H2, rfl, I3, turnS (PySem.W.ktu_apart s2.heap.objs.size a b (Heap.lt_size ho1) (Heap.lt_size ho2)), ⟨f1, f2, ⟨_, _, f3⟩, f4, f5⟩, fresh5, q⟩
end DLZ
/-! DNa: zip(a, b, strict=True) over data; makings by keywords that may raise. -/
namespace DL
open PySem PySem.Spec PyProof.Rows L2
open DLZ (ItzS iZipS pi_zipS)
section
variable {X : Cx} {a b : Expr} {ts : List Expr} {kws : List Keyword} {env : DEnv} {C : CS} {kI : KI} {pos p tpos : Pos} {n m : Nat} {P : Program} {w : World} {K : PySem.W.Frag} {mg : Str → Option Value} {base : Heap}
end
section
variable {X : Cx} {n np : Nat} {fa Ca : Addr} {fd : FuncData} {ps ks : List Str} {sp : Sp} {W : WX} {x : Str} {pos p : Pos} {kws : List Keyword} {tk : TA} {g : List Value → List Value → List Value} {gV : List V → List V → List V}
end
section
variable {P : Program} {w : World} {K : PySem.W.Frag} {mg : Str → Option Value} {base : Heap} {j n : Nat} {X : Cx} {A : Anc} {Cl : Addr} {x : Str} {S : DSpX} {gD : List D → List D → List D} {ks : List Str} {kws : List Keyword} {env : DEnv} {C : CS} {k : KD} {kx : DEnv → KX} {pos p : Pos}
end
end DL
/-! DNb: a tuple many times over. -/
namespace DL
open PySem PySem.Spec PyProof.Rows L2
end DL
/-! DNc: dicts: or by truth, dict(d), d.get(k), comprehensions over a dict that is empty. -/
namespace DL
open PySem PySem.Spec PyProof.Rows L2
section
variable {X : Cx} {a b e o : Expr} {es rest : List Expr} {env : DEnv} {C : CS} {k : KD} {pos p apos cpos : Pos} {K : PySem.W.Frag}
/-- the truth of what stands in cells, too -/
def truC (C : CS) : D → Option Bool
  | .own q => match C q with
    | some (.dic kvs) => some (!kvs.isEmpty)
    | some (.lst xs) => some (!xs.isEmpty)
    | _ => none
  | d => truD d
theorem truC_ok {G H : Hp} {C : CS} {v : V} {d : D} {t : Bool} (w : Wld K G C H) (r : Dat K G v d) (e : truC C d = some t) : TruV K v H t := by
  cases d with
  | own q =>
    cases r
    simp only [truC] at e
    split at e
    · rename_i kvs hq
      obtain ⟨_, kw, h1, h2, _⟩ := w.dic (.own q) hq
      refine .inr (.inr ⟨kw, h1, ?_⟩)
      rw [← Option.some.inj e]
      have hl : kw.length = kvs.length := by rw [← List.length_map (f := (·.1)) (as := kw), h2, List.length_map]
      cases kw <;> cases kvs <;> first | rfl | (simp at hl; done)
    · rename_i xs hq
      obtain ⟨_, vs, h1, h2⟩ := w.cell q _ hq
      refine .inl ⟨vs, SqL.of h1, ?_⟩
      rw [← Option.some.inj e]
      have hl := h2.length
      cases vs <;> cases xs <;> first | rfl | (simp at hl; done)
    · cases e
  | _ => exact truD_ok r e
theorem x_orC (h : WE X a env C fun x C1 => ∃ t, truC C1 x = some t ∧ (t = true → k x C1) ∧ (t = false → WE X (.BoolOp .Or (b :: rest) pos) env C1 k)) : WE X (.BoolOp .Or (a :: b :: rest) pos) env C k := .of (pe_orT pe_tS pe_tS) fun G σ H Q w er q => h G σ H _ w er fun v G1 C1 H1 x f1 w1 d1 hb => by
  obtain ⟨t, e, ht, hf⟩ := hb
  refine ⟨t, truC_ok w1 d1 e, ?_⟩
  cases t
  · simpa using hf rfl G1 σ H1 Q w1 (er.mono f1.exG) (q.after f1)
  · simpa using q v G1 C1 H1 x f1 w1 d1 (ht rfl)
/-- dict(d) -/
def dDictD : List D → CS → KD → Prop := fun ds C k => ∃ (a : Addr) (kvs : List (Key × D)), ds = [.own a] ∧ C a = some (.dic kvs) ∧ ∀ p, C p = none → k (.own p) (put C p (.dic kvs))
theorem rl_dictD : RLD K (fun xs H Q => ∃ (a : Addr) (kvs : List (Key × V)), xs = [.ref a] ∧ Rd H a (.dK kvs) ∧ ∀ p, H p = none → Q (.ref p) (upd H p (.dK kvs))) dDictD := by
  rintro xs ds G C H k Q w rs ⟨a, kvs, rfl, hp, hk⟩ q
  cases rs with
  | cons r1 r2 =>
    cases r2
    obtain ⟨rfl, kw, h1, h2, h3⟩ := w.dic r1 hp
    refine ⟨a, kw, rfl, .inl h1, fun p hp => ?_⟩
    obtain ⟨w3, f3⟩ := w.newC hp (o := .dK kw) (c := .dic kvs) fun H' e => ⟨_, e, h2, h3⟩
    exact q _ _ _ _ _ f3 w3 (.own p) (hk p (w.ne hp).2)
end
section
variable {P : Program} {w : World} {K : PySem.W.Frag} {mg : Str → Option Value} {base : Heap} {j n : Nat} {X : Cx} {a b e o : Expr} {es : List Expr} {env : DEnv} {C : CS} {k : KD} {pos p apos cpos : Pos}
theorem x_dictD (hx : Ctx P w K mg base j X) (Z : Zs mg) (hg : Gl X "dict") (h : WA X (e :: es) env C fun ds C1 => dDictD ds C1 k) (he : starEach (e :: es) X.env = (false, eval e X.env) :: starEach es X.env := by rfl) (hpl : (backTo pos (starEach es X.env)).any (·.1) = false := by rfl) : WE X (.Call (.Name "dict" p) (e :: es) [] pos) env C k :=
  we_ct (hx.zs Z).dict call_dictD rl_dictD hg (by decide +kernel) h (he := he) (hpl := hpl)
/-- d.get(k) -/
theorem x_dget1 (hx : Ctx P w K mg base j X) (h : WE X o env C fun x C1 => ∃ p kvs, x = .own p ∧ C1 p = some (.dic kvs) ∧ WE X a env C1 fun y C2 => ∃ kvs ky, y = kD ky ∧ C2 p = some (.dic kvs) ∧ k ((valD kvs ky).getD .non) C2)
    (m : M1 X o "get" apos a cpos) : WE X (.Call (.Attribute o "get" apos) [a] [] cpos) env C k :=
  .of (pe_dget1 hx.hu pe_tS pe_tS m) fun G σ H Q w er q => h G σ H _ w er fun x' G1 C1 H1 x f1 w1 r1 z => by
    obtain ⟨p, kvs, rfl, hp, z⟩ := z
    obtain ⟨rfl, kw, h1, h2, h3⟩ := w1.dic r1 hp
    refine ⟨p, rfl, .inl ⟨kw, .inl h1⟩, z G1 σ H1 _ w1 (er.mono f1.exG) fun y' G2 C2 H2 y f2 w2 r2 z2 => ?_⟩
    obtain ⟨kvs', ky, rfl, hp', hk⟩ := z2
    obtain ⟨_, kw', g1, g2, g3⟩ := w2.dic (.own p) hp'
    have e := dat_key r2
    subst e
    obtain ⟨u1, u2, u3⟩ := rel_val (k := ky) g2 g3
    refine ⟨valV kw' ky, DGet.k g1, ?_⟩
    cases hv : valD kvs' ky with
    | none =>
      rw [u1 hv]
      rw [hv] at hk
      exact q _ _ _ _ _ (f1.trans f2) w2 .non hk
    | some d =>
      obtain ⟨v, e1, e2⟩ := u2 d hv
      rw [e1]
      rw [hv] at hk
      exact q _ _ _ _ _ (f1.trans f2) w2 e2 hk
end
/-! comprehensions over a dict that is empty -/
section
variable {X : Cx} {kx vx elt tg iter : Expr} {ifs : List Expr} {scope : Scope} {own : List (Str × Nat)} {env : DEnv} {C : CS} {k : KD} {pos : Pos} {p : Addr}
/-- a locked dict is given back: a new cell behind -/
theorem keys0_back {G : Hp} {H : Hp} {C : CS} {od : Obj} {Q : VK} {k : KD} {c : Cell} {o : HO} (hp : C p = some (.dic [])) (w : Wld X.K G C H) (q : Kont X.K G C H k Q) {G1 H1 : Hp} (f1 : Fr G (del C p) (upd H p (.frz od (.dK []))) G1 (del C p) H1) (w1 : Wld X.K G1 (del C p) H1)
    (hfz : H1 p = some (.frz od (.dK []))) {D : Addr} (hD : H1 D = none) (hc : ∀ H', H' D = some o → CellR X.K G1 H' D c) (hk : ∀ a, C a = none → k (.own a) (put C a c)) : (upd H1 D o) p = some (.frz od (.dK [])) ∧ Q (.ref D) (upd (upd H1 D o) p (.dK [])) := by
  have hne : p ≠ D := fun e => by rw [e, hD] at hfz; cases hfz
  refine ⟨by rw [upd_ne hne]; exact hfz, ?_⟩
  obtain ⟨w2, f2⟩ := w1.newC hD (o := o) (c := c) hc
  obtain ⟨_, kw, e0, e1, e2⟩ := w.cell p _ hp
  obtain rfl : kw = [] := List.map_eq_nil_iff.mp e1
  obtain ⟨w3, f3⟩ := Wld.unlock w hp e1 e2 (f1.trans f2) w2
  have hCD : C D = none := by
    have := (w1.ne hD).2
    rwa [del_ne hne.symm] at this
  have e : put (put (del C p) D c) p (.dic []) = put C D c := by
    funext a
    by_cases ha : a = p
    · subst ha; rw [put_same, put_ne hne, hp]
    · rw [put_ne ha]
      by_cases hb : a = D
      · subst hb; rw [put_same, put_same]
      · rw [put_ne hb, put_ne hb, del_ne ha]
  rw [e] at w3 f3
  exact q _ _ _ _ _ f3 w3 (.own D) (hk D hCD)
theorem we_dc0 (own : List (Str × Nat)) (hc : X.calm = true) (hN : X.N.Nodup) (ok : BlkOk X.N X.env.scope scope own) (hp : C p = some (.dic [])) (h : WE X iter env (del C p) fun d C1 => d = .own p ∧ C1 = del C p) (hk : ∀ a, C a = none → k (.own a) (put C a (.dic [])))
    (hs : ∀ x, foldedSetIterable iter X.env x = pure x := by intro _; rfl) : WE X (.DictComp kx vx [⟨tg, iter, ifs, 0⟩] scope pos) env C k := by
  refine .of (pe_lock (pe_dc (own := own) (g := fun _ _ _ _ => False) (tt := fun _ _ _ => False) (tk := fun _ _ _ => False) (tv := fun _ _ _ => False) hc hN (pi_keys pe_tS) ok ?_ ?_ ?_ ?_ hs)) fun G σ H Q w er q => ?_
  · exact fun s H C cl fp => ⟨fun _ _ _ _ _ _ _ _ _ z => z.elim⟩
  · exact fun s H C cl fp => ⟨fun _ _ _ _ _ _ z => z.elim⟩
  · exact fun s H C cl fp => ⟨fun _ _ _ _ _ _ z => z.elim⟩
  · exact fun s H C cl fp => ⟨fun _ _ _ _ _ _ z => z.elim⟩
  · obtain ⟨_, kw, e0, e1, e2⟩ := w.cell p _ hp
    obtain rfl : kw = [] := List.map_eq_nil_iff.mp e1
    refine ⟨p, .dK [], e0, trivial, fun od => ?_⟩
    have w0 := w.lock hp (.frz od (.dK []))
    refine h G σ _ _ w0 er fun u G1 C1 H1 d f1 w1 r1 z => ?_
    obtain ⟨rfl, rfl⟩ := z
    cases r1
    have hfz : H1 p = some (.frz od (.dK [])) := f1.keep p _ upd_same del_same (by intro _ z; cases z)
    refine ⟨p, od, rfl, .inl ⟨[], hfz, fun D hD => ?_⟩⟩
    have hne : p ≠ D := fun e => by rw [e, hD] at hfz; cases hfz
    refine ⟨fun i m H' => H' = upd H1 D (.dK []), ⟨0, rfl⟩, ?_⟩
    rintro i m H' rfl
    refine .inl ⟨⟨by rw [upd_ne hne]; exact hfz, Nat.zero_le _⟩, ?_⟩
    exact keys0_back (c := .dic []) hp w q f1 w1 hfz hD (fun H' e => ⟨[], e, rfl, .nil⟩) hk
theorem we_lc0 (own : List (Str × Nat)) (hc : X.calm = true) (hN : X.N.Nodup) (ok : BlkOk X.N X.env.scope scope own) (hp : C p = some (.dic [])) (h : WE X iter env (del C p) fun d C1 => d = .own p ∧ C1 = del C p) (hk : ∀ a, C a = none → k (.own a) (put C a (.lst [])))
    (hs : ∀ x, foldedSetIterable iter X.env x = pure x := by intro _; rfl) : WE X (.ListComp elt [⟨tg, iter, ifs, 0⟩] scope pos) env C k := by
  refine .of (pe_lock (pe_lc (own := own) (g := fun _ _ _ _ => False) (tt := fun _ _ _ => False) (te := fun _ _ _ => False) hc hN (pi_keys pe_tS) ok ?_ ?_ ?_ hs)) fun G σ H Q w er q => ?_
  · exact fun s H C cl fp => ⟨fun _ _ _ _ _ _ _ _ _ z => z.elim⟩
  · exact fun s H C cl fp => ⟨fun _ _ _ _ _ _ z => z.elim⟩
  · exact fun s H C cl fp => ⟨fun _ _ _ _ _ _ z => z.elim⟩
  · obtain ⟨_, kw, e0, e1, e2⟩ := w.cell p _ hp
    obtain rfl : kw = [] := List.map_eq_nil_iff.mp e1
    refine ⟨p, .dK [], e0, trivial, fun od => ?_⟩
    have w0 := w.lock hp (.frz od (.dK []))
    refine h G σ _ _ w0 er fun u G1 C1 H1 d f1 w1 r1 z => ?_
    obtain ⟨rfl, rfl⟩ := z
    cases r1
    have hfz : H1 p = some (.frz od (.dK [])) := f1.keep p _ upd_same del_same (by intro _ z; cases z)
    refine ⟨p, od, rfl, .inl ⟨[], hfz, fun D hD => ?_⟩⟩
    have hne : p ≠ D := fun e => by rw [e, hD] at hfz; cases hfz
    refine ⟨fun i m H' => H' = upd H1 D (.lst []), ⟨0, rfl⟩, ?_⟩
    rintro i m H' rfl
    refine .inl ⟨⟨by rw [upd_ne hne]; exact hfz, Nat.zero_le _⟩, ?_⟩
    exact keys0_back (c := .lst []) hp w q f1 w1 hfz hD (fun H' e => ⟨[], e, .nil⟩) hk
end
section
variable {X : Cx} {kx vx elt iter : Expr} {scope dsc : Scope} {env : DEnv} {C : CS} {k : KD} {pos px : Pos} {p : Addr} {N : List Str} {x : Str} {ifs : List Expr}
theorem x_dc0 (i : Nat) (D0 : Dfc X N dsc) (hi : N[i]? = some x) (ok : blkC N dsc scope [(x, N.idxOf x)] = true) (hp : C p = some (.dic [])) (h : WE X iter env (del C p) fun d C1 => d = .own p ∧ C1 = del C p) (hk : ∀ a, C a = none → k (.own a) (put C a (.dic [])))
    (hs : ∀ x, foldedSetIterable iter X.env x = pure x := by intro _; rfl) : WE X (.DictComp kx vx [⟨.Name x px, iter, ifs, 0⟩] scope pos) env C k := we_dc0 [(x, i)] D0.calm D0.nd (lc_own D0 hi ok) hp h hk hs
theorem x_lc0 (i : Nat) (D0 : Dfc X N dsc) (hi : N[i]? = some x) (ok : blkC N dsc scope [(x, N.idxOf x)] = true) (hp : C p = some (.dic [])) (h : WE X iter env (del C p) fun d C1 => d = .own p ∧ C1 = del C p) (hk : ∀ a, C a = none → k (.own a) (put C a (.lst [])))
    (hs : ∀ x, foldedSetIterable iter X.env x = pure x := by intro _; rfl) : WE X (.ListComp elt [⟨.Name x px, iter, ifs, 0⟩] scope pos) env C k := we_lc0 [(x, i)] D0.calm D0.nd (lc_own D0 hi ok) hp h hk hs
end
end DL
/-! DNd: d.get(k) where the keys of d are texts and k is something else. -/
namespace DLO
open PySem PySem.SeqAt
section
variable {prog : Program} {w : World} {A : Around} {E : Value → Shared → Prop} {s : Shared}
/-- a key that is no text -/
structure OddK (s : Shared) (A : Around) (k : NestedKey) (v : Value) : Prop where
  is : NestedIs s.heap k v
  ne : ∀ x, k ≠ .text x
  dp : k.depth ≤ 8
  hu : A.units + k.depth < cLine
theorem odd_eq {k : NestedKey} {v : Value} {x : Str} {t : Tok} {Q : Bool → Shared → Prop} (O : OddK s A k v) (h : Q false s) : wpAny (model prog w) A (eqBool (.str x t) v) Q E s := by
  refine eqAt_key (.text x) k A s _ v (.text x t) O.is ?_ prog w E Q ?_
  · have := O.hu
    show A.units + min 0 k.depth < cLine
    omega
  · have : NestedKey.beq (.text x) k = false := by
      cases hk : k with
      | text y => exact absurd hk (O.ne y)
      | _ => rfl
    rw [this]
    exact h
abbrev Texts (es : Array DictEntry) : Prop := ∀ e ∈ es, ∃ x t, e.key = Value.str x t
theorem odd_plain {d : Addr} {o : Obj} {es : Array DictEntry} {ep : Nat} {k : NestedKey} {v : Value} {hs : Int} {ps : List Nat} {Q : Option Nat → Shared → Prop} (ho : s.heap.get? d = some o) (hd : o.data = .dict es ep) (hes : Texts es) (O : OddK s A k v) (h : Q none s) :
    wpAny (model prog w) A (dictWalkPlain d v hs es ps) Q E s := by
  unfold dictWalkPlain
  refine wpAny_bind ?_
  refine wpAny_forIn_list _ (fun _ b s' => s' = s ∧ b = (none, ())) _ ?_ ?_ _ _ ⟨rfl, rfl⟩
  · rintro x rest b s' ⟨rfl, rfl⟩
    cases hx : es[x]? with
    | none => exact wpAny_pure ⟨rfl, rfl⟩
    | some e =>
      obtain ⟨y, t, hy⟩ := hes e (Array.mem_of_getElem? hx)
      dsimp only
      by_cases hh : (e.hash == hs) = true
      · rw [if_pos hh, hy]
        refine wpAny_bind (wpAny_dictEpoch ho hd (wpAny_bind (odd_eq O (wpAny_bind (wpAny_dictEpoch ho hd ?_)))))
        show wpAny _ _ (if (ep != ep) = true then _ else _) _ E _
        rw [if_neg (by simp)]
        exact wpAny_bind (wpAny_rule (wpAny_pure ⟨rfl, rfl⟩))
      · rw [if_neg hh]
        exact wpAny_pure ⟨rfl, rfl⟩
  · rintro b s' ⟨rfl, rfl⟩
    exact wpAny_pure h
theorem odd_tell {k : NestedKey} {v : Value} {stored : List Value} {Q : Bool → Shared → Prop} (O : OddK s A k v) (hst : ∀ u ∈ stored, carriedByValue u = true) (h : Q false s) : wpAny (model prog w) A (tableMayTell v stored) Q E s := by
  unfold tableMayTell
  split
  · exact wpAny_pure h
  · refine wpAny_bind (quiet_key k v 8 s O.is O.dp A E _ ?_)
    simp only [Bool.not_true, Bool.false_eq_true, if_false]
    refine wpAny_bind ?_
    refine wpAny_forIn_list _ (fun rest r s' => s' = s ∧ r = (none, ()) ∧ ∀ u ∈ rest, carriedByValue u = true) _ ?_ ?_ _ _ ⟨rfl, rfl, hst⟩
    · rintro x rest r s' ⟨rfl, rfl, hr⟩
      refine wpAny_bind (QuietAt.byValue (hr x List.mem_cons_self) A E _ ?_)
      simp only [Bool.not_true, Bool.false_eq_true, if_false]
      exact wpAny_pure ⟨rfl, rfl, fun u hu => hr u (List.mem_cons_of_mem _ hu)⟩
    · rintro r s' ⟨rfl, rfl, _⟩
      exact wpAny_pure h
theorem odd_find {d : Addr} {o : Obj} {es : Array DictEntry} {ep : Nat} {k : NestedKey} {v : Value} {hs : Int} {Q : Option Nat → Shared → Prop} (ho : s.heap.get? d = some o) (hd : o.data = .dict es ep) (hes : Texts es) (O : OddK s A k v) (h : Q none s) :
    wpAny (model prog w) A (dictFind d v hs) Q E s := by
  have hby : ∀ u ∈ (placesWithHash es.size (fun i => es[i]?.map (·.hash)) hs).filterMap (fun i => es[i]?.map (·.key)), carriedByValue u = true := by
    intro u hu
    obtain ⟨i, _, hi⟩ := List.mem_filterMap.mp hu
    cases hei : es[i]? with
    | none => rw [hei] at hi; cases hi
    | some e =>
      rw [hei] at hi
      obtain rfl : e.key = u := by simpa using hi
      obtain ⟨y, t, hy⟩ := hes e (Array.mem_of_getElem? hei)
      rw [hy]; rfl
  have hnr : ∀ a, ∀ u ∈ (placesWithHash es.size (fun i => es[i]?.map (·.hash)) hs).filterMap (fun i => es[i]?.map (·.key)), u ≠ .ref a := by
    intro a u hu e
    have := hby u hu
    rw [e] at this
    cases this
  unfold dictFind
  try with_reducible refine wpAny_holding ?_
  refine wpAny_bind (wpAny_dictEntries ho hd ?_)
  obtain ⟨is, ne, dp, hu⟩ := id O
  cases is with
  | text x t => exact absurd rfl (ne x)
  | none =>
    dsimp only
    rw [if_pos (by rw [List.all_cons, List.all_eq_true.mpr hby]; rfl)]
    exact odd_plain ho hd hes O h
  | bool hb =>
    dsimp only
    rw [if_pos (by rw [List.all_cons, List.all_eq_true.mpr hby]; rfl)]
    exact odd_plain ho hd hes O h
  | int i t =>
    dsimp only
    rw [if_pos (by rw [List.all_cons, List.all_eq_true.mpr hby]; rfl)]
    exact odd_plain ho hd hes O h
  | @tup a o' vs n ks h1 h2 h3 h4 =>
    dsimp only
    rw [if_neg (show ¬ ((Value.ref a :: (placesWithHash es.size (fun i => es[i]?.map (·.hash)) hs).filterMap (fun i => es[i]?.map (·.key))).all carriedByValue) = true by simp [carriedByValue])]
    have hany : ¬ (es.any fun e => e.key == Value.ref a && e.hash != hs) = true := by
      rw [← Array.any_toList, List.any_eq_true]
      rintro ⟨e, hin, hc⟩
      obtain ⟨y, t, hy⟩ := hes e (Array.mem_toList_iff.mp hin)
      rw [hy] at hc
      simp at hc
    rw [if_neg hany]
    have hone : ¬ (((placesWithHash es.size (fun i => es[i]?.map (·.hash)) hs).filterMap (fun i => es[i]?.map (·.key))) == [Value.ref a]) = true := by
      intro e
      rw [beq_iff_eq] at e
      exact hnr a (.ref a) (by rw [e]; exact List.mem_singleton.mpr rfl) rfl
    rw [if_neg hone]
    refine wpAny_bind (odd_tell O hby ?_)
    rw [if_neg (by simp)]
    refine wpAny_bind ?_
    refine wpAny_forIn_list _ (fun _ b s' => s' = s ∧ b = (none, none)) _ ?_ ?_ _ _ ⟨rfl, rfl⟩
    · rintro x rest b s' ⟨rfl, rfl⟩
      cases hx : es[x]? with
      | none => exact wpAny_pure ⟨rfl, rfl⟩
      | some e =>
        obtain ⟨y, t, hy⟩ := hes e (Array.mem_of_getElem? hx)
        dsimp only
        by_cases hh : (e.hash == hs) = true
        · rw [if_pos hh, hy]
          refine wpAny_bind (wpAny_dictEpoch ho hd (wpAny_bind (odd_eq O (wpAny_bind (wpAny_dictEpoch ho hd ?_)))))
          show wpAny _ _ (if (ep != ep) = true then _ else _) _ E _
          rw [if_neg (by simp)]
          simp only [Bool.false_eq_true, if_false]
          refine wpAny_bind (wpAny_rule ?_)
          first | rw [if_neg (by simp)] | skip
          first
            | exact wpAny_pure ⟨rfl, rfl⟩
            | exact wpAny_bind (wpAny_pure (wpAny_pure ⟨rfl, rfl⟩))
        · rw [if_neg hh]
          exact wpAny_pure ⟨rfl, rfl⟩
    · rintro b s' ⟨rfl, rfl⟩
      exact wpAny_pure h
theorem odd_get {d : Addr} {o : Obj} {es : Array DictEntry} {ep : Nat} {k : NestedKey} {v : Value} {Q : Option Value → Shared → Prop} (ho : s.heap.get? d = some o) (hd : o.data = .dict es ep) (hes : Texts es) (O : OddK s A k v) (h : Q none { s with toks := s.toks + k.draws }) :
    wpAny (model prog w) A (dictGet d v) Q E s := by
  unfold dictGet
  try with_reducible refine wpAny_holding ?_
  refine wpAny_bind (pyHash_key k v A s _ O.is O.hu ?_)
  refine wpAny_bind (odd_find (s := { s with toks := s.toks + k.draws }) ho hd hes ⟨O.is, O.ne, O.dp, O.hu⟩ ?_)
  exact wpAny_pure h
end
end DLO
namespace DLO
open PySem PySem.Spec PyProof.Rows L2
/-- what is no text -/
def OddV (K : PySem.W.Frag) (H : Hp) (y : V) : Prop := (∃ b, y = .bl b) ∨ (∃ i, y = .int i) ∨ ∃ (b : Addr) (xs : List Str), y = .ref b ∧ SqT K H b (xs.map V.str)
theorem nested_strs {h : Heap} : ∀ {xs : List Str} {us : List Value}, Vals (xs.map V.str) us → NestedAll h (xs.map NestedKey.text) us
  | [], us, r => by cases r; exact .nil
  | x :: xs, us, r => by
    cases r with
    | cons r1 r2 =>
      obtain ⟨t, rfl⟩ := r1
      exact .cons (.text x t) (nested_strs r2)
theorem depth_texts : ∀ xs : List Str, NestedKey.depthAll (xs.map NestedKey.text) = 0
  | [] => rfl
  | x :: xs => by
    show max (NestedKey.depth (.text x)) (NestedKey.depthAll (xs.map NestedKey.text)) = 0
    rw [depth_texts xs]
    rfl
section
variable {X : Cx} {pins : List (Addr × Obj)} {σ : L2.St} {H : Hp} {s : Shared} {a : Addr} {y : V} {u : Value} {A : Around} {E : Value → Shared → Prop}
theorem odd_of (I : Inv X pins σ H s) (hy : OddV X.K H y) (r : RelV y u) (hu : A.units + 1 < cLine) : ∃ k, OddK s A k u := by
  rcases hy with ⟨b, rfl⟩ | ⟨i, rfl⟩ | ⟨b, xs, rfl, hT⟩
  · obtain rfl : u = .bool b := r
    exact ⟨.num (if b = true then 1 else 0), .bool rfl, (fun _ e => nomatch e), by show 0 ≤ 8; decide, by show A.units + 0 < cLine; omega⟩
  · obtain ⟨t, rfl⟩ := r
    exact ⟨.num i, .int i t, (fun _ e => nomatch e), by show 0 ≤ 8; decide, by show A.units + 0 < cLine; omega⟩
  · obtain rfl : u = .ref b := r
    obtain ⟨its, rv, ⟨⟨cls, dd, data, sl⟩, ho, hc, n, hd⟩, hs⟩ := I.tuple hT
    refine ⟨.tup (xs.map NestedKey.text), .tup ho hc hd (by simpa using nested_strs rv), (fun _ e => nomatch e), ?_, ?_⟩
    · show NestedKey.depthAll _ + 1 ≤ 8
      rw [depth_texts]; decide
    · show A.units + (NestedKey.depthAll _ + 1) < cLine
      rw [depth_texts]; exact hu
theorem texts_of {prog : Program} {w : World} : ∀ {kvs : List (Key × V)} {vs : List (Key × Value)} {es : List DictEntry}, KV kvs vs → (∀ e ∈ kvs, ∃ x, e.1 = Sum.inr x) → Pairs (mixKind prog w) es vs → ∀ e ∈ es, ∃ x t, e.key = Value.str x t
  | _, _, _, .nil, _, .nil, e, he => by simp at he
  | _, _, _, .cons h1 h2, hx, .cons p1 p2 p3, e, he => by
    rcases List.mem_cons.mp he with rfl | he
    · obtain ⟨x, hx1⟩ := hx _ List.mem_cons_self
      rcases keyIs_shape p1 with ⟨i, t, e1, e2⟩ | ⟨y, t, e1, e2⟩
      · rw [h1.1] at hx1
        rw [hx1] at e1
        cases e1
      · exact ⟨y, t, e2⟩
    · exact texts_of h2 (fun e he => hx e (List.mem_cons_of_mem _ he)) p3 e he
theorem d_getO {kvs : List (Key × V)} {Q : Value → Shared → Prop} (hu : A.units + 2 < cLine) (I : Inv X pins σ H s) (e : Rd H a (.dK kvs)) (hx : ∀ kv ∈ kvs, ∃ x, kv.1 = Sum.inr x) (hy : OddV X.K H y) (ry : RelV y u) (h : ∀ s', Inv X pins σ H s' → Q .none s') :
    wpAny (model X.prog X.w) A (call (.builtin "dict.get") [.ref a, u]) Q E s := by
  obtain ⟨z, hd, vs, rel, dd⟩ := dk_rd I.hok e
  obtain ⟨k, O⟩ := odd_of (A := A.in1) I hy ry (by show A.units + 1 + 1 < cLine; exact hu)
  have dd' := dd
  obtain ⟨o, es, ep, h1, h2, h3, h4, h5, h6⟩ := dd'
  have ht : Texts es := fun e he => texts_of rel hx h5 e (Array.mem_toList_iff.mpr he)
  refine call_meetsIn PySem.F.slot_dict_get dd.typeIs PySem.F.entry_dict_get (PySem.F.args_dict_get_2 _ _) (S := fun A' R s' => A' = A ∧ s' = s ∧ R (.ok (.ret .none)) { s with toks := s.toks + k.draws }) ?_ ⟨rfl, rfl, h _ (I.tok _)⟩
  refine .of_wp fun A' R s' hh => ?_
  obtain ⟨rfl, rfl, hR⟩ := hh
  show wpAny _ _ (dictGet a u >>= _) _ _ s'
  refine wpAny_bind (odd_get h1 h3 ht O ?_)
  show wpAny _ _ (Builtin.Dict.missed a u >>= _) _ _ _
  exact wpAny_bind (wpAny_missed_other hd (wpAny_pure ⟨.none, rfl, hR⟩))
end
def tDGetO (K : PySem.W.Frag) (td ty : TE) : TE := fun σ H Q => td σ H fun x H1 => ∃ a, x = .ref a ∧ IsD H1 a ∧ ty σ H1 fun y H2 => ∃ kvs, Rd H2 a (.dK kvs) ∧ (∀ kv ∈ kvs, ∃ x, kv.1 = Sum.inr x) ∧ OddV K H2 y ∧ Q .non H2
theorem pe_dgetO {X : Cx} {o e : Expr} {apos cpos : Pos} {td ty : TE} (hu : X.A.units + 2 < cLine) (ho : PE X o td) (he : PE X e ty) (m : M1 X o "get" apos e cpos) : PE X (.Call (.Attribute o "get" apos) [e] [] cpos) (tDGetO X.K td ty) := by
  refine ⟨fun pins s σ H Q I h => ?_⟩
  refine wpAny_Call_method m.base m.few m.line PySem.F.plainAttrs_dict PySem.F.slot_dict_get PySem.F.type_dict_get (thn (ho.run pins s σ H _ I h) fun u s1 ⟨x, H1, I1, rx, a, ex, d, q1⟩ => ?_)
  subst ex
  obtain rfl : u = Value.ref a := rx
  obtain ⟨t1, t2, _⟩ := isD_at I1 d
  refine ⟨t1, t2, ?_⟩
  rw [m.trees]
  refine Calls.callWith_builtin rfl (Calls.evalArgs_plain (Calls.spliced_cons (thn (he.run pins s1 σ H1 _ I1 q1) fun iv s2 ⟨y, H2, I2, ry, kvs, g, hx, hy, q2⟩ => Calls.spliced_nil ?_)))
  exact d_getO hu I2 g hx hy ry fun s3 I3 => ⟨.non, H2, I3, rfl, q2⟩
end DLO
namespace DL
open PySem PySem.Spec PyProof.Rows L2
open DLO (OddV pe_dgetO)
/-- data that is no text -/
def oddD : D → Bool
  | .bl _ => true
  | .int _ => true
  | .tup xs => xs.all D.isStr
  | _ => false
theorem strs_dat {K : PySem.W.Frag} {G : Hp} : ∀ {ds : List D} {vs : List V}, DatAll K G vs ds → ds.all D.isStr = true → ∃ xs : List Str, vs = xs.map V.str
  | [], _, h, _ => by cases h; exact ⟨[], rfl⟩
  | d :: ds, _, h, e => by
    cases h with
    | cons a b =>
      rw [List.all_cons, Bool.and_eq_true] at e
      obtain ⟨xs, rfl⟩ := strs_dat b e.2
      cases d <;> simp [D.isStr] at e
      cases a
      exact ⟨_ :: xs, rfl⟩
theorem oddD_ok {K : PySem.W.Frag} {G H : Hp} {C : CS} {v : V} {d : D} (w : Wld K G C H) (r : Dat K G v d) (e : oddD d = true) : OddV K H v := by
  cases r <;> simp [oddD] at e
  · exact .inl ⟨_, rfl⟩
  · exact .inr (.inl ⟨_, rfl⟩)
  · rename_i h1 h2
    obtain ⟨xs, rfl⟩ := strs_dat h2 (by rw [List.all_eq_true]; exact e)
    exact .inr (.inr ⟨_, xs, rfl, Same.sqT w.ex h1⟩)
/-- d.get(k), the keys of d texts, k any plain thing -/
theorem x_dget1O {P : Program} {w : World} {K : PySem.W.Frag} {mg : Str → Option Value} {base : Heap} {j : Nat} {X : Cx} {o a : Expr} {env : DEnv} {C : CS} {k : KD} {apos cpos : Pos} (hx : Ctx P w K mg base j X)
    (h : WE X o env C fun x C1 => ∃ p kvs, x = .own p ∧ C1 p = some (.dic kvs) ∧ WE X a env C1 fun y C2 => ∃ kvs, C2 p = some (.dic kvs) ∧ (∀ kv ∈ kvs, ∃ x, kv.1 = Sum.inr x) ∧ oddD y = true ∧ k .non C2)
    (m : M1 X o "get" apos a cpos) : WE X (.Call (.Attribute o "get" apos) [a] [] cpos) env C k :=
  .of (pe_dgetO (by have := hx.room.un; omega) pe_tS pe_tS m) fun G σ H Q w er q => h G σ H _ w er fun x' G1 C1 H1 x f1 w1 r1 z => by
    obtain ⟨p, kvs, rfl, hp, z⟩ := z
    obtain ⟨rfl, kw, h1, h2, h3⟩ := w1.dic r1 hp
    refine ⟨p, rfl, .inl ⟨kw, .inl h1⟩, z G1 σ H1 _ w1 (er.mono f1.exG) fun y' G2 C2 H2 y f2 w2 r2 z2 => ?_⟩
    obtain ⟨kvs', hp', hks, hod, hk⟩ := z2
    obtain ⟨_, kw', g1, g2, g3⟩ := w2.dic (.own p) hp'
    refine ⟨kw', .inl g1, fun kv hkv => ?_, oddD_ok w2 r2 hod, q _ _ _ _ _ (f1.trans f2) w2 .non hk⟩
    have : kv.1 ∈ kvs'.map (·.1) := by rw [← g2]; exact List.mem_map_of_mem hkv
    obtain ⟨kv', h5, h6⟩ := List.mem_map.mp this
    rw [← h6]
    exact hks kv' h5
end DL
/-! DNe: makings that may raise, by places; a def that may raise where it does not. -/
namespace DL
open PySem PySem.Spec PyProof.Rows L2
/-- what it promises where nothing is raised -/
theorem fnG_good {P : Program} {w : World} {K : PySem.W.Frag} {mg : Str → Option Value} {base : Heap} {n : Nat} {f : Addr} {fd : FuncData} {ps : List Str} {S : DSpX} (F : FnG P w K mg base (L2.CX P w) n f fd ps (toSpX K S)) : FnG P w K mg base CX0 n f fd ps (toSp K fun ds C k => S ds C k fun _ _ _ => False) := by
  have up : ∀ vs H Q E, toSp K (fun ds C k => S ds C k fun _ _ _ => False) vs H Q E → toSpX K S vs H Q (fun _ _ _ => False) := by
    rintro vs H Q E ⟨G, C, ds, k, w, r, h, q⟩
    exact ⟨G, C, ds, k, _, w, r, h, q, fun _ _ _ _ _ _ _ _ _ z => z.elim⟩
  refine ⟨fun vs H Q E h => F.len _ _ _ _ (up vs H Q E h), ?_⟩
  intro A outer s H args us vs Q E hgd hr e0 hb r h
  refine codeAny_mono (F.run hgd hr e0 hb r (up vs H Q E h)) fun res s' z => ?_
  cases res with
  | error e =>
    obtain ⟨_, _, _, _, _, _, _, _, _, _, _, _, z⟩ := z
    exact z.elim
  | ok fl => cases fl <;> exact z
section
variable {X : Cx} {n : Nat} {fa Ca : Addr} {fd : FuncData} {ps : List Str} {sp : Sp} {W : WX} {x : Str} {pos p : Pos} {e : Expr} {es : List Expr} {t : TA} {ds : List Value} {dvs : List V}
theorem makeXP {pins : List (Addr × Obj)} {σ : L2.St} {H : Hp} {s : Shared} {Q : VK} {us : List Value} {vs : List V} (M : Mk X.K Ca fa) (F : FnG X.prog X.w X.K X.mg X.base (L2.CX X.prog X.w) n fa fd ps sp) (hgd : X.A.guards = some []) (hr : Room (n + 1) X.A) (hb : Binds X.K fd ps ds) (hd : Vals dvs ds)
    (tkW : Takes X W) (I : Inv X pins σ H s) (r : Vals vs us)
    (h : ∀ x dx, H x = none → H dx = none → dx ≠ x → sp (.ref x :: (vs ++ dvs)) (upd (upd H dx (.own x)) x (.ins Ca dx [])) (fun v H2 => v = .non ∧ Q (.ref x) H2) (fun cls od H' => W cls od σ H')) :
    wpAny (model X.prog X.w) X.A (call (.ref Ca) us) (EP X pins σ Q) X.xe s := by
  have hq := h (s.heap.objs.size + 1) s.heap.objs.size (I.hok.fresh (Nat.le_succ _)) (I.hok.fresh (Nat.le_refl _)) (Nat.ne_of_lt (Nat.lt_succ_self _))
  have I2 := Inv.made (C := Ca) I
  have r2 : Vals (V.ref (s.heap.objs.size + 1) :: (vs ++ dvs)) (Value.ref (s.heap.objs.size + 1) :: (us ++ ds)) := .cons rfl (r.append hd)
  have hl : (Value.ref (s.heap.objs.size + 1) :: us ++ ds).length = ps.length := (by
    have q := r2.length
    rw [F.len _ _ _ _ hq] at q
    exact q.symm)
  refine wpAny_call (make_map (f := fa) I.kIn M.makes M.init (beq_iff_eq.mp M.fn) (codeAny_mono (F.run (by exact hgd) (hr.make Ca us []) (I2.env0.make Ca us []) (hb _ (Value.ref (s.heap.objs.size + 1) :: us) I2.kIn hl) r2 hq) fun res s' z => ?_))
  match res, z with
  | .error err, z => exact passAt tkW σ pins _ _ err s' I2 z
  | .ok (.ret u), z =>
    obtain ⟨v, H', I3, rv, ev, q3⟩ := I2.after z
    subst ev
    exact ⟨rv, ⟨V.ref (s.heap.objs.size + 1), H', I3, rfl, q3⟩⟩
theorem pe_makeXP (M : Mk X.K Ca fa) (F : FnG X.prog X.w X.K X.mg X.base (L2.CX X.prog X.w) n fa fd ps sp) (hgd : X.A.guards = some []) (hr : Room (n + 1) X.A) (hg : Gl X x) (hm : X.mg x = some (.ref Ca)) (hb : Binds X.K fd ps ds) (hd : Vals dvs ds) (tkW : Takes X W)
    (ha : PA X (e :: es) t) (hdb : (x == ("__debug__" : Str)) = false := by decide) (he : starEach (e :: es) X.env = (false, eval e X.env) :: starEach es X.env := by rfl) (hpl : (backTo pos (starEach es X.env)).any (·.1) = false := by rfl) :
    PE X (.Call (.Name x p) (e :: es) [] pos) (fun σ H Q => t σ H fun vs H1 => ∀ x dx, H1 x = none → H1 dx = none → dx ≠ x → sp (.ref x :: (vs ++ dvs)) (upd (upd H1 dx (.own x)) x (.ins Ca dx [])) (fun v H2 => v = .non ∧ Q (.ref x) H2) (fun cls od H' => W cls od σ H')) := by
  refine ⟨fun pins s σ H Q I h => ?_⟩
  refine wpAny_Call_Name_kw (ld_glob I hg hm ?_ hdb)
  refine PySem.W.callWith_K (h₀ := X.base) I.ok.mod.kin M.kp (thn (ha.run pos pins s σ H _ I h) fun us s1 ⟨vs, H1, I1, r, q⟩ => ⟨I1.kIn, ?_⟩) he hpl
  exact makeXP M F hgd hr hb hd tkW I1 r q
end
def MakX (P : Program) (w : World) (K : PySem.W.Frag) (mg : Str → Option Value) (base : Heap) (x : Str) (Cl : Addr) (n : Nat) (dfl : List D) (S : DSpX) : Prop := mg x = some (.ref Cl) ∧ ∃ f, Mk K Cl f ∧ FnX P w K mg base f n dfl S
section
variable {P : Program} {w : World} {K : PySem.W.Frag} {mg : Str → Option Value} {base : Heap} {j n : Nat} {X : Cx} {A : Anc} {Cl : Addr} {x : Str} {S : DSpX} {dfl : List D} {e : Expr} {es : List Expr} {env : DEnv} {C : CS} {k : KD} {kx : DEnv → KX} {pos p : Pos}
theorem weA_makeX (hx : Ctx P w K mg base j X) (hM : MakX P w K mg base x Cl n dfl S) (T : Thr X A kx) (hg : Gl X x) (h : WA X.nox (e :: es) env C fun ds C1 => ∀ a, C1 a = none → S (.own a :: (ds ++ dfl)) (put C1 a (.ins Cl [] [])) (fun d C2 => d = .non ∧ k (.own a) C2) (kx env)) (hle : n + 1 ≤ j := by decide)
    (hdb : (x == ("__debug__" : Str)) = false := by decide) (he : starEach (e :: es) X.env = (false, eval e X.env) :: starEach es X.env := by rfl) (hpl : (backTo pos (starEach es X.env)).any (·.1) = false := by rfl) : WEA X A (.Call (.Name x p) (e :: es) [] pos) env C k := by
  obtain ⟨hmg, fa, hm, fd, ps, ds, dvs, F, hb, hd, hdat⟩ := hM
  have hroom := hx.room
  obtain ⟨e1, e2, e3, e4, e5, _, hgd, hcalm⟩ := hx
  subst e1 e2 e3 e4 e5
  obtain ⟨W, tk, hW⟩ := T
  intro G σ H Q w er fr q pins s I
  refine (pe_makeXP hm F hgd (hroom.mono hle) hg hmg hb hd tk (PA.nox pa_tAr) hdb he hpl).run pins s σ H Q I ?_
  refine h G σ H _ w er fun vs G1 C1 H1 ds1 f1 w1 r1 z => fun a dx ha hdx hne => ?_
  obtain ⟨w3, f3⟩ := made_ok (Cl := Cl) w1 ha hdx hne
  refine spX_ok (ds := .own a :: (ds1 ++ dfl)) (k := fun d C2 => d = .non ∧ k (.own a) C2) hW (fr.trans (f1.trans f3)) w3 (er.mono (f1.trans f3).exG) (.cons (.own a) ((r1.mono f3.exG).append (hdat _))) ?_ (z a (w1.ne ha).2)
  rintro v G2 C2 H2 d f2' w2 r2 ⟨rfl, zk⟩
  cases r2
  exact ⟨rfl, q _ _ _ _ _ ((f1.trans f3).trans f2') w2 (.own a) zk⟩
end
end DL
namespace L2
open PySem PySem.Spec PyProof.Rows
section
variable {X : Cx}
def rNeDE : R2 := fun x y H Q => ∃ a b ks, x = .ref a ∧ y = .ref b ∧ H a = some (.dK ks) ∧ H b = some (.dK []) ∧ Q (.bl (!ks.isEmpty)) H
theorem op_ne_dictE (hu : X.A.units < cLine) : OpR X (compareOp .NotEq) rNeDE := by
  intro pins s σ H x y v u Q I rx ry h
  obtain ⟨a, b, ks, rfl, rfl, ea, eb, q⟩ := h
  obtain rfl : v = Value.ref a := rx
  obtain rfl : u = Value.ref b := ry
  obtain ⟨_, ya, va, ra, da⟩ := (show ObjOk X.prog X.w H s.heap a (.dK ks) from I.hok a _ ea)
  obtain ⟨_, yb, vb, rb, db⟩ := (show ObjOk X.prog X.w H s.heap b (.dK []) from I.hok b _ eb)
  have hla := ra.length
  have hlb := rb.length
  refine PySem.W.keq_ne (knd := mixKind X.prog X.w) (r := true) ya yb da db hu (fun e => hits_all rb ra fun p hp => ?_) (fin_bl I q ?_)
  · rw [← hla, ← hlb] at e
    obtain rfl := List.length_eq_zero_iff.mp e
    simp at hp
  · rw [← hla, ← hlb]
    cases ks <;> simp
end
end L2
namespace DL
open PySem PySem.Spec PyProof.Rows L2
section
variable {P : Program} {w : World} {K : PySem.W.Frag} {mg : Str → Option Value} {base : Heap} {j : Nat} {X : Cx} {a b : Expr} {env : DEnv} {C : CS} {k : KD} {kb : Bool → CS → Prop} {pos : Pos}
/-- a dict against an empty one -/
def dNeE : OpD := fun x y C k => ∃ p q kvs, x = .own p ∧ y = .own q ∧ C p = some (.dic kvs) ∧ C q = some (.dic []) ∧ k (.bl (!kvs.isEmpty)) C
theorem r2_neE : R2D K rNeDE dNeE := by
  rintro x y a b G C H k Q w da db ⟨p, q, kvs, rfl, rfl, hp, hq, h⟩ z
  obtain ⟨rfl, kw, h1, h2, _⟩ := w.dic da hp
  obtain ⟨rfl, lw, g1, g2, _⟩ := w.dic db hq
  obtain rfl : lw = [] := by simpa using g2
  have e : kw.isEmpty = kvs.isEmpty := by
    have := congrArg List.length h2
    rw [List.length_map, List.length_map] at this
    cases kw <;> cases kvs <;> simp at this <;> rfl
  refine ⟨p, q, kw, rfl, rfl, h1, g1, ?_⟩
  rw [e]
  exact z _ _ _ _ _ (Fr.refl ..) w (.bl _) h
theorem xt_neE (hx : Ctx P w K mg base j X) (h : WE X a env C fun x C1 => WE X b env C1 fun y C2 => dNeE x y C2 (tb kb)) : WT X (.Compare a [.NotEq] [b] pos) env C kb := wt_cmp (op_ne_dictE hx.room.units0) r2_neE h (nomark _)
end
end DL
/-! DNg: a def with positional defaults, one of them None, that may raise. -/
namespace DL
open PySem PySem.Spec PyProof.Rows L2
/-- a def, whatever its defaults -/
structure FunW (K : PySem.W.Frag) (x qual : Str) (st : Stmt) (f : Addr) (fd : FuncData) : Prop where
  ex : ∃ (oc : Value) (od : Option Addr) (dV kV doc pm : Value) (an : Option Addr) (cdv ct : Value) (osl : Array (Option Value)),
    fd = PySem.W.fnOf x qual (defArgs st) (defBody st) (defScope st) dV kV doc pm an cdv ct ∧ K.lookup f = some ⟨oc, od, .func fd, osl⟩ ∧ PySem.W.codeIn K cdv qual = true
  kp : PySem.W.keepIn K (.ref f) = true
theorem FunW.of {K : PySem.W.Frag} {x qual : Str} {st : Stmt} {dvs : List V} {kws : List (Str × V)} {f : Addr} {fd : FuncData} (F : FunD K x qual (defArgs st) (defBody st) (defScope st) dvs kws f fd) : FunW K x qual st f fd := by
  obtain ⟨oc, od, dV, kV, doc, pm, an, cdv, ct, osl, e, l, c, _, _⟩ := F.ex
  exact ⟨⟨oc, od, dV, kV, doc, pm, an, cdv, ct, osl, e, l, c⟩, F.kp⟩
/-- one default, None -/
theorem funD_one {K : PySem.W.Frag} {x qual : Str} {st : Stmt} {f T : Addr} {oc oT : Value} {od an odT : Option Addr} {osl slT : Array (Option Value)} {n : Nat} {kV doc pm cdv ct : Value} (l : K.lookup f = some ⟨oc, od, .func (PySem.W.fnOf x qual (defArgs st) (defBody st) (defScope st) (.ref T) kV doc pm an cdv ct), osl⟩)
    (c : PySem.W.codeIn K cdv qual = true) (k : PySem.W.keepIn K (.ref f) = true) (t : K.lookup T = some ⟨oT, odT, .seq #[.none] n, slT⟩) : FunD K x qual (defArgs st) (defBody st) (defScope st) [V.non] [] f (PySem.W.fnOf x qual (defArgs st) (defBody st) (defScope st) (.ref T) kV doc pm an cdv ct) :=
  ⟨⟨oc, od, .ref T, kV, doc, pm, an, cdv, ct, osl, rfl, l, c, .inr ⟨by simp, T, _, [.none], n, rfl, t, rfl, .cons rfl .nil⟩, .inl rfl⟩, k⟩
section
variable {P : Program} {w : World} {K : PySem.W.Frag} {mg : Str → Option Value} {base : Heap} {CT : CXT} {n m : Nat} {fa : Addr} {fd : FuncData} {ps : List Str} {sp : Sp}
theorem fnG_ofW {x qual : Str} {st : Stmt} {N : List Str} (F : FunW K x qual st fa fd) (S : FnScope N ps (defScope st)) (len : ∀ as H Q E, sp as H Q E → as.length = ps.length)
    (hb : ∀ (cdv : Value) (A : Around) (out : List Env) (s : Shared) (H : Hp) (as : List V) (Q : VK) (E : XK), A.guards = some [] → Room n (A.deeper (envOfC qual (defScope st) s.heap.objs.size fa cdv)) → sp as H Q E →
      ∃ t, PSs (cxOf CT P w K mg base N qual (defScope st) fa cdv A out s H E) (defBody st) t ∧ t { nx := fun _ H1 => Q .non H1, rt := Q } (start N as) H) : FnG P w K mg base CT (n + 1) fa fd ps sp := by
  obtain ⟨oc, od, dV, kV, doc, pm, an, cdv, ct, osl, rfl, hlook, hcode⟩ := F.ex
  refine ⟨len, ?_⟩
  intro A out s H ar us as Q E hguard hroom env0 hbind hvals hsp
  have inK : K.In s.heap := env0.mod.kin.keeps fun a o q => (env0.bs a o q).1
  have noLim : s.heap.NoLimit := env0.mod.nolimit.keeps fun a o q => (env0.bs a o q).1
  refine codeAny_call_function hroom.depth (inK _ _ hlook) rfl S.co S.gen rfl (PySem.W.codeRec_of inK hcode) (hbind _ _ _ _ ?_)
  refine wpAny_newFunctionEnv_cells S.kind ?_ ?_
  · rintro ⟨nm, v⟩ hin
    rcases S.par nm (List.of_mem_zip hin).1 with q | q
    · exact .inl q
    · exact .inr ⟨q, PySem.W.cellsFrom_some _ _ _ (.inl q)⟩
  · intro env henv s1 inc
    subst henv
    refine ⟨noLim.keeps inc.toInCall.keep, codeAny_func ?_⟩
    obtain ⟨t, pt, qt⟩ := hb cdv A out s H as Q E hguard (hroom.deeper _) hsp
    have inv := inv_start (E := E) (CX := CT) S hroom.hd env0 (len _ _ _ _ hsp) hvals inc
    refine wpAny_mono (pt.run [] s1 (start N as) H _ inv qt) ?_ fun e s' z => z
    intro fl s' z
    cases fl with
    | ret u =>
      obtain ⟨v, _, H1, J, rv, q⟩ := z
      exact ⟨v, H1, J.os, J.bare, J.base, J.hok, rv, q⟩
    | next =>
      obtain ⟨_, H1, J, q⟩ := z
      exact ⟨V.non, H1, J.os, J.bare, J.base, J.hok, rfl, q⟩
    | brk => exact z.elim fun _ z => z.elim fun _ z => z.2.elim
    | cont => exact z.elim fun _ z => z.elim fun _ z => z.2.elim
end
section
variable {P : Program} {w : World} {K : PySem.W.Frag} {mg : Str → Option Value} {base : Heap}
theorem fnXPW {x qual : Str} {st : Stmt} {f : Addr} {fd : FuncData} {N M Ds ps : List Str} {n : Nat} {S : DSpX} (F : FunW K x qual st f fd) (sc : FnScope N ps (defScope st)) (hv : visC (defScope st) M = true) (hlc : locC (defScope st) M = true) (hg : glC (defScope st) Ds = true)
    (hl : ∀ ds C k kx, S ds C k kx → ds.length = ps.length)
    (hb : ∀ (X : Cx) (A : Anc), BdyP P w K mg base n N M Ds (defScope st) X → ∀ (ds : List D) (k : KD) (kx : KX), S ds A.C k kx → Thr X A (fun _ => kx) → WSsA X A (defBody st) (startD N ds) A.C { nx := fun _ C' => k .non C', rt := k }) : FnG P w K mg base (L2.CX P w) (n + 1) f fd ps (toSpX K S) := by
  refine fnG_ofW F sc (fun vs H Q E h => ?_) (fun cdv A outer s H vs Q E hgd hr h => ?_)
  · obtain ⟨G, C, ds, k, kx, _, r, hS, _⟩ := h
    rw [r.length]
    exact hl _ _ _ _ hS
  · obtain ⟨G, C, ds, k, kx, wl, r, hS, q, qx⟩ := h
    refine ⟨_, pss_tXs, ?_⟩
    refine hb (cxOf (L2.CX P w) P w K mg base N qual (defScope st) f cdv A outer s H E) ⟨G, C, H⟩ ⟨⟨rfl, rfl, rfl, rfl, rfl, hr, hgd, rfl⟩, ⟨⟨rfl, rfl, rfl, rfl, rfl, hr, hgd, rfl⟩, nms_of rfl (sc := defScope st) rfl sc.nd hv, sts_of rfl (sc := defScope st) rfl sc.nd hlc (fun _ => rfl), gls_of (sc := defScope st) rfl hg, ⟨rfl, sc.nd, rfl, rfl⟩, ⟨rfl⟩⟩, passes_of rfl⟩ ds k kx hS
      ⟨fun cls d _ H' => E cls d H', takes_of rfl rfl rfl rfl, fun cls fs od σ env G' C' H' fr w' er ex hk => qx cls fs od G' C' H' fr w' ex hk⟩ G _ H _ wl (envR_start r) (Fr.refl ..) ⟨?_, q, ?_, ?_⟩
    · exact fun G' C' H' σ env f w' er z => q .non G' C' H' .non f w' .non z
    · exact fun G' C' H' σ env f w' er z => z.elim
    · exact fun G' C' H' σ env f w' er z => z.elim
end
end DL
namespace K31
open PySem L2 DL
def top (i : Nat) : Stmt := PySem.Challenge.pw_chainedreports_k63_kinds_fit.main.body.getD i (.Pass ⟨0, 0, 0, 0⟩)

/-! _wall -/
/-! NoName.__init__ -/
/-! TooMany.__init__ -/
/-! NoFile.__init__ -/
/-! BadKinds.__init__ -/
abbrev s_BadKinds___init__ : Stmt := inClass (top 5) 0
abbrev N_BadKinds___init__ : List Str := ["self", "kind"]
abbrev M_BadKinds___init__ : List Str := ["self", "kind"]
abbrev P_BadKinds___init__ : List Str := ["self", "kind"]
theorem sc_BadKinds___init__ : FnScope N_BadKinds___init__ P_BadKinds___init__ (defScope s_BadKinds___init__) := ⟨rfl, rfl, rfl, by decide +kernel, rfl, by decide +kernel, by decide +kernel⟩
theorem v_BadKinds___init__ : visC (defScope s_BadKinds___init__) M_BadKinds___init__ = true := by decide +kernel
abbrev D_BadKinds___init__ : List Str := ["ValueError"]
theorem g_BadKinds___init__ : glC (defScope s_BadKinds___init__) D_BadKinds___init__ = true := by decide +kernel

/-! BadProgram.__init__ -/
/-! is_name -/
abbrev s_is_name : Stmt := top 10
abbrev N_is_name : List Str := ["thing", "sign"]
abbrev M_is_name : List Str := ["thing"]
abbrev P_is_name : List Str := ["thing"]
theorem sc_is_name : FnScope N_is_name P_is_name (defScope s_is_name) := ⟨rfl, rfl, rfl, by decide +kernel, rfl, by decide +kernel, by decide +kernel⟩
theorem v_is_name : visC (defScope s_is_name) M_is_name = true := by decide +kernel
theorem l_is_name : locC (defScope s_is_name) M_is_name = true := by decide +kernel
abbrev D_is_name : List Str := ["all", "isinstance", "str", "MOST_LETTERS", "len"]
theorem g_is_name : glC (defScope s_is_name) D_is_name = true := by decide +kernel
-- comprehension at 37: own ["sign"] reads ["sign", "thing"] globals ["LETTERS"]

/-! is_own_name -/
/-! are_names -/
/-! how_of -/
/-! told_of -/
/-! throw_of -/
/-! again_of -/
/-! group_of -/
/-! note_of -/
/-! copy_of -/
/-! split_of -/
/-! named_of -/
/-! lone_of -/
/-! plain_of -/
/-! named_head -/
/-! handler_of -/
/-! Reader.__init__ -/
/-! Reader.fail -/
/-! Reader.is_at -/
/-! Reader.text -/
/-! Reader.block -/
/-! Reader.headed -/
/-! Reader.statement -/
/-! Reader.choices -/
/-! Reader.tried -/
/-! Reader.handlers -/
/-! Reader.definitions -/
/-! blocks_of -/
/-! all_statements -/
/-! comes_back -/
abbrev s_comes_back : Stmt := top 55
abbrev N_comes_back : List Str := ["kind", "above", "seen", "one"]
abbrev M_comes_back : List Str := ["kind", "above", "seen", "one"]
abbrev P_comes_back : List Str := ["kind", "above"]
theorem sc_comes_back : FnScope N_comes_back P_comes_back (defScope s_comes_back) := ⟨rfl, rfl, rfl, by decide +kernel, rfl, by decide +kernel, by decide +kernel⟩
theorem v_comes_back : visC (defScope s_comes_back) M_comes_back = true := by decide +kernel
theorem l_comes_back : locC (defScope s_comes_back) M_comes_back = true := by decide +kernel
abbrev D_comes_back : List Str := []
theorem g_comes_back : glC (defScope s_comes_back) D_comes_back = true := by decide +kernel

/-! look_kinds -/
abbrev s_look_kinds : Stmt := top 56
abbrev N_look_kinds : List Str := ["above", "kind"]
abbrev M_look_kinds : List Str := ["above", "kind"]
abbrev P_look_kinds : List Str := ["above"]
theorem sc_look_kinds : FnScope N_look_kinds P_look_kinds (defScope s_look_kinds) := ⟨rfl, rfl, rfl, by decide +kernel, rfl, by decide +kernel, by decide +kernel⟩
theorem v_look_kinds : visC (defScope s_look_kinds) M_look_kinds = true := by decide +kernel
theorem l_look_kinds : locC (defScope s_look_kinds) M_look_kinds = true := by decide +kernel
abbrev D_look_kinds : List Str := ["sorted", "comes_back", "BadKinds", "is_name"]
theorem g_look_kinds : glC (defScope s_look_kinds) D_look_kinds = true := by decide +kernel

/-! look_files -/
abbrev s_look_files : Stmt := top 57
abbrev N_look_files : List Str := ["files", "file"]
abbrev M_look_files : List Str := ["files", "file"]
abbrev P_look_files : List Str := ["files"]
theorem sc_look_files : FnScope N_look_files P_look_files (defScope s_look_files) := ⟨rfl, rfl, rfl, by decide +kernel, rfl, by decide +kernel, by decide +kernel⟩
theorem v_look_files : visC (defScope s_look_files) M_look_files = true := by decide +kernel
theorem l_look_files : locC (defScope s_look_files) M_look_files = true := by decide +kernel
abbrev D_look_files : List Str := ["sorted", "is_name", "NoName"]
theorem g_look_files : glC (defScope s_look_files) D_look_files = true := by decide +kernel

/-! Program.__init__ -/
abbrev s_Program___init__ : Stmt := inClass (top 58) 0
abbrev N_Program___init__ : List Str := ["self", "files", "above", "file", "name", "line", "block"]
abbrev M_Program___init__ : List Str := ["self", "files", "above", "file", "name", "line", "block"]
abbrev P_Program___init__ : List Str := ["self", "files", "above"]
theorem sc_Program___init__ : FnScope N_Program___init__ P_Program___init__ (defScope s_Program___init__) := ⟨rfl, rfl, rfl, by decide +kernel, rfl, by decide +kernel, by decide +kernel⟩
theorem v_Program___init__ : visC (defScope s_Program___init__) M_Program___init__ = true := by decide +kernel
theorem l_Program___init__ : locC (defScope s_Program___init__) M_Program___init__ = true := by decide +kernel
abbrev D_Program___init__ : List Str := ["look_files", "dict", "look_kinds", "sorted", "Reader", "BadProgram"]
theorem g_Program___init__ : glC (defScope s_Program___init__) D_Program___init__ = true := by decide +kernel
-- comprehension at 266: own ["file"] reads ["file", "files"] globals ["tuple"]

/-! Program.read -/
/-! Program.look_calls -/
abbrev s_Program_look_calls : Stmt := inClass (top 58) 2
abbrev N_Program_look_calls : List Str := ["self", "wrong", "name", "file", "line", "block", "one"]
abbrev M_Program_look_calls : List Str := ["self", "wrong", "name", "file", "line", "block"]
abbrev P_Program_look_calls : List Str := ["self"]
theorem sc_Program_look_calls : FnScope N_Program_look_calls P_Program_look_calls (defScope s_Program_look_calls) := ⟨rfl, rfl, rfl, by decide +kernel, rfl, by decide +kernel, by decide +kernel⟩
theorem v_Program_look_calls : visC (defScope s_Program_look_calls) M_Program_look_calls = true := by decide +kernel
theorem l_Program_look_calls : locC (defScope s_Program_look_calls) M_Program_look_calls = true := by decide +kernel
abbrev D_Program_look_calls : List Str := ["sorted", "min", "BadProgram", "all_statements"]
theorem g_Program_look_calls : glC (defScope s_Program_look_calls) D_Program_look_calls = true := by decide +kernel
-- comprehension at 284: own ["one"] reads ["file", "one", "block", "self"] globals ["all_statements", "CALL"]

/-! Program.look_size -/
abbrev s_Program_look_size : Stmt := inClass (top 58) 3
abbrev N_Program_look_size : List Str := ["self", "many", "sizes", "size", "most", "what", "file"]
abbrev M_Program_look_size : List Str := ["self", "many", "sizes", "size", "most", "what"]
abbrev P_Program_look_size : List Str := ["self"]
theorem sc_Program_look_size : FnScope N_Program_look_size P_Program_look_size (defScope s_Program_look_size) := ⟨rfl, rfl, rfl, by decide +kernel, rfl, by decide +kernel, by decide +kernel⟩
theorem v_Program_look_size : visC (defScope s_Program_look_size) M_Program_look_size = true := by decide +kernel
theorem l_Program_look_size : locC (defScope s_Program_look_size) M_Program_look_size = true := by decide +kernel
abbrev D_Program_look_size : List Str := ["sum", "MOST_FILES", "MOST_FUNCTIONS", "MOST_LINES", "len", "TooMany"]
theorem g_Program_look_size : glC (defScope s_Program_look_size) D_Program_look_size = true := by decide +kernel
-- comprehension at 290: own ["file"] reads ["self", "file"] globals ["len", "Reader"]

/-! Program.files -/
/-! Program.functions -/
/-! Program.__eq__ -/
/-! Program.look_function -/
/-! Program.lines -/
/-! Program.place -/
/-! Program.body -/
/-! Program.is_kind -/
abbrev s_Program_is_kind : Stmt := inClass (top 58) 11
abbrev N_Program_is_kind : List Str := ["self", "kind", "other"]
abbrev M_Program_is_kind : List Str := ["self", "kind", "other"]
abbrev P_Program_is_kind : List Str := ["self", "kind", "other"]
theorem sc_Program_is_kind : FnScope N_Program_is_kind P_Program_is_kind (defScope s_Program_is_kind) := ⟨rfl, rfl, rfl, by decide +kernel, rfl, by decide +kernel, by decide +kernel⟩
theorem v_Program_is_kind : visC (defScope s_Program_is_kind) M_Program_is_kind = true := by decide +kernel
theorem l_Program_is_kind : locC (defScope s_Program_is_kind) M_Program_is_kind = true := by decide +kernel
abbrev D_Program_is_kind : List Str := []
theorem g_Program_is_kind : glC (defScope s_Program_is_kind) D_Program_is_kind = true := by decide +kernel

/-! Program.kinds_below -/
/-! _law_source -/
abbrev s_source : Stmt := top 60
abbrev N_source : List Str := ["_law_script", "_law_place", "_law_cell", "_law_large", "_law_mixed"]
abbrev M_source : List Str := ["_law_script", "_law_place", "_law_cell", "_law_large", "_law_mixed"]
abbrev P_source : List Str := ["_law_script", "_law_place"]
theorem sc_source : FnScope N_source P_source (defScope s_source) := ⟨rfl, rfl, rfl, by decide +kernel, rfl, by decide +kernel, by decide +kernel⟩
theorem v_source : visC (defScope s_source) M_source = true := by decide +kernel
theorem l_source : locC (defScope s_source) M_source = true := by decide +kernel
abbrev D_source : List Str := ["abs", "len"]
theorem g_source : glC (defScope s_source) D_source = true := by decide +kernel

/-! _law_draw -/
abbrev s_draw : Stmt := top 61
abbrev N_draw : List Str := ["_law_source_here", "_law_many", "_law_turn", "_law_digit"]
abbrev M_draw : List Str := ["_law_source_here", "_law_many", "_law_turn", "_law_digit"]
abbrev P_draw : List Str := ["_law_source_here", "_law_many"]
theorem sc_draw : FnScope N_draw P_draw (defScope s_draw) := ⟨rfl, rfl, rfl, by decide +kernel, rfl, by decide +kernel, by decide +kernel⟩
theorem v_draw : visC (defScope s_draw) M_draw = true := by decide +kernel
theorem l_draw : locC (defScope s_draw) M_draw = true := by decide +kernel
abbrev D_draw : List Str := []
theorem g_draw : glC (defScope s_draw) D_draw = true := by decide +kernel

/-! _law_names -/
abbrev s_names : Stmt := top 62
abbrev N_names : List Str := ["_law_source_here", "_law_many", "_law_letters", "_law_stem", "_law_turn", "_law_spot", "_law_found", "_law_size", "_law_first", "_law_k", "_law_name"]
abbrev M_names : List Str := ["_law_source_here", "_law_many", "_law_letters", "_law_stem", "_law_turn", "_law_spot", "_law_found", "_law_size", "_law_first"]
abbrev P_names : List Str := ["_law_source_here", "_law_many"]
theorem sc_names : FnScope N_names P_names (defScope s_names) := ⟨rfl, rfl, rfl, by decide +kernel, rfl, by decide +kernel, by decide +kernel⟩
theorem v_names : visC (defScope s_names) M_names = true := by decide +kernel
theorem l_names : locC (defScope s_names) M_names = true := by decide +kernel
abbrev D_names : List Str := ["range", "_law_draw", "any"]
theorem g_names : glC (defScope s_names) D_names = true := by decide +kernel
-- comprehension at 350: own ["_law_k"] reads ["_law_stem", "_law_many", "_law_letters", "_law_spot", "_law_first", "_law_k"] globals ["range"]
-- comprehension at 351: own ["_law_name"] reads ["_law_name", "_law_found"] globals []
-- comprehension at 352: own ["_law_name"] reads ["_law_name", "_law_found"] globals []

/-! _law_is_name -/
abbrev s_law_is_name : Stmt := top 63
abbrev N_law_is_name : List Str := ["_law_thing", "_law_sign"]
abbrev M_law_is_name : List Str := ["_law_thing"]
abbrev P_law_is_name : List Str := ["_law_thing"]
theorem sc_law_is_name : FnScope N_law_is_name P_law_is_name (defScope s_law_is_name) := ⟨rfl, rfl, rfl, by decide +kernel, rfl, by decide +kernel, by decide +kernel⟩
theorem v_law_is_name : visC (defScope s_law_is_name) M_law_is_name = true := by decide +kernel
theorem l_law_is_name : locC (defScope s_law_is_name) M_law_is_name = true := by decide +kernel
abbrev D_law_is_name : List Str := ["all", "isinstance", "str", "len"]
theorem g_law_is_name : glC (defScope s_law_is_name) D_law_is_name = true := by decide +kernel
-- comprehension at 357: own ["_law_sign"] reads ["_law_sign", "_law_thing"] globals []

/-! _law_up -/
abbrev s_up : Stmt := top 64
abbrev N_up : List Str := ["_law_above", "_law_kind", "_law_found", "_law_one"]
abbrev M_up : List Str := ["_law_above", "_law_kind", "_law_found", "_law_one"]
abbrev P_up : List Str := ["_law_above", "_law_kind"]
theorem sc_up : FnScope N_up P_up (defScope s_up) := ⟨rfl, rfl, rfl, by decide +kernel, rfl, by decide +kernel, by decide +kernel⟩
theorem v_up : visC (defScope s_up) M_up = true := by decide +kernel
theorem l_up : locC (defScope s_up) M_up = true := by decide +kernel
abbrev D_up : List Str := []
theorem g_up : glC (defScope s_up) D_up = true := by decide +kernel

/-! _law_due -/
abbrev s_due : Stmt := top 65
abbrev N_due : List Str := ["_law_above", "_law_wrong", "_law_back", "_law_kind"]
abbrev M_due : List Str := ["_law_above", "_law_wrong", "_law_back"]
abbrev P_due : List Str := ["_law_above"]
theorem sc_due : FnScope N_due P_due (defScope s_due) := ⟨rfl, rfl, rfl, by decide +kernel, rfl, by decide +kernel, by decide +kernel⟩
theorem v_due : visC (defScope s_due) M_due = true := by decide +kernel
theorem l_due : locC (defScope s_due) M_due = true := by decide +kernel
abbrev D_due : List Str := ["sorted"]
theorem g_due : glC (defScope s_due) D_due = true := by decide +kernel
-- comprehension at 365: own ["_law_kind"] reads ["_law_kind", "_law_above"] globals ["sorted", "_law_is_name", "_law_value_right"]
-- comprehension at 366: own ["_law_kind"] reads ["_law_kind", "_law_above"] globals ["sorted", "_law_up"]

/-! _law_value_right -/
abbrev s_value_right : Stmt := top 66
abbrev N_value_right : List Str := ["_law_thing"]
abbrev M_value_right : List Str := ["_law_thing"]
abbrev P_value_right : List Str := ["_law_thing"]
theorem sc_value_right : FnScope N_value_right P_value_right (defScope s_value_right) := ⟨rfl, rfl, rfl, by decide +kernel, rfl, by decide +kernel, by decide +kernel⟩
theorem v_value_right : visC (defScope s_value_right) M_value_right = true := by decide +kernel
theorem l_value_right : locC (defScope s_value_right) M_value_right = true := by decide +kernel
abbrev D_value_right : List Str := ["_law_is_name"]
theorem g_value_right : glC (defScope s_value_right) D_value_right = true := by decide +kernel

/-! _law_refused -/
abbrev s_refused : Stmt := top 67
abbrev N_refused : List Str := ["_law_above", "e"]
abbrev M_refused : List Str := ["_law_above", "e"]
abbrev P_refused : List Str := ["_law_above"]
theorem sc_refused : FnScope N_refused P_refused (defScope s_refused) := ⟨rfl, rfl, rfl, by decide +kernel, rfl, by decide +kernel, by decide +kernel⟩
theorem v_refused : visC (defScope s_refused) M_refused = true := by decide +kernel
theorem l_refused : locC (defScope s_refused) M_refused = true := by decide +kernel
abbrev D_refused : List Str := ["BadKinds", "Program", "isinstance", "ValueError"]
theorem g_refused : glC (defScope s_refused) D_refused = true := by decide +kernel

/-! law -/
abbrev s_law : Stmt := top 68
abbrev N_law : List Str := ["_law_script", "_law_place", "_law_source_here", "_law_names_here", "_law_turn", "_law_above", "_law_at", "_law_due_here", "_law_program", "_law_kind", "_law_others", "_law_key", "_law_other", "_law_some"]
abbrev M_law : List Str := ["_law_script", "_law_place", "_law_source_here", "_law_names_here", "_law_turn", "_law_above", "_law_at", "_law_due_here", "_law_program", "_law_kind", "_law_others", "_law_key", "_law_other", "_law_some"]
abbrev P_law : List Str := ["_law_script"]
theorem sc_law : FnScope N_law P_law (defScope s_law) := ⟨rfl, rfl, rfl, by decide +kernel, rfl, by decide +kernel, by decide +kernel⟩
theorem v_law : visC (defScope s_law) M_law = true := by decide +kernel
theorem l_law : locC (defScope s_law) M_law = true := by decide +kernel
abbrev D_law : List Str := ["range", "max", "_law_source", "_law_names", "min", "_law_due", "len", "_law_draw", "_law_refused", "Program", "sorted", "_law_up"]
theorem g_law : glC (defScope s_law) D_law = true := by decide +kernel
end K31
set_option maxHeartbeats 4000000
open PySem L2 DL
local macro_rules | `(tactic| walk_at "kd") => `(tactic| first | rfl | assumption | exact kind_of_py (by assumption))
local macro_rules | `(tactic| walk_at "ct") => `(tactic| first | trivial | assumption | omega | exact Or.inl ⟨by omega, by omega⟩ | exact Or.inr ⟨by omega, by omega⟩ | decide)
local macro_rules | `(tactic| walk_at "sz") => `(tactic| first | (exact ⟨by omega, by omega, Nat.le_of_ble_eq_true rfl⟩) | (refine Nat.le_trans (Nat.le_of_ble_eq_true (m := 1000) rfl) (by decide)) | (refine Nat.lt_of_le_of_lt (Nat.le_of_ble_eq_true (m := 1000) rfl) (by decide)) | (simp only [rep_len, List.length_append, List.length_cons, List.length_nil]; refine Nat.le_trans (m := 1000) (by omega) (by decide)))
local macro_rules | `(tactic| walk_at "bad") => `(tactic| first
  | (rename_i q; exact Bool.noConfusion (show false = true from q))
  | (rename_i q; exact Bool.noConfusion (show true = false from q))
  | (rename_i q _; exact Bool.noConfusion (show false = true from q))
  | (rename_i q _; exact Bool.noConfusion (show true = false from q))
  | (rename_i q _ _; exact Bool.noConfusion (show false = true from q))
  | (rename_i q _ _; exact Bool.noConfusion (show true = false from q))
  | (rename_i q _ _ _; exact Bool.noConfusion (show false = true from q))
  | (rename_i q _ _ _; exact Bool.noConfusion (show true = false from q))
  | (rename_i q _ _ _ _; exact Bool.noConfusion (show false = true from q))
  | (rename_i q _ _ _ _; exact Bool.noConfusion (show true = false from q)))
local macro_rules | `(tactic| walk_at "fg") => `(tactic| first
  | exact FGet.here _ _ _ _
  | exact FGet.there (by decide +kernel) (FGet.here _ _ _ _)
  | exact FGet.there (by decide +kernel) (FGet.there (by decide +kernel) (FGet.here _ _ _ _))
  | exact FGet.there (by decide +kernel) (FGet.there (by decide +kernel) (FGet.there (by decide +kernel) (FGet.here _ _ _ _)))
  | exact FGet.there (by decide +kernel) (FGet.there (by decide +kernel) (FGet.there (by decide +kernel) (FGet.there (by decide +kernel) (FGet.here _ _ _ _))))
  | exact FGet.there (by decide +kernel) (FGet.there (by decide +kernel) (FGet.there (by decide +kernel) (FGet.there (by decide +kernel) (FGet.there (by decide +kernel) (FGet.here _ _ _ _)))))
  | exact FGet.there (by decide +kernel) (FGet.there (by decide +kernel) (FGet.there (by decide +kernel) (FGet.there (by decide +kernel) (FGet.there (by decide +kernel) (FGet.there (by decide +kernel) (FGet.here _ _ _ _))))))
  | exact FGet.there (by decide +kernel) (FGet.there (by decide +kernel) (FGet.there (by decide +kernel) (FGet.there (by decide +kernel) (FGet.there (by decide +kernel) (FGet.there (by decide +kernel) (FGet.there (by decide +kernel) (FGet.here _ _ _ _)))))))
  | exact FGet.there (by decide +kernel) (FGet.there (by decide +kernel) (FGet.there (by decide +kernel) (FGet.there (by decide +kernel) (FGet.there (by decide +kernel) (FGet.there (by decide +kernel) (FGet.there (by decide +kernel) (FGet.there (by decide +kernel) (FGet.here _ _ _ _))))))))
  | exact FGet.there (by decide +kernel) (FGet.there (by decide +kernel) (FGet.there (by decide +kernel) (FGet.there (by decide +kernel) (FGet.there (by decide +kernel) (FGet.there (by decide +kernel) (FGet.there (by decide +kernel) (FGet.there (by decide +kernel) (FGet.there (by decide +kernel) (FGet.here _ _ _ _))))))))))
local macro_rules | `(tactic| walk_at "nm") => `(tactic| first
  | ((with_reducible show DL.Mem _ _); repeat' (first | with_reducible exact Mem.here _ _ | with_reducible apply Mem.there))
  | ((with_reducible show DL.Get _ _ _ _); repeat' (first | with_reducible exact Get.here _ _ _ _ | with_reducible apply Get.there))
  | ((with_reducible show DL.Put _ _ _ _); repeat' (first | with_reducible exact Put.here _ _ _ _ | with_reducible apply Put.there)))
local macro_rules | `(tactic| walk_at "gl") => `(tactic| (refine Gls.at (by assumption) ?_; repeat' (first | with_reducible exact Mem.here _ _ | with_reducible apply Mem.there)))
local macro_rules | `(tactic| walk_at "wg") => `(tactic| repeat' (first
  | ((with_reducible refine' wgs_consS ?_ ?k1); (case k1 => rfl))
  | ((with_reducible refine' wgs_cons ?_ ?k1); (case k1 => rfl))
  | with_reducible refine wgs_nil ?_
  | ((with_reducible refine' wg_nm ?kb ?k0 ?kp ?_); (case kb => assumption); (case k0 => walk_at "nm"); (case kp => walk_at "nm"))))
local macro_rules | `(tactic| walk_at "py") => `(tactic| repeat' (first
  | ((with_reducible show DL.WE _ _ _ _ _); (first
    | ((with_reducible show DL.WE _ (Expr.BoolOp _ _ _) _ _ _); (first | with_reducible refine we_and ?_ | with_reducible refine we_or ?_ | with_reducible refine we_one ?_))
    | ((with_reducible show DL.WE _ (Expr.UnaryOp _ _ _) _ _ _); (first | with_reducible refine we_not ?_ | with_reducible refine we_neg ?_))
    | ((with_reducible show DL.WE _ (Expr.IfExp _ _ _ _) _ _ _); (first | with_reducible refine we_if ?_))
    | ((with_reducible show DL.WE _ (Expr.Constant _ _ _) _ _ _); (first | with_reducible refine we_int ?_ | with_reducible refine we_bl ?_ | with_reducible refine we_non ?_ | with_reducible refine we_str ?_))
    | ((with_reducible show DL.WE _ (Expr.Tuple _ _ _) _ _ _); (first | with_reducible refine we_tup ?_))
    | ((with_reducible show DL.WE _ (Expr.Name _ _) _ _ _); (first | ((with_reducible refine' we_nm ?k1 ?k0 ?k2 ?_); (case k1 => assumption); (case k0 => walk_at "nm"); (case k2 => walk_at "nm")) | ((with_reducible refine' x_tyInt ?kx ?kz ?kg ?_); (case kx => assumption); (case kz => assumption); (case kg => walk_at "gl")) | ((with_reducible refine' x_tyBool ?kx ?kz ?kg ?_); (case kx => assumption); (case kz => assumption); (case kg => walk_at "gl")) | ((with_reducible refine' x_tyStr ?kx ?kz ?kg ?_); (case kx => assumption); (case kz => assumption); (case kg => walk_at "gl")) | ((with_reducible refine' x_tyList ?kx ?kz ?kg ?_); (case kx => assumption); (case kz => assumption); (case kg => walk_at "gl")) | ((with_reducible refine' x_tyTuple ?kx ?kz ?kg ?_); (case kx => assumption); (case kz => assumption); (case kg => walk_at "gl")) | ((with_reducible refine' x_glob ?kx ?kh ?kg ?_ ?kd); (case kh => assumption); (case kx => assumption); (case kg => walk_at "gl"); (case kd => decide))))
    | ((with_reducible show DL.WE _ (Expr.BinOp _ _ _ _) _ _ _); (first | with_reducible refine we_add ?_ | with_reducible refine we_sub' ?_ | with_reducible refine we_mul ?_ | with_reducible refine we_mod ?_ | with_reducible refine we_fdiv ?_ | with_reducible refine we_pow ?_))
    | ((with_reducible show DL.WE _ (Expr.Compare _ _ _ _) _ _ _); (first | with_reducible refine we_lt ?_ | with_reducible refine we_le ?_ | with_reducible refine we_gt ?_ | with_reducible refine we_ge ?_ | with_reducible refine we_is ?_ | with_reducible refine we_isnot ?_ | ((with_reducible refine' x_eq ?k1 ?_); (case k1 => assumption)) | ((with_reducible refine' x_ne ?k1 ?_); (case k1 => assumption)) | ((with_reducible refine' x_in ?k1 ?_ ?k2); (case k1 => assumption); (case k2 => rfl)) | ((with_reducible refine' x_nin ?k1 ?_ ?k2); (case k1 => assumption); (case k2 => rfl))))
    | ((with_reducible show DL.WE _ (Expr.Subscript _ _ _) _ _ _); (first | ((with_reducible refine' x_ixL ?_ ?k1); (case k1 => (intro _ _; rfl))) | ((with_reducible refine' we_ix ?_ ?k1); (case k1 => (intro _ _; rfl))) | with_reducible refine we_slice ?_))
    | ((with_reducible show DL.WE _ (Expr.Call (Expr.Name _ _) _ _ _) _ _ _); (first | ((with_reducible refine' x_isiT ?kx ?kz ?kg ?_ ?k1 ?k2); (case kx => assumption); (case kz => assumption); (case kg => walk_at "gl"); (case k1 => rfl); (case k2 => rfl)) | ((with_reducible refine' x_isi ?kx ?kz ?kg ?_ ?k1 ?k2); (case kx => assumption); (case kz => assumption); (case kg => walk_at "gl"); (case k1 => rfl); (case k2 => rfl)) | ((with_reducible refine' x_len ?kx ?kz ?kg ?_ ?k1 ?k2); (case kx => assumption); (case kz => assumption); (case kg => walk_at "gl"); (case k1 => rfl); (case k2 => rfl)) | ((with_reducible refine' x_abs ?kx ?kz ?kg ?_ ?k1 ?k2); (case kx => assumption); (case kz => assumption); (case kg => walk_at "gl"); (case k1 => rfl); (case k2 => rfl)) | ((with_reducible refine' x_max2 ?kx ?kz ?kg ?_ ?k1 ?k2); (case kx => assumption); (case kz => assumption); (case kg => walk_at "gl"); (case k1 => rfl); (case k2 => rfl)) | ((with_reducible refine' x_min2 ?kx ?kz ?kg ?_ ?k1 ?k2); (case kx => assumption); (case kz => assumption); (case kg => walk_at "gl"); (case k1 => rfl); (case k2 => rfl)) | ((with_reducible refine' x_minL ?kx ?kz ?kg ?_ ?k1 ?k2); (case kx => assumption); (case kz => assumption); (case kg => walk_at "gl"); (case k1 => rfl); (case k2 => rfl)) | ((with_reducible refine' x_any ?kx ?kz ?kg ?_ ?k1 ?k2); (case kx => assumption); (case kz => assumption); (case kg => walk_at "gl"); (case k1 => rfl); (case k2 => rfl)) | ((with_reducible refine' x_all ?kx ?kz ?kg ?_ ?k1 ?k2); (case kx => assumption); (case kz => assumption); (case kg => walk_at "gl"); (case k1 => rfl); (case k2 => rfl)) | ((with_reducible refine' x_sum ?kx ?kz ?kg ?_ ?k1 ?k2); (case kx => assumption); (case kz => assumption); (case kg => walk_at "gl"); (case k1 => rfl); (case k2 => rfl)) | ((with_reducible refine' x_intC ?kx ?kz ?kg ?_ ?k1 ?k2); (case kx => assumption); (case kz => assumption); (case kg => walk_at "gl"); (case k1 => rfl); (case k2 => rfl)) | ((with_reducible refine' x_strC ?kx ?kz ?kg ?_ ?k1 ?k2); (case kx => assumption); (case kz => assumption); (case kg => walk_at "gl"); (case k1 => rfl); (case k2 => rfl)) | ((with_reducible refine' x_tupleC ?kx ?kz ?kg ?_ ?k1 ?k2); (case kx => assumption); (case kz => assumption); (case kg => walk_at "gl"); (case k1 => rfl); (case k2 => rfl)) | ((with_reducible refine' x_listC ?kx ?kz ?kg ?_ ?k1 ?k2); (case kx => assumption); (case kz => assumption); (case kg => walk_at "gl"); (case k1 => rfl); (case k2 => rfl)) | ((with_reducible refine' x_call ?kx ?kh ?kg ?_ ?kl ?kd ?k1 ?k2); (case kh => assumption); (case kx => assumption); (case kg => walk_at "gl"); (case kl => first | decide | omega); (case kd => decide); (case k1 => rfl); (case k2 => rfl))))
    | ((with_reducible show DL.WE _ (Expr.Call (Expr.Attribute _ _ _) _ _ _) _ _ _); (first | ((with_reducible refine' x_join ?_ ?k1 ?k2 ?k3 ?k4 ?k5); (case k1 => rfl); (case k2 => rfl); (case k3 => rfl); (case k4 => rfl); (case k5 => rfl)) | ((with_reducible refine' x_sindex ?_ ?k1 ?k2 ?k3 ?k4 ?k5); (case k1 => rfl); (case k2 => rfl); (case k3 => rfl); (case k4 => rfl); (case k5 => rfl)) | ((with_reducible refine' x_insert ?_ ?k1 ?k2 ?k3 ?k4 ?k5); (case k1 => rfl); (case k2 => rfl); (case k3 => rfl); (case k4 => rfl); (case k5 => rfl)) | ((with_reducible refine' x_popAt ?_ ?k1 ?k2 ?k3 ?k4 ?k5); (case k1 => rfl); (case k2 => rfl); (case k3 => rfl); (case k4 => rfl); (case k5 => rfl)) | ((with_reducible refine' x_append ?_ ?k1 ?k2 ?k3 ?k4 ?k5); (case k1 => rfl); (case k2 => rfl); (case k3 => rfl); (case k4 => rfl); (case k5 => rfl)) | ((with_reducible refine' x_extend ?_ ?k1 ?k2 ?k3 ?k4 ?k5); (case k1 => rfl); (case k2 => rfl); (case k3 => rfl); (case k4 => rfl); (case k5 => rfl))))))
  | ((with_reducible show DL.WSs _ _ _ _ _); (first | with_reducible refine wss_cons ?_ | with_reducible refine wss_nil ?_))
  | ((with_reducible show DL.WS _ _ _ _ _); (first
    | ((with_reducible show DL.WS _ (Stmt.If _ _ _ _) _ _ _); (first | ((with_reducible refine' x_ifWge ?kb ?k0 ?kp ?_); (case kb => assumption); (case k0 => walk_at "nm"); (case kp => walk_at "nm")) | with_reducible refine ws_if ?_))
    | ((with_reducible show DL.WS _ (Stmt.Return _ _) _ _ _); (first | with_reducible refine ws_ret ?_ | with_reducible refine ws_retN ?_))
    | ((with_reducible show DL.WS _ (Stmt.Pass _) _ _ _); (first | with_reducible refine ws_pass ?_))
    | ((with_reducible show DL.WS _ (Stmt.Break _) _ _ _); (first | with_reducible refine ws_break ?_))
    | ((with_reducible show DL.WS _ (Stmt.Continue _) _ _ _); (first | with_reducible refine ws_continue ?_))
    | ((with_reducible show DL.WS _ (Stmt.Assign _ _ _) _ _ _); (first | ((with_reducible refine' ws_nm ?kb ?k0 ?kp ?_ ?k1); (case kb => assumption); (case k0 => walk_at "nm"); (case kp => walk_at "nm"); (case k1 => rfl)) | ((with_reducible refine' x_par2 ?kd ?k1 ?k2 ?k3 ?k4 ?k5 ?k6 ?_ ?k7); (case kd => assumption); (case k1 => walk_at "nm"); (case k2 => (intro _; walk_at "nm")); (case k3 => decide +kernel); (case k4 => decide +kernel); (case k5 => decide +kernel); (case k6 => rfl); (case k7 => rfl)) | ((with_reducible refine' x_par3 ?kd ?k1 ?k2 ?k3 ?k4 ?k5 ?k6 ?k7 ?_ ?k8); (case kd => assumption); (case k1 => walk_at "nm"); (case k2 => (intro _; walk_at "nm")); (case k3 => (intro _ _; walk_at "nm")); (case k4 => decide +kernel); (case k5 => decide +kernel); (case k6 => decide +kernel); (case k7 => rfl); (case k8 => rfl)) | ((with_reducible refine' ws_asg ?_ ?k1 ?k2 ?k3); (case k1 => rfl); (case k2 => rfl); (case k3 => rfl)) | ((with_reducible refine' ws_asgD ?kd ?_ ?k1 ?k2 ?k3); (case kd => assumption); (case k1 => rfl); (case k2 => rfl); (case k3 => rfl))))
    | ((with_reducible show DL.WS _ (Stmt.AugAssign _ _ _ _) _ _ _); (first | ((with_reducible refine' ws_augAdd ?kb ?k0 ?kg ?kp ?_); (case kb => assumption); (case k0 => walk_at "nm"); (case kg => walk_at "nm"); (case kp => walk_at "nm"))))
    | ((with_reducible show DL.WS _ (Stmt.Expr _ _) _ _ _); (first | ((with_reducible refine' ws_expr ?_ ?k1); (case k1 => rfl))))))
  | ((with_reducible show DL.WA _ _ _ _ _); (first | with_reducible refine wa_nil ?_ | ((with_reducible refine' wa_cons ?_ ?k1); (case k1 => rfl))))
  | ((with_reducible show DL.WT _ _ _ _ _); (first | ((with_reducible refine' xt_eq ?k1 ?_); (case k1 => assumption)) | ((with_reducible refine' xt_ne ?k1 ?_); (case k1 => assumption)) | ((with_reducible refine' xt_in ?k1 ?_ ?k2); (case k1 => assumption); (case k2 => rfl)) | ((with_reducible refine' xt_nin ?k1 ?_ ?k2); (case k1 => assumption); (case k2 => rfl)) | with_reducible refine wt_lt ?_ | with_reducible refine wt_le ?_ | with_reducible refine wt_gt ?_ | with_reducible refine wt_ge ?_ | with_reducible refine wt_is ?_ | with_reducible refine wt_isnot ?_ | with_reducible refine wt_not ?_ | with_reducible refine wt_bo ?_ | ((with_reducible refine' wt_val ?_ ?k1); (case k1 => (intro _; rfl)))))
  | ((with_reducible show DL.WW _ _ _ _ _); (first | with_reducible refine ww_and ?_ | with_reducible refine ww_or ?_ | with_reducible refine ww_and1 ?_ | with_reducible refine ww_or1 ?_))
  | ((with_reducible show DL.WG _ _ _ _ _ _); (first | ((with_reducible refine' wg_nm ?kb ?k0 ?kp ?_); (case kb => assumption); (case k0 => walk_at "nm"); (case kp => walk_at "nm")) | ((with_reducible refine' x_gtup ?kx ?kl ?_ ?k1); (case kx => assumption); (case kl => rfl); (case k1 => rfl)) | ((with_reducible refine' wg_setL ?_ ?k1); (case k1 => (intro _; rfl)))))
  | ((with_reducible show DL.WGs _ _ _ _ _ _); (first | ((with_reducible refine' wgs_cons ?_ ?k1); (case k1 => rfl)) | with_reducible refine wgs_nil ?_))
  | ((with_reducible show DL.WO _ _ _ _ _); (first | with_reducible refine wo_n ?_ | with_reducible refine wo_s ?_))
  | ((with_reducible show DL.tb _ _ _); (first | with_reducible refine tb_ok ?_))
  | ((with_reducible show DL.dIsi _ _ _); (first | ((with_reducible refine' isi_int ?k1 ?_); (case k1 => walk_at "kd")) | ((with_reducible refine' isi_bool ?k1 ?_); (case k1 => walk_at "kd")) | ((with_reducible refine' isi_str ?k1 ?_); (case k1 => walk_at "kd")) | ((with_reducible refine' isi_list ?k1 ?_); (case k1 => walk_at "kd")) | ((with_reducible refine' isi_tuple ?k1 ?_); (case k1 => walk_at "kd")) | ((with_reducible refine' isi_ls ?k1 ?_); (case k1 => assumption)) | ((with_reducible refine' isi_lsT ?k1 ?_); (case k1 => assumption))))
  | ((with_reducible show DL.dIsiT _ _ _); (first | ((with_reducible refine' isi_ltT ?k1 ?k2 ?_); (case k1 => rfl); (case k2 => rfl)) | ((with_reducible refine' isi_ltF ?k1 ?k2 ?_); (case k1 => rfl); (case k2 => rfl)) | ((with_reducible refine' isi_lt ?k1 ?_); (case k1 => walk_at "kd")) | ((with_reducible refine' isiT_ls ?k1 ?_); (case k1 => assumption))))
  | ((with_reducible show DL.dLen _ _ _); (first | ((with_reducible refine' len_ls ?k1 ?_); (case k1 => assumption)) | ((with_reducible refine' len_str ?k1 ?_); (case k1 => walk_at "ct")) | with_reducible refine len_tup ?_ | with_reducible refine len_fr ?_ | with_reducible refine len_sl ?_ | ((with_reducible refine' len_own ?k1 ?_); (case k1 => assumption)) | with_reducible refine len_put ?_))
  | ((with_reducible show DL.dEq _ _ _ _ _); (first | with_reducible refine eq_bb ?_ | with_reducible refine ne_bb ?_ | with_reducible refine eq_ii ?_ | with_reducible refine ne_ii ?_))
  | ((with_reducible show DL.dI2 _ _ _ _ _ _); (first | ((with_reducible refine' i2_ok ?k1 ?_); (case k1 => walk_at "ct"))))
  | ((with_reducible show DL.dB2 _ _ _ _ _); (first | with_reducible refine b2_ok ?_))
  | ((with_reducible show DL.dAdd _ _ _ _); (first | with_reducible refine add_ii ?_ | ((with_reducible refine' add_ss ?k1 ?_); (case k1 => walk_at "ct")) | ((with_reducible refine' add_tt ?k1 ?_); (case k1 => walk_at "ct"))))
  | ((with_reducible show DL.dMul _ _ _ _); (first | ((with_reducible refine' mul_ii ?k1 ?_); (case k1 => walk_at "ct"))))
  | ((with_reducible show DL.dSl _ _ _ _ _); (first | with_reducible refine sl_t ?_ | with_reducible refine sl_f ?_))
  | ((with_reducible show DL.dInt1 _ _ _ _); (first | with_reducible refine int1_ok ?_))
  | ((with_reducible show DL.dInt2 _ _ _ _); (first | with_reducible refine int2_ok ?_))
  | ((with_reducible show DL.dInt _ _ _); (first | with_reducible refine int_i ?_ | with_reducible refine int_b ?_))
  | ((with_reducible show DL.dIn _ _ _ _ _); (first | with_reducible refine ins_c ?_))
  | ((with_reducible show DL.dTuple _ _ _); (first | with_reducible refine tup_t ?_ | with_reducible refine tup_f ?_))
  | ((with_reducible show DL.dIx _ _ _ _); (first | ((with_reducible refine' ix_t ?k1 ?_); (case k1 => rfl)) | ((with_reducible refine' ix_f ?k1 ?_); (case k1 => rfl)) | ((with_reducible refine' ix_s ?k1 ?_); (case k1 => rfl)) | ((with_reducible refine' ix_p ?k1 ?_); (case k1 => rfl)) | ((with_reducible refine' ix_o ?k0 ?k1 ?_); (case k0 => assumption); (case k1 => rfl))))
  | ((with_reducible show DL.dIsN _ _ _ _ _); (first | ((with_reducible refine' isn_k ?k1 ?_); (case k1 => walk_at "kd")) | ((with_reducible refine' nisn_k ?k1 ?_); (case k1 => walk_at "kd"))))
  | with_reducible refine ex_bl ?_
  | with_reducible refine ex_int ?_
  | with_reducible refine ex_2 ?_
  | with_reducible refine ex_3 ?_
  | ((with_reducible refine' setL_p ?k1 ?_); (case k1 => rfl))
  | ((with_reducible refine' setL_o ?k0 ?k1 ?_); (case k0 => assumption); (case k1 => rfl))
  | with_reducible refine and_T ?_
  | with_reducible refine and_F ?_
  | ((with_reducible refine and_S ?_ ?_) <;> intro _)
  | with_reducible refine ty_str ?_
  | with_reducible refine ty_put ?_
  | ((with_reducible refine' ty_own ?k1 ?_); (case k1 => assumption))
  | ((with_reducible refine' sz_ok ?k1 ?_); (case k1 => rfl))
  | ((with_reducible refine' sz_as ?k1 ?_); (case k1 => assumption))))
local macro_rules | `(tactic| walk_at "pyA") => `(tactic| repeat' (first
  | ((with_reducible show DL.WE _ _ _ _ _); (first
    | ((with_reducible show DL.WE _ (Expr.Compare _ _ _ _) _ _ _); (first | ((with_reducible refine' we_lele ?_ ?k1); (case k1 => with_unfolding_all rfl)) | with_reducible refine we_lt ?_ | with_reducible refine we_le ?_ | with_reducible refine we_gt ?_ | with_reducible refine we_ge ?_ | with_reducible refine we_is ?_ | with_reducible refine we_isnot ?_ | ((with_reducible refine' x_eq ?k1 ?_); (case k1 => assumption)) | ((with_reducible refine' x_ne ?k1 ?_); (case k1 => assumption)) | ((with_reducible refine' x_in ?k1 ?_ ?k2); (case k1 => assumption); (case k2 => rfl)) | ((with_reducible refine' x_nin ?k1 ?_ ?k2); (case k1 => assumption); (case k2 => rfl))))
    | ((with_reducible show DL.WE _ (Expr.Subscript _ _ _) _ _ _); (first | with_reducible refine we_revT ?_ | with_reducible refine x_sliceA ?_ | ((with_reducible refine' x_ixL ?_ ?k1); (case k1 => (intro _ _; rfl))) | ((with_reducible refine' we_ix ?_ ?k1); (case k1 => (intro _ _; rfl))) | with_reducible refine we_slice ?_))
    | ((with_reducible show DL.WE _ (Expr.Call (Expr.Attribute _ _ _) _ _ _) _ _ _); (first | ((with_reducible refine' x_upper ?_ ?k1 ?k2); (case k1 => rfl); (case k2 => rfl)) | ((with_reducible refine' x_join ?_ ?k1 ?k2 ?k3 ?k4 ?k5); (case k1 => rfl); (case k2 => rfl); (case k3 => rfl); (case k4 => rfl); (case k5 => rfl)) | ((with_reducible refine' x_sindex ?_ ?k1 ?k2 ?k3 ?k4 ?k5); (case k1 => rfl); (case k2 => rfl); (case k3 => rfl); (case k4 => rfl); (case k5 => rfl)) | ((with_reducible refine' x_insert ?_ ?k1 ?k2 ?k3 ?k4 ?k5); (case k1 => rfl); (case k2 => rfl); (case k3 => rfl); (case k4 => rfl); (case k5 => rfl)) | ((with_reducible refine' x_popAt ?_ ?k1 ?k2 ?k3 ?k4 ?k5); (case k1 => rfl); (case k2 => rfl); (case k3 => rfl); (case k4 => rfl); (case k5 => rfl)) | ((with_reducible refine' x_append ?_ ?k1 ?k2 ?k3 ?k4 ?k5); (case k1 => rfl); (case k2 => rfl); (case k3 => rfl); (case k4 => rfl); (case k5 => rfl)) | ((with_reducible refine' x_extend ?_ ?k1 ?k2 ?k3 ?k4 ?k5); (case k1 => rfl); (case k2 => rfl); (case k3 => rfl); (case k4 => rfl); (case k5 => rfl))))
    | ((with_reducible show DL.WE _ (Expr.BinOp _ _ _ _) _ _ _); (first | with_reducible refine x_mulS ?_ | with_reducible refine x_addA ?_ | with_reducible refine x_mulA ?_ | with_reducible refine we_add ?_ | with_reducible refine we_sub' ?_ | with_reducible refine we_mul ?_ | with_reducible refine we_mod ?_ | with_reducible refine we_fdiv ?_ | with_reducible refine we_pow ?_))
    | ((with_reducible show DL.WE _ (Expr.List _ _) _ _ _); (first | with_reducible refine we_lstF ?_))
    | ((with_reducible show DL.WE _ (Expr.Call (Expr.Name _ _) _ _ _) _ _ _); (first | ((with_reducible refine' x_listA ?kx ?kz ?kg ?_ ?k1 ?k2); (case kx => assumption); (case kz => assumption); (case kg => walk_at "gl"); (case k1 => rfl); (case k2 => rfl)) | ((with_reducible refine' x_repr ?kx ?kz ?kg ?_ ?k1 ?k2); (case kx => assumption); (case kz => assumption); (case kg => walk_at "gl"); (case k1 => rfl); (case k2 => rfl)) | ((with_reducible refine' x_isiT ?kx ?kz ?kg ?_ ?k1 ?k2); (case kx => assumption); (case kz => assumption); (case kg => walk_at "gl"); (case k1 => rfl); (case k2 => rfl)) | ((with_reducible refine' x_isi ?kx ?kz ?kg ?_ ?k1 ?k2); (case kx => assumption); (case kz => assumption); (case kg => walk_at "gl"); (case k1 => rfl); (case k2 => rfl)) | ((with_reducible refine' x_len ?kx ?kz ?kg ?_ ?k1 ?k2); (case kx => assumption); (case kz => assumption); (case kg => walk_at "gl"); (case k1 => rfl); (case k2 => rfl)) | ((with_reducible refine' x_abs ?kx ?kz ?kg ?_ ?k1 ?k2); (case kx => assumption); (case kz => assumption); (case kg => walk_at "gl"); (case k1 => rfl); (case k2 => rfl)) | ((with_reducible refine' x_max2 ?kx ?kz ?kg ?_ ?k1 ?k2); (case kx => assumption); (case kz => assumption); (case kg => walk_at "gl"); (case k1 => rfl); (case k2 => rfl)) | ((with_reducible refine' x_min2 ?kx ?kz ?kg ?_ ?k1 ?k2); (case kx => assumption); (case kz => assumption); (case kg => walk_at "gl"); (case k1 => rfl); (case k2 => rfl)) | ((with_reducible refine' x_minL ?kx ?kz ?kg ?_ ?k1 ?k2); (case kx => assumption); (case kz => assumption); (case kg => walk_at "gl"); (case k1 => rfl); (case k2 => rfl)) | ((with_reducible refine' x_any ?kx ?kz ?kg ?_ ?k1 ?k2); (case kx => assumption); (case kz => assumption); (case kg => walk_at "gl"); (case k1 => rfl); (case k2 => rfl)) | ((with_reducible refine' x_all ?kx ?kz ?kg ?_ ?k1 ?k2); (case kx => assumption); (case kz => assumption); (case kg => walk_at "gl"); (case k1 => rfl); (case k2 => rfl)) | ((with_reducible refine' x_sum ?kx ?kz ?kg ?_ ?k1 ?k2); (case kx => assumption); (case kz => assumption); (case kg => walk_at "gl"); (case k1 => rfl); (case k2 => rfl)) | ((with_reducible refine' x_intC ?kx ?kz ?kg ?_ ?k1 ?k2); (case kx => assumption); (case kz => assumption); (case kg => walk_at "gl"); (case k1 => rfl); (case k2 => rfl)) | ((with_reducible refine' x_strC ?kx ?kz ?kg ?_ ?k1 ?k2); (case kx => assumption); (case kz => assumption); (case kg => walk_at "gl"); (case k1 => rfl); (case k2 => rfl)) | ((with_reducible refine' x_tupleC ?kx ?kz ?kg ?_ ?k1 ?k2); (case kx => assumption); (case kz => assumption); (case kg => walk_at "gl"); (case k1 => rfl); (case k2 => rfl)) | ((with_reducible refine' x_listC ?kx ?kz ?kg ?_ ?k1 ?k2); (case kx => assumption); (case kz => assumption); (case kg => walk_at "gl"); (case k1 => rfl); (case k2 => rfl)) | ((with_reducible refine' x_call ?kx ?kh ?kg ?_ ?kl ?kd ?k1 ?k2); (case kh => assumption); (case kx => assumption); (case kg => walk_at "gl"); (case kl => first | decide | omega); (case kd => decide); (case k1 => rfl); (case k2 => rfl))))
    | ((with_reducible show DL.WE _ (Expr.BoolOp _ _ _) _ _ _); (first | with_reducible refine we_and ?_ | with_reducible refine we_or ?_ | with_reducible refine we_one ?_))
    | ((with_reducible show DL.WE _ (Expr.UnaryOp _ _ _) _ _ _); (first | with_reducible refine we_not ?_ | with_reducible refine we_neg ?_))
    | ((with_reducible show DL.WE _ (Expr.IfExp _ _ _ _) _ _ _); (first | with_reducible refine we_if ?_))
    | ((with_reducible show DL.WE _ (Expr.Constant _ _ _) _ _ _); (first | with_reducible refine we_int ?_ | with_reducible refine we_bl ?_ | with_reducible refine we_non ?_ | with_reducible refine we_str ?_))
    | ((with_reducible show DL.WE _ (Expr.Tuple _ _ _) _ _ _); (first | with_reducible refine we_tup ?_))
    | ((with_reducible show DL.WE _ (Expr.Name _ _) _ _ _); (first | ((with_reducible refine' we_nm ?k1 ?k0 ?k2 ?_); (case k1 => assumption); (case k0 => walk_at "nm"); (case k2 => walk_at "nm")) | ((with_reducible refine' x_tyInt ?kx ?kz ?kg ?_); (case kx => assumption); (case kz => assumption); (case kg => walk_at "gl")) | ((with_reducible refine' x_tyBool ?kx ?kz ?kg ?_); (case kx => assumption); (case kz => assumption); (case kg => walk_at "gl")) | ((with_reducible refine' x_tyStr ?kx ?kz ?kg ?_); (case kx => assumption); (case kz => assumption); (case kg => walk_at "gl")) | ((with_reducible refine' x_tyList ?kx ?kz ?kg ?_); (case kx => assumption); (case kz => assumption); (case kg => walk_at "gl")) | ((with_reducible refine' x_tyTuple ?kx ?kz ?kg ?_); (case kx => assumption); (case kz => assumption); (case kg => walk_at "gl")) | ((with_reducible refine' x_glob ?kx ?kh ?kg ?_ ?kd); (case kh => assumption); (case kx => assumption); (case kg => walk_at "gl"); (case kd => decide))))))
  | ((with_reducible show DL.WSs _ _ _ _ _); (first | with_reducible refine wss_cons ?_ | with_reducible refine wss_nil ?_))
  | ((with_reducible show DL.WS _ _ _ _ _); (first
    | ((with_reducible show DL.WS _ (Stmt.If _ _ _ _) _ _ _); (first | ((with_reducible refine' x_ifWge ?kb ?k0 ?kp ?_); (case kb => assumption); (case k0 => walk_at "nm"); (case kp => walk_at "nm")) | with_reducible refine ws_if ?_))
    | ((with_reducible show DL.WS _ (Stmt.Return _ _) _ _ _); (first | with_reducible refine ws_ret ?_ | with_reducible refine ws_retN ?_))
    | ((with_reducible show DL.WS _ (Stmt.Pass _) _ _ _); (first | with_reducible refine ws_pass ?_))
    | ((with_reducible show DL.WS _ (Stmt.Break _) _ _ _); (first | with_reducible refine ws_break ?_))
    | ((with_reducible show DL.WS _ (Stmt.Continue _) _ _ _); (first | with_reducible refine ws_continue ?_))
    | ((with_reducible show DL.WS _ (Stmt.Assign _ _ _) _ _ _); (first | ((with_reducible refine' ws_nm ?kb ?k0 ?kp ?_ ?k1); (case kb => assumption); (case k0 => walk_at "nm"); (case kp => walk_at "nm"); (case k1 => rfl)) | ((with_reducible refine' x_par2 ?kd ?k1 ?k2 ?k3 ?k4 ?k5 ?k6 ?_ ?k7); (case kd => assumption); (case k1 => walk_at "nm"); (case k2 => (intro _; walk_at "nm")); (case k3 => decide +kernel); (case k4 => decide +kernel); (case k5 => decide +kernel); (case k6 => rfl); (case k7 => rfl)) | ((with_reducible refine' x_par3 ?kd ?k1 ?k2 ?k3 ?k4 ?k5 ?k6 ?k7 ?_ ?k8); (case kd => assumption); (case k1 => walk_at "nm"); (case k2 => (intro _; walk_at "nm")); (case k3 => (intro _ _; walk_at "nm")); (case k4 => decide +kernel); (case k5 => decide +kernel); (case k6 => decide +kernel); (case k7 => rfl); (case k8 => rfl)) | ((with_reducible refine' ws_asg ?_ ?k1 ?k2 ?k3); (case k1 => rfl); (case k2 => rfl); (case k3 => rfl)) | ((with_reducible refine' ws_asgD ?kd ?_ ?k1 ?k2 ?k3); (case kd => assumption); (case k1 => rfl); (case k2 => rfl); (case k3 => rfl))))
    | ((with_reducible show DL.WS _ (Stmt.AugAssign _ _ _ _) _ _ _); (first | ((with_reducible refine' ws_augAdd ?kb ?k0 ?kg ?kp ?_); (case kb => assumption); (case k0 => walk_at "nm"); (case kg => walk_at "nm"); (case kp => walk_at "nm"))))
    | ((with_reducible show DL.WS _ (Stmt.Expr _ _) _ _ _); (first | ((with_reducible refine' ws_expr ?_ ?k1); (case k1 => rfl))))))
  | ((with_reducible show DL.WT _ _ _ _ _); (first | ((with_reducible refine' wt_lele ?_ ?k1); (case k1 => with_unfolding_all rfl)) | ((with_reducible refine' xt_eq ?k1 ?_); (case k1 => assumption)) | ((with_reducible refine' xt_ne ?k1 ?_); (case k1 => assumption)) | ((with_reducible refine' xt_in ?k1 ?_ ?k2); (case k1 => assumption); (case k2 => rfl)) | ((with_reducible refine' xt_nin ?k1 ?_ ?k2); (case k1 => assumption); (case k2 => rfl)) | with_reducible refine wt_lt ?_ | with_reducible refine wt_le ?_ | with_reducible refine wt_gt ?_ | with_reducible refine wt_ge ?_ | with_reducible refine wt_is ?_ | with_reducible refine wt_isnot ?_ | with_reducible refine wt_not ?_ | with_reducible refine wt_bo ?_ | ((with_reducible refine' wt_val ?_ ?k1); (case k1 => (intro _; rfl)))))
  | ((with_reducible show DL.WA _ _ _ _ _); (first | with_reducible refine wa_nil ?_ | ((with_reducible refine' wa_cons ?_ ?k1); (case k1 => rfl))))
  | ((with_reducible show DL.WW _ _ _ _ _); (first | with_reducible refine ww_and ?_ | with_reducible refine ww_or ?_ | with_reducible refine ww_and1 ?_ | with_reducible refine ww_or1 ?_))
  | ((with_reducible show DL.WG _ _ _ _ _ _); (first | ((with_reducible refine' wg_nm ?kb ?k0 ?kp ?_); (case kb => assumption); (case k0 => walk_at "nm"); (case kp => walk_at "nm")) | ((with_reducible refine' x_gtup ?kx ?kl ?_ ?k1); (case kx => assumption); (case kl => rfl); (case k1 => rfl)) | ((with_reducible refine' wg_setL ?_ ?k1); (case k1 => (intro _; rfl)))))
  | ((with_reducible show DL.WGs _ _ _ _ _ _); (first | ((with_reducible refine' wgs_cons ?_ ?k1); (case k1 => rfl)) | with_reducible refine wgs_nil ?_))
  | ((with_reducible show DL.WO _ _ _ _ _); (first | with_reducible refine wo_n ?_ | with_reducible refine wo_s ?_))
  | ((with_reducible show DL.FrzA _ _ _); (first | with_reducible refine fa_int ?_ | with_reducible refine fa_str ?_ | with_reducible refine fa_bl ?_ | with_reducible refine fa_non ?_ | with_reducible refine fa_tup ?_ | with_reducible refine fa_lst ?_ | ((with_reducible refine' fa_put ?k1 ?_); (case k1 => assumption))))
  | ((with_reducible show DL.dSl _ _ _ _ _); (first | with_reducible refine slA_f ?_ | with_reducible refine slA_t ?_ | with_reducible refine slA_p ?_ | ((with_reducible refine' slA_o ?k1 ?_); (case k1 => assumption)) | ((with_reducible refine' slA_z ?k1 ?_); (case k1 => walk_at "ct")) | with_reducible refine sl_t ?_ | with_reducible refine sl_f ?_))
  | ((with_reducible show DL.dAdd _ _ _ _); (first | with_reducible refine addA_ii ?_ | ((with_reducible refine' addA_ss ?k1 ?_); (case k1 => walk_at "ct")) | ((with_reducible refine' addA_tt ?k1 ?_); (case k1 => walk_at "ct")) | ((with_reducible refine' addA_ll ?k1 ?_); (case k1 => walk_at "sz")) | ((with_reducible refine' addA_pl ?k1 ?_); (case k1 => walk_at "sz")) | with_reducible refine add_ii ?_ | ((with_reducible refine' add_ss ?k1 ?_); (case k1 => walk_at "ct")) | ((with_reducible refine' add_tt ?k1 ?_); (case k1 => walk_at "ct"))))
  | ((with_reducible show DL.dList _ _ _); (first | with_reducible refine listA_l ?_ | with_reducible refine listA_t ?_ | with_reducible refine listA_p ?_ | ((with_reducible refine' listA_o ?k1 ?_); (case k1 => assumption))))
  | ((with_reducible show DL.dMul _ _ _ _); (first | ((with_reducible refine' mulA_ii ?k1 ?_); (case k1 => walk_at "ct")) | ((with_reducible refine' mul_ii ?k1 ?_); (case k1 => walk_at "ct"))))
  | ((with_reducible show DL.dMulS _ _ _ _); (first | ((with_reducible refine' mul_s ?k1 ?_); (case k1 => decide +kernel))))
  | ((with_reducible show DL.dAppend _ _ _ _); (first | ((with_reducible refine' app_put ?k1 ?_); (case k1 => walk_at "sz"))))
  | ((with_reducible show DL.tb _ _ _); (first | with_reducible refine tb_ok ?_))
  | ((with_reducible show DL.dIsi _ _ _); (first | ((with_reducible refine' isi_int ?k1 ?_); (case k1 => walk_at "kd")) | ((with_reducible refine' isi_bool ?k1 ?_); (case k1 => walk_at "kd")) | ((with_reducible refine' isi_str ?k1 ?_); (case k1 => walk_at "kd")) | ((with_reducible refine' isi_list ?k1 ?_); (case k1 => walk_at "kd")) | ((with_reducible refine' isi_tuple ?k1 ?_); (case k1 => walk_at "kd")) | ((with_reducible refine' isi_ls ?k1 ?_); (case k1 => assumption)) | ((with_reducible refine' isi_lsT ?k1 ?_); (case k1 => assumption))))
  | ((with_reducible show DL.dIsiT _ _ _); (first | ((with_reducible refine' isi_ltT ?k1 ?k2 ?_); (case k1 => rfl); (case k2 => rfl)) | ((with_reducible refine' isi_ltF ?k1 ?k2 ?_); (case k1 => rfl); (case k2 => rfl)) | ((with_reducible refine' isi_lt ?k1 ?_); (case k1 => walk_at "kd")) | ((with_reducible refine' isiT_ls ?k1 ?_); (case k1 => assumption))))
  | ((with_reducible show DL.dLen _ _ _); (first | ((with_reducible refine' len_ls ?k1 ?_); (case k1 => assumption)) | ((with_reducible refine' len_str ?k1 ?_); (case k1 => walk_at "ct")) | with_reducible refine len_tup ?_ | with_reducible refine len_fr ?_ | with_reducible refine len_sl ?_ | ((with_reducible refine' len_own ?k1 ?_); (case k1 => assumption)) | with_reducible refine len_put ?_))
  | ((with_reducible show DL.dEq _ _ _ _ _); (first | with_reducible refine eq_bb ?_ | with_reducible refine ne_bb ?_ | with_reducible refine eq_ii ?_ | with_reducible refine ne_ii ?_))
  | ((with_reducible show DL.dI2 _ _ _ _ _ _); (first | ((with_reducible refine' i2_ok ?k1 ?_); (case k1 => walk_at "ct"))))
  | ((with_reducible show DL.dB2 _ _ _ _ _); (first | with_reducible refine b2_ok ?_))
  | ((with_reducible show DL.dInt1 _ _ _ _); (first | with_reducible refine int1_ok ?_))
  | ((with_reducible show DL.dInt2 _ _ _ _); (first | with_reducible refine int2_ok ?_))
  | ((with_reducible show DL.dInt _ _ _); (first | with_reducible refine int_i ?_ | with_reducible refine int_b ?_))
  | ((with_reducible show DL.dIn _ _ _ _ _); (first | with_reducible refine ins_c ?_))
  | ((with_reducible show DL.dTuple _ _ _); (first | with_reducible refine tup_t ?_ | with_reducible refine tup_f ?_))
  | ((with_reducible show DL.dIx _ _ _ _); (first | ((with_reducible refine' ix_t ?k1 ?_); (case k1 => rfl)) | ((with_reducible refine' ix_f ?k1 ?_); (case k1 => rfl)) | ((with_reducible refine' ix_s ?k1 ?_); (case k1 => rfl)) | ((with_reducible refine' ix_p ?k1 ?_); (case k1 => rfl)) | ((with_reducible refine' ix_o ?k0 ?k1 ?_); (case k0 => assumption); (case k1 => rfl))))
  | ((with_reducible show DL.dIsN _ _ _ _ _); (first | ((with_reducible refine' isn_k ?k1 ?_); (case k1 => walk_at "kd")) | ((with_reducible refine' nisn_k ?k1 ?_); (case k1 => walk_at "kd"))))
  | with_reducible refine ex_bl ?_
  | with_reducible refine ex_int ?_
  | with_reducible refine ex_2 ?_
  | with_reducible refine ex_3 ?_
  | ((with_reducible refine' setL_p ?k1 ?_); (case k1 => rfl))
  | ((with_reducible refine' setL_o ?k0 ?k1 ?_); (case k0 => assumption); (case k1 => rfl))
  | with_reducible refine and_T ?_
  | with_reducible refine and_F ?_
  | ((with_reducible refine and_S ?_ ?_) <;> intro _)
  | with_reducible refine ty_str ?_
  | with_reducible refine ty_put ?_
  | ((with_reducible refine' ty_own ?k1 ?_); (case k1 => assumption))
  | ((with_reducible refine' sz_ok ?k1 ?_); (case k1 => rfl))
  | ((with_reducible refine' sz_as ?k1 ?_); (case k1 => assumption))))
local macro_rules | `(tactic| walk_at "pyR") => `(tactic| repeat' (first
  | ((with_reducible show DL.WE _ _ _ _ _); (first
    | ((with_reducible show DL.WE _ (Expr.Compare _ _ _ _) _ _ _); (first | ((with_reducible refine' we_lele ?_ ?k1); (case k1 => with_unfolding_all rfl)) | with_reducible refine we_lt ?_ | with_reducible refine we_le ?_ | with_reducible refine we_gt ?_ | with_reducible refine we_ge ?_ | with_reducible refine we_is ?_ | with_reducible refine we_isnot ?_ | ((with_reducible refine' x_eq ?k1 ?_); (case k1 => assumption)) | ((with_reducible refine' x_ne ?k1 ?_); (case k1 => assumption)) | ((with_reducible refine' x_in ?k1 ?_ ?k2); (case k1 => assumption); (case k2 => rfl)) | ((with_reducible refine' x_nin ?k1 ?_ ?k2); (case k1 => assumption); (case k2 => rfl))))
    | ((with_reducible show DL.WE _ (Expr.Subscript _ _ _) _ _ _); (first | with_reducible refine we_revT ?_ | ((with_reducible refine' x_ixL ?_ ?k1); (case k1 => (intro _ _; rfl))) | ((with_reducible refine' we_ix ?_ ?k1); (case k1 => (intro _ _; rfl))) | with_reducible refine we_slice ?_))
    | ((with_reducible show DL.WE _ (Expr.Call (Expr.Attribute _ _ _) _ _ _) _ _ _); (first | ((with_reducible refine' x_upper ?_ ?k1 ?k2); (case k1 => rfl); (case k2 => rfl)) | ((with_reducible refine' x_join ?_ ?k1 ?k2 ?k3 ?k4 ?k5); (case k1 => rfl); (case k2 => rfl); (case k3 => rfl); (case k4 => rfl); (case k5 => rfl)) | ((with_reducible refine' x_sindex ?_ ?k1 ?k2 ?k3 ?k4 ?k5); (case k1 => rfl); (case k2 => rfl); (case k3 => rfl); (case k4 => rfl); (case k5 => rfl)) | ((with_reducible refine' x_insert ?_ ?k1 ?k2 ?k3 ?k4 ?k5); (case k1 => rfl); (case k2 => rfl); (case k3 => rfl); (case k4 => rfl); (case k5 => rfl)) | ((with_reducible refine' x_popAt ?_ ?k1 ?k2 ?k3 ?k4 ?k5); (case k1 => rfl); (case k2 => rfl); (case k3 => rfl); (case k4 => rfl); (case k5 => rfl)) | ((with_reducible refine' x_append ?_ ?k1 ?k2 ?k3 ?k4 ?k5); (case k1 => rfl); (case k2 => rfl); (case k3 => rfl); (case k4 => rfl); (case k5 => rfl)) | ((with_reducible refine' x_extend ?_ ?k1 ?k2 ?k3 ?k4 ?k5); (case k1 => rfl); (case k2 => rfl); (case k3 => rfl); (case k4 => rfl); (case k5 => rfl))))
    | ((with_reducible show DL.WE _ (Expr.Call (Expr.Name _ _) _ _ _) _ _ _); (first | ((with_reducible refine' x_repr ?kx ?kz ?kg ?_ ?k1 ?k2); (case kx => assumption); (case kz => assumption); (case kg => walk_at "gl"); (case k1 => rfl); (case k2 => rfl)) | ((with_reducible refine' x_isiT ?kx ?kz ?kg ?_ ?k1 ?k2); (case kx => assumption); (case kz => assumption); (case kg => walk_at "gl"); (case k1 => rfl); (case k2 => rfl)) | ((with_reducible refine' x_isi ?kx ?kz ?kg ?_ ?k1 ?k2); (case kx => assumption); (case kz => assumption); (case kg => walk_at "gl"); (case k1 => rfl); (case k2 => rfl)) | ((with_reducible refine' x_len ?kx ?kz ?kg ?_ ?k1 ?k2); (case kx => assumption); (case kz => assumption); (case kg => walk_at "gl"); (case k1 => rfl); (case k2 => rfl)) | ((with_reducible refine' x_abs ?kx ?kz ?kg ?_ ?k1 ?k2); (case kx => assumption); (case kz => assumption); (case kg => walk_at "gl"); (case k1 => rfl); (case k2 => rfl)) | ((with_reducible refine' x_max2 ?kx ?kz ?kg ?_ ?k1 ?k2); (case kx => assumption); (case kz => assumption); (case kg => walk_at "gl"); (case k1 => rfl); (case k2 => rfl)) | ((with_reducible refine' x_min2 ?kx ?kz ?kg ?_ ?k1 ?k2); (case kx => assumption); (case kz => assumption); (case kg => walk_at "gl"); (case k1 => rfl); (case k2 => rfl)) | ((with_reducible refine' x_minL ?kx ?kz ?kg ?_ ?k1 ?k2); (case kx => assumption); (case kz => assumption); (case kg => walk_at "gl"); (case k1 => rfl); (case k2 => rfl)) | ((with_reducible refine' x_any ?kx ?kz ?kg ?_ ?k1 ?k2); (case kx => assumption); (case kz => assumption); (case kg => walk_at "gl"); (case k1 => rfl); (case k2 => rfl)) | ((with_reducible refine' x_all ?kx ?kz ?kg ?_ ?k1 ?k2); (case kx => assumption); (case kz => assumption); (case kg => walk_at "gl"); (case k1 => rfl); (case k2 => rfl)) | ((with_reducible refine' x_sum ?kx ?kz ?kg ?_ ?k1 ?k2); (case kx => assumption); (case kz => assumption); (case kg => walk_at "gl"); (case k1 => rfl); (case k2 => rfl)) | ((with_reducible refine' x_intC ?kx ?kz ?kg ?_ ?k1 ?k2); (case kx => assumption); (case kz => assumption); (case kg => walk_at "gl"); (case k1 => rfl); (case k2 => rfl)) | ((with_reducible refine' x_strC ?kx ?kz ?kg ?_ ?k1 ?k2); (case kx => assumption); (case kz => assumption); (case kg => walk_at "gl"); (case k1 => rfl); (case k2 => rfl)) | ((with_reducible refine' x_tupleC ?kx ?kz ?kg ?_ ?k1 ?k2); (case kx => assumption); (case kz => assumption); (case kg => walk_at "gl"); (case k1 => rfl); (case k2 => rfl)) | ((with_reducible refine' x_listC ?kx ?kz ?kg ?_ ?k1 ?k2); (case kx => assumption); (case kz => assumption); (case kg => walk_at "gl"); (case k1 => rfl); (case k2 => rfl)) | ((with_reducible refine' x_call ?kx ?kh ?kg ?_ ?kl ?kd ?k1 ?k2); (case kh => assumption); (case kx => assumption); (case kg => walk_at "gl"); (case kl => first | decide | omega); (case kd => decide); (case k1 => rfl); (case k2 => rfl))))
    | ((with_reducible show DL.WE _ (Expr.BoolOp _ _ _) _ _ _); (first | with_reducible refine we_and ?_ | with_reducible refine we_or ?_ | with_reducible refine we_one ?_))
    | ((with_reducible show DL.WE _ (Expr.UnaryOp _ _ _) _ _ _); (first | with_reducible refine we_not ?_ | with_reducible refine we_neg ?_))
    | ((with_reducible show DL.WE _ (Expr.IfExp _ _ _ _) _ _ _); (first | with_reducible refine we_if ?_))
    | ((with_reducible show DL.WE _ (Expr.Constant _ _ _) _ _ _); (first | with_reducible refine we_int ?_ | with_reducible refine we_bl ?_ | with_reducible refine we_non ?_ | with_reducible refine we_str ?_))
    | ((with_reducible show DL.WE _ (Expr.Tuple _ _ _) _ _ _); (first | with_reducible refine we_tup ?_))
    | ((with_reducible show DL.WE _ (Expr.Name _ _) _ _ _); (first | ((with_reducible refine' we_nm ?k1 ?k0 ?k2 ?_); (case k1 => assumption); (case k0 => walk_at "nm"); (case k2 => walk_at "nm")) | ((with_reducible refine' x_tyInt ?kx ?kz ?kg ?_); (case kx => assumption); (case kz => assumption); (case kg => walk_at "gl")) | ((with_reducible refine' x_tyBool ?kx ?kz ?kg ?_); (case kx => assumption); (case kz => assumption); (case kg => walk_at "gl")) | ((with_reducible refine' x_tyStr ?kx ?kz ?kg ?_); (case kx => assumption); (case kz => assumption); (case kg => walk_at "gl")) | ((with_reducible refine' x_tyList ?kx ?kz ?kg ?_); (case kx => assumption); (case kz => assumption); (case kg => walk_at "gl")) | ((with_reducible refine' x_tyTuple ?kx ?kz ?kg ?_); (case kx => assumption); (case kz => assumption); (case kg => walk_at "gl")) | ((with_reducible refine' x_glob ?kx ?kh ?kg ?_ ?kd); (case kh => assumption); (case kx => assumption); (case kg => walk_at "gl"); (case kd => decide))))
    | ((with_reducible show DL.WE _ (Expr.BinOp _ _ _ _) _ _ _); (first | with_reducible refine we_add ?_ | with_reducible refine we_sub' ?_ | with_reducible refine we_mul ?_ | with_reducible refine we_mod ?_ | with_reducible refine we_fdiv ?_ | with_reducible refine we_pow ?_))))
  | ((with_reducible show DL.WSs _ _ _ _ _); (first | with_reducible refine wss_cons ?_ | with_reducible refine wss_nil ?_))
  | ((with_reducible show DL.WS _ _ _ _ _); (first
    | ((with_reducible show DL.WS _ (Stmt.If _ _ _ _) _ _ _); (first | ((with_reducible refine' x_ifWge ?kb ?k0 ?kp ?_); (case kb => assumption); (case k0 => walk_at "nm"); (case kp => walk_at "nm")) | with_reducible refine ws_if ?_))
    | ((with_reducible show DL.WS _ (Stmt.Return _ _) _ _ _); (first | with_reducible refine ws_ret ?_ | with_reducible refine ws_retN ?_))
    | ((with_reducible show DL.WS _ (Stmt.Pass _) _ _ _); (first | with_reducible refine ws_pass ?_))
    | ((with_reducible show DL.WS _ (Stmt.Break _) _ _ _); (first | with_reducible refine ws_break ?_))
    | ((with_reducible show DL.WS _ (Stmt.Continue _) _ _ _); (first | with_reducible refine ws_continue ?_))
    | ((with_reducible show DL.WS _ (Stmt.Assign _ _ _) _ _ _); (first | ((with_reducible refine' ws_nm ?kb ?k0 ?kp ?_ ?k1); (case kb => assumption); (case k0 => walk_at "nm"); (case kp => walk_at "nm"); (case k1 => rfl)) | ((with_reducible refine' x_par2 ?kd ?k1 ?k2 ?k3 ?k4 ?k5 ?k6 ?_ ?k7); (case kd => assumption); (case k1 => walk_at "nm"); (case k2 => (intro _; walk_at "nm")); (case k3 => decide +kernel); (case k4 => decide +kernel); (case k5 => decide +kernel); (case k6 => rfl); (case k7 => rfl)) | ((with_reducible refine' x_par3 ?kd ?k1 ?k2 ?k3 ?k4 ?k5 ?k6 ?k7 ?_ ?k8); (case kd => assumption); (case k1 => walk_at "nm"); (case k2 => (intro _; walk_at "nm")); (case k3 => (intro _ _; walk_at "nm")); (case k4 => decide +kernel); (case k5 => decide +kernel); (case k6 => decide +kernel); (case k7 => rfl); (case k8 => rfl)) | ((with_reducible refine' ws_asg ?_ ?k1 ?k2 ?k3); (case k1 => rfl); (case k2 => rfl); (case k3 => rfl)) | ((with_reducible refine' ws_asgD ?kd ?_ ?k1 ?k2 ?k3); (case kd => assumption); (case k1 => rfl); (case k2 => rfl); (case k3 => rfl))))
    | ((with_reducible show DL.WS _ (Stmt.AugAssign _ _ _ _) _ _ _); (first | ((with_reducible refine' ws_augAdd ?kb ?k0 ?kg ?kp ?_); (case kb => assumption); (case k0 => walk_at "nm"); (case kg => walk_at "nm"); (case kp => walk_at "nm"))))
    | ((with_reducible show DL.WS _ (Stmt.Expr _ _) _ _ _); (first | ((with_reducible refine' ws_expr ?_ ?k1); (case k1 => rfl))))))
  | ((with_reducible show DL.WT _ _ _ _ _); (first | ((with_reducible refine' wt_lele ?_ ?k1); (case k1 => with_unfolding_all rfl)) | ((with_reducible refine' xt_eq ?k1 ?_); (case k1 => assumption)) | ((with_reducible refine' xt_ne ?k1 ?_); (case k1 => assumption)) | ((with_reducible refine' xt_in ?k1 ?_ ?k2); (case k1 => assumption); (case k2 => rfl)) | ((with_reducible refine' xt_nin ?k1 ?_ ?k2); (case k1 => assumption); (case k2 => rfl)) | with_reducible refine wt_lt ?_ | with_reducible refine wt_le ?_ | with_reducible refine wt_gt ?_ | with_reducible refine wt_ge ?_ | with_reducible refine wt_is ?_ | with_reducible refine wt_isnot ?_ | with_reducible refine wt_not ?_ | with_reducible refine wt_bo ?_ | ((with_reducible refine' wt_val ?_ ?k1); (case k1 => (intro _; rfl)))))
  | ((with_reducible show DL.WA _ _ _ _ _); (first | with_reducible refine wa_nil ?_ | ((with_reducible refine' wa_cons ?_ ?k1); (case k1 => rfl))))
  | ((with_reducible show DL.WW _ _ _ _ _); (first | with_reducible refine ww_and ?_ | with_reducible refine ww_or ?_ | with_reducible refine ww_and1 ?_ | with_reducible refine ww_or1 ?_))
  | ((with_reducible show DL.WG _ _ _ _ _ _); (first | ((with_reducible refine' wg_nm ?kb ?k0 ?kp ?_); (case kb => assumption); (case k0 => walk_at "nm"); (case kp => walk_at "nm")) | ((with_reducible refine' x_gtup ?kx ?kl ?_ ?k1); (case kx => assumption); (case kl => rfl); (case k1 => rfl)) | ((with_reducible refine' wg_setL ?_ ?k1); (case k1 => (intro _; rfl)))))
  | ((with_reducible show DL.WGs _ _ _ _ _ _); (first | ((with_reducible refine' wgs_cons ?_ ?k1); (case k1 => rfl)) | with_reducible refine wgs_nil ?_))
  | ((with_reducible show DL.WO _ _ _ _ _); (first | with_reducible refine wo_n ?_ | with_reducible refine wo_s ?_))
  | ((with_reducible show DL.tb _ _ _); (first | with_reducible refine tb_ok ?_))
  | ((with_reducible show DL.dIsi _ _ _); (first | ((with_reducible refine' isi_int ?k1 ?_); (case k1 => walk_at "kd")) | ((with_reducible refine' isi_bool ?k1 ?_); (case k1 => walk_at "kd")) | ((with_reducible refine' isi_str ?k1 ?_); (case k1 => walk_at "kd")) | ((with_reducible refine' isi_list ?k1 ?_); (case k1 => walk_at "kd")) | ((with_reducible refine' isi_tuple ?k1 ?_); (case k1 => walk_at "kd")) | ((with_reducible refine' isi_ls ?k1 ?_); (case k1 => assumption)) | ((with_reducible refine' isi_lsT ?k1 ?_); (case k1 => assumption))))
  | ((with_reducible show DL.dIsiT _ _ _); (first | ((with_reducible refine' isi_ltT ?k1 ?k2 ?_); (case k1 => rfl); (case k2 => rfl)) | ((with_reducible refine' isi_ltF ?k1 ?k2 ?_); (case k1 => rfl); (case k2 => rfl)) | ((with_reducible refine' isi_lt ?k1 ?_); (case k1 => walk_at "kd")) | ((with_reducible refine' isiT_ls ?k1 ?_); (case k1 => assumption))))
  | ((with_reducible show DL.dLen _ _ _); (first | ((with_reducible refine' len_ls ?k1 ?_); (case k1 => assumption)) | ((with_reducible refine' len_str ?k1 ?_); (case k1 => walk_at "ct")) | with_reducible refine len_tup ?_ | with_reducible refine len_fr ?_ | with_reducible refine len_sl ?_ | ((with_reducible refine' len_own ?k1 ?_); (case k1 => assumption)) | with_reducible refine len_put ?_))
  | ((with_reducible show DL.dEq _ _ _ _ _); (first | with_reducible refine eq_bb ?_ | with_reducible refine ne_bb ?_ | with_reducible refine eq_ii ?_ | with_reducible refine ne_ii ?_))
  | ((with_reducible show DL.dI2 _ _ _ _ _ _); (first | ((with_reducible refine' i2_ok ?k1 ?_); (case k1 => walk_at "ct"))))
  | ((with_reducible show DL.dB2 _ _ _ _ _); (first | with_reducible refine b2_ok ?_))
  | ((with_reducible show DL.dAdd _ _ _ _); (first | with_reducible refine add_ii ?_ | ((with_reducible refine' add_ss ?k1 ?_); (case k1 => walk_at "ct")) | ((with_reducible refine' add_tt ?k1 ?_); (case k1 => walk_at "ct"))))
  | ((with_reducible show DL.dMul _ _ _ _); (first | ((with_reducible refine' mul_ii ?k1 ?_); (case k1 => walk_at "ct"))))
  | ((with_reducible show DL.dSl _ _ _ _ _); (first | with_reducible refine sl_t ?_ | with_reducible refine sl_f ?_))
  | ((with_reducible show DL.dInt1 _ _ _ _); (first | with_reducible refine int1_ok ?_))
  | ((with_reducible show DL.dInt2 _ _ _ _); (first | with_reducible refine int2_ok ?_))
  | ((with_reducible show DL.dInt _ _ _); (first | with_reducible refine int_i ?_ | with_reducible refine int_b ?_))
  | ((with_reducible show DL.dIn _ _ _ _ _); (first | with_reducible refine ins_c ?_))
  | ((with_reducible show DL.dTuple _ _ _); (first | with_reducible refine tup_t ?_ | with_reducible refine tup_f ?_))
  | ((with_reducible show DL.dIx _ _ _ _); (first | ((with_reducible refine' ix_t ?k1 ?_); (case k1 => rfl)) | ((with_reducible refine' ix_f ?k1 ?_); (case k1 => rfl)) | ((with_reducible refine' ix_s ?k1 ?_); (case k1 => rfl)) | ((with_reducible refine' ix_p ?k1 ?_); (case k1 => rfl)) | ((with_reducible refine' ix_o ?k0 ?k1 ?_); (case k0 => assumption); (case k1 => rfl))))
  | ((with_reducible show DL.dIsN _ _ _ _ _); (first | ((with_reducible refine' isn_k ?k1 ?_); (case k1 => walk_at "kd")) | ((with_reducible refine' nisn_k ?k1 ?_); (case k1 => walk_at "kd"))))
  | with_reducible refine ex_bl ?_
  | with_reducible refine ex_int ?_
  | with_reducible refine ex_2 ?_
  | with_reducible refine ex_3 ?_
  | ((with_reducible refine' setL_p ?k1 ?_); (case k1 => rfl))
  | ((with_reducible refine' setL_o ?k0 ?k1 ?_); (case k0 => assumption); (case k1 => rfl))
  | with_reducible refine and_T ?_
  | with_reducible refine and_F ?_
  | ((with_reducible refine and_S ?_ ?_) <;> intro _)
  | with_reducible refine ty_str ?_
  | with_reducible refine ty_put ?_
  | ((with_reducible refine' ty_own ?k1 ?_); (case k1 => assumption))
  | ((with_reducible refine' sz_ok ?k1 ?_); (case k1 => rfl))
  | ((with_reducible refine' sz_as ?k1 ?_); (case k1 => assumption))))
local macro_rules | `(tactic| walk_at "pyC") => `(tactic| repeat' (first
  | ((with_reducible show DL.WE _ _ _ _ _); (first
    | ((with_reducible show DL.WE _ (Expr.Subscript _ _ _) _ _ _); (first | ((with_reducible refine' x_ixD ?kx ?_ ?k1); (case kx => assumption); (case k1 => (intro _ _; rfl))) | with_reducible refine we_revT ?_ | ((with_reducible refine' x_ixL ?_ ?k1); (case k1 => (intro _ _; rfl))) | ((with_reducible refine' we_ix ?_ ?k1); (case k1 => (intro _ _; rfl))) | with_reducible refine we_slice ?_))
    | ((with_reducible show DL.WE _ (Expr.Compare _ _ _ _) _ _ _); (first | ((with_reducible refine' x_inX ?kx ?_ ?k1); (case kx => assumption); (case k1 => rfl)) | ((with_reducible refine' x_ninX ?kx ?_ ?k1); (case kx => assumption); (case k1 => rfl)) | ((with_reducible refine' we_lele ?_ ?k1); (case k1 => with_unfolding_all rfl)) | with_reducible refine we_lt ?_ | with_reducible refine we_le ?_ | with_reducible refine we_gt ?_ | with_reducible refine we_ge ?_ | with_reducible refine we_is ?_ | with_reducible refine we_isnot ?_ | ((with_reducible refine' x_eq ?k1 ?_); (case k1 => assumption)) | ((with_reducible refine' x_ne ?k1 ?_); (case k1 => assumption)) | ((with_reducible refine' x_in ?k1 ?_ ?k2); (case k1 => assumption); (case k2 => rfl)) | ((with_reducible refine' x_nin ?k1 ?_ ?k2); (case k1 => assumption); (case k2 => rfl))))
    | ((with_reducible show DL.WE _ (Expr.Call (Expr.Name _ _) _ _ _) _ _ _); (first | ((with_reducible refine' x_lenX ?kx ?kz ?kg ?_ ?k1 ?k2); (case kx => assumption); (case kz => assumption); (case kg => walk_at "gl"); (case k1 => rfl); (case k2 => rfl)) | ((with_reducible refine' x_dictP ?kx ?kz ?kg ?_ ?k1 ?k2); (case kx => assumption); (case kz => assumption); (case kg => walk_at "gl"); (case k1 => rfl); (case k2 => rfl)) | ((with_reducible refine' x_sortedK ?kx ?kz ?kg ?_ ?k1 ?k2); (case kx => assumption); (case kz => assumption); (case kg => walk_at "gl"); (case k1 => rfl); (case k2 => rfl)) | ((with_reducible refine' x_repr ?kx ?kz ?kg ?_ ?k1 ?k2); (case kx => assumption); (case kz => assumption); (case kg => walk_at "gl"); (case k1 => rfl); (case k2 => rfl)) | ((with_reducible refine' x_isiT ?kx ?kz ?kg ?_ ?k1 ?k2); (case kx => assumption); (case kz => assumption); (case kg => walk_at "gl"); (case k1 => rfl); (case k2 => rfl)) | ((with_reducible refine' x_isi ?kx ?kz ?kg ?_ ?k1 ?k2); (case kx => assumption); (case kz => assumption); (case kg => walk_at "gl"); (case k1 => rfl); (case k2 => rfl)) | ((with_reducible refine' x_len ?kx ?kz ?kg ?_ ?k1 ?k2); (case kx => assumption); (case kz => assumption); (case kg => walk_at "gl"); (case k1 => rfl); (case k2 => rfl)) | ((with_reducible refine' x_abs ?kx ?kz ?kg ?_ ?k1 ?k2); (case kx => assumption); (case kz => assumption); (case kg => walk_at "gl"); (case k1 => rfl); (case k2 => rfl)) | ((with_reducible refine' x_max2 ?kx ?kz ?kg ?_ ?k1 ?k2); (case kx => assumption); (case kz => assumption); (case kg => walk_at "gl"); (case k1 => rfl); (case k2 => rfl)) | ((with_reducible refine' x_min2 ?kx ?kz ?kg ?_ ?k1 ?k2); (case kx => assumption); (case kz => assumption); (case kg => walk_at "gl"); (case k1 => rfl); (case k2 => rfl)) | ((with_reducible refine' x_minL ?kx ?kz ?kg ?_ ?k1 ?k2); (case kx => assumption); (case kz => assumption); (case kg => walk_at "gl"); (case k1 => rfl); (case k2 => rfl)) | ((with_reducible refine' x_any ?kx ?kz ?kg ?_ ?k1 ?k2); (case kx => assumption); (case kz => assumption); (case kg => walk_at "gl"); (case k1 => rfl); (case k2 => rfl)) | ((with_reducible refine' x_all ?kx ?kz ?kg ?_ ?k1 ?k2); (case kx => assumption); (case kz => assumption); (case kg => walk_at "gl"); (case k1 => rfl); (case k2 => rfl)) | ((with_reducible refine' x_sum ?kx ?kz ?kg ?_ ?k1 ?k2); (case kx => assumption); (case kz => assumption); (case kg => walk_at "gl"); (case k1 => rfl); (case k2 => rfl)) | ((with_reducible refine' x_intC ?kx ?kz ?kg ?_ ?k1 ?k2); (case kx => assumption); (case kz => assumption); (case kg => walk_at "gl"); (case k1 => rfl); (case k2 => rfl)) | ((with_reducible refine' x_strC ?kx ?kz ?kg ?_ ?k1 ?k2); (case kx => assumption); (case kz => assumption); (case kg => walk_at "gl"); (case k1 => rfl); (case k2 => rfl)) | ((with_reducible refine' x_tupleC ?kx ?kz ?kg ?_ ?k1 ?k2); (case kx => assumption); (case kz => assumption); (case kg => walk_at "gl"); (case k1 => rfl); (case k2 => rfl)) | ((with_reducible refine' x_listC ?kx ?kz ?kg ?_ ?k1 ?k2); (case kx => assumption); (case kz => assumption); (case kg => walk_at "gl"); (case k1 => rfl); (case k2 => rfl)) | ((with_reducible refine' x_call ?kx ?kh ?kg ?_ ?kl ?kd ?k1 ?k2); (case kh => assumption); (case kx => assumption); (case kg => walk_at "gl"); (case kl => first | decide | omega); (case kd => decide); (case k1 => rfl); (case k2 => rfl))))
    | ((with_reducible show DL.WE _ (Expr.Attribute _ _ _) _ _ _); (first | ((with_reducible refine' x_fld ?kx ?_ ?k1); (case kx => assumption); (case k1 => rfl))))
    | ((with_reducible show DL.WE _ (Expr.Dict _ _ _) _ _ _); (first | with_reducible refine x_dnew ?_))
    | ((with_reducible show DL.WE _ (Expr.Call (Expr.Attribute _ _ _) _ _ _) _ _ _); (first | ((with_reducible refine' x_stripC ?_ ?k1 ?k2 ?k3 ?k4 ?k5); (case k1 => rfl); (case k2 => rfl); (case k3 => rfl); (case k4 => rfl); (case k5 => rfl)) | ((with_reducible refine' x_dget2 ?kx ?_ ?km); (case kx => assumption); (case km => exact ⟨rfl, rfl, rfl, rfl⟩)) | ((with_reducible refine' x_dpop1 ?_ ?km); (case km => exact ⟨rfl, rfl, rfl, rfl⟩)) | ((with_reducible refine' x_upper ?_ ?k1 ?k2); (case k1 => rfl); (case k2 => rfl)) | ((with_reducible refine' x_join ?_ ?k1 ?k2 ?k3 ?k4 ?k5); (case k1 => rfl); (case k2 => rfl); (case k3 => rfl); (case k4 => rfl); (case k5 => rfl)) | ((with_reducible refine' x_sindex ?_ ?k1 ?k2 ?k3 ?k4 ?k5); (case k1 => rfl); (case k2 => rfl); (case k3 => rfl); (case k4 => rfl); (case k5 => rfl)) | ((with_reducible refine' x_insert ?_ ?k1 ?k2 ?k3 ?k4 ?k5); (case k1 => rfl); (case k2 => rfl); (case k3 => rfl); (case k4 => rfl); (case k5 => rfl)) | ((with_reducible refine' x_popAt ?_ ?k1 ?k2 ?k3 ?k4 ?k5); (case k1 => rfl); (case k2 => rfl); (case k3 => rfl); (case k4 => rfl); (case k5 => rfl)) | ((with_reducible refine' x_append ?_ ?k1 ?k2 ?k3 ?k4 ?k5); (case k1 => rfl); (case k2 => rfl); (case k3 => rfl); (case k4 => rfl); (case k5 => rfl)) | ((with_reducible refine' x_extend ?_ ?k1 ?k2 ?k3 ?k4 ?k5); (case k1 => rfl); (case k2 => rfl); (case k3 => rfl); (case k4 => rfl); (case k5 => rfl))))
    | ((with_reducible show DL.WE _ (Expr.BoolOp _ _ _) _ _ _); (first | with_reducible refine we_and ?_ | with_reducible refine we_or ?_ | with_reducible refine we_one ?_))
    | ((with_reducible show DL.WE _ (Expr.UnaryOp _ _ _) _ _ _); (first | with_reducible refine we_not ?_ | with_reducible refine we_neg ?_))
    | ((with_reducible show DL.WE _ (Expr.IfExp _ _ _ _) _ _ _); (first | with_reducible refine we_if ?_))
    | ((with_reducible show DL.WE _ (Expr.Constant _ _ _) _ _ _); (first | with_reducible refine we_int ?_ | with_reducible refine we_bl ?_ | with_reducible refine we_non ?_ | with_reducible refine we_str ?_))
    | ((with_reducible show DL.WE _ (Expr.Tuple _ _ _) _ _ _); (first | with_reducible refine we_tup ?_))
    | ((with_reducible show DL.WE _ (Expr.Name _ _) _ _ _); (first | ((with_reducible refine' we_nm ?k1 ?k0 ?k2 ?_); (case k1 => assumption); (case k0 => walk_at "nm"); (case k2 => walk_at "nm")) | ((with_reducible refine' x_tyInt ?kx ?kz ?kg ?_); (case kx => assumption); (case kz => assumption); (case kg => walk_at "gl")) | ((with_reducible refine' x_tyBool ?kx ?kz ?kg ?_); (case kx => assumption); (case kz => assumption); (case kg => walk_at "gl")) | ((with_reducible refine' x_tyStr ?kx ?kz ?kg ?_); (case kx => assumption); (case kz => assumption); (case kg => walk_at "gl")) | ((with_reducible refine' x_tyList ?kx ?kz ?kg ?_); (case kx => assumption); (case kz => assumption); (case kg => walk_at "gl")) | ((with_reducible refine' x_tyTuple ?kx ?kz ?kg ?_); (case kx => assumption); (case kz => assumption); (case kg => walk_at "gl")) | ((with_reducible refine' x_glob ?kx ?kh ?kg ?_ ?kd); (case kh => assumption); (case kx => assumption); (case kg => walk_at "gl"); (case kd => decide))))
    | ((with_reducible show DL.WE _ (Expr.BinOp _ _ _ _) _ _ _); (first | with_reducible refine we_add ?_ | with_reducible refine we_sub' ?_ | with_reducible refine we_mul ?_ | with_reducible refine we_mod ?_ | with_reducible refine we_fdiv ?_ | with_reducible refine we_pow ?_))))
  | ((with_reducible show DL.WSs _ _ _ _ _); (first | with_reducible refine wss_cons ?_ | with_reducible refine wss_nil ?_))
  | ((with_reducible show DL.WS _ _ _ _ _); (first
    | ((with_reducible show DL.WS _ (Stmt.Assign _ _ _) _ _ _); (first | ((with_reducible refine' x_setFld ?kx ?_ ?k1); (case kx => assumption); (case k1 => rfl)) | ((with_reducible refine' ws_nm ?kb ?k0 ?kp ?_ ?k1); (case kb => assumption); (case k0 => walk_at "nm"); (case kp => walk_at "nm"); (case k1 => rfl)) | ((with_reducible refine' x_par2 ?kd ?k1 ?k2 ?k3 ?k4 ?k5 ?k6 ?_ ?k7); (case kd => assumption); (case k1 => walk_at "nm"); (case k2 => (intro _; walk_at "nm")); (case k3 => decide +kernel); (case k4 => decide +kernel); (case k5 => decide +kernel); (case k6 => rfl); (case k7 => rfl)) | ((with_reducible refine' x_par3 ?kd ?k1 ?k2 ?k3 ?k4 ?k5 ?k6 ?k7 ?_ ?k8); (case kd => assumption); (case k1 => walk_at "nm"); (case k2 => (intro _; walk_at "nm")); (case k3 => (intro _ _; walk_at "nm")); (case k4 => decide +kernel); (case k5 => decide +kernel); (case k6 => decide +kernel); (case k7 => rfl); (case k8 => rfl)) | ((with_reducible refine' ws_asg ?_ ?k1 ?k2 ?k3); (case k1 => rfl); (case k2 => rfl); (case k3 => rfl)) | ((with_reducible refine' ws_asgD ?kd ?_ ?k1 ?k2 ?k3); (case kd => assumption); (case k1 => rfl); (case k2 => rfl); (case k3 => rfl))))
    | ((with_reducible show DL.WS _ (Stmt.Delete _ _) _ _ _); (first | ((with_reducible refine' x_ddel ?_))))
    | ((with_reducible show DL.WS _ (Stmt.If _ _ _ _) _ _ _); (first | ((with_reducible refine' x_ifWge ?kb ?k0 ?kp ?_); (case kb => assumption); (case k0 => walk_at "nm"); (case kp => walk_at "nm")) | with_reducible refine ws_if ?_))
    | ((with_reducible show DL.WS _ (Stmt.Return _ _) _ _ _); (first | with_reducible refine ws_ret ?_ | with_reducible refine ws_retN ?_))
    | ((with_reducible show DL.WS _ (Stmt.Pass _) _ _ _); (first | with_reducible refine ws_pass ?_))
    | ((with_reducible show DL.WS _ (Stmt.Break _) _ _ _); (first | with_reducible refine ws_break ?_))
    | ((with_reducible show DL.WS _ (Stmt.Continue _) _ _ _); (first | with_reducible refine ws_continue ?_))
    | ((with_reducible show DL.WS _ (Stmt.AugAssign _ _ _ _) _ _ _); (first | ((with_reducible refine' ws_augAdd ?kb ?k0 ?kg ?kp ?_); (case kb => assumption); (case k0 => walk_at "nm"); (case kg => walk_at "nm"); (case kp => walk_at "nm"))))
    | ((with_reducible show DL.WS _ (Stmt.Expr _ _) _ _ _); (first | ((with_reducible refine' ws_expr ?_ ?k1); (case k1 => rfl))))))
  | ((with_reducible show DL.WT _ _ _ _ _); (first | ((with_reducible refine' xt_inX ?kx ?_ ?k1); (case kx => assumption); (case k1 => rfl)) | ((with_reducible refine' xt_ninX ?kx ?_ ?k1); (case kx => assumption); (case k1 => rfl)) | ((with_reducible refine' wt_lele ?_ ?k1); (case k1 => with_unfolding_all rfl)) | ((with_reducible refine' xt_eq ?k1 ?_); (case k1 => assumption)) | ((with_reducible refine' xt_ne ?k1 ?_); (case k1 => assumption)) | ((with_reducible refine' xt_in ?k1 ?_ ?k2); (case k1 => assumption); (case k2 => rfl)) | ((with_reducible refine' xt_nin ?k1 ?_ ?k2); (case k1 => assumption); (case k2 => rfl)) | with_reducible refine wt_lt ?_ | with_reducible refine wt_le ?_ | with_reducible refine wt_gt ?_ | with_reducible refine wt_ge ?_ | with_reducible refine wt_is ?_ | with_reducible refine wt_isnot ?_ | with_reducible refine wt_not ?_ | with_reducible refine wt_bo ?_ | ((with_reducible refine' wt_val ?_ ?k1); (case k1 => (intro _; rfl)))))
  | ((with_reducible show DL.WG _ _ _ _ _ _); (first | ((with_reducible refine' x_setX ?kx ?_ ?k1); (case kx => assumption); (case k1 => (intro _; rfl))) | ((with_reducible refine' wg_nm ?kb ?k0 ?kp ?_); (case kb => assumption); (case k0 => walk_at "nm"); (case kp => walk_at "nm")) | ((with_reducible refine' x_gtup ?kx ?kl ?_ ?k1); (case kx => assumption); (case kl => rfl); (case k1 => rfl)) | ((with_reducible refine' wg_setL ?_ ?k1); (case k1 => (intro _; rfl)))))
  | ((with_reducible show DL.WA _ _ _ _ _); (first | with_reducible refine wa_nil ?_ | ((with_reducible refine' wa_cons ?_ ?k1); (case k1 => rfl))))
  | ((with_reducible show DL.WW _ _ _ _ _); (first | with_reducible refine ww_and ?_ | with_reducible refine ww_or ?_ | with_reducible refine ww_and1 ?_ | with_reducible refine ww_or1 ?_))
  | ((with_reducible show DL.WGs _ _ _ _ _ _); (first | ((with_reducible refine' wgs_cons ?_ ?k1); (case k1 => rfl)) | with_reducible refine wgs_nil ?_))
  | ((with_reducible show DL.WO _ _ _ _ _); (first | with_reducible refine wo_n ?_ | with_reducible refine wo_s ?_))
  | ((with_reducible show DL.dIxD _ _ _ _); (first | ((with_reducible refine' ixD_ok ?h1 ?h2 ?_); (case h1 => assumption); (case h2 => assumption)) | ((with_reducible show dIxD (D.own _) (D.int _) _ _); refine Or.inl ?_) | ((with_reducible show dIxD (D.lst _) _ _ _); refine Or.inl ?_) | ((with_reducible show dIxD (D.tup _) _ _ _); refine Or.inl ?_) | ((with_reducible show dIxD (D.str _) _ _ _); refine Or.inl ?_)))
  | ((with_reducible show DL.dInX _ _ _ _ _); (first | ((with_reducible refine' inX_ok ?h1 ?_); (case h1 => assumption)) | ((with_reducible refine' ninX_ok ?h1 ?_); (case h1 => assumption))))
  | ((with_reducible show DL.dLenX _ _ _); (first | ((with_reducible refine' lenX_ok ?h1 ?_); (case h1 => assumption)) | ((with_reducible show dLenX [D.lst _] _ _); refine Or.inl ?_) | ((with_reducible show dLenX [D.tup _] _ _); refine Or.inl ?_) | ((with_reducible show dLenX [D.str _] _ _); refine Or.inl ?_)))
  | ((with_reducible show DL.tb _ _ _); (first | with_reducible refine tb_ok ?_))
  | ((with_reducible show DL.dIsi _ _ _); (first | ((with_reducible refine' isi_int ?k1 ?_); (case k1 => walk_at "kd")) | ((with_reducible refine' isi_bool ?k1 ?_); (case k1 => walk_at "kd")) | ((with_reducible refine' isi_str ?k1 ?_); (case k1 => walk_at "kd")) | ((with_reducible refine' isi_list ?k1 ?_); (case k1 => walk_at "kd")) | ((with_reducible refine' isi_tuple ?k1 ?_); (case k1 => walk_at "kd")) | ((with_reducible refine' isi_ls ?k1 ?_); (case k1 => assumption)) | ((with_reducible refine' isi_lsT ?k1 ?_); (case k1 => assumption))))
  | ((with_reducible show DL.dIsiT _ _ _); (first | ((with_reducible refine' isi_ltT ?k1 ?k2 ?_); (case k1 => rfl); (case k2 => rfl)) | ((with_reducible refine' isi_ltF ?k1 ?k2 ?_); (case k1 => rfl); (case k2 => rfl)) | ((with_reducible refine' isi_lt ?k1 ?_); (case k1 => walk_at "kd")) | ((with_reducible refine' isiT_ls ?k1 ?_); (case k1 => assumption))))
  | ((with_reducible show DL.dLen _ _ _); (first | ((with_reducible refine' len_ls ?k1 ?_); (case k1 => assumption)) | ((with_reducible refine' len_str ?k1 ?_); (case k1 => walk_at "ct")) | with_reducible refine len_tup ?_ | with_reducible refine len_fr ?_ | with_reducible refine len_sl ?_ | ((with_reducible refine' len_own ?k1 ?_); (case k1 => assumption)) | with_reducible refine len_put ?_))
  | ((with_reducible show DL.dEq _ _ _ _ _); (first | with_reducible refine eq_bb ?_ | with_reducible refine ne_bb ?_ | with_reducible refine eq_ii ?_ | with_reducible refine ne_ii ?_))
  | ((with_reducible show DL.dI2 _ _ _ _ _ _); (first | ((with_reducible refine' i2_ok ?k1 ?_); (case k1 => walk_at "ct"))))
  | ((with_reducible show DL.dB2 _ _ _ _ _); (first | with_reducible refine b2_ok ?_))
  | ((with_reducible show DL.dAdd _ _ _ _); (first | with_reducible refine add_ii ?_ | ((with_reducible refine' add_ss ?k1 ?_); (case k1 => walk_at "ct")) | ((with_reducible refine' add_tt ?k1 ?_); (case k1 => walk_at "ct"))))
  | ((with_reducible show DL.dMul _ _ _ _); (first | ((with_reducible refine' mul_ii ?k1 ?_); (case k1 => walk_at "ct"))))
  | ((with_reducible show DL.dSl _ _ _ _ _); (first | with_reducible refine sl_t ?_ | with_reducible refine sl_f ?_))
  | ((with_reducible show DL.dInt1 _ _ _ _); (first | with_reducible refine int1_ok ?_))
  | ((with_reducible show DL.dInt2 _ _ _ _); (first | with_reducible refine int2_ok ?_))
  | ((with_reducible show DL.dInt _ _ _); (first | with_reducible refine int_i ?_ | with_reducible refine int_b ?_))
  | ((with_reducible show DL.dIn _ _ _ _ _); (first | with_reducible refine ins_c ?_))
  | ((with_reducible show DL.dTuple _ _ _); (first | with_reducible refine tup_t ?_ | with_reducible refine tup_f ?_))
  | ((with_reducible show DL.dIx _ _ _ _); (first | ((with_reducible refine' ix_t ?k1 ?_); (case k1 => rfl)) | ((with_reducible refine' ix_f ?k1 ?_); (case k1 => rfl)) | ((with_reducible refine' ix_s ?k1 ?_); (case k1 => rfl)) | ((with_reducible refine' ix_p ?k1 ?_); (case k1 => rfl)) | ((with_reducible refine' ix_o ?k0 ?k1 ?_); (case k0 => assumption); (case k1 => rfl))))
  | ((with_reducible show DL.dIsN _ _ _ _ _); (first | ((with_reducible refine' isn_k ?k1 ?_); (case k1 => walk_at "kd")) | ((with_reducible refine' nisn_k ?k1 ?_); (case k1 => walk_at "kd"))))
  | ((refine' fld_ok ?h1 ?h2 ?h3 ?_); (case h1 => assumption); (case h2 => assumption); (case h3 => walk_at "fg"))
  | with_reducible refine ex_bl ?_
  | with_reducible refine ex_int ?_
  | with_reducible refine ex_2 ?_
  | with_reducible refine ex_3 ?_
  | ((with_reducible refine' setL_p ?k1 ?_); (case k1 => rfl))
  | ((with_reducible refine' setL_o ?k0 ?k1 ?_); (case k0 => assumption); (case k1 => rfl))
  | with_reducible refine and_T ?_
  | with_reducible refine and_F ?_
  | ((with_reducible refine and_S ?_ ?_) <;> intro _)
  | with_reducible refine ty_str ?_
  | with_reducible refine ty_put ?_
  | ((with_reducible refine' ty_own ?k1 ?_); (case k1 => assumption))
  | ((with_reducible refine' sz_ok ?k1 ?_); (case k1 => rfl))
  | ((with_reducible refine' sz_as ?k1 ?_); (case k1 => assumption))))
local macro_rules | `(tactic| walk_at "pyCA") => `(tactic| repeat' (first
  | ((with_reducible show DL.WE _ _ _ _ _); (first
    | ((with_reducible show DL.WE _ (Expr.Subscript _ _ _) _ _ _); (first | ((with_reducible refine' x_ixD ?kx ?_ ?k1); (case kx => assumption); (case k1 => (intro _ _; rfl))) | with_reducible refine we_revT ?_ | with_reducible refine x_sliceA ?_ | ((with_reducible refine' x_ixL ?_ ?k1); (case k1 => (intro _ _; rfl))) | ((with_reducible refine' we_ix ?_ ?k1); (case k1 => (intro _ _; rfl))) | with_reducible refine we_slice ?_))
    | ((with_reducible show DL.WE _ (Expr.Compare _ _ _ _) _ _ _); (first | ((with_reducible refine' x_inX ?kx ?_ ?k1); (case kx => assumption); (case k1 => rfl)) | ((with_reducible refine' x_ninX ?kx ?_ ?k1); (case kx => assumption); (case k1 => rfl)) | ((with_reducible refine' we_lele ?_ ?k1); (case k1 => with_unfolding_all rfl)) | with_reducible refine we_lt ?_ | with_reducible refine we_le ?_ | with_reducible refine we_gt ?_ | with_reducible refine we_ge ?_ | with_reducible refine we_is ?_ | with_reducible refine we_isnot ?_ | ((with_reducible refine' x_eq ?k1 ?_); (case k1 => assumption)) | ((with_reducible refine' x_ne ?k1 ?_); (case k1 => assumption)) | ((with_reducible refine' x_in ?k1 ?_ ?k2); (case k1 => assumption); (case k2 => rfl)) | ((with_reducible refine' x_nin ?k1 ?_ ?k2); (case k1 => assumption); (case k2 => rfl))))
    | ((with_reducible show DL.WE _ (Expr.Call (Expr.Name _ _) _ _ _) _ _ _); (first | ((with_reducible refine' x_lenX ?kx ?kz ?kg ?_ ?k1 ?k2); (case kx => assumption); (case kz => assumption); (case kg => walk_at "gl"); (case k1 => rfl); (case k2 => rfl)) | ((with_reducible refine' x_dictP ?kx ?kz ?kg ?_ ?k1 ?k2); (case kx => assumption); (case kz => assumption); (case kg => walk_at "gl"); (case k1 => rfl); (case k2 => rfl)) | ((with_reducible refine' x_sortedK ?kx ?kz ?kg ?_ ?k1 ?k2); (case kx => assumption); (case kz => assumption); (case kg => walk_at "gl"); (case k1 => rfl); (case k2 => rfl)) | ((with_reducible refine' x_listA ?kx ?kz ?kg ?_ ?k1 ?k2); (case kx => assumption); (case kz => assumption); (case kg => walk_at "gl"); (case k1 => rfl); (case k2 => rfl)) | ((with_reducible refine' x_repr ?kx ?kz ?kg ?_ ?k1 ?k2); (case kx => assumption); (case kz => assumption); (case kg => walk_at "gl"); (case k1 => rfl); (case k2 => rfl)) | ((with_reducible refine' x_isiT ?kx ?kz ?kg ?_ ?k1 ?k2); (case kx => assumption); (case kz => assumption); (case kg => walk_at "gl"); (case k1 => rfl); (case k2 => rfl)) | ((with_reducible refine' x_isi ?kx ?kz ?kg ?_ ?k1 ?k2); (case kx => assumption); (case kz => assumption); (case kg => walk_at "gl"); (case k1 => rfl); (case k2 => rfl)) | ((with_reducible refine' x_len ?kx ?kz ?kg ?_ ?k1 ?k2); (case kx => assumption); (case kz => assumption); (case kg => walk_at "gl"); (case k1 => rfl); (case k2 => rfl)) | ((with_reducible refine' x_abs ?kx ?kz ?kg ?_ ?k1 ?k2); (case kx => assumption); (case kz => assumption); (case kg => walk_at "gl"); (case k1 => rfl); (case k2 => rfl)) | ((with_reducible refine' x_max2 ?kx ?kz ?kg ?_ ?k1 ?k2); (case kx => assumption); (case kz => assumption); (case kg => walk_at "gl"); (case k1 => rfl); (case k2 => rfl)) | ((with_reducible refine' x_min2 ?kx ?kz ?kg ?_ ?k1 ?k2); (case kx => assumption); (case kz => assumption); (case kg => walk_at "gl"); (case k1 => rfl); (case k2 => rfl)) | ((with_reducible refine' x_minL ?kx ?kz ?kg ?_ ?k1 ?k2); (case kx => assumption); (case kz => assumption); (case kg => walk_at "gl"); (case k1 => rfl); (case k2 => rfl)) | ((with_reducible refine' x_any ?kx ?kz ?kg ?_ ?k1 ?k2); (case kx => assumption); (case kz => assumption); (case kg => walk_at "gl"); (case k1 => rfl); (case k2 => rfl)) | ((with_reducible refine' x_all ?kx ?kz ?kg ?_ ?k1 ?k2); (case kx => assumption); (case kz => assumption); (case kg => walk_at "gl"); (case k1 => rfl); (case k2 => rfl)) | ((with_reducible refine' x_sum ?kx ?kz ?kg ?_ ?k1 ?k2); (case kx => assumption); (case kz => assumption); (case kg => walk_at "gl"); (case k1 => rfl); (case k2 => rfl)) | ((with_reducible refine' x_intC ?kx ?kz ?kg ?_ ?k1 ?k2); (case kx => assumption); (case kz => assumption); (case kg => walk_at "gl"); (case k1 => rfl); (case k2 => rfl)) | ((with_reducible refine' x_strC ?kx ?kz ?kg ?_ ?k1 ?k2); (case kx => assumption); (case kz => assumption); (case kg => walk_at "gl"); (case k1 => rfl); (case k2 => rfl)) | ((with_reducible refine' x_tupleC ?kx ?kz ?kg ?_ ?k1 ?k2); (case kx => assumption); (case kz => assumption); (case kg => walk_at "gl"); (case k1 => rfl); (case k2 => rfl)) | ((with_reducible refine' x_listC ?kx ?kz ?kg ?_ ?k1 ?k2); (case kx => assumption); (case kz => assumption); (case kg => walk_at "gl"); (case k1 => rfl); (case k2 => rfl)) | ((with_reducible refine' x_call ?kx ?kh ?kg ?_ ?kl ?kd ?k1 ?k2); (case kh => assumption); (case kx => assumption); (case kg => walk_at "gl"); (case kl => first | decide | omega); (case kd => decide); (case k1 => rfl); (case k2 => rfl))))
    | ((with_reducible show DL.WE _ (Expr.Attribute _ _ _) _ _ _); (first | ((with_reducible refine' x_fld ?kx ?_ ?k1); (case kx => assumption); (case k1 => rfl))))
    | ((with_reducible show DL.WE _ (Expr.Dict _ _ _) _ _ _); (first | with_reducible refine x_dnew ?_))
    | ((with_reducible show DL.WE _ (Expr.Call (Expr.Attribute _ _ _) _ _ _) _ _ _); (first | ((with_reducible refine' x_stripC ?_ ?k1 ?k2 ?k3 ?k4 ?k5); (case k1 => rfl); (case k2 => rfl); (case k3 => rfl); (case k4 => rfl); (case k5 => rfl)) | ((with_reducible refine' x_dget2 ?kx ?_ ?km); (case kx => assumption); (case km => exact ⟨rfl, rfl, rfl, rfl⟩)) | ((with_reducible refine' x_dpop1 ?_ ?km); (case km => exact ⟨rfl, rfl, rfl, rfl⟩)) | ((with_reducible refine' x_upper ?_ ?k1 ?k2); (case k1 => rfl); (case k2 => rfl)) | ((with_reducible refine' x_join ?_ ?k1 ?k2 ?k3 ?k4 ?k5); (case k1 => rfl); (case k2 => rfl); (case k3 => rfl); (case k4 => rfl); (case k5 => rfl)) | ((with_reducible refine' x_sindex ?_ ?k1 ?k2 ?k3 ?k4 ?k5); (case k1 => rfl); (case k2 => rfl); (case k3 => rfl); (case k4 => rfl); (case k5 => rfl)) | ((with_reducible refine' x_insert ?_ ?k1 ?k2 ?k3 ?k4 ?k5); (case k1 => rfl); (case k2 => rfl); (case k3 => rfl); (case k4 => rfl); (case k5 => rfl)) | ((with_reducible refine' x_popAt ?_ ?k1 ?k2 ?k3 ?k4 ?k5); (case k1 => rfl); (case k2 => rfl); (case k3 => rfl); (case k4 => rfl); (case k5 => rfl)) | ((with_reducible refine' x_append ?_ ?k1 ?k2 ?k3 ?k4 ?k5); (case k1 => rfl); (case k2 => rfl); (case k3 => rfl); (case k4 => rfl); (case k5 => rfl)) | ((with_reducible refine' x_extend ?_ ?k1 ?k2 ?k3 ?k4 ?k5); (case k1 => rfl); (case k2 => rfl); (case k3 => rfl); (case k4 => rfl); (case k5 => rfl))))
    | ((with_reducible show DL.WE _ (Expr.BinOp _ _ _ _) _ _ _); (first | with_reducible refine x_mulS ?_ | with_reducible refine x_addA ?_ | with_reducible refine x_mulA ?_ | with_reducible refine we_add ?_ | with_reducible refine we_sub' ?_ | with_reducible refine we_mul ?_ | with_reducible refine we_mod ?_ | with_reducible refine we_fdiv ?_ | with_reducible refine we_pow ?_))
    | ((with_reducible show DL.WE _ (Expr.List _ _) _ _ _); (first | with_reducible refine we_lstF ?_))
    | ((with_reducible show DL.WE _ (Expr.BoolOp _ _ _) _ _ _); (first | with_reducible refine we_and ?_ | with_reducible refine we_or ?_ | with_reducible refine we_one ?_))
    | ((with_reducible show DL.WE _ (Expr.UnaryOp _ _ _) _ _ _); (first | with_reducible refine we_not ?_ | with_reducible refine we_neg ?_))
    | ((with_reducible show DL.WE _ (Expr.IfExp _ _ _ _) _ _ _); (first | with_reducible refine we_if ?_))
    | ((with_reducible show DL.WE _ (Expr.Constant _ _ _) _ _ _); (first | with_reducible refine we_int ?_ | with_reducible refine we_bl ?_ | with_reducible refine we_non ?_ | with_reducible refine we_str ?_))
    | ((with_reducible show DL.WE _ (Expr.Tuple _ _ _) _ _ _); (first | with_reducible refine we_tup ?_))
    | ((with_reducible show DL.WE _ (Expr.Name _ _) _ _ _); (first | ((with_reducible refine' we_nm ?k1 ?k0 ?k2 ?_); (case k1 => assumption); (case k0 => walk_at "nm"); (case k2 => walk_at "nm")) | ((with_reducible refine' x_tyInt ?kx ?kz ?kg ?_); (case kx => assumption); (case kz => assumption); (case kg => walk_at "gl")) | ((with_reducible refine' x_tyBool ?kx ?kz ?kg ?_); (case kx => assumption); (case kz => assumption); (case kg => walk_at "gl")) | ((with_reducible refine' x_tyStr ?kx ?kz ?kg ?_); (case kx => assumption); (case kz => assumption); (case kg => walk_at "gl")) | ((with_reducible refine' x_tyList ?kx ?kz ?kg ?_); (case kx => assumption); (case kz => assumption); (case kg => walk_at "gl")) | ((with_reducible refine' x_tyTuple ?kx ?kz ?kg ?_); (case kx => assumption); (case kz => assumption); (case kg => walk_at "gl")) | ((with_reducible refine' x_glob ?kx ?kh ?kg ?_ ?kd); (case kh => assumption); (case kx => assumption); (case kg => walk_at "gl"); (case kd => decide))))))
  | ((with_reducible show DL.WSs _ _ _ _ _); (first | with_reducible refine wss_cons ?_ | with_reducible refine wss_nil ?_))
  | ((with_reducible show DL.WS _ _ _ _ _); (first
    | ((with_reducible show DL.WS _ (Stmt.Assign _ _ _) _ _ _); (first | ((with_reducible refine' x_setFld ?kx ?_ ?k1); (case kx => assumption); (case k1 => rfl)) | ((with_reducible refine' ws_nm ?kb ?k0 ?kp ?_ ?k1); (case kb => assumption); (case k0 => walk_at "nm"); (case kp => walk_at "nm"); (case k1 => rfl)) | ((with_reducible refine' x_par2 ?kd ?k1 ?k2 ?k3 ?k4 ?k5 ?k6 ?_ ?k7); (case kd => assumption); (case k1 => walk_at "nm"); (case k2 => (intro _; walk_at "nm")); (case k3 => decide +kernel); (case k4 => decide +kernel); (case k5 => decide +kernel); (case k6 => rfl); (case k7 => rfl)) | ((with_reducible refine' x_par3 ?kd ?k1 ?k2 ?k3 ?k4 ?k5 ?k6 ?k7 ?_ ?k8); (case kd => assumption); (case k1 => walk_at "nm"); (case k2 => (intro _; walk_at "nm")); (case k3 => (intro _ _; walk_at "nm")); (case k4 => decide +kernel); (case k5 => decide +kernel); (case k6 => decide +kernel); (case k7 => rfl); (case k8 => rfl)) | ((with_reducible refine' ws_asg ?_ ?k1 ?k2 ?k3); (case k1 => rfl); (case k2 => rfl); (case k3 => rfl)) | ((with_reducible refine' ws_asgD ?kd ?_ ?k1 ?k2 ?k3); (case kd => assumption); (case k1 => rfl); (case k2 => rfl); (case k3 => rfl))))
    | ((with_reducible show DL.WS _ (Stmt.Delete _ _) _ _ _); (first | ((with_reducible refine' x_ddel ?_))))
    | ((with_reducible show DL.WS _ (Stmt.If _ _ _ _) _ _ _); (first | ((with_reducible refine' x_ifWge ?kb ?k0 ?kp ?_); (case kb => assumption); (case k0 => walk_at "nm"); (case kp => walk_at "nm")) | with_reducible refine ws_if ?_))
    | ((with_reducible show DL.WS _ (Stmt.Return _ _) _ _ _); (first | with_reducible refine ws_ret ?_ | with_reducible refine ws_retN ?_))
    | ((with_reducible show DL.WS _ (Stmt.Pass _) _ _ _); (first | with_reducible refine ws_pass ?_))
    | ((with_reducible show DL.WS _ (Stmt.Break _) _ _ _); (first | with_reducible refine ws_break ?_))
    | ((with_reducible show DL.WS _ (Stmt.Continue _) _ _ _); (first | with_reducible refine ws_continue ?_))
    | ((with_reducible show DL.WS _ (Stmt.AugAssign _ _ _ _) _ _ _); (first | ((with_reducible refine' ws_augAdd ?kb ?k0 ?kg ?kp ?_); (case kb => assumption); (case k0 => walk_at "nm"); (case kg => walk_at "nm"); (case kp => walk_at "nm"))))
    | ((with_reducible show DL.WS _ (Stmt.Expr _ _) _ _ _); (first | ((with_reducible refine' ws_expr ?_ ?k1); (case k1 => rfl))))))
  | ((with_reducible show DL.WT _ _ _ _ _); (first | ((with_reducible refine' xt_inX ?kx ?_ ?k1); (case kx => assumption); (case k1 => rfl)) | ((with_reducible refine' xt_ninX ?kx ?_ ?k1); (case kx => assumption); (case k1 => rfl)) | ((with_reducible refine' wt_lele ?_ ?k1); (case k1 => with_unfolding_all rfl)) | ((with_reducible refine' xt_eq ?k1 ?_); (case k1 => assumption)) | ((with_reducible refine' xt_ne ?k1 ?_); (case k1 => assumption)) | ((with_reducible refine' xt_in ?k1 ?_ ?k2); (case k1 => assumption); (case k2 => rfl)) | ((with_reducible refine' xt_nin ?k1 ?_ ?k2); (case k1 => assumption); (case k2 => rfl)) | with_reducible refine wt_lt ?_ | with_reducible refine wt_le ?_ | with_reducible refine wt_gt ?_ | with_reducible refine wt_ge ?_ | with_reducible refine wt_is ?_ | with_reducible refine wt_isnot ?_ | with_reducible refine wt_not ?_ | with_reducible refine wt_bo ?_ | ((with_reducible refine' wt_val ?_ ?k1); (case k1 => (intro _; rfl)))))
  | ((with_reducible show DL.WG _ _ _ _ _ _); (first | ((with_reducible refine' x_setX ?kx ?_ ?k1); (case kx => assumption); (case k1 => (intro _; rfl))) | ((with_reducible refine' wg_nm ?kb ?k0 ?kp ?_); (case kb => assumption); (case k0 => walk_at "nm"); (case kp => walk_at "nm")) | ((with_reducible refine' x_gtup ?kx ?kl ?_ ?k1); (case kx => assumption); (case kl => rfl); (case k1 => rfl)) | ((with_reducible refine' wg_setL ?_ ?k1); (case k1 => (intro _; rfl)))))
  | ((with_reducible show DL.WA _ _ _ _ _); (first | with_reducible refine wa_nil ?_ | ((with_reducible refine' wa_cons ?_ ?k1); (case k1 => rfl))))
  | ((with_reducible show DL.WW _ _ _ _ _); (first | with_reducible refine ww_and ?_ | with_reducible refine ww_or ?_ | with_reducible refine ww_and1 ?_ | with_reducible refine ww_or1 ?_))
  | ((with_reducible show DL.WGs _ _ _ _ _ _); (first | ((with_reducible refine' wgs_cons ?_ ?k1); (case k1 => rfl)) | with_reducible refine wgs_nil ?_))
  | ((with_reducible show DL.WO _ _ _ _ _); (first | with_reducible refine wo_n ?_ | with_reducible refine wo_s ?_))
  | ((with_reducible show DL.dIxD _ _ _ _); (first | ((with_reducible refine' ixD_ok ?h1 ?h2 ?_); (case h1 => assumption); (case h2 => assumption)) | ((with_reducible show dIxD (D.own _) (D.int _) _ _); refine Or.inl ?_) | ((with_reducible show dIxD (D.lst _) _ _ _); refine Or.inl ?_) | ((with_reducible show dIxD (D.tup _) _ _ _); refine Or.inl ?_) | ((with_reducible show dIxD (D.str _) _ _ _); refine Or.inl ?_)))
  | ((with_reducible show DL.dInX _ _ _ _ _); (first | ((with_reducible refine' inX_ok ?h1 ?_); (case h1 => assumption)) | ((with_reducible refine' ninX_ok ?h1 ?_); (case h1 => assumption))))
  | ((with_reducible show DL.dLenX _ _ _); (first | ((with_reducible refine' lenX_ok ?h1 ?_); (case h1 => assumption)) | ((with_reducible show dLenX [D.lst _] _ _); refine Or.inl ?_) | ((with_reducible show dLenX [D.tup _] _ _); refine Or.inl ?_) | ((with_reducible show dLenX [D.str _] _ _); refine Or.inl ?_)))
  | ((with_reducible show DL.FrzA _ _ _); (first | with_reducible refine fa_int ?_ | with_reducible refine fa_str ?_ | with_reducible refine fa_bl ?_ | with_reducible refine fa_non ?_ | with_reducible refine fa_tup ?_ | with_reducible refine fa_lst ?_ | ((with_reducible refine' fa_put ?k1 ?_); (case k1 => assumption))))
  | ((with_reducible show DL.dSl _ _ _ _ _); (first | with_reducible refine slA_f ?_ | with_reducible refine slA_t ?_ | with_reducible refine slA_p ?_ | ((with_reducible refine' slA_o ?k1 ?_); (case k1 => assumption)) | ((with_reducible refine' slA_z ?k1 ?_); (case k1 => walk_at "ct")) | with_reducible refine sl_t ?_ | with_reducible refine sl_f ?_))
  | ((with_reducible show DL.dAdd _ _ _ _); (first | with_reducible refine addA_ii ?_ | ((with_reducible refine' addA_ss ?k1 ?_); (case k1 => walk_at "ct")) | ((with_reducible refine' addA_tt ?k1 ?_); (case k1 => walk_at "ct")) | ((with_reducible refine' addA_ll ?k1 ?_); (case k1 => walk_at "sz")) | ((with_reducible refine' addA_pl ?k1 ?_); (case k1 => walk_at "sz")) | with_reducible refine add_ii ?_ | ((with_reducible refine' add_ss ?k1 ?_); (case k1 => walk_at "ct")) | ((with_reducible refine' add_tt ?k1 ?_); (case k1 => walk_at "ct"))))
  | ((with_reducible show DL.dList _ _ _); (first | with_reducible refine listA_l ?_ | with_reducible refine listA_t ?_ | with_reducible refine listA_p ?_ | ((with_reducible refine' listA_o ?k1 ?_); (case k1 => assumption))))
  | ((with_reducible show DL.dMul _ _ _ _); (first | ((with_reducible refine' mulA_ii ?k1 ?_); (case k1 => walk_at "ct")) | ((with_reducible refine' mul_ii ?k1 ?_); (case k1 => walk_at "ct"))))
  | ((with_reducible show DL.dMulS _ _ _ _); (first | ((with_reducible refine' mul_s ?k1 ?_); (case k1 => decide +kernel))))
  | ((with_reducible show DL.dAppend _ _ _ _); (first | ((with_reducible refine' app_put ?k1 ?_); (case k1 => walk_at "sz"))))
  | ((with_reducible show DL.tb _ _ _); (first | with_reducible refine tb_ok ?_))
  | ((with_reducible show DL.dIsi _ _ _); (first | ((with_reducible refine' isi_int ?k1 ?_); (case k1 => walk_at "kd")) | ((with_reducible refine' isi_bool ?k1 ?_); (case k1 => walk_at "kd")) | ((with_reducible refine' isi_str ?k1 ?_); (case k1 => walk_at "kd")) | ((with_reducible refine' isi_list ?k1 ?_); (case k1 => walk_at "kd")) | ((with_reducible refine' isi_tuple ?k1 ?_); (case k1 => walk_at "kd")) | ((with_reducible refine' isi_ls ?k1 ?_); (case k1 => assumption)) | ((with_reducible refine' isi_lsT ?k1 ?_); (case k1 => assumption))))
  | ((with_reducible show DL.dIsiT _ _ _); (first | ((with_reducible refine' isi_ltT ?k1 ?k2 ?_); (case k1 => rfl); (case k2 => rfl)) | ((with_reducible refine' isi_ltF ?k1 ?k2 ?_); (case k1 => rfl); (case k2 => rfl)) | ((with_reducible refine' isi_lt ?k1 ?_); (case k1 => walk_at "kd")) | ((with_reducible refine' isiT_ls ?k1 ?_); (case k1 => assumption))))
  | ((with_reducible show DL.dLen _ _ _); (first | ((with_reducible refine' len_ls ?k1 ?_); (case k1 => assumption)) | ((with_reducible refine' len_str ?k1 ?_); (case k1 => walk_at "ct")) | with_reducible refine len_tup ?_ | with_reducible refine len_fr ?_ | with_reducible refine len_sl ?_ | ((with_reducible refine' len_own ?k1 ?_); (case k1 => assumption)) | with_reducible refine len_put ?_))
  | ((with_reducible show DL.dEq _ _ _ _ _); (first | with_reducible refine eq_bb ?_ | with_reducible refine ne_bb ?_ | with_reducible refine eq_ii ?_ | with_reducible refine ne_ii ?_))
  | ((with_reducible show DL.dI2 _ _ _ _ _ _); (first | ((with_reducible refine' i2_ok ?k1 ?_); (case k1 => walk_at "ct"))))
  | ((with_reducible show DL.dB2 _ _ _ _ _); (first | with_reducible refine b2_ok ?_))
  | ((with_reducible show DL.dInt1 _ _ _ _); (first | with_reducible refine int1_ok ?_))
  | ((with_reducible show DL.dInt2 _ _ _ _); (first | with_reducible refine int2_ok ?_))
  | ((with_reducible show DL.dInt _ _ _); (first | with_reducible refine int_i ?_ | with_reducible refine int_b ?_))
  | ((with_reducible show DL.dIn _ _ _ _ _); (first | with_reducible refine ins_c ?_))
  | ((with_reducible show DL.dTuple _ _ _); (first | with_reducible refine tup_t ?_ | with_reducible refine tup_f ?_))
  | ((with_reducible show DL.dIx _ _ _ _); (first | ((with_reducible refine' ix_t ?k1 ?_); (case k1 => rfl)) | ((with_reducible refine' ix_f ?k1 ?_); (case k1 => rfl)) | ((with_reducible refine' ix_s ?k1 ?_); (case k1 => rfl)) | ((with_reducible refine' ix_p ?k1 ?_); (case k1 => rfl)) | ((with_reducible refine' ix_o ?k0 ?k1 ?_); (case k0 => assumption); (case k1 => rfl))))
  | ((with_reducible show DL.dIsN _ _ _ _ _); (first | ((with_reducible refine' isn_k ?k1 ?_); (case k1 => walk_at "kd")) | ((with_reducible refine' nisn_k ?k1 ?_); (case k1 => walk_at "kd"))))
  | ((refine' fld_ok ?h1 ?h2 ?h3 ?_); (case h1 => assumption); (case h2 => assumption); (case h3 => walk_at "fg"))
  | with_reducible refine ex_bl ?_
  | with_reducible refine ex_int ?_
  | with_reducible refine ex_2 ?_
  | with_reducible refine ex_3 ?_
  | ((with_reducible refine' setL_p ?k1 ?_); (case k1 => rfl))
  | ((with_reducible refine' setL_o ?k0 ?k1 ?_); (case k0 => assumption); (case k1 => rfl))
  | with_reducible refine and_T ?_
  | with_reducible refine and_F ?_
  | ((with_reducible refine and_S ?_ ?_) <;> intro _)
  | with_reducible refine ty_str ?_
  | with_reducible refine ty_put ?_
  | ((with_reducible refine' ty_own ?k1 ?_); (case k1 => assumption))
  | ((with_reducible refine' sz_ok ?k1 ?_); (case k1 => rfl))
  | ((with_reducible refine' sz_as ?k1 ?_); (case k1 => assumption))))
local macro_rules | `(tactic| walk_at "pyS") => `(tactic| repeat' (first
  | ((with_reducible show DL.WE _ _ _ _ _); (first
    | ((with_reducible show DL.WE _ (Expr.FormattedValue _ _ _ _) _ _ _); (first | with_reducible refine x_fmt ?_))
    | ((with_reducible show DL.WE _ (Expr.JoinedStr _ _) _ _ _); (first | with_reducible refine x_joined ?_))
    | ((with_reducible show DL.WE _ (Expr.Call (Expr.Attribute _ _ _) _ _ _) _ _ _); (first | ((with_reducible refine' x_split ?_ ?k1 ?k2 ?k3 ?k4 ?k5); (case k1 => rfl); (case k2 => rfl); (case k3 => rfl); (case k4 => rfl); (case k5 => rfl)) | ((with_reducible refine' x_stripC ?_ ?k1 ?k2 ?k3 ?k4 ?k5); (case k1 => rfl); (case k2 => rfl); (case k3 => rfl); (case k4 => rfl); (case k5 => rfl)) | ((with_reducible refine' x_dget2 ?kx ?_ ?km); (case kx => assumption); (case km => exact ⟨rfl, rfl, rfl, rfl⟩)) | ((with_reducible refine' x_dpop1 ?_ ?km); (case km => exact ⟨rfl, rfl, rfl, rfl⟩)) | ((with_reducible refine' x_upper ?_ ?k1 ?k2); (case k1 => rfl); (case k2 => rfl)) | ((with_reducible refine' x_join ?_ ?k1 ?k2 ?k3 ?k4 ?k5); (case k1 => rfl); (case k2 => rfl); (case k3 => rfl); (case k4 => rfl); (case k5 => rfl)) | ((with_reducible refine' x_sindex ?_ ?k1 ?k2 ?k3 ?k4 ?k5); (case k1 => rfl); (case k2 => rfl); (case k3 => rfl); (case k4 => rfl); (case k5 => rfl)) | ((with_reducible refine' x_insert ?_ ?k1 ?k2 ?k3 ?k4 ?k5); (case k1 => rfl); (case k2 => rfl); (case k3 => rfl); (case k4 => rfl); (case k5 => rfl)) | ((with_reducible refine' x_popAt ?_ ?k1 ?k2 ?k3 ?k4 ?k5); (case k1 => rfl); (case k2 => rfl); (case k3 => rfl); (case k4 => rfl); (case k5 => rfl)) | ((with_reducible refine' x_append ?_ ?k1 ?k2 ?k3 ?k4 ?k5); (case k1 => rfl); (case k2 => rfl); (case k3 => rfl); (case k4 => rfl); (case k5 => rfl)) | ((with_reducible refine' x_extend ?_ ?k1 ?k2 ?k3 ?k4 ?k5); (case k1 => rfl); (case k2 => rfl); (case k3 => rfl); (case k4 => rfl); (case k5 => rfl))))
    | ((with_reducible show DL.WE _ (Expr.Subscript _ _ _) _ _ _); (first | ((with_reducible refine' x_ixD ?kx ?_ ?k1); (case kx => assumption); (case k1 => (intro _ _; rfl))) | with_reducible refine we_revT ?_ | with_reducible refine x_sliceA ?_ | ((with_reducible refine' x_ixL ?_ ?k1); (case k1 => (intro _ _; rfl))) | ((with_reducible refine' we_ix ?_ ?k1); (case k1 => (intro _ _; rfl))) | with_reducible refine we_slice ?_))
    | ((with_reducible show DL.WE _ (Expr.Compare _ _ _ _) _ _ _); (first | ((with_reducible refine' x_inX ?kx ?_ ?k1); (case kx => assumption); (case k1 => rfl)) | ((with_reducible refine' x_ninX ?kx ?_ ?k1); (case kx => assumption); (case k1 => rfl)) | ((with_reducible refine' we_lele ?_ ?k1); (case k1 => with_unfolding_all rfl)) | with_reducible refine we_lt ?_ | with_reducible refine we_le ?_ | with_reducible refine we_gt ?_ | with_reducible refine we_ge ?_ | with_reducible refine we_is ?_ | with_reducible refine we_isnot ?_ | ((with_reducible refine' x_eq ?k1 ?_); (case k1 => assumption)) | ((with_reducible refine' x_ne ?k1 ?_); (case k1 => assumption)) | ((with_reducible refine' x_in ?k1 ?_ ?k2); (case k1 => assumption); (case k2 => rfl)) | ((with_reducible refine' x_nin ?k1 ?_ ?k2); (case k1 => assumption); (case k2 => rfl))))
    | ((with_reducible show DL.WE _ (Expr.Call (Expr.Name _ _) _ _ _) _ _ _); (first | ((with_reducible refine' x_lenX ?kx ?kz ?kg ?_ ?k1 ?k2); (case kx => assumption); (case kz => assumption); (case kg => walk_at "gl"); (case k1 => rfl); (case k2 => rfl)) | ((with_reducible refine' x_dictP ?kx ?kz ?kg ?_ ?k1 ?k2); (case kx => assumption); (case kz => assumption); (case kg => walk_at "gl"); (case k1 => rfl); (case k2 => rfl)) | ((with_reducible refine' x_sortedK ?kx ?kz ?kg ?_ ?k1 ?k2); (case kx => assumption); (case kz => assumption); (case kg => walk_at "gl"); (case k1 => rfl); (case k2 => rfl)) | ((with_reducible refine' x_listA ?kx ?kz ?kg ?_ ?k1 ?k2); (case kx => assumption); (case kz => assumption); (case kg => walk_at "gl"); (case k1 => rfl); (case k2 => rfl)) | ((with_reducible refine' x_repr ?kx ?kz ?kg ?_ ?k1 ?k2); (case kx => assumption); (case kz => assumption); (case kg => walk_at "gl"); (case k1 => rfl); (case k2 => rfl)) | ((with_reducible refine' x_isiT ?kx ?kz ?kg ?_ ?k1 ?k2); (case kx => assumption); (case kz => assumption); (case kg => walk_at "gl"); (case k1 => rfl); (case k2 => rfl)) | ((with_reducible refine' x_isi ?kx ?kz ?kg ?_ ?k1 ?k2); (case kx => assumption); (case kz => assumption); (case kg => walk_at "gl"); (case k1 => rfl); (case k2 => rfl)) | ((with_reducible refine' x_len ?kx ?kz ?kg ?_ ?k1 ?k2); (case kx => assumption); (case kz => assumption); (case kg => walk_at "gl"); (case k1 => rfl); (case k2 => rfl)) | ((with_reducible refine' x_abs ?kx ?kz ?kg ?_ ?k1 ?k2); (case kx => assumption); (case kz => assumption); (case kg => walk_at "gl"); (case k1 => rfl); (case k2 => rfl)) | ((with_reducible refine' x_max2 ?kx ?kz ?kg ?_ ?k1 ?k2); (case kx => assumption); (case kz => assumption); (case kg => walk_at "gl"); (case k1 => rfl); (case k2 => rfl)) | ((with_reducible refine' x_min2 ?kx ?kz ?kg ?_ ?k1 ?k2); (case kx => assumption); (case kz => assumption); (case kg => walk_at "gl"); (case k1 => rfl); (case k2 => rfl)) | ((with_reducible refine' x_minL ?kx ?kz ?kg ?_ ?k1 ?k2); (case kx => assumption); (case kz => assumption); (case kg => walk_at "gl"); (case k1 => rfl); (case k2 => rfl)) | ((with_reducible refine' x_any ?kx ?kz ?kg ?_ ?k1 ?k2); (case kx => assumption); (case kz => assumption); (case kg => walk_at "gl"); (case k1 => rfl); (case k2 => rfl)) | ((with_reducible refine' x_all ?kx ?kz ?kg ?_ ?k1 ?k2); (case kx => assumption); (case kz => assumption); (case kg => walk_at "gl"); (case k1 => rfl); (case k2 => rfl)) | ((with_reducible refine' x_sum ?kx ?kz ?kg ?_ ?k1 ?k2); (case kx => assumption); (case kz => assumption); (case kg => walk_at "gl"); (case k1 => rfl); (case k2 => rfl)) | ((with_reducible refine' x_intC ?kx ?kz ?kg ?_ ?k1 ?k2); (case kx => assumption); (case kz => assumption); (case kg => walk_at "gl"); (case k1 => rfl); (case k2 => rfl)) | ((with_reducible refine' x_strC ?kx ?kz ?kg ?_ ?k1 ?k2); (case kx => assumption); (case kz => assumption); (case kg => walk_at "gl"); (case k1 => rfl); (case k2 => rfl)) | ((with_reducible refine' x_tupleC ?kx ?kz ?kg ?_ ?k1 ?k2); (case kx => assumption); (case kz => assumption); (case kg => walk_at "gl"); (case k1 => rfl); (case k2 => rfl)) | ((with_reducible refine' x_listC ?kx ?kz ?kg ?_ ?k1 ?k2); (case kx => assumption); (case kz => assumption); (case kg => walk_at "gl"); (case k1 => rfl); (case k2 => rfl)) | ((with_reducible refine' x_call ?kx ?kh ?kg ?_ ?kl ?kd ?k1 ?k2); (case kh => assumption); (case kx => assumption); (case kg => walk_at "gl"); (case kl => first | decide | omega); (case kd => decide); (case k1 => rfl); (case k2 => rfl))))
    | ((with_reducible show DL.WE _ (Expr.Attribute _ _ _) _ _ _); (first | ((with_reducible refine' x_fld ?kx ?_ ?k1); (case kx => assumption); (case k1 => rfl))))
    | ((with_reducible show DL.WE _ (Expr.Dict _ _ _) _ _ _); (first | with_reducible refine x_dnew ?_))
    | ((with_reducible show DL.WE _ (Expr.BinOp _ _ _ _) _ _ _); (first | with_reducible refine x_mulS ?_ | with_reducible refine x_addA ?_ | with_reducible refine x_mulA ?_ | with_reducible refine we_add ?_ | with_reducible refine we_sub' ?_ | with_reducible refine we_mul ?_ | with_reducible refine we_mod ?_ | with_reducible refine we_fdiv ?_ | with_reducible refine we_pow ?_))
    | ((with_reducible show DL.WE _ (Expr.List _ _) _ _ _); (first | with_reducible refine we_lstF ?_))
    | ((with_reducible show DL.WE _ (Expr.BoolOp _ _ _) _ _ _); (first | with_reducible refine we_and ?_ | with_reducible refine we_or ?_ | with_reducible refine we_one ?_))
    | ((with_reducible show DL.WE _ (Expr.UnaryOp _ _ _) _ _ _); (first | with_reducible refine we_not ?_ | with_reducible refine we_neg ?_))
    | ((with_reducible show DL.WE _ (Expr.IfExp _ _ _ _) _ _ _); (first | with_reducible refine we_if ?_))
    | ((with_reducible show DL.WE _ (Expr.Constant _ _ _) _ _ _); (first | with_reducible refine we_int ?_ | with_reducible refine we_bl ?_ | with_reducible refine we_non ?_ | with_reducible refine we_str ?_))
    | ((with_reducible show DL.WE _ (Expr.Tuple _ _ _) _ _ _); (first | with_reducible refine we_tup ?_))
    | ((with_reducible show DL.WE _ (Expr.Name _ _) _ _ _); (first | ((with_reducible refine' we_nm ?k1 ?k0 ?k2 ?_); (case k1 => assumption); (case k0 => walk_at "nm"); (case k2 => walk_at "nm")) | ((with_reducible refine' x_tyInt ?kx ?kz ?kg ?_); (case kx => assumption); (case kz => assumption); (case kg => walk_at "gl")) | ((with_reducible refine' x_tyBool ?kx ?kz ?kg ?_); (case kx => assumption); (case kz => assumption); (case kg => walk_at "gl")) | ((with_reducible refine' x_tyStr ?kx ?kz ?kg ?_); (case kx => assumption); (case kz => assumption); (case kg => walk_at "gl")) | ((with_reducible refine' x_tyList ?kx ?kz ?kg ?_); (case kx => assumption); (case kz => assumption); (case kg => walk_at "gl")) | ((with_reducible refine' x_tyTuple ?kx ?kz ?kg ?_); (case kx => assumption); (case kz => assumption); (case kg => walk_at "gl")) | ((with_reducible refine' x_glob ?kx ?kh ?kg ?_ ?kd); (case kh => assumption); (case kx => assumption); (case kg => walk_at "gl"); (case kd => decide))))))
  | ((with_reducible show DL.WSs _ _ _ _ _); (first | with_reducible refine wss_cons ?_ | with_reducible refine wss_nil ?_))
  | ((with_reducible show DL.WS _ _ _ _ _); (first
    | ((with_reducible show DL.WS _ (Stmt.Assign _ _ _) _ _ _); (first | ((with_reducible refine' x_setFld ?kx ?_ ?k1); (case kx => assumption); (case k1 => rfl)) | ((with_reducible refine' ws_nm ?kb ?k0 ?kp ?_ ?k1); (case kb => assumption); (case k0 => walk_at "nm"); (case kp => walk_at "nm"); (case k1 => rfl)) | ((with_reducible refine' x_par2 ?kd ?k1 ?k2 ?k3 ?k4 ?k5 ?k6 ?_ ?k7); (case kd => assumption); (case k1 => walk_at "nm"); (case k2 => (intro _; walk_at "nm")); (case k3 => decide +kernel); (case k4 => decide +kernel); (case k5 => decide +kernel); (case k6 => rfl); (case k7 => rfl)) | ((with_reducible refine' x_par3 ?kd ?k1 ?k2 ?k3 ?k4 ?k5 ?k6 ?k7 ?_ ?k8); (case kd => assumption); (case k1 => walk_at "nm"); (case k2 => (intro _; walk_at "nm")); (case k3 => (intro _ _; walk_at "nm")); (case k4 => decide +kernel); (case k5 => decide +kernel); (case k6 => decide +kernel); (case k7 => rfl); (case k8 => rfl)) | ((with_reducible refine' ws_asg ?_ ?k1 ?k2 ?k3); (case k1 => rfl); (case k2 => rfl); (case k3 => rfl)) | ((with_reducible refine' ws_asgD ?kd ?_ ?k1 ?k2 ?k3); (case kd => assumption); (case k1 => rfl); (case k2 => rfl); (case k3 => rfl))))
    | ((with_reducible show DL.WS _ (Stmt.Delete _ _) _ _ _); (first | ((with_reducible refine' x_ddel ?_))))
    | ((with_reducible show DL.WS _ (Stmt.If _ _ _ _) _ _ _); (first | ((with_reducible refine' x_ifWge ?kb ?k0 ?kp ?_); (case kb => assumption); (case k0 => walk_at "nm"); (case kp => walk_at "nm")) | with_reducible refine ws_if ?_))
    | ((with_reducible show DL.WS _ (Stmt.Return _ _) _ _ _); (first | with_reducible refine ws_ret ?_ | with_reducible refine ws_retN ?_))
    | ((with_reducible show DL.WS _ (Stmt.Pass _) _ _ _); (first | with_reducible refine ws_pass ?_))
    | ((with_reducible show DL.WS _ (Stmt.Break _) _ _ _); (first | with_reducible refine ws_break ?_))
    | ((with_reducible show DL.WS _ (Stmt.Continue _) _ _ _); (first | with_reducible refine ws_continue ?_))
    | ((with_reducible show DL.WS _ (Stmt.AugAssign _ _ _ _) _ _ _); (first | ((with_reducible refine' ws_augAdd ?kb ?k0 ?kg ?kp ?_); (case kb => assumption); (case k0 => walk_at "nm"); (case kg => walk_at "nm"); (case kp => walk_at "nm"))))
    | ((with_reducible show DL.WS _ (Stmt.Expr _ _) _ _ _); (first | ((with_reducible refine' ws_expr ?_ ?k1); (case k1 => rfl))))))
  | ((with_reducible show DL.WGs _ _ _ _ _ _); (first | ((with_reducible refine' wgs_consS ?_ ?k1); (case k1 => rfl)) | ((with_reducible refine' wgs_cons ?_ ?k1); (case k1 => rfl)) | with_reducible refine wgs_nil ?_))
  | ((with_reducible show DL.WG _ _ _ _ _ _); (first | ((with_reducible refine' wg_tupS ?kc ?km ?ks ?ki ?kl ?_); (case kc => exact Ctx.calm (by assumption)); (case km => rfl); (case ks => rfl); (case ki => decide); (case kl => first | exact Nat.le_of_ble_eq_true rfl | omega | (simp; done))) | ((with_reducible refine' x_setX ?kx ?_ ?k1); (case kx => assumption); (case k1 => (intro _; rfl))) | ((with_reducible refine' wg_nm ?kb ?k0 ?kp ?_); (case kb => assumption); (case k0 => walk_at "nm"); (case kp => walk_at "nm")) | ((with_reducible refine' x_gtup ?kx ?kl ?_ ?k1); (case kx => assumption); (case kl => rfl); (case k1 => rfl)) | ((with_reducible refine' wg_setL ?_ ?k1); (case k1 => (intro _; rfl)))))
  | ((with_reducible show DL.WA _ _ _ _ _); (first | ((with_reducible refine' wa_star ?_ ?k1); (case k1 => rfl)) | with_reducible refine wa_nil ?_ | ((with_reducible refine' wa_cons ?_ ?k1); (case k1 => rfl))))
  | ((with_reducible show DL.WJs _ _ _ _ _ _); (first | with_reducible refine wjs_cons ?_ | with_reducible refine wjs_nil ?_))
  | ((with_reducible show DL.WT _ _ _ _ _); (first | ((with_reducible refine' xt_inX ?kx ?_ ?k1); (case kx => assumption); (case k1 => rfl)) | ((with_reducible refine' xt_ninX ?kx ?_ ?k1); (case kx => assumption); (case k1 => rfl)) | ((with_reducible refine' wt_lele ?_ ?k1); (case k1 => with_unfolding_all rfl)) | ((with_reducible refine' xt_eq ?k1 ?_); (case k1 => assumption)) | ((with_reducible refine' xt_ne ?k1 ?_); (case k1 => assumption)) | ((with_reducible refine' xt_in ?k1 ?_ ?k2); (case k1 => assumption); (case k2 => rfl)) | ((with_reducible refine' xt_nin ?k1 ?_ ?k2); (case k1 => assumption); (case k2 => rfl)) | with_reducible refine wt_lt ?_ | with_reducible refine wt_le ?_ | with_reducible refine wt_gt ?_ | with_reducible refine wt_ge ?_ | with_reducible refine wt_is ?_ | with_reducible refine wt_isnot ?_ | with_reducible refine wt_not ?_ | with_reducible refine wt_bo ?_ | ((with_reducible refine' wt_val ?_ ?k1); (case k1 => (intro _; rfl)))))
  | ((with_reducible show DL.WW _ _ _ _ _); (first | with_reducible refine ww_and ?_ | with_reducible refine ww_or ?_ | with_reducible refine ww_and1 ?_ | with_reducible refine ww_or1 ?_))
  | ((with_reducible show DL.WO _ _ _ _ _); (first | with_reducible refine wo_n ?_ | with_reducible refine wo_s ?_))
  | ((with_reducible show DL.dIxD _ _ _ _); (first | ((with_reducible refine' ixD_ok ?h1 ?h2 ?_); (case h1 => assumption); (case h2 => assumption)) | ((with_reducible show dIxD (D.own _) (D.int _) _ _); refine Or.inl ?_) | ((with_reducible show dIxD (D.lst _) _ _ _); refine Or.inl ?_) | ((with_reducible show dIxD (D.tup _) _ _ _); refine Or.inl ?_) | ((with_reducible show dIxD (D.str _) _ _ _); refine Or.inl ?_)))
  | ((with_reducible show DL.dInX _ _ _ _ _); (first | ((with_reducible refine' inX_ok ?h1 ?_); (case h1 => assumption)) | ((with_reducible refine' ninX_ok ?h1 ?_); (case h1 => assumption))))
  | ((with_reducible show DL.dLenX _ _ _); (first | ((with_reducible refine' lenX_ok ?h1 ?_); (case h1 => assumption)) | ((with_reducible show dLenX [D.lst _] _ _); refine Or.inl ?_) | ((with_reducible show dLenX [D.tup _] _ _); refine Or.inl ?_) | ((with_reducible show dLenX [D.str _] _ _); refine Or.inl ?_)))
  | ((with_reducible show DL.FrzA _ _ _); (first | with_reducible refine fa_int ?_ | with_reducible refine fa_str ?_ | with_reducible refine fa_bl ?_ | with_reducible refine fa_non ?_ | with_reducible refine fa_tup ?_ | with_reducible refine fa_lst ?_ | ((with_reducible refine' fa_put ?k1 ?_); (case k1 => assumption))))
  | ((with_reducible show DL.dSl _ _ _ _ _); (first | with_reducible refine slA_f ?_ | with_reducible refine slA_t ?_ | with_reducible refine slA_p ?_ | ((with_reducible refine' slA_o ?k1 ?_); (case k1 => assumption)) | ((with_reducible refine' slA_z ?k1 ?_); (case k1 => walk_at "ct")) | with_reducible refine sl_t ?_ | with_reducible refine sl_f ?_))
  | ((with_reducible show DL.dAdd _ _ _ _); (first | with_reducible refine addA_ii ?_ | ((with_reducible refine' addA_ss ?k1 ?_); (case k1 => walk_at "ct")) | ((with_reducible refine' addA_tt ?k1 ?_); (case k1 => walk_at "ct")) | ((with_reducible refine' addA_ll ?k1 ?_); (case k1 => walk_at "sz")) | ((with_reducible refine' addA_pl ?k1 ?_); (case k1 => walk_at "sz")) | with_reducible refine add_ii ?_ | ((with_reducible refine' add_ss ?k1 ?_); (case k1 => walk_at "ct")) | ((with_reducible refine' add_tt ?k1 ?_); (case k1 => walk_at "ct"))))
  | ((with_reducible show DL.dList _ _ _); (first | with_reducible refine listA_l ?_ | with_reducible refine listA_t ?_ | with_reducible refine listA_p ?_ | ((with_reducible refine' listA_o ?k1 ?_); (case k1 => assumption))))
  | ((with_reducible show DL.dMul _ _ _ _); (first | ((with_reducible refine' mulA_ii ?k1 ?_); (case k1 => walk_at "ct")) | ((with_reducible refine' mul_ii ?k1 ?_); (case k1 => walk_at "ct"))))
  | ((with_reducible show DL.dMulS _ _ _ _); (first | ((with_reducible refine' mul_s ?k1 ?_); (case k1 => decide +kernel))))
  | ((with_reducible show DL.dAppend _ _ _ _); (first | ((with_reducible refine' app_put ?k1 ?_); (case k1 => walk_at "sz"))))
  | ((with_reducible show DL.tb _ _ _); (first | with_reducible refine tb_ok ?_))
  | ((with_reducible show DL.dIsi _ _ _); (first | ((with_reducible refine' isi_int ?k1 ?_); (case k1 => walk_at "kd")) | ((with_reducible refine' isi_bool ?k1 ?_); (case k1 => walk_at "kd")) | ((with_reducible refine' isi_str ?k1 ?_); (case k1 => walk_at "kd")) | ((with_reducible refine' isi_list ?k1 ?_); (case k1 => walk_at "kd")) | ((with_reducible refine' isi_tuple ?k1 ?_); (case k1 => walk_at "kd")) | ((with_reducible refine' isi_ls ?k1 ?_); (case k1 => assumption)) | ((with_reducible refine' isi_lsT ?k1 ?_); (case k1 => assumption))))
  | ((with_reducible show DL.dIsiT _ _ _); (first | ((with_reducible refine' isi_ltT ?k1 ?k2 ?_); (case k1 => rfl); (case k2 => rfl)) | ((with_reducible refine' isi_ltF ?k1 ?k2 ?_); (case k1 => rfl); (case k2 => rfl)) | ((with_reducible refine' isi_lt ?k1 ?_); (case k1 => walk_at "kd")) | ((with_reducible refine' isiT_ls ?k1 ?_); (case k1 => assumption))))
  | ((with_reducible show DL.dLen _ _ _); (first | ((with_reducible refine' len_ls ?k1 ?_); (case k1 => assumption)) | ((with_reducible refine' len_str ?k1 ?_); (case k1 => walk_at "ct")) | with_reducible refine len_tup ?_ | with_reducible refine len_fr ?_ | with_reducible refine len_sl ?_ | ((with_reducible refine' len_own ?k1 ?_); (case k1 => assumption)) | with_reducible refine len_put ?_))
  | ((with_reducible show DL.dEq _ _ _ _ _); (first | with_reducible refine eq_bb ?_ | with_reducible refine ne_bb ?_ | with_reducible refine eq_ii ?_ | with_reducible refine ne_ii ?_))
  | ((with_reducible show DL.dI2 _ _ _ _ _ _); (first | ((with_reducible refine' i2_ok ?k1 ?_); (case k1 => walk_at "ct"))))
  | ((with_reducible show DL.dB2 _ _ _ _ _); (first | with_reducible refine b2_ok ?_))
  | ((with_reducible show DL.dInt1 _ _ _ _); (first | with_reducible refine int1_ok ?_))
  | ((with_reducible show DL.dInt2 _ _ _ _); (first | with_reducible refine int2_ok ?_))
  | ((with_reducible show DL.dInt _ _ _); (first | with_reducible refine int_i ?_ | with_reducible refine int_b ?_))
  | ((with_reducible show DL.dIn _ _ _ _ _); (first | with_reducible refine ins_c ?_))
  | ((with_reducible show DL.dTuple _ _ _); (first | with_reducible refine tup_t ?_ | with_reducible refine tup_f ?_))
  | ((with_reducible show DL.dIx _ _ _ _); (first | ((with_reducible refine' ix_t ?k1 ?_); (case k1 => rfl)) | ((with_reducible refine' ix_f ?k1 ?_); (case k1 => rfl)) | ((with_reducible refine' ix_s ?k1 ?_); (case k1 => rfl)) | ((with_reducible refine' ix_p ?k1 ?_); (case k1 => rfl)) | ((with_reducible refine' ix_o ?k0 ?k1 ?_); (case k0 => assumption); (case k1 => rfl))))
  | ((with_reducible show DL.dIsN _ _ _ _ _); (first | ((with_reducible refine' isn_k ?k1 ?_); (case k1 => walk_at "kd")) | ((with_reducible refine' nisn_k ?k1 ?_); (case k1 => walk_at "kd"))))
  | ((refine' fld_ok ?h1 ?h2 ?h3 ?_); (case h1 => assumption); (case h2 => assumption); (case h3 => walk_at "fg"))
  | with_reducible refine ex_bl ?_
  | with_reducible refine ex_int ?_
  | with_reducible refine ex_2 ?_
  | with_reducible refine ex_3 ?_
  | ((with_reducible refine' setL_p ?k1 ?_); (case k1 => rfl))
  | ((with_reducible refine' setL_o ?k0 ?k1 ?_); (case k0 => assumption); (case k1 => rfl))
  | with_reducible refine and_T ?_
  | with_reducible refine and_F ?_
  | ((with_reducible refine and_S ?_ ?_) <;> intro _)
  | with_reducible refine ty_str ?_
  | with_reducible refine ty_put ?_
  | ((with_reducible refine' ty_own ?k1 ?_); (case k1 => assumption))
  | ((with_reducible refine' sz_ok ?k1 ?_); (case k1 => rfl))
  | ((with_reducible refine' sz_as ?k1 ?_); (case k1 => assumption))))
namespace K31
section
variable {P : Program} {w : World} {K : PySem.W.Frag} {mg : Str → Option Value} {base : Heap}
/-- data fit for == and for repr -/
structure Ob (d : D) : Prop where
  ex : ∃ n, n ≤ 60 ∧ d.fit n = true
  sh : d.shI = true
  wt : d.wt ≤ 200000
theorem fit_kind {x : D} {n : Nat} (h : x.fit n = true) : x.kind = true := kind_of_py (fit_py x h)
theorem Ob.kind {d : D} (h : Ob d) : d.kind = true := by obtain ⟨n, _, hf⟩ := h.ex; exact fit_kind hf
theorem wt_mem : ∀ {xs : List D} {d : D}, d ∈ xs → d.wt ≤ wtL xs
  | x :: xs, d, h => by
    rcases List.mem_cons.mp h with rfl | h
    · simp only [wtL]; omega
    · have := wt_mem h; simp only [wtL]; omega
theorem Ob.part {xs : List D} (h : Ob (.tup xs)) : ∀ d ∈ xs, Ob d := fun d hd => by
  obtain ⟨n, hn, hf⟩ := h.ex
  obtain ⟨m, rfl, hm⟩ := fit_tup hf
  exact ⟨⟨m, by omega, hm d hd⟩, shL_all.mp (by have := h.sh; simpa [D.shI] using this) d hd, Nat.le_trans (wt_mem hd) (by have := h.wt; simpa [D.wt] using this)⟩
theorem Ob.str {z : Str} (h : Ob (.str z)) : z.length ≤ sizeLine := Nat.le_trans h.wt (by decide)
theorem Ob.eq {C : CS} {k : KD} {x : D} {z : Str} (h : Ob x) (hz : PyData.strOk z = true) (q : k (.bl (PyData.eqv x.py (.str z))) C) : dEq false x (.str z) C k := by
  obtain ⟨n, hn, hf⟩ := h.ex
  exact eq_fit (n := n) (m := 0) hf hz q (by omega)
abbrev abc : Str := "abcdefghijklmnopqrstuvwxyz"
def abcB (z : Str) : Bool := z.cps.toList.all fun c => decide (c ∈ abc.cps.toList)
def isNm : D → Bool
  | .str z => (decide (1 ≤ z.length) && decide (z.length ≤ 8)) && abcB z
  | _ => false
theorem isNm_no {x : D} (h : x.isStr = false) : isNm x = false := by cases x <;> first | rfl | (simp [D.isStr] at h; done)
def spIsNm : DSp := fun ds C k => ∃ x, ds = [x] ∧ Ob x ∧ k (.bl (isNm x)) C
def sgB (d : D) : Bool := match d with | .str s => s.cps.toList.all fun c => decide (c ∈ abc.cps.toList) | _ => false
theorem signs_all (z : Str) : (signsOf z).all sgB = abcB z := by
  unfold signsOf abcB
  rw [List.all_map]
  congr 1
  funext c
  simp [sgB]
theorem mem_signs {z : Str} {d : D} (h : d ∈ signsOf z) : ∃ c, d = .str ⟨#[c]⟩ := by
  obtain ⟨c, _, rfl⟩ := List.mem_map.mp h
  exact ⟨c, rfl⟩
theorem signs_len (z : Str) : (signsOf z).length = z.length := by
  unfold signsOf
  rw [List.length_map, Array.length_toList]; rfl
theorem ok_isName {f : Addr} {fd : FuncData} (F : Fun K "is_name" "is_name" s_is_name f fd) (Z : Zs mg) (g1 : MgK K mg "LETTERS" (.str abc)) (g2 : MgK K mg "MOST_LETTERS" (.int 8)) : FnG P w K mg base CX0 1 f fd P_is_name (toSp K spIsNm) := by
  refine fnX F sc_is_name v_is_name l_is_name g_is_name (fun ds C k h => by obtain ⟨x, rfl, _⟩ := h; rfl) fun X hB ds C k h => ?_
  obtain ⟨x, rfl, hO, h⟩ := h
  obtain ⟨hx, hn, hs, hg, hd, hnox⟩ := hB
  have hk := hO.kind
  change WSs X _ [some x, none] C _
  refine wss_cons ?_
  walk_at "pyR"
  · rename_i h2
    rw [isNm_no (by simpa using h2)] at h; exact h
  · rename_i h2
    obtain ⟨z, rfl⟩ := isStr_eq (by simpa using h2)
    have hz := hO.str
    walk_at "pyR"
    · rename_i h3 h4
      have e : isNm (.str z) = false := by
        have : ¬ z.length ≤ 8 := by have h4 := dec_f (by simpa using h4 : decide (((z.length : Nat) : Int) ≤ 8) = false); omega
        simp [isNm, this]
      rw [e] at h; exact h
    · rename_i h3 h4
      have e : isNm (.str z) = abcB z := by
        have h3 := dec_t h3
        have h4 := dec_t (by simpa using h4 : decide (((z.length : Nat) : Int) ≤ 8) = true)
        show ((decide (1 ≤ z.length) && decide (z.length ≤ 8)) && abcB z) = abcB z
        rw [decide_eq_true (by omega), decide_eq_true (by omega)]; rfl
      rw [e] at h
      refine we_fa (lc1 ["sign"] ["LETTERS"] hd (by walk_at "nm") (by decide +kernel) (by decide +kernel) (by decide +kernel) (by decide +kernel) (wi_str ?_))
      walk_at "pyR"
      refine ⟨z, rfl, LcB.map (fun d => .bl (sgB d)) trivial (by rw [signs_len]; exact hz) ?_ fun p hp => fa_put hp ?_⟩
      · intro d hdm X' hX hn' hg'
        have hx' := hx.blk hX
        obtain ⟨c, rfl⟩ := mem_signs hdm
        walk_at "pyR"
        exact ⟨by simp [sgB], rfl⟩
      · walk_at "pyR"
        refine all_map (f := sgB) ?_
        rw [signs_all]; exact h
    · rename_i h3 h4
      have e : isNm (.str z) = false := by
        have : ¬ 1 ≤ z.length := by have h3 := dec_f h3; omega
        simp [isNm, this]
      rw [e] at h; exact h
    · rename_i h3 h4; exact absurd h4 (by decide)
end
section
variable {P : Program} {w : World} {K : PySem.W.Frag} {mg : Str → Option Value} {base : Heap}
/-- the bag of draws at b: at most n were mixed -/
def Bag (C : CS) (b : Addr) (n : Nat) : Prop := ∃ x y c : Int, C b = some (.lst [.int x, .int y, .int c]) ∧ 0 ≤ x ∧ 0 ≤ y ∧ y < 4611686018427387904 ∧ 0 ≤ c ∧ c ≤ n
theorem Bag.mono {C : CS} {b : Addr} {n m : Nat} (h : Bag C b n) (hm : n ≤ m) : Bag C b m := by
  obtain ⟨x, y, c, h1, h2, h3, h4, h5, h6⟩ := h
  exact ⟨x, y, c, h1, h2, h3, h4, h5, by omega⟩
theorem Bag.some {C : CS} {b : Addr} {n : Nat} (h : Bag C b n) : ∃ l, C b = some (.lst l) := by
  obtain ⟨x, y, c, h1, _⟩ := h
  exact ⟨_, h1⟩
theorem Bag.put {C : CS} {b p : Addr} {n : Nat} {c : Cell} (h : Bag C b n) (hp : b ≠ p) : Bag (DL.put C p c) b n := by
  obtain ⟨x, y, c, h1, h2⟩ := h
  exact ⟨x, y, c, by rw [put_ne hp]; exact h1, h2⟩
theorem Bag.ne {C : CS} {b p : Addr} {n : Nat} (h : Bag C b n) (hp : C p = none) : b ≠ p := by
  obtain ⟨l, h⟩ := h.some
  exact cell_ne h hp
theorem Bag.of {C C1 : CS} {b : Addr} {n m : Nat} (h : Bag C b n) (e : C1 b = C b) (hm : n ≤ m) : Bag C1 b m := by
  obtain ⟨x, y, c, q1, q2⟩ := Bag.mono h hm
  exact ⟨x, y, c, e.trans q1, q2⟩
/-- any item -/
theorem at_any {xs : List D} {r : Int} (h0 : 0 ≤ r) (h1 : r < (xs.length : Nat)) : ∃ d ∈ xs, atI xs r = some d := by
  have hl : r.toNat < xs.length := by omega
  refine ⟨xs[r.toNat], List.getElem_mem hl, ?_⟩
  unfold atI ixN
  rw [if_pos h0, if_pos h1]
  exact List.getElem?_eq_getElem hl
theorem ix_any {C : CS} {k : KD} {xs : List D} {r : Int} (h0 : 0 ≤ r) (h1 : r < (xs.length : Nat)) (q : ∀ d ∈ xs, k d C) : dIx (.lst xs) (.int r) C k := by
  obtain ⟨d, hm, he⟩ := at_any h0 h1
  exact ix_f he (q d hm)
theorem ix_anyO {C : CS} {k : KD} {p : Addr} {xs : List D} {r : Int} (hp : C p = some (.lst xs)) (h0 : 0 ≤ r) (h1 : r < (xs.length : Nat)) (q : ∀ d ∈ xs, k d C) : dIx (.own p) (.int r) C k := by
  obtain ⟨d, hm, he⟩ := at_any h0 h1
  exact ix_o hp he (q d hm)
/-- texts of one to eight letters -/
def Nm (z : Str) : Prop := 1 ≤ z.length ∧ z.length ≤ 8 ∧ ∀ c ∈ z.cps.toList, 97 ≤ c ∧ c ≤ 122
theorem abc_at : ∀ j : Nat, j < 26 → abc.cps.toList[j]? = some (97 + j) := by decide +kernel
theorem abc_len : abc.length = 26 := by decide +kernel
theorem abc_ix {i : Int} (h0 : 0 ≤ i) (h1 : i < 26) : atI abc.cps.toList i = some (97 + i.toNat) := by
  unfold atI ixN
  have hl : abc.cps.toList.length = 26 := by decide +kernel
  rw [hl, if_pos h0, if_pos (by omega)]
  exact abc_at i.toNat (by omega)
theorem nm_strOk {z : Str} (h : Nm z) : PyData.strOk z = true := by
  unfold PyData.strOk
  rw [← Array.all_toList, List.all_eq_true]
  exact fun c hc => decide_eq_true (by have := h.2.2 c hc; omega)
end
end K31
namespace K31
section
variable {P : Program} {w : World} {K : PySem.W.Frag} {mg : Str → Option Value} {base : Heap}
def spDraw : DSp := fun ds C k => ∃ (b : Addr) (n : Nat) (m : Int), ds = [.own b, .int m] ∧ Bag C b n ∧ n ≤ 1000000 ∧ 1 ≤ m ∧ m < 1000000 ∧ ∀ r l, 0 ≤ r → r < m → Bag (DL.put C b (.lst l)) b (n + 1) → k (.int r) (DL.put C b (.lst l))
theorem ok_draw {f : Addr} {fd : FuncData} (F : Fun K "_law_draw" "_law_draw" s_draw f fd) : FnG P w K mg base CX0 1 f fd P_draw (toSp K spDraw) := by
  refine fnX F sc_draw v_draw l_draw g_draw (fun ds C k h => by obtain ⟨_, _, _, rfl, _⟩ := h; rfl) fun X hB ds C k h => ?_
  obtain ⟨b, n, m, rfl, ⟨x, y, c, hC, x0, y0, y1, c0, c1⟩, hn30, m1, m2, h⟩ := h
  obtain ⟨hx, hn, hs, hg, hd, hnox⟩ := hB
  change WSs X _ [some (.own b), some (.int m), none, none] C _
  have mz : 0 < m := by omega
  have cd : CDiv x m := ⟨by omega, by omega⟩
  have q1 := Int.emod_nonneg (y * 62089 + 30011 * (c + 1) * (c + 1) + 13) (show (2147483587 : Int) ≠ 0 by decide)
  have q2 := Int.emod_lt_of_pos (y * 62089 + 30011 * (c + 1) * (c + 1) + 13) (show (0 : Int) < 2147483587 by decide)
  obtain ⟨y', hyy⟩ : ∃ y', y' = (y * 62089 + 30011 * (c + 1) * (c + 1) + 13) % 2147483587 := ⟨_, rfl⟩
  rw [← hyy] at q1 q2
  have d1 := Int.ediv_nonneg q1 (show (0 : Int) ≤ 64 by decide)
  have d2 : y' / 64 ≤ y' := Int.ediv_le_self _ q1
  have pw : CPowW (y' / 64) 3 := ⟨by omega, by omega, Nat.lt_trans (by omega : (y' / 64).natAbs < 2 ^ 100) (Nat.pow_lt_pow_right (by decide) (by decide))⟩
  refine wss_cons ?_
  rw [hyy] at pw
  walk_at "pyR"
  · exact h (x % m) [.int (x / m), .int y, .int c] (Int.emod_nonneg _ (by omega)) (Int.emod_lt_of_pos _ mz) ⟨x / m, y, c, put_same, Int.ediv_nonneg x0 (by omega), y0, y1, c0, by omega⟩
  · have h1 := Int.emod_nonneg (((y * 62089 + 30011 * (c + 1) * (c + 1) + 13) % 2147483587 / 64) ^ Int.toNat 3) (show (2147483563 : Int) ≠ 0 by decide)
    have h2 := Int.emod_lt_of_pos (((y * 62089 + 30011 * (c + 1) * (c + 1) + 13) % 2147483587 / 64) ^ Int.toNat 3) (show (0 : Int) < 2147483563 by decide)
    trace_state
    rw [← hyy]
    exact h _ [.int x, .int y', .int (c + 1)] (Int.emod_nonneg _ (by omega)) (Int.emod_lt_of_pos _ mz) ⟨x, y', c + 1, put_same, x0, q1, by omega, by omega, by omega⟩
def spSource : DSp := fun ds C k => ∃ (ns : List Int) (a : Nat), ds = [.slst (ns.map D.int), .int (a : Nat)] ∧ a ≤ 100 ∧ ∀ p l, C p = none → Bag (DL.put C p (.lst l)) p 0 → k (.own p) (DL.put C p (.lst l))
theorem at_map {ns : List Int} {a : Nat} (h : a < ns.length) : atI (ns.map D.int) (a : Int) = some (.int ns[a]) := by
  unfold atI ixN
  rw [if_pos (by omega), if_pos (by rw [List.length_map]; omega)]
  simp [h]
theorem ok_source {f : Addr} {fd : FuncData} (F : Fun K "_law_source" "_law_source" s_source f fd) (Z : Zs mg) : FnG P w K mg base CX0 1 f fd P_source (toSp K spSource) := by
  refine fnX F sc_source v_source l_source g_source (fun ds C k h => by obtain ⟨_, _, rfl, _⟩ := h; rfl) fun X hB ds C k h => ?_
  obtain ⟨ns, a, rfl, ha, h⟩ := h
  obtain ⟨hx, hn, hs, hg, hd, hnox⟩ := hB
  change WSs X _ [some (.slst (ns.map D.int)), some (.int a), none, none, none] C _
  have pw : CPowW 10 18 := ⟨by decide, by decide, Nat.lt_of_lt_of_le (by decide : (10 : Int).natAbs < 2 ^ 10) (Nat.pow_le_pow_right (by decide) (by decide))⟩
  have e18 : (10 : Int) ^ Int.toNat 18 = 1000000000000000000 := by decide
  have ab : (0 : Int) ≤ 7331 * a * a := Int.mul_nonneg (by omega) (by omega)
  have ac : (7331 : Int) * a * a ≤ 7331 * 100 * 100 := Int.mul_le_mul (by omega) (by omega) (by omega) (by omega)
  refine wss_cons ?_
  have pw3 : ∀ x : Int, CPowW (x % 2147483587 + 7331 * a * a + 211 * a + 5) 3 := fun x => by
    have h1 := Int.emod_nonneg x (show (2147483587 : Int) ≠ 0 by decide)
    have h2 := Int.emod_lt_of_pos x (show (0 : Int) < 2147483587 by decide)
    exact ⟨by omega, by omega, Nat.lt_trans (by omega : (x % 2147483587 + 7331 * a * a + 211 * a + 5).natAbs < 2 ^ 100) (Nat.pow_lt_pow_right (by decide) (by decide))⟩
  have last : ∀ (i : Int) (x : Int) (p : Addr), 0 ≤ i → C p = none → k (.own p) (DL.put C p (.lst [.int i, .int (x % 2147483549), .int 0])) := fun i x p hi hp => by
    have h1 := Int.emod_nonneg x (show (2147483549 : Int) ≠ 0 by decide)
    have h2 := Int.emod_lt_of_pos x (show (0 : Int) < 2147483549 by decide)
    exact h p _ hp ⟨_, _, _, put_same, hi, h1, by omega, by decide, by decide⟩
  walk_at "pyR"
  · rename_i hlt
    have hlt : a < ns.length := by have := dec_t hlt; rw [List.length_map] at this; omega
    refine ix_s (at_map hlt) ?_
    have hp3 := pw3 ns[a]
    walk_at "pyR"
    all_goals refine we_lst ?_
    all_goals walk_at "pyR"
    all_goals intro p hp
    · exact last _ _ p (by split <;> omega) hp
    · exact last _ _ p (by decide) hp
  all_goals have hp3 := pw3 0
  all_goals refine we_lst ?_
  all_goals walk_at "pyR"
  all_goals intro p hp
  · exact last _ _ p (by split <;> omega) hp
  · exact last _ _ p (by decide) hp
end
end K31
namespace K31
section
variable {P : Program} {w : World} {K : PySem.W.Frag} {mg : Str → Option Value} {base : Heap}
theorem cut_list (z : Str) (lo hi : Option Int) : (cutS z lo hi).cps.toList = (z.cps.toList.drop (HT.sIx z.length 0 lo)).take (HT.sIx z.length z.length hi - HT.sIx z.length 0 lo) := rfl
theorem cut_mem {z : Str} {lo hi : Option Int} {c : Nat} (h : c ∈ (cutS z lo hi).cps.toList) : c ∈ z.cps.toList := by
  rw [cut_list] at h
  exact List.mem_of_mem_drop (List.mem_of_mem_take h)
theorem cut_two {z : Str} {i : Int} (h0 : 0 ≤ i) (h1 : i ≤ z.length) : (cutS z none (some i)).length + (cutS z (some i) none).length = z.length := by
  rw [str_len (cutS _ _ _), str_len (cutS _ _ _), cut_list, cut_list]
  have e1 : HT.sIx z.length 0 none = 0 := rfl
  have e2 : HT.sIx z.length z.length none = z.length := rfl
  have e3 : ∀ d, HT.sIx z.length d (some i) = i.toNat := fun d => by
    show (if i < 0 then (i + (z.length : Int)).toNat else min i.toNat z.length) = i.toNat
    rw [if_neg (by omega)]; omega
  rw [e1, e2, e3, e3]
  simp only [List.length_take, List.length_drop, ← str_len]
  omega
theorem app_mem {x y : Str} {c : Nat} (h : c ∈ (x ++ y).cps.toList) : c ∈ x.cps.toList ∨ c ∈ y.cps.toList := by
  rw [str_app] at h
  exact List.mem_append.mp h
theorem app_len (x y : Str) : (x ++ y).length = x.length + y.length := by
  rw [str_len, str_app, List.length_append, ← str_len, ← str_len]
def Lw (z : Str) : Prop := ∀ c ∈ z.cps.toList, 97 ≤ c ∧ c ≤ 122
theorem Lw.app {x y : Str} (h1 : Lw x) (h2 : Lw y) : Lw (x ++ y) := fun c hc => (app_mem hc).elim (h1 c) (h2 c)
theorem Lw.cut {z : Str} (h : Lw z) (lo hi : Option Int) : Lw (cutS z lo hi) := fun c hc => h c (cut_mem hc)
theorem lw_one {j : Nat} (h : j < 26) : Lw ⟨#[97 + j]⟩ := fun c hc => by
  have : c = 97 + j := by simpa using hc
  omega
theorem one_len (c : Nat) : Str.length ⟨#[c]⟩ = 1 := rfl
def nameF (z : Str) (sp fi : Int) : D → D
  | .int j => .str (cutS z none (some sp) ++ ⟨#[97 + ((fi + 3 * j) % 26).toNat]⟩ ++ cutS z (some sp) none)
  | _ => .non
abbrev words : List Str := ["or", "of", "to", "by", "as", "try", "def", "any"]
def wordB : D → Bool
  | .str z => decide (z ∈ words)
  | _ => false
def quF : D → D
  | .str z => .str (z ++ "q")
  | _ => .non
def spNames : DSp := fun ds C k => ∃ (b : Addr) (n : Nat), ds = [.own b, .int 6] ∧ Bag C b n ∧ n + 20 ≤ 1000000 ∧ ∀ l (zs : List Str), zs.length = 6 → (∀ z ∈ zs, Nm z) → Bag (DL.put C b (.lst l)) b (n + 20) → k (.lst (zs.map D.str)) (DL.put C b (.lst l))
theorem ok_names {f : Addr} {fd : FuncData} (F : Fun K "_law_names" "_law_names" s_names f fd) (Z : Zs mg) (h1 : FnC P w K mg base "_law_draw" 1 spDraw) : FnG P w K mg base CX0 2 f fd P_names (toSp K spNames) := by
  refine fnX F sc_names v_names l_names g_names (fun ds C k h => by obtain ⟨_, _, rfl, _⟩ := h; rfl) fun X hB ds C k h => ?_
  obtain ⟨b, n, rfl, hBag, hn6, h⟩ := h
  obtain ⟨hx, hn, hs, hg, hd, hnox⟩ := hB
  change WSs X _ [some (.own b), some (.int 6), none, none, none, none, none, none, none, none, none] C _
  obtain ⟨l0, hl0⟩ := hBag.some
  obtain ⟨S, hS⟩ : ∃ S : List D → CS, S = fun l => DL.put C b (.lst l) := ⟨_, rfl⟩
  have S0 : C = S l0 := by rw [hS]; simp only; rw [put_self hl0]
  have S2 : ∀ l l', DL.put (S l) b (.lst l') = S l' := fun l l' => by rw [hS]; simp only; rw [put_put]
  have hk : ∀ l (zs : List Str), zs.length = 6 → (∀ z ∈ zs, Nm z) → Bag (S l) b (n + 20) → k (.lst (zs.map D.str)) (S l) := by rw [hS]; exact h
  have draw : ∀ {l : List D} {n' : Nat} {mm : Int} {kk : KD}, Bag (S l) b n' → n' ≤ 1000000 → 1 ≤ mm → mm < 1000000 → (∀ r l', 0 ≤ r → r < mm → Bag (S l') b (n' + 1) → kk (.int r) (S l')) → spDraw [.own b, .int mm] (S l) kk :=
    fun {l n' mm kk} hB h1 h2 h3 hk => ⟨b, n', mm, rfl, hB, h1, h2, h3, fun r l' r0 r1 hB' => by rw [S2] at hB' ⊢; exact hk r l' r0 r1 hB'⟩
  have B0 : Bag (S l0) b n := by rw [← S0]; exact hBag
  rw [S0]
  clear h hS S0
  refine wss_cons ?_
  walk_at "pyA"
  refine draw B0 (by omega) (by omega) (by omega) fun r l1 r0 r1 hB1 => ?_
  have hz : ∃ sz : Nat, atI [D.int 0, .int 0, .int 1, .int 2, .int 7] r = some (.int sz) ∧ sz ≤ 7 := by
    rcases (by omega : r = 0 ∨ r = 1 ∨ r = 2 ∨ r = 3 ∨ r = 4) with rfl | rfl | rfl | rfl | rfl
    · exact ⟨0, rfl, by decide⟩
    · exact ⟨0, rfl, by decide⟩
    · exact ⟨1, rfl, by decide⟩
    · exact ⟨2, rfl, by decide⟩
    · exact ⟨7, rfl, by decide⟩
  obtain ⟨sz, hz, z7⟩ := hz
  refine ix_f hz ?_
  walk_at "pyA"
  refine draw hB1 (by omega) (by omega) (by omega) fun fi l2 f0 f1 hB2 => ?_
  walk_at "pyA"
  refine x_for hx hnox (x_range1 hx Z (by walk_at "gl") ?_)
  walk_at "pyA"
  refine ⟨sz, rfl, by omega, by omega, ?_⟩
  refine ⟨fun i env C' => ∃ (l : List D) (z : Str) (o1 : Option D), C' = S l ∧ Bag (S l) b (n + 2 + i) ∧ env = [some (.own b), some (.int 6), some (.str abc), some (.str z), o1, none, none, some (.int sz), some (.int fi), none, none] ∧ Lw z ∧ z.length = i,
    ⟨l2, "", none, rfl, hB2.mono (by omega), rfl, fun c hc => absurd hc (by rw [show ("" : Str).cps.toList = [] by decide +kernel]; simp), rfl⟩, fun _ _ _ _ => trivial, ?_, ?_⟩
  · rintro i d env C1 hd' ⟨l, z, o1, rfl, hB3, rfl, hLw, hlz⟩
    obtain ⟨hi, rfl⟩ := intsFrom_get hd'
    have hi : i < sz := by simpa using hi
    walk_at "pyA"
    refine draw hB3 (by omega) (by omega) (by omega) fun r' l3 r0' r1' hB4 => ?_
    refine ix_z (by rw [abc_len]; decide) (abc_ix r0' r1') ?_
    walk_at "pyA"
    refine add_ss (by rw [one_len]; exact Nat.le_trans (by omega : z.length + 1 ≤ 100) (by decide)) ?_
    walk_at "pyA"
    exact ⟨l3, _, _, rfl, hB4.mono (by omega), rfl, hLw.app (lw_one (by omega)), by rw [app_len, one_len, hlz]⟩
  · rintro env C1 ⟨l, z, o1, rfl, hB3, rfl, hLw, hlz⟩
    rw [intsFrom_length] at hB3 hlz
    have hlz : z.length = sz := by simpa using hlz
    have hB3 : Bag (S l) b (n + 2 + sz) := by simpa using hB3
    walk_at "pyA"
    refine draw hB3 (by omega) (by omega) (by omega) fun sp l4 s0 s1 hB4 => ?_
    walk_at "pyA"
    refine ws_lc1 (M0 := []) ["_law_k", "_law_stem", "_law_letters", "_law_spot", "_law_first"] [] hd (by walk_at "nm") (by decide +kernel) (by walk_at "nm") (by decide +kernel) (by decide +kernel) (by decide +kernel) (by decide +kernel) ((sww_env hd.sc _ _ _).trans (by rfl)) (x_range1 hx Z (by walk_at "gl") ?_)
    walk_at "pyA"
    refine ⟨6, rfl, by omega, by omega, ?_⟩
    refine LcB.map (nameF z sp fi) trivial (by rw [intsFrom_length]; decide) ?_ fun p hp => ?_
    · intro d hdm X' hX hn' hg'
      have hx' := hx.blk hX
      obtain ⟨i, hi⟩ := List.getElem?_of_mem hdm
      obtain ⟨hi, rfl⟩ := intsFrom_get hi
      have l1 : z.length ≤ sizeLine := Nat.le_trans (by omega : z.length ≤ 1000) (by decide)
      have c2 := cut_two (z := z) s0 (by omega)
      have e0 := Int.emod_nonneg (fi + 3 * (0 + (i : Int))) (show (26 : Int) ≠ 0 by decide)
      have e1 := Int.emod_lt_of_pos (fi + 3 * (0 + (i : Int))) (show (0 : Int) < 26 by decide)
      walk_at "pyA"
      refine ix_z (by rw [abc_len]; decide) (abc_ix e0 e1) ?_
      refine addA_ss (by rw [one_len]; exact Nat.le_trans (by omega) (by decide : 1000 ≤ sizeLine)) ?_
      walk_at "pyA"
      refine addA_ss (by rw [app_len, one_len]; exact Nat.le_trans (by omega) (by decide : 1000 ≤ sizeLine)) ?_
      exact ⟨rfl, rfl⟩
    · refine wss_frzI 6 (p := p) rfl put_same ?_
      dsimp only [List.set]
      rw [del_put hp]
      obtain ⟨zs, ezs, hzl, hzN, hzlen⟩ : ∃ zs : List Str, (intsFrom 0 (6 : Int).toNat).map (nameF z sp fi) = zs.map D.str ∧ zs.length = 6 ∧ (∀ y ∈ zs, Lw y) ∧ ∀ y ∈ zs, y.length = sz + 1 := by
        refine ⟨(List.range 6).map fun i => cutS z none (some sp) ++ ⟨#[97 + ((fi + 3 * (0 + ((i : Nat) : Int))) % 26).toNat]⟩ ++ cutS z (some sp) none, ?_, by rw [List.length_map, List.length_range], fun y hy => ?_, fun y hy => ?_⟩
        · unfold DL.intsFrom
          rw [List.map_map, List.map_map]
          rfl
        · obtain ⟨i, _, rfl⟩ := List.mem_map.mp hy
          have e0 := Int.emod_nonneg (fi + 3 * (0 + (i : Int))) (show (26 : Int) ≠ 0 by decide)
          have e1 := Int.emod_lt_of_pos (fi + 3 * (0 + (i : Int))) (show (0 : Int) < 26 by decide)
          exact ((hLw.cut _ _).app (lw_one (by omega))).app (hLw.cut _ _)
        · obtain ⟨i, _, rfl⟩ := List.mem_map.mp hy
          have c2 := cut_two (z := z) s0 (by omega)
          rw [app_len, app_len, one_len]
          omega
      rw [ezs]
      have hz1000 : (zs.map D.str).length ≤ sizeLine := by rw [List.length_map, hzl]; decide
      walk_at "pyA"
      refine we_fa (lc1 ["_law_name"] [] hd (by walk_at "nm") (by decide +kernel) (by decide +kernel) (by decide +kernel) (by decide +kernel) (wi_list ?_))
      walk_at "pyA"
      refine ⟨_, rfl, LcB.map (fun d => .bl (wordB d)) trivial hz1000 ?_ fun p hp => fa_put hp ?_⟩
      · intro d hdm X' hX hn' hg'
        have hx' := hx.blk hX
        obtain ⟨y, hy, rfl⟩ := List.mem_map.mp hdm
        walk_at "pyA"
        refine in_tup (zs := words) rfl ?_
        exact ⟨rfl, rfl⟩
      · walk_at "pyA"
        refine any_map (f := wordB) ?_
        walk_at "pyA"
        · rename_i hany
          refine ws_lc1 (M0 := []) ["_law_name"] [] hd (by walk_at "nm") (by decide +kernel) (by walk_at "nm") (by decide +kernel) (by decide +kernel) (by decide +kernel) (by decide +kernel) ((sww_env hd.sc _ _ _).trans (by rfl)) (wi_list ?_)
          walk_at "pyA"
          refine ⟨_, rfl, LcB.map quF trivial hz1000 ?_ fun p2 hp2 => ?_⟩
          · intro d hdm X' hX hn' hg'
            have hx' := hx.blk hX
            obtain ⟨y, hy, rfl⟩ := List.mem_map.mp hdm
            have := hzlen y hy
            walk_at "pyA"
            refine addA_ss (Nat.le_trans (by rw [show ("q" : Str).length = 1 by decide +kernel]; omega : y.length + ("q" : Str).length ≤ 1000) (by decide)) ?_
            exact ⟨rfl, rfl⟩
          · refine wss_frzI 6 (p := p2) rfl put_same ?_
            dsimp only [List.set]
            rw [del_put hp2]
            walk_at "pyA"
            have h3 : sz + 1 ≤ 3 := by
              obtain ⟨d, hd1, hd2⟩ := List.any_eq_true.mp hany
              obtain ⟨y, hy, rfl⟩ := List.mem_map.mp hd1
              have hy2 : y ∈ words := of_decide_eq_true hd2
              have : ∀ y ∈ words, Str.length y ≤ 3 := by decide +kernel
              have := this y hy2
              have := hzlen y hy
              omega
            have := hk l4 (zs.map fun y => y ++ "q") (by rw [List.length_map, hzl]) (fun y hy => ?_) (hB4.mono (by omega))
            · rw [List.map_map] at this ⊢
              exact this
            · obtain ⟨y', hy', rfl⟩ := List.mem_map.mp hy
              have e1 : ("q" : Str).length = 1 := by decide +kernel
              refine ⟨by rw [app_len, e1]; omega, by rw [app_len, e1, hzlen y' hy']; omega, (hzN y' hy').app fun c hc => ?_⟩
              rw [show ("q" : Str).cps.toList = [113] by decide +kernel] at hc
              rw [List.mem_singleton.mp hc]; omega
        · exact hk l4 zs hzl (fun y hy => ⟨by rw [hzlen y hy]; omega, by rw [hzlen y hy]; omega, hzN y hy⟩) (hB4.mono (by omega))
/-! texts -/
end
end K31
namespace K31
section
variable {P : Program} {w : World} {K : PySem.W.Frag} {mg : Str → Option Value} {base : Heap}
/-- files with what is told of each -/
def getM {α : Type} (m : List (Str × α)) (s : Str) : Option α := (m.find? fun e => decide (e.1 = s)).map (·.2)
def putM {α : Type} (m : List (Str × α)) (s : Str) (x : α) : List (Str × α) := if (m.any fun e => decide (e.1 = s)) = true then m.map (fun e => if e.1 = s then (e.1, x) else e) else m ++ [(s, x)]
def mkD {α : Type} (f : α → D) (m : List (Str × α)) : List (Key × D) := m.map fun e => (Sum.inr e.1, f e.2)
theorem valD_mk {α : Type} {f : α → D} (s : Str) : ∀ m : List (Str × α), valD (mkD f m) (Sum.inr s) = (getM m s).map f
  | [] => rfl
  | (t, x) :: m => by
    have ih := valD_mk (f := f) s m
    unfold valD getM mkD at *
    rw [List.map_cons, List.find?_cons, List.find?_cons]
    by_cases h : t = s
    · subst h; simp
    · have h' : ¬ ((Sum.inr t : Key) = Sum.inr s) := fun e => h (Sum.inr.inj e)
      simp only [h, h', decide_false]
      exact ih
theorem any_mk {α : Type} {f : α → D} (s : Str) : ∀ m : List (Str × α), ((mkD f m).any fun kv => decide (kv.1 = Sum.inr s)) = m.any fun e => decide (e.1 = s)
  | [] => rfl
  | (t, x) :: m => by
    have ih := any_mk (f := f) s m
    unfold mkD at *
    rw [List.map_cons, List.any_cons, List.any_cons, ih]
    congr 1
    by_cases h : t = s
    · subst h; simp
    · have h' : ¬ ((Sum.inr t : Key) = Sum.inr s) := fun e => h (Sum.inr.inj e)
      simp [h, h']
theorem putD_mk {α : Type} {f : α → D} (s : Str) (x : α) (m : List (Str × α)) : putD (mkD f m) (Sum.inr s) (f x) = mkD f (putM m s x) := by
  unfold putD putM
  rw [any_mk]
  split
  · unfold mkD
    rw [List.map_map, List.map_map]
    refine List.map_congr_left fun e _ => ?_
    by_cases h : e.1 = s
    · simp [h]
    · have h' : ¬ ((Sum.inr e.1 : Key) = Sum.inr s) := fun e' => h (Sum.inr.inj e')
      simp [h, h']
  · unfold mkD
    rw [List.map_append]
    rfl
theorem keys_mk {α : Type} {f : α → D} (m : List (Str × α)) : (mkD f m).map (·.1) = (m.map (·.1)).map Sum.inr := by
  unfold mkD
  rw [List.map_map, List.map_map]
  rfl
theorem len_mk {α : Type} {f : α → D} (m : List (Str × α)) : (mkD f m).length = m.length := by simp [mkD]
theorem keys_put {α : Type} {s : Str} {x : α} {m : List (Str × α)} : (putM m s x).map (·.1) = if s ∈ m.map (·.1) then m.map (·.1) else m.map (·.1) ++ [s] := by
  have e : (m.any fun e => decide (e.1 = s)) = decide (s ∈ m.map (·.1)) := by
    rw [Bool.eq_iff_iff, List.any_eq_true, decide_eq_true_iff, List.mem_map]
    exact ⟨fun ⟨y, h1, h2⟩ => ⟨y, h1, of_decide_eq_true h2⟩, fun ⟨y, h1, h2⟩ => ⟨y, h1, decide_eq_true h2⟩⟩
  unfold putM
  rw [e]
  by_cases h : s ∈ m.map (·.1)
  · rw [if_pos (decide_eq_true h), if_pos h, List.map_map]
    refine List.map_congr_left fun y _ => ?_
    show (if y.1 = s then (y.1, x) else y).1 = y.1
    split <;> rfl
  · rw [if_neg (by simpa using h), if_neg h, List.map_append]; rfl

/-! kinds above kinds -/
abbrev Kds := List (Str × D)
/-- what may stand there -/
structure VOk (d : D) : Prop where
  ob : Ob d
  sh : d = .non ∨ (∃ z, d = .str z) ∨ oddD d = true
structure MOk (M : Kds) : Prop where
  nd : (M.map (·.1)).Nodup
  ln : M.length ≤ 20
  ks : ∀ s ∈ M.map (·.1), Ob (.str s)
  vs : ∀ e ∈ M, VOk e.2
abbrev dicM (M : Kds) : Cell := .dic (mkD id M)
theorem getM_mem {M : Kds} {s : Str} {d : D} (h : getM M s = some d) : (s, d) ∈ M := by
  unfold getM at h
  obtain ⟨e, he, rfl⟩ := Option.map_eq_some_iff.mp h
  have h1 := List.mem_of_find?_eq_some he
  have h2 := List.find?_some he
  have h3 : e.1 = s := of_decide_eq_true h2
  rw [← h3]
  exact h1
theorem getM_of {M : Kds} (hn : (M.map (·.1)).Nodup) : ∀ {s : Str} {d : D}, (s, d) ∈ M → getM M s = some d := by
  induction M with
  | nil => intro s d h; simp at h
  | cons e M ih =>
    intro s d h
    rw [List.map_cons, List.nodup_cons] at hn
    unfold getM at ih ⊢
    rw [List.find?_cons]
    rcases List.mem_cons.mp h with h | h
    · subst h; simp
    · have : e.1 ≠ s := fun z => hn.1 (by rw [z]; exact List.mem_map_of_mem (f := (·.1)) h)
      simp only [this, decide_false]
      exact ih hn.2 h
theorem getM_key {M : Kds} {s : Str} (h : (getM M s).isSome = true) : s ∈ M.map (·.1) := by
  obtain ⟨d, hd⟩ := Option.isSome_iff_exists.mp h
  exact List.mem_map_of_mem (f := (·.1)) (getM_mem hd)
theorem key_getM {M : Kds} {s : Str} (h : s ∈ M.map (·.1)) : ∃ d, getM M s = some d := by
  obtain ⟨e, he, rfl⟩ := List.mem_map.mp h
  unfold getM
  cases hf : M.find? (fun e' => decide (e'.1 = e.1)) with
  | none => exact absurd (List.find?_eq_none.mp hf e he) (by simp)
  | some x => exact ⟨x.2, rfl⟩
theorem MOk.v {M : Kds} (h : MOk M) {s : Str} {d : D} (e : getM M s = some d) : VOk d := h.vs _ (getM_mem e)
/-- the way up; whether it comes back -/
def upF (M : Kds) : Nat → List Str → D → List D × Bool
  | 0, ks, _ => (ks.map D.str, false)
  | n + 1, ks, d => match d with
    | .non => (ks.map D.str, false)
    | .str s => if s ∈ ks then (ks.map D.str, true) else match getM M s with
      | some v => upF M n (ks ++ [s]) v
      | none => ((ks ++ [s]).map D.str, false)
    | d => (ks.map D.str ++ [d], false)
def upW (M : Kds) (s : Str) : List D × Bool := upF M (M.length + 2) [] (.str s)
/-- on the way -/
def Run (M : Kds) (R : List D × Bool) (m : Nat) (fs : List D) (d : D) : Prop := (d = .non ∧ R = (fs, false)) ∨ ∃ ks, fs = ks.map D.str ∧ ks.Nodup ∧ (∀ s ∈ ks, s ∈ M.map (·.1)) ∧ m + ks.length = M.length + 2 ∧ VOk d ∧ upF M m ks d = R
theorem nodup_le : ∀ {ks ls : List Str}, ks.Nodup → (∀ s ∈ ks, s ∈ ls) → ks.length ≤ ls.length
  | [], _, _, _ => Nat.zero_le _
  | k :: ks, ls, h, hs => by
    rw [List.nodup_cons] at h
    have hk := hs k List.mem_cons_self
    have ih := nodup_le (ks := ks) (ls := ls.erase k) h.2 fun s hm => (List.mem_erase_of_ne fun e => h.1 (by rw [← e]; exact hm)).mpr (hs s (List.mem_cons_of_mem _ hm))
    rw [List.length_erase_of_mem hk] at ih
    have : 0 < ls.length := List.length_pos_of_mem hk
    rw [List.length_cons]
    omega
theorem Run.start {M : Kds} {s : Str} (h : Ob (.str s)) : Run M (upW M s) (M.length + 2) [] (.str s) := .inr ⟨[], rfl, .nil, fun _ h => by simp at h, rfl, ⟨h, .inr (.inl ⟨s, rfl⟩)⟩, rfl⟩
theorem Run.two {M : Kds} {R : List D × Bool} {m : Nat} {fs : List D} {d : D} (h : Run M R m fs d) (hn : d ≠ .non) : ∃ m' ks, m = m' + 2 ∧ fs = ks.map D.str ∧ ks.Nodup ∧ (∀ s ∈ ks, s ∈ M.map (·.1)) ∧ m' + ks.length = M.length ∧ VOk d ∧ upF M m ks d = R := by
  rcases h with ⟨e, _⟩ | ⟨ks, h1, h2, h3, h4, h5, h6⟩
  · exact absurd e hn
  · have := nodup_le h2 h3
    rw [List.length_map] at this
    exact ⟨m - 2, ks, by omega, h1, h2, h3, by omega, h5, h6⟩
/-- the object behind, by get -/
def nxt (M : Kds) (d : D) : D := match d with
  | .str s => (getM M s).getD .non
  | _ => .non
def strIn (x : D) (ks : List Str) : Bool := match x with
  | .str s => decide (s ∈ ks)
  | _ => false
theorem step_true {M : Kds} {m : Nat} {ks : List Str} {d : D} {R : List D × Bool} (hb : strIn d ks = true) (hup : upF M (m + 1) ks d = R) : R = (ks.map D.str, true) := by
  cases d <;> simp [strIn] at hb
  rw [← hup]
  simp [upF, hb]
theorem step_false {M : Kds} (hM : MOk M) {m : Nat} {ks : List Str} {d : D} {R : List D × Bool} (hv : VOk d) (hdn : d ≠ .non) (hb : strIn d ks = false) (hnd : ks.Nodup) (hks : ∀ s ∈ ks, s ∈ M.map (·.1)) (hl : m + ks.length = M.length) (hup : upF M (m + 2) ks d = R) : Run M R (m + 1) (ks.map D.str ++ [d]) (nxt M d) := by
  rcases hv.sh with rfl | ⟨s, rfl⟩ | ho
  · exact absurd rfl hdn
  · have hs : s ∉ ks := by simpa [strIn] using hb
    cases hg : getM M s with
    | none =>
      refine .inl ⟨by simp [nxt, hg], ?_⟩
      rw [← hup]
      simp [upF, hs, hg]
    | some v =>
      have e : nxt M (.str s) = v := by simp [nxt, hg]
      rw [e]
      refine .inr ⟨ks ++ [s], by rw [List.map_append]; rfl, ?_, ?_, ?_, hM.v hg, ?_⟩
      · rw [List.nodup_append]
        exact ⟨hnd, by simp, fun a ha b hb e => hs (by rw [List.mem_singleton] at hb; rw [← hb, ← e]; exact ha)⟩
      · intro t ht
        rcases List.mem_append.mp ht with ht | ht
        · exact hks t ht
        · rw [List.mem_singleton.mp ht]; exact getM_key (by rw [hg]; rfl)
      · rw [List.length_append, List.length_singleton]; omega
      · rw [← hup]
        show upF M (m + 1) (ks ++ [s]) v = upF M (m + 2) ks (.str s)
        simp [upF, hs, hg]
  · refine .inl ⟨?_, ?_⟩
    · cases d <;> simp [oddD] at ho <;> rfl
    · rw [← hup]
      cases d <;> simp [oddD] at ho <;> rfl
/-- x in a list of texts, whatever x is -/
theorem eqv_odd {d : D} (h : oddD d = true) (z : Str) : PyData.eqv (.str z) d.py = false := by
  cases d <;> simp [oddD] at h <;> rfl
theorem obs_fit {ks : List Str} (h : ∀ s ∈ ks, Ob (.str s)) : ∀ d ∈ ks.map D.str, d.fit 60 = true := fun d hd => by
  obtain ⟨s, hs, rfl⟩ := List.mem_map.mp hd
  obtain ⟨n, hn, hf⟩ := (h s hs).ex
  exact fit_mono _ hf hn
theorem in_own {C : CS} {k : KD} {q : Addr} {ks : List Str} {x : D} {neg : Bool} (hq : C q = some (.lst (ks.map D.str))) (hks : ∀ s ∈ ks, Ob (.str s)) (hx : VOk x) (hn : x ≠ .non) (h : k (.bl (if neg = true then !strIn x ks else strIn x ks)) C) : dIn neg x (.own q) C k := by
  obtain ⟨n, hn6, hf⟩ := hx.ob.ex
  have hok := fit_ok hf (by omega)
  unfold D.ok at hok
  rw [Bool.and_eq_true] at hok
  have hfk := obs_fit hks
  refine (show dInL neg x (.own q) C k from ⟨x.py, pyL (ks.map D.str), ?_, pyC_own hq hfk, hok.2, shaped_lst hfk (by decide), ?_⟩)
  · unfold pyC
    split
    · exact absurd hok.1 (by simp [D.isPy])
    · exact if_pos hok.1
  · have e : ((pyL (ks.map D.str)).any fun z => PyData.eqv z x.py) = strIn x ks := by
      rw [pyL_strs]
      rcases hx.sh with rfl | ⟨s, rfl⟩ | ho
      · exact absurd rfl hn
      · exact any_strs s ks
      · have : ((ks.map PyData.str).any fun z => PyData.eqv z x.py) = false := by
          rw [List.any_eq_false]
          intro z hz
          obtain ⟨s, _, rfl⟩ := List.mem_map.mp hz
          rw [eqv_odd ho s]
          simp
        rw [this]
        cases x <;> first | rfl | (simp [oddD] at ho; done)
    rw [e]
    exact h
end
end K31
namespace K31
section
variable {P : Program} {w : World} {K : PySem.W.Frag} {mg : Str → Option Value} {base : Heap}
theorem key_map {M : Kds} (s : Str) : valD (mkD id M) (Sum.inr s) = getM M s := by rw [valD_mk]; cases getM M s <;> rfl
theorem keys_txt {M : Kds} : ∀ kv ∈ mkD id M, ∃ x, kv.1 = Sum.inr x := fun kv h => by
  obtain ⟨e, _, rfl⟩ := List.mem_map.mp h
  exact ⟨_, rfl⟩
/-- above.get(one) -/
theorem get_one {j : Nat} {X : Cx} {o a : Expr} {env : DEnv} {C : CS} {k : KD} {apos cpos : Pos} {p : Addr} {M : Kds} {y : D} (hx : DL.Ctx P w K mg base j X) (hp : C p = some (dicM M)) (ho : ∀ {kk : KD}, kk (.own p) C → DL.WE X o env C kk) (ha : ∀ {kk : KD}, kk y C → DL.WE X a env C kk) (hy : VOk y) (hn : y ≠ .non)
    (h : k (nxt M y) C) (m : M1 X o "get" apos a cpos) : DL.WE X (.Call (.Attribute o "get" apos) [a] [] cpos) env C k := by
  rcases hy.sh with rfl | ⟨s, rfl⟩ | hod
  · exact absurd rfl hn
  · refine x_dget1 hx (ho ⟨p, _, rfl, hp, ha ⟨_, Sum.inr s, rfl, hp, ?_⟩⟩) m
    rw [key_map]
    exact h
  · refine x_dget1O hx (ho ⟨p, _, rfl, hp, ha ⟨_, hp, keys_txt, hod, ?_⟩⟩) m
    cases y <;> first | exact h | (simp [oddD] at hod; done)
def spUp : DSp := fun ds C k => ∃ a M s, ds = [.own a, .str s] ∧ C a = some (dicM M) ∧ MOk M ∧ Ob (.str s) ∧ k (.tup [.lst (upW M s).1, .bl (upW M s).2]) C
theorem ok_up {f : Addr} {fd : FuncData} (F : Fun K "_law_up" "_law_up" s_up f fd) (Z : Zs mg) : FnG P w K mg base CX0 1 f fd P_up (toSp K spUp) := by
  refine fnX F sc_up v_up l_up g_up (fun ds C k h => by obtain ⟨_, _, _, rfl, _⟩ := h; rfl) fun X hB ds C k h => ?_
  obtain ⟨a, M, s, rfl, ha, hM, hs, h⟩ := h
  obtain ⟨hx, hn, hsx, hg, hd, hnox⟩ := hB
  change WSs X _ [some (.own a), some (.str s), none, none] C _
  refine wss_consH ?_
  walk_at "pyC"
  refine we_lst ?_
  walk_at "pyC"
  intro q hq
  walk_at "pyC"
  have haq : a ≠ q := cell_ne ha hq
  obtain ⟨R, hR⟩ : ∃ R, R = upW M s := ⟨_, rfl⟩
  rw [← hR] at h
  refine wsh_go (wss_consH ?_)
  refine x_while hnox (fun m env C' => ∃ fs d, C' = DL.put C q (.lst fs) ∧ env = [some (.own a), some (.str s), some (.own q), some d] ∧ Run M R m fs d) ⟨_, [], .str s, rfl, rfl, by rw [hR]; exact Run.start hs⟩ ?_
  rintro m env C' ⟨fs, d, rfl, rfl, hRun⟩
  have ha' : DL.put C q (.lst fs) a = some (dicM M) := by rw [put_ne haq]; exact ha
  by_cases hdn : d = .non
  · subst hdn
    have hRf : R = (fs, false) := by
      rcases hRun with ⟨_, h⟩ | ⟨ks, h1, _, _, _, _, h6⟩
      · exact h
      · rw [← h6, h1]
        cases m <;> rfl
    walk_at "pyC"
    all_goals try walk_at "bad"
    refine wsh_go ?_
    refine wss_frzI 2 rfl put_same ?_
    rw [del_put hq]
    simp only [List.set_cons_succ, List.set_cons_zero]
    walk_at "pyC"
    rw [hRf] at h
    exact h
  · obtain ⟨m', ks, hm, rfl, hnd, hks, hml, hv, hup⟩ := hRun.two hdn
    have hkd := hv.ob.kind
    have hin : d.isNon = false := by
      cases d <;> first | rfl | exact absurd rfl hdn
    have hno : ∀ s ∈ ks, Ob (.str s) := fun s hs => hM.ks s (hks s hs)
    walk_at "pyC"
    all_goals try walk_at "bad"
    · refine .inl (in_own put_same hno hv hdn ?_)
      subst hm
      have hgl : (ks.map D.str).length < sizeLine := by rw [List.length_map]; exact Nat.lt_of_lt_of_le (by have := hM.ln; omega : ks.length < 100) (by decide)
      cases hb : strIn d ks with
      | true =>
        walk_at "pyC"
        all_goals try walk_at "bad"
        refine wsh_go ?_
        refine wss_frzI 2 rfl put_same ?_
        rw [del_put hq]
        simp only [List.set_cons_succ, List.set_cons_zero]
        walk_at "pyC"
        have e := step_true hb hup
        rw [e] at h
        rw [hin]
        exact h
      | false =>
        have hnx := step_false hM hv hdn hb hnd hks hml hup
        walk_at "pyC"
        all_goals try walk_at "bad"
        refine app_ok put_same hgl ?_
        rw [put_put]
        walk_at "pyC"
        refine get_one (M := M) (y := d) hx (by rw [put_ne haq]; exact ha) (fun {kk} hk => by walk_at "pyC"; exact hk) (fun {kk} hk => by walk_at "pyC"; exact hk) hv hdn ?_ ⟨rfl, rfl, rfl, rfl⟩
        walk_at "pyC"
        exact ⟨m' + 1, by omega, _, _, rfl, rfl, hnx⟩
    · rename_i q1
      simp [hin] at q1
/-! comes_back -/
def spBack : DSp := fun ds C k => ∃ a M s, ds = [.str s, .own a] ∧ C a = some (dicM M) ∧ MOk M ∧ Ob (.str s) ∧ k (.bl (upW M s).2) C
theorem ok_back {f : Addr} {fd : FuncData} (F : Fun K "comes_back" "comes_back" s_comes_back f fd) (Z : Zs mg) : FnG P w K mg base CX0 1 f fd P_comes_back (toSp K spBack) := by
  refine fnS F sc_comes_back v_comes_back l_comes_back g_comes_back (fun ds C k h => by obtain ⟨_, _, _, rfl, _⟩ := h; rfl) fun X hB ds C k h => ?_
  obtain ⟨a, M, s, rfl, ha, hM, hs, h⟩ := h
  obtain ⟨hx, hn, hsx, hg, hd, hnox⟩ := hB
  change WSs X _ [some (.str s), some (.own a), none, none] C _
  refine wss_consH ?_
  walk_at "pyC"
  refine we_lst ?_
  walk_at "pyC"
  intro q hq
  walk_at "pyC"
  have haq : a ≠ q := cell_ne ha hq
  obtain ⟨R, hR⟩ : ∃ R, R = upW M s := ⟨_, rfl⟩
  rw [← hR] at h
  have sub : ∀ fs, Sub C (DL.put C q (.lst fs)) := fun fs x c hc => by rw [put_ne (cell_ne hc hq)]; exact hc
  refine wsh_go (wss_consH ?_)
  refine x_while hnox (fun m env C' => ∃ fs d, C' = DL.put C q (.lst fs) ∧ env = [some (.str s), some (.own a), some (.own q), some d] ∧ Run M R m fs d) ⟨_, [], .str s, rfl, rfl, by rw [hR]; exact Run.start hs⟩ ?_
  rintro m env C' ⟨fs, d, rfl, rfl, hRun⟩
  have ha' : DL.put C q (.lst fs) a = some (dicM M) := by rw [put_ne haq]; exact ha
  by_cases hdn : d = .non
  · subst hdn
    have hRf : R = (fs, false) := by
      rcases hRun with ⟨_, h⟩ | ⟨ks, h1, _, _, _, _, h6⟩
      · exact h
      · rw [← h6, h1]
        cases m <;> rfl
    walk_at "pyC"
    all_goals try walk_at "bad"
    refine wsh_go ?_
    walk_at "pyC"
    rw [hRf] at h
    exact ⟨C, sub fs, h⟩
  · obtain ⟨m', ks, hm, rfl, hnd, hks, hml, hv, hup⟩ := hRun.two hdn
    have hkd := hv.ob.kind
    have hin : d.isNon = false := by
      cases d <;> first | rfl | exact absurd rfl hdn
    have hno : ∀ s ∈ ks, Ob (.str s) := fun s hs => hM.ks s (hks s hs)
    walk_at "pyC"
    all_goals try walk_at "bad"
    · refine .inl (in_own put_same hno hv hdn ?_)
      subst hm
      have hgl : (ks.map D.str).length < sizeLine := by rw [List.length_map]; exact Nat.lt_of_lt_of_le (by have := hM.ln; omega : ks.length < 100) (by decide)
      cases hb : strIn d ks with
      | true =>
        walk_at "pyC"
        all_goals try walk_at "bad"
        have e := step_true hb hup
        rw [e] at h
        exact ⟨C, sub _, h⟩
      | false =>
        have hnx := step_false hM hv hdn hb hnd hks hml hup
        walk_at "pyC"
        all_goals try walk_at "bad"
        refine app_ok put_same hgl ?_
        rw [put_put]
        walk_at "pyC"
        refine get_one (M := M) (y := d) hx (by rw [put_ne haq]; exact ha) (fun {kk} hk => by walk_at "pyC"; exact hk) (fun {kk} hk => by walk_at "pyC"; exact hk) hv hdn ?_ ⟨rfl, rfl, rfl, rfl⟩
        walk_at "pyC"
        exact ⟨m' + 1, by omega, _, _, rfl, rfl, hnx⟩
    · rename_i q1
      simp [hin] at q1
end
end K31
namespace K31
section
variable {P : Program} {w : World} {K : PySem.W.Frag} {mg : Str → Option Value} {base : Heap} {Cl Ce : Addr}
open PyProof.Rows in
theorem rising_pair : ∀ (l : List Str) (p : Str), risingS p l = true → (∀ x ∈ l, ¬ x.cps.toList < p.cps.toList) ∧ l.Pairwise fun a b => ¬ b.cps.toList < a.cps.toList
  | [], _, _ => ⟨fun _ h => by simp at h, .nil⟩
  | x :: r, p, h => by
    unfold risingS at h
    rw [Bool.and_eq_true] at h
    obtain ⟨h1, h2⟩ := h
    rw [Bool.not_eq_true', PyProof.Rows.ltCps_eq] at h1
    have h1 := of_decide_eq_false h1
    obtain ⟨g1, g2⟩ := rising_pair r x h2
    refine ⟨fun y hy => ?_, List.Pairwise.cons g1 g2⟩
    rcases List.mem_cons.mp hy with rfl | hy
    · exact h1
    · exact List.le_trans (show p.cps.toList ≤ x.cps.toList from h1) (show x.cps.toList ≤ y.cps.toList from g1 y hy)
open PyProof.Rows in
theorem sorted_pair {l : List Str} (h : sortedS l = true) : l.Pairwise fun a b => ¬ b.cps.toList < a.cps.toList := by
  cases l with
  | nil => exact .nil
  | cons x r =>
    obtain ⟨g1, g2⟩ := rising_pair r x h
    exact .cons g1 g2
open PyProof.Rows in
theorem sorted_uniq {l m ks : List Str} (h1 : l.Perm ks) (h2 : m.Perm ks) (s1 : sortedS l = true) (s2 : sortedS m = true) : l = m := by
  refine List.Perm.eq_of_pairwise (le := fun a b : Str => ¬ b.cps.toList < a.cps.toList) (fun a b _ _ x y => ?_) (sorted_pair s1) (sorted_pair s2) (h1.trans h2.symm)
  have : a.cps.toList = b.cps.toList := List.le_antisymm x y
  cases a; cases b; simp at this; rw [this]

/-- a smaller table of cells is enough for what is raised -/
theorem thr_sub {X : Cx} {A : Anc} {kx : DEnv → KX} (T : Thr X A kx) : Thr X A fun env cls fs C' => ∃ C1, (∀ a c, C1 a = some c → C' a = some c) ∧ kx env cls fs C1 := by
  obtain ⟨W, tk, h⟩ := T
  refine ⟨W, tk, fun cls fs od σ env G' C' H' fr w' er ex hk => ?_⟩
  obtain ⟨C1, hs, hk⟩ := hk
  obtain ⟨w1, f1⟩ := w'.sub hs
  exact h cls fs od σ env G' C1 H' (fr.trans f1) w1 er (ex.fr f1) hk
theorem wssA_sub {X : Cx} {A : Anc} {sts : List Stmt} {env : DEnv} {C C1 : CS} {E : DEnds} (hs : ∀ a c, C1 a = some c → C a = some c) (h : WSsA X A sts env C1 E) : WSsA X A sts env C E := by
  intro G σ H D w er fr q
  obtain ⟨w1, f1⟩ := w.sub hs
  exact h G σ H D w1 er (fr.trans f1) (q.after f1)
/-! kinds looked at -/
def vrB (d : D) : Bool := d.isNon || isNm d
def wrgB (M : Kds) (s : Str) : Bool := !isNm (.str s) || !vrB ((getM M s).getD .non)
def dueL (M : Kds) (ys : List Str) : Option Str := match ys.find? (wrgB M) with
  | some s => some s
  | none => ys.find? fun s => (upW M s).2
structure Due (M : Kds) (B : Option Str) : Prop where
  all : ∀ ys : List Str, ys.Perm (M.map (·.1)) → PyProof.Rows.sortedS ys = true → dueL M ys = B
theorem due_of {M : Kds} {ys : List Str} (h : ys.Perm (M.map (·.1))) (hs : PyProof.Rows.sortedS ys = true) : Due M (dueL M ys) := ⟨fun zs h1 h2 => by rw [sorted_uniq h1 h h2 hs]⟩
theorem find_drop {α : Type} {p : α → Bool} : ∀ {l : List α} {i : Nat} {x : α}, l[i]? = some x → (l.drop i).find? p = if p x = true then some x else (l.drop (i + 1)).find? p := by
  intro l i x h
  have hi := (List.getElem?_eq_some_iff.mp h).1
  have e : l.drop i = x :: l.drop (i + 1) := by
    rw [List.drop_eq_getElem_cons hi]
    congr 1
    exact (List.getElem?_eq_some_iff.mp h).2
  rw [e, List.find?_cons]
  cases p x <;> rfl
def spLookK (Ce : Addr) : DSpX := fun ds C k kx => ∃ a M B, ds = [.own a] ∧ C a = some (dicM M) ∧ MOk M ∧ Due M B ∧ (B = none → k .non C) ∧ ∀ s, B = some s → kx (.ref Ce) [("kind", .str s)] C
theorem ok_lookKinds {f : Addr} {fd : FuncData} (n : Nat) (hn9 : n ≤ 1) (F : Fun K "look_kinds" "look_kinds" s_look_kinds f fd) (Z : Zs mg) (h1 : FnC P w K mg base "is_name" 1 spIsNm) (h2 : FnC P w K mg base "comes_back" 1 spBack) (hX : XMk P w K mg base "BadKinds" Ce "kind" n) : FnG P w K mg base (L2.CX P w) 4 f fd P_look_kinds (toSpX K (spLookK Ce)) := by
  refine fnXP F sc_look_kinds v_look_kinds l_look_kinds g_look_kinds (fun ds C k kx h => by obtain ⟨_, _, _, rfl, _⟩ := h; rfl) fun X A hB ds k kx h hT => ?_
  obtain ⟨a, M, B, rfl, ha, hM, hDue, hgood, hbad⟩ := h
  obtain ⟨hxX, hBn, hpo⟩ := hB
  obtain ⟨hx, hn, hs, hg, hd, hnox⟩ := hBn
  have hnX := hn.ofnox
  have hsX := hs.ofnox
  have hgX := hg.ofnox
  change WSsA X A _ [some (.own a), none] A.C _
  have hl64 : (M.map (·.1)).length < 64 := by rw [List.length_map]; have := hM.ln; omega
  have sub : ∀ (C' : CS), (∀ x c, A.C x = some c → C' x = some c) → ∀ s, B = some s → ∃ C1, (∀ x c, C1 x = some c → C' x = some c) ∧ kx (.ref Ce) [("kind", .str s)] C1 := fun C' h s hs => ⟨A.C, h, hbad s hs⟩
  refine wssA_cons ?_
  refine wsA_for hpo hxX.calm ?_
  refine wi_ls ?_
  refine x_sortedK hxX Z (Gls.at hgX (by walk_at "nm")) ?_
  walk_at "pyC"
  refine ⟨a, _, M.map (·.1), rfl, ha, keys_mk M, hl64, fun ys q hp1 hs1 hq => ?_⟩
  have hB := hDue.all ys hp1 hs1
  have hq1 : DL.put A.C q (.lst (ys.map D.str)) q = some (.lst (ys.map D.str)) := put_same
  have hsub : ∀ x c, A.C x = some c → DL.put A.C q (.lst (ys.map D.str)) x = some c := fun x c hc => by rw [put_ne (cell_ne hc hq)]; exact hc
  generalize DL.put A.C q (.lst (ys.map D.str)) = C1 at hq1 hsub ⊢
  clear hq
  have ha1 := hsub _ _ ha
  have hkey : ∀ (i : Nat) (d : D), (ys.map D.str)[i]? = some d → ∃ s, d = .str s ∧ ys[i]? = some s ∧ Ob (.str s) ∧ ∃ v, getM M s = some v ∧ VOk v := fun i d hi => by
    rw [List.getElem?_map] at hi
    obtain ⟨s, h1, rfl⟩ := Option.map_eq_some_iff.mp hi
    have hm : s ∈ M.map (·.1) := hp1.mem_iff.mp (List.mem_of_getElem? h1)
    obtain ⟨v, hv⟩ := key_getM hm
    exact ⟨s, rfl, h1, hM.ks s hm, v, hv, hM.v hv⟩
  refine ⟨_, seqR_own hq1, fun i env C' => C' = C1 ∧ ((ys.drop i).find? (wrgB M) = ys.find? (wrgB M)) ∧ ∃ o, env = [some (.own a), o], ⟨rfl, rfl, _, rfl⟩, fun i env C' h z hz => by cases hz; rw [h.1]; exact hq1, ?_, ?_⟩
  · rintro i d env C' hi ⟨rfl, hf, o, rfl⟩
    obtain ⟨s, rfl, hsi, hOs, v, hv, hvo⟩ := hkey i d hi
    rw [find_drop hsi] at hf
    have hvk := hvo.ob.kind
    refine wg_nm hsX (by walk_at "nm") (by walk_at "nm") ?_
    have hstop : wrgB M s = true → B = some s := fun hw => by
      rw [if_pos hw] at hf
      rw [← hB]
      unfold dueL
      rw [← hf]
    have hgo : wrgB M s = false → (ys.drop (i + 1)).find? (wrgB M) = ys.find? (wrgB M) := fun hw => by
      rw [if_neg (by rw [hw]; decide)] at hf
      exact hf
    have hwr : wrgB M s = (!isNm (.str s) || !vrB v) := by unfold wrgB; rw [hv]; rfl
    refine wssA_cons (wsA_if ?_)
    walk_at "pyC"
    refine ⟨.str s, rfl, hOs, ?_⟩
    have hgetv : valD (mkD id M) (Sum.inr s) = some v := by rw [key_map]; exact hv
    cases hn1 : isNm (.str s) with
    | false =>
      rw [hn1] at hwr
      have hbs := hstop (by rw [hwr]; rfl)
      walk_at "pyC"
      all_goals try walk_at "bad"
      refine wssA_cons (wsA_raise1 hxX hX (thr_sub hT) (Gls.at hgX (by walk_at "nm")) ?_ (by omega))
      walk_at "pyC"
      exact sub C' hsub s hbs
    | true =>
      rw [hn1] at hwr
      walk_at "pyC"
      all_goals try walk_at "bad"
      · rename_i q1
        have hvn : v.isNon = false := by simpa using q1
        refine ⟨v, rfl, hvo.ob, ?_⟩
        cases hn2 : isNm v with
        | false =>
          have hbs := hstop (by rw [hwr]; unfold vrB; rw [hvn, hn2]; rfl)
          walk_at "pyC"
          all_goals try walk_at "bad"
          refine wssA_cons (wsA_raise1 hxX hX (thr_sub hT) (Gls.at hgX (by walk_at "nm")) ?_ (by omega))
          walk_at "pyC"
          exact sub C' hsub s hbs
        | true =>
          have hg2 := hgo (by rw [hwr]; unfold vrB; rw [hn2, Bool.or_true]; rfl)
          walk_at "pyC"
          all_goals try walk_at "bad"
          exact wssA_nil (wssA_nil ⟨rfl, hg2, _, rfl⟩)
      · rename_i q1
        have hvn : v.isNon = true := by simpa using q1
        have hg2 := hgo (by rw [hwr]; unfold vrB; rw [hvn]; rfl)
        exact wssA_nil (wssA_nil ⟨rfl, hg2, _, rfl⟩)
  · rintro env' C' ⟨rfl, hf, o, rfl⟩
    rw [List.length_map, List.drop_length] at hf
    have hno : ys.find? (wrgB M) = none := hf.symm
    have hB2 : B = ys.find? fun s => (upW M s).2 := by
      rw [← hB]
      unfold dueL
      rw [hno]
    refine wssA_cons ?_
    refine wsA_for hpo hxX.calm ?_
    refine wi_ls ?_
    refine x_sortedK hxX Z (Gls.at hgX (by walk_at "nm")) ?_
    walk_at "pyC"
    refine ⟨a, _, M.map (·.1), rfl, ha1, keys_mk M, hl64, fun ys' q2 hp2 hs2 hq2 => ?_⟩
    have ey : ys' = ys := sorted_uniq hp2 hp1 hs2 hs1
    subst ey
    have hq3 : DL.put C' q2 (.lst (ys'.map D.str)) q2 = some (.lst (ys'.map D.str)) := put_same
    have hsub2 : ∀ x c, A.C x = some c → DL.put C' q2 (.lst (ys'.map D.str)) x = some c := fun x c hc => by rw [put_ne (cell_ne (hsub x c hc) hq2)]; exact hsub x c hc
    generalize DL.put C' q2 (.lst (ys'.map D.str)) = C2 at hq3 hsub2 ⊢
    clear hq2
    have ha2 := hsub2 _ _ ha
    refine ⟨_, seqR_own hq3, fun i env C' => C' = C2 ∧ (((ys'.drop i).find? fun s => (upW M s).2) = ys'.find? fun s => (upW M s).2) ∧ ∃ o, env = [some (.own a), o], ⟨rfl, rfl, _, rfl⟩, fun i env C' h z hz => by cases hz; rw [h.1]; exact hq3, ?_, ?_⟩
    · rintro i d env C' hi ⟨rfl, hf2, o, rfl⟩
      obtain ⟨s, rfl, hsi, hOs, v, hv, hvo⟩ := hkey i d hi
      rw [find_drop hsi] at hf2
      refine wg_nm hsX (by walk_at "nm") (by walk_at "nm") ?_
      refine wssA_cons (wsA_if ?_)
      walk_at "pyC"
      refine ⟨a, M, s, rfl, ha2, hM, hOs, ?_⟩
      cases hu : (upW M s).2 with
      | true =>
        rw [if_pos hu] at hf2
        have hbs : B = some s := by rw [hB2, ← hf2]
        walk_at "pyC"
        all_goals try walk_at "bad"
        refine wssA_cons (wsA_raise1 hxX hX (thr_sub hT) (Gls.at hgX (by walk_at "nm")) ?_ (by omega))
        walk_at "pyC"
        exact sub _ hsub2 s hbs
      | false =>
        rw [if_neg (by rw [hu]; decide)] at hf2
        walk_at "pyC"
        all_goals try walk_at "bad"
        exact wssA_nil (wssA_nil ⟨rfl, hf2, _, rfl⟩)
    · rintro env' C' ⟨rfl, hf2, o, rfl⟩
      rw [List.length_map, List.drop_length] at hf2
      have hBn : B = none := by rw [hB2, ← hf2]; rfl
      refine wssA_sub hsub2 (wssA_nil ?_)
      exact hgood hBn
end
end K31
namespace K31
section
variable {P : Program} {w : World} {K : PySem.W.Frag} {mg : Str → Option Value} {base : Heap} {Cl Ce : Addr}
/-! programs without files -/
structure Pgc (K : PySem.W.Frag) (Cl : Addr) : Prop where
  f1 : FldC K Cl "above"
  f2 : FldC K Cl "kept"
  f3 : FldC K Cl "defined"
abbrev pgK : List Str := ["above", "kept", "defined"]
structure Pg (Cl p a b d : Addr) (M : Kds) (C : CS) : Prop where
  ins : C p = some (.ins Cl pgK [.own a, .own b, .own d])
  ha : C a = some (dicM M)
  hb : C b = some (.dic [])
  hd : C d = some (.dic [])
theorem Pg.up {p a b d : Addr} {M : Kds} {C C' : CS} (h : Pg Cl p a b d M C) (hs : ∀ x c, C x = some c → C' x = some c) : Pg Cl p a b d M C' := ⟨hs _ _ h.ins, hs _ _ h.ha, hs _ _ h.hb, hs _ _ h.hd⟩
theorem sub_new {C : CS} {q : Addr} {c : Cell} (h : C q = none) : ∀ x z, C x = some z → DL.put C q c x = some z := fun x z hx => by rw [put_ne (cell_ne hx h)]; exact hx
def spLookF : DSp := fun ds C k => ∃ f, ds = [.own f] ∧ C f = some (.dic []) ∧ k .non C
theorem ok_lookFiles {f : Addr} {fd : FuncData} (F : Fun K "look_files" "look_files" s_look_files f fd) (Z : Zs mg) : FnG P w K mg base CX0 1 f fd P_look_files (toSp K spLookF) := by
  refine fnS F sc_look_files v_look_files l_look_files g_look_files (fun ds C k h => by obtain ⟨_, rfl, _⟩ := h; rfl) fun X hB ds C k h => ?_
  obtain ⟨a, rfl, ha, h⟩ := h
  obtain ⟨hx, hn, hsx, hg, hd, hnox⟩ := hB
  change WSs X _ [some (.own a), none] C _
  refine wss_consH ?_
  refine x_for hx hnox (wi_ls ?_)
  walk_at "pyC"
  refine ⟨a, [], [], rfl, ha, rfl, by decide, fun ys q hp hs hq => ?_⟩
  obtain rfl : ys = [] := hp.eq_nil
  refine ⟨_, seqR_own put_same, fun i env C' => C' = DL.put C q (.lst []) ∧ ∃ o, env = [some (.own a), o], ⟨rfl, _, rfl⟩, fun i env C' h z hz => by cases hz; rw [h.1]; exact put_same, ?_, ?_⟩
  · rintro i d env C' hi
    simp at hi
  · rintro env C' ⟨rfl, o, rfl⟩
    refine wsh_go ?_
    walk_at "pyC"
    exact ⟨C, sub_new hq, h⟩
def spLookC (Cl : Addr) : DSp := fun ds C k => ∃ p a b d M, ds = [.own p] ∧ Pg Cl p a b d M C ∧ k .non C
theorem ok_lookCalls {f : Addr} {fd : FuncData} (F : Fun K "look_calls" "Program.look_calls" s_Program_look_calls f fd) (T : Pgc K Cl) (Z : Zs mg) : FnG P w K mg base CX0 1 f fd P_Program_look_calls (toSp K (spLookC Cl)) := by
  refine fnS F sc_Program_look_calls v_Program_look_calls l_Program_look_calls g_Program_look_calls (fun ds C k h => by obtain ⟨_, _, _, _, _, rfl, _⟩ := h; rfl) fun X hB ds C k h => ?_
  obtain ⟨p, a, b, d, M, rfl, hP, h⟩ := h
  obtain ⟨hx, hn, hsx, hg, hd, hnox⟩ := hB
  have tf3 := T.f3
  change WSs X _ [some (.own p), none, none, none, none, none, none] C _
  refine wss_consH ?_
  walk_at "pyC"
  refine we_lst ?_
  walk_at "pyC"
  intro q hq
  have hP1 := hP.up (sub_new (c := .lst []) hq)
  have hq1 : DL.put C q (.lst []) q = some (.lst []) := put_same
  have hs1 := sub_new (c := .lst []) hq
  generalize DL.put C q (.lst []) = C1 at hP1 hq1 hs1 ⊢
  clear hP hq
  walk_at "pyC"
  refine wsh_go (wss_consH ?_)
  refine x_for hx hnox (wi_ls ?_)
  walk_at "pyC"
  refine ⟨Cl, pgK, _, .own d, insD_own hP1.ins, T.f3, .there (by decide +kernel) (.there (by decide +kernel) (.here _ _ _ _)), ?_⟩
  walk_at "pyC"
  refine ⟨d, [], [], rfl, hP1.hd, rfl, by decide, fun ys q2 hp hs hq2 => ?_⟩
  obtain rfl : ys = [] := hp.eq_nil
  have hs2 := sub_new (c := .lst (([] : List Str).map D.str)) hq2
  refine ⟨_, seqR_own put_same, fun i env C' => C' = DL.put C1 q2 (.lst []) ∧ ∃ o2 o3 o4 o5 o6, env = [some (.own p), some (.own q), o2, o3, o4, o5, o6], ⟨rfl, _, _, _, _, _, rfl⟩, fun i env C' h z hz => by cases hz; rw [h.1]; exact put_same, ?_, ?_⟩
  · rintro i d env C' hi
    simp at hi
  · rintro env C' ⟨rfl, o2, o3, o4, o5, o6, rfl⟩
    have hq3 : DL.put C1 q2 (.lst []) q = some (.lst []) := hs2 _ _ hq1
    have hs3 : ∀ x c, C x = some c → DL.put C1 q2 (.lst []) x = some c := fun x c hc => hs2 _ _ (hs1 _ _ hc)
    generalize DL.put C1 q2 (.lst []) = C2 at hq3 hs3 ⊢
    refine wsh_go (wss_consH ?_)
    walk_at "pyC"
    refine we_lstF ?_
    walk_at "pyC"
    refine ne_ol (n := 0) (m := 0) (ys := []) hq3 (fun _ h => by simp at h) (fun _ h => by simp at h) (by decide) (by decide) ?_
    walk_at "pyC"
    all_goals try walk_at "bad"
    refine wsh_go (wss_nil ?_)
    exact ⟨C, hs3, h⟩
def spLookS (Cl : Addr) : DSp := fun ds C k => ∃ p a b d M, ds = [.own p] ∧ Pg Cl p a b d M C ∧ k .non C
theorem ok_lookSize {f : Addr} {fd : FuncData} (F : Fun K "look_size" "Program.look_size" s_Program_look_size f fd) (T : Pgc K Cl) (Z : Zs mg) (g1 : MgK K mg "MOST_FILES" (.int 4)) (g2 : MgK K mg "MOST_FUNCTIONS" (.int 8)) (g3 : MgK K mg "MOST_LINES" (.int 120)) : FnG P w K mg base CX0 1 f fd P_Program_look_size (toSp K (spLookS Cl)) := by
  refine fnS F sc_Program_look_size v_Program_look_size l_Program_look_size g_Program_look_size (fun ds C k h => by obtain ⟨_, _, _, _, _, rfl, _⟩ := h; rfl) fun X hB ds C k h => ?_
  obtain ⟨p, a, b, d, M, rfl, hP, h⟩ := h
  obtain ⟨hx, hn, hsx, hg, hd, hnox⟩ := hB
  have tf3 := T.f3
  have tf2 := T.f2
  change WSs X _ [some (.own p), none, none, none, none, none, none] C _
  refine wss_consH ?_
  walk_at "pyC"
  refine x_lc0 6 hd rfl (by decide +kernel) hP.hb ?_ fun q hq => ?_
  · walk_at "pyC"
    have hpb : p ≠ b := fun e => by have := hP.ins; rw [e, hP.hb] at this; cases this
    refine ⟨Cl, pgK, _, .own b, insD_own (by rw [DL.del_ne hpb]; exact hP.ins), T.f2, .there (by decide +kernel) (.here _ _ _ _), ?_⟩
    exact ⟨rfl, rfl⟩
  walk_at "pyC"
  refine ⟨_, [], rfl, seqR_own put_same, ?_⟩
  have hP1 := hP.up (sub_new (c := .lst []) hq)
  have hs1 := sub_new (c := .lst []) hq
  generalize DL.put C q (.lst []) = C1 at hP1 hs1 ⊢
  clear hP hq
  walk_at "pyC"
  refine wsh_go (wss_consH ?_)
  walk_at "pyCA"
  refine ⟨Cl, pgK, _, .own b, insD_own hP1.ins, T.f2, .there (by decide +kernel) (.here _ _ _ _), ?_⟩
  walk_at "pyCA"
  refine .inr ⟨b, [], rfl, hP1.hb, ?_⟩
  walk_at "pyCA"
  refine ⟨Cl, pgK, _, .own d, insD_own hP1.ins, T.f3, .there (by decide +kernel) (.there (by decide +kernel) (.here _ _ _ _)), ?_⟩
  walk_at "pyCA"
  refine .inr ⟨d, [], rfl, hP1.hd, ?_⟩
  walk_at "pyCA"
  refine wsh_go (wss_consH ?_)
  refine x_for hx hnox (wi_ls ?_)
  walk_at "pyS"
  refine ⟨_, rfl, ?_⟩
  walk_at "pyS"
  have hall : ∀ (i : Nat) (y : D), ([D.tup [.int 0, .int 4, .str "files"], .tup [.int 0, .int 8, .str "functions"], .tup [.int 0, .int 120, .str "lines"]] : List D)[i]? = some y → ∃ (m : Int) (z : Str), y = .tup [.int 0, .int m, .str z] ∧ 0 < m := by
    intro i y hi
    match i, hi with
    | 0, hi => simp at hi; subst hi; exact ⟨_, _, rfl, by decide⟩
    | 1, hi => simp at hi; subst hi; exact ⟨_, _, rfl, by decide⟩
    | 2, hi => simp at hi; subst hi; exact ⟨_, _, rfl, by decide⟩
    | i + 3, hi => simp at hi
  refine ⟨[D.tup [.int 0, .int 4, .str "files"], .tup [.int 0, .int 8, .str "functions"], .tup [.int 0, .int 120, .str "lines"]], rfl, fun i env C' => C' = C1 ∧ ∃ o1 o2 o3 o4 o5 o6, env = [some (.own p), o1, o2, o3, o4, o5, o6], ⟨rfl, _, _, _, _, _, _, rfl⟩, (fun _ _ _ _ _ z => nomatch z), ?_, ?_⟩
  · rintro i y env C' hi ⟨rfl, o1, o2, o3, o4, o5, o6, rfl⟩
    obtain ⟨m, z, rfl, hm⟩ := hall i y hi
    walk_at "wg"
    walk_at "pyC"
    · rename_i q1
      have := of_decide_eq_true q1
      omega
    · exact ⟨rfl, _, _, _, _, _, _, rfl⟩
  · rintro env C' ⟨rfl, o1, o2, o3, o4, o5, o6, rfl⟩
    refine wsh_go (wss_nil ?_)
    exact ⟨C, hs1, h⟩
/-! is_kind -/
def strIs (t : Str) : D → Bool
  | .str z => z == t
  | _ => false
def onW (R : List D × Bool) (t : Str) : Bool := R.1.any (strIs t)
theorem upF_ext {M : Kds} : ∀ (n : Nat) (ks : List Str) (d : D), ∃ tl, (upF M n ks d).1 = ks.map D.str ++ tl
  | 0, ks, d => ⟨[], by simp [upF]⟩
  | n + 1, ks, d => by
    unfold upF
    split
    · exact ⟨[], by simp⟩
    · split
      · exact ⟨[], by simp⟩
      · split
        · rename_i s _ _ v _
          obtain ⟨tl, h⟩ := upF_ext n (ks ++ [s]) v
          exact ⟨.str s :: tl, by rw [h]; simp⟩
        · rename_i s _ _ _
          exact ⟨[.str s], by simp⟩
    · exact ⟨[_], rfl⟩
theorem run_ext {M : Kds} {R : List D × Bool} {m : Nat} {fs : List D} {d : D} (h : Run M R m fs d) : ∃ tl, R.1 = fs ++ tl := by
  rcases h with ⟨_, rfl⟩ | ⟨ks, rfl, _, _, _, _, rfl⟩
  · exact ⟨[], by simp⟩
  · exact upF_ext m ks d
def spIsKind (Cl : Addr) : DSp := fun ds C k => ∃ p a b d M s t, ds = [.own p, .str s, .str t] ∧ Pg Cl p a b d M C ∧ MOk M ∧ (∀ e ∈ M, e.2 = .non ∨ ∃ z, e.2 = .str z) ∧ (upW M s).2 = false ∧ Ob (.str s) ∧ k (.bl (onW (upW M s) t)) C
theorem ok_isKind {f : Addr} {fd : FuncData} (F : Fun K "is_kind" "Program.is_kind" s_Program_is_kind f fd) (T : Pgc K Cl) : FnG P w K mg base CX0 1 f fd P_Program_is_kind (toSp K (spIsKind Cl)) := by
  refine fnX F sc_Program_is_kind v_Program_is_kind l_Program_is_kind g_Program_is_kind (fun ds C k h => by obtain ⟨_, _, _, _, _, _, _, rfl, _⟩ := h; rfl) fun X hB ds C k h => ?_
  obtain ⟨p, a, b, d, M, s, t, rfl, hP, hM, hst, hno, hOs, h⟩ := h
  obtain ⟨hx, hn, hsx, hg, hd, hnox⟩ := hB
  have tf1 := T.f1
  change WSs X _ [some (.own p), some (.str s), some (.str t)] C _
  obtain ⟨R, hR⟩ : ∃ R, R = upW M s := ⟨_, rfl⟩
  rw [← hR] at h hno
  refine wss_consH ?_
  refine x_while hnox (fun m env C' => ∃ fs d, C' = C ∧ env = [some (.own p), some d, some (.str t)] ∧ Run M R m fs d ∧ fs.any (strIs t) = false ∧ (d = .non ∨ ∃ z, d = .str z)) ⟨_, [], .str s, rfl, rfl, by rw [hR]; exact Run.start hOs, rfl, .inr ⟨s, rfl⟩⟩ ?_
  rintro m env C' ⟨fs, d, rfl, rfl, hRun, hfs, hds⟩
  by_cases hdn : d = .non
  · subst hdn
    have hRf : R.1 = fs := by
      rcases hRun with ⟨_, h⟩ | ⟨ks, h1, _, _, _, _, h6⟩
      · rw [h]
      · rw [← h6, h1]
        cases m <;> rfl
    walk_at "pyC"
    all_goals try walk_at "bad"
    refine wsh_go ?_
    walk_at "pyC"
    unfold onW at h
    rw [hRf, hfs] at h
    exact h
  · obtain ⟨m', ks, hm, rfl, hnd, hks, hml, hv, hup⟩ := hRun.two hdn
    obtain ⟨z, rfl⟩ : ∃ z, d = .str z := hds.resolve_left hdn
    subst hm
    have hb : strIn (.str z) ks = false := by
      cases hb : strIn (.str z) ks with
      | false => rfl
      | true => rw [step_true hb hup] at hno; cases hno
    have hnx := step_false hM hv hdn hb hnd hks hml hup
    walk_at "pyC"
    all_goals try walk_at "bad"
    refine ne_sS ?_
    cases hzt : (z == t) with
    | true =>
      walk_at "pyC"
      all_goals try walk_at "bad"
      refine wsh_go ?_
      walk_at "pyC"
      obtain ⟨tl, htl⟩ := run_ext hnx
      have : onW R t = true := by
        unfold onW
        rw [htl, List.any_append, List.any_append]
        simp [strIs, hzt]
      rw [this] at h
      exact h
    | false =>
      walk_at "pyC"
      all_goals try walk_at "bad"
      refine get_one (M := M) (y := .str z) hx hP.ha (fun {kk} hk => by walk_at "pyC"; exact ⟨Cl, pgK, _, .own a, insD_own hP.ins, T.f1, .here _ _ _ _, hk⟩) (fun {kk} hk => by walk_at "pyC"; exact hk) hv hdn ?_ ⟨rfl, rfl, rfl, rfl⟩
      walk_at "pyC"
      refine ⟨m' + 1, by omega, ks.map D.str ++ [.str z], nxt M (.str z), rfl, rfl, hnx, ?_, ?_⟩
      · rw [List.any_append, hfs]
        simp [strIs, hzt]
      · show (getM M z).getD .non = .non ∨ ∃ y, (getM M z).getD .non = .str y
        cases hg : getM M z with
        | none => exact .inl rfl
        | some v => exact hst _ (getM_mem hg)
/-! __init__ -/
theorem wssA_mid {X : Cx} {A : Anc} {st : Stmt} {rest : List Stmt} {env : DEnv} {C : CS} {E : DEnds} (Pm : DEnv → CS → Prop) (h : WS X.nox st env C { E with nx := Pm }) (hk : ∀ env' C', Pm env' C' → WSsA X A rest env' C' E) : WSsA X A (st :: rest) env C E := wssA_cons (wsA_nox (WS.imp h hk))
def spPgI (Cl Ce : Addr) : DSpX := fun ds C k kx => ∃ p f x M B, ds = [.own p, .own f, x] ∧ C p = some (.ins Cl [] []) ∧ C f = some (.dic []) ∧ ((x = .non ∧ M = []) ∨ ∃ a0, x = .own a0 ∧ C a0 = some (dicM M)) ∧ MOk M ∧ Due M B ∧
  (B = none → ∀ C' a b d, (∀ q c, q ≠ p → C q = some c → C' q = some c) → Pg Cl p a b d M C' → k .non C') ∧ ∀ s, B = some s → kx (.ref Ce) [("kind", .str s)] (DL.del C p)
theorem ok_pgInit {f : Addr} {fd : FuncData} (F : FunW K "__init__" "Program.__init__" s_Program___init__ f fd) (T : Pgc K Cl) (Z : Zs mg) (h1 : FnC P w K mg base "look_files" 1 spLookF) (h2 : FnXC P w K mg base "look_kinds" 4 [] (spLookK Ce)) (h3 : MthC P w K mg base Cl "look_calls" 1 [] (spLookC Cl)) (h4 : MthC P w K mg base Cl "look_size" 1 [] (spLookS Cl)) : FnG P w K mg base (L2.CX P w) 5 f fd P_Program___init__ (toSpX K (spPgI Cl Ce)) := by
  refine fnXPW F sc_Program___init__ v_Program___init__ l_Program___init__ g_Program___init__ (fun ds C k kx h => by obtain ⟨_, _, _, _, _, rfl, _⟩ := h; rfl) fun X A hB ds k kx h hT => ?_
  obtain ⟨p, f, x, M, B, rfl, hp, hf, hx0, hM, hDue, hgood, hbad⟩ := h
  obtain ⟨hxX, hBn, hpo⟩ := hB
  obtain ⟨hx, hn, hs, hg, hd, hnox⟩ := hBn
  have hnX := hn.ofnox
  have hsX := hs.ofnox
  have hgX := hg.ofnox
  have tf1 := T.f1
  have tf2 := T.f2
  have tf3 := T.f3
  change WSsA X A _ [some (.own p), some (.own f), some x, none, none, none, none] A.C _
  refine wssA_cons (wsA_nox ?_)
  walk_at "pyC"
  refine ⟨f, rfl, hf, ?_⟩
  walk_at "pyC"
  have hpf : p ≠ f := fun e => by rw [e, hf] at hp; cases hp
  refine wssA_mid (fun env' C' => env' = [some (.own p), some (.own f), some x, none, none, none, none] ∧ ∃ a, C' p = some (.ins Cl ["above"] [.own a]) ∧ C' a = some (dicM M) ∧ ∀ q c, q ≠ p → A.C q = some c → C' q = some c) ?_ ?_
  · refine x_setFld hx ?_
    refine x_dictD hx Z (by walk_at "gl") ?_
    refine wa_cons ?_
    refine x_orC ?_
    have fin : ∀ (C1 : CS) (a1 : Addr), (∀ q c, A.C q = some c → C1 q = some c) → ∀ q, C1 q = none → q ≠ p ∧ (DL.put C1 q (dicM M)) p = some (.ins Cl [] []) ∧ (DL.put (DL.put C1 q (dicM M)) p (.ins Cl ["above"] [.own q]) p = some (.ins Cl ["above"] [.own q]) ∧ DL.put (DL.put C1 q (dicM M)) p (.ins Cl ["above"] [.own q]) q = some (dicM M) ∧ ∀ x c, x ≠ p → A.C x = some c → DL.put (DL.put C1 q (dicM M)) p (.ins Cl ["above"] [.own q]) x = some c) := by
      intro C1 a1 h1 q hq
      have hqp : q ≠ p := fun e => by have := h1 _ _ hp; rw [← e, hq] at this; cases this
      refine ⟨hqp, by rw [put_ne hqp.symm]; exact h1 _ _ hp, put_same, by rw [put_ne hqp, put_same], fun x c hxp hc => ?_⟩
      rw [put_ne hxp, put_ne (cell_ne (h1 _ _ hc) hq)]
      exact h1 _ _ hc
    have tru : truC A.C x = some (!M.isEmpty) := by
      rcases hx0 with ⟨rfl, rfl⟩ | ⟨a0, rfl, ha0⟩
      · rfl
      · simp only [truC, ha0]
        cases M <;> rfl
    walk_at "pyC"
    refine ⟨_, tru, fun hM1 => ?_, fun hM1 => ?_⟩
    · obtain ⟨a0, rfl, ha0⟩ : ∃ a0, x = .own a0 ∧ A.C a0 = some (dicM M) := by
        rcases hx0 with ⟨rfl, rfl⟩ | h
        · cases hM1
        · exact h
      walk_at "pyC"
      refine ⟨a0, _, rfl, ha0, fun q hq => ?_⟩
      obtain ⟨f1, f2, f3⟩ := fin A.C a0 (fun _ _ h => h) q hq
      walk_at "pyC"
      exact ⟨p, Cl, [], [], ["above"], [.own q], rfl, f2, T.f1, by decide, .nil, rfl, q, f3⟩
    · obtain rfl : M = [] := by cases M with
        | nil => rfl
        | cons _ _ => cases hM1
      walk_at "pyC"
      intro e he
      walk_at "pyC"
      refine ⟨e, [], rfl, put_same, fun q hq => ?_⟩
      obtain ⟨f1, f2, f3⟩ := fin (DL.put A.C e (.dic [])) e (sub_new he) q hq
      walk_at "pyC"
      exact ⟨p, Cl, [], [], ["above"], [.own q], rfl, f2, T.f1, by decide, .nil, rfl, q, f3⟩
  · rintro env' C' ⟨rfl, a, h5, h6, h7⟩
    have hdel : ∀ q c, DL.del A.C p q = some c → C' q = some c := fun q c hc => by
      by_cases hqp : q = p
      · subst hqp; rw [DL.del_same] at hc; cases hc
      · rw [DL.del_ne hqp] at hc; exact h7 q c hqp hc
    refine wssA_cons (wsA_expr (weA_callX hxX h2 (thr_sub hT) (Gls.at hgX (by walk_at "nm")) ?_ (by omega)))
    walk_at "pyC"
    refine ⟨Cl, ["above"], _, .own a, insD_own h5, T.f1, .here _ _ _ _, ?_⟩
    walk_at "pyC"
    refine ⟨a, M, B, rfl, h6, hM, hDue, fun hBn => ?_, fun s hs => ⟨_, hdel, hbad s hs⟩⟩
    have hgd := hgood hBn
    clear hgood hbad hdel
    have hf1 : C' f = some (.dic []) := h7 f _ hpf.symm hf
    refine wssA_cons (wsA_nox ?_)
    refine x_setFld hx ?_
    refine x_dc0 3 hd rfl (by decide +kernel) hf1 ?_ fun b hb => ?_
    · walk_at "pyC"
      exact ⟨rfl, rfl⟩
    have hbp : p ≠ b := cell_ne h5 hb
    have hba : a ≠ b := cell_ne h6 hb
    have hap : a ≠ p := fun e => by rw [e, h5] at h6; cases h6
    walk_at "pyC"
    refine ⟨p, Cl, ["above"], [.own a], ["above", "kept"], [.own a, .own b], rfl, by rw [put_ne hbp]; exact h5, T.f2, by decide, .there (by decide +kernel) .nil, ?_⟩
    have h5 : (DL.put (DL.put C' b (.dic [])) p (.ins Cl ["above", "kept"] [.own a, .own b])) p = some (.ins Cl ["above", "kept"] [.own a, .own b]) := put_same
    have h6 : (DL.put (DL.put C' b (.dic [])) p (.ins Cl ["above", "kept"] [.own a, .own b])) a = some (dicM M) := by rw [put_ne hap, put_ne hba]; exact h6
    have h8 : (DL.put (DL.put C' b (.dic [])) p (.ins Cl ["above", "kept"] [.own a, .own b])) b = some (.dic []) := by rw [put_ne hbp.symm, put_same]
    have h7 : ∀ q c, q ≠ p → A.C q = some c → (DL.put (DL.put C' b (.dic [])) p (.ins Cl ["above", "kept"] [.own a, .own b])) q = some c := fun q c hq hc => by rw [put_ne hq, put_ne (cell_ne (h7 q c hq hc) hb)]; exact h7 q c hq hc
    generalize (DL.put (DL.put C' b (.dic [])) p (.ins Cl ["above", "kept"] [.own a, .own b])) = C2 at h5 h6 h7 h8 ⊢
    clear hb hf1
    refine wssA_cons (wsA_nox ?_)
    refine x_setFld hx ?_
    walk_at "pyC"
    intro d hd0
    have hdp : p ≠ d := cell_ne h5 hd0
    have hda : a ≠ d := cell_ne h6 hd0
    have hdb : b ≠ d := cell_ne h8 hd0
    walk_at "pyC"
    refine ⟨p, Cl, ["above", "kept"], [.own a, .own b], pgK, [.own a, .own b, .own d], rfl, by rw [put_ne hdp]; exact h5, T.f3, by decide, .there (by decide +kernel) (.there (by decide +kernel) .nil), ?_⟩
    have hP : Pg Cl p a b d M (DL.put (DL.put C2 d (.dic [])) p (.ins Cl pgK [.own a, .own b, .own d])) := ⟨put_same, by rw [put_ne hap, put_ne hda]; exact h6, by rw [put_ne hbp.symm, put_ne hdb]; exact h8, by rw [put_ne hdp.symm, put_same]⟩
    have h7 : ∀ q c, q ≠ p → A.C q = some c → (DL.put (DL.put C2 d (.dic [])) p (.ins Cl pgK [.own a, .own b, .own d])) q = some c := fun q c hq hc => by rw [put_ne hq, put_ne (cell_ne (h7 q c hq hc) hd0)]; exact h7 q c hq hc
    generalize (DL.put (DL.put C2 d (.dic [])) p (.ins Cl pgK [.own a, .own b, .own d])) = C3 at hP h7 ⊢
    refine wssA_cons ?_
    refine wsA_for hpo hxX.calm ?_
    refine wi_ls ?_
    refine x_sortedK hxX Z (Gls.at hgX (by walk_at "nm")) ?_
    walk_at "pyC"
    refine ⟨Cl, pgK, _, .own b, insD_own hP.ins, T.f2, .there (by decide +kernel) (.here _ _ _ _), ?_⟩
    walk_at "pyC"
    refine ⟨b, [], [], rfl, hP.hb, rfl, by decide, fun ys q hp9 hs9 hq => ?_⟩
    obtain rfl : ys = [] := hp9.eq_nil
    have hs2 := sub_new (c := .lst (([] : List Str).map D.str)) hq
    refine ⟨_, seqR_own put_same, fun i env C' => C' = DL.put C3 q (.lst (([] : List Str).map D.str)) ∧ env = [some (.own p), some (.own f), some x, none, none, none, none], ⟨rfl, rfl⟩, fun i env C' h z hz => by cases hz; rw [h.1]; exact put_same, ?_, ?_⟩
    · rintro i d env C' hi
      simp at hi
    · rintro env C' ⟨rfl, rfl⟩
      have hP4 := hP.up hs2
      have h9 : ∀ z c, z ≠ p → A.C z = some c → (DL.put C3 q (.lst (([] : List Str).map D.str))) z = some c := fun z c hz hc => hs2 _ _ (h7 z c hz hc)
      generalize (DL.put C3 q (.lst (([] : List Str).map D.str))) = C4 at hP4 h9 ⊢
      refine wssA_cons (wsA_nox ?_)
      walk_at "pyC"
      refine x_meth0 hx h3 ?_ (by omega)
      walk_at "pyC"
      refine ⟨⟨_, _, insD_own hP4.ins, by decide +kernel⟩, ?_⟩
      refine ⟨p, a, b, d, M, rfl, hP4, ?_⟩
      refine wssA_cons (wsA_nox ?_)
      walk_at "pyC"
      refine x_meth0 hx h4 ?_ (by omega)
      walk_at "pyC"
      refine ⟨⟨_, _, insD_own hP4.ins, by decide +kernel⟩, ?_⟩
      refine ⟨p, a, b, d, M, rfl, hP4, ?_⟩
      refine wssA_nil ?_
      exact hgd C4 a b d (fun q c hq hc => h9 q c hq hc) hP4
abbrev PgD (K : PySem.W.Frag) (f : Addr) (fd : FuncData) : Prop := FunD K "__init__" "Program.__init__" (defArgs s_Program___init__) (defBody s_Program___init__) (defScope s_Program___init__) [V.non] [] f fd
theorem bd_pg3 {f : Addr} {fd : FuncData} (F : PgD K f fd) : Binds K fd P_Program___init__ [] := by
  obtain ⟨ds, h1, h2⟩ := F.binds1 (ps := P_Program___init__) 3 1 (by simp) rfl fun T kV doc pm an cdv ct us its h1 h2 => match us, its, h1, h2 with
    | [_, _, _], [_], _, _ => ⟨_, rfl, rfl⟩
  cases h1
  exact h2
theorem bd_pg2 {f : Addr} {fd : FuncData} (F : PgD K f fd) : ∃ ds, Vals [V.non] ds ∧ Binds K fd P_Program___init__ ds :=
  F.binds1 (ps := P_Program___init__) 2 0 (by simp) rfl fun T kV doc pm an cdv ct us its h1 h2 => match us, its, h1, h2 with
    | [_, _], [_], _, _ => ⟨_, rfl, rfl⟩
end
end K31
namespace K31
section
variable {P : Program} {w : World} {K : PySem.W.Frag} {mg : Str → Option Value} {base : Heap} {Cl Ce : Addr}
/-! the law's own functions -/
theorem ok_lawIsName {f : Addr} {fd : FuncData} (F : Fun K "_law_is_name" "_law_is_name" s_law_is_name f fd) (Z : Zs mg) : FnG P w K mg base CX0 1 f fd P_law_is_name (toSp K spIsNm) := by
  refine fnX F sc_law_is_name v_law_is_name l_law_is_name g_law_is_name (fun ds C k h => by obtain ⟨x, rfl, _⟩ := h; rfl) fun X hB ds C k h => ?_
  obtain ⟨x, rfl, hO, h⟩ := h
  obtain ⟨hx, hn, hs, hg, hd, hnox⟩ := hB
  have hk := hO.kind
  change WSs X _ [some x, none] C _
  refine wss_cons ?_
  walk_at "pyR"
  · rename_i h2
    rw [isNm_no (by simpa using h2)] at h; exact h
  · rename_i h2
    obtain ⟨z, rfl⟩ := isStr_eq (by simpa using h2)
    have hz := hO.str
    walk_at "pyR"
    · rename_i h3 h4
      have e : isNm (.str z) = false := by
        have : ¬ z.length ≤ 8 := by have h4 := dec_f (by simpa using h4 : decide (((z.length : Nat) : Int) ≤ 8) = false); omega
        simp [isNm, this]
      rw [e] at h; exact h
    · rename_i h3 h4
      have e : isNm (.str z) = abcB z := by
        have h3 := dec_t h3
        have h4 := dec_t (by simpa using h4 : decide (((z.length : Nat) : Int) ≤ 8) = true)
        show ((decide (1 ≤ z.length) && decide (z.length ≤ 8)) && abcB z) = abcB z
        rw [decide_eq_true (by omega), decide_eq_true (by omega)]; rfl
      rw [e] at h
      refine we_fa (lc1 ["_law_sign"] [] hd (by walk_at "nm") (by decide +kernel) (by decide +kernel) (by decide +kernel) (by decide +kernel) (wi_str ?_))
      walk_at "pyR"
      refine ⟨z, rfl, LcB.map (fun d => .bl (sgB d)) trivial (by rw [signs_len]; exact hz) ?_ fun p hp => fa_put hp ?_⟩
      · intro d hdm X' hX hn' hg'
        have hx' := hx.blk hX
        obtain ⟨c, rfl⟩ := mem_signs hdm
        walk_at "pyR"
        exact ⟨by simp [sgB], rfl⟩
      · walk_at "pyR"
        refine all_map (f := sgB) ?_
        rw [signs_all]; exact h
    · rename_i h3 h4
      have e : isNm (.str z) = false := by
        have : ¬ 1 ≤ z.length := by have h3 := dec_f h3; omega
        simp [isNm, this]
      rw [e] at h; exact h
    · rename_i h3 h4; exact absurd h4 (by decide)
def spVR : DSp := fun ds C k => ∃ x, ds = [x] ∧ Ob x ∧ k (.bl (vrB x)) C
theorem ok_vr {f : Addr} {fd : FuncData} (F : Fun K "_law_value_right" "_law_value_right" s_value_right f fd) (Z : Zs mg) (h1 : FnC P w K mg base "_law_is_name" 1 spIsNm) : FnG P w K mg base CX0 2 f fd P_value_right (toSp K spVR) := by
  refine fnX F sc_value_right v_value_right l_value_right g_value_right (fun ds C k h => by obtain ⟨_, rfl, _⟩ := h; rfl) fun X hB ds C k h => ?_
  obtain ⟨x, rfl, hO, h⟩ := h
  obtain ⟨hx, hn, hs, hg, hd, hnox⟩ := hB
  have hkx := hO.kind
  change WSs X _ [some x] C _
  refine wss_cons ?_
  walk_at "pyC"
  · rename_i q1
    rw [show vrB x = true by unfold vrB; rw [q1]; rfl] at h
    exact h
  · rename_i q1
    rw [show vrB x = isNm x by unfold vrB; rw [q1]; rfl] at h
    exact ⟨x, rfl, hO, h⟩
theorem at_0 {d : D} {rest : List D} : atI (d :: rest) 0 = some d := by unfold atI ixN; simp
/-! what is due -/
theorem filt_str {p : Str → Bool} {t : D → Bool} (h : ∀ s, t (.str s) = p s) : ∀ ys : List Str, ((ys.map D.str).filter t).map id = (ys.filter p).map D.str
  | [] => rfl
  | y :: ys => by
    have ih := filt_str h ys
    rw [List.map_cons, List.filter_cons, List.filter_cons, h y]
    split
    · rw [List.map_cons, List.map_cons, ih]; rfl
    · exact ih
def optD : Option Str → D
  | some s => .str s
  | none => .non
def spDueK : DSp := fun ds C k => ∃ a M B, ds = [.own a] ∧ C a = some (dicM M) ∧ MOk M ∧ Due M B ∧ k (optD B) C
theorem ok_dueK {f : Addr} {fd : FuncData} (F : Fun K "_law_due" "_law_due" s_due f fd) (Z : Zs mg) (h1 : FnC P w K mg base "_law_is_name" 1 spIsNm) (h2 : FnC P w K mg base "_law_value_right" 2 spVR) (h3 : FnC P w K mg base "_law_up" 1 spUp) : FnG P w K mg base CX0 3 f fd P_due (toSp K spDueK) := by
  refine fnS F sc_due v_due l_due g_due (fun ds C k h => by obtain ⟨_, _, _, rfl, _⟩ := h; rfl) fun X hB ds C k h => ?_
  obtain ⟨a, M, B, rfl, ha, hM, hDue, h⟩ := h
  obtain ⟨hx, hn, hs, hg, hd, hnox⟩ := hB
  change WSs X _ [some (.own a), none, none, none] C _
  have hl64 : (M.map (·.1)).length < 64 := by rw [List.length_map]; have := hM.ln; omega
  refine wss_consH ?_
  refine ws_lc1 (M0 := []) ["_law_above", "_law_kind"] ["_law_is_name", "_law_value_right"] hd (by walk_at "nm") (by decide +kernel) (by walk_at "nm") (by decide +kernel) (by decide +kernel) (by decide +kernel) (by decide +kernel) ((sww_env hd.sc _ _ _).trans (by rfl)) (wi_ls ?_)
  refine x_sortedK hx Z (by walk_at "gl") ?_
  walk_at "pyC"
  refine ⟨a, _, M.map (·.1), rfl, ha, keys_mk M, hl64, fun ys q hp1 hs1 hq => ?_⟩
  have hB := hDue.all ys hp1 hs1
  have hq1 : DL.put C q (.lst (ys.map D.str)) q = some (.lst (ys.map D.str)) := put_same
  have hsub := sub_new (c := .lst (ys.map D.str)) hq
  generalize DL.put C q (.lst (ys.map D.str)) = C1 at hq1 hsub ⊢
  have ha1 := hsub _ _ ha
  have hkey : ∀ d ∈ ys.map D.str, ∃ s, d = .str s ∧ s ∈ ys ∧ Ob (.str s) ∧ ∃ v, getM M s = some v ∧ VOk v := fun d hd => by
    obtain ⟨s, h1, rfl⟩ := List.mem_map.mp hd
    have hm : s ∈ M.map (·.1) := hp1.mem_iff.mp h1
    obtain ⟨v, hv⟩ := key_getM hm
    exact ⟨s, rfl, h1, hM.ks s hm, v, hv, hM.v hv⟩
  have hys20 : (ys.map D.str).length ≤ 100 := by rw [List.length_map, hp1.length_eq, List.length_map]; have := hM.ln; omega
  refine ⟨_, seqR_own hq1, LcB.filter (fun d => match d with | .str s => wrgB M s | _ => false) id (fun z hz => by cases hz; exact hq1) (Nat.le_trans hys20 (by decide)) ?_ ?_ fun q2 hq2 => ?_⟩
  · intro d hdm X' hX hn' hg'
    have hx' := hx.blk hX
    obtain ⟨s, rfl, hsy, hOs, v, hv, hvo⟩ := hkey d hdm
    have hgetv : valD (mkD id M) (Sum.inr s) = some v := by rw [key_map]; exact hv
    have hwr : wrgB M s = (!isNm (.str s) || !vrB v) := by unfold wrgB; rw [hv]; rfl
    walk_at "pyC"
    refine ⟨.str s, rfl, hOs, ?_⟩
    cases hn1 : isNm (.str s) with
    | false =>
      rw [hn1] at hwr
      walk_at "pyC"
      all_goals try walk_at "bad"
      exact ⟨hwr.symm, rfl⟩
    | true =>
      rw [hn1] at hwr
      walk_at "pyC"
      all_goals try walk_at "bad"
      refine ⟨v, rfl, hvo.ob, ?_⟩
      walk_at "pyC"
      exact ⟨hwr.symm, rfl⟩
  · intro d hdm _ X' hX hn' hg'
    have hx' := hx.blk hX
    walk_at "pyC"
    exact ⟨rfl, rfl⟩
  rw [filt_str (p := wrgB M) (fun _ => rfl)]
  refine wsh_go ?_
  refine wss_frzI 1 rfl put_same ?_
  rw [del_put hq2]
  simp only [List.set_cons_succ, List.set_cons_zero]
  refine wss_consH ?_
  refine ws_lc1 (M0 := []) ["_law_above", "_law_kind"] ["_law_up"] hd (by walk_at "nm") (by decide +kernel) (by walk_at "nm") (by decide +kernel) (by decide +kernel) (by decide +kernel) (by decide +kernel) ((sww_env hd.sc _ _ _).trans (by rfl)) (wi_ls ?_)
  refine x_sortedK hx Z (by walk_at "gl") ?_
  walk_at "pyC"
  refine ⟨a, _, M.map (·.1), rfl, ha1, keys_mk M, hl64, fun ys' q3 hp3 hs3 hq3 => ?_⟩
  have ey : ys' = ys := sorted_uniq hp3 hp1 hs3 hs1
  subst ey
  have hq4 : DL.put C1 q3 (.lst (ys'.map D.str)) q3 = some (.lst (ys'.map D.str)) := put_same
  have hsub3 := sub_new (c := .lst (ys'.map D.str)) hq3
  have hsub4 : ∀ x z, C x = some z → DL.put C1 q3 (.lst (ys'.map D.str)) x = some z := fun x z hz => hsub3 x z (hsub x z hz)
  generalize DL.put C1 q3 (.lst (ys'.map D.str)) = C3 at hq4 hsub4 ⊢
  have ha3 := hsub4 _ _ ha
  refine ⟨_, seqR_own hq4, LcB.filter (fun d => match d with | .str s => (upW M s).2 | _ => false) id (fun z hz => by cases hz; exact hq4) (Nat.le_trans hys20 (by decide)) ?_ ?_ fun q5 hq5 => ?_⟩
  · intro d hdm X' hX hn' hg'
    have hx' := hx.blk hX
    obtain ⟨s, rfl, hsy, hOs, v, hv, hvo⟩ := hkey d hdm
    walk_at "pyC"
    refine ⟨a, M, s, rfl, ha3, hM, hOs, ?_⟩
    walk_at "pyC"
    exact ⟨rfl, rfl⟩
  · intro d hdm _ X' hX hn' hg'
    have hx' := hx.blk hX
    walk_at "pyC"
    exact ⟨rfl, rfl⟩
  rw [filt_str (p := fun s => (upW M s).2) (fun _ => rfl)]
  refine wsh_go ?_
  refine wss_frzI 2 rfl put_same ?_
  rw [del_put hq5]
  simp only [List.set_cons_succ, List.set_cons_zero]
  have hok : ∀ p : Str → Bool, (D.lst ((ys'.filter p).map D.str)).ok = true := fun p => by
    refine fit_ok (n := 61) (fit_lstI (n := 60) ?_) (by decide)
    refine obs_fit fun s hs => ?_
    have hm := (List.mem_filter.mp hs).1
    exact hM.ks s (hp3.mem_iff.mp hm)
  have hl20 : ∀ p : Str → Bool, (ys'.filter p).length ≤ 100 := fun p => Nat.le_trans (List.length_filter_le _ _) (by rw [List.length_map] at hys20; exact hys20)
  have hokW := hok (wrgB M)
  have hlW := hl20 (wrgB M)
  have hlB := hl20 fun s => (upW M s).2
  unfold dueL at hB
  rw [← List.head?_filter, ← List.head?_filter] at hB
  have fin : ∀ C', (∀ x z, C x = some z → C' x = some z) → ∃ C2, Sub C2 C' ∧ k (optD B) C2 := fun C' hs => ⟨C, hs, h⟩
  generalize ys'.filter (wrgB M) = W at hB hokW hlW ⊢
  generalize ys'.filter (fun s => (upW M s).2) = Bk at hB hlB ⊢
  have hN1 : ∀ L : List Str, L.length ≤ 100 → (L.map D.str).length + 1 ≤ sizeLine := fun L hL => by rw [List.length_map]; exact Nat.le_trans (by omega : _ ≤ 1000) (by decide)
  refine wss_consH ?_
  refine ws_ret ?_
  refine we_if ?_
  walk_at "pyCA"
  refine ne_ok hokW (by decide +kernel) ?_
  cases W with
  | cons s W =>
    obtain rfl : some s = B := hB
    have he : PyData.eqv (D.py (D.lst (List.map D.str (s :: W)))) (D.py (D.lst [])) = false := rfl
    rw [he]
    walk_at "pyCA"
    all_goals try walk_at "bad"
    refine add_lst rfl rfl (hN1 _ hlW) fun p hp => fa_put hp ?_
    walk_at "pyCA"
    refine ix_f at_0 ?_
    exact fin _ hsub4
  | nil =>
    have he : PyData.eqv (D.py (D.lst (List.map D.str ([] : List Str)))) (D.py (D.lst [])) = true := rfl
    rw [he]
    walk_at "pyCA"
    all_goals try walk_at "bad"
    refine add_lst rfl rfl (hN1 _ hlB) fun p hp => fa_put hp ?_
    walk_at "pyCA"
    cases Bk with
    | nil =>
      obtain rfl : none = B := hB
      refine ix_f at_0 ?_
      exact fin _ hsub4
    | cons s Bk =>
      obtain rfl : some s = B := hB
      refine ix_f at_0 ?_
      exact fin _ hsub4
end
end K31
namespace K31
section
variable {P : Program} {w : World} {K : PySem.W.Frag} {mg : Str → Option Value} {base : Heap} {Cl Ce : Addr}
/-- what the law asks of BadKinds' class -/
structure X63 (K : PySem.W.Frag) (mg : Str → Option Value) (Ce : Addr) : Prop where
  is : XIs K Ce
  c : XCat K mg "BadKinds" Ce
  ie : PySem.W.kitOne K (.ref Ce) (.type "ValueError") = some true
  mv : mg "ValueError" = none
  no : PySem.W.findIn K (.ref Ce) "kind" = some none
def spRef : DSp := fun ds C k => ∃ a M B, ds = [.own a] ∧ C a = some (dicM M) ∧ MOk M ∧ Due M B ∧ ∀ C', (∀ x z, C x = some z → C' x = some z) → k (optD B) C'
theorem ok_refused {f : Addr} {fd : FuncData} (F : Fun K "_law_refused" "_law_refused" s_refused f fd) (Z : Zs mg) (H : X63 K mg Ce) (h1 : MakX P w K mg base "Program" Cl 5 [] (spPgI Cl Ce)) : FnG P w K mg base CX0 8 f fd P_refused (toSp K spRef) := by
  refine fnXT F sc_refused v_refused l_refused g_refused (fun ds C k h => by obtain ⟨_, _, _, rfl, _⟩ := h; rfl) fun X hBT ds C k h => ?_
  obtain ⟨a, M, B, rfl, ha, hM, hDue, h⟩ := h
  obtain ⟨hB, hst, hfr, hkind⟩ := hBT
  have ⟨hx, hn, hs, hg, hd, hnox⟩ := hB
  change WSs X _ [some (.own a), none] C _
  refine wss_consH ?_
  refine ws_try hst hfr hB (i := 1) rfl (hkind "e" (by decide +kernel)) (by walk_at "gl") H.c (by decide) fun X' A hT hA hThr henv => ?_
  obtain ⟨hx', hxn, hnn, hsn, hgn, hdn, hnoxn⟩ := hT
  subst hA
  refine wssA_cons (wsA_expr (weA_makeX hx' h1 (thr_sub hThr) (Gls.at hgn.ofnox (by walk_at "nm")) ?_ (by omega)))
  walk_at "pyC"
  intro e he
  walk_at "pyC"
  intro p hp
  have hsE := sub_new (c := .dic []) he
  have hep : e ≠ p := fun z => by rw [z, put_same] at hp; cases hp
  have hsP := sub_new (c := .ins Cl [] []) hp
  refine ⟨p, e, .own a, M, B, rfl, put_same, by rw [put_ne hep, put_same], .inr ⟨a, rfl, hsP _ _ (hsE _ _ ha)⟩, hM, hDue, fun hBn C' a' b' d' hkeep hP => ⟨rfl, ?_⟩, fun s hs => ⟨A.C, fun x z hz => ?_, ?_⟩⟩
  · refine wssA_nil (wsh_go ?_)
    walk_at "pyC"
    have hC : ∀ x z, A.C x = some z → C' x = some z := fun x z hz => hkeep x z (fun e => by rw [e] at hz; rw [hsE _ _ hz] at hp; cases hp) (hsP _ _ (hsE _ _ hz))
    rw [hBn] at h
    exact h C' hC
  · rw [del_put hp]; exact hsE _ _ hz
  · rw [hs] at h
    refine ⟨rfl, fun q oe od pn A2 hz hv hA2 ha hE2 => ?_⟩
    have hK := hx.K
    have hmg := hx.mg
    have hns := hn.suite q ((q, oe) :: pn)
    have hgs := hg.suite q ((q, oe) :: pn)
    rw [hK] at hE2
    clear hx' hxn hnn hsn hgn hdn hnoxn
    show WSsA (X.suite q ((q, oe) :: pn)) A2 _ [some (.own a), some (.opq (.ref q))] A.C _
    refine wssA_cons (wsA_ret (weA_if (wtA_val ?_)))
    refine weA_isX1 hx Z (by walk_at "gl") H.is hz hv (by rw [hA2]; exact hE2) ?_
    walk_at "py"
    refine we_bty (by show X.mg _ = none; rw [hmg]; exact H.mv) (by walk_at "gl") boot_ValueError ?_
    walk_at "py"
    refine ⟨_, _, true, rfl, rfl, H.ie, true, rfl, fun _ => ?_, fun z => nomatch z⟩
    refine weA_xf (by rw [hK]; exact H.is.xf) (by rw [hK]; exact H.no) hz hv (by rw [hK, hA2]; exact hE2) ?_
    walk_at "py"
    exact ⟨rfl, .str s, rfl, h A.C fun _ _ h => h⟩
end
end K31
namespace K31
section
variable {P : Program} {w : World} {K : PySem.W.Frag} {mg : Str → Option Value} {base : Heap} {Cl Ce : Addr}
/-! k63: plain facts of the law -/
theorem nm_ob {z : Str} (h : Nm z) : Ob (.str z) := ⟨⟨0, by decide, nm_strOk h⟩, rfl, Nat.le_trans (show z.length ≤ 8 from h.2.1) (by decide)⟩
theorem mem_putM {α : Type} {m : List (Str × α)} {s : Str} {x : α} {e : Str × α} (h : e ∈ putM m s x) : e ∈ m ∨ e = (s, x) := by
  unfold putM at h
  split at h
  · obtain ⟨y, hy, rfl⟩ := List.mem_map.mp h
    split
    · rename_i hs
      exact .inr (by rw [← hs])
    · exact .inl hy
  · rcases List.mem_append.mp h with h | h
    · exact .inl h
    · exact .inr (List.mem_singleton.mp h)
theorem putM_len {α : Type} (m : List (Str × α)) (s : Str) (x : α) : (putM m s x).length ≤ m.length + 1 := by
  unfold putM
  split
  · rw [List.length_map]; omega
  · rw [List.length_append]; exact Nat.le_refl _
theorem MOk.put {M : Kds} {s : Str} {x : D} (h : MOk M) (hl : M.length < 20) (hs : Ob (.str s)) (hx : VOk x) : MOk (putM M s x) := by
  refine ⟨?_, by have := putM_len M s x; omega, fun t ht => ?_, fun e he => ?_⟩
  · rw [keys_put]
    split
    · exact h.nd
    · rename_i hn
      rw [List.nodup_append]
      exact ⟨h.nd, by simp, fun a ha b hb e => hn (by rw [List.mem_singleton] at hb; rw [← hb, ← e]; exact ha)⟩
  · rw [keys_put] at ht
    split at ht
    · exact h.ks t ht
    · rcases List.mem_append.mp ht with ht | ht
      · exact h.ks t ht
      · rw [List.mem_singleton.mp ht]; exact hs
  · rcases mem_putM he with he | rfl
    · exact h.vs e he
    · exact hx
theorem mok_nil : MOk [] := ⟨.nil, by decide, fun _ h => by simp at h, fun _ h => by simp at h⟩
/-- something is due, whatever sorting does -/
theorem due_ex {M : Kds} (hM : MOk M) : ∃ B, Due M B ∧ (∀ s, B = some s → Ob (.str s)) ∧ (B = none → ∀ s ∈ M.map (·.1), wrgB M s = false ∧ (upW M s).2 = false) := by
  by_cases h : ∃ ys : List Str, ys.Perm (M.map (·.1)) ∧ PyProof.Rows.sortedS ys = true
  · obtain ⟨ys, hp, hs⟩ := h
    refine ⟨dueL M ys, due_of hp hs, fun s e => ?_, fun e s hm => ?_⟩
    · refine hM.ks s (hp.mem_iff.mp ?_)
      unfold dueL at e
      split at e
      · rename_i h
        cases e
        exact List.mem_of_find?_eq_some h
      · exact List.mem_of_find?_eq_some e
    · have hy := hp.mem_iff.mpr hm
      unfold dueL at e
      split at e
      · cases e
      · rename_i h
        exact ⟨by simpa using List.find?_eq_none.mp h s hy, by simpa using List.find?_eq_none.mp e s hy⟩
  · exact ⟨some "", ⟨fun ys hp hs => absurd ⟨ys, hp, hs⟩ h⟩, fun s e => by cases e; exact ⟨⟨0, by decide, by decide +kernel⟩, rfl, by decide +kernel⟩, fun e => by cases e⟩
theorem due_nil' : Due [] none := ⟨fun ys hp _ => by rw [show ys = [] from List.Perm.eq_nil hp]; rfl⟩
theorem back_no {M : Kds} (h : ∀ s ∈ M.map (·.1), (upW M s).2 = false) (s : Str) : (upW M s).2 = false := by
  cases hg : getM M s with
  | some v => exact h s (getM_key (by rw [hg]; rfl))
  | none =>
    unfold upW
    show (upF M (M.length + 1 + 1) [] (.str s)).2 = false
    simp [upF, hg]
theorem due_val {M : Kds} (hM : MOk M) (h : ∀ s ∈ M.map (·.1), wrgB M s = false) : ∀ e ∈ M, e.2 = .non ∨ ∃ z, e.2 = .str z := by
  intro e he
  have h1 := h e.1 (List.mem_map_of_mem (f := (·.1)) he)
  have h2 : getM M e.1 = some e.2 := getM_of hM.nd he
  unfold wrgB at h1
  rw [h2] at h1
  have h3 : vrB e.2 = true := by
    cases hv : vrB e.2 with
    | true => rfl
    | false => rw [Option.getD_some, hv] at h1; simp at h1
  unfold vrB at h3
  generalize e.2 = d at h3
  cases d <;> first | exact .inl rfl | exact .inr ⟨_, rfl⟩ | (simp [isNm, D.isNon] at h3; done)
theorem upF_strs {M : Kds} (h : ∀ e ∈ M, e.2 = .non ∨ ∃ z, e.2 = .str z) (hO : MOk M) : ∀ (n : Nat) (ks : List Str) (d : D), (∀ s ∈ ks, Ob (.str s)) → ks.length + n ≤ 30 → (d = .non ∨ ∃ z, d = .str z ∧ Ob (.str z)) → ∃ ls : List Str, (upF M n ks d).1 = ls.map D.str ∧ (∀ s ∈ ls, Ob (.str s)) ∧ ls.length ≤ 30
  | 0, ks, _, hk, hl, _ => ⟨ks, rfl, hk, by omega⟩
  | n + 1, ks, d, hk, hl, hd => by
    rcases hd with rfl | ⟨z, rfl, hz⟩
    · exact ⟨ks, rfl, hk, by omega⟩
    · have hk2 : ∀ s ∈ ks ++ [z], Ob (.str s) := fun s hs => by
        rcases List.mem_append.mp hs with hs | hs
        · exact hk s hs
        · rw [List.mem_singleton.mp hs]; exact hz
      by_cases hm : z ∈ ks
      · exact ⟨ks, by simp [upF, hm], hk, by omega⟩
      · cases hg : getM M z with
        | none => exact ⟨ks ++ [z], by simp [upF, hm, hg], hk2, by rw [List.length_append, List.length_singleton]; omega⟩
        | some v =>
          have := upF_strs h hO n (ks ++ [z]) v hk2 (by rw [List.length_append, List.length_singleton]; omega) (by
            have hv := hO.v hg
            rcases h _ (getM_mem hg) with e | ⟨y, e⟩
            · exact .inl e
            · have e : v = .str y := e
              subst e
              exact .inr ⟨y, rfl, hv.ob⟩)
          simpa [upF, hm, hg] using this
theorem upW_strs {M : Kds} (h : ∀ e ∈ M, e.2 = .non ∨ ∃ z, e.2 = .str z) (hO : MOk M) {s : Str} (hs : Ob (.str s)) : ∃ ls : List Str, (upW M s).1 = ls.map D.str ∧ (∀ s ∈ ls, Ob (.str s)) ∧ ls.length ≤ 30 := upF_strs h hO _ _ _ (fun _ h => by simp at h) (by have := hO.ln; show 0 + (M.length + 2) ≤ 30; omega) (.inr ⟨s, rfl, hs⟩)
theorem any_is (t : Str) : ∀ ls : List Str, (ls.map D.str).any (strIs t) = decide (t ∈ ls)
  | [] => rfl
  | l :: ls => by
    have ih := any_is t ls
    rw [List.map_cons, List.any_cons, ih]
    show (l == t || decide (t ∈ ls)) = _
    by_cases e : t = l
    · subst e; simp
    · have e' : ¬ l = t := fun z => e z.symm
      simp [e, e']
theorem on_strs {R : List D × Bool} {ls : List Str} {t : Str} (h : R.1 = ls.map D.str) : onW R t = decide (t ∈ ls) := by
  unfold onW
  rw [h, any_is]
theorem in_lst {C : CS} {k : KD} {ls : List Str} {t : Str} (hs : ∀ s ∈ ls, Ob (.str s)) (ht : Ob (.str t)) (q : k (.bl (decide (t ∈ ls))) C) : dIn false (.str t) (.lst (ls.map D.str)) C k := by
  obtain ⟨n, hn, hf⟩ := ht.ex
  have hz := fit_ok hf (by omega)
  have hfk := obs_fit hs
  have hok : (D.lst (ls.map D.str)).ok = true := fit_ok (n := 61) (fit_lstI (n := 60) hfk) (by decide)
  unfold D.ok at hok hz
  rw [Bool.and_eq_true] at hok hz
  refine (show dInL false (.str t) (.lst (ls.map D.str)) C k from ⟨(D.str t).py, pyL (ls.map D.str), rfl, ?_, hz.2, hok.2, ?_⟩)
  · unfold pyC
    exact if_pos hok.1
  · have e : ((pyL (ls.map D.str)).any fun z => PyData.eqv z (D.str t).py) = decide (t ∈ ls) := by
      rw [pyL_strs]
      exact any_strs t ls
    rw [e]
    exact q
theorem ne_same {C : CS} {k : KD} {d : D} {n : Nat} (h : d.fit n = true) (hn : n ≤ 61) (q : k (.bl false) C) : dEq true d d C k := ne_fit h h (by rw [eqv_fit h]; exact q) (by omega) (by omega)
theorem opt_fit {B : Option Str} (h : ∀ s, B = some s → Ob (.str s)) : ∃ n, n ≤ 60 ∧ (optD B).fit n = true := by
  cases B with
  | none => exact ⟨0, by decide, rfl⟩
  | some s => exact (h s rfl).ex
theorem bag_up {C C' : CS} {b : Addr} {n : Nat} (h : Bag C b n) (hs : ∀ q c, C q = some c → C' q = some c) : Bag C' b n := by
  obtain ⟨l, hl⟩ := h.some
  exact h.of (by rw [hs _ _ hl, hl]) (Nat.le_refl _)
theorem odd_vok : ∀ x ∈ [D.str "A", .str "", .int 7, .tup [.str "a"], .bl true], VOk x := by
  intro x hx
  simp only [List.mem_cons, List.not_mem_nil, or_false] at hx
  rcases hx with rfl | rfl | rfl | rfl | rfl
  · exact ⟨⟨⟨1, by decide, by decide +kernel⟩, by decide +kernel, by decide +kernel⟩, .inr (.inl ⟨_, rfl⟩)⟩
  · exact ⟨⟨⟨1, by decide, by decide +kernel⟩, by decide +kernel, by decide +kernel⟩, .inr (.inl ⟨_, rfl⟩)⟩
  · exact ⟨⟨⟨1, by decide, by decide +kernel⟩, by decide +kernel, by decide +kernel⟩, .inr (.inr rfl)⟩
  · exact ⟨⟨⟨1, by decide, by decide +kernel⟩, by decide +kernel, by decide +kernel⟩, .inr (.inr rfl)⟩
  · exact ⟨⟨⟨1, by decide, by decide +kernel⟩, by decide +kernel, by decide +kernel⟩, .inr (.inr rfl)⟩
theorem non_vok : VOk .non := ⟨⟨⟨0, by decide, rfl⟩, rfl, by decide⟩, .inl rfl⟩
theorem key_ob : ∀ x ∈ [D.str "A", .str "", .str "abcdefghi", .str "a b"], ∃ s, x = .str s ∧ Ob (.str s) := by
  intro x hx
  simp only [List.mem_cons, List.not_mem_nil, or_false] at hx
  rcases hx with rfl | rfl | rfl | rfl
  all_goals exact ⟨_, rfl, ⟨1, by decide, by decide +kernel⟩, by decide +kernel, by decide +kernel⟩
end
end K31
namespace K31
section
variable {P : Program} {w : World} {K : PySem.W.Frag} {mg : Str → Option Value} {base : Heap} {Cl Ce : Addr}
def forB : Stmt → List Stmt
  | .For _ _ b _ _ => b
  | _ => []
def turnB : List Stmt := forB ((forB ((defBody s_law).getD 0 (.Pass ⟨0, 0, 0, 0⟩))).getD 2 (.Pass ⟨0, 0, 0, 0⟩))
theorem wss_mid {X : Cx} {st : Stmt} {rest : List Stmt} {env : DEnv} {C : CS} {E : DEnds} (Pm : DEnv → CS → Prop) (h : WS X st env C { E with nx := Pm }) (hk : ∀ env' C', Pm env' C' → WSs X rest env' C' E) : WSs X (st :: rest) env C E := wss_cons (WS.imp h hk)
/-- the kinds, the source of draws -/
structure T63 (a bg : Addr) (M : Kds) (n : Nat) (C : CS) : Prop where
  ha : C a = some (dicM M)
  ok : MOk M
  bag : Bag C bg n
theorem T63.up {a bg : Addr} {M : Kds} {n : Nat} {C C' : CS} (h : T63 a bg M n C) (hs : ∀ q c, C q = some c → C' q = some c) : T63 a bg M n C' := ⟨hs _ _ h.ha, h.ok, bag_up h.bag hs⟩
theorem T63.draw {a bg : Addr} {M : Kds} {n m : Nat} {C : CS} {l : List D} (h : T63 a bg M n C) (hB : Bag (DL.put C bg (.lst l)) bg m) : T63 a bg M m (DL.put C bg (.lst l)) := by
  obtain ⟨l0, hl⟩ := h.bag.some
  exact ⟨by rw [put_ne fun e => by have := h.ha; rw [e, hl] at this; cases this]; exact h.ha, h.ok, hB⟩
theorem T63.set {a bg : Addr} {M : Kds} {n : Nat} {C : CS} {s : Str} {x : D} (h : T63 a bg M n C) (hl : M.length < 20) (hs : Ob (.str s)) (hx : VOk x) : T63 a bg (putM M s x) n (DL.put C a (.dic (putD (mkD id M) (Sum.inr s) x))) := by
  obtain ⟨l0, hl0⟩ := h.bag.some
  refine ⟨by rw [put_same]; exact congrArg (fun z => Option.some (Cell.dic z)) (putD_mk (f := id) s x M), h.ok.put hl hs hx, h.bag.put fun e => by have := h.ha; rw [← e, hl0] at this; cases this⟩
theorem T63.mono {a bg : Addr} {M : Kds} {n m : Nat} {C : CS} (h : T63 a bg M n C) (hm : n ≤ m) : T63 a bg M m C := ⟨h.ha, h.ok, h.bag.mono hm⟩
theorem cutD_mem {xs : List D} {lo hi : Option Int} {d : D} (h : d ∈ cutD xs lo hi) : d ∈ xs := List.mem_of_mem_drop (List.mem_of_mem_take h)
theorem cutD_len {xs : List D} {lo hi : Option Int} : (cutD xs lo hi).length ≤ xs.length := by
  unfold cutD
  rw [List.length_take, List.length_drop]
  omega
theorem mulA_l {xs : List D} {i : Int} {C : CS} {k : KD} (h0 : 0 ≤ i) (h1 : i ≤ 1000) (h2 : xs.length ≤ 100) (q : ∀ Y, Y = (List.replicate i.toNat xs).flatten → k (.lst Y) C) : dMul (.lst xs) (.int i) C (FrzA k) := by
  refine ⟨xs, rfl, by omega, by omega, ?_, fun p hp => fa_put hp (q _ rfl)⟩
  have : xs.length * i.toNat ≤ 100 * 1000 := Nat.mul_le_mul h2 (by omega)
  exact Nat.le_trans this (by decide)
theorem at_str {zs : List Str} {i : Nat} {z : Str} (h : zs[i]? = some z) : atI (zs.map D.str) (i : Int) = some (.str z) := by
  have hl : i < zs.length := by
    rcases Nat.lt_or_ge i zs.length with h' | h'
    · exact h'
    · rw [List.getElem?_eq_none h'] at h; cases h
  unfold atI ixN
  rw [if_pos (by omega), if_pos (by rw [List.length_map]; omega)]
  simpa using h
theorem turn63 {X : Cx} {B : List Stmt} (hB : B = turnB) {bg : Addr} {n : Nat} {zs : List Str} {d0 d1 d4 o5 o6 o7 o8 o9 o10 o11 o12 o13 : Option D} {C : CS} {E : DEnds} (hx : DL.Ctx P w K mg base 9 X) (hn : Nms X N_law M_law) (hs : Sts X N_law M_law) (hg : Gls X D_law) (hd : Dfc X N_law (defScope s_law)) (hnox : Nox X)
    (Z : Zs mg) (h1 : FnC P w K mg base "_law_draw" 1 spDraw) (h2 : FnC P w K mg base "_law_due" 3 spDueK) (h3 : FnC P w K mg base "_law_refused" 8 spRef) (h4 : FnC P w K mg base "_law_up" 1 spUp) (h5 : MthC P w K mg base Cl "is_kind" 1 [] (spIsKind Cl))
    (c1 : MakC P w K mg base "Program" Cl 5 [] fun ds C k => spPgI Cl Ce ds C k fun _ _ _ => False) (c2 : MakC P w K mg base "Program" Cl 5 [.non] fun ds C k => spPgI Cl Ce ds C k fun _ _ _ => False)
    (hzl : zs.length = 6) (hzN : ∀ z ∈ zs, Nm z) (hn9 : n ≤ 100000) (hT : Bag C bg n)
    (hE : ∀ C' o5 o6 o7 o8 o9 o10 o11 o12 o13, Bag C' bg (n + 20) → E.nx [d0, d1, some (.own bg), some (.lst (zs.map D.str)), d4, o5, o6, o7, o8, o9, o10, o11, o12, o13] C') :
    WSs X B [d0, d1, some (.own bg), some (.lst (zs.map D.str)), d4, o5, o6, o7, o8, o9, o10, o11, o12, o13] C E := by
  subst hB
  obtain ⟨z5, hz5⟩ : ∃ z, zs[5]? = some z := ⟨_, List.getElem?_eq_getElem (by omega)⟩
  refine wss_consH ?_
  walk_at "pyCA"
  intro a ha
  have hT0 : T63 a bg [] n (DL.put C a (.dic [])) := ⟨put_same, mok_nil, hT.put (hT.ne ha)⟩
  generalize DL.put C a (.dic []) = C0 at hT0 ⊢
  clear hT ha
  refine wsh_go ?_
  refine wss_consH ?_
  refine x_for hx hnox (x_range1 hx Z (by walk_at "gl") ?_)
  walk_at "pyCA"
  refine ⟨bg, _, 6, rfl, hT0.bag, by omega, by decide, by decide, fun r l r0 r1 hB2 => ?_⟩
  have hT1 := hT0.draw hB2
  generalize DL.put C0 bg (.lst l) = CB at hB2 hT1 ⊢
  clear hT0 hB2
  walk_at "pyCA"
  refine ⟨r, rfl, by omega, by omega, ?_⟩
  refine ⟨fun j env' C' => ∃ (M : Kds) (o6 o10 : Option D), env' = [d0, d1, some (.own bg), some (.lst (zs.map D.str)), d4, some (.own a), o6, o7, o8, o9, o10, o11, o12, o13] ∧ M.length ≤ j ∧ T63 a bg M (n + 1 + j) C', ⟨[], _, _, rfl, Nat.le_refl _, hT1⟩, fun _ _ _ _ => trivial, ?_, ?_⟩
  · clear hT1
    rintro j dd env' C' hj ⟨M, o6, o10, rfl, hMl, hT2⟩
    obtain ⟨hj4, rfl⟩ := intsFrom_get hj
    have hj3 : j < 5 := by omega
    walk_at "wg"
    refine wss_consH ?_
    walk_at "pyCA"
    refine ix_f (at_str (i := 5) hz5) ?_
    walk_at "pyCA"
    have hcm : ∀ lo hi, ∀ d ∈ cutD (zs.map D.str) lo hi, d ∈ zs.map D.str := fun lo hi d hd => cutD_mem hd
    have hcl : ∀ lo hi, (cutD (zs.map D.str) lo hi).length ≤ 6 := fun lo hi => Nat.le_trans cutD_len (by rw [List.length_map]; omega)
    refine mulA_l (by decide) (by decide) (by have := hcl none (some (0 + (j : Int))); omega) fun Y hY => ?_
    have hYl : Y.length ≤ 18 := by
      have := hcl none (some (0 + (j : Int)))
      rw [hY]
      generalize cutD (zs.map D.str) none (some (0 + (j : Int))) = c at this ⊢
      rw [show (3 : Int).toNat = 3 from rfl]
      simp [List.replicate_succ]
      omega
    have hYm : ∀ d ∈ Y, d ∈ zs.map D.str := fun d hd => by
      rw [hY, List.mem_flatten] at hd
      obtain ⟨l, hl, hd⟩ := hd
      rw [(List.mem_replicate.mp hl).2] at hd
      exact hcm _ _ d hd
    clear hY
    refine add_lst rfl rfl (Nat.le_trans (by show _ + Y.length ≤ 100; simp only [List.length_cons, List.length_nil]; omega) (by decide : 100 ≤ sizeLine)) fun p hp => fa_put hp ?_
    walk_at "pyCA"
    have hc5 := hcl none (some 5)
    refine add_lst rfl rfl (Nat.le_trans (by rw [List.length_append]; simp only [List.length_cons, List.length_nil]; omega : _ ≤ 100) (by decide : 100 ≤ sizeLine)) fun p hp => fa_put hp ?_
    refine wsh_go ?_
    have hv : ∀ d ∈ zs.map D.str, VOk d := fun d hd => by
      obtain ⟨z, hz, rfl⟩ := List.mem_map.mp hd
      exact ⟨nm_ob (hzN z hz), .inr (.inl ⟨z, rfl⟩)⟩
    obtain ⟨L, hL⟩ : ∃ L, L = [D.non, D.non, D.str z5] ++ Y ++ cutD (zs.map D.str) none (some 5) := ⟨_, rfl⟩
    have hL1 : 3 ≤ L.length ∧ L.length ≤ 100 := by
      rw [hL, List.length_append, List.length_append]
      simp only [List.length_cons, List.length_nil]
      omega
    have hLv : ∀ d ∈ L, VOk d := fun d hd => by
      rw [hL] at hd
      rcases List.mem_append.mp hd with hd | hd
      · rcases List.mem_append.mp hd with hd | hd
        · simp only [List.mem_cons, List.not_mem_nil, or_false] at hd
          rcases hd with rfl | rfl | rfl
          · exact non_vok
          · exact non_vok
          · exact hv _ (List.mem_map_of_mem (List.mem_of_getElem? hz5))
        · exact hv d (hYm d hd)
      · exact hv d (hcm _ _ d hd)
    show WSs X _ [d0, d1, some (.own bg), some (.lst (zs.map D.str)), d4, some (.own a), some (.int (0 + (j : Nat))), o7, o8, o9, some (.lst ([D.non, D.non, D.str z5] ++ Y ++ cutD (zs.map D.str) none (some 5))), o11, o12, o13] C' _
    rw [← hL]
    clear hL hYl hYm hcm hcl hc5 hv
    refine wss_consH ?_
    walk_at "pyCA"
    refine ⟨bg, _, (L.length : Nat), rfl, hT2.bag, by omega, by omega, by omega, fun r l r0 r1 hB4 => ?_⟩
    have hT3 := hT2.draw hB4
    generalize DL.put C' bg (.lst l) = CC at hB4 hT3 ⊢
    clear hT2 hB4
    refine Or.inl (ix_any r0 r1 fun x hx => ?_)
    have hxv := hLv x hx
    walk_at "pyCA"
    obtain ⟨zj, hzj⟩ : ∃ z, zs[j]? = some z := ⟨_, List.getElem?_eq_getElem (by omega)⟩
    refine ix_f (by rw [Int.zero_add]; exact at_str hzj) ?_
    refine setX_ok hT3.ha (by rw [len_mk]; exact Nat.lt_of_le_of_lt (by omega : M.length ≤ 100) (by decide)) ?_
    refine wsh_go (wss_nil ?_)
    exact ⟨_, _, _, rfl, by have := putM_len M zj x; omega, (hT3.set (by omega) (nm_ob (hzN _ (List.mem_of_getElem? hzj))) hxv).mono (by omega)⟩
  · rintro env' C' ⟨M, o6, o10, rfl, hMl, hT3⟩
    rw [intsFrom_length] at hT3 hMl
    have hT4 := hT3.mono (m := n + 6) (by omega)
    have hM5 : M.length ≤ 5 := by omega
    clear hT3 hMl
    refine wsh_go ?_
    refine wss_mid (fun env' C' => ∃ (M : Kds), env' = [d0, d1, some (.own bg), some (.lst (zs.map D.str)), d4, some (.own a), o6, o7, o8, o9, o10, o11, o12, o13] ∧ M.length ≤ 6 ∧ T63 a bg M (n + 8) C') ?_ ?_
    · walk_at "pyCA"
      refine ⟨bg, _, 4, rfl, hT4.bag, by omega, by decide, by decide, fun r l r0 r1 hB5 => ?_⟩
      have hT5 := hT4.draw hB5
      generalize DL.put C' bg (.lst l) = CC at hB5 hT5 ⊢
      clear hT4 hB5
      walk_at "pyCA"
      · refine ⟨bg, _, 4, rfl, hT5.bag, by omega, by decide, by decide, fun r l r0 r1 hB6 => ?_⟩
        have hT6 := hT5.draw hB6
        generalize DL.put CC bg (.lst l) = CD at hB6 hT6 ⊢
        clear hT5 hB6
        refine Or.inl (ix_any r0 r1 fun x hx => ?_)
        obtain ⟨s, rfl, hs⟩ := key_ob x hx
        refine setX_ok hT6.ha (by rw [len_mk]; exact Nat.lt_of_le_of_lt (by omega : M.length ≤ 100) (by decide)) ?_
        refine wss_nil ?_
        exact ⟨_, rfl, by have := putM_len M s .non; omega, hT6.set (by omega) hs non_vok⟩
      · exact ⟨M, rfl, by omega, hT5.mono (by omega)⟩
    · rintro env' C1 ⟨M, rfl, hMl, hT5⟩
      clear hT4 hM5
      refine wsh_go ?_
      refine wss_mid (fun env' C' => ∃ (M : Kds) (o11 : Option D), env' = [d0, d1, some (.own bg), some (.lst (zs.map D.str)), d4, some (.own a), o6, o7, o8, o9, o10, o11, o12, o13] ∧ T63 a bg M (n + 11) C') ?_ ?_
      · refine ws_if (wt_bo (ww_and (xt_neE hx ?_)))
        walk_at "pyCA"
        intro q hq
        have hT6 := hT5.up (sub_new (c := .dic []) hq)
        have hq1 : DL.put C1 q (.dic []) q = some (.dic []) := put_same
        generalize DL.put C1 q (.dic []) = CA at hT6 hq1 ⊢
        clear hq hT5
        refine ⟨a, q, _, rfl, rfl, hT6.ha, hq1, _, rfl, fun e0 => ?_, fun e0 => ⟨?_, ?_⟩⟩
        · walk_at "pyCA"
          refine ⟨bg, _, 4, rfl, hT6.bag, by omega, by decide, by decide, fun r l r0 r1 hB7 => ?_⟩
          have hT7 := hT6.draw hB7
          generalize DL.put CA bg (.lst l) = CB at hB7 hT7 ⊢
          clear hT6 hB7 hq1
          have hM0 : 1 ≤ M.length := by
            cases M with
            | nil => cases e0
            | cons _ _ => exact Nat.succ_le_succ (Nat.zero_le _)
          walk_at "pyCA"
          · refine ⟨a, _, M.map (·.1), rfl, hT7.ha, keys_mk M, by rw [List.length_map]; omega, fun ys q hp1 hs1 hq => ?_⟩
            have hT8 := hT7.up (sub_new (c := .lst (ys.map D.str)) hq)
            have hq1 : DL.put CB q (.lst (ys.map D.str)) q = some (.lst (ys.map D.str)) := put_same
            have hqb : q ≠ bg := (hT7.bag.ne hq).symm
            generalize DL.put CB q (.lst (ys.map D.str)) = CD at hT8 hq1 ⊢
            clear hq hT7
            walk_at "pyCA"
            refine lenX_ok hT8.ha (wa_nil ?_)
            refine ⟨bg, _, ((mkD id M).length : Nat), rfl, hT8.bag, by omega, by rw [len_mk]; omega, by rw [len_mk]; omega, fun r l r0 r1 hB9 => ?_⟩
            have hT9 := hT8.draw hB9
            have hq2 : DL.put CD bg (.lst l) q = some (.lst (ys.map D.str)) := by rw [put_ne hqb]; exact hq1
            generalize DL.put CD bg (.lst l) = CF at hB9 hT9 hq2 ⊢
            clear hT8 hB9 hq1
            refine Or.inl (ix_anyO hq2 r0 (by rw [len_mk] at r1; rw [List.length_map, hp1.length_eq, List.length_map]; exact r1) fun d hd => ?_)
            obtain ⟨s, hs, rfl⟩ := List.mem_map.mp hd
            have hsO := hT9.ok.ks s (hp1.mem_iff.mp hs)
            walk_at "pyCA"
            refine ⟨bg, _, 5, rfl, hT9.bag, by omega, by decide, by decide, fun r l r0 r1 hB10 => ?_⟩
            have hT10 := hT9.draw hB10
            generalize DL.put CF bg (.lst l) = CG at hB10 hT10 ⊢
            clear hT9 hB10 hq2
            refine Or.inl (ix_any r0 r1 fun x hx => ?_)
            have hxv := odd_vok x hx
            walk_at "pyCA"
            refine setX_ok hT10.ha (by rw [len_mk]; exact Nat.lt_of_le_of_lt (by omega : M.length ≤ 100) (by decide)) ?_
            refine wss_nil ?_
            exact ⟨_, _, rfl, hT10.set (by omega) hsO hxv⟩
          · exact ⟨M, _, rfl, hT7.mono (by omega)⟩
        · exact fun z => nomatch z
        · exact fun _ => wss_nil ⟨M, _, rfl, hT6.mono (by omega)⟩
      · rintro env' C2 ⟨M, o11, rfl, hT6⟩
        clear hT5 hMl
        obtain ⟨B, hDue, hBO, hBN⟩ := due_ex hT6.ok
        refine wsh_go ?_
        refine wss_consH ?_
        walk_at "pyCA"
        refine ⟨a, M, B, rfl, hT6.ha, hT6.ok, hDue, ?_⟩
        refine wsh_go ?_
        refine wss_consH ?_
        walk_at "pyCA"
        refine ⟨a, M, B, rfl, hT6.ha, hT6.ok, hDue, fun C3 hs3 => ?_⟩
        have hT7 := hT6.up hs3
        clear hs3 hT6
        obtain ⟨nB, hnB, hBf⟩ := opt_fit hBO
        walk_at "pyCA"
        refine ne_same hBf (by omega) ?_
        walk_at "pyCA"
        all_goals try walk_at "bad"
        refine wsh_go ?_
        refine wss_mid (fun env' C' => ∃ (p pa pb pd : Addr) (Mp : Kds), env' = [d0, d1, some (.own bg), some (.lst (zs.map D.str)), d4, some (.own a), o6, some (optD B), some (.own p), o9, o10, o11, o12, o13] ∧ Pg Cl p pa pb pd Mp C' ∧ T63 a bg M (n + 11) C' ∧ MOk Mp ∧ (∀ e ∈ Mp, e.2 = .non ∨ ∃ z, e.2 = .str z) ∧ (∀ s, (upW Mp s).2 = false) ∧ (B = none → Mp = M) ∧ (B ≠ none → Mp = [])) ?_ ?_
        · refine ws_nm hs (by walk_at "nm") (by walk_at "nm") ?_
          cases B with
          | none =>
            have hv := due_val hT7.ok fun s hs => (hBN rfl s hs).1
            have hb := back_no fun s hs => (hBN rfl s hs).2
            refine we_if ?_
            walk_at "pyCA"
            all_goals try walk_at "bad"
            refine x_make hx c1 (by walk_at "gl") ?_ (by omega)
            walk_at "pyC"
            intro e he
            walk_at "pyC"
            intro p hp
            have hsE := sub_new (c := .dic []) he
            have hep : e ≠ p := fun z => by rw [z, put_same] at hp; cases hp
            have hsP := sub_new (c := .ins Cl [] []) hp
            refine ⟨p, e, .own a, M, none, rfl, put_same, by rw [put_ne hep, put_same], .inr ⟨a, rfl, hsP _ _ (hsE _ _ hT7.ha)⟩, hT7.ok, hDue, fun _ C' a' b' d' hkeep hP => ⟨rfl, ?_⟩, fun s hs => by cases hs⟩
            exact ⟨p, a', b', d', M, rfl, hP, hT7.up (fun x z hz => hkeep x z (fun e => by rw [e] at hz; rw [hsE _ _ hz] at hp; cases hp) (hsP _ _ (hsE _ _ hz))), hT7.ok, hv, hb, fun _ => rfl, fun z => absurd rfl z⟩
          | some s0 =>
            refine we_if ?_
            walk_at "pyCA"
            all_goals try walk_at "bad"
            refine x_make hx c2 (by walk_at "gl") ?_ (by omega)
            walk_at "pyC"
            intro e he
            walk_at "pyC"
            intro p hp
            have hsE := sub_new (c := .dic []) he
            have hep : e ≠ p := fun z => by rw [z, put_same] at hp; cases hp
            have hsP := sub_new (c := .ins Cl [] []) hp
            refine ⟨p, e, .non, [], none, rfl, put_same, by rw [put_ne hep, put_same], .inl ⟨rfl, rfl⟩, mok_nil, due_nil', fun _ C' a' b' d' hkeep hP => ⟨rfl, ?_⟩, fun s hs => by cases hs⟩
            exact ⟨p, a', b', d', [], rfl, hP, hT7.up (fun x z hz => hkeep x z (fun e => by rw [e] at hz; rw [hsE _ _ hz] at hp; cases hp) (hsP _ _ (hsE _ _ hz))), mok_nil, (fun _ h => by simp at h), (fun s => rfl), (fun z => nomatch z), fun _ => rfl⟩
        · rintro env' C4 ⟨p, pa, pb, pd, Mp, rfl, hP, hT8, hMo, hMv, hMb, hM1, hM2⟩
          clear hT7
          refine wsh_go ?_
          refine wss_consH ?_
          refine x_for hx hnox (wi_list ?_)
          walk_at "pyCA"
          refine ⟨_, rfl, fun i env' C' => ∃ (o9 o12 o13 : Option D), env' = [d0, d1, some (.own bg), some (.lst (zs.map D.str)), d4, some (.own a), o6, some (optD B), some (.own p), o9, o10, o11, o12, o13] ∧ Pg Cl p pa pb pd Mp C' ∧ T63 a bg M (n + 11) C', ⟨_, _, _, rfl, hP, hT8⟩, fun _ _ _ _ => trivial, ?_, ?_⟩
          · clear hP hT8
            rintro i d env' C5 hi ⟨o9, o12, o13, rfl, hP, hT8⟩
            obtain ⟨s, hsz, rfl⟩ := List.mem_map.mp (List.mem_of_getElem? hi)
            have hsO := nm_ob (hzN s hsz)
            walk_at "wg"
            refine wss_consH ?_
            refine x_for hx hnox (wi_list ?_)
            walk_at "pyCA"
            refine ⟨_, rfl, fun i env' C' => ∃ (o12 o13 : Option D), env' = [d0, d1, some (.own bg), some (.lst (zs.map D.str)), d4, some (.own a), o6, some (optD B), some (.own p), some (.str s), o10, o11, o12, o13] ∧ Pg Cl p pa pb pd Mp C' ∧ T63 a bg M (n + 11) C', ⟨_, _, rfl, hP, hT8⟩, fun _ _ _ _ => trivial, ?_, ?_⟩
            · clear hP hT8
              rintro i d env' C6 hi ⟨o12, o13, rfl, hP, hT8⟩
              obtain ⟨t, htz, rfl⟩ := List.mem_map.mp (List.mem_of_getElem? hi)
              have htO := nm_ob (hzN t htz)
              walk_at "wg"
              refine wss_mid (fun env' C' => ∃ x : D, env' = [d0, d1, some (.own bg), some (.lst (zs.map D.str)), d4, some (.own a), o6, some (optD B), some (.own p), some (.str s), o10, o11, some (.str t), some x] ∧ Pg Cl p pa pb pd Mp C' ∧ T63 a bg M (n + 11) C' ∧ ((∃ ls : List Str, x = .lst (ls.map D.str) ∧ (∀ s ∈ ls, Ob (.str s)) ∧ (upW Mp s).1 = ls.map D.str) ∨ ∃ q, x = .own q ∧ C' q = some (.lst [.str s]) ∧ (upW Mp s).1 = [.str s])) ?_ ?_
              · refine ws_nm hs (by walk_at "nm") (by walk_at "nm") ?_
                cases B with
                | none =>
                  obtain rfl := hM1 rfl
                  obtain ⟨ls, hls, hlO, _⟩ := upW_strs hMv hMo hsO
                  refine we_if ?_
                  walk_at "pyCA"
                  all_goals try walk_at "bad"
                  refine ⟨a, Mp, s, rfl, hT8.ha, hT8.ok, hsO, ?_⟩
                  walk_at "pyCA"
                  exact ⟨_, rfl, hP, hT8, .inl ⟨ls, by rw [hls], hlO, hls⟩⟩
                | some s0 =>
                  obtain rfl := hM2 (fun z => nomatch z)
                  refine we_if ?_
                  walk_at "pyCA"
                  all_goals try walk_at "bad"
                  exact ⟨_, rfl, hP, hT8, .inl ⟨[s], rfl, fun y hy => by rw [List.mem_singleton.mp hy]; exact hsO, rfl⟩⟩
              · rintro env' C7 ⟨x, rfl, hP, hT8, hx13⟩
                walk_at "pyC"
                refine x_meth hx h5 ?_ (by omega)
                walk_at "pyC"
                refine ⟨⟨_, _, insD_own hP.ins, by decide +kernel⟩, ?_⟩
                walk_at "pyC"
                refine ⟨p, pa, pb, pd, Mp, s, t, rfl, hP, hMo, hMv, hMb s, hsO, ?_⟩
                have hin : ∀ kk : KD, kk (.bl (onW (upW Mp s) t)) C7 → dIn false (.str t) x C7 kk := by
                  intro kk hk
                  rcases hx13 with ⟨ls, rfl, hlO, hls⟩ | ⟨q, rfl, hq, hls⟩
                  · exact in_lst hlO htO (by rw [← on_strs hls]; exact hk)
                  · refine in_own (ks := [s]) hq (fun y hy => by rw [List.mem_singleton.mp hy]; exact hsO) ⟨htO, .inr (.inl ⟨t, rfl⟩)⟩ (fun z => nomatch z) ?_
                    rw [on_strs (ls := [s]) hls] at hk
                    exact hk
                walk_at "pyC"
                refine Or.inl (hin _ ?_)
                walk_at "pyC"
                · rename_i hh
                  rw [bne_self_eq_false] at hh
                  cases hh
                · exact ⟨_, _, rfl, hP, hT8⟩
            · rintro env' C6 ⟨o12, o13, rfl, hP, hT8⟩
              refine wsh_go (wss_nil ?_)
              exact ⟨_, _, _, rfl, hP, hT8⟩
          · rintro env' C5 ⟨o9, o12, o13, rfl, hP, hT8⟩
            refine wsh_go (wss_nil ?_)
            exact hE _ _ _ _ _ _ _ _ _ _ (hT8.bag.mono (by omega))
end
end K31
namespace K31
section
variable {P : Program} {w : World} {K : PySem.W.Frag} {mg : Str → Option Value} {base : Heap} {Cl Ce : Addr}
def spLaw : DSp := fun ds C k => ∃ ns : List Int, ds = [.slst (ns.map D.int)] ∧ ns.length ≤ 63 ∧ (∀ a, C a = none) ∧ k (.bl true) C
theorem ok_law {f : Addr} {fd : FuncData} (F : Fun K "law" "law" s_law f fd) (Z : Zs mg) (h0 : FnC P w K mg base "_law_source" 1 spSource) (h6 : FnC P w K mg base "_law_names" 2 spNames) (h1 : FnC P w K mg base "_law_draw" 1 spDraw) (h2 : FnC P w K mg base "_law_due" 3 spDueK) (h3 : FnC P w K mg base "_law_refused" 8 spRef) (h4 : FnC P w K mg base "_law_up" 1 spUp) (h5 : MthC P w K mg base Cl "is_kind" 1 [] (spIsKind Cl))
    (c1 : MakC P w K mg base "Program" Cl 5 [] fun ds C k => spPgI Cl Ce ds C k fun _ _ _ => False) (c2 : MakC P w K mg base "Program" Cl 5 [.non] fun ds C k => spPgI Cl Ce ds C k fun _ _ _ => False) : FnG P w K mg base CX0 10 f fd P_law (toSp K spLaw) := by
  refine fnS F sc_law v_law l_law g_law (fun ds C k h => by obtain ⟨_, rfl, _⟩ := h; rfl) fun X hB ds C k h => ?_
  obtain ⟨ns0, rfl, hl63, hC0, h⟩ := h
  have fin : ∀ C', ∃ C2, Sub C2 C' ∧ k (.bl true) C2 := fun C' => ⟨C, (show Sub C C' from fun a c e => by rw [hC0 a] at e; cases e), h⟩
  clear h
  obtain ⟨hx, hn, hs, hg, hd, hnox⟩ := hB
  change WSs X _ [some (.slst (ns0.map D.int)), none, none, none, none, none, none, none, none, none, none, none, none, none] C _
  refine wss_consH ?_
  refine x_for hx hnox (x_range1 hx Z (by walk_at "gl") ?_)
  walk_at "pyA"
  refine ⟨_, rfl, by split <;> (try split) <;> omega, by split <;> (try split) <;> omega, ?_⟩
  refine ⟨fun i env C' => ∃ o1 o2 o3 o4 o5 o6 o7 o8 o9 o10 o11 o12 o13 : Option D, env = [some (.slst (ns0.map D.int)), o1, o2, o3, o4, o5, o6, o7, o8, o9, o10, o11, o12, o13], ⟨_, _, _, _, _, _, _, _, _, _, _, _, _, rfl⟩, fun _ _ _ _ => trivial, ?_, ?_⟩
  · rintro i d env C1 hd' ⟨o1, o2, o3, o4, o5, o6, o7, o8, o9, o10, o11, o12, o13, rfl⟩
    obtain ⟨hi, rfl⟩ := intsFrom_get hd'
    have hi6 : i < 6 := by
      have : ∀ j : Int, j ≤ 6 → i < j.toNat → i < 6 := fun j h1 h2 => by omega
      refine this _ ?_ hi
      split <;> (try split) <;> omega
    walk_at "wg"
    refine wss_gen ?_
    intro EE hEE _
    refine wss_consH ?_
    walk_at "pyCA"
    refine ⟨ns0, i, by rw [Int.zero_add], by omega, fun bg l hbg hB0 => ?_⟩
    walk_at "pyCA"
    refine wsh_go (wss_consH ?_)
    walk_at "pyCA"
    refine ⟨bg, 0, rfl, hB0, by omega, fun l1 zs z6 zN hB1 => ?_⟩
    rw [put_put] at hB1 ⊢
    generalize DL.put C1 bg (.lst l1) = C2 at hB1 ⊢
    clear hB0 hbg
    refine wsh_go (wss_consH ?_)
    refine x_for hx hnox (x_range1 hx Z (by walk_at "gl") ?_)
    walk_at "pyC"
    refine ⟨8, rfl, by omega, by omega, ?_⟩
    refine ⟨fun j env C' => ∃ o4 o5 o6 o7 o8 o9 o10 o11 o12 o13 : Option D, env = [some (.slst (ns0.map D.int)), some (.int (0 + (i : Nat))), some (.own bg), some (.lst (zs.map D.str)), o4, o5, o6, o7, o8, o9, o10, o11, o12, o13] ∧ Bag C' bg (20 + 20 * j), ⟨_, _, _, _, _, _, _, _, _, _, rfl, hB1⟩, fun _ _ _ _ => trivial, ?_, ?_⟩
    · clear hB1
      rintro j d env CD hd' ⟨o4, o5, o6, o7, o8, o9, o10, o11, o12, o13, rfl, hT⟩
      obtain ⟨hj, rfl⟩ := intsFrom_get hd'
      have hj : j < 8 := by simpa using hj
      walk_at "wg"
      refine wss_gen ?_
      intro E2 hE2 _
      refine turn63 (Cl := Cl) (Ce := Ce) (by kernel_rfl) hx hn hs hg hd hnox Z h1 h2 h3 h4 h5 c1 c2 z6 zN (by omega) hT ?_
      intro C' o5 o6 o7 o8 o9 o10 o11 o12 o13 hT'
      exact hE2 _ _ ⟨_, _, _, _, _, _, _, _, _, _, rfl, hT'.mono (by omega)⟩
    · rintro env CD ⟨o4, o5, o6, o7, o8, o9, o10, o11, o12, o13, rfl, hT⟩
      refine wsh_go ?_
      refine wss_nil ?_
      exact hEE _ _ ⟨_, _, _, _, _, _, _, _, _, _, _, _, _, rfl⟩
  · rintro env CD ⟨o1, o2, o3, o4, o5, o6, o7, o8, o9, o10, o11, o12, o13, rfl⟩
    refine wsh_go ?_
    refine wss_consH ?_
    walk_at "pyC"
    exact fin _
end
end K31
namespace K31
section
variable {P : Program} {w : World} {K : PySem.W.Frag} {mg : Str → Option Value} {base : Heap} {Ce : Addr}
abbrev bm_BadKinds : List Value := [.type "ValueError", .type "Exception", .type "BaseException", .type "object"]
theorem ok_xBadKinds {fI : Addr} {fd : FuncData} (F : Fun K "__init__" "BadKinds.__init__" s_BadKinds___init__ fI fd) (T : OxB K "ValueError.__new__" bm_BadKinds Ce) (hm : mg "ValueError" = none)
    (vV : PySem.W.findCls K (.type "ValueError") (.type "type") "__init__" = some (.val (.builtin "ValueError.__init__"))) (hno : PySem.W.findIn K (.ref Ce) "kind" = some none) (n : Nat) : FnOk P w K mg base CX0 (n + 1) fI fd P_BadKinds___init__ (spXI Ce "kind") := by
  refine F.ok sc_BadKinds___init__ (fun vs H Q E h => by obtain ⟨a, y, rfl, _⟩ := h; rfl) fun cdv A outer s H vs Q E hr h => ?_
  obtain ⟨a, y, rfl, ha, hq⟩ := h
  obtain ⟨X, hX⟩ : ∃ X : Cx, X = (cxOf CX0 P w K mg base N_BadKinds___init__ "BadKinds.__init__" (defScope s_BadKinds___init__) fI cdv A outer s H E).nox := ⟨_, rfl⟩
  have hNm : Nms X N_BadKinds___init__ M_BadKinds___init__ := by rw [hX]; exact nms_of rfl (sc := defScope s_BadKinds___init__) rfl sc_BadKinds___init__.nd v_BadKinds___init__
  have hGl : Gls X D_BadKinds___init__ := by rw [hX]; exact gls_of (sc := defScope s_BadKinds___init__) rfl g_BadKinds___init__
  have hmg : X.mg = mg := by rw [hX]; rfl
  have hK : X.K = K := by rw [hX]; rfl
  rw [← hX]
  clear hX
  have i0 : X.N[0]? = some ("self" : Str) := by rw [hNm.n]; rfl
  have i1 : X.N[1]? = some ("kind" : Str) := by rw [hNm.n]; rfl
  have b0 := fun p => pe_var (X := X) (i := 0) (pos := p) i0 (hNm.vis "self" (by simp))
  have b1 := fun p => pe_var (X := X) (i := 1) (pos := p) i1 (hNm.vis "kind" (by simp))
  refine ⟨_, pss_cons (ps_expr (pe_bI xb_ValueError (hGl.gl "ValueError" (by simp)) (by rw [hmg]; exact hm) (by decide +kernel) (by rw [hK]; exact vV) (pa_cons (b0 _) (pa_cons pe_str pa_nil)) (by decide) (by decide) rfl (by decide +kernel))) (pss_cons (ps_ostB xb_ValueError (b0 _) (b1 _)) pss_nil), ?_⟩
  refine ⟨V.ref a, rfl, ?_⟩
  refine ⟨a, Ce, [.str "not kinds"], rfl, by simp, by rw [hK]; exact T, ha, ?_⟩
  refine ⟨y, rfl, V.ref a, rfl, a, Ce, rfl, by rw [hK]; exact T, by rw [hK]; exact hno, ha, fun dx h1 h2 => ?_⟩
  exact hq dx h1 h2
end
end K31
namespace K31
section
theorem dat_ints {K : PySem.W.Frag} {G : Hp} : ∀ ns : List Int, DatAll K G (ns.map V.int) (ns.map D.int)
  | [] => .nil
  | _ :: ns => .cons (.int _) (dat_ints ns)
theorem wld0 {K : PySem.W.Frag} {H : Hp} (hO : Only H) : Wld K H (fun _ => none) H := ⟨fun _ _ h => h, fun _ _ e => (by cases e), fun a ps e => (by rcases hO a with h | ⟨o, xs, h⟩ <;> (rw [h] at e; cases e))⟩

theorem all_mk {l : PySem.W.OpenLaw} {w : World} {K : PySem.W.Frag} {h : Heap} {mg : Str → Option Value} {fa : Addr} (X : K.In h) (G : h.Ns mainGlobals mg) (hfa : mg "law" = some (.ref fa))
    {C1 : Addr}
    {f1 : Addr} {od1 an1 : Option Addr} {sl1 : Array (Option Value)} {oc1 kV1 dc1 pm1 cd1 ct1 : Value}
    {f2 : Addr} {od2 an2 : Option Addr} {sl2 : Array (Option Value)} {oc2 kV2 dc2 pm2 cd2 ct2 : Value}
    {f3 : Addr} {od3 an3 : Option Addr} {sl3 : Array (Option Value)} {oc3 kV3 dc3 pm3 cd3 ct3 : Value}
    {f4 : Addr} {od4 an4 : Option Addr} {sl4 : Array (Option Value)} {oc4 kV4 dc4 pm4 cd4 ct4 : Value}
    {f5 : Addr} {od5 an5 : Option Addr} {sl5 : Array (Option Value)} {oc5 kV5 dc5 pm5 cd5 ct5 : Value}
    {f6 : Addr} {od6 an6 : Option Addr} {sl6 : Array (Option Value)} {oc6 kV6 dc6 pm6 cd6 ct6 : Value}
    {f7 : Addr} {od7 an7 : Option Addr} {sl7 : Array (Option Value)} {oc7 kV7 dc7 pm7 cd7 ct7 : Value}
    {f8 : Addr} {od8 an8 : Option Addr} {sl8 : Array (Option Value)} {oc8 kV8 dc8 pm8 cd8 ct8 : Value}
    {f9 : Addr} {od9 an9 : Option Addr} {sl9 : Array (Option Value)} {oc9 kV9 dc9 pm9 cd9 ct9 : Value}
    {dt9 : Addr} {odt9 : Option Addr} {nt9 : Nat} {slt9 : Array (Option Value)}
    {f10 : Addr} {od10 an10 : Option Addr} {sl10 : Array (Option Value)} {oc10 kV10 dc10 pm10 cd10 ct10 : Value}
    {f11 : Addr} {od11 an11 : Option Addr} {sl11 : Array (Option Value)} {oc11 kV11 dc11 pm11 cd11 ct11 : Value}
    {f12 : Addr} {od12 an12 : Option Addr} {sl12 : Array (Option Value)} {oc12 kV12 dc12 pm12 cd12 ct12 : Value}
    {f13 : Addr} {od13 an13 : Option Addr} {sl13 : Array (Option Value)} {oc13 kV13 dc13 pm13 cd13 ct13 : Value}
    {f14 : Addr} {od14 an14 : Option Addr} {sl14 : Array (Option Value)} {oc14 kV14 dc14 pm14 cd14 ct14 : Value}
    {f15 : Addr} {od15 an15 : Option Addr} {sl15 : Array (Option Value)} {oc15 kV15 dc15 pm15 cd15 ct15 : Value}
    {f16 : Addr} {od16 an16 : Option Addr} {sl16 : Array (Option Value)} {oc16 kV16 dc16 pm16 cd16 ct16 : Value}
    {f17 : Addr} {od17 an17 : Option Addr} {sl17 : Array (Option Value)} {oc17 kV17 dc17 pm17 cd17 ct17 : Value}
    {f18 : Addr} {od18 an18 : Option Addr} {sl18 : Array (Option Value)} {oc18 kV18 dc18 pm18 cd18 ct18 : Value}
    {X1 XN1 : Addr} {xnm1 xq1 : Str} {xbs1 xsb1 : List Value} {xsn1 : List Str} {xab1 : Bool} {xco1 : Option Bool} {xdd1 : Option Addr} {xk01 xk11 xk21 xk31 xk51 : Option Value}
    {tk0 : Tok}
    {tk1 : Tok}
    {tk2 : Tok}
    {tk3 : Tok}
    {tk4 : Tok}
    (aC1 : PySem.W.nsIn K mainGlobals "Program" = some (some (.ref C1))) (cg1 : PySem.W.plainGet K C1 Str.empty = true) (ch1 : PySem.W.hasDictIn K C1 = true) (co1 : PySem.W.plainOver K C1 = true) (cx1 : PySem.W.findIn K (.ref C1) "__setattr__" = some (some (.builtin "object.__setattr__"))) (cm1 : PySem.W.makesIn K C1 = true) (ck1 : PySem.W.keepIn K (.ref C1) = true) (n1_0 : PySem.W.findIn K (.ref C1) "above" = some none) (n1_1 : PySem.W.findIn K (.ref C1) "kept" = some none) (n1_2 : PySem.W.findIn K (.ref C1) "defined" = some none)
    (l1 : K.lookup f1 = some ⟨oc1, od1, .func (PySem.W.fnOf "__init__" "BadKinds.__init__" (defArgs s_BadKinds___init__) (defBody s_BadKinds___init__) (defScope s_BadKinds___init__) .none kV1 dc1 pm1 an1 cd1 ct1), sl1⟩) (c1 : PySem.W.codeIn K cd1 "BadKinds.__init__" = true) (k1 : PySem.W.keepIn K (.ref f1) = true)
    (a2 : PySem.W.nsIn K mainGlobals "is_name" = some (some (.ref f2))) (l2 : K.lookup f2 = some ⟨oc2, od2, .func (PySem.W.fnOf "is_name" "is_name" (defArgs s_is_name) (defBody s_is_name) (defScope s_is_name) .none kV2 dc2 pm2 an2 cd2 ct2), sl2⟩) (c2 : PySem.W.codeIn K cd2 "is_name" = true) (k2 : PySem.W.keepIn K (.ref f2) = true)
    (a3 : PySem.W.nsIn K mainGlobals "comes_back" = some (some (.ref f3))) (l3 : K.lookup f3 = some ⟨oc3, od3, .func (PySem.W.fnOf "comes_back" "comes_back" (defArgs s_comes_back) (defBody s_comes_back) (defScope s_comes_back) .none kV3 dc3 pm3 an3 cd3 ct3), sl3⟩) (c3 : PySem.W.codeIn K cd3 "comes_back" = true) (k3 : PySem.W.keepIn K (.ref f3) = true)
    (a4 : PySem.W.nsIn K mainGlobals "look_kinds" = some (some (.ref f4))) (l4 : K.lookup f4 = some ⟨oc4, od4, .func (PySem.W.fnOf "look_kinds" "look_kinds" (defArgs s_look_kinds) (defBody s_look_kinds) (defScope s_look_kinds) .none kV4 dc4 pm4 an4 cd4 ct4), sl4⟩) (c4 : PySem.W.codeIn K cd4 "look_kinds" = true) (k4 : PySem.W.keepIn K (.ref f4) = true)
    (a5 : PySem.W.nsIn K mainGlobals "look_files" = some (some (.ref f5))) (l5 : K.lookup f5 = some ⟨oc5, od5, .func (PySem.W.fnOf "look_files" "look_files" (defArgs s_look_files) (defBody s_look_files) (defScope s_look_files) .none kV5 dc5 pm5 an5 cd5 ct5), sl5⟩) (c5 : PySem.W.codeIn K cd5 "look_files" = true) (k5 : PySem.W.keepIn K (.ref f5) = true)
    (a6 : PySem.W.findIn K (.ref C1) "look_calls" = some (some (.ref f6))) (i6 : PySem.W.isFn K (.ref f6) = true) (l6 : K.lookup f6 = some ⟨oc6, od6, .func (PySem.W.fnOf "look_calls" "Program.look_calls" (defArgs s_Program_look_calls) (defBody s_Program_look_calls) (defScope s_Program_look_calls) .none kV6 dc6 pm6 an6 cd6 ct6), sl6⟩) (c6 : PySem.W.codeIn K cd6 "Program.look_calls" = true) (k6 : PySem.W.keepIn K (.ref f6) = true)
    (a7 : PySem.W.findIn K (.ref C1) "look_size" = some (some (.ref f7))) (i7 : PySem.W.isFn K (.ref f7) = true) (l7 : K.lookup f7 = some ⟨oc7, od7, .func (PySem.W.fnOf "look_size" "Program.look_size" (defArgs s_Program_look_size) (defBody s_Program_look_size) (defScope s_Program_look_size) .none kV7 dc7 pm7 an7 cd7 ct7), sl7⟩) (c7 : PySem.W.codeIn K cd7 "Program.look_size" = true) (k7 : PySem.W.keepIn K (.ref f7) = true)
    (a8 : PySem.W.findIn K (.ref C1) "is_kind" = some (some (.ref f8))) (i8 : PySem.W.isFn K (.ref f8) = true) (l8 : K.lookup f8 = some ⟨oc8, od8, .func (PySem.W.fnOf "is_kind" "Program.is_kind" (defArgs s_Program_is_kind) (defBody s_Program_is_kind) (defScope s_Program_is_kind) .none kV8 dc8 pm8 an8 cd8 ct8), sl8⟩) (c8 : PySem.W.codeIn K cd8 "Program.is_kind" = true) (k8 : PySem.W.keepIn K (.ref f8) = true)
    (a9 : PySem.W.findIn K (.ref C1) "__init__" = some (some (.ref f9))) (i9 : PySem.W.isFn K (.ref f9) = true) (l9 : K.lookup f9 = some ⟨oc9, od9, .func (PySem.W.fnOf "__init__" "Program.__init__" (defArgs s_Program___init__) (defBody s_Program___init__) (defScope s_Program___init__) (.ref dt9) kV9 dc9 pm9 an9 cd9 ct9), sl9⟩) (c9 : PySem.W.codeIn K cd9 "Program.__init__" = true) (k9 : PySem.W.keepIn K (.ref f9) = true) (dtl9 : K.lookup dt9 = some ⟨.type "tuple", odt9, .seq #[.none] nt9, slt9⟩)
    (a10 : PySem.W.nsIn K mainGlobals "_law_source" = some (some (.ref f10))) (l10 : K.lookup f10 = some ⟨oc10, od10, .func (PySem.W.fnOf "_law_source" "_law_source" (defArgs s_source) (defBody s_source) (defScope s_source) .none kV10 dc10 pm10 an10 cd10 ct10), sl10⟩) (c10 : PySem.W.codeIn K cd10 "_law_source" = true) (k10 : PySem.W.keepIn K (.ref f10) = true)
    (a11 : PySem.W.nsIn K mainGlobals "_law_draw" = some (some (.ref f11))) (l11 : K.lookup f11 = some ⟨oc11, od11, .func (PySem.W.fnOf "_law_draw" "_law_draw" (defArgs s_draw) (defBody s_draw) (defScope s_draw) .none kV11 dc11 pm11 an11 cd11 ct11), sl11⟩) (c11 : PySem.W.codeIn K cd11 "_law_draw" = true) (k11 : PySem.W.keepIn K (.ref f11) = true)
    (a12 : PySem.W.nsIn K mainGlobals "_law_names" = some (some (.ref f12))) (l12 : K.lookup f12 = some ⟨oc12, od12, .func (PySem.W.fnOf "_law_names" "_law_names" (defArgs s_names) (defBody s_names) (defScope s_names) .none kV12 dc12 pm12 an12 cd12 ct12), sl12⟩) (c12 : PySem.W.codeIn K cd12 "_law_names" = true) (k12 : PySem.W.keepIn K (.ref f12) = true)
    (a13 : PySem.W.nsIn K mainGlobals "_law_is_name" = some (some (.ref f13))) (l13 : K.lookup f13 = some ⟨oc13, od13, .func (PySem.W.fnOf "_law_is_name" "_law_is_name" (defArgs s_law_is_name) (defBody s_law_is_name) (defScope s_law_is_name) .none kV13 dc13 pm13 an13 cd13 ct13), sl13⟩) (c13 : PySem.W.codeIn K cd13 "_law_is_name" = true) (k13 : PySem.W.keepIn K (.ref f13) = true)
    (a14 : PySem.W.nsIn K mainGlobals "_law_value_right" = some (some (.ref f14))) (l14 : K.lookup f14 = some ⟨oc14, od14, .func (PySem.W.fnOf "_law_value_right" "_law_value_right" (defArgs s_value_right) (defBody s_value_right) (defScope s_value_right) .none kV14 dc14 pm14 an14 cd14 ct14), sl14⟩) (c14 : PySem.W.codeIn K cd14 "_law_value_right" = true) (k14 : PySem.W.keepIn K (.ref f14) = true)
    (a15 : PySem.W.nsIn K mainGlobals "_law_up" = some (some (.ref f15))) (l15 : K.lookup f15 = some ⟨oc15, od15, .func (PySem.W.fnOf "_law_up" "_law_up" (defArgs s_up) (defBody s_up) (defScope s_up) .none kV15 dc15 pm15 an15 cd15 ct15), sl15⟩) (c15 : PySem.W.codeIn K cd15 "_law_up" = true) (k15 : PySem.W.keepIn K (.ref f15) = true)
    (a16 : PySem.W.nsIn K mainGlobals "_law_due" = some (some (.ref f16))) (l16 : K.lookup f16 = some ⟨oc16, od16, .func (PySem.W.fnOf "_law_due" "_law_due" (defArgs s_due) (defBody s_due) (defScope s_due) .none kV16 dc16 pm16 an16 cd16 ct16), sl16⟩) (c16 : PySem.W.codeIn K cd16 "_law_due" = true) (k16 : PySem.W.keepIn K (.ref f16) = true)
    (a17 : PySem.W.nsIn K mainGlobals "_law_refused" = some (some (.ref f17))) (l17 : K.lookup f17 = some ⟨oc17, od17, .func (PySem.W.fnOf "_law_refused" "_law_refused" (defArgs s_refused) (defBody s_refused) (defScope s_refused) .none kV17 dc17 pm17 an17 cd17 ct17), sl17⟩) (c17 : PySem.W.codeIn K cd17 "_law_refused" = true) (k17 : PySem.W.keepIn K (.ref f17) = true)
    (a18 : PySem.W.nsIn K mainGlobals "law" = some (some (.ref f18))) (l18 : K.lookup f18 = some ⟨oc18, od18, .func (PySem.W.fnOf "law" "law" (defArgs s_law) (defBody s_law) (defScope s_law) .none kV18 dc18 pm18 an18 cd18 ct18), sl18⟩) (c18 : PySem.W.codeIn K cd18 "law" = true) (k18 : PySem.W.keepIn K (.ref f18) = true)
    (xa1 : PySem.W.nsIn K mainGlobals "BadKinds" = some (some (.ref X1))) (xl1 : K.lookup X1 = some (excClassObj xnm1 xq1 X1 XN1 xbs1 bm_BadKinds true xsn1 xsb1 xab1 xco1 xdd1 xk01 xk11 xk21 xk31 xk51 "ValueError.__new__")) (xs1 : PySem.W.findIn K (.ref X1) "__setattr__" = some (some (.builtin "object.__setattr__"))) (xe1 : PySem.W.subIn K (.ref X1) (.type "BaseException") = some true) (xt1 : PySem.W.typeIn K (.ref X1) = some (.type "type")) (xp1 : PySem.W.keepIn K (.ref X1) = true) (xi1 : PySem.W.findIn K (.ref X1) "__init__" = some (some (.ref f1))) (xy1 : PySem.W.typeIn K (.ref f1) = some (.type "function")) (xv1 : PySem.W.findCls K (.type "ValueError") (.type "type") "__init__" = some (.val (.builtin "ValueError.__init__"))) (xn1 : PySem.W.findIn K (.ref X1) "kind" = some none) (xg1 : PySem.W.findIn K (.ref X1) "__getattribute__" = some (some (.builtin "BaseException.__getattribute__"))) (xh1 : PySem.W.findIn K (.ref X1) "__getattr__" = some none) (xd1 : PySem.W.hasDictIn K X1 = true) (xm1 : PySem.W.subIn K (.ref X1) (.ref X1) = some true) (xz1 : PySem.W.nsIn K mainGlobals "ValueError" = some none)
    (va1 : PySem.W.findIn K (.ref X1) "__class__" = some (some (.builtin "object.__class__"))) (vb1 : PySem.W.specialIn K (.builtin "object.__class__") "__get__" = some (some (.builtin "getset_descriptor.__get__"))) (vc1 : PySem.W.takesIn K (.builtin "object.__class__") = some true) (vd1 : PySem.W.mroIn K X1 (.type "object") = some true)
    (ws1_0 : PySem.W.subIn K (.ref X1) (.type "ValueError") = some true) (wz1_0 : PySem.W.nsIn K mainGlobals "ValueError" = some none)
    (m0 : PySem.W.nsIn K mainGlobals "LETTERS" = some (some (.str "abcdefghijklmnopqrstuvwxyz" tk0)))
    (m1 : PySem.W.nsIn K mainGlobals "MOST_LETTERS" = some (some (.int 8 tk1)))
    (m2 : PySem.W.nsIn K mainGlobals "MOST_FILES" = some (some (.int 4 tk2)))
    (m3 : PySem.W.nsIn K mainGlobals "MOST_FUNCTIONS" = some (some (.int 8 tk3)))
    (m4 : PySem.W.nsIn K mainGlobals "MOST_LINES" = some (some (.int 120 tk4)))
    (z0 : PySem.W.nsIn K mainGlobals "int" = some none)
    (z1 : PySem.W.nsIn K mainGlobals "bool" = some none)
    (z2 : PySem.W.nsIn K mainGlobals "str" = some none)
    (z3 : PySem.W.nsIn K mainGlobals "list" = some none)
    (z4 : PySem.W.nsIn K mainGlobals "tuple" = some none)
    (z5 : PySem.W.nsIn K mainGlobals "len" = some none)
    (z6 : PySem.W.nsIn K mainGlobals "isinstance" = some none)
    (z7 : PySem.W.nsIn K mainGlobals "abs" = some none)
    (z8 : PySem.W.nsIn K mainGlobals "min" = some none)
    (z9 : PySem.W.nsIn K mainGlobals "max" = some none)
    (z10 : PySem.W.nsIn K mainGlobals "any" = some none)
    (z11 : PySem.W.nsIn K mainGlobals "all" = some none)
    (z12 : PySem.W.nsIn K mainGlobals "sum" = some none)
    (z13 : PySem.W.nsIn K mainGlobals "range" = some none)
    (z14 : PySem.W.nsIn K mainGlobals "zip" = some none)
    (z15 : PySem.W.nsIn K mainGlobals "enumerate" = some none)
    (z16 : PySem.W.nsIn K mainGlobals "repr" = some none)
    (z17 : PySem.W.nsIn K mainGlobals "sorted" = some none)
    (z18 : PySem.W.nsIn K mainGlobals "dict" = some none) :
    ∃ fd : FuncData, (∀ (s : Shared) (v : Value), BindsTo s fd ⟨[v], []⟩ [("_law_script", v)]) ∧ ∀ base : Heap, K.In base → base.Ns mainGlobals mg → FnG l.prog w K mg base CX0 10 fa fd ["_law_script"] (toSp K spLaw) := by
  have e := hfa.symm.trans (PySem.W.mg_of X G a18)
  cases e
  have Z : Zs mg := ⟨PySem.W.mg_none_of X G z0, PySem.W.mg_none_of X G z1, PySem.W.mg_none_of X G z2, PySem.W.mg_none_of X G z3, PySem.W.mg_none_of X G z4, PySem.W.mg_none_of X G z5, PySem.W.mg_none_of X G z6, PySem.W.mg_none_of X G z7, PySem.W.mg_none_of X G z8, PySem.W.mg_none_of X G z9, PySem.W.mg_none_of X G z10, PySem.W.mg_none_of X G z11, PySem.W.mg_none_of X G z12, PySem.W.mg_none_of X G z13, PySem.W.mg_none_of X G z14, PySem.W.mg_none_of X G z15, PySem.W.mg_none_of X G z16, PySem.W.mg_none_of X G z17, PySem.W.mg_none_of X G z18⟩
  have g0 : MgK K mg "LETTERS" (.str "abcdefghijklmnopqrstuvwxyz") := mgk_str (PySem.W.mg_of X G m0)
  have g1 : MgK K mg "MOST_LETTERS" (.int 8) := mgk_int (PySem.W.mg_of X G m1)
  have g2 : MgK K mg "MOST_FILES" (.int 4) := mgk_int (PySem.W.mg_of X G m2)
  have g3 : MgK K mg "MOST_FUNCTIONS" (.int 8) := mgk_int (PySem.W.mg_of X G m3)
  have g4 : MgK K mg "MOST_LINES" (.int 120) := mgk_int (PySem.W.mg_of X G m4)
  have cls1 : Cls K C1 := ⟨cg1, ch1, co1, cx1⟩
  have T1 := (⟨⟨cls1, n1_0⟩, ⟨cls1, n1_1⟩, ⟨cls1, n1_2⟩⟩ : Pgc K C1)
  have F1 := fun_mk (st := s_BadKinds___init__) l1 c1 k1
  have b1 := F1.binds (ps := ["self", "kind"]) fun _ _ _ _ _ _ us hl => match us, hl with | [_, _], _ => rfl
  have F2 := fun_mk (st := s_is_name) l2 c2 k2
  have b2 := F2.binds (ps := ["thing"]) fun _ _ _ _ _ _ us hl => match us, hl with | [_], _ => rfl
  have F3 := fun_mk (st := s_comes_back) l3 c3 k3
  have b3 := F3.binds (ps := ["kind", "above"]) fun _ _ _ _ _ _ us hl => match us, hl with | [_, _], _ => rfl
  have F4 := fun_mk (st := s_look_kinds) l4 c4 k4
  have b4 := F4.binds (ps := ["above"]) fun _ _ _ _ _ _ us hl => match us, hl with | [_], _ => rfl
  have F5 := fun_mk (st := s_look_files) l5 c5 k5
  have b5 := F5.binds (ps := ["files"]) fun _ _ _ _ _ _ us hl => match us, hl with | [_], _ => rfl
  have F6 := fun_mk (st := s_Program_look_calls) l6 c6 k6
  have b6 := F6.binds (ps := ["self"]) fun _ _ _ _ _ _ us hl => match us, hl with | [_], _ => rfl
  have F7 := fun_mk (st := s_Program_look_size) l7 c7 k7
  have b7 := F7.binds (ps := ["self"]) fun _ _ _ _ _ _ us hl => match us, hl with | [_], _ => rfl
  have F8 := fun_mk (st := s_Program_is_kind) l8 c8 k8
  have b8 := F8.binds (ps := ["self", "kind", "other"]) fun _ _ _ _ _ _ us hl => match us, hl with | [_, _, _], _ => rfl
  have FD9 := funD_one (st := s_Program___init__) l9 c9 k9 dtl9
  have F10 := fun_mk (st := s_source) l10 c10 k10
  have b10 := F10.binds (ps := ["_law_script", "_law_place"]) fun _ _ _ _ _ _ us hl => match us, hl with | [_, _], _ => rfl
  have F11 := fun_mk (st := s_draw) l11 c11 k11
  have b11 := F11.binds (ps := ["_law_source_here", "_law_many"]) fun _ _ _ _ _ _ us hl => match us, hl with | [_, _], _ => rfl
  have F12 := fun_mk (st := s_names) l12 c12 k12
  have b12 := F12.binds (ps := ["_law_source_here", "_law_many"]) fun _ _ _ _ _ _ us hl => match us, hl with | [_, _], _ => rfl
  have F13 := fun_mk (st := s_law_is_name) l13 c13 k13
  have b13 := F13.binds (ps := ["_law_thing"]) fun _ _ _ _ _ _ us hl => match us, hl with | [_], _ => rfl
  have F14 := fun_mk (st := s_value_right) l14 c14 k14
  have b14 := F14.binds (ps := ["_law_thing"]) fun _ _ _ _ _ _ us hl => match us, hl with | [_], _ => rfl
  have F15 := fun_mk (st := s_up) l15 c15 k15
  have b15 := F15.binds (ps := ["_law_above", "_law_kind"]) fun _ _ _ _ _ _ us hl => match us, hl with | [_, _], _ => rfl
  have F16 := fun_mk (st := s_due) l16 c16 k16
  have b16 := F16.binds (ps := ["_law_above"]) fun _ _ _ _ _ _ us hl => match us, hl with | [_], _ => rfl
  have F17 := fun_mk (st := s_refused) l17 c17 k17
  have b17 := F17.binds (ps := ["_law_above"]) fun _ _ _ _ _ _ us hl => match us, hl with | [_], _ => rfl
  refine ⟨PySem.W.fnOf "law" "law" (defArgs s_law) (defBody s_law) (defScope s_law) .none kV18 dc18 pm18 an18 cd18 ct18, fun s v => .of_eq rfl, fun base _ _ => ?_⟩
  have hox1 : OxB K "ValueError.__new__" bm_BadKinds X1 := ⟨⟨_, _, _, _, _, _, _, _, _, _, _, _, _, _, xl1⟩, xs1, xe1, xt1, xp1⟩
  have hxm1 : XMk l.prog w K mg base "BadKinds" X1 "kind" 1 := ⟨PySem.W.mg_of X G xa1, _, _, _, _, _, _, _, xb_ValueError, hox1, xi1, xy1, ok_xBadKinds F1 hox1 (PySem.W.mg_none_of X G xz1) xv1 xn1 0, b1⟩
  have hxf1 : XfC K X1 := ⟨xg1, xh1, xe1, xd1⟩
  have hxi1 : XIs K X1 := ⟨hxf1, va1, vb1, vc1, vd1⟩
  have hk1_0 : PySem.W.kitOne K (.ref X1) (.type "ValueError") = some true := kit_bt (by decide +kernel) ws1_0
  have hz1_0 : mg "ValueError" = none := PySem.W.mg_none_of X G wz1_0
  have hxc1 : XCat K mg "BadKinds" X1 := ⟨PySem.W.mg_of X G xa1, PySem.W.exm_ref xe1 xd1 xt1 xm1⟩
  have h2 : FnC l.prog w K mg base "is_name" 1 spIsNm := ⟨_, _, _, ok_isName F2 Z g0 g1, PySem.W.mg_of X G a2, k2, b2⟩
  have h3 : FnC l.prog w K mg base "comes_back" 1 spBack := ⟨_, _, _, ok_back F3 Z, PySem.W.mg_of X G a3, k3, b3⟩
  have hLK : FnXC l.prog w K mg base "look_kinds" 4 [] (spLookK X1) := ⟨_, PySem.W.mg_of X G a4, k4, _, _, [], [], ok_lookKinds 1 (by decide) F4 Z h2 h3 hxm1, b4, .nil, fun _ => .nil⟩
  have h5 : FnC l.prog w K mg base "look_files" 1 spLookF := ⟨_, _, _, ok_lookFiles F5 Z, PySem.W.mg_of X G a5, k5, b5⟩
  have h6 : MthC l.prog w K mg base C1 "look_calls" 1 [] (spLookC C1) := ⟨cls1, _, ⟨a6, i6, k6⟩, ⟨_, _, _, _, ok_lookCalls F6 T1 Z, b6, .nil, fun _ => .nil⟩⟩
  have h7 : MthC l.prog w K mg base C1 "look_size" 1 [] (spLookS C1) := ⟨cls1, _, ⟨a7, i7, k7⟩, ⟨_, _, _, _, ok_lookSize F7 T1 Z g2 g3 g4, b7, .nil, fun _ => .nil⟩⟩
  have h8 : MthC l.prog w K mg base C1 "is_kind" 1 [] (spIsKind C1) := ⟨cls1, _, ⟨a8, i8, k8⟩, ⟨_, _, _, _, ok_isKind F8 T1, b8, .nil, fun _ => .nil⟩⟩
  have hPI := ok_pgInit (P := l.prog) (w := w) (mg := mg) (base := base) (Ce := X1) (FunW.of FD9) T1 Z h5 hLK h6 h7
  have hMX : MakX l.prog w K mg base "Program" C1 5 [] (spPgI C1 X1) := ⟨PySem.W.mg_of X G aC1, _, ⟨cm1, a9, i9, ck1⟩, _, _, [], [], hPI, bd_pg3 FD9, .nil, fun _ => .nil⟩
  have hM1 : MakC l.prog w K mg base "Program" C1 5 [] (fun ds C k => spPgI C1 X1 ds C k fun _ _ _ => False) := ⟨PySem.W.mg_of X G aC1, _, ⟨cm1, a9, i9, ck1⟩, _, _, [], [], fnG_good hPI, bd_pg3 FD9, .nil, fun _ => .nil⟩
  obtain ⟨dsP, vdP, bP⟩ := bd_pg2 FD9
  have hM2 : MakC l.prog w K mg base "Program" C1 5 [.non] (fun ds C k => spPgI C1 X1 ds C k fun _ _ _ => False) := ⟨PySem.W.mg_of X G aC1, _, ⟨cm1, a9, i9, ck1⟩, _, _, dsP, _, fnG_good hPI, bP, vdP, fun _ => .cons .non .nil⟩
  have h63 : X63 K mg X1 := ⟨hxi1, hxc1, hk1_0, hz1_0, xn1⟩
  have h10 : FnC l.prog w K mg base "_law_source" 1 spSource := ⟨_, _, _, ok_source F10 Z, PySem.W.mg_of X G a10, k10, b10⟩
  have h11 : FnC l.prog w K mg base "_law_draw" 1 spDraw := ⟨_, _, _, ok_draw F11 , PySem.W.mg_of X G a11, k11, b11⟩
  have h12 : FnC l.prog w K mg base "_law_names" 2 spNames := ⟨_, _, _, ok_names F12 Z h11, PySem.W.mg_of X G a12, k12, b12⟩
  have h13 : FnC l.prog w K mg base "_law_is_name" 1 spIsNm := ⟨_, _, _, ok_lawIsName F13 Z, PySem.W.mg_of X G a13, k13, b13⟩
  have h14 : FnC l.prog w K mg base "_law_value_right" 2 spVR := ⟨_, _, _, ok_vr F14 Z h13, PySem.W.mg_of X G a14, k14, b14⟩
  have h15 : FnC l.prog w K mg base "_law_up" 1 spUp := ⟨_, _, _, ok_up F15 Z, PySem.W.mg_of X G a15, k15, b15⟩
  have h16 : FnC l.prog w K mg base "_law_due" 3 spDueK := ⟨_, _, _, ok_dueK F16 Z h13 h14 h15, PySem.W.mg_of X G a16, k16, b16⟩
  have h17 : FnC l.prog w K mg base "_law_refused" 8 spRef := ⟨_, _, _, ok_refused F17 Z (h63) (hMX), PySem.W.mg_of X G a17, k17, b17⟩
  exact ok_law (fun_mk (st := s_law) l18 c18 k18) Z h10 h12 h11 h16 h17 h15 h8 (hM1) (hM2)
theorem walk {l : PySem.W.OpenLaw} {q : Program} {loose : List Str} {XP : (Str → Option Value) → Heap → Prop} {YP : World → Heap → Prop} {d : DefRec} {K : Params → PySem.W.Frag} (hn : l.most = some 63) (hdf : d.params.defaults = [])
    (hY : ∀ (w : World) (h : Heap), YP w h → (K w.params).In h)
    (F : ∀ (w : World) (mg : Str → Option Value) (fa : Addr) (h : Heap), (K w.params).In h → h.Ns mainGlobals mg → mg d.name = some (.ref fa) →
      ∃ fd : FuncData, (∀ (s : Shared) (u : Value), BindsTo s fd ⟨[u], []⟩ [("_law_script", u)]) ∧ ∀ base : Heap, (K w.params).In base → base.Ns mainGlobals mg → FnG l.prog w (K w.params) mg base CX0 10 fa fd ["_law_script"] (toSp (K w.params) spLaw)) :
    PySem.W.WalkO q loose XP YP l.row.toRowW d [] (fun f vs => PySem.call f vs) :=
  walk_ofG (z := 63) (n := 10) (x := "_law_script") (CT := fun _ => CX0) (sp := fun w => toSp (K w.params) spLaw) hn (by decide) hdf ⟨rfl, by decide, by decide⟩ hY F
    (fun w H a ns hl hbits hO hS => ⟨H, fun _ => none, [.slst (ns.map D.int)], fun d _ => d = .bl true, wld0 hO, .cons (.slst hS (dat_ints ns)) .nil, ⟨ns, rfl, hl, fun _ => rfl, rfl⟩, fun v G' C' H' d f w' r z => by subst z; cases r; rfl⟩) fun _ _ _ _ _ z => z
end
end K31

open PySem PySem.W PyProof.Rows in
set_option maxRecDepth 100000 in
set_option maxHeartbeats 0 in
theorem PySem.Challenge.cw_chainedreports_k63_kinds_fit_holds : PySem.Challenge.rw_chainedreports_k63_kinds_fit.Holds := by
  w_on; o_law; k_head; (case hw => w_witness2)
  k_fill
  refine K31.walk (l := PySem.Challenge.rw_chainedreports_k63_kinds_fit) rfl rfl (fun w h Y => PySem.W.kIn_of Y) ?F
  case F =>
    intro w mg fa h KX G hmg
    refine' K31.all_mk KX G hmg ?aC1 ?cg1 ?ch1 ?co1 ?cx1 ?cm1 ?ck1 ?n1_0 ?n1_1 ?n1_2 ?l1 ?c1 ?k1 ?a2 ?l2 ?c2 ?k2 ?a3 ?l3 ?c3 ?k3 ?a4 ?l4 ?c4 ?k4 ?a5 ?l5 ?c5 ?k5 ?a6 ?i6 ?l6 ?c6 ?k6 ?a7 ?i7 ?l7 ?c7 ?k7 ?a8 ?i8 ?l8 ?c8 ?k8 ?a9 ?i9 ?l9 ?c9 ?k9 ?dtl9 ?a10 ?l10 ?c10 ?k10 ?a11 ?l11 ?c11 ?k11 ?a12 ?l12 ?c12 ?k12 ?a13 ?l13 ?c13 ?k13 ?a14 ?l14 ?c14 ?k14 ?a15 ?l15 ?c15 ?k15 ?a16 ?l16 ?c16 ?k16 ?a17 ?l17 ?c17 ?k17 ?a18 ?l18 ?c18 ?k18 ?xa1 ?xl1 ?xs1 ?xe1 ?xt1 ?xp1 ?xi1 ?xy1 ?xv1 ?xn1 ?xg1 ?xh1 ?xd1 ?xm1 ?xz1 ?va1 ?vb1 ?vc1 ?vd1 ?ws1_0 ?wz1_0 ?m0 ?m1 ?m2 ?m3 ?m4 ?z0 ?z1 ?z2 ?z3 ?z4 ?z5 ?z6 ?z7 ?z8 ?z9 ?z10 ?z11 ?z12 ?z13 ?z14 ?z15 ?z16 ?z17 ?z18
    (case aC1 => k_is)
    (case cg1 => k_is)
    (case ch1 => k_is)
    (case co1 => k_is)
    (case cx1 => k_is)
    (case cm1 => k_is)
    (case ck1 => k_is)
    (case n1_0 => k_is)
    (case n1_1 => k_is)
    (case n1_2 => k_is)
    (case a2 => k_is)
    (case l2 => k_is)
    (case c2 => k_is)
    (case k2 => k_is)
    (case a3 => k_is)
    (case l3 => k_is)
    (case c3 => k_is)
    (case k3 => k_is)
    (case a4 => k_is)
    (case l4 => k_is)
    (case c4 => k_is)
    (case k4 => k_is)
    (case a5 => k_is)
    (case l5 => k_is)
    (case c5 => k_is)
    (case k5 => k_is)
    (case a6 => k_is)
    (case i6 => k_is)
    (case l6 => k_is)
    (case c6 => k_is)
    (case k6 => k_is)
    (case a7 => k_is)
    (case i7 => k_is)
    (case l7 => k_is)
    (case c7 => k_is)
    (case k7 => k_is)
    (case a8 => k_is)
    (case i8 => k_is)
    (case l8 => k_is)
    (case c8 => k_is)
    (case k8 => k_is)
    (case a9 => k_is)
    (case i9 => k_is)
    (case l9 => k_is)
    (case c9 => k_is)
    (case k9 => k_is)
    (case dtl9 => k_is)
    (case a10 => k_is)
    (case l10 => k_is)
    (case c10 => k_is)
    (case k10 => k_is)
    (case a11 => k_is)
    (case l11 => k_is)
    (case c11 => k_is)
    (case k11 => k_is)
    (case a12 => k_is)
    (case l12 => k_is)
    (case c12 => k_is)
    (case k12 => k_is)
    (case a13 => k_is)
    (case l13 => k_is)
    (case c13 => k_is)
    (case k13 => k_is)
    (case a14 => k_is)
    (case l14 => k_is)
    (case c14 => k_is)
    (case k14 => k_is)
    (case a15 => k_is)
    (case l15 => k_is)
    (case c15 => k_is)
    (case k15 => k_is)
    (case a16 => k_is)
    (case l16 => k_is)
    (case c16 => k_is)
    (case k16 => k_is)
    (case a17 => k_is)
    (case l17 => k_is)
    (case c17 => k_is)
    (case k17 => k_is)
    (case a18 => k_is)
    (case l18 => k_is)
    (case c18 => k_is)
    (case k18 => k_is)
    (case xa1 => k_is)
    (case xl1 => k_is)
    (case xs1 => k_is)
    (case xe1 => k_is)
    (case xt1 => k_is)
    (case xp1 => k_is)
    (case xi1 => k_is)
    (case xy1 => k_is)
    (case xv1 => k_is)
    (case xn1 => k_is)
    (case xg1 => k_is)
    (case xh1 => k_is)
    (case xd1 => k_is)
    (case xm1 => k_is)
    (case xz1 => k_is)
    (case va1 => k_is)
    (case vb1 => k_is)
    (case vc1 => k_is)
    (case vd1 => k_is)
    (case ws1_0 => k_is)
    (case wz1_0 => k_is)
    (case m0 => k_is)
    (case m1 => k_is)
    (case m2 => k_is)
    (case m3 => k_is)
    (case m4 => k_is)
    (case z0 => k_is)
    (case z1 => k_is)
    (case z2 => k_is)
    (case z3 => k_is)
    (case z4 => k_is)
    (case z5 => k_is)
    (case z6 => k_is)
    (case z7 => k_is)
    (case z8 => k_is)
    (case z9 => k_is)
    (case z10 => k_is)
    (case z11 => k_is)
    (case z12 => k_is)
    (case z13 => k_is)
    (case z14 => k_is)
    (case z15 => k_is)
    (case z16 => k_is)
    (case z17 => k_is)
    (case z18 => k_is)
    (case l1 => k_is)
    (case c1 => k_is)
    (case k1 => k_is)
