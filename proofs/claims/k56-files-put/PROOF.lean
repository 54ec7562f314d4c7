import PyProof.Rows.All
import Wide.All
import OpenK.AllK
import Wide.FinOn
import HandS.ForMost
import HandS.Property
import HandS.EndBits
import HandS.IsInst
import HandS.Zip
import HandS.Flow
import HandS.Wide
import HandS.Deep
import HandS.TupAny
import HandS.TupMul
import HandS.WideBits
import HandS.Replace
import HandS.StrMore
import HandS.More
import HandS.TryOnly
import PyProof.ReprRoads
import PyProof.ReprLen
import PyProof.Rows.StrBoot
import HandS.Comp
import PyProof.P3Eq
import HandS.Style
import HandS.WordsDict
import HandS.Dict
import KE.GoesEnum
import PySem.Challenge.RW_chainedreports_k56_files_put
set_option Elab.async false
set_option linter.all false
set_option maxRecDepth 100000
/-! DG0: promises of defs that are called where no text of a list is being made (no guard stands around). -/
namespace DL
open PySem PySem.Spec PyProof.Rows L2
/-- FnOk, where no guard stands around -/
structure FnG (P : Program) (w : World) (K : PySem.W.Frag) (mg : Str → Option Value) (base : Heap) (CT : CXT) (n : Nat) (fa : Addr) (fd : FuncData) (ps : List Str) (sp : Sp) : Prop where
  len : ∀ as H Q E, sp as H Q E → as.length = ps.length
  run : ∀ {A : Around} {out : List Env} {s : Shared} {H : Hp} {ar : Args} {us : List Value} {as : List V} {Q : VK} {E : XK}, A.guards = some [] → Room n A → Env0 P w K mg base A out s H →
    BindsTo s fd ar (ps.zip us) → Vals as us → sp as H Q E → codeAny (model P w) A (.call (.ref fa) ar) (CR CT out P w H s Q E) s
section
variable {P : Program} {w : World} {K : PySem.W.Frag} {mg : Str → Option Value} {base : Heap} {CT : CXT} {n m : Nat} {fa : Addr} {fd : FuncData} {ps : List Str} {sp : Sp}
theorem FnG.mono (F : FnG P w K mg base CT n fa fd ps sp) (h : n ≤ m) : FnG P w K mg base CT m fa fd ps sp := ⟨F.len, fun g r => F.run g (r.mono h)⟩
/-- from the body -/
theorem fnG_of {x qual : Str} {st : Stmt} {N : List Str} (F : Fun K x qual st fa fd) (S : FnScope N ps (defScope st)) (len : ∀ as H Q E, sp as H Q E → as.length = ps.length)
    (hb : ∀ (cdv : Value) (A : Around) (out : List Env) (s : Shared) (H : Hp) (as : List V) (Q : VK) (E : XK), A.guards = some [] → Room n (A.deeper (envOfC qual (defScope st) s.heap.objs.size fa cdv)) → sp as H Q E →
      ∃ t, PSs (cxOf CT P w K mg base N qual (defScope st) fa cdv A out s H E) (defBody st) t ∧ t { nx := fun _ H1 => Q .non H1, rt := Q } (start N as) H) : FnG P w K mg base CT (n + 1) fa fd ps sp := by
  obtain ⟨oc, od, kV, doc, pm, an, cdv, ct, osl, rfl, hlook, hcode⟩ := F.ex
  refine ⟨len, ?_⟩
  intro A out s H ar us as Q E hguard hroom env0 hbind hvals hsp
  have inK : K.In s.heap := env0.mod.kin.keeps fun a o q => (env0.bs a o q).1
  have noLim : s.heap.NoLimit := env0.mod.nolimit.keeps fun a o q => (env0.bs a o q).1
  refine codeAny_call_function hroom.depth (inK _ _ hlook) rfl S.co S.gen rfl (PySem.W.codeRec_of inK hcode) (hbind _ _ _ _ ?_)
  refine wpAny_newFunctionEnv_cells S.kind ?_ ?_
  · rintro ⟨nm, v⟩ hin
    rcases S.par nm (List.of_mem_zip hin).1 with q | q
    · exact .inl q
    · exact .inr ⟨q, PySem.W.cellsFrom_some _ _ _ (.inl q)⟩
  · intro env henv s1 inc
    subst henv
    refine ⟨noLim.keeps inc.toInCall.keep, codeAny_func ?_⟩
    obtain ⟨t, pt, qt⟩ := hb cdv A out s H as Q E hguard (hroom.deeper _) hsp
    have inv := inv_start (E := E) (CX := CT) S hroom.hd env0 (len _ _ _ _ hsp) hvals inc
    refine wpAny_mono (pt.run [] s1 (start N as) H _ inv qt) ?_ fun e s' z => z
    intro fl s' z
    cases fl with
    | ret u =>
      obtain ⟨v, _, H1, J, rv, q⟩ := z
      exact ⟨v, H1, J.os, J.bare, J.base, J.hok, rv, q⟩
    | next =>
      obtain ⟨_, H1, J, q⟩ := z
      exact ⟨V.non, H1, J.os, J.bare, J.base, J.hok, rfl, q⟩
    | brk => exact z.elim fun _ z => z.elim fun _ z => z.2.elim
    | cont => exact z.elim fun _ z => z.elim fun _ z => z.2.elim
end
section
variable {X : Cx} {CT : CXT} {n : Nat} {fa Ca : Addr} {fd : FuncData} {ps : List Str} {sp : Sp} {E : XK} {x m : Str} {p pos apos : Pos} {e o : Expr} {es : List Expr} {ta : TE} {t : TA}
theorem goG {pins : List (Addr × Obj)} {σ : L2.St} {H : Hp} {s : Shared} {Q : VK} {us : List Value} {as : List V} (F : FnG X.prog X.w X.K X.mg X.base CT n fa fd ps sp) (hgd : X.A.guards = some []) (hr : Room n X.A) (hb : Binds X.K fd ps []) (hx : Passes CT X E)
    (I : Inv X pins σ H s) (r : Vals as us) (h : sp as H Q E) : wpAny (model X.prog X.w) X.A (call (.ref fa) us) (EP X pins σ Q) X.xe s := by
  have hlen : (us ++ ([] : List Value)).length = ps.length := by
    rw [List.append_nil, ← r.length]
    exact F.len _ _ _ _ h
  have hbind := hb s us I.kIn hlen
  rw [List.append_nil] at hbind
  refine wpAny_call (codeAny_mono (F.run hgd hr I.env0 hbind r h) ?_)
  intro res s' z
  match res, z with
  | .error e, z => exact hx pins σ H s e s' I z
  | .ok (.ret u), z => exact I.after z
theorem pe_callG (F : FnG X.prog X.w X.K X.mg X.base CT n fa fd ps sp) (hgd : X.A.guards = some []) (hr : Room n X.A) (hg : Gl X x) (hm : X.mg x = some (.ref fa)) (hk : PySem.W.keepIn X.K (.ref fa) = true) (hb : Binds X.K fd ps []) (hx : Passes CT X E)
    (ha : PA X (e :: es) t) (hdb : (x == ("__debug__" : Str)) = false := by decide) (he : starEach (e :: es) X.env = (false, eval e X.env) :: starEach es X.env := by rfl) (hpl : (backTo pos (starEach es X.env)).any (·.1) = false := by rfl) :
    PE X (.Call (.Name x p) (e :: es) [] pos) (tCall sp [] E t) := ⟨fun pins s σ H Q I h => wpAny_Call_Name_kw (ld_glob I hg hm (PySem.W.callWith_K (h₀ := X.base) I.ok.mod.kin hk (thn (ha.run pos pins s σ H _ I h) fun us s1 z => by
      obtain ⟨as, H1, I1, r, q⟩ := z
      refine ⟨I1.kIn, goG F hgd hr hb hx I1 r ?_⟩
      rwa [List.append_nil] at q) he hpl) hdb)⟩
theorem pe_callG0 (F : FnG X.prog X.w X.K X.mg X.base CT n fa fd ps sp) (hgd : X.A.guards = some []) (hr : Room n X.A) (hg : Gl X x) (hm : X.mg x = some (.ref fa)) (hk : PySem.W.keepIn X.K (.ref fa) = true) (hb : Binds X.K fd ps []) (hx : Passes CT X E)
    (hdb : (x == ("__debug__" : Str)) = false := by decide) : PE X (.Call (.Name x p) [] [] pos) (tCall sp [] E tNil) :=
  ⟨fun pins s σ H Q I h => wpAny_Call_Name_kw (ld_glob I hg hm (PySem.W.callWith_K0 I.kIn hk (goG (us := []) F hgd hr hb hx I .nil h)) hdb)⟩
end
/-! ### the law's own call -/
section
variable {P : Program} {w : World} {K : PySem.W.Frag} {mg mb : Str → Option Value} {CT : CXT} {n : Nat} {fa a : Addr} {fd : FuncData} {x : Str} {sp : Sp} {s : Shared} {vs : List Value} {ns : List Int}
def EndT (s : Shared) (r : Result) (s' : Shared) : Prop := r = .ok (.ret (.bool true)) ∧ OldK s.heap s'.heap ∧ s'.os = s.os ∧ AllBare s'.gens
theorem law_at (KX : K.In s.heap) (hns : s.heap.Ns mainGlobals mg) (hb : s.heap.Ns builtinsNs mb) (hbb : ∀ y : Str, y ≠ "__name__" → mb y = bootBuiltins y) (hlim : s.heap.NoLimit) (hgen : s.gens = #[])
    (ha : s.heap.get? a = some { cls := .type "list", data := .seq vs.toArray }) (hr : Room n callerA)
    (F : ∀ base : Heap, K.In base → base.Ns mainGlobals mg → FnG P w K mg base CT n fa fd [x] sp) (hbind : ∀ (s : Shared) (u : Value), BindsTo s fd ⟨[u], []⟩ [(x, u)])
    (hCT : ∀ H e s', CT [] H s (fun _ _ _ => False) e s' → False) {H : Hp} (hO : Only H) (hsp : sp [.ref a] H (fun v _ => v = .bl true) fun _ _ _ => False) (hok : HOk P w H s.heap) (hone : ∀ b, b ≠ a → H b = none) (hK : H a ≠ none → K.lookup a = none) :
    codeAny (model P w) callerA (.call (.ref fa) ⟨[.ref a], []⟩) (EndT s) s := by
  have hid : ∀ {b : Addr} {ob : Obj}, s.heap.get? b = some ob → (b = a → H a = none) → (hidT s.heap H).get? b = some ob := fun {b ob} q z => hidT_get q (by
    by_cases e : b = a
    · rw [e]; exact z e
    · exact hone b e)
  have nsT : ∀ {b : Addr} {f : Str → Option Value}, s.heap.Ns b f → (hidT s.heap H).Ns b f := by
    rintro b f ⟨ob, es, ep, q, d, rest⟩
    refine ⟨ob, es, ep, hid q fun e => ?_, d, rest⟩
    rw [e, ha] at q
    cases q
    cases (d : Data.seq vs.toArray _ = Data.dict es ep)
  have kinT : K.In (hidT s.heap H) := fun b ob q => hid (KX b ob q) fun e => by
    cases z : H a with
    | none => rfl
    | some u =>
      rw [e, hK (by rw [z]; exact nofun)] at q
      cases q
  obtain ⟨mc, l1, l2⟩ := hlim
  have env0 : Env0 P w K mg (hidT s.heap H) callerA [] s H :=
    { frames := rfl, mod := ⟨kinT, nsT hns, ⟨mb, nsT hb, hbb⟩, ⟨mc, nsT l1, l2⟩⟩, bs := fun _ _ q => of_hidT q, bsz := Nat.le_of_eq (hidT_size _ _), funs := trivial, frf := (fun b z => (nomatch z)), hok := hok, bare := .of_eq hgen }
  refine codeAny_mono ((F _ kinT (nsT hns)).run (us := [.ref a]) (as := [.ref a]) rfl hr env0 (hbind s (.ref a)) (.cons rfl .nil) hsp) ?_
  intro res s' z
  match res, z with
  | .error e, z => exact (hCT H e s' z).elim
  | .ok (.ret u), z =>
    obtain ⟨v, H1, os, bare, un, hok1, ru, hv⟩ := z
    obtain rfl : v = .bl true := hv
    obtain rfl : u = Value.bool true := ru
    refine ⟨rfl, OldK.of_keep fun b ob q => ?_, os, bare⟩
    rcases hO b with c | ⟨oc, xs, c⟩
    · exact un.keep b ob q c (fun z => nomatch z) (by simp)
    · obtain ⟨c1, _⟩ := hok b _ c
      obtain ⟨c2, _⟩ := hok1 b _ (un.frzs b oc _ c)
      rw [q] at c1
      cases c1
      exact c2
theorem law_callG (KX : K.In s.heap) (hns : s.heap.Ns mainGlobals mg) (hb : s.heap.Ns builtinsNs mb) (hbb : ∀ y : Str, y ≠ "__name__" → mb y = bootBuiltins y) (hlim : s.heap.NoLimit) (hgen : s.gens = #[])
    (ha : s.heap.get? a = some { cls := .type "list", data := .seq vs.toArray }) (hi : IntsAre vs ns) (hl : ns.length ≤ sizeLine) (hr : Room n callerA)
    (F : ∀ base : Heap, K.In base → base.Ns mainGlobals mg → FnG P w K mg base CT n fa fd [x] sp) (hbind : ∀ (s : Shared) (u : Value), BindsTo s fd ⟨[u], []⟩ [(x, u)])
    (hsp : ∀ H : Hp, Only H → SqL K H a (ns.map V.int) → sp [.ref a] H (fun v _ => v = .bl true) fun _ _ _ => False) (hCT : ∀ H e s', CT [] H s (fun _ _ _ => False) e s' → False) :
    codeAny (model P w) callerA (.call (.ref fa) ⟨[.ref a], []⟩) (EndT s) s := by
  have rv : Vals (ns.map V.int) vs := vals_ints hi
  have hsz : (ns.map V.int).length ≤ sizeLine := by rwa [List.length_map]
  by_cases hk : ∃ ob, K.lookup a = some ob
  · obtain ⟨ob, hk⟩ := hk
    have q := KX a ob hk
    rw [ha] at q
    cases q
    have hO : Only fun _ => none := fun _ => .inl rfl
    exact law_at KX hns hb hbb hlim hgen ha hr F hbind hCT hO (hsp _ hO (.inr ⟨_, vs.toArray, _, hk, rfl, rfl, rfl, by rw [List.size_toArray, ← rv.length]; exact hsz, by simpa using rv⟩)) (fun b u z => nomatch z) (fun _ _ => rfl) fun z => absurd rfl z
  · let H : Hp := upd (fun _ => none) a (.frz { cls := .type "list", data := .seq vs.toArray } (.lst (ns.map V.int)))
    have e1 : H a = some (.frz { cls := .type "list", data := .seq vs.toArray } (.lst (ns.map V.int))) := upd_same
    have e2 : ∀ b, b ≠ a → H b = none := fun b z => upd_ne z
    have hO : Only H := fun b => by
      by_cases z : b = a
      · rw [z]; exact .inr ⟨_, _, e1⟩
      · exact .inl (e2 b z)
    refine law_at KX hns hb hbb hlim hgen ha hr F hbind hCT hO (hsp H hO (.inl (.inr ⟨_, e1⟩))) ?_ e2 fun _ => ?_
    · intro b u z
      by_cases zb : b = a
      · subst zb
        rw [e1] at z
        cases z
        exact ⟨ha, hsz, vs, _, rv, ha⟩
      · rw [e2 b zb] at z; cases z
    · cases z : K.lookup a with
      | none => rfl
      | some ob => exact absurd ⟨ob, z⟩ hk
end
theorem walk_ofG {l : PySem.W.OpenLaw} {z n : Nat} {q : Program} {loose : List Str} {XP : (Str → Option Value) → Heap → Prop} {YP : World → Heap → Prop} {d : DefRec} {K : Params → PySem.W.Frag} {CT : World → CXT} {sp : World → Sp} {x : Str}
    (hz : l.most = some z) (hz2 : z ≤ sizeLine) (hdf : d.params.defaults = []) (hr : Room n callerA) (hY : ∀ (w : World) (h : Heap), YP w h → (K w.params).In h)
    (F : ∀ (w : World) (mg : Str → Option Value) (fa : Addr) (h : Heap), (K w.params).In h → h.Ns mainGlobals mg → mg d.name = some (.ref fa) →
      ∃ fd : FuncData, (∀ (s : Shared) (u : Value), BindsTo s fd ⟨[u], []⟩ [(x, u)]) ∧ ∀ base : Heap, (K w.params).In base → base.Ns mainGlobals mg → FnG l.prog w (K w.params) mg base (CT w) n fa fd [x] (sp w))
    (hsp : ∀ (w : World) (H : Hp) (a : Addr) (ns : List Int), ns.length ≤ z → (∀ i ∈ ns, Builtin.Int.intBits i ≤ 1048576) → Only H → SqL (K w.params) H a (ns.map V.int) → sp w [.ref a] H (fun v _ => v = .bl true) fun _ _ _ => False)
    (hCT : ∀ (w : World) (H : Hp) (s : Shared) (e : Value) (s' : Shared), CT w [] H s (fun _ _ _ => False) e s' → False) : PySem.W.WalkO q loose XP YP l.row.toRowW d [] (fun f vs => PySem.call f vs) := by
  refine Att.attach_callB hz hdf ?_
  intro w s₀ s mg mb fa o pm cd doc a vs ns G Y ho hd hcd hmg hobj hints hlen hbits hgen
  have inK := hY w _ Y
  obtain ⟨fd, hbind, hF⟩ := F w mg fa _ inK G.T.g hmg
  exact law_callG inK G.T.g G.T.b G.T.builtins G.T.nolimit hgen hobj hints (Nat.le_trans hlen hz2) hr hF hbind (fun H hO hS => hsp w H a ns hlen hbits hO hS) fun H e s' => hCT w H s e s'
end DL
/-! DLa: a layer of data over the hand layer: data as trees, cells that change, readings by data. -/
namespace DL
open PySem PySem.Spec PyProof.Rows L2

/-- data: trees of what does not change; slst: a list of the module or the script; own: a cell that may change; opq: anything else -/
inductive D where
  | non | bl (b : Bool) | int (i : Int) | str (x : Str)
  | lst (xs : List D) | tup (xs : List D) | slst (xs : List D)
  | obj (C : Addr) (ks : List Str) (xs : List D)
  | own (a : Addr)
  | opq (v : V)

/-- what stands in a cell -/
inductive Cell where
  | lst (xs : List D)
  | dic (kvs : List (Key × D))
  | ins (C : Addr) (ks : List Str) (xs : List D)

abbrev CS := Addr → Option Cell
def put (C : CS) (a : Addr) (c : Cell) : CS := fun b => if b = a then some c else C b
def del (C : CS) (a : Addr) : CS := fun b => if b = a then none else C b
theorem put_same {C : CS} {a : Addr} {c : Cell} : put C a c a = some c := by unfold put; rw [if_pos rfl]
theorem put_ne {C : CS} {a b : Addr} {c : Cell} (h : b ≠ a) : put C a c b = C b := by unfold put; rw [if_neg h]
theorem put_put {C : CS} {a : Addr} {c d : Cell} : put (put C a c) a d = put C a d := by
  funext b; unfold put; split <;> rfl
theorem del_same {C : CS} {a : Addr} : del C a a = none := by unfold del; rw [if_pos rfl]
theorem del_ne {C : CS} {a b : Addr} (h : b ≠ a) : del C a b = C b := by unfold del; rw [if_neg h]
theorem del_put {C : CS} {a : Addr} {c : Cell} (h : C a = none) : del (put C a c) a = C := by
  funext b; unfold del put; split
  · rename_i e; rw [e, h]
  · rfl
theorem cell_ne {C : CS} {a b : Addr} {c : Cell} (h : C a = some c) (h' : C b = none) : a ≠ b := by
  intro e; subst e; rw [h] at h'; cases h'

mutual
inductive Dat (K : PySem.W.Frag) (G : Hp) : V → D → Prop
  | non : Dat K G .non .non
  | bl (b : Bool) : Dat K G (.bl b) (.bl b)
  | int (i : Int) : Dat K G (.int i) (.int i)
  | str (x : Str) : Dat K G (.str x) (.str x)
  | lst {a : Addr} {xs : List V} {ds : List D} : G a = some (.lst xs) → DatAll K G xs ds → Dat K G (.ref a) (.lst ds)
  | slst {a : Addr} {xs : List V} {ds : List D} : SqL K G a xs → DatAll K G xs ds → Dat K G (.ref a) (.slst ds)
  | tup {a : Addr} {xs : List V} {ds : List D} : SqT K G a xs → DatAll K G xs ds → Dat K G (.ref a) (.tup ds)
  | obj {a C dx : Addr} {fs : List (Str × V)} {ks : List Str} {ds : List D} : G a = some (.ins C dx fs) → fs.map (·.1) = ks → DatAll K G (fs.map (·.2)) ds → Dat K G (.ref a) (.obj C ks ds)
  | own (a : Addr) : Dat K G (.ref a) (.own a)
  | opq (v : V) : Dat K G v (.opq v)
inductive DatAll (K : PySem.W.Frag) (G : Hp) : List V → List D → Prop
  | nil : DatAll K G [] []
  | cons {v : V} {vs : List V} {d : D} {ds : List D} : Dat K G v d → DatAll K G vs ds → DatAll K G (v :: vs) (d :: ds)
end

theorem Same.sqT {K : PySem.W.Frag} {H H' : Hp} {a : Addr} {xs : List V} (e : Same H H') (h : SqT K H a xs) : SqT K H' a xs := by
  rcases h with (h | ⟨o, h⟩) | h
  · exact .inl (.inl (e _ _ h))
  · exact .inl (.inr ⟨o, e _ _ h⟩)
  · exact .inr h

section
variable {K : PySem.W.Frag} {G G' : Hp}
mutual
theorem Dat.mono (e : Same G G') : ∀ (d : D) {v : V}, Dat K G v d → Dat K G' v d
  | .non, _, h => by cases h; exact .non
  | .bl _, _, h => by cases h; exact .bl _
  | .int _, _, h => by cases h; exact .int _
  | .str _, _, h => by cases h; exact .str _
  | .lst ds, _, h => by
    cases h with
    | lst a b => exact .lst (e _ _ a) (DatAll.mono e ds b)
  | .slst ds, _, h => by
    cases h with
    | slst a b => exact .slst (e.seq a) (DatAll.mono e ds b)
  | .tup ds, _, h => by
    cases h with
    | tup a b => exact .tup (Same.sqT e a) (DatAll.mono e ds b)
  | .obj _ _ ds, _, h => by
    cases h with
    | obj a b c => exact .obj (e _ _ a) b (DatAll.mono e ds c)
  | .own _, _, h => by cases h; exact .own _
  | .opq _, _, h => by cases h; exact .opq _
theorem DatAll.mono (e : Same G G') : ∀ (ds : List D) {vs : List V}, DatAll K G vs ds → DatAll K G' vs ds
  | [], _, h => by cases h; exact .nil
  | d :: ds, _, h => by
    cases h with
    | cons a b => exact .cons (Dat.mono e d a) (DatAll.mono e ds b)
end
theorem DatAll.length : ∀ {vs : List V} {ds : List D}, DatAll K G vs ds → vs.length = ds.length
  | _, [], h => by cases h; rfl
  | _, d :: ds, h => by
    cases h with
    | cons a b => simp [DatAll.length b]
theorem DatAll.get : ∀ {vs : List V} {ds : List D} {i : Nat} {d : D}, DatAll K G vs ds → ds[i]? = some d → ∃ v, vs[i]? = some v ∧ Dat K G v d
  | _, [], i, d, h, e => by simp at e
  | _, x :: ds, i, d, h, e => by
    cases h with
    | cons a b =>
      cases i with
      | zero => simp at e; subst e; exact ⟨_, rfl, a⟩
      | succ i =>
        obtain ⟨v, h1, h2⟩ := DatAll.get (i := i) b (by simpa using e)
        exact ⟨v, by simpa using h1, h2⟩
theorem DatAll.get' : ∀ {vs : List V} {ds : List D} {i : Nat} {v : V}, DatAll K G vs ds → vs[i]? = some v → ∃ d, ds[i]? = some d ∧ Dat K G v d
  | _, [], i, v, h, e => by cases h; simp at e
  | _, x :: ds, i, v, h, e => by
    cases h with
    | cons a b =>
      cases i with
      | zero => simp at e; subst e; exact ⟨_, rfl, a⟩
      | succ i =>
        obtain ⟨d, h1, h2⟩ := DatAll.get' (i := i) b (by simpa using e)
        exact ⟨d, by simpa using h1, h2⟩
theorem DatAll.append : ∀ {vs ws : List V} {ds es : List D}, DatAll K G vs ds → DatAll K G ws es → DatAll K G (vs ++ ws) (ds ++ es)
  | _, _, [], _, h, k => by cases h; exact k
  | _, _, d :: ds, _, h, k => by
    cases h with
    | cons a b => exact .cons a (DatAll.append b k)
theorem DatAll.take : ∀ {vs : List V} {ds : List D} (n : Nat), DatAll K G vs ds → DatAll K G (vs.take n) (ds.take n)
  | _, [], n, h => by cases h; simp; exact .nil
  | _, d :: ds, 0, h => by simp; exact .nil
  | _, d :: ds, n + 1, h => by
    cases h with
    | cons a b => exact .cons a (DatAll.take n b)
theorem DatAll.drop : ∀ {vs : List V} {ds : List D} (n : Nat), DatAll K G vs ds → DatAll K G (vs.drop n) (ds.drop n)
  | _, [], n, h => by cases h; simp; exact .nil
  | _, d :: ds, 0, h => h
  | _, d :: ds, n + 1, h => by
    cases h with
    | cons a b => exact DatAll.drop n b
theorem DatAll.set : ∀ {vs : List V} {ds : List D} {v : V} {d : D} (i : Nat), DatAll K G vs ds → Dat K G v d → DatAll K G (vs.set i v) (ds.set i d)
  | _, [], _, _, i, h, k => by cases h; simp; exact .nil
  | _, x :: ds, _, _, 0, h, k => by
    cases h with
    | cons a b => exact .cons k b
  | _, x :: ds, _, _, i + 1, h, k => by
    cases h with
    | cons a b => exact .cons a (DatAll.set i b k)
theorem DatAll.rev {vs : List V} {ds : List D} (h : DatAll K G vs ds) : DatAll K G vs.reverse ds.reverse := by
  induction ds generalizing vs with
  | nil => cases h; exact .nil
  | cons d ds ih =>
    cases h with
    | cons a b => simpa using DatAll.append (ih b) (.cons a .nil)
end

/-! ### the world -/
def CellR (K : PySem.W.Frag) (G H : Hp) (a : Addr) : Cell → Prop
  | .lst ds => ∃ vs, H a = some (.lst vs) ∧ DatAll K G vs ds
  | .dic kvs => ∃ kw : List (Key × V), H a = some (.dK kw) ∧ kw.map (·.1) = kvs.map (·.1) ∧ DatAll K G (kw.map (·.2)) (kvs.map (·.2))
  | .ins C ks ds => ∃ (dx : Addr) (fs : List (Str × V)), H a = some (.ins C dx fs) ∧ fs.map (·.1) = ks ∧ DatAll K G (fs.map (·.2)) ds
theorem CellR.mono {K : PySem.W.Frag} {G G' H H' : Hp} {a : Addr} {c : Cell} (e : Same G G') (h : H' a = H a) (r : CellR K G H a c) : CellR K G' H' a c := by
  cases c with
  | lst ds => obtain ⟨vs, h1, h2⟩ := r; exact ⟨vs, h.trans h1, h2.mono e⟩
  | dic kvs => obtain ⟨vs, h1, h2, h3⟩ := r; exact ⟨vs, h.trans h1, h2, h3.mono e⟩
  | ins C ks ds => obtain ⟨dx, fs, h1, h2, h3⟩ := r; exact ⟨dx, fs, h.trans h1, h2, h3.mono e⟩
theorem CellR.some {K : PySem.W.Frag} {G H : Hp} {a : Addr} {c : Cell} (r : CellR K G H a c) : ∃ o, H a = some o := by
  cases c with
  | lst ds => obtain ⟨vs, h1, h2⟩ := r; exact ⟨_, h1⟩
  | dic kvs => obtain ⟨vs, h1, h2, h3⟩ := r; exact ⟨_, h1⟩
  | ins C ks ds => obtain ⟨dx, fs, h1, h2, h3⟩ := r; exact ⟨_, h1⟩

structure Wld (K : PySem.W.Frag) (G : Hp) (C : CS) (H : Hp) : Prop where
  ex : Same G H
  cell : ∀ a c, C a = some c → G a = none ∧ CellR K G H a c

/-- what a piece of code leaves as it was -/
structure Fr (G : Hp) (C : CS) (H G' : Hp) (C' : CS) (H' : Hp) : Prop where
  exG : Same G G'
  keep : ∀ a o, H a = some o → C a = none → H' a = some o
  dom : ∀ a, H a ≠ none → H' a ≠ none
  newC : ∀ a, H a ≠ none → C' a ≠ none → C a ≠ none
  newG : ∀ a, H a ≠ none → G' a ≠ none → G a ≠ none ∨ C a ≠ none

section
variable {K : PySem.W.Frag} {G G1 G2 H H1 H2 : Hp} {C C1 C2 : CS} {a : Addr}
theorem Fr.refl (G : Hp) (C : CS) (H : Hp) : Fr G C H G C H := ⟨fun _ _ h => h, fun _ _ h _ => h, fun _ h => h, fun _ _ h => h, fun _ _ h => .inl h⟩
theorem Fr.trans (x : Fr G C H G1 C1 H1) (y : Fr G1 C1 H1 G2 C2 H2) : Fr G C H G2 C2 H2 where
  exG := x.exG.trans y.exG
  keep := fun a o h1 h2 => y.keep a o (x.keep a o h1 h2) (by
    cases q : C1 a with
    | none => rfl
    | some c => exact absurd h2 (x.newC a (by rw [h1]; simp) (by rw [q]; simp)))
  dom := fun a h => y.dom a (x.dom a h)
  newC := fun a h k => x.newC a h (y.newC a (x.dom a h) k)
  newG := fun a h k => (y.newG a (x.dom a h) k).elim (x.newG a h) fun k => .inr (x.newC a h k)
theorem Wld.ne (w : Wld K G C H) {a : Addr} (h : H a = none) : G a = none ∧ C a = none := by
  refine ⟨w.ex.free h, ?_⟩
  cases q : C a with
  | none => rfl
  | some c =>
    obtain ⟨o, e⟩ := (w.cell a c q).2.some
    rw [h] at e; cases e
/-- a new object that will not change -/
theorem Wld.newG (w : Wld K G C H) {p : Addr} (h : H p = none) (o : HO) : Wld K (upd G p o) C (upd H p o) ∧ Fr G C H (upd G p o) C (upd H p o) ∧ Same G (upd G p o) := by
  obtain ⟨g, c⟩ := w.ne h
  have sG : Same G (upd G p o) := fun b u e => by rw [upd_ne (ne_of_none e g)]; exact e
  refine ⟨⟨fun b u e => ?_, fun b c' e => ?_⟩, ⟨sG, fun b u e _ => by rw [upd_ne (ne_of_none e h)]; exact e, fun b e => ?_, fun _ _ k => k, fun b hb k => ?_⟩, sG⟩
  · by_cases q : b = p
    · subst q; rw [upd_same] at e ⊢; exact e
    · rw [upd_ne q] at e ⊢; exact w.ex b u e
  · have ne : b ≠ p := cell_ne e c
    obtain ⟨h1, h2⟩ := w.cell b c' e
    exact ⟨by rw [upd_ne ne]; exact h1, h2.mono sG (upd_ne ne)⟩
  · by_cases q : b = p
    · subst q; exact absurd h e
    · rw [upd_ne q]; exact e
  · by_cases q : b = p
    · subst q; exact absurd h hb
    · rw [upd_ne q] at k; exact .inl k
/-- a new cell -/
theorem Wld.newC (w : Wld K G C H) {p : Addr} (h : H p = none) {o : HO} {c : Cell} (r : ∀ H', H' p = some o → CellR K G H' p c) : Wld K G (put C p c) (upd H p o) ∧ Fr G C H G (put C p c) (upd H p o) := by
  obtain ⟨g, c0⟩ := w.ne h
  refine ⟨⟨fun b u e => ?_, fun b c' e => ?_⟩, ⟨fun _ _ h => h, fun b u e _ => by rw [upd_ne (ne_of_none e h)]; exact e, fun b e => ?_, fun b hb k => ?_, fun b _ k => .inl k⟩⟩
  · rw [upd_ne (ne_of_none e g)]; exact w.ex b u e
  · by_cases q : b = p
    · subst q; rw [put_same] at e; cases e; exact ⟨g, r _ upd_same⟩
    · rw [put_ne q] at e
      obtain ⟨h1, h2⟩ := w.cell b c' e
      exact ⟨h1, h2.mono (fun _ _ h => h) (upd_ne q)⟩
  · by_cases q : b = p
    · subst q; exact absurd h e
    · rw [upd_ne q]; exact e
  · by_cases q : b = p
    · subst q; exact absurd h hb
    · rw [put_ne q] at k; exact k
/-- a cell is changed -/
theorem Wld.write (w : Wld K G C H) {p : Addr} {c c' : Cell} (h : C p = some c) {o : HO} (r : ∀ H', H' p = some o → CellR K G H' p c') : Wld K G (put C p c') (upd H p o) ∧ Fr G C H G (put C p c') (upd H p o) := by
  obtain ⟨g, r0⟩ := w.cell p c h
  refine ⟨⟨fun b u e => ?_, fun b d e => ?_⟩, ⟨fun _ _ h => h, fun b u e k => ?_, fun b e => ?_, fun b hb k => ?_, fun b _ k => .inl k⟩⟩
  · rw [upd_ne (ne_of_none e g)]; exact w.ex b u e
  · by_cases q : b = p
    · subst q; rw [put_same] at e; cases e; exact ⟨g, r _ upd_same⟩
    · rw [put_ne q] at e
      obtain ⟨h1, h2⟩ := w.cell b d e
      exact ⟨h1, h2.mono (fun _ _ h => h) (upd_ne q)⟩
  · have : b ≠ p := fun q => by subst q; rw [h] at k; cases k
    rw [upd_ne this]; exact e
  · by_cases q : b = p
    · subst q; rw [upd_same]; simp
    · rw [upd_ne q]; exact e
  · by_cases q : b = p
    · subst q; rw [h]; simp
    · rw [put_ne q] at k; exact k
/-- cells are forgotten -/
theorem Wld.sub (w : Wld K G C H) (h : ∀ a c, C1 a = some c → C a = some c) : Wld K G C1 H ∧ Fr G C H G C1 H :=
  ⟨⟨w.ex, fun a c e => w.cell a c (h a c e)⟩, ⟨fun _ _ h => h, fun _ _ h _ => h, fun _ h => h, fun a _ k => by
    cases q : C1 a with
    | none => exact absurd q k
    | some c => rw [h a c q]; simp, fun _ _ h => .inl h⟩⟩
/-- a list's cell is frozen -/
theorem Wld.freeze (w : Wld K G C H) {p : Addr} {ds : List D} (h : C p = some (.lst ds)) : ∃ G', Wld K G' (del C p) H ∧ Fr G C H G' (del C p) H ∧ Dat K G' (.ref p) (.lst ds) := by
  obtain ⟨g, vs, e, r⟩ := w.cell p _ h
  have sG : Same G (upd G p (.lst vs)) := fun b u e => by rw [upd_ne (ne_of_none e g)]; exact e
  refine ⟨upd G p (.lst vs), ⟨fun b u q => ?_, fun b c q => ?_⟩, ⟨sG, fun _ _ h _ => h, fun _ h => h, fun b _ k => ?_, fun b _ k => ?_⟩, .lst upd_same (r.mono sG)⟩
  · by_cases z : b = p
    · subst z; rw [upd_same] at q; rw [e]; exact q
    · rw [upd_ne z] at q; exact w.ex b u q
  · have ne : b ≠ p := fun z => by subst z; rw [del_same] at q; cases q
    rw [del_ne ne] at q
    obtain ⟨h1, h2⟩ := w.cell b c q
    exact ⟨by rw [upd_ne ne]; exact h1, h2.mono sG rfl⟩
  · by_cases z : b = p
    · subst z; rw [h]; simp
    · rw [del_ne z] at k; exact k
  · by_cases z : b = p
    · subst z; right; rw [h]; simp
    · rw [upd_ne z] at k; exact .inl k
end
end DL
/-! DLb: judgements by data: expressions, tests, arguments, statements. -/
namespace DL
open PySem PySem.Spec PyProof.Rows L2

abbrev DEnv := List (Option D)
def EnvR (K : PySem.W.Frag) (G : Hp) (env : DEnv) (σ : L2.St) : Prop := env.length = σ.length ∧ ∀ (i : Nat) (d : D), env[i]? = some (some d) → ∃ v, σ[i]? = some (some v) ∧ Dat K G v d
abbrev KD := D → CS → Prop
def Kont (K : PySem.W.Frag) (G : Hp) (C : CS) (H : Hp) (k : KD) (Q : VK) : Prop :=
  ∀ v G' C' H' d, Fr G C H G' C' H' → Wld K G' C' H' → Dat K G' v d → k d C' → Q v H'
def KontB (K : PySem.W.Frag) (G : Hp) (C : CS) (H : Hp) (k : Bool → CS → Prop) (Q : Bool → Hp → Prop) : Prop :=
  ∀ b G' C' H', Fr G C H G' C' H' → Wld K G' C' H' → k b C' → Q b H'
def KontA (K : PySem.W.Frag) (G : Hp) (C : CS) (H : Hp) (k : List D → CS → Prop) (Q : List V → Hp → Prop) : Prop :=
  ∀ vs G' C' H' ds, Fr G C H G' C' H' → Wld K G' C' H' → DatAll K G' vs ds → k ds C' → Q vs H'
def Ev (K : PySem.W.Frag) (te : TE) (env : DEnv) (C : CS) (k : KD) : Prop := ∀ G σ H Q, Wld K G C H → EnvR K G env σ → Kont K G C H k Q → te σ H Q
def EvB (K : PySem.W.Frag) (te : TT) (env : DEnv) (C : CS) (k : Bool → CS → Prop) : Prop := ∀ G σ H Q, Wld K G C H → EnvR K G env σ → KontB K G C H k Q → te σ H Q
def EvA (K : PySem.W.Frag) (te : TA) (env : DEnv) (C : CS) (k : List D → CS → Prop) : Prop := ∀ G σ H Q, Wld K G C H → EnvR K G env σ → KontA K G C H k Q → te σ H Q

/-- the widest readings -/
def tS (X : Cx) (e : Expr) : TE := fun σ H Q => ∀ pins s, Inv X pins σ H s → wpAny (model X.prog X.w) X.A (eval e X.env) (EP X pins σ Q) X.xe s
def tT (X : Cx) (e : Expr) : TT := fun σ H Q => ∀ pins s, Inv X pins σ H s → wpAny (model X.prog X.w) X.A (isTrue e X.env (eval e X.env)) (TP X pins σ Q) X.xe s
def tW (X : Cx) (e : Expr) : TT := fun σ H Q => ∀ whole pins s, Inv X pins σ H s → wpAny (model X.prog X.w) X.A (isTrue e X.env whole) (TP X pins σ Q) X.xe s
def tAr (X : Cx) (es : List Expr) : TA := fun σ H Q => ∀ (pos : Pos) pins s, Inv X pins σ H s → wpAny (model X.prog X.w) X.A (spliced (backTo pos (starEach es X.env))) (AP X pins σ Q) X.xe s
def tX (X : Cx) (st : Stmt) : TS := fun D σ H => ∀ pins s, Inv X pins σ H s → wpAny (model X.prog X.w) X.A (exec st X.env) (SP X pins D) X.xe s
def tXs (X : Cx) (st : List Stmt) : TS := fun D σ H => ∀ pins s, Inv X pins σ H s → wpAny (model X.prog X.w) X.A (execs st X.env) (SP X pins D) X.xe s
section
variable {X : Cx} {e : Expr} {es : List Expr} {st : Stmt} {sts : List Stmt}
theorem pe_tS : PE X e (tS X e) := ⟨fun pins s σ H Q I h => h pins s I⟩
theorem pt_tT : PT X e (tT X e) := ⟨fun pins s σ H Q I h => h pins s I⟩
theorem pw_tW : PW X e (tW X e) := ⟨fun wh pins s σ H Q I h => h wh pins s I⟩
theorem pa_tAr : PA X es (tAr X es) := ⟨fun pos pins s σ H Q I h => h pos pins s I⟩
theorem ps_tX : PS X st (tX X st) := ⟨fun pins s σ H D I h => h pins s I⟩
theorem pss_tXs : PSs X sts (tXs X sts) := ⟨fun pins s σ H D I h => h pins s I⟩
end
def WE (X : Cx) (e : Expr) (env : DEnv) (C : CS) (k : KD) : Prop := Ev X.K (tS X e) env C k
def WT (X : Cx) (e : Expr) (env : DEnv) (C : CS) (k : Bool → CS → Prop) : Prop := EvB X.K (tT X e) env C k
def WW (X : Cx) (e : Expr) (env : DEnv) (C : CS) (k : Bool → CS → Prop) : Prop := EvB X.K (tW X e) env C k
def WA (X : Cx) (es : List Expr) (env : DEnv) (C : CS) (k : List D → CS → Prop) : Prop := EvA X.K (tAr X es) env C k

structure DEnds where
  nx : DEnv → CS → Prop
  rt : KD
  bk : DEnv → CS → Prop := fun _ _ => False
  ct : DEnv → CS → Prop := fun _ _ => False
def KontE (K : PySem.W.Frag) (G : Hp) (C : CS) (H : Hp) (k : DEnv → CS → Prop) (Q : L2.St → Hp → Prop) : Prop :=
  ∀ G' C' H' σ env, Fr G C H G' C' H' → Wld K G' C' H' → EnvR K G' env σ → k env C' → Q σ H'
structure KontS (K : PySem.W.Frag) (G : Hp) (C : CS) (H : Hp) (E : DEnds) (D : Ends) : Prop where
  nx : KontE K G C H E.nx D.nx
  rt : Kont K G C H E.rt D.rt
  bk : KontE K G C H E.bk D.bk
  ct : KontE K G C H E.ct D.ct
def EvS (K : PySem.W.Frag) (ts : TS) (env : DEnv) (C : CS) (E : DEnds) : Prop := ∀ G σ H D, Wld K G C H → EnvR K G env σ → KontS K G C H E D → ts D σ H
def WS (X : Cx) (st : Stmt) (env : DEnv) (C : CS) (E : DEnds) : Prop := EvS X.K (tX X st) env C E
def WSs (X : Cx) (sts : List Stmt) (env : DEnv) (C : CS) (E : DEnds) : Prop := EvS X.K (tXs X sts) env C E

section
variable {K : PySem.W.Frag} {G G1 H H1 : Hp} {C C1 : CS} {env : DEnv} {σ : L2.St}
theorem EnvR.mono (h : EnvR K G env σ) (e : Same G G1) : EnvR K G1 env σ := ⟨h.1, fun i d q => let ⟨v, a, b⟩ := h.2 i d q; ⟨v, a, b.mono e⟩⟩
theorem Kont.after {k : KD} {Q : VK} (q : Kont K G C H k Q) (f : Fr G C H G1 C1 H1) : Kont K G1 C1 H1 k Q := fun v G' C' H' d f' => q v G' C' H' d (f.trans f')
theorem KontB.after {k : Bool → CS → Prop} {Q : Bool → Hp → Prop} (q : KontB K G C H k Q) (f : Fr G C H G1 C1 H1) : KontB K G1 C1 H1 k Q := fun v G' C' H' f' => q v G' C' H' (f.trans f')
theorem KontA.after {k : List D → CS → Prop} {Q : List V → Hp → Prop} (q : KontA K G C H k Q) (f : Fr G C H G1 C1 H1) : KontA K G1 C1 H1 k Q := fun v G' C' H' d f' => q v G' C' H' d (f.trans f')
theorem KontE.after {k : DEnv → CS → Prop} {Q : L2.St → Hp → Prop} (q : KontE K G C H k Q) (f : Fr G C H G1 C1 H1) : KontE K G1 C1 H1 k Q := fun G' C' H' s d f' => q G' C' H' s d (f.trans f')
theorem KontS.after {E : DEnds} {D : Ends} (q : KontS K G C H E D) (f : Fr G C H G1 C1 H1) : KontS K G1 C1 H1 E D := ⟨q.nx.after f, q.rt.after f, q.bk.after f, q.ct.after f⟩
theorem EnvR.set (h : EnvR K G env σ) {v : V} {d : D} (i : Nat) (r : Dat K G v d) : EnvR K G (env.set i (some d)) (σ.set i (some v)) := by
  refine ⟨by simp [h.1], fun j d' q => ?_⟩
  by_cases e : i = j
  · subst e
    by_cases l : i < env.length
    · rw [List.getElem?_set_self l] at q
      cases q
      exact ⟨v, by rw [List.getElem?_set_self (by rw [← h.1]; exact l)], r⟩
    · rw [List.getElem?_eq_none (by simp; omega)] at q; cases q
  · rw [List.getElem?_set_ne e] at q ⊢
    exact h.2 j d' q
end

/-! ### from a rule of the hand layer -/
section
variable {X : Cx} {e : Expr} {es : List Expr} {st : Stmt} {sts : List Stmt} {env : DEnv} {C : CS}
theorem WE.of {te : TE} {k : KD} (h : PE X e te) (hv : Ev X.K te env C k) : WE X e env C k := fun G σ H Q w er q pins s I => h.run pins s σ H Q I (hv G σ H Q w er q)
theorem WT.of {te : TT} {k : Bool → CS → Prop} (h : PT X e te) (hv : EvB X.K te env C k) : WT X e env C k := fun G σ H Q w er q pins s I => h.run pins s σ H Q I (hv G σ H Q w er q)
theorem WW.of {te : TT} {k : Bool → CS → Prop} (h : PW X e te) (hv : EvB X.K te env C k) : WW X e env C k := fun G σ H Q w er q wh pins s I => h.run wh pins s σ H Q I (hv G σ H Q w er q)
theorem WA.of {te : TA} {k : List D → CS → Prop} (h : PA X es te) (hv : EvA X.K te env C k) : WA X es env C k := fun G σ H Q w er q pos pins s I => h.run pos pins s σ H Q I (hv G σ H Q w er q)
theorem WS.of {te : TS} {E : DEnds} (h : PS X st te) (hv : EvS X.K te env C E) : WS X st env C E := fun G σ H D w er q pins s I => h.run pins s σ H D I (hv G σ H D w er q)
theorem WSs.of {te : TS} {E : DEnds} (h : PSs X sts te) (hv : EvS X.K te env C E) : WSs X sts env C E := fun G σ H D w er q pins s I => h.run pins s σ H D I (hv G σ H D w er q)
theorem WE.imp {k k' : KD} (h : WE X e env C k) (hk : ∀ d C', k d C' → k' d C') : WE X e env C k' := fun G σ H Q w er q => h G σ H Q w er fun v G' C' H' d f w' r z => q v G' C' H' d f w' r (hk d C' z)
theorem WT.imp {k k' : Bool → CS → Prop} (h : WT X e env C k) (hk : ∀ d C', k d C' → k' d C') : WT X e env C k' := fun G σ H Q w er q => h G σ H Q w er fun v G' C' H' f w' z => q v G' C' H' f w' (hk v C' z)
theorem WA.imp {k k' : List D → CS → Prop} (h : WA X es env C k) (hk : ∀ d C', k d C' → k' d C') : WA X es env C k' := fun G σ H Q w er q => h G σ H Q w er fun v G' C' H' d f w' r z => q v G' C' H' d f w' r (hk d C' z)
end

/-! ### readings by data, compositionally -/
abbrev OpD := D → D → CS → KD → Prop
/-- a two-place operation on values is one on data -/
def R2D (K : PySem.W.Frag) (r : R2) (p : OpD) : Prop := ∀ (x y : V) (a b : D) (G : Hp) (C : CS) (H : Hp) (k : KD) (Q : VK), Wld K G C H → Dat K G x a → Dat K G y b → p a b C k → Kont K G C H k Q → r x y H Q
def R1D (K : PySem.W.Frag) (r : V → Hp → VK → Prop) (p : D → CS → KD → Prop) : Prop := ∀ (x : V) (a : D) (G : Hp) (C : CS) (H : Hp) (k : KD) (Q : VK), Wld K G C H → Dat K G x a → p a C k → Kont K G C H k Q → r x H Q
def RLD (K : PySem.W.Frag) (r : List V → Hp → VK → Prop) (p : List D → CS → KD → Prop) : Prop := ∀ (xs : List V) (ds : List D) (G : Hp) (C : CS) (H : Hp) (k : KD) (Q : VK), Wld K G C H → DatAll K G xs ds → p ds C k → Kont K G C H k Q → r xs H Q
def RMD (K : PySem.W.Frag) (r : V → List V → Hp → VK → Prop) (p : D → List D → CS → KD → Prop) : Prop := ∀ (x : V) (a : D) (xs : List V) (ds : List D) (G : Hp) (C : CS) (H : Hp) (k : KD) (Q : VK), Wld K G C H → Dat K G x a → DatAll K G xs ds → p a ds C k → Kont K G C H k Q → r x xs H Q
section
variable {K : PySem.W.Frag} {env : DEnv} {C : CS} {ta tb te : TE} {k : KD} {r : R2} {p : OpD} {t u : TT} {kb : Bool → CS → Prop} {tr : TA}
theorem ev_op (hr : R2D K r p) (h : Ev K ta env C fun x C1 => Ev K tb env C1 fun y C2 => p x y C2 k) : Ev K (tOp r ta tb) env C k := fun G σ H Q w er q =>
  h G σ H _ w er fun v G1 C1 H1 x f1 w1 d1 hb => hb G1 σ H1 _ w1 (er.mono f1.exG) fun y' G2 C2 H2 y f2 w2 d2 hp => hr v y' x y G2 C2 H2 k Q w2 (d1.mono f2.exG) d2 hp (q.after (f1.trans f2))
theorem ev_un {r : V → Hp → VK → Prop} {p : D → CS → KD → Prop} (hr : R1D K r p) (h : Ev K ta env C fun x C1 => p x C1 k) : Ev K (tUn r ta) env C k := fun G σ H Q w er q =>
  h G σ H _ w er fun v G1 C1 H1 x f1 w1 d1 hb => hr v x G1 C1 H1 k Q w1 d1 hb (q.after f1)
theorem ev_cb {r : List V → Hp → VK → Prop} {p : List D → CS → KD → Prop} (hr : RLD K r p) (h : EvA K tr env C fun ds C1 => p ds C1 k) : Ev K (tCB r tr) env C k := fun G σ H Q w er q =>
  h G σ H _ w er fun vs G1 C1 H1 ds f1 w1 d1 hb => hr vs ds G1 C1 H1 k Q w1 d1 hb (q.after f1)
theorem eb_test (h : Ev K te env C fun x C1 => ∃ b, x = .bl b ∧ kb b C1) : EvB K (tTest te) env C kb := fun G σ H Q w er q =>
  h G σ H _ w er fun v G1 C1 H1 x f1 w1 d1 hb => by
    obtain ⟨b, rfl, hb⟩ := hb
    cases d1
    exact ⟨b, rfl, q b G1 C1 H1 f1 w1 hb⟩
theorem eb_B (h : Ev K te env C fun x C1 => ∃ b, x = .bl b ∧ kb b C1) : EvB K (tB te) env C kb := eb_test h
theorem eb_not (h : EvB K t env C fun b C1 => kb (!b) C1) : EvB K (tNot t) env C kb := fun G σ H Q w er q => h G σ H _ w er fun b G1 C1 H1 f1 w1 hb => q _ G1 C1 H1 f1 w1 hb
theorem eb_and (h : EvB K t env C fun b C1 => if b = true then EvB K u env C1 kb else kb false C1) : EvB K (tAnd t u) env C kb := fun G σ H Q w er q => h G σ H _ w er fun b G1 C1 H1 f1 w1 hb => by
  cases b with
  | true => exact iteT ((iteT_ hb) G1 σ H1 Q w1 (er.mono f1.exG) (q.after f1))
  | false => exact iteF (q _ G1 C1 H1 f1 w1 (iteF_ hb))
where
  iteT_ {A B : Prop} (h : if true = true then A else B) : A := by rw [if_pos rfl] at h; exact h
  iteF_ {A B : Prop} (h : if false = true then A else B) : B := by rw [if_neg Bool.false_ne_true] at h; exact h
end
end DL
/-! DLc: the rules by data: names, operators, comparisons, displays, subscripts, tests. -/
namespace DL
open PySem PySem.Spec PyProof.Rows L2

/-! ### views of data -/
def seqL (C : CS) : D → Option (List D)
  | .lst xs => some xs
  | .own a => match C a with
    | some (.lst xs) => some xs
    | _ => none
  | _ => none
def seqR (C : CS) : D → Option (List D)
  | .slst xs => some xs
  | .lst xs => some xs
  | .own a => match C a with
    | some (.lst xs) => some xs
    | _ => none
  | _ => none
theorem seqL_own {C : CS} {a : Addr} {xs : List D} (h : C a = some (.lst xs)) : seqL C (.own a) = some xs := by unfold seqL; simp only [h]
theorem seqR_own {C : CS} {a : Addr} {xs : List D} (h : C a = some (.lst xs)) : seqR C (.own a) = some xs := by unfold seqR; simp only [h]
theorem own_seqL {C : CS} {a : Addr} {xs : List D} (h : seqL C (.own a) = some xs) : C a = some (.lst xs) := by
  unfold seqL at h
  cases q : C a with
  | none => simp [q] at h
  | some c => cases c <;> simp [q] at h; subst h; rfl
theorem own_seqR {C : CS} {a : Addr} {xs : List D} (h : seqR C (.own a) = some xs) : C a = some (.lst xs) := by
  unfold seqR at h
  cases q : C a with
  | none => simp [q] at h
  | some c => cases c <;> simp [q] at h; subst h; rfl
section
variable {K : PySem.W.Frag} {G H : Hp} {C : CS} {v : V} {d : D} {ds : List D}
theorem Wld.lst (w : Wld K G C H) (r : Dat K G v d) (e : seqL C d = some ds) : ∃ a xs, v = .ref a ∧ H a = some (.lst xs) ∧ DatAll K G xs ds := by
  cases r with
  | lst a b => simp [seqL] at e; subst e; exact ⟨_, _, rfl, w.ex _ _ a, b⟩
  | own a =>
    obtain ⟨_, vs, h1, h2⟩ := w.cell a _ (own_seqL e)
    exact ⟨a, vs, rfl, h1, h2⟩
  | _ => simp [seqL] at e
theorem Wld.seq (w : Wld K G C H) (r : Dat K G v d) (e : seqR C d = some ds) : ∃ a xs, v = .ref a ∧ SqL K H a xs ∧ DatAll K G xs ds := by
  cases r with
  | lst a b => simp [seqR] at e; subst e; exact ⟨_, _, rfl, SqL.of (w.ex _ _ a), b⟩
  | slst a b => simp [seqR] at e; subst e; exact ⟨_, _, rfl, w.ex.seq a, b⟩
  | own a =>
    obtain ⟨_, vs, h1, h2⟩ := w.cell a _ (own_seqR e)
    exact ⟨a, vs, rfl, SqL.of h1, h2⟩
  | _ => simp [seqR] at e
theorem Wld.tup (w : Wld K G C H) (r : Dat K G v (.tup ds)) : ∃ a xs, v = .ref a ∧ SqT K H a xs ∧ DatAll K G xs ds := by
  cases r with
  | tup a b => exact ⟨_, _, rfl, Same.sqT w.ex a, b⟩
end

mutual
def D.py : D → PyData
  | .non => .none
  | .bl b => .bool b
  | .int i => .int i
  | .str x => .str x
  | .lst xs => .list (pyL xs)
  | .slst xs => .list (pyL xs)
  | .tup xs => .tuple (pyL xs)
  | _ => .none
def pyL : List D → List PyData
  | [] => []
  | d :: ds => d.py :: pyL ds
end
mutual
def D.isPy : D → Bool
  | .non | .bl _ | .int _ | .str _ => true
  | .lst xs => allPy xs
  | .slst xs => allPy xs
  | .tup xs => allPy xs
  | _ => false
def allPy : List D → Bool
  | [] => true
  | d :: ds => d.isPy && allPy ds
end
section
variable {K : PySem.W.Frag} {G H : Hp}
mutual
theorem Dat.dp (e : Same G H) : ∀ (d : D) {v : V}, Dat K G v d → d.isPy = true → Dp K H v d.py
  | .non, _, h, _ => by cases h; exact .non
  | .bl _, _, h, _ => by cases h; exact .bl _
  | .int _, _, h, _ => by cases h; exact .int _
  | .str _, _, h, _ => by cases h; exact .str _
  | .lst ds, _, h, p => by
    cases h with
    | lst a b => exact .lst (SqL.of (e _ _ a)) (DatAll.dp e ds b (by simpa [D.isPy] using p))
  | .slst ds, _, h, p => by
    cases h with
    | slst a b => exact .lst (e.seq a) (DatAll.dp e ds b (by simpa [D.isPy] using p))
  | .tup ds, _, h, p => by
    cases h with
    | tup a b => exact .tup (Same.sqT e a) (DatAll.dp e ds b (by simpa [D.isPy] using p))
  | .obj _ _ ds, _, h, p => by simp [D.isPy] at p
  | .own _, _, h, p => by simp [D.isPy] at p
  | .opq _, _, h, p => by simp [D.isPy] at p
theorem DatAll.dp (e : Same G H) : ∀ (ds : List D) {vs : List V}, DatAll K G vs ds → allPy ds = true → DpAll K H vs (pyL ds)
  | [], _, h, _ => by cases h; exact .nil
  | d :: ds, _, h, p => by
    rw [allPy, Bool.and_eq_true] at p
    cases h with
    | cons a b => exact .cons (Dat.dp e d a p.1) (DatAll.dp e ds b p.2)
end
end
/-- the data that an operand stands for -/
def pyC (C : CS) : D → Option PyData
  | .own a => match C a with
    | some (.lst ds) => if allPy ds = true then some (.list (pyL ds)) else none
    | _ => none
  | d => if d.isPy = true then some d.py else none
theorem Wld.dp {K : PySem.W.Frag} {G H : Hp} {C : CS} {v : V} {d : D} {y : PyData} (w : Wld K G C H) (r : Dat K G v d) (e : pyC C d = some y) : Dp K H v y := by
  cases d with
  | own a =>
    cases r
    unfold pyC at e
    cases q : C a with
    | none => simp [q] at e
    | some c =>
      cases c with
      | lst ds =>
        simp [q] at e
        obtain ⟨p, rfl⟩ := e
        obtain ⟨_, vs, h1, h2⟩ := w.cell a _ q
        exact .lst (SqL.of h1) (h2.dp w.ex _ p)
      | _ => simp [q] at e
  | _ =>
    unfold pyC at e
    simp only [Option.ite_none_right_eq_some, Option.some.injEq] at e
    obtain ⟨p, rfl⟩ := e
    exact r.dp w.ex _ p

/-! ### more readings -/
section
variable {K : PySem.W.Frag} {env : DEnv} {C : CS} {ta tb te : TE} {k : KD} {t u : TT} {kb : Bool → CS → Prop} {tr : TA} {ka : List D → CS → Prop}
theorem eb_and2 (h : EvB K t env C fun b C1 => (b = true → EvB K u env C1 kb) ∧ (b = false → kb false C1)) : EvB K (tAnd t u) env C kb := fun G σ H Q w er q => h G σ H _ w er fun b G1 C1 H1 f1 w1 hb => by
  cases b with
  | true => exact iteT (hb.1 rfl G1 σ H1 Q w1 (er.mono f1.exG) (q.after f1))
  | false => exact iteF (q _ G1 C1 H1 f1 w1 (hb.2 rfl))
theorem eb_or2 (h : EvB K t env C fun b C1 => (b = true → kb true C1) ∧ (b = false → EvB K u env C1 kb)) : EvB K (tOr t u) env C kb := fun G σ H Q w er q => h G σ H _ w er fun b G1 C1 H1 f1 w1 hb => by
  cases b with
  | true => exact iteT (q _ G1 C1 H1 f1 w1 (hb.1 rfl))
  | false => exact iteF (hb.2 rfl G1 σ H1 Q w1 (er.mono f1.exG) (q.after f1))
theorem ev_andV (h : Ev K ta env C fun x C1 => ∃ b, x = .bl b ∧ (b = true → Ev K tb env C1 k) ∧ (b = false → k (.bl false) C1)) : Ev K (tAndV ta tb) env C k := fun G σ H Q w er q => h G σ H _ w er fun v G1 C1 H1 x f1 w1 d1 hb => by
  obtain ⟨b, rfl, h1, h2⟩ := hb
  cases d1
  refine ⟨b, rfl, ?_⟩
  cases b with
  | true => exact iteT (h1 rfl G1 σ H1 Q w1 (er.mono f1.exG) (q.after f1))
  | false => exact iteF (q _ G1 C1 H1 _ f1 w1 (.bl false) (h2 rfl))
theorem ev_orV (h : Ev K ta env C fun x C1 => ∃ b, x = .bl b ∧ (b = true → k (.bl true) C1) ∧ (b = false → Ev K tb env C1 k)) : Ev K (tOrV ta tb) env C k := fun G σ H Q w er q => h G σ H _ w er fun v G1 C1 H1 x f1 w1 d1 hb => by
  obtain ⟨b, rfl, h1, h2⟩ := hb
  cases d1
  refine ⟨b, rfl, ?_⟩
  cases b with
  | true => exact iteT (q _ G1 C1 H1 _ f1 w1 (.bl true) (h1 rfl))
  | false => exact iteF (h2 rfl G1 σ H1 Q w1 (er.mono f1.exG) (q.after f1))
theorem ev_notV (h : Ev K ta env C fun x C1 => ∃ b, x = .bl b ∧ k (.bl (!b)) C1) : Ev K (tNotV ta) env C k := fun G σ H Q w er q => h G σ H _ w er fun v G1 C1 H1 x f1 w1 d1 hb => by
  obtain ⟨b, rfl, h1⟩ := hb
  cases d1
  exact ⟨b, rfl, q _ G1 C1 H1 _ f1 w1 (.bl _) h1⟩
theorem ev_if (h : EvB K t env C fun b C1 => (b = true → Ev K ta env C1 k) ∧ (b = false → Ev K tb env C1 k)) : Ev K (tIf t ta tb) env C k := fun G σ H Q w er q => h G σ H _ w er fun b G1 C1 H1 f1 w1 hb => by
  cases b with
  | true => exact iteT (hb.1 rfl G1 σ H1 Q w1 (er.mono f1.exG) (q.after f1))
  | false => exact iteF (hb.2 rfl G1 σ H1 Q w1 (er.mono f1.exG) (q.after f1))
theorem ea_nil (h : ka [] C) : EvA K tNil env C ka := fun G σ H Q w er q => q [] G C H [] (Fr.refl ..) w .nil h
theorem ea_cons (h : Ev K ta env C fun x C1 => EvA K tr env C1 fun ds C2 => ka (x :: ds) C2) : EvA K (tCons ta tr) env C ka := fun G σ H Q w er q =>
  h G σ H _ w er fun v G1 C1 H1 x f1 w1 d1 hb => hb G1 σ H1 _ w1 (er.mono f1.exG) fun vs G2 C2 H2 ds f2 w2 d2 hp => q (v :: vs) G2 C2 H2 (x :: ds) (f1.trans f2) w2 (.cons (d1.mono f2.exG) d2) hp
theorem ev_tup (h : EvA K tr env C fun ds C1 => ds.length ≤ sizeLine ∧ k (.tup ds) C1) : Ev K (tTup tr) env C k := fun G σ H Q w er q =>
  h G σ H _ w er fun vs G1 C1 H1 ds f1 w1 d1 hb => ⟨by rw [d1.length]; exact hb.1, fun p hp => by
    obtain ⟨w2, f2, s2⟩ := w1.newG hp (.tup vs)
    exact q _ _ _ _ _ (f1.trans f2) w2 (.tup (SqT.of upd_same) (d1.mono s2)) hb.2⟩
theorem ev_lst (h : EvA K tr env C fun ds C1 => ds.length ≤ sizeLine ∧ ∀ p, C1 p = none → k (.own p) (put C1 p (.lst ds))) : Ev K (tLst tr) env C k := fun G σ H Q w er q =>
  h G σ H _ w er fun vs G1 C1 H1 ds f1 w1 d1 hb => ⟨by rw [d1.length]; exact hb.1, fun p hp => by
    obtain ⟨w2, f2⟩ := w1.newC hp (o := .lst vs) (c := .lst ds) fun H' e => ⟨vs, e, d1⟩
    exact q _ _ _ _ _ (f1.trans f2) w2 (.own p) (hb.2 p (w1.ne hp).2)⟩
theorem ev_lstF (h : EvA K tr env C fun ds C1 => ds.length ≤ sizeLine ∧ k (.lst ds) C1) : Ev K (tLst tr) env C k := fun G σ H Q w er q =>
  h G σ H _ w er fun vs G1 C1 H1 ds f1 w1 d1 hb => ⟨by rw [d1.length]; exact hb.1, fun p hp => by
    obtain ⟨w2, f2, s2⟩ := w1.newG hp (.lst vs)
    exact q _ _ _ _ _ (f1.trans f2) w2 (.lst upd_same (d1.mono s2)) hb.2⟩
/-- a list that an expression gives is frozen -/
theorem ev_frz (h : Ev K te env C fun d C1 => ∃ ds, seqL C1 d = some ds ∧ ((∃ a, d = .own a ∧ k (.lst ds) (del C1 a)) ∨ (d = .lst ds ∧ k (.lst ds) C1))) : Ev K te env C k := fun G σ H Q w er q =>
  h G σ H _ w er fun v G1 C1 H1 d f1 w1 d1 hb => by
    obtain ⟨ds, e, h2⟩ := hb
    rcases h2 with ⟨a, rfl, h2⟩ | ⟨rfl, h2⟩
    · cases d1
      obtain ⟨G2, w2, f2, r2⟩ := w1.freeze (own_seqL e)
      exact q _ _ _ _ _ (f1.trans f2) w2 r2 h2
    · exact q _ _ _ _ _ f1 w1 d1 h2
end

/-! ### names, constants -/
section
variable {X : Cx} {e a b : Expr} {es : List Expr} {env : DEnv} {C : CS} {k : KD} {kb : Bool → CS → Prop} {ka : List D → CS → Prop} {pos : Pos}
theorem we_var {i : Nat} {x : Str} {d : D} (hN : X.N[i]? = some x) (hv : Vis X.env.scope x) (he : env[i]? = some (some d)) (h : k d C) (hd : (x == ("__debug__" : Str)) = false := by decide) (hcd : (x == ("__classdict__" : Str)) = false := by decide) : WE X (.Name x pos) env C k :=
  .of (pe_var hN hv hd hcd) fun G σ H Q w er q => by
    obtain ⟨v, h1, h2⟩ := er.2 i d he
    exact ⟨v, h1, q v G C H d (Fr.refl ..) w h2 h⟩
theorem we_int {i j} (h : k (.int i) C) : WE X (.Constant (.int i) j pos) env C k := .of pe_int fun G σ H Q w er q => q _ G C H _ (Fr.refl ..) w (.int i) h
theorem we_bl {b j} (h : k (.bl b) C) : WE X (.Constant (.bool b) j pos) env C k := .of pe_bl fun G σ H Q w er q => q _ G C H _ (Fr.refl ..) w (.bl b) h
theorem we_non {j} (h : k .non C) : WE X (.Constant .none j pos) env C k := .of pe_non fun G σ H Q w er q => q _ G C H _ (Fr.refl ..) w .non h
theorem we_str {x j} (h : k (.str x) C) : WE X (.Constant (.str x) j pos) env C k := .of pe_str fun G σ H Q w er q => q _ G C H _ (Fr.refl ..) w (.str x) h
/-- a constant of the module -/
def MgD (X : Cx) (x : Str) (d : D) : Prop := ∃ u v, X.mg x = some u ∧ RelV v u ∧ ∀ G, Dat X.K G v d
theorem we_glob {x : Str} {d : D} (hm : MgD X x d) (hg : Gl X x) (h : k d C) (hd : (x == ("__debug__" : Str)) = false := by decide) : WE X (.Name x pos) env C k := by
  obtain ⟨u, v, h1, h2, h3⟩ := hm
  exact .of (pe_glob hg h1 h2 hd) fun G σ H Q w er q => q _ G C H _ (Fr.refl ..) w (h3 G) h
/-- the name of a built-in class -/
theorem we_bty {x : Str} {T : String} (hm : X.mg x = none) (hg : Gl X x) (hv : bootBuiltins x = some (.type T)) (h : k (.opq (.ty T)) C) (hn : x ≠ "__name__" := by decide) (hd : (x == ("__debug__" : Str)) = false := by decide) : WE X (.Name x pos) env C k :=
  .of (pe_bltn hg hm hv (v := .ty T) rfl hn hd) fun G σ H Q w er q => q _ G C H _ (Fr.refl ..) w (.opq _) h

theorem we_op {op : Operator} {r : R2} {p : OpD} (ho : OpR X (binaryOp op) r) (hr : R2D X.K r p) (h : WE X a env C fun x C1 => WE X b env C1 fun y C2 => p x y C2 k) : WE X (.BinOp a op b pos) env C k := .of (pe_op ho pe_tS pe_tS) (ev_op hr h)
theorem we_un {op : UnaryOp} {r : V → Hp → VK → Prop} {p : D → CS → KD → Prop} (ho : UnR X (unaryOp op) r) (hr : R1D X.K r p) (h : WE X a env C fun x C1 => p x C1 k) : WE X (.UnaryOp op a pos) env C k := .of (pe_un ho pe_tS) (ev_un hr h)
theorem we_cmp {op : CmpOp} {r : R2} {p : OpD} (ho : OpR X (compareOp op) r) (hr : R2D X.K r p) (h : WE X a env C fun x C1 => WE X b env C1 fun y C2 => p x y C2 k) (hm : behindInMarks op b = false) : WE X (.Compare a [op] [b] pos) env C k := .of (pe_cmpR ho pe_tS pe_tS hm) (ev_op hr h)
theorem wt_cmp {op : CmpOp} {r : R2} {p : OpD} (ho : OpR X (compareOp op) r) (hr : R2D X.K r p) (h : WE X a env C fun x C1 => WE X b env C1 fun y C2 => p x y C2 fun d C3 => ∃ t, d = .bl t ∧ kb t C3) (hm : behindInMarks op b = false) : WT X (.Compare a [op] [b] pos) env C kb := .of (pt_cmpR ho pe_tS pe_tS hm) (eb_test (ev_op hr h))
theorem wt_val (h : WE X e env C fun d C1 => ∃ t, d = .bl t ∧ kb t C1) (he : ∀ whole, isTrue e X.env whole = (do let v ← whole; standAt e.pos; holding [v] (truthy v)) := by intro _; rfl) : WT X e env C kb := .of (pt_val pe_tS he) (eb_B h)
theorem wt_not (h : WT X a env C fun t C1 => kb (!t) C1) : WT X (.UnaryOp .Not a pos) env C kb := .of (pt_not pt_tT) (eb_not h)
theorem wt_ww (h : WW X e env C kb) : WT X e env C kb := .of (PW.pt pw_tW) h
theorem ww_and1 (h : WT X a env C kb) : WW X (.BoolOp .And [a] pos) env C kb := .of (pw_and1 pt_tT) h
theorem ww_or1 (h : WT X a env C kb) : WW X (.BoolOp .Or [a] pos) env C kb := .of (pw_or1 pt_tT) h
theorem ww_and {rest : List Expr} (h : WT X a env C fun t C1 => (t = true → WW X (.BoolOp .And (b :: rest) pos) env C1 kb) ∧ (t = false → kb false C1)) : WW X (.BoolOp .And (a :: b :: rest) pos) env C kb := .of (pw_and pt_tT pw_tW) (eb_and2 h)
theorem ww_or {rest : List Expr} (h : WT X a env C fun t C1 => (t = true → kb true C1) ∧ (t = false → WW X (.BoolOp .Or (b :: rest) pos) env C1 kb)) : WW X (.BoolOp .Or (a :: b :: rest) pos) env C kb := .of (pw_or pt_tT pw_tW) (eb_or2 h)
theorem we_one {op} (h : WE X a env C k) : WE X (.BoolOp op [a] pos) env C k := .of (pe_one pe_tS) h
theorem we_and {rest : List Expr} (h : WE X a env C fun x C1 => ∃ t, x = .bl t ∧ (t = true → WE X (.BoolOp .And (b :: rest) pos) env C1 k) ∧ (t = false → k (.bl false) C1)) : WE X (.BoolOp .And (a :: b :: rest) pos) env C k := .of (pe_and pe_tS pe_tS) (ev_andV h)
theorem we_or {rest : List Expr} (h : WE X a env C fun x C1 => ∃ t, x = .bl t ∧ (t = true → k (.bl true) C1) ∧ (t = false → WE X (.BoolOp .Or (b :: rest) pos) env C1 k)) : WE X (.BoolOp .Or (a :: b :: rest) pos) env C k := .of (pe_or pe_tS pe_tS) (ev_orV h)
theorem we_not (h : WE X a env C fun x C1 => ∃ t, x = .bl t ∧ k (.bl (!t)) C1) : WE X (.UnaryOp .Not a pos) env C k := .of (pe_not pe_tS) (ev_notV h)
theorem we_if {c : Expr} (h : WT X c env C fun t C1 => (t = true → WE X a env C1 k) ∧ (t = false → WE X b env C1 k)) : WE X (.IfExp c a b pos) env C k := .of (pe_ifExp pt_tT pe_tS pe_tS) (ev_if h)
theorem wa_nil (h : ka [] C) : WA X [] env C ka := .of pa_nil (ea_nil h)
theorem we_tup {x1} (h : WA X es env C fun ds C1 => ds.length ≤ sizeLine ∧ k (.tup ds) C1) : WE X (.Tuple es x1 pos) env C k := .of (pe_tup pa_tAr) (ev_tup h)
theorem we_lst (h : WA X es env C fun ds C1 => ds.length ≤ sizeLine ∧ ∀ p, C1 p = none → k (.own p) (put C1 p (.lst ds))) : WE X (.List es pos) env C k := .of (pe_lst pa_tAr) (ev_lst h)
theorem we_lstF (h : WA X es env C fun ds C1 => ds.length ≤ sizeLine ∧ k (.lst ds) C1) : WE X (.List es pos) env C k := .of (pe_lst pa_tAr) (ev_lstF h)
theorem we_frz (h : WE X e env C fun d C1 => ∃ ds, seqL C1 d = some ds ∧ ((∃ a, d = .own a ∧ k (.lst ds) (del C1 a)) ∨ (d = .lst ds ∧ k (.lst ds) C1))) : WE X e env C k := ev_frz h
end
end DL
/-! DLd: operators, subscripts, built-in calls and methods by data; statements; loops; calls of defs. -/
namespace DL
open PySem PySem.Spec PyProof.Rows L2

section
variable {K : PySem.W.Frag}
/-! ### operators -/
def dI2 (f : Int → Int → Int) (P : Int → Int → Prop) : OpD := fun x y C k => ∃ i j, x = .int i ∧ y = .int j ∧ P i j ∧ k (.int (f i j)) C
theorem r2_I {f : Int → Int → Int} {P : Int → Int → Prop} : R2D K (rI P fun i j => .int (f i j)) (dI2 f P) := by
  rintro x y a b G C H k Q w da db ⟨i, j, rfl, rfl, hp, hk⟩ q
  cases da; cases db
  exact ⟨i, j, rfl, rfl, hp, q _ _ _ _ _ (Fr.refl ..) w (.int _) hk⟩
theorem r2_I0 {f : Int → Int → Int} : R2D K (rI0 fun i j => .int (f i j)) (dI2 f fun _ _ => True) := by
  rintro x y a b G C H k Q w da db ⟨i, j, rfl, rfl, hp, hk⟩ q
  cases da; cases db
  exact ⟨i, j, rfl, rfl, q _ _ _ _ _ (Fr.refl ..) w (.int _) hk⟩
def dB2 (f : Int → Int → Bool) : OpD := fun x y C k => ∃ i j, x = .int i ∧ y = .int j ∧ k (.bl (f i j)) C
theorem r2_B {f : Int → Int → Bool} : R2D K (rI0 fun i j => .bl (f i j)) (dB2 f) := by
  rintro x y a b G C H k Q w da db ⟨i, j, rfl, rfl, hk⟩ q
  cases da; cases db
  exact ⟨i, j, rfl, rfl, q _ _ _ _ _ (Fr.refl ..) w (.bl _) hk⟩
/-- + of ints, texts, tuples, lists -/
def dAdd : OpD := fun x y C k => match x, y with
  | .int i, .int j => k (.int (i + j)) C
  | .str a, .str b => a.length + b.length ≤ sizeLine ∧ k (.str (a ++ b)) C
  | .tup xs, .tup ys => xs.length + ys.length ≤ sizeLine ∧ k (.tup (xs ++ ys)) C
  | x, y => ∃ xs ys, seqL C x = some xs ∧ seqL C y = some ys ∧ xs.length + ys.length ≤ sizeLine ∧ ∀ p, C p = none → k (.own p) (put C p (.lst (xs ++ ys)))
def rAddA (K : PySem.W.Frag) : R2 := fun x y H Q => (∃ i j, x = .int i ∧ y = .int j ∧ Q (.int (i + j)) H) ∨ (∃ i j, x = .str i ∧ y = .str j ∧ i.length + j.length ≤ sizeLine ∧ Q (.str (i ++ j)) H) ∨ rCatA K x y H Q ∨ rCat x y H Q
theorem op_addA {X : Cx} : OpR X (binaryOp .Add) (rAddA X.K) := OpR.or op_add (OpR.or op_add_str (OpR.or op_catA op_cat))
theorem seqL_ints {C : CS} {x : D} {xs : List D} (h : seqL C x = some xs) : (∀ i, x ≠ .int i) ∧ (∀ s, x ≠ .str s) ∧ ∀ ts, x ≠ .tup ts := by
  refine ⟨fun i e => ?_, fun i e => ?_, fun i e => ?_⟩ <;> (subst e; simp [seqL] at h)
theorem catL {x y : V} {a b : D} {xs ys : List D} {G : Hp} {C : CS} {H : Hp} {k : KD} {Q : VK} (w : Wld K G C H) (da : Dat K G x a) (db : Dat K G y b) (e1 : seqL C a = some xs) (e2 : seqL C b = some ys) (hl : xs.length + ys.length ≤ sizeLine)
    (hk : ∀ p, C p = none → k (.own p) (put C p (.lst (xs ++ ys)))) (q : Kont K G C H k Q) : rCat x y H Q := by
  obtain ⟨l, vs, rfl, h1, r1⟩ := w.lst da e1
  obtain ⟨m, us, rfl, h2, r2⟩ := w.lst db e2
  refine ⟨l, m, vs, us, rfl, rfl, h1, h2, by rw [r1.length, r2.length]; exact hl, fun p hp => ?_⟩
  obtain ⟨w2, f2⟩ := w.newC hp (o := .lst (vs ++ us)) (c := .lst (xs ++ ys)) fun H' e => ⟨_, e, r1.append r2⟩
  exact q _ _ _ _ _ f2 w2 (.own p) (hk p (w.ne hp).2)
theorem r2_add : R2D K (rAddA K) dAdd := by
  intro x y a b G C H k Q w da db h q
  unfold dAdd at h
  split at h
  · cases da; cases db
    exact .inl ⟨_, _, rfl, rfl, q _ _ _ _ _ (Fr.refl ..) w (.int _) h⟩
  · cases da; cases db
    exact .inr (.inl ⟨_, _, rfl, rfl, h.1, q _ _ _ _ _ (Fr.refl ..) w (.str _) h.2⟩)
  · rename_i xs ys
    obtain ⟨l, vs, rfl, h1, r1⟩ := w.tup da
    obtain ⟨m, us, rfl, h2, r2⟩ := w.tup db
    refine .inr (.inr (.inl ⟨l, m, vs, us, rfl, rfl, h1, h2, by rw [r1.length, r2.length]; exact h.1, fun e => ?_, fun _ e => ?_, fun _ _ p hp => ?_⟩))
    · subst e; cases xs with
      | nil => exact q _ _ _ _ _ (Fr.refl ..) w db h.2
      | cons _ _ => cases r1
    · subst e; cases ys with
      | nil => exact q _ _ _ _ _ (Fr.refl ..) w da (by simpa using h.2)
      | cons _ _ => cases r2
    · obtain ⟨w2, f2, s2⟩ := w.newG hp (.tup (vs ++ us))
      exact q _ _ _ _ _ f2 w2 (.tup (SqT.of upd_same) ((r1.append r2).mono s2)) h.2
  · obtain ⟨xs, ys, e1, e2, hl, hk⟩ := h
    exact .inr (.inr (.inr (catL w da db e1 e2 hl hk q)))
theorem add_lst {x y : D} {C : CS} {k : KD} {xs ys : List D} (e1 : seqL C x = some xs) (e2 : seqL C y = some ys) (hl : xs.length + ys.length ≤ sizeLine) (h : ∀ p, C p = none → k (.own p) (put C p (.lst (xs ++ ys)))) : dAdd x y C k := by
  obtain ⟨n1, n2, n3⟩ := seqL_ints e1
  unfold dAdd
  split
  · exact absurd rfl (n1 _)
  · exact absurd rfl (n2 _)
  · exact absurd rfl (n3 _)
  · exact ⟨xs, ys, e1, e2, hl, h⟩
/-- * of ints; a list by an int -/
def dMul : OpD := fun x y C k => match x, y with
  | .int i, .int j => CMul i j ∧ k (.int (i * j)) C
  | x, .int n => ∃ xs, seqL C x = some xs ∧ -(2 ^ 63) ≤ n ∧ n < 2 ^ 63 ∧ xs.length * n.toNat ≤ sizeLine ∧ ∀ p, C p = none → k (.own p) (put C p (.lst (List.replicate n.toNat xs).flatten))
  | _, _ => False
theorem datAll_rep {G : Hp} {vs : List V} {ds : List D} (r : DatAll K G vs ds) : ∀ n : Nat, DatAll K G (List.replicate n vs).flatten (List.replicate n ds).flatten
  | 0 => .nil
  | n + 1 => by
    rw [List.replicate_succ, List.replicate_succ, List.flatten_cons, List.flatten_cons]
    exact r.append (datAll_rep r n)
def rMulA : R2 := fun x y H Q => rI CMul (fun i j => .int (i * j)) x y H Q ∨ rRep x y H Q
theorem op_mulA {X : Cx} : OpR X (binaryOp .Mult) rMulA := OpR.or op_mul op_rep
theorem r2_mul : R2D K rMulA dMul := by
  intro x y a b G C H k Q w da db h q
  unfold dMul at h
  split at h
  · cases da; cases db
    exact .inl ⟨_, _, rfl, rfl, h.1, q _ _ _ _ _ (Fr.refl ..) w (.int _) h.2⟩
  · obtain ⟨xs, e, h1, h2, h3, h4⟩ := h
    obtain ⟨l, vs, rfl, hH, r1⟩ := w.lst da e
    cases db
    refine .inr ⟨l, _, vs, rfl, rfl, hH, h1, h2, by rw [r1.length]; exact h3, fun p hp => ?_⟩
    obtain ⟨w2, f2⟩ := w.newC hp (o := .lst _) (c := .lst _) fun H' e => ⟨_, e, datAll_rep r1 _⟩
    exact q _ _ _ _ _ f2 w2 (.own p) (h4 p (w.ne hp).2)
  · exact h.elim

/-! ### comparisons -/
def dEq0 (neg : Bool) : OpD := fun x y C k => ∃ a b, pyC C x = some a ∧ pyC C y = some b ∧ SeqAt.shaped a = true ∧ SeqAt.shaped b = true ∧ k (.bl (if neg = true then !PyData.eqv a b else PyData.eqv a b)) C
theorem r2_eq0 : R2D K (rEqD K) (dEq0 false) := by
  rintro x y a b G C H k Q w da db ⟨d, e, h1, h2, h3, h4, h5⟩ q
  exact ⟨d, e, w.dp da h1, w.dp db h2, h3, h4, q _ _ _ _ _ (Fr.refl ..) w (.bl _) h5⟩
theorem r2_ne0 : R2D K (rNeD K) (dEq0 true) := by
  rintro x y a b G C H k Q w da db ⟨d, e, h1, h2, h3, h4, h5⟩ q
  exact ⟨d, e, w.dp da h1, w.dp db h2, h3, h4, q _ _ _ _ _ (Fr.refl ..) w (.bl _) h5⟩
/-- .. of texts, whatever their signs -/
def dEqS (neg : Bool) : OpD := fun x y C k => ∃ s t, x = .str s ∧ y = .str t ∧ k (.bl (if neg = true then !(s == t) else s == t)) C
def dEq (neg : Bool) : OpD := fun x y C k => dEq0 neg x y C k ∨ dEqS neg x y C k
theorem dec_st {s t : Str} : decide (V.str s = V.str t) = (s == t) := by
  by_cases h : s = t
  · subst h; simp
  · simp [h]
theorem r2_eq : R2D K (fun x y H Q => rEqD K x y H Q ∨ rEq x y H Q) (dEq false) := by
  rintro x y a b G C H k Q w da db (h | ⟨s, t, rfl, rfl, h⟩) q
  · exact .inl (r2_eq0 x y a b G C H k Q w da db h q)
  · cases da; cases db
    refine .inr ⟨rfl, ?_⟩
    rw [dec_st]
    exact q _ _ _ _ _ (Fr.refl ..) w (.bl _) h
theorem r2_ne : R2D K (fun x y H Q => rNeD K x y H Q ∨ rNe x y H Q) (dEq true) := by
  rintro x y a b G C H k Q w da db (h | ⟨s, t, rfl, rfl, h⟩) q
  · exact .inl (r2_ne0 x y a b G C H k Q w da db h q)
  · cases da; cases db
    refine .inr ⟨rfl, ?_⟩
    rw [dec_st]
    exact q _ _ _ _ _ (Fr.refl ..) w (.bl _) h
/-- is None -/
def dIsN (neg : Bool) : OpD := fun x y C k => y = .non ∧ match x with
  | .opq _ => False
  | .non => k (.bl (!neg)) C
  | _ => k (.bl neg) C
theorem r2_isN : R2D K (fun x y H Q => y = .non ∧ Q (.bl (decide (x = .non))) H) (dIsN false) := by
  rintro x y a b G C H k Q w da db ⟨rfl, h⟩ q
  cases db
  refine ⟨rfl, ?_⟩
  cases da <;> first | exact h.elim | exact q _ _ _ _ _ (Fr.refl ..) w (.bl _) h
theorem r2_notN : R2D K (fun x y H Q => y = .non ∧ Q (.bl (!decide (x = .non))) H) (dIsN true) := by
  rintro x y a b G C H k Q w da db ⟨rfl, h⟩ q
  cases db
  refine ⟨rfl, ?_⟩
  cases da <;> first | exact h.elim | exact q _ _ _ _ _ (Fr.refl ..) w (.bl _) h
/-- in, not in: a list of data; one sign in a text -/
def dInL (neg : Bool) : OpD := fun x y C k => ∃ a ds, pyC C x = some a ∧ pyC C y = some (.list ds) ∧ SeqAt.shaped a = true ∧ SeqAt.shaped (.list ds) = true ∧ k (.bl (if neg = true then !ds.any fun z => PyData.eqv z a else ds.any fun z => PyData.eqv z a)) C
theorem r2_inL : R2D K (rInD K) (dInL false) := by
  rintro x y a b G C H k Q w da db ⟨d, e, h1, h2, h3, h4, h5⟩ q
  exact ⟨d, e, w.dp da h1, w.dp db h2, h3, h4, q _ _ _ _ _ (Fr.refl ..) w (.bl _) h5⟩
theorem r2_ninL : R2D K (rNotInD K) (dInL true) := by
  rintro x y a b G C H k Q w da db ⟨d, e, h1, h2, h3, h4, h5⟩ q
  exact ⟨d, e, w.dp da h1, w.dp db h2, h3, h4, q _ _ _ _ _ (Fr.refl ..) w (.bl _) h5⟩
def dInS (neg : Bool) : OpD := fun x y C k => ∃ (c : Nat) (z : Str), x = .str ⟨#[c]⟩ ∧ y = .str z ∧ k (.bl (if neg = true then !decide (c ∈ z.cps.toList) else decide (c ∈ z.cps.toList))) C
theorem r2_inS : R2D K (fun x y H Q => ∃ (c : Nat) (z : Str), x = .str ⟨#[c]⟩ ∧ y = .str z ∧ Q (.bl (decide (c ∈ z.cps.toList))) H) (dInS false) := by
  rintro x y a b G C H k Q w da db ⟨c, z, rfl, rfl, h⟩ q
  cases da; cases db
  exact ⟨c, z, rfl, rfl, q _ _ _ _ _ (Fr.refl ..) w (.bl _) h⟩
theorem r2_ninS : R2D K (fun x y H Q => ∃ (c : Nat) (z : Str), x = .str ⟨#[c]⟩ ∧ y = .str z ∧ Q (.bl (!decide (c ∈ z.cps.toList))) H) (dInS true) := by
  rintro x y a b G C H k Q w da db ⟨c, z, rfl, rfl, h⟩ q
  cases da; cases db
  exact ⟨c, z, rfl, rfl, q _ _ _ _ _ (Fr.refl ..) w (.bl _) h⟩

/-! ### subscripts -/
def dIx : OpD := fun x y C k => match x, y with
  | .tup xs, .int i => ∃ d, atI xs i = some d ∧ k d C
  | .str z, .int i => z.length ≤ sizeLine ∧ ∃ c, atI z.cps.toList i = some c ∧ k (.str ⟨#[c]⟩) C
  | x, .int i => ∃ xs d, seqR C x = some xs ∧ atI xs i = some d ∧ k d C
  | _, _ => False
theorem datAll_at {G : Hp} {vs : List V} {ds : List D} {i : Int} {d : D} (r : DatAll K G vs ds) (h : atI ds i = some d) : ∃ v, atI vs i = some v ∧ Dat K G v d := by
  unfold atI at h ⊢
  rw [r.length]
  cases q : ixN ds.length i with
  | none => rw [q] at h; cases h
  | some j =>
    rw [q] at h
    exact r.get (show ds[j]? = some d from h)
theorem r2_ix : R2D K (rIx K) dIx := by
  intro x y a b G C H k Q w da db h q
  unfold dIx at h
  split at h
  · obtain ⟨d, h1, h2⟩ := h
    obtain ⟨l, vs, rfl, h3, r1⟩ := w.tup da
    cases db
    obtain ⟨v, h4, h5⟩ := datAll_at r1 h1
    exact .inr (.inl ⟨l, vs, _, v, rfl, rfl, h3, h4, q _ _ _ _ _ (Fr.refl ..) w h5 h2⟩)
  · obtain ⟨hz, c, h1, h2⟩ := h
    cases da; cases db
    exact .inr (.inr ⟨_, _, c, rfl, rfl, hz, h1, q _ _ _ _ _ (Fr.refl ..) w (.str _) h2⟩)
  · obtain ⟨xs, d, e, h1, h2⟩ := h
    obtain ⟨l, vs, rfl, h3, r1⟩ := w.seq da e
    cases db
    obtain ⟨v, h4, h5⟩ := datAll_at r1 h1
    exact .inl ⟨l, vs, _, v, rfl, rfl, h3, h4, q _ _ _ _ _ (Fr.refl ..) w h5 h2⟩
  · exact h.elim
theorem ix_lst {x : D} {i : Int} {C : CS} {k : KD} {xs : List D} {d : D} (e : seqR C x = some xs) (h : atI xs i = some d) (hk : k d C) : dIx x (.int i) C k := by
  cases x <;> first | exact ⟨xs, d, e, h, hk⟩ | (simp [seqR] at e)

def cutD (xs : List D) (lo hi : Option Int) : List D := (xs.drop (HT.sIx xs.length 0 lo)).take (HT.sIx xs.length xs.length hi - HT.sIx xs.length 0 lo)
theorem cut_datAll {G : Hp} {vs : List V} {ds : List D} (r : DatAll K G vs ds) (lo hi : Option Int) : DatAll K G (cutV vs lo hi) (cutD ds lo hi) := by
  unfold cutV cutD
  rw [r.length]
  exact (r.drop _).take _
def dSl (x : D) (lo hi : Option Int) (C : CS) (k : KD) : Prop := match x with
  | .tup xs => k (.tup (cutD xs lo hi)) C
  | .str z => z.length ≤ sizeLine ∧ k (.str (cutS z lo hi)) C
  | x => ∃ xs, seqR C x = some xs ∧ ∀ p, C p = none → k (.own p) (put C p (.lst (cutD xs lo hi)))
theorem sl_lst {x : D} {lo hi : Option Int} {C : CS} {k : KD} {xs : List D} (e : seqR C x = some xs) (h : ∀ p, C p = none → k (.own p) (put C p (.lst (cutD xs lo hi)))) : dSl x lo hi C k := by
  unfold dSl
  split
  · simp [seqR] at e
  · simp [seqR] at e
  · exact ⟨xs, e, h⟩
def rSlAll (K : PySem.W.Frag) : V → Option Int → Option Int → Hp → VK → Prop := fun x lo hi H Q => rSlL K x lo hi H Q ∨ (rSlS x lo hi H Q ∨ rSlA K x lo hi H Q)
theorem sl_all {X : Cx} : SlR X (rSlAll X.K) := SlR.or sl_list (SlR.or sl_str sl_tupA)
theorem sl_ok {x : V} {a : D} {lo hi : Option Int} {G : Hp} {C : CS} {H : Hp} {k : KD} {Q : VK} (w : Wld K G C H) (da : Dat K G x a) (h : dSl a lo hi C k) (q : Kont K G C H k Q) : rSlAll K x lo hi H Q := by
  unfold dSl at h
  split at h
  · rename_i xs
    obtain ⟨l, vs, rfl, h3, r1⟩ := w.tup da
    refine .inr (.inr ⟨l, vs, rfl, h3, fun e => ?_, fun _ p hp => ?_⟩)
    · rw [r1.length] at e
      have : cutD xs lo hi = xs := by
        unfold cutD
        rw [e.1, e.2]
        simp
      rw [this] at h
      exact q _ _ _ _ _ (Fr.refl ..) w da h
    · obtain ⟨w2, f2, s2⟩ := w.newG hp (.tup (cutV vs lo hi))
      exact q _ _ _ _ _ f2 w2 (.tup (SqT.of upd_same) ((cut_datAll r1 lo hi).mono s2)) h
  · cases da
    exact .inr (.inl ⟨_, rfl, h.1, q _ _ _ _ _ (Fr.refl ..) w (.str _) h.2⟩)
  · obtain ⟨xs, e, h⟩ := h
    obtain ⟨l, vs, rfl, h3, r1⟩ := w.seq da e
    refine .inl ⟨l, vs, rfl, h3, fun p hp => ?_⟩
    obtain ⟨w2, f2⟩ := w.newC hp (o := .lst (cutV vs lo hi)) (c := .lst (cutD xs lo hi)) fun H' e => ⟨_, e, cut_datAll r1 lo hi⟩
    exact q _ _ _ _ _ f2 w2 (.own p) (h p (w.ne hp).2)
end
section
variable {X : Cx} {e a b : Expr} {es : List Expr} {env : DEnv} {C : CS} {k : KD} {kb : Bool → CS → Prop} {ka : List D → CS → Prop} {pos : Pos}
theorem we_ix (h : WE X a env C fun x C1 => WE X b env C1 fun y C2 => dIx x y C2 k) (hs : PlainIx b := by intro _ _; rfl) : WE X (.Subscript a b pos) env C k := .of (pe_ix ix_seq pe_tS pe_tS hs) (ev_op r2_ix h)
/-- a part of a slice -/
def WO (X : Cx) (e : Option Expr) (env : DEnv) (C : CS) (k : Option Int → CS → Prop) : Prop := match e with
  | none => k none C
  | some e => WE X e env C fun d C1 => ∃ i, d = .int i ∧ k (some i) C1
def tO (X : Cx) (e : Option Expr) : TO := match e with
  | none => tNoPart
  | some e => tPart (tS X e)
theorem po_tO {o : Option Expr} : PO X o (tO X o) := by
  cases o with
  | none => exact po_none
  | some e => exact po_some pe_tS
theorem wo_use {o : Option Expr} {ko : Option Int → CS → Prop} (h : WO X o env C ko) {G : Hp} {σ : L2.St} {H : Hp} {Q : Option Int → Hp → Prop} (w : Wld X.K G C H) (er : EnvR X.K G env σ) (q : ∀ i G' C' H', Fr G C H G' C' H' → Wld X.K G' C' H' → ko i C' → Q i H') : tO X o σ H Q := by
  cases o with
  | none => exact q none G C H (Fr.refl ..) w h
  | some e =>
    refine h G σ H _ w er fun v G' C' H' d f w' r z => ?_
    obtain ⟨i, rfl, z⟩ := z
    cases r
    exact ⟨i, rfl, q _ _ _ _ f w' z⟩
theorem we_slice {lo hi : Option Expr} {p2 : Pos} (h : WE X a env C fun x C1 => WO X lo env C1 fun l C2 => WO X hi env C2 fun u C3 => dSl x l u C3 k) : WE X (.Subscript a (.Slice lo hi none p2) pos) env C k :=
  .of (pe_slice sl_all pe_tS po_tO po_tO) fun G σ H Q w er q => h G σ H _ w er fun v G1 C1 H1 x f1 w1 d1 h1 =>
    wo_use h1 w1 (er.mono f1.exG) fun l G2 C2 H2 f2 w2 h2 => wo_use h2 w2 (er.mono (f1.trans f2).exG) fun u G3 C3 H3 f3 w3 h3 =>
      sl_ok w3 (d1.mono (f2.trans f3).exG) h3 (q.after ((f1.trans f2).trans f3))
theorem wa_cons (h : WE X e env C fun x C1 => WA X es env C1 fun ds C2 => ka (x :: ds) C2) (hs : starEach (e :: es) X.env = (false, eval e X.env) :: starEach es X.env := by rfl) : WA X (e :: es) env C ka := .of (pa_cons pe_tS pa_tAr hs) (ea_cons h)

/-! ### built-in calls -/
theorem we_cb {x : Str} {id : String} {p0 : Pos} {r : List V → Hp → VK → Prop} {p : List D → CS → KD → Prop} (hm : X.mg x = none) (hc : CallR X (.builtin id) r) (hr : RLD X.K r p) (hg : Gl X x) (hv : bootBuiltins x = some (.builtin id)) (h : WA X (e :: es) env C fun ds C1 => p ds C1 k)
    (hn : x ≠ "__name__" := by decide) (hdb : (x == ("__debug__" : Str)) = false := by decide)
    (he : starEach (e :: es) X.env = (false, eval e X.env) :: starEach es X.env := by rfl) (hpl : (backTo pos (starEach es X.env)).any (·.1) = false := by rfl) : WE X (.Call (.Name x p0) (e :: es) [] pos) env C k :=
  .of (pe_callB hc hg hm hv pa_tAr hn hdb he hpl) (ev_cb hr h)
theorem we_ct {x : Str} {T : String} {p0 : Pos} {r : List V → Hp → VK → Prop} {p : List D → CS → KD → Prop} (hm : X.mg x = none) (hc : CallR X (.type T) r) (hr : RLD X.K r p) (hg : Gl X x) (hv : bootBuiltins x = some (.type T)) (h : WA X (e :: es) env C fun ds C1 => p ds C1 k)
    (hn : x ≠ "__name__" := by decide) (hdb : (x == ("__debug__" : Str)) = false := by decide)
    (he : starEach (e :: es) X.env = (false, eval e X.env) :: starEach es X.env := by rfl) (hpl : (backTo pos (starEach es X.env)).any (·.1) = false := by rfl) : WE X (.Call (.Name x p0) (e :: es) [] pos) env C k :=
  .of (pe_callTy hc hg hm hv pa_tAr hn hdb he hpl) (ev_cb hr h)
end
end DL
/-! DLe: statements, loops, comprehensions, calls of defs. -/
namespace DL
open PySem PySem.Spec PyProof.Rows L2

section
variable {X : Cx} {e a b : Expr} {es : List Expr} {st : Stmt} {sts rest : List Stmt} {env : DEnv} {C : CS} {k : KD} {kb : Bool → CS → Prop} {ka : List D → CS → Prop} {pos : Pos} {E : DEnds}

/-! ### statements -/
theorem wss_nil (h : E.nx env C) : WSs X [] env C E := .of pss_nil fun G σ H D w er q => q.nx G C H σ env (Fr.refl ..) w er h
theorem wss_cons (h : WS X st env C { E with nx := fun env' C' => WSs X rest env' C' E }) : WSs X (st :: rest) env C E :=
  .of (pss_cons ps_tX pss_tXs) fun G σ H D w er q => h G σ H { D with nx := tXs X rest D } w er
    ⟨fun G1 C1 H1 σ1 env1 f1 w1 er1 h1 => h1 G1 σ1 H1 D w1 er1 (q.after f1), q.rt, q.bk, q.ct⟩
theorem ws_pass (h : E.nx env C) : WS X (.Pass pos) env C E := .of ps_pass fun G σ H D w er q => q.nx G C H σ env (Fr.refl ..) w er h
theorem ws_break (h : E.bk env C) : WS X (.Break pos) env C E := .of ps_break fun G σ H D w er q => q.bk G C H σ env (Fr.refl ..) w er h
theorem ws_continue (h : E.ct env C) : WS X (.Continue pos) env C E := .of ps_continue fun G σ H D w er q => q.ct G C H σ env (Fr.refl ..) w er h
theorem ws_expr (h : WE X e env C fun _ C1 => E.nx env C1) (hs : swapsWith e none pos.line X.env = pure false := by rfl) : WS X (.Expr e pos) env C E :=
  .of (ps_expr pe_tS hs) fun G σ H D w er q => h G σ H _ w er fun v G1 C1 H1 d f1 w1 r1 z => q.nx G1 C1 H1 σ env f1 w1 (er.mono f1.exG) z
theorem ws_ret (h : WE X e env C E.rt) : WS X (.Return (some e) pos) env C E := .of (ps_ret pe_tS) fun G σ H D w er q => h G σ H _ w er q.rt
theorem ws_retN (h : E.rt .non C) : WS X (.Return none pos) env C E := .of ps_retN fun G σ H D w er q => q.rt .non G C H .non (Fr.refl ..) w .non h
theorem ws_if {c : Expr} {s1 s2 : List Stmt} (h : WT X c env C fun t C1 => (t = true → WSs X s1 env C1 E) ∧ (t = false → WSs X s2 env C1 E)) : WS X (.If c s1 s2 pos) env C E :=
  .of (ps_if pt_tT pss_tXs pss_tXs) fun G σ H D w er q => h G σ H _ w er fun b G1 C1 H1 f1 w1 hb => by
    cases b with
    | true => exact iteT (hb.1 rfl G1 σ H1 D w1 (er.mono f1.exG) (q.after f1))
    | false => exact iteF (hb.2 rfl G1 σ H1 D w1 (er.mono f1.exG) (q.after f1))
/-- cells are forgotten, a list is frozen, ahead of a block -/
theorem wss_sub {C1 : CS} (hs : ∀ a c, C1 a = some c → C a = some c) (h : WSs X sts env C1 E) : WSs X sts env C E := fun G σ H D w er q =>
  let ⟨w1, f1⟩ := w.sub hs
  h G σ H D w1 er (q.after f1)
theorem we_sub {C1 : CS} (hs : ∀ a c, C1 a = some c → C a = some c) (h : WE X e env C1 k) : WE X e env C k := fun G σ H D w er q =>
  let ⟨w1, f1⟩ := w.sub hs
  h G σ H D w1 er (q.after f1)
/-- forgetting at the end -/
theorem we_post {C' : CS → CS} (hs : ∀ C1 a c, C' C1 a = some c → C1 a = some c) (h : WE X e env C fun d C1 => k d (C' C1)) : WE X e env C k := fun G σ H D w er q =>
  h G σ H D w er fun v G1 C1 H1 d f1 w1 r1 z => let ⟨w2, f2⟩ := w1.sub (hs C1); q v G1 (C' C1) H1 d (f1.trans f2) w2 r1 z

/-! ### targets -/
def EvG (K : PySem.W.Frag) (g : TG) (d : D) (env : DEnv) (C : CS) (k : DEnv → CS → Prop) : Prop := ∀ G σ H v Q, Wld K G C H → EnvR K G env σ → Dat K G v d → KontE K G C H k Q → g v σ H Q
def tGt (X : Cx) (target : Expr) : TG := fun v σ H Q => ∀ pins s u, Inv X pins σ H s → RelV v u → wpAny (model X.prog X.w) X.A (assign target X.env u) (fun _ s' => ∃ σ' H', Inv X pins σ' H' s' ∧ Q σ' H') X.xe s
theorem pg_tGt {tg : Expr} : PG X tg (tGt X tg) := ⟨fun pins s σ H v u Q I r h => h pins s u I r⟩
def tGts (X : Cx) (ts : List Expr) : TGs := fun vs σ H Q => ∀ pins s us, Inv X pins σ H s → Vals vs us → wpAny (model X.prog X.w) X.A (assignInOrder ((assignEach ts X.env).map (·.2)) us) (fun _ s' => ∃ σ' H', Inv X pins σ' H' s' ∧ Q σ' H') X.xe s
theorem pgs_tGts {ts : List Expr} : PGs X ts (tGts X ts) := ⟨fun pins s σ H vs us Q I r h => h pins s us I r⟩
def WG (X : Cx) (tg : Expr) (d : D) (env : DEnv) (C : CS) (k : DEnv → CS → Prop) : Prop := EvG X.K (tGt X tg) d env C k
def WGs (X : Cx) (ts : List Expr) (ds : List D) (env : DEnv) (C : CS) (k : DEnv → CS → Prop) : Prop := ∀ G σ H vs Q, Wld X.K G C H → EnvR X.K G env σ → DatAll X.K G vs ds → KontE X.K G C H k Q → tGts X ts vs σ H Q
theorem WG.of {tg : Expr} {g : TG} {d : D} {kE : DEnv → CS → Prop} (h : PG X tg g) (hv : EvG X.K g d env C kE) : WG X tg d env C kE := fun G σ H v Q w er r q pins s u I ru => h.run pins s σ H v u Q I ru (hv G σ H v Q w er r q)
theorem wg_name {i : Nat} {x : Str} {d : D} {kE : DEnv → CS → Prop} (hN : X.N.Nodup) (hi : X.N[i]? = some x) (hx : Loc X.env.scope x) (h : kE (env.set i (some d)) C) (hf : X.fn x = true ∨ X.env.scope.names.lookup x = some .local := by first | exact .inl rfl | exact .inr rfl | assumption) : WG X (.Name x pos) d env C kE :=
  .of (pg_name hN hi hx hf) fun G σ H v Q w er r q => q G C H _ _ (Fr.refl ..) w (er.set i r) h
theorem wgs_nil {kE : DEnv → CS → Prop} (h : kE env C) : WGs X [] [] env C kE := fun G σ H vs Q w er r q pins s us I ru => by
  cases r; cases ru
  exact (pgs_nil (X := X)).run pins s σ H [] [] Q I .nil ⟨rfl, q G C H σ env (Fr.refl ..) w er h⟩
theorem wgs_cons {t : Expr} {ts : List Expr} {d : D} {ds : List D} {kE : DEnv → CS → Prop} (h : WG X t d env C fun env1 C1 => WGs X ts ds env1 C1 kE) (hs : (assignEach (t :: ts) X.env).map (·.2) = assign t X.env :: (assignEach ts X.env).map (·.2) := by rfl) : WGs X (t :: ts) (d :: ds) env C kE := fun G σ H vs Q w er r q pins s us I ru => by
  cases r with
  | @cons v vr _ _ r1 r2 =>
    refine (pgs_cons (X := X) pg_tGt pgs_tGts hs).run pins s σ H (v :: vr) us Q I ru ⟨v, vr, rfl, ?_⟩
    exact h G σ H v _ w er r1 fun G1 C1 H1 σ1 env1 f1 w1 er1 h1 => h1 G1 σ1 H1 vr Q w1 er1 (r2.mono f1.exG) (q.after f1)
theorem wg_tup {ts : List Expr} {n : Nat} {ds : List D} {kE : DEnv → CS → Prop} (hc : X.calm = true) (hl : ds.length = (assignEach ts X.env).length) (h : WGs X ts ds env C kE) (hst : (assignEach ts X.env).findIdx? (·.1) = none := by rfl) : WG X (.Tuple ts n pos) (.tup ds) env C kE :=
  .of (pg_tup hc pgs_tGts rfl hst) fun G σ H v Q w er r q => by
    cases r with
    | tup h1 h2 => exact ⟨_, _, rfl, Same.sqT w.ex h1, by rw [h2.length]; exact hl, h G σ H _ Q w er h2 q⟩
theorem ws_asg {tg : Expr} (h : WE X e env C fun d C1 => WG X tg d env C1 E.nx) (hs : swapsWithSole [tg] e pos.line X.env = pure false := by rfl) (hw : swappedStores [tg] e X.env = pure none := by rfl)
    (h1 : (assignEach [tg] X.env).map (·.2) = [assign tg X.env] := by rfl) : WS X (.Assign [tg] e pos) env C E :=
  .of (ps_asg pe_tS pg_tGt hs hw h1) fun G σ H D w er q => h G σ H _ w er fun v G1 C1 H1 d f1 w1 r1 z => z G1 σ H1 v _ w1 (er.mono f1.exG) r1 (q.nx.after f1)
/-- name = value -/
theorem ws_set {i : Nat} {x : Str} {pos' : Pos} (hN : X.N.Nodup) (hi : X.N[i]? = some x) (hx : Loc X.env.scope x) (h : WE X e env C fun d C1 => E.nx (env.set i (some d)) C1) (hs : swapsWith e (some (.Name x pos')) pos.line X.env = pure false := by rfl) (hf : X.fn x = true ∨ X.env.scope.names.lookup x = some .local := by first | exact .inl rfl | exact .inr rfl | assumption) :
    WS X (.Assign [.Name x pos'] e pos) env C E :=
  .of (ps_set hN hi hx pe_tS hs hf) fun G σ H D w er q => h G σ H _ w er fun v G1 C1 H1 d f1 w1 r1 z => q.nx G1 C1 H1 _ _ f1 w1 ((er.mono f1.exG).set i r1) z
/-- a, b = x, y: two plain local names -/
theorem ws_par {i j : Nat} {x y : Str} {px py pt : Pos} {kt k2 : Nat} {pt2 : Pos} (hc : X.calm = true) (hN : X.N.Nodup) (hi : X.N[i]? = some x) (hj : X.N[j]? = some y) (hij : i ≠ j)
    (hx : X.env.scope.names.lookup x = some .local) (hy : X.env.scope.names.lookup y = some .local) (h : WA X [a, b] env C fun ds C1 => ∃ u v, ds = [u, v] ∧ E.nx ((env.set i (some u)).set j (some v)) C1)
    (hw : swappedStores [.Tuple [.Name x px, .Name y py] kt pt] (.Tuple [a, b] k2 pt2) X.env = pure (some [x, y]))
    (hs : swapsWithSole [.Tuple [.Name x px, .Name y py] kt pt] (.Tuple [a, b] k2 pt2) pos.line X.env = pure false := by rfl) :
    WS X (.Assign [.Tuple [.Name x px, .Name y py] kt pt] (.Tuple [a, b] k2 pt2) pos) env C E :=
  .of (ps_par hc hN hi hj hij hx hy pa_tAr hw hs) fun G σ H D w er q => h G σ H _ w er fun vs G1 C1 H1 ds f1 w1 r1 z => by
    obtain ⟨u, v, rfl, z⟩ := z
    cases r1 with
    | @cons u' _ _ _ r1 r2 =>
      cases r2 with
      | @cons v' _ _ _ r2 r3 =>
        cases r3
        exact ⟨u', v', rfl, q.nx G1 C1 H1 _ _ f1 w1 (((er.mono f1.exG).set i r1).set j r2) z⟩
/-- name op= value -/
def RID (K : PySem.W.Frag) (r : TIp) (p : OpD) : Prop := R2D K r p
theorem ws_aug {i : Nat} {x : Str} {op : Operator} {ti : TIp} {p : OpD} {d : D} {pos' : Pos} (hN : X.N.Nodup) (hi : X.N[i]? = some x) (hx : Loc X.env.scope x) (ho : PIp X op ti) (hr : RID X.K ti p) (he : env[i]? = some (some d)) (h : WE X e env C fun y C1 => p d y C1 fun z C2 => E.nx (env.set i (some z)) C2)
    (hf : X.fn x = true ∨ X.env.scope.names.lookup x = some .local := by first | exact .inl rfl | exact .inr rfl | assumption) : WS X (.AugAssign (.Name x pos') op e pos) env C E :=
  .of (ps_aug hN hi hx pe_tS ho hf) fun G σ H D w er q => by
    obtain ⟨v, h1, h2⟩ := er.2 i d he
    refine ⟨v, h1, ?_⟩
    exact h G σ H _ w er fun y' G1 C1 H1 y f1 w1 r1 z => hr v y' d y G1 C1 H1 _ _ w1 (h2.mono f1.exG) r1 z fun z' G2 C2 H2 z f2 w2 r2 hz => q.nx G2 C2 H2 _ _ (f1.trans f2) w2 ((er.mono (f1.trans f2).exG).set i r2) hz
/-- o[i] = value, a list -/
theorem set_ok {p : Addr} {xs : List D} {G : Hp} {H : Hp} {n : Int} {j : Nat} {x i v : V} {d : D} {Q : Hp → Prop} {K : PySem.W.Frag} (w : Wld K G C H) (hp : C p = some (.lst xs)) (hx : Dat K G x (.own p)) (hi : Dat K G i (.int n)) (hv : Dat K G v d) (hj : ixN xs.length n = some j)
    (q : ∀ H', Fr G C H G (put C p (.lst (xs.set j d))) H' → Wld K G (put C p (.lst (xs.set j d))) H' → Q H') : rSetL x i v H Q := by
  cases hx; cases hi
  obtain ⟨_, vs, h1, h2⟩ := w.cell p _ hp
  refine ⟨p, vs, n, j, rfl, rfl, h1, by rw [h2.length]; exact hj, ?_⟩
  obtain ⟨w2, f2⟩ := w.write hp (o := .lst (vs.set j v)) (c' := .lst (xs.set j d)) fun H' e => ⟨_, e, h2.set j hv⟩
  exact q _ f2 w2
theorem wg_setL {o i : Expr} {d : D} {kE : DEnv → CS → Prop} (h : WE X o env C fun x C1 => WE X i env C1 fun y C2 => ∃ p n xs j, x = .own p ∧ y = .int n ∧ C2 p = some (.lst xs) ∧ ixN xs.length n = some j ∧ kE env (put C2 p (.lst (xs.set j d))))
    (ha : ∀ v, assign (.Subscript o i pos) X.env v = (do
      let ov ← holding [v] (eval o X.env)
      let iv ← holding [v, ov] (eval i X.env)
      standAt pos
      holding [v, ov, iv] (setItem ov iv v)
      release [v, ov, iv] []) := by intro _; rfl) : WG X (.Subscript o i pos) d env C kE :=
  .of (pg_sub pe_tS pe_tS set_list ha) fun G σ H v Q w er r q => h G σ H _ w er fun x' G1 C1 H1 x f1 w1 r1 h1 => h1 G1 σ H1 _ w1 (er.mono f1.exG) fun y' G2 C2 H2 y f2 w2 r2 h2 => by
    obtain ⟨p, n, xs, j, rfl, rfl, hp, hj, hk⟩ := h2
    exact set_ok w2 hp (r1.mono f2.exG) r2 (r.mono (f1.trans f2).exG) hj fun H' f3 w3 => q _ _ _ _ _ ((f1.trans f2).trans f3) w3 (er.mono (f1.trans f2).exG) hk

/-! ### while -/
theorem ws_while {c : Expr} {body : List Stmt} (hp : PassesOwn (model X.prog X.w) X.A X.env X.xe) (Iv : Nat → DEnv → CS → Prop) (h0 : ∃ m, Iv m env C)
    (h : ∀ m env C, Iv m env C → WT X c env C fun t C1 => (t = true → WSs X body env C1 { nx := fun env' C' => ∃ m', m' < m ∧ Iv m' env' C', rt := E.rt, bk := E.nx, ct := fun env' C' => ∃ m', m' < m ∧ Iv m' env' C' }) ∧ (t = false → E.nx env C1)) : WS X (.While c body [] pos) env C E :=
  .of (ps_while hp pt_tT pss_tXs) fun G σ H D w er q => by
    obtain ⟨m0, i0⟩ := h0
    refine ⟨fun m σ1 H1 => ∃ G1 C1 env1, Fr G C H G1 C1 H1 ∧ Wld X.K G1 C1 H1 ∧ EnvR X.K G1 env1 σ1 ∧ Iv m env1 C1, ⟨m0, G, C, env, Fr.refl .., w, er, i0⟩, ?_⟩
    rintro m σ1 H1 ⟨G1, C1, env1, f1, w1, er1, i1⟩
    refine h m env1 C1 i1 G1 σ1 H1 _ w1 er1 fun b G2 C2 H2 f2 w2 hb => ?_
    cases b with
    | false => exact iteF (q.nx G2 C2 H2 σ1 env1 (f1.trans f2) w2 (er1.mono f2.exG) (hb.2 rfl))
    | true =>
      refine iteT ⟨fun σ' H' => ∃ m', m' < m ∧ ∃ G1 C1 env1, Fr G C H G1 C1 H' ∧ Wld X.K G1 C1 H' ∧ EnvR X.K G1 env1 σ' ∧ Iv m' env1 C1, fun σ' H' h => h, ?_⟩
      have fin : KontE X.K G2 C2 H2 (fun env' C' => ∃ m', m' < m ∧ Iv m' env' C') (fun σ' H' => ∃ m', m' < m ∧ ∃ G1 C1 env1, Fr G C H G1 C1 H' ∧ Wld X.K G1 C1 H' ∧ EnvR X.K G1 env1 σ' ∧ Iv m' env1 C1) := fun G3 C3 H3 σ3 env3 f3 w3 er3 ⟨m', hm, i3⟩ => ⟨m', hm, G3, C3, env3, (f1.trans f2).trans f3, w3, er3, i3⟩
      exact hb.1 rfl G2 σ1 H2 _ w2 (er1.mono f2.exG) ⟨fin, q.rt.after (f1.trans f2), q.nx.after (f1.trans f2), fin⟩
end

/-! ### what is walked -/
/-- while Pc holds of the cells, the walk J gives these data -/
def IterD (K : PySem.W.Frag) (J : It) (xs : List D) (Pc : CS → Prop) (G : Hp) : Prop := ∀ G' C' H', Same G G' → Wld K G' C' H' → Pc C' →
  (∀ i d, xs[i]? = some d → J.go i H' ∧ ∀ x H2, J.yld i H' x H2 → ∃ G2, Fr G' C' H' G2 C' H2 ∧ Wld K G2 C' H2 ∧ Dat K G2 x d) ∧ (∀ i, xs.length ≤ i → J.stop i H')
abbrev KI := List D → (CS → Prop) → CS → Prop
def EvI (K : PySem.W.Frag) (wi : TI) (env : DEnv) (C : CS) (kI : KI) : Prop := ∀ G σ H R, Wld K G C H → EnvR K G env σ → (∀ J G' C' H' xs Pc, Fr G C H G' C' H' → Wld K G' C' H' → IterD K J xs Pc G' → kI xs Pc C' → R J H') → wi σ H R
def WI (X : Cx) (tg iter : Expr) (env : DEnv) (C : CS) (kI : KI) : Prop := ∃ wi, PI X tg iter wi ∧ EvI X.K wi env C kI
theorem iterD_list {K : PySem.W.Frag} {G : Hp} {a : Addr} {vs : List V} {ds : List D} (h : SqL K G a vs) (r : DatAll K G vs ds) : IterD K (Itl K a) ds (fun _ => True) G := by
  intro G' C' H' e w _
  have hq : SqL K H' a vs := w.ex.seq (e.seq h)
  refine ⟨fun i d hd => ?_, fun i hi => ⟨vs, hq, by rw [r.length]; exact hi⟩⟩
  obtain ⟨v, h1, h2⟩ := r.get hd
  refine ⟨⟨vs, v, hq, h1⟩, ?_⟩
  rintro x H2 ⟨rfl, hx⟩
  have e1 := hx vs hq
  rw [h1] at e1; cases e1
  exact ⟨G', Fr.refl .., w, h2.mono e⟩
theorem iterD_own {K : PySem.W.Frag} {G : Hp} {a : Addr} {ds : List D} : IterD K (Itl K a) ds (fun C => C a = some (.lst ds)) G := by
  intro G' C' H' e w p
  obtain ⟨_, vs, h1, r⟩ := w.cell a _ p
  have hq : SqL K H' a vs := SqL.of h1
  refine ⟨fun i d hd => ?_, fun i hi => ⟨vs, hq, by rw [r.length]; exact hi⟩⟩
  obtain ⟨v, g1, h2⟩ := r.get hd
  refine ⟨⟨vs, v, hq, g1⟩, ?_⟩
  rintro x H2 ⟨rfl, hx⟩
  have e1 := hx vs hq
  rw [g1] at e1; cases e1
  exact ⟨G', Fr.refl .., w, h2⟩
theorem iterD_tup {K : PySem.W.Frag} {G : Hp} {a : Addr} {vs : List V} {ds : List D} (h : SqT K G a vs) (r : DatAll K G vs ds) : IterD K (Itt K a) ds (fun _ => True) G := by
  intro G' C' H' e w _
  have hq : SqT K H' a vs := Same.sqT w.ex (Same.sqT e h)
  refine ⟨fun i d hd => ?_, fun i hi => ⟨vs, hq, by rw [r.length]; exact hi⟩⟩
  obtain ⟨v, h1, h2⟩ := r.get hd
  refine ⟨⟨vs, v, hq, h1⟩, ?_⟩
  rintro x H2 ⟨rfl, hx⟩
  have e1 := hx vs hq
  rw [h1] at e1; cases e1
  exact ⟨G', Fr.refl .., w, h2.mono e⟩
def intsFrom (lo : Int) (n : Nat) : List D := (List.range n).map fun i => D.int (lo + (i : Nat))
theorem intsFrom_get {lo : Int} {n i : Nat} {d : D} (h : (intsFrom lo n)[i]? = some d) : i < n ∧ d = .int (lo + (i : Nat)) := by
  unfold intsFrom at h
  rw [List.getElem?_map] at h
  by_cases hi : i < n
  · rw [List.getElem?_range hi] at h; exact ⟨hi, (Option.some.inj h).symm⟩
  · rw [List.getElem?_eq_none (by simpa using hi)] at h; cases h
theorem intsFrom_length {lo : Int} {n : Nat} : (intsFrom lo n).length = n := by unfold intsFrom; simp
theorem iterD_rng {K : PySem.W.Frag} {G : Hp} {lo : Int} {n : Nat} : IterD K (Itr lo n) (intsFrom lo n) (fun _ => True) G := by
  intro G' C' H' e w _
  refine ⟨fun i d hd => ?_, fun i hi => by rw [intsFrom_length] at hi; exact hi⟩
  obtain ⟨h1, rfl⟩ := intsFrom_get hd
  refine ⟨h1, ?_⟩
  rintro x H2 ⟨rfl, rfl⟩
  exact ⟨G', Fr.refl .., w, .int _⟩
def signsOf (x : Str) : List D := x.cps.toList.map fun c => D.str ⟨#[c]⟩
theorem iterD_str {K : PySem.W.Frag} {G : Hp} {x : Str} : IterD K (Its x) (signsOf x) (fun _ => True) G := by
  intro G' C' H' e w _
  refine ⟨fun i d hd => ?_, fun i hi => show x.cps.size ≤ i by simpa [signsOf] using hi⟩
  unfold signsOf at hd
  rw [List.getElem?_map] at hd
  cases q : x.cps.toList[i]? with
  | none => rw [q] at hd; cases hd
  | some c =>
    rw [q] at hd
    obtain rfl := Option.some.inj hd
    have hc : x.cps[i]? = some c := by simpa using q
    refine ⟨(Array.getElem?_eq_some_iff.mp hc).1, ?_⟩
    rintro v H2 ⟨rfl, c', h1, rfl⟩
    rw [hc] at h1; cases h1
    exact ⟨G', Fr.refl .., w, .str _⟩
section
variable {X : Cx} {e a b : Expr} {es : List Expr} {tg iter : Expr} {body : List Stmt} {env : DEnv} {C : CS} {k : KD} {pos : Pos} {E : DEnds} {kI : KI}
theorem wi_list (h : WE X e env C fun d C1 => (∃ xs, seqR C1 d = some xs ∧ match d with
    | .own a => kI xs (fun C => C a = some (.lst xs)) C1
    | _ => kI xs (fun _ => True) C1)) : WI X tg e env C kI := by
  refine ⟨_, pi_list pe_tS, fun G σ H R w er q => h G σ H _ w er fun v G1 C1 H1 d f1 w1 r1 z => ?_⟩
  obtain ⟨xs, hs, z⟩ := z
  cases r1 with
  | lst x1 x2 =>
    simp [seqR] at hs; subst hs
    exact ⟨_, rfl, ⟨_, w1.ex.seq (SqL.of x1)⟩, q _ _ _ _ _ _ f1 w1 (iterD_list (SqL.of x1) x2) z⟩
  | slst x1 x2 =>
    simp [seqR] at hs; subst hs
    exact ⟨_, rfl, ⟨_, w1.ex.seq x1⟩, q _ _ _ _ _ _ f1 w1 (iterD_list x1 x2) z⟩
  | own a =>
    have hc := own_seqR hs
    obtain ⟨_, vs, y1, y2⟩ := w1.cell a _ hc
    exact ⟨_, rfl, ⟨_, SqL.of y1⟩, q _ _ _ _ _ _ f1 w1 iterD_own z⟩
  | _ => simp [seqR] at hs
theorem wi_tup (h : WE X e env C fun d C1 => ∃ xs, d = .tup xs ∧ kI xs (fun _ => True) C1) : WI X tg e env C kI := by
  refine ⟨_, pi_tup pe_tS, fun G σ H R w er q => h G σ H _ w er fun v G1 C1 H1 d f1 w1 r1 z => ?_⟩
  obtain ⟨xs, rfl, z⟩ := z
  cases r1 with
  | tup x1 x2 => exact ⟨_, rfl, ⟨_, Same.sqT w1.ex x1⟩, q _ _ _ _ _ _ f1 w1 (iterD_tup x1 x2) z⟩
theorem wi_str (h : WE X e env C fun d C1 => ∃ x, d = .str x ∧ kI (signsOf x) (fun _ => True) C1) : WI X tg e env C kI := by
  refine ⟨_, pi_str pe_tS, fun G σ H R w er q => h G σ H _ w er fun v G1 C1 H1 d f1 w1 r1 z => ?_⟩
  obtain ⟨x, rfl, z⟩ := z
  cases r1
  exact ⟨_, rfl, q _ _ _ _ _ _ f1 w1 iterD_str z⟩
theorem wi_range1 {p : Pos} (hm : X.mg "range" = none) (hg : Gl X "range") (h : WA X [a] env C fun ds C1 => ∃ j : Int, ds = [.int j] ∧ -(2 ^ 62) ≤ j ∧ j < 2 ^ 62 ∧ kI (intsFrom 0 j.toNat) (fun _ => True) C1) (hs : starEach [a] X.env = [(false, eval a X.env)] := by rfl) :
    WI X tg (.Call (.Name "range" p) [a] [] pos) env C kI := by
  refine ⟨_, pi_range1 hg hm pa_tAr hs, fun G σ H R w er q => h G σ H _ w er fun v G1 C1 H1 d f1 w1 r1 z => ?_⟩
  obtain ⟨j, rfl, z1, z2, z⟩ := z
  cases r1 with
  | cons r1 r2 => cases r1; cases r2; exact ⟨j, rfl, z1, z2, q _ _ _ _ _ _ f1 w1 iterD_rng z⟩
theorem wi_range2 {p : Pos} (hm : X.mg "range" = none) (hg : Gl X "range") (h : WA X [a, b] env C fun ds C1 => ∃ i j : Int, ds = [.int i, .int j] ∧ (-(2 ^ 62) ≤ i ∧ i < 2 ^ 62 ∧ -(2 ^ 62) ≤ j ∧ j < 2 ^ 62) ∧ kI (intsFrom i (j - i).toNat) (fun _ => True) C1)
    (hs : starEach [a, b] X.env = [(false, eval a X.env), (false, eval b X.env)] := by rfl) (hs2 : starEach [b] X.env = [(false, eval b X.env)] := by rfl) :
    WI X tg (.Call (.Name "range" p) [a, b] [] pos) env C kI := by
  refine ⟨_, pi_range2 hg hm pa_tAr hs hs2, fun G σ H R w er q => h G σ H _ w er fun v G1 C1 H1 d f1 w1 r1 z => ?_⟩
  obtain ⟨i, j, rfl, z1, z⟩ := z
  cases r1 with
  | cons r1 r2 =>
    cases r2 with
    | cons r2 r3 => cases r1; cases r2; cases r3; exact ⟨i, j, rfl, z1, q _ _ _ _ _ _ f1 w1 iterD_rng z⟩

/-- for: an invariant over the turn -/
theorem ws_for (hp : PassesOwn (model X.prog X.w) X.A X.env X.xe) (hc : X.calm = true)
    (h : WI X tg iter env C fun xs Pc C1 => ∃ Iv : Nat → DEnv → CS → Prop, Iv 0 env C1 ∧ (∀ i env C, Iv i env C → Pc C) ∧
      (∀ i d env C, xs[i]? = some d → Iv i env C → WG X tg d env C fun env' C' => WSs X body env' C' { nx := Iv (i + 1), rt := E.rt, bk := E.nx, ct := Iv (i + 1) }) ∧ (∀ env C, Iv xs.length env C → E.nx env C))
    (hs : ∀ x, foldedSetIterable iter X.env x = pure x := by intro _; rfl) : WS X (.For tg iter body [] pos) env C E := by
  obtain ⟨wi, hi, h⟩ := h
  refine .of (ps_for hp hc hi pg_tGt pss_tXs hs) fun G σ H D w er q => h G σ H _ w er fun J G1 C1 H1 xs Pc f1 w1 it z => ?_
  obtain ⟨Iv, i0, hP, turn, done⟩ := z
  let Wn : Nat → L2.St → Hp → Prop := fun i σ2 H2 => i ≤ xs.length ∧ ∃ G2 C2 env2, Fr G C H G2 C2 H2 ∧ Same G1 G2 ∧ Wld X.K G2 C2 H2 ∧ EnvR X.K G2 env2 σ2 ∧ Iv i env2 C2
  refine ⟨fun i m σ2 H2 => m = xs.length - i ∧ Wn i σ2 H2, ⟨xs.length, rfl, Nat.zero_le _, G1, C1, env, f1, fun _ _ h => h, w1, er.mono f1.exG, i0⟩, ?_⟩
  rintro i m σ2 H2 ⟨rfl, hi2, G2, C2, env2, f2, s2, w2, er2, i2⟩
  obtain ⟨go, stop⟩ := it G2 C2 H2 s2 w2 (hP _ _ _ i2)
  by_cases hlt : i < xs.length
  · obtain ⟨hgo, hy⟩ := go i xs[i] (by simp [hlt])
    refine .inr ⟨hgo, Wn (i + 1), fun σ' H' h' => ⟨xs.length - (i + 1), by omega, rfl, h'⟩, fun x H3 hx => ?_⟩
    obtain ⟨G3, f3, w3, r3⟩ := hy x H3 hx
    refine turn i xs[i] env2 C2 (by simp [hlt]) i2 G3 σ2 H3 x _ w3 (er2.mono f3.exG) r3 fun G4 C4 H4 σ4 env4 f4 w4 er4 h4 => ?_
    have nx : KontE X.K G4 C4 H4 (Iv (i + 1)) (Wn (i + 1)) := fun G5 C5 H5 σ5 env5 f5 w5 er5 h5 => ⟨hlt, G5, C5, env5, ((f2.trans f3).trans f4).trans f5, ((s2.trans f3.exG).trans f4.exG).trans f5.exG, w5, er5, h5⟩
    exact h4 G4 σ4 H4 _ w4 er4 ⟨nx, q.rt.after ((f2.trans f3).trans f4), q.nx.after ((f2.trans f3).trans f4), nx⟩
  · have e : i = xs.length := by omega
    subst e
    exact .inl ⟨stop _ (Nat.le_refl _), q.nx G2 C2 H2 σ2 env2 f2 w2 er2 (done _ _ i2)⟩
end
end DL
/-! DLf: comprehensions, defs and their calls, built-in calls and methods. -/
namespace DL
open PySem PySem.Spec PyProof.Rows L2

/-! ### comprehensions -/
theorem wipe_get (σ : L2.St) (j : Nat) : ∀ vs : List Nat, (wipe σ vs)[j]? = if j ∈ vs then (if j < σ.length then some none else none) else σ[j]?
  | [] => by simp [wipe]
  | v :: vs => by
    unfold wipe
    by_cases e : v = j
    · subst e
      simp only [List.mem_cons, true_or, if_true]
      by_cases l : v < σ.length
      · rw [List.getElem?_set_self (by rw [wipe_length]; exact l), if_pos l]
      · rw [List.getElem?_eq_none (by rw [List.length_set, wipe_length]; omega), if_neg l]
    · rw [List.getElem?_set_ne e, wipe_get σ j vs]
      have : (j ∈ v :: vs) = (j ∈ vs) := by simp [List.mem_cons, Ne.symm e]
      simp only [this]
theorem wipe_ext {σ σ' : L2.St} {vs : List Nat} (hl : σ'.length = σ.length) (h : ∀ j, j ∉ vs → σ'[j]? = σ[j]?) : wipe σ' vs = wipe σ vs := by
  apply List.ext_getElem?
  intro j
  rw [wipe_get, wipe_get, hl]
  by_cases e : j ∈ vs
  · rw [if_pos e, if_pos e]
  · rw [if_neg e, if_neg e, h j e]
theorem wipe_wipe_set {σ : L2.St} {vs : List Nat} {i : Nat} {x : Option V} (hi : i ∈ vs) : wipe ((wipe σ vs).set i x) vs = wipe σ vs := by
  apply wipe_ext
  · rw [List.length_set, wipe_length]
  · intro j hj
    have : i ≠ j := fun e => hj (e ▸ hi)
    rw [List.getElem?_set_ne this, wipe_get, if_neg hj]
def wipeD (env : DEnv) : List Nat → DEnv
  | [] => env
  | v :: vs => (wipeD env vs).set v none
theorem EnvR.wipe {K : PySem.W.Frag} {G : Hp} {env : DEnv} {σ : L2.St} (h : EnvR K G env σ) : ∀ vs : List Nat, EnvR K G (wipeD env vs) (L2.wipe σ vs)
  | [] => h
  | v :: vs => by
    have ih := EnvR.wipe h vs
    refine ⟨by simp [wipeD, L2.wipe, ih.1], fun i d q => ?_⟩
    unfold wipeD at q
    unfold L2.wipe
    by_cases e : v = i
    · subst e
      by_cases l : v < (wipeD env vs).length
      · rw [List.getElem?_set_self l] at q; cases q
      · rw [List.getElem?_eq_none (by simpa using l)] at q; cases q
    · rw [List.getElem?_set_ne e] at q ⊢
      exact ih.2 i d q

/-- the contexts of a comprehension's block -/
def Blk (X : Cx) (scope : Scope) (X' : Cx) : Prop := ∃ (s : Shared) (H : Hp) (C : Addr) (cl : List (Str × Addr)) (fp : List Addr), X' = X.blk s H scope (compEnvC scope cl C X.env) fp
/-- a target of a comprehension -/
def EvGW (K : PySem.W.Frag) (g : TG) (vs : List Nat) (d : D) (env : DEnv) (C : CS) (kE : DEnv → CS → Prop) : Prop :=
  ∀ G σ H v Q, Wld K G C H → EnvR K G env σ → Dat K G v d → KontE K G C H kE Q → g v (wipe σ vs) H fun σ2 H2 => wipe σ2 vs = wipe σ vs ∧ Q σ2 H2
theorem gw_name {K : PySem.W.Frag} {i : Nat} {vs : List Nat} {d : D} {env : DEnv} {C : CS} {kE : DEnv → CS → Prop} (hi : i ∈ vs) (h : kE ((wipeD env vs).set i (some d)) C) : EvGW K (gName i) vs d env C kE := fun G σ H v Q w er r q =>
  ⟨wipe_wipe_set hi, q G C H _ _ (Fr.refl ..) w ((er.wipe vs).set i r) h⟩
theorem gw_tup2 {K : PySem.W.Frag} {i j : Nat} {vs : List Nat} {d1 d2 : D} {env : DEnv} {C : CS} {kE : DEnv → CS → Prop} (hi : i ∈ vs) (hj : j ∈ vs) (h : kE (((wipeD env vs).set i (some d1)).set j (some d2)) C) : EvGW K (gTup K 2 (gCons (gName i) (gCons (gName j) gNil))) vs (.tup [d1, d2]) env C kE := fun G σ H v Q w er r q => by
  cases r with
  | tup h1 h2 =>
    cases h2 with
    | @cons v1 _ _ _ r1 h2 =>
      cases h2 with
      | @cons v2 _ _ _ r2 h2 =>
        cases h2
        refine ⟨_, _, rfl, Same.sqT w.ex h1, rfl, v1, [v2], rfl, v2, [], rfl, rfl, ?_, q G C H _ _ (Fr.refl ..) w (((er.wipe vs).set i r1).set j r2) h⟩
        apply wipe_ext
        · rw [List.length_set, List.length_set, wipe_length]
        · intro n hn
          have n1 : j ≠ n := fun e => hn (e ▸ hj)
          have n2 : i ≠ n := fun e => hn (e ▸ hi)
          rw [List.getElem?_set_ne n1, List.getElem?_set_ne n2, wipe_get, if_neg hn]
def tPIf (X : Cx) (ifs : List Expr) : TT := fun σ H Q => ∀ pins s, Inv X pins σ H s → wpAny (model X.prog X.w) X.A (forIn ifs true fun c r => if r = true then do let ok ← isTrue c X.env (eval c X.env); pure (ForInStep.yield ok) else pure (ForInStep.yield r)) (TP X pins σ Q) X.xe s
def WIf (X : Cx) (ifs : List Expr) (env : DEnv) (C : CS) (k : Bool → CS → Prop) : Prop := EvB X.K (tPIf X ifs) env C k
theorem wif_nil {X : Cx} {env : DEnv} {C : CS} {k : Bool → CS → Prop} (h : k true C) : WIf X [] env C k := fun G σ H Q w er q pins s I => pts_nil.run pins s σ H Q I (q true G C H (Fr.refl ..) w h)
theorem WIf.imp {X : Cx} {ifs : List Expr} {env : DEnv} {C : CS} {k k' : Bool → CS → Prop} (h : WIf X ifs env C k) (hk : ∀ t C', k t C' → k' t C') : WIf X ifs env C k' := fun G σ H Q w er q => h G σ H Q w er fun b G' C' H' f w z => q b G' C' H' f w (hk b C' z)
theorem wif_one {X : Cx} {c : Expr} {env : DEnv} {C : CS} {k : Bool → CS → Prop} (h : WT X c env C k) : WIf X [c] env C k := fun G σ H Q w er q pins s I => (pts_one pt_tT).run pins s σ H Q I (h G σ H Q w er q)
section
variable {X : Cx} {elt tg iter : Expr} {ifs : List Expr} {scope : Scope} {own : List (Str × Nat)} {env : DEnv} {C : CS} {k : KD} {pos : Pos} {g : TG}
/-- an invariant over the turn and what is made so far -/
def LcI (X : Cx) (elt : Expr) (ifs : List Expr) (scope : Scope) (vs : List Nat) (g : TG) (env : DEnv) (xs : List D) (Pc : CS → Prop) (C1 : CS) (k : KD) : Prop := ∃ Iv : Nat → List D → CS → Prop, Iv 0 [] C1 ∧ (∀ j acc C, Iv j acc C → Pc C) ∧
  (∀ j d acc C, xs[j]? = some d → Iv j acc C → EvGW X.K g vs d env C fun env2 C2 => ∀ X', Blk X scope X' → WIf X' ifs env2 C2 fun t C3 => (t = true → ∀ X', Blk X scope X' → WE X' elt env2 C3 fun y C4 => acc.length < sizeLine ∧ Iv (j + 1) (acc ++ [y]) C4) ∧ (t = false → Iv (j + 1) acc C3)) ∧
  (∀ acc C, Iv xs.length acc C → ∀ p, C p = none → k (.own p) (put C p (.lst acc)))
theorem Fr.fresh {G H : Hp} {C : CS} {p : Addr} {o : HO} (h : H p = none) : Fr G C H G C (upd H p o) :=
  ⟨fun _ _ h => h, fun b u e _ => by rw [upd_ne (ne_of_none e h)]; exact e, fun b e => by
    by_cases q : b = p
    · subst q; exact absurd h e
    · rw [upd_ne q]; exact e, fun _ _ k => k, fun _ _ k => .inl k⟩
/-- a fresh list becomes a cell -/
theorem Wld.claim {K : PySem.W.Frag} {G G1 H H1 : Hp} {C C1 : CS} {p : Addr} {vs : List V} {ds : List D} (f : Fr G C H G1 C1 H1) (w : Wld K G1 C1 H1) (h0 : H p = none) (h1 : H1 p = some (.lst vs)) (r : DatAll K G1 vs ds) (c : C1 p = none) (g : G1 p = none) :
    Fr G C H G1 (put C1 p (.lst ds)) H1 ∧ Wld K G1 (put C1 p (.lst ds)) H1 := by
  refine ⟨⟨f.exG, f.keep, f.dom, fun a ha k => ?_, f.newG⟩, ⟨w.ex, fun a c' e => ?_⟩⟩
  · by_cases q : a = p
    · subst q; exact absurd h0 ha
    · rw [put_ne q] at k; exact f.newC a ha k
  · by_cases q : a = p
    · subst q; rw [put_same] at e; cases e; exact ⟨g, vs, h1, r⟩
    · rw [put_ne q] at e; exact w.cell a c' e
theorem ev_lc {wi : TI} (hwi : EvI X.K wi env C fun xs Pc C1 => LcI X elt ifs scope (own.map (·.2)) g env xs Pc C1 k) :
    Ev X.K (tLc wi g (fun σ H Q => ∀ X', Blk X scope X' → tPIf X' ifs σ H Q) (fun σ H Q => ∀ X', Blk X scope X' → tS X' elt σ H Q) (own.map (·.2))) env C k := fun G σ H Q w er q => by
  refine hwi G σ H _ w er fun J G1 C1 H1 xs Pc f1 w1 it z Da hD => ?_
  obtain ⟨Iv, i0, hP, turn, done⟩ := z
  have hn := w1.ne hD
  let Wn : Nat → Hp → Prop := fun i H2 => i ≤ xs.length ∧ ∃ G2 C2 acc vs, Fr G1 C1 H1 G2 C2 H2 ∧ Wld X.K G2 C2 H2 ∧ H2 Da = some (.lst vs) ∧ DatAll X.K G2 vs acc ∧ Iv i acc C2 ∧ C2 Da = none ∧ G2 Da = none
  have wD : Wld X.K G1 C1 (upd H1 Da (.lst [])) := ⟨fun a o e => by rw [upd_ne (ne_of_none e hn.1)]; exact w1.ex a o e, fun a c e => by
    obtain ⟨h1, h2⟩ := w1.cell a c e
    exact ⟨h1, h2.mono (fun _ _ h => h) (upd_ne (cell_ne e hn.2))⟩⟩
  refine ⟨fun i m H2 => m = xs.length - i ∧ Wn i H2, ⟨xs.length, rfl, Nat.zero_le _, G1, C1, [], [], Fr.fresh hD, wD, upd_same, .nil, i0, hn.2, hn.1⟩, ?_⟩
  rintro i m H2 ⟨rfl, hi2, G2, C2, acc, vs, f2, w2, hd2, r2, i2, c2, g2⟩
  obtain ⟨go, stop⟩ := it G2 C2 H2 f2.exG w2 (hP _ _ _ i2)
  have keepD : ∀ {G3 C3 H3}, Fr G2 C2 H2 G3 C3 H3 → H3 Da = some (.lst vs) ∧ C3 Da = none ∧ G3 Da = none := fun {G3 C3 H3} f => by
    refine ⟨f.keep _ _ hd2 c2, ?_, ?_⟩
    · cases e : C3 Da with
      | none => rfl
      | some c => exact absurd c2 (f.newC Da (by rw [hd2]; simp) (by rw [e]; simp))
    · cases e : G3 Da with
      | none => rfl
      | some c => exact ((f.newG Da (by rw [hd2]; simp) (by rw [e]; simp)).elim (fun z => z g2) fun z => z c2).elim
  by_cases hlt : i < xs.length
  · obtain ⟨hgo, hy⟩ := go i xs[i] (by simp [hlt])
    refine .inr ⟨hgo, Wn (i + 1), fun H' h' => ⟨xs.length - (i + 1), by omega, rfl, h'⟩, fun x H3 hx => ?_⟩
    obtain ⟨G3, f3, w3, r3⟩ := hy x H3 hx
    refine turn i xs[i] acc C2 (by simp [hlt]) i2 G3 σ H3 x _ w3 (er.mono (f1.exG.trans (f2.exG.trans f3.exG))) r3 fun G4 C4 H4 σ4 env4 f4 w4 er4 h4 X' hX => ?_
    have h5 := h4 X' hX
    obtain ⟨s0, H0, Ca, cl, fp, rfl⟩ := hX
    refine h5 G4 σ4 H4 _ w4 er4 fun t G5 C5 H5 f5 w5 ht => ?_
    have f35 := (f3.trans f4).trans f5
    cases t with
    | true =>
      refine iteT fun X' hX => ?_
      have h6 := ht.1 rfl X' hX
      obtain ⟨s1, H01, Ca1, cl1, fp1, rfl⟩ := hX
      refine h6 G5 σ4 H5 _ w5 (er4.mono f5.exG) fun y G6 C6 H6 d6 f6 w6 r6 h7 => ?_
      obtain ⟨hd6, c6, g6⟩ := keepD (f35.trans f6)
      have rr := r2.mono (f35.trans f6).exG
      refine ⟨vs, hd6, by rw [rr.length]; exact h7.1, hlt, G6, C6, acc ++ [d6], vs ++ [y], ?_, ?_, upd_same, rr.append (.cons r6 .nil), h7.2, c6, g6⟩
      · have F := f2.trans (f35.trans f6)
        refine ⟨F.exG, fun a o e c => ?_, fun a e => ?_, F.newC, F.newG⟩
        · by_cases q : a = Da
          · subst q; rw [hD] at e; cases e
          · rw [upd_ne q]; exact F.keep a o e c
        · by_cases q : a = Da
          · subst q; rw [upd_same]; simp
          · rw [upd_ne q]; exact F.dom a e
      · exact ⟨fun a o e => by rw [upd_ne (ne_of_none e g6)]; exact w6.ex a o e, fun a c e => by
          obtain ⟨h1, h2⟩ := w6.cell a c e
          exact ⟨h1, h2.mono (fun _ _ h => h) (upd_ne (cell_ne e c6))⟩⟩
    | false =>
      obtain ⟨hd5, c5, g5⟩ := keepD f35
      exact iteF ⟨hlt, G5, C5, acc, vs, f2.trans f35, w5, hd5, r2.mono f35.exG, ht.2 rfl, c5, g5⟩
  · have e : i = xs.length := by omega
    subst e
    have h0 : H Da = none := by
      cases e : H Da with
      | none => rfl
      | some o => exact absurd hD (f1.dom Da (by rw [e]; simp))
    obtain ⟨F, w3⟩ := w2.claim (f1.trans f2) h0 hd2 r2 c2 g2
    exact .inl ⟨stop _ (Nat.le_refl _), q _ _ _ _ _ F w3 (.own Da) (done acc C2 i2 Da c2)⟩
end
end DL
/-! DLg: comprehensions as expressions, defs and their calls, built-in calls and methods. -/
namespace DL
open PySem PySem.Spec PyProof.Rows L2

section
variable {X : Cx} {elt tg iter : Expr} {ifs : List Expr} {scope : Scope} {own : List (Str × Nat)} {env : DEnv} {C : CS} {k : KD} {pos : Pos} {g : TG} {E : DEnds}
theorem we_lc (own : List (Str × Nat)) (hc : X.calm = true) (hN : X.N.Nodup) (ok : BlkOk X.N X.env.scope scope own) (hg : ∀ (s : Shared) (H : Hp) (C : Addr) (cl : List (Str × Addr)) (fp : List Addr), PG (X.blk s H scope (compEnvC scope cl C X.env) fp) tg g)
    (h : WI X tg iter env C fun xs Pc C1 => LcI X elt ifs scope (own.map (·.2)) g env xs Pc C1 k) (hs : ∀ x, foldedSetIterable iter X.env x = pure x := by intro _; rfl) : WE X (.ListComp elt [⟨tg, iter, ifs, 0⟩] scope pos) env C k := by
  obtain ⟨wi, hi, hw⟩ := h
  refine .of (pe_lc (own := own) (g := g) (tt := fun σ H Q => ∀ X', Blk X scope X' → tPIf X' ifs σ H Q) (te := fun σ H Q => ∀ X', Blk X scope X' → tS X' elt σ H Q) hc hN hi ok hg ?_ ?_ hs) (ev_lc hw)
  · exact fun s H C cl fp => ⟨fun pins s' σ H Q I h => h _ ⟨_, _, _, _, _, rfl⟩ pins s' I⟩
  · exact fun s H C cl fp => ⟨fun pins s' σ H Q I h => h _ ⟨_, _, _, _, _, rfl⟩ pins s' I⟩
theorem ws_setLc (own : List (Str × Nat)) {i : Nat} {y : Str} {py spos : Pos} (hc : X.calm = true) (hN : X.N.Nodup) (hy : X.N[i]? = some y) (hyl : X.env.scope.names.lookup y = some .local)
    (hsw : swapsWith (.ListComp elt [⟨tg, iter, ifs, 0⟩] scope pos) (some (.Name y py)) spos.line X.env = pure true) (ok : BlkOk X.N X.env.scope scope own) (hg : ∀ (s : Shared) (H : Hp) (C : Addr) (cl : List (Str × Addr)) (fp : List Addr), PG (X.blk s H scope (compEnvC scope cl C X.env) fp) tg g)
    (h : WI X tg iter env C fun xs Pc C1 => LcI X elt ifs scope (own.map (·.2)) g env xs Pc C1 fun d C2 => E.nx (env.set i (some d)) C2) (hs : ∀ x, foldedSetIterable iter X.env x = pure x := by intro _; rfl) :
    WS X (.Assign [.Name y py] (.ListComp elt [⟨tg, iter, ifs, 0⟩] scope pos) spos) env C E := by
  obtain ⟨wi, hi, hw⟩ := h
  refine .of (ps_setLc (i := i) (own := own) (g := g) (tt := fun σ H Q => ∀ X', Blk X scope X' → tPIf X' ifs σ H Q) (te := fun σ H Q => ∀ X', Blk X scope X' → tS X' elt σ H Q) hc hN hy hyl hsw hi ok hg ?_ ?_ hs) ?_
  · exact fun s H C cl fp => ⟨fun pins s' σ H Q I h => h _ ⟨_, _, _, _, _, rfl⟩ pins s' I⟩
  · exact fun s H C cl fp => ⟨fun pins s' σ H Q I h => h _ ⟨_, _, _, _, _, rfl⟩ pins s' I⟩
  · exact fun G σ H D w er q => ev_lc hw G σ H _ w er fun v G1 C1 H1 d f1 w1 r1 z => q.nx G1 C1 H1 _ _ f1 w1 ((er.mono f1.exG).set i r1) z
end

/-! ### defs -/
abbrev DSp := List D → CS → KD → Prop
def toSp (K : PySem.W.Frag) (S : DSp) : Sp := fun vs H Q _ => ∃ G C ds k, Wld K G C H ∧ DatAll K G vs ds ∧ S ds C k ∧ Kont K G C H k Q
def startD (N : List Str) (ds : List D) : DEnv := ds.map some ++ List.replicate (N.length - ds.length) none
theorem envR_start {K : PySem.W.Frag} {G : Hp} {N : List Str} {vs : List V} {ds : List D} (r : DatAll K G vs ds) : EnvR K G (startD N ds) (L2.start N vs) := by
  refine ⟨by unfold startD L2.start; simp [r.length], fun i d h => ?_⟩
  unfold startD at h
  unfold L2.start
  have hl := r.length
  by_cases hi : i < ds.length
  · rw [List.getElem?_append_left (by simpa using hi), List.getElem?_map] at h
    rw [List.getElem?_append_left (by simpa [hl] using hi), List.getElem?_map]
    cases q : ds[i]? with
    | none => rw [q] at h; cases h
    | some d' =>
      rw [q] at h
      obtain rfl := Option.some.inj (Option.some.inj h)
      obtain ⟨v, h1, h2⟩ := r.get q
      exact ⟨v, by rw [h1]; rfl, h2⟩
  · rw [List.getElem?_append_right (by simpa using hi)] at h
    rw [List.getElem?_replicate] at h
    split at h <;> cases h
section
variable {P : Program} {w : World} {K : PySem.W.Frag} {mg : Str → Option Value} {base : Heap}
theorem fnD {x qual : Str} {st : Stmt} {f : Addr} {fd : FuncData} {N ps : List Str} {n : Nat} {S : DSp} (F : Fun K x qual st f fd) (sc : FnScope N ps (defScope st)) (hl : ∀ ds C k, S ds C k → ds.length = ps.length)
    (hb : ∀ (cdv : Value) (A : Around) (outer : List Env) (s : Shared) (H : Hp) (E : XK) (ds : List D) (C : CS) (k : KD), A.guards = some [] → Room n (A.deeper (envOfC qual (defScope st) s.heap.objs.size f cdv)) → S ds C k →
      WSs (cxOf CX0 P w K mg base N qual (defScope st) f cdv A outer s H E).nox (defBody st) (startD N ds) C { nx := fun _ C' => k .non C', rt := k }) : FnG P w K mg base CX0 (n + 1) f fd ps (toSp K S) := by
  refine fnG_of F sc (fun vs H Q E h => ?_) (fun cdv A outer s H vs Q E hgd hr h => ?_)
  · obtain ⟨G, C, ds, k, _, r, hS, _⟩ := h
    rw [r.length]
    exact hl _ _ _ hS
  · obtain ⟨G, C, ds, k, wl, r, hS, q⟩ := h
    refine ⟨_, PSs.nox pss_tXs, ?_⟩
    refine hb cdv A outer s H E ds C k hgd hr hS G _ H _ wl (envR_start r) ⟨?_, q, ?_, ?_⟩
    · exact fun G' C' H' σ env f w' er z => q .non G' C' H' .non f w' .non z
    · exact fun G' C' H' σ env f w' er z => z.elim
    · exact fun G' C' H' σ env f w' er z => z.elim
/-- a def that keeps a promise by data -/
def FnC (P : Program) (w : World) (K : PySem.W.Frag) (mg : Str → Option Value) (base : Heap) (x : Str) (n : Nat) (S : DSp) : Prop :=
  ∃ (f : Addr) (fd : FuncData) (ps : List Str), FnG P w K mg base CX0 n f fd ps (toSp K S) ∧ mg x = some (.ref f) ∧ PySem.W.keepIn K (.ref f) = true ∧ Binds K fd ps []
end
section
variable {X : Cx} {e a b o : Expr} {es : List Expr} {env : DEnv} {C : CS} {k : KD} {pos : Pos}
theorem call_ok {n : Nat} {f : Addr} {fd : FuncData} {ps : List Str} {S : DSp} {ta : TA} (h : EvA X.K ta env C fun ds C1 => S ds C1 k) : Ev X.K (tCall (toSp X.K S) [] E0 ta) env C k := fun G σ H Q w er q =>
  h G σ H _ w er fun vs G1 C1 H1 ds f1 w1 r1 z => ⟨G1, C1, ds, k, w1, by rw [List.append_nil]; exact r1, z, q.after f1⟩
theorem we_call {x : Str} {n m : Nat} {S : DSp} {p : Pos} (h : FnC X.prog X.w X.K X.mg X.base x n S) (hgd : X.A.guards = some []) (hr : Room m X.A) (hg : Gl X x) (ha : WA X (e :: es) env C fun ds C1 => S ds C1 k) (hle : n ≤ m := by decide)
    (hdb : (x == ("__debug__" : Str)) = false := by decide) (he : starEach (e :: es) X.env = (false, eval e X.env) :: starEach es X.env := by rfl) (hpl : (backTo pos (starEach es X.env)).any (·.1) = false := by rfl) : WE X (.Call (.Name x p) (e :: es) [] pos) env C k := by
  obtain ⟨f, fd, ps, F, hm, hk, hb⟩ := h
  exact .of (pe_callG F hgd (hr.mono hle) hg hm hk hb pass0 pa_tAr hdb he hpl) (call_ok (n := n) (f := f) (fd := fd) (ps := ps) ha)
theorem we_call0 {x : Str} {n m : Nat} {S : DSp} {p : Pos} (h : FnC X.prog X.w X.K X.mg X.base x n S) (hgd : X.A.guards = some []) (hr : Room m X.A) (hg : Gl X x) (ha : S [] C k) (hle : n ≤ m := by decide)
    (hdb : (x == ("__debug__" : Str)) = false := by decide) : WE X (.Call (.Name x p) [] [] pos) env C k := by
  obtain ⟨f, fd, ps, F, hm, hk, hb⟩ := h
  exact .of (pe_callG0 F hgd (hr.mono hle) hg hm hk hb pass0 hdb) (call_ok (n := n) (f := f) (fd := fd) (ps := ps) (ea_nil ha))

/-! ### methods of built-in types -/
def tyD (T : String) (C : CS) (x : D) : Prop := match x with
  | .str _ => T = "str"
  | .lst _ => T = "list"
  | .own a => (T = "list" ∧ ∃ xs, C a = some (.lst xs)) ∨ (T = "dict" ∧ ∃ kvs, C a = some (.dic kvs))
  | _ => False
theorem tyD_ok {K : PySem.W.Frag} {T : String} {G H : Hp} {x : V} {d : D} (w : Wld K G C H) (r : Dat K G x d) (h : tyD T C d) : tyV K T x H := by
  cases r with
  | str x => exact h
  | lst h1 h2 => exact .inl ⟨h, _, SqL.of (w.ex _ _ h1)⟩
  | own a =>
    rcases h with ⟨h, xs, hx⟩ | ⟨h, kvs, hx⟩
    · obtain ⟨_, vs, h1, _⟩ := w.cell a _ hx
      exact .inl ⟨h, vs, SqL.of h1⟩
    · obtain ⟨_, vs, h1, _⟩ := w.cell a _ hx
      exact .inr (.inr (.inl ⟨h, .inl ⟨vs, h1⟩⟩))
  | _ => exact h.elim
theorem we_bm {T : String} {name : Str} {id : String} {apos cpos : Pos} {r : V → List V → Hp → VK → Prop} {p : D → List D → CS → KD → Prop} (pa : PlainAttrs T) (slot : Slot T name id) (hty : typeOf (.builtin id) = pure (.type "method_descriptor")) (hm : MtR X id r) (hr : RMD X.K r p)
    (h : WE X o env C fun x C1 => tyD T C1 x ∧ WA X (e :: es) env C1 fun ds C2 => p x ds C2 k)
    (hbase : attributeBase o name X.env (eval o X.env) = eval o X.env := by rfl)
    (hfew : ((backTo cpos (starEach (e :: es) X.env)).all (fun x => !x.1) && (backToKw cpos (keywordEach [] X.env)).all (fun x => x.1.isSome)
      && decide ((e :: es).length + ([] : List Keyword).length + (if ([] : List Keyword).isEmpty then 0 else 1) < 30)) = true := by rfl)
    (hline : (apos.endLine == cpos.line) = true := by rfl) (hs : starEach (e :: es) X.env = (false, eval e X.env) :: starEach es X.env := by rfl) (hplain : (backTo cpos (starEach es X.env)).any (·.1) = false := by rfl) :
    WE X (.Call (.Attribute o name apos) (e :: es) [] cpos) env C k :=
  .of (pe_bm pa slot hty hm pe_tS pa_tAr hbase hfew hline hs hplain) fun G σ H Q w er q => h G σ H _ w er fun v G1 C1 H1 d f1 w1 r1 z => ⟨tyD_ok w1 r1 z.1, z.2 G1 σ H1 _ w1 (er.mono f1.exG) fun vs G2 C2 H2 ds f2 w2 r2 hp => hr v d vs ds G2 C2 H2 k Q w2 (r1.mono f2.exG) r2 hp (q.after (f1.trans f2))⟩
theorem we_bm0 {T : String} {name : Str} {id : String} {apos cpos : Pos} {r : V → List V → Hp → VK → Prop} {p : D → List D → CS → KD → Prop} (pa : PlainAttrs T) (slot : Slot T name id) (hty : typeOf (.builtin id) = pure (.type "method_descriptor")) (hm : MtR X id r) (hr : RMD X.K r p)
    (h : WE X o env C fun x C1 => tyD T C1 x ∧ p x [] C1 k) (hbase : attributeBase o name X.env (eval o X.env) = eval o X.env := by rfl) (hline : (apos.endLine == cpos.line) = true := by rfl) : WE X (.Call (.Attribute o name apos) [] [] cpos) env C k :=
  .of (pe_bm0 pa slot hty hm pe_tS hbase hline) fun G σ H Q w er q => h G σ H _ w er fun v G1 C1 H1 d f1 w1 r1 z => ⟨tyD_ok w1 r1 z.1, hr v d [] [] G1 C1 H1 k Q w1 r1 .nil z.2 (q.after f1)⟩
end

/-! ### what built-ins and methods give -/
section
variable {K : PySem.W.Frag}
def dAppend : D → List D → CS → KD → Prop := fun x ds C k => ∃ a xs y, x = .own a ∧ ds = [y] ∧ C a = some (.lst xs) ∧ xs.length < sizeLine ∧ k .non (put C a (.lst (xs ++ [y])))
theorem rm_append : RMD K rAppend dAppend := by
  rintro x a xs ds G C H k Q w r rs ⟨p, ys, y, rfl, rfl, hp, hl, hk⟩ q
  cases r
  cases rs with
  | cons r1 r2 =>
    cases r2
    obtain ⟨_, vs, h1, h2⟩ := w.cell p _ hp
    refine ⟨p, vs, _, rfl, rfl, h1, by rw [h2.length]; exact hl, ?_⟩
    obtain ⟨w2, f2⟩ := w.write hp (o := .lst _) (c' := .lst _) fun H' e => ⟨_, e, h2.append (.cons r1 .nil)⟩
    exact q _ _ _ _ _ f2 w2 .non hk
def dInsert : D → List D → CS → KD → Prop := fun x ds C k => ∃ a xs y i, x = .own a ∧ ds = [.int i, y] ∧ C a = some (.lst xs) ∧ xs.length < sizeLine ∧ 0 ≤ i ∧ i < 2 ^ 63 ∧ k .non (put C a (.lst (xs.take i.toNat ++ [y] ++ xs.drop i.toNat)))
theorem rm_insert : RMD K (fun x vs H Q => ∃ (l : Addr) (xs : List V) (i : Int) (y : V), x = .ref l ∧ vs = [.int i, y] ∧ H l = some (.lst xs) ∧ xs.length < sizeLine ∧ 0 ≤ i ∧ i < 2 ^ 63 ∧ Q .non (upd H l (.lst (xs.take i.toNat ++ [y] ++ xs.drop i.toNat)))) dInsert := by
  rintro x a xs ds G C H k Q w r rs ⟨p, ys, y, i, rfl, rfl, hp, hl, h0, h63, hk⟩ q
  cases r
  cases rs with
  | cons r1 r2 =>
    cases r2 with
    | cons r2 r3 =>
      cases r3; cases r1
      obtain ⟨_, vs, h1, h2⟩ := w.cell p _ hp
      refine ⟨p, vs, i, _, rfl, rfl, h1, by rw [h2.length]; exact hl, h0, h63, ?_⟩
      obtain ⟨w2, f2⟩ := w.write hp (o := .lst _) (c' := .lst _) fun H' e => ⟨_, e, ((h2.take i.toNat).append (.cons r2 .nil)).append (h2.drop i.toNat)⟩
      exact q _ _ _ _ _ f2 w2 .non hk
def dPopAt : D → List D → CS → KD → Prop := fun x ds C k => ∃ a xs i j y, x = .own a ∧ ds = [.int i] ∧ C a = some (.lst xs) ∧ -(2 ^ 63) ≤ i ∧ i < 2 ^ 63 ∧ seqIndex? i xs.length = some j ∧ xs[j]? = some y ∧ k y (put C a (.lst (xs.eraseIdx j)))
theorem datAll_erase {G : Hp} : ∀ {vs : List V} {ds : List D} (i : Nat), DatAll K G vs ds → DatAll K G (vs.eraseIdx i) (ds.eraseIdx i)
  | _, [], i, h => by cases h; simp; exact .nil
  | _, d :: ds, 0, h => by
    cases h with
    | cons a b => exact b
  | _, d :: ds, i + 1, h => by
    cases h with
    | cons a b => exact .cons a (datAll_erase i b)
theorem rm_popAt : RMD K rPopAt dPopAt := by
  rintro x a xs ds G C H k Q w r rs ⟨p, ys, i, j, y, rfl, rfl, hp, h0, h63, hj, hy, hk⟩ q
  cases r
  cases rs with
  | cons r1 r2 =>
    cases r2; cases r1
    obtain ⟨_, vs, h1, h2⟩ := w.cell p _ hp
    obtain ⟨v, g1, g2⟩ := h2.get hy
    refine ⟨p, vs, i, j, v, rfl, rfl, h1, h0, h63, by rw [h2.length]; exact hj, g1, ?_⟩
    obtain ⟨w2, f2⟩ := w.write hp (o := .lst _) (c' := .lst _) fun H' e => ⟨_, e, datAll_erase j h2⟩
    exact q _ _ _ _ _ f2 w2 g2 hk
theorem datAll_strs {G : Hp} : ∀ {vs : List V} {ys : List Str}, DatAll K G vs (ys.map D.str) → vs = ys.map V.str
  | _, [], h => by cases h; rfl
  | _, y :: ys, h => by
    cases h with
    | cons a b => cases a; rw [datAll_strs b]; rfl
theorem datAll_ints {G : Hp} : ∀ {vs : List V} {ys : List Int}, DatAll K G vs (ys.map D.int) → vs = ys.map V.int
  | _, [], h => by cases h; rfl
  | _, y :: ys, h => by
    cases h with
    | cons a b => cases a; rw [datAll_ints b]; rfl
theorem datAll_bls {G : Hp} : ∀ {vs : List V} {ys : List Bool}, DatAll K G vs (ys.map D.bl) → vs = ys.map V.bl
  | _, [], h => by cases h; rfl
  | _, y :: ys, h => by
    cases h with
    | cons a b => cases a; rw [datAll_bls b]; rfl
def dJoin : D → List D → CS → KD → Prop := fun x ds C k => ∃ a y, ∃ ys : List Str, x = .str a ∧ ds = [y] ∧ seqR C y = some (ys.map D.str) ∧ (ys.map (·.length)).sum + ys.length * a.length ≤ 16777216 ∧ k (.str (Txt.join a ys)) C
theorem rm_join : RMD K (fun x xs H Q => ∃ a p, ∃ ys : List Str, x = .str a ∧ xs = [.ref p] ∧ (SqL K H p (ys.map V.str) ∨ SqT K H p (ys.map V.str)) ∧ (ys.map (·.length)).sum + ys.length * a.length ≤ 16777216 ∧ Q (.str (Txt.join a ys)) H) dJoin := by
  rintro x a xs ds G C H k Q w r rs ⟨b, y, ys, rfl, rfl, hs, hl, hk⟩ q
  cases r
  cases rs with
  | cons r1 r2 =>
    cases r2
    obtain ⟨p, vs, rfl, h1, h2⟩ := w.seq r1 hs
    have := datAll_strs h2
    subst this
    exact ⟨b, p, ys, rfl, rfl, .inl h1, hl, q _ _ _ _ _ (Fr.refl ..) w (.str _) hk⟩
def dSIndex : D → List D → CS → KD → Prop := fun x ds C k => ∃ a b i rest, x = .str a ∧ ds = [.str b] ∧ Builtin.Str.occurrences a b 0 a.length 1 = i :: rest ∧ k (.int (i : Nat)) C
theorem rm_sindex : RMD K (fun x xs H Q => ∃ a b i rest, x = .str a ∧ xs = [.str b] ∧ Builtin.Str.occurrences a b 0 a.length 1 = i :: rest ∧ Q (.int (i : Nat)) H) dSIndex := by
  rintro x a xs ds G C H k Q w r rs ⟨b, c, i, rest, rfl, rfl, ho, hk⟩ q
  cases r
  cases rs with
  | cons r1 r2 => cases r2; cases r1; exact ⟨b, c, i, rest, rfl, rfl, ho, q _ _ _ _ _ (Fr.refl ..) w (.int _) hk⟩

def lenD (C : CS) (x : D) (n : Nat) : Prop := match x with
  | .str y => y.length ≤ sizeLine ∧ n = y.length
  | .tup xs => n = xs.length
  | x => ∃ xs, seqR C x = some xs ∧ n = xs.length
def dLen : List D → CS → KD → Prop := fun ds C k => ∃ x n, ds = [x] ∧ lenD C x n ∧ k (.int (n : Nat)) C
theorem rl_len : RLD K (fun xs H Q => ∃ x n, xs = [x] ∧ LenV K x H n ∧ Q (.int n) H) dLen := by
  rintro xs ds G C H k Q w rs ⟨x, n, rfl, hl, hk⟩ q
  cases rs with
  | @cons v _ _ _ r1 r2 =>
    cases r2
    refine ⟨v, n, rfl, ?_, q _ _ _ _ _ (Fr.refl ..) w (.int _) hk⟩
    unfold lenD at hl
    split at hl
    · cases r1; exact hl
    · obtain ⟨a, vs, rfl, h1, h2⟩ := w.tup r1
      exact .inr ⟨vs, h1, by rw [h2.length]; exact hl⟩
    · obtain ⟨ys, h0, h3⟩ := hl
      obtain ⟨a, vs, rfl, h1, h2⟩ := w.seq r1 h0
      exact .inl ⟨vs, h1, by rw [h2.length]; exact h3⟩
theorem len_lst {C : CS} {x : D} {xs : List D} (h : seqR C x = some xs) : lenD C x xs.length := by
  unfold lenD
  split
  · simp [seqR] at h
  · simp [seqR] at h
  · exact ⟨xs, h, rfl⟩
def dInt1 (f : Int → Int) : List D → CS → KD → Prop := fun ds C k => ∃ i, ds = [.int i] ∧ k (.int (f i)) C
theorem rl_int1 {f : Int → Int} : RLD K (fun xs H Q => ∃ i, xs = [.int i] ∧ Q (.int (f i)) H) (dInt1 f) := by
  rintro xs ds G C H k Q w rs ⟨i, rfl, hk⟩ q
  cases rs with
  | cons r1 r2 => cases r2; cases r1; exact ⟨i, rfl, q _ _ _ _ _ (Fr.refl ..) w (.int _) hk⟩
def dInt2 (f : Int → Int → Int) : List D → CS → KD → Prop := fun ds C k => ∃ i j, ds = [.int i, .int j] ∧ k (.int (f i j)) C
theorem rl_int2 {f : Int → Int → Int} : RLD K (fun xs H Q => ∃ i j, xs = [.int i, .int j] ∧ Q (.int (f i j)) H) (dInt2 f) := by
  rintro xs ds G C H k Q w rs ⟨i, j, rfl, hk⟩ q
  cases rs with
  | cons r1 r2 =>
    cases r2 with
    | cons r2 r3 => cases r3; cases r1; cases r2; exact ⟨i, j, rfl, q _ _ _ _ _ (Fr.refl ..) w (.int _) hk⟩
/-- int(n), int(flag) -/
def dInt : List D → CS → KD → Prop := fun ds C k => (∃ i, ds = [.int i] ∧ k (.int i) C) ∨ ∃ b : Bool, ds = [.bl b] ∧ k (.int (if b then 1 else 0)) C
theorem rl_int : RLD K (fun xs H Q => (∃ i, xs = [.int i] ∧ Q (.int i) H) ∨ ∃ k, xs = [.bl k] ∧ Q (.int (if k then 1 else 0)) H) dInt := by
  rintro xs ds G C H k Q w rs (⟨i, rfl, hk⟩ | ⟨i, rfl, hk⟩) q
  · cases rs with
    | cons r1 r2 => cases r2; cases r1; exact .inl ⟨i, rfl, q _ _ _ _ _ (Fr.refl ..) w (.int _) hk⟩
  · cases rs with
    | cons r1 r2 => cases r2; cases r1; exact .inr ⟨i, rfl, q _ _ _ _ _ (Fr.refl ..) w (.int _) hk⟩
def dStrInt : List D → CS → KD → Prop := fun ds C k => ∃ i : Int, ds = [.int i] ∧ i.natAbs.log2 < 1920 ∧ k (.str (toString i)) C
theorem rl_str : RLD K (fun xs H Q => ∃ i : Int, xs = [.int i] ∧ i.natAbs.log2 < 1920 ∧ Q (.str (toString i)) H) dStrInt := by
  rintro xs ds G C H k Q w rs ⟨i, rfl, h, hk⟩ q
  cases rs with
  | cons r1 r2 => cases r2; cases r1; exact ⟨i, rfl, h, q _ _ _ _ _ (Fr.refl ..) w (.str _) hk⟩
/-- tuple(xs) -/
def dTuple : List D → CS → KD → Prop := fun ds C k => ∃ x, ds = [x] ∧ match x with
  | .tup xs => k (.tup xs) C
  | x => ∃ xs, seqR C x = some xs ∧ k (.tup xs) C
theorem rl_tuple : RLD K (fun xs H Q => ∃ p ys, xs = [.ref p] ∧ ((SqL K H p ys ∧ ∀ l, H l = none → Q (.ref l) (upd H l (.tup ys))) ∨ (SqT K H p ys ∧ Q (.ref p) H))) dTuple := by
  rintro xs ds G C H k Q w rs ⟨x, rfl, hk⟩ q
  cases rs with
  | cons r1 r2 =>
    cases r2
    split at hk
    · obtain ⟨a, vs, rfl, h1, h2⟩ := w.tup r1
      exact ⟨a, vs, rfl, .inr ⟨h1, q _ _ _ _ _ (Fr.refl ..) w r1 hk⟩⟩
    · obtain ⟨ys, h0, hk⟩ := hk
      obtain ⟨a, vs, rfl, h1, h2⟩ := w.seq r1 h0
      refine ⟨a, vs, rfl, .inl ⟨h1, fun p hp => ?_⟩⟩
      obtain ⟨w2, f2, s2⟩ := w.newG hp (.tup vs)
      exact q _ _ _ _ _ f2 w2 (.tup (SqT.of upd_same) (h2.mono s2)) hk
/-- list(xs) -/
def seqA (C : CS) : D → Option (List D)
  | .tup xs => some xs
  | d => seqR C d
theorem Wld.seqA {G H : Hp} {C : CS} {v : V} {d : D} {ds : List D} (w : Wld K G C H) (r : Dat K G v d) (e : seqA C d = some ds) : ∃ a xs, v = .ref a ∧ (SqL K H a xs ∨ SqT K H a xs) ∧ DatAll K G xs ds := by
  unfold DL.seqA at e
  split at e
  · cases e
    obtain ⟨a, vs, rfl, h1, h2⟩ := w.tup r
    exact ⟨a, vs, rfl, .inr h1, h2⟩
  · obtain ⟨a, vs, rfl, h1, h2⟩ := w.seq r e
    exact ⟨a, vs, rfl, .inl h1, h2⟩
def dList : List D → CS → KD → Prop := fun ds C k => ∃ x xs, ds = [x] ∧ seqA C x = some xs ∧ ∀ p, C p = none → k (.own p) (put C p (.lst xs))
theorem rl_list : RLD K (fun xs H Q => ∃ p ys, xs = [.ref p] ∧ (SqL K H p ys ∨ SqT K H p ys) ∧ ∀ l, H l = none → Q (.ref l) (upd H l (.lst ys))) dList := by
  rintro xs ds G C H k Q w rs ⟨x, ys, rfl, hs, hk⟩ q
  cases rs with
  | cons r1 r2 =>
    cases r2
    obtain ⟨a, vs, rfl, h1, h2⟩ := w.seqA r1 hs
    refine ⟨a, vs, rfl, h1, fun p hp => ?_⟩
    obtain ⟨w2, f2⟩ := w.newC hp (o := .lst vs) (c := .lst ys) fun H' e => ⟨vs, e, h2⟩
    exact q _ _ _ _ _ f2 w2 (.own p) (hk p (w.ne hp).2)
def dAny : List D → CS → KD → Prop := fun ds C k => ∃ x, ∃ bs : List Bool, ds = [x] ∧ seqR C x = some (bs.map D.bl) ∧ k (.bl (bs.any id)) C
theorem rl_any : RLD K (rAny K) dAny := by
  rintro xs ds G C H k Q w rs ⟨x, bs, rfl, hs, hk⟩ q
  cases rs with
  | cons r1 r2 =>
    cases r2
    obtain ⟨a, vs, rfl, h1, h2⟩ := w.seq r1 hs
    have := datAll_bls h2
    subst this
    exact ⟨a, bs, rfl, h1, q _ _ _ _ _ (Fr.refl ..) w (.bl _) hk⟩
def dAll : List D → CS → KD → Prop := fun ds C k => ∃ x, ∃ bs : List Bool, ds = [x] ∧ seqR C x = some (bs.map D.bl) ∧ k (.bl (bs.all id)) C
theorem rl_all : RLD K (rAll K) dAll := by
  rintro xs ds G C H k Q w rs ⟨x, bs, rfl, hs, hk⟩ q
  cases rs with
  | cons r1 r2 =>
    cases r2
    obtain ⟨a, vs, rfl, h1, h2⟩ := w.seq r1 hs
    have := datAll_bls h2
    subst this
    exact ⟨a, bs, rfl, h1, q _ _ _ _ _ (Fr.refl ..) w (.bl _) hk⟩
def dSum : List D → CS → KD → Prop := fun ds C k => ∃ x, ∃ ns : List Int, ds = [x] ∧ seqR C x = some (ns.map D.int) ∧ k (.int ns.sum) C
theorem rl_sum : RLD K (rSum K) dSum := by
  rintro xs ds G C H k Q w rs ⟨x, ns, rfl, hs, hk⟩ q
  cases rs with
  | cons r1 r2 =>
    cases r2
    obtain ⟨a, vs, rfl, h1, h2⟩ := w.seq r1 hs
    have := datAll_ints h2
    subst this
    exact ⟨a, ns, rfl, h1, q _ _ _ _ _ (Fr.refl ..) w (.int _) hk⟩
def dMinL : List D → CS → KD → Prop := fun ds C k => ∃ x, ∃ ns : List Int, ds = [x] ∧ seqR C x = some (ns.map D.int) ∧ 0 < ns.length ∧ ∀ m, m ∈ ns → (∀ y, y ∈ ns → m ≤ y) → k (.int m) C
theorem rl_minL : RLD K (rMin K) dMinL := by
  rintro xs ds G C H k Q w rs ⟨x, ns, rfl, hs, h0, hk⟩ q
  cases rs with
  | cons r1 r2 =>
    cases r2
    obtain ⟨a, vs, rfl, h1, h2⟩ := w.seq r1 hs
    have := datAll_ints h2
    subst this
    exact ⟨a, ns, rfl, h1, h0, fun m hm hy => q _ _ _ _ _ (Fr.refl ..) w (.int _) (hk m hm hy)⟩
/-- isinstance -/
def tyN (C : CS) : D → Option String
  | .non => some "NoneType"
  | .bl _ => some "bool"
  | .int _ => some "int"
  | .str _ => some "str"
  | .lst _ => some "list"
  | .slst _ => some "list"
  | .tup _ => some "tuple"
  | .own a => match C a with
    | some (.lst _) => some "list"
    | some (.dic _) => some "dict"
    | _ => none
  | _ => none
theorem sqL_ty {H : Hp} {a : Addr} {vs : List V} (h : SqL K H a vs) : TyX K H (.ref a) (.type "list") := by
  rcases h with (h | ⟨o, h⟩) | ⟨o, its, n, h, h1, _⟩
  · exact .base (.lst h)
  · exact .base (.frz h)
  · exact .kList h h1
theorem sqT_ty {H : Hp} {a : Addr} {vs : List V} (h : SqT K H a vs) : TyX K H (.ref a) (.type "tuple") := by
  rcases h with (h | ⟨o, h⟩) | ⟨o, its, n, h, h1, _⟩
  · exact .base (.tup h)
  · exact .fTuple h
  · exact .kTuple h h1
theorem tyN_ok {G H : Hp} {C : CS} {v : V} {d : D} {T : String} (w : Wld K G C H) (r : Dat K G v d) (e : tyN C d = some T) : TyX K H v (.type T) := by
  cases r with
  | non => simp [tyN] at e; subst e; exact .base .non
  | bl b => simp [tyN] at e; subst e; exact .base (.bl b)
  | int b => simp [tyN] at e; subst e; exact .base (.int b)
  | str b => simp [tyN] at e; subst e; exact .base (.str b)
  | lst a b => simp [tyN] at e; subst e; exact .base (.lst (w.ex _ _ a))
  | slst a b => simp [tyN] at e; subst e; exact sqL_ty (w.ex.seq a)
  | tup a b => simp [tyN] at e; subst e; exact sqT_ty (Same.sqT w.ex a)
  | own a =>
    unfold tyN at e
    cases q : C a with
    | none => simp [q] at e
    | some c =>
      obtain ⟨_, hc⟩ := w.cell a c q
      cases c with
      | lst ds => simp [q] at e; subst e; obtain ⟨vs, h1, _⟩ := hc; exact .base (.lst h1)
      | dic ds => simp [q] at e; subst e; obtain ⟨vs, h1, _⟩ := hc; exact .base (.dK h1)
      | ins _ _ _ => simp [q] at e
  | _ => simp [tyN] at e
def dIsi : List D → CS → KD → Prop := fun ds C k => ∃ x T U b, ds = [x, .opq (.ty U)] ∧ tyN C x = some T ∧ kitB T U = some b ∧ k (.bl b) C
theorem rl_isi : RLD K (rIsi K) dIsi := by
  rintro xs ds G C H k Q w rs ⟨x, T, U, b, rfl, ht, hb, hk⟩ q
  cases rs with
  | cons r1 r2 =>
    cases r2 with
    | cons r2 r3 =>
      cases r3; cases r2
      exact ⟨_, _, .type T, .type U, b, rfl, .ty U, tyN_ok w r1 ht, kit_ty hb, q _ _ _ _ _ (Fr.refl ..) w (.bl _) hk⟩
end
end DL
/-! DLh: the rules in the forms that a walk by syntax applies. -/
namespace DL
open PySem PySem.Spec PyProof.Rows L2

/-- the module leaves these built-in names alone -/
structure Zs (mg : Str → Option Value) : Prop where
  int : mg "int" = none
  bool : mg "bool" = none
  str : mg "str" = none
  list : mg "list" = none
  tuple : mg "tuple" = none
  len : mg "len" = none
  isi : mg "isinstance" = none
  abs : mg "abs" = none
  min : mg "min" = none
  max : mg "max" = none
  any : mg "any" = none
  all : mg "all" = none
  sum : mg "sum" = none
  range : mg "range" = none
  zip : mg "zip" = none
  enum : mg "enumerate" = none
  repr : mg "repr" = none
  sorted : mg "sorted" = none
  dict : mg "dict" = none
theorem bt_int : bootBuiltins "int" = some (.type "int") := by first | exact boot_int | exact PyProof.Rows.boot_int | decide +kernel
theorem bt_bool : bootBuiltins "bool" = some (.type "bool") := boot_bool
theorem bt_str : bootBuiltins "str" = some (.type "str") := boot_str
theorem bt_list : bootBuiltins "list" = some (.type "list") := boot_list
theorem bt_tuple : bootBuiltins "tuple" = some (.type "tuple") := by first | exact boot_tuple | exact PyProof.Rows.boot_tuple | decide +kernel
theorem bt_len : bootBuiltins "len" = some (.builtin "len") := PySem.boot_len
theorem bt_isi : bootBuiltins "isinstance" = some (.builtin "isinstance") := PyProof.Rows.boot_isinstance
theorem bt_abs : bootBuiltins "abs" = some (.builtin "abs") := boot_abs
theorem bt_min : bootBuiltins "min" = some (.builtin "min") := boot_min
theorem bt_max : bootBuiltins "max" = some (.builtin "max") := boot_max
theorem bt_any : bootBuiltins "any" = some (.builtin "any") := boot_any
theorem bt_all : bootBuiltins "all" = some (.builtin "all") := boot_all
theorem bt_sum : bootBuiltins "sum" = some (.builtin "sum") := boot_sum

/-- ** of ints of at most a thousand bits -/
def CPowW (i j : Int) : Prop := 0 ≤ j ∧ j ≤ 100 ∧ i.natAbs < 2 ^ 1000
theorem op_powW {X : Cx} : OpR X (binaryOp .Pow) (rI CPowW fun i j => .int (i ^ j.toNat)) := opI fun i j _ _ _ _ _ hc q => pow_int hc.1 (by
  obtain ⟨h0, h1, h2⟩ := hc
  have b : Builtin.Int.intBits i ≤ 1000 := by
    unfold Builtin.Int.intBits
    split
    · exact Nat.zero_le _
    · rename_i h
      have := (Nat.log2_lt (n := i.natAbs) (k := 1000) (by simpa using h)).mpr h2
      omega
  have : (Builtin.Int.intBits i : Int) * j ≤ 1000 * 100 := Int.mul_le_mul (by omega) h1 h0 (by decide)
  exact Int.le_trans this (by decide)) q
section
variable {X : Cx} {e a b : Expr} {es : List Expr} {env : DEnv} {C : CS} {k : KD} {pos p p1 p2 : Pos} {kb : Bool → CS → Prop}
theorem we_len (Z : Zs X.mg) (hg : Gl X "len") (h : WA X (e :: es) env C fun ds C1 => dLen ds C1 k) (he : starEach (e :: es) X.env = (false, eval e X.env) :: starEach es X.env := by rfl) (hpl : (backTo pos (starEach es X.env)).any (·.1) = false := by rfl) : WE X (.Call (.Name "len" p) (e :: es) [] pos) env C k := we_cb Z.len call_len rl_len hg bt_len h (he := he) (hpl := hpl)
theorem we_isi (Z : Zs X.mg) (hg : Gl X "isinstance") (h : WA X (e :: es) env C fun ds C1 => dIsi ds C1 k) (he : starEach (e :: es) X.env = (false, eval e X.env) :: starEach es X.env := by rfl) (hpl : (backTo pos (starEach es X.env)).any (·.1) = false := by rfl) : WE X (.Call (.Name "isinstance" p) (e :: es) [] pos) env C k := we_cb Z.isi call_isi rl_isi hg bt_isi h (he := he) (hpl := hpl)
theorem we_abs (Z : Zs X.mg) (hg : Gl X "abs") (h : WA X (e :: es) env C fun ds C1 => dInt1 (fun i => if i < 0 then -i else i) ds C1 k) (he : starEach (e :: es) X.env = (false, eval e X.env) :: starEach es X.env := by rfl) (hpl : (backTo pos (starEach es X.env)).any (·.1) = false := by rfl) : WE X (.Call (.Name "abs" p) (e :: es) [] pos) env C k := we_cb Z.abs call_abs rl_int1 hg bt_abs h (he := he) (hpl := hpl)
theorem we_max2 (hc : X.calm = true) (Z : Zs X.mg) (hg : Gl X "max") (h : WA X [a, b] env C fun ds C1 => dInt2 (fun i j => if j > i then j else i) ds C1 k) (he : starEach [a, b] X.env = (false, eval a X.env) :: starEach [b] X.env := by rfl) (hpl : (backTo pos (starEach [b] X.env)).any (·.1) = false := by rfl) : WE X (.Call (.Name "max" p) [a, b] [] pos) env C k := we_cb Z.max (call_max2 hc) rl_int2 hg bt_max h (he := he) (hpl := hpl)
theorem we_min2 (hc : X.calm = true) (Z : Zs X.mg) (hg : Gl X "min") (h : WA X [a, b] env C fun ds C1 => dInt2 (fun i j => if j < i then j else i) ds C1 k) (he : starEach [a, b] X.env = (false, eval a X.env) :: starEach [b] X.env := by rfl) (hpl : (backTo pos (starEach [b] X.env)).any (·.1) = false := by rfl) : WE X (.Call (.Name "min" p) [a, b] [] pos) env C k := we_cb Z.min (call_min2 hc) rl_int2 hg bt_min h (he := he) (hpl := hpl)
theorem we_minL (hc : X.calm = true) (Z : Zs X.mg) (hg : Gl X "min") (h : WA X [a] env C fun ds C1 => dMinL ds C1 k) (he : starEach [a] X.env = (false, eval a X.env) :: starEach [] X.env := by rfl) (hpl : (backTo pos (starEach [] X.env)).any (·.1) = false := by rfl) : WE X (.Call (.Name "min" p) [a] [] pos) env C k := we_cb Z.min (cr_min hc) rl_minL hg bt_min h (he := he) (hpl := hpl)
theorem we_any (hc : X.calm = true) (Z : Zs X.mg) (hg : Gl X "any") (h : WA X (e :: es) env C fun ds C1 => dAny ds C1 k) (he : starEach (e :: es) X.env = (false, eval e X.env) :: starEach es X.env := by rfl) (hpl : (backTo pos (starEach es X.env)).any (·.1) = false := by rfl) : WE X (.Call (.Name "any" p) (e :: es) [] pos) env C k := we_cb Z.any (cr_any hc) rl_any hg bt_any h (he := he) (hpl := hpl)
theorem we_all (hc : X.calm = true) (Z : Zs X.mg) (hg : Gl X "all") (h : WA X (e :: es) env C fun ds C1 => dAll ds C1 k) (he : starEach (e :: es) X.env = (false, eval e X.env) :: starEach es X.env := by rfl) (hpl : (backTo pos (starEach es X.env)).any (·.1) = false := by rfl) : WE X (.Call (.Name "all" p) (e :: es) [] pos) env C k := we_cb Z.all (cr_all hc) rl_all hg bt_all h (he := he) (hpl := hpl)
theorem we_sum (hc : X.calm = true) (Z : Zs X.mg) (hg : Gl X "sum") (h : WA X (e :: es) env C fun ds C1 => dSum ds C1 k) (he : starEach (e :: es) X.env = (false, eval e X.env) :: starEach es X.env := by rfl) (hpl : (backTo pos (starEach es X.env)).any (·.1) = false := by rfl) : WE X (.Call (.Name "sum" p) (e :: es) [] pos) env C k := we_cb Z.sum (cr_sum hc) rl_sum hg bt_sum h (he := he) (hpl := hpl)
theorem we_intC (Z : Zs X.mg) (hg : Gl X "int") (h : WA X (e :: es) env C fun ds C1 => dInt ds C1 k) (he : starEach (e :: es) X.env = (false, eval e X.env) :: starEach es X.env := by rfl) (hpl : (backTo pos (starEach es X.env)).any (·.1) = false := by rfl) : WE X (.Call (.Name "int" p) (e :: es) [] pos) env C k := we_ct Z.int call_int1 rl_int hg bt_int h (he := he) (hpl := hpl)
theorem we_strC (Z : Zs X.mg) (hg : Gl X "str") (h : WA X (e :: es) env C fun ds C1 => dStrInt ds C1 k) (he : starEach (e :: es) X.env = (false, eval e X.env) :: starEach es X.env := by rfl) (hpl : (backTo pos (starEach es X.env)).any (·.1) = false := by rfl) : WE X (.Call (.Name "str" p) (e :: es) [] pos) env C k := we_ct Z.str call_str_int rl_str hg bt_str h (he := he) (hpl := hpl)
theorem we_tupleC (Z : Zs X.mg) (hg : Gl X "tuple") (h : WA X (e :: es) env C fun ds C1 => dTuple ds C1 k) (he : starEach (e :: es) X.env = (false, eval e X.env) :: starEach es X.env := by rfl) (hpl : (backTo pos (starEach es X.env)).any (·.1) = false := by rfl) : WE X (.Call (.Name "tuple" p) (e :: es) [] pos) env C k := we_ct Z.tuple call_tuple_of rl_tuple hg bt_tuple h (he := he) (hpl := hpl)
theorem we_listC (Z : Zs X.mg) (hg : Gl X "list") (h : WA X (e :: es) env C fun ds C1 => dList ds C1 k) (he : starEach (e :: es) X.env = (false, eval e X.env) :: starEach es X.env := by rfl) (hpl : (backTo pos (starEach es X.env)).any (·.1) = false := by rfl) : WE X (.Call (.Name "list" p) (e :: es) [] pos) env C k := we_ct Z.list call_list_of rl_list hg bt_list h (he := he) (hpl := hpl)
theorem we_tyInt (Z : Zs X.mg) (hg : Gl X "int") (h : k (.opq (.ty "int")) C) : WE X (.Name "int" pos) env C k := we_bty Z.int hg bt_int h
theorem we_tyBool (Z : Zs X.mg) (hg : Gl X "bool") (h : k (.opq (.ty "bool")) C) : WE X (.Name "bool" pos) env C k := we_bty Z.bool hg bt_bool h
theorem we_tyStr (Z : Zs X.mg) (hg : Gl X "str") (h : k (.opq (.ty "str")) C) : WE X (.Name "str" pos) env C k := we_bty Z.str hg bt_str h
theorem we_tyList (Z : Zs X.mg) (hg : Gl X "list") (h : k (.opq (.ty "list")) C) : WE X (.Name "list" pos) env C k := we_bty Z.list hg bt_list h
theorem we_tyTuple (Z : Zs X.mg) (hg : Gl X "tuple") (h : k (.opq (.ty "tuple")) C) : WE X (.Name "tuple" pos) env C k := we_bty Z.tuple hg bt_tuple h

/-! operators by their sign -/
theorem we_add (h : WE X a env C fun x C1 => WE X b env C1 fun y C2 => dAdd x y C2 k) : WE X (.BinOp a .Add b pos) env C k := we_op op_addA r2_add h
theorem we_sub' (h : WE X a env C fun x C1 => WE X b env C1 fun y C2 => dI2 (fun i j => i - j) (fun _ _ => True) x y C2 k) : WE X (.BinOp a .Sub b pos) env C k := we_op op_sub r2_I0 h
theorem we_mul (h : WE X a env C fun x C1 => WE X b env C1 fun y C2 => dMul x y C2 k) : WE X (.BinOp a .Mult b pos) env C k := we_op op_mulA r2_mul h
theorem we_mod (h : WE X a env C fun x C1 => WE X b env C1 fun y C2 => dI2 (fun i j => i % j) (fun _ j => 0 < j) x y C2 k) : WE X (.BinOp a .Mod b pos) env C k := we_op op_mod r2_I h
theorem we_fdiv (h : WE X a env C fun x C1 => WE X b env C1 fun y C2 => dI2 (fun i j => i / j) CDiv x y C2 k) : WE X (.BinOp a .FloorDiv b pos) env C k := we_op op_fdiv r2_I h
theorem we_pow (h : WE X a env C fun x C1 => WE X b env C1 fun y C2 => dI2 (fun i j => i ^ j.toNat) CPowW x y C2 k) : WE X (.BinOp a .Pow b pos) env C k := we_op op_powW r2_I h
theorem we_neg (h : WE X a env C fun x C1 => ∃ i, x = .int i ∧ k (.int (-i)) C1) : WE X (.UnaryOp .USub a pos) env C k := we_un (p := fun x C k => ∃ i, x = .int i ∧ k (.int (-i)) C) un_neg (by
  rintro x d G C H k Q w r ⟨i, rfl, hk⟩ q
  cases r
  exact ⟨i, rfl, q _ _ _ _ _ (Fr.refl ..) w (.int _) hk⟩) h
theorem we_lt (h : WE X a env C fun x C1 => WE X b env C1 fun y C2 => dB2 (fun i j => decide (i < j)) x y C2 k) : WE X (.Compare a [.Lt] [b] pos) env C k := we_cmp op_lt r2_B h (nomark _)
theorem we_le (h : WE X a env C fun x C1 => WE X b env C1 fun y C2 => dB2 (fun i j => decide (i ≤ j)) x y C2 k) : WE X (.Compare a [.LtE] [b] pos) env C k := we_cmp op_le r2_B h (nomark _)
theorem we_gt (h : WE X a env C fun x C1 => WE X b env C1 fun y C2 => dB2 (fun i j => decide (j < i)) x y C2 k) : WE X (.Compare a [.Gt] [b] pos) env C k := we_cmp op_gt r2_B h (nomark _)
theorem we_ge (h : WE X a env C fun x C1 => WE X b env C1 fun y C2 => dB2 (fun i j => decide (j ≤ i)) x y C2 k) : WE X (.Compare a [.GtE] [b] pos) env C k := we_cmp op_ge r2_B h (nomark _)
theorem we_eq {m : Nat} (hr : Room m X.A) (h : WE X a env C fun x C1 => WE X b env C1 fun y C2 => dEq false x y C2 k) : WE X (.Compare a [.Eq] [b] pos) env C k := we_cmp (OpR.or (op_eqD hr.units) op_eq) r2_eq h (nomark _)
theorem we_ne {m : Nat} (hr : Room m X.A) (h : WE X a env C fun x C1 => WE X b env C1 fun y C2 => dEq true x y C2 k) : WE X (.Compare a [.NotEq] [b] pos) env C k := we_cmp (OpR.or (op_neD hr.units) op_ne) r2_ne h (nomark _)
theorem we_is (h : WE X a env C fun x C1 => WE X b env C1 fun y C2 => dIsN false x y C2 k) : WE X (.Compare a [.Is] [b] pos) env C k := we_cmp op_isN r2_isN h (nomark _)
theorem we_isnot (h : WE X a env C fun x C1 => WE X b env C1 fun y C2 => dIsN true x y C2 k) : WE X (.Compare a [.IsNot] [b] pos) env C k := we_cmp op_notN r2_notN h (nomark _)
theorem Room.u65 {m : Nat} {A : Around} (r : Room m A) : A.units + 65 < cLine := by have := r.un; omega
/-! ### a text in a tuple of texts -/
def dInT (neg : Bool) : OpD := fun x y C k => ∃ (z : Str) (zs : List Str), x = .str z ∧ y = .tup (zs.map D.str) ∧ k (.bl (if neg = true then !decide (z ∈ zs) else decide (z ∈ zs))) C
theorem inV_strs (z : Str) : ∀ zs : List Str, inV (.str z) (zs.map V.str) = decide (z ∈ zs)
  | [] => rfl
  | y :: zs => by
    unfold inV
    rw [List.map_cons, List.any_cons]
    have ih := inV_strs z zs
    unfold inV at ih
    rw [ih]
    by_cases h : y = z
    · subst h; simp [eqV]
    · have h' : ¬ z = y := fun e => h e.symm
      simp [eqV, h, h']
theorem flat_strs : ∀ zs : List Str, (zs.map V.str).all flatV = true
  | [] => rfl
  | y :: zs => by rw [List.map_cons, List.all_cons, flat_strs zs]; rfl
theorem r2_inT {K : PySem.W.Frag} : R2D K (rIn K false) (dInT false) := by
  rintro x y a b G C H k Q w da db ⟨z, zs, rfl, rfl, h⟩ q
  cases da
  obtain ⟨l, vs, rfl, h1, h2⟩ := w.tup db
  have := datAll_strs h2
  subst this
  refine ⟨l, _, rfl, .inr h1, rfl, flat_strs zs, ?_⟩
  rw [if_neg (by decide), inV_strs]
  exact q _ _ _ _ _ (Fr.refl ..) w (.bl _) h
theorem r2_ninT {K : PySem.W.Frag} : R2D K (rIn K true) (dInT true) := by
  rintro x y a b G C H k Q w da db ⟨z, zs, rfl, rfl, h⟩ q
  cases da
  obtain ⟨l, vs, rfl, h1, h2⟩ := w.tup db
  have := datAll_strs h2
  subst this
  refine ⟨l, _, rfl, .inr h1, rfl, flat_strs zs, ?_⟩
  rw [if_pos rfl, inV_strs]
  exact q _ _ _ _ _ (Fr.refl ..) w (.bl _) h
def dIn (neg : Bool) : OpD := fun x y C k => match y with
  | .str _ => dInS neg x y C k
  | .tup _ => dInT neg x y C k
  | _ => dInL neg x y C k
theorem OpR.iff {X : Cx} {f : Value → Value → Sem Value} {r : R2} (h : OpR X f r) : OpR X f r := h
theorem r2_in {K : PySem.W.Frag} : R2D K (fun x y H Q => rInD K x y H Q ∨ (∃ (c : Nat) (z : Str), x = .str ⟨#[c]⟩ ∧ y = .str z ∧ Q (.bl (decide (c ∈ z.cps.toList))) H) ∨ rIn K false x y H Q) (dIn false) := by
  intro x y a b G C H k Q w da db h q
  unfold dIn at h
  split at h
  · exact .inr (.inl (r2_inS (K := K) x y a _ G C H k Q w da db h q))
  · exact .inr (.inr (r2_inT x y a _ G C H k Q w da db h q))
  · exact .inl (r2_inL x y a _ G C H k Q w da db h q)
theorem r2_nin {K : PySem.W.Frag} : R2D K (fun x y H Q => rNotInD K x y H Q ∨ (∃ (c : Nat) (z : Str), x = .str ⟨#[c]⟩ ∧ y = .str z ∧ Q (.bl (!decide (c ∈ z.cps.toList))) H) ∨ rIn K true x y H Q) (dIn true) := by
  intro x y a b G C H k Q w da db h q
  unfold dIn at h
  split at h
  · exact .inr (.inl (r2_ninS (K := K) x y a _ G C H k Q w da db h q))
  · exact .inr (.inr (r2_ninT x y a _ G C H k Q w da db h q))
  · exact .inl (r2_ninL x y a _ G C H k Q w da db h q)
theorem we_in {m : Nat} (hr : Room m X.A) (h : WE X a env C fun x C1 => WE X b env C1 fun y C2 => dIn false x y C2 k) (hm : behindInMarks .In b = false := by rfl) : WE X (.Compare a [.In] [b] pos) env C k := we_cmp (OpR.or (op_inD (Room.u65 hr)) (OpR.or op_in_sign op_in_seq)) r2_in h hm
theorem we_nin {m : Nat} (hr : Room m X.A) (h : WE X a env C fun x C1 => WE X b env C1 fun y C2 => dIn true x y C2 k) (hm : behindInMarks .NotIn b = false := by rfl) : WE X (.Compare a [.NotIn] [b] pos) env C k := we_cmp (OpR.or (op_notInD (Room.u65 hr)) (OpR.or op_notIn_sign op_notIn_seq)) r2_nin h hm
abbrev tb (kb : Bool → CS → Prop) : KD := fun d C => ∃ t, d = .bl t ∧ kb t C
theorem wt_lt (h : WE X a env C fun x C1 => WE X b env C1 fun y C2 => dB2 (fun i j => decide (i < j)) x y C2 (tb kb)) : WT X (.Compare a [.Lt] [b] pos) env C kb := wt_cmp op_lt r2_B h (nomark _)
theorem wt_le (h : WE X a env C fun x C1 => WE X b env C1 fun y C2 => dB2 (fun i j => decide (i ≤ j)) x y C2 (tb kb)) : WT X (.Compare a [.LtE] [b] pos) env C kb := wt_cmp op_le r2_B h (nomark _)
theorem wt_gt (h : WE X a env C fun x C1 => WE X b env C1 fun y C2 => dB2 (fun i j => decide (j < i)) x y C2 (tb kb)) : WT X (.Compare a [.Gt] [b] pos) env C kb := wt_cmp op_gt r2_B h (nomark _)
theorem wt_ge (h : WE X a env C fun x C1 => WE X b env C1 fun y C2 => dB2 (fun i j => decide (j ≤ i)) x y C2 (tb kb)) : WT X (.Compare a [.GtE] [b] pos) env C kb := wt_cmp op_ge r2_B h (nomark _)
theorem wt_eq {m : Nat} (hr : Room m X.A) (h : WE X a env C fun x C1 => WE X b env C1 fun y C2 => dEq false x y C2 (tb kb)) : WT X (.Compare a [.Eq] [b] pos) env C kb := wt_cmp (OpR.or (op_eqD hr.units) op_eq) r2_eq h (nomark _)
theorem wt_ne {m : Nat} (hr : Room m X.A) (h : WE X a env C fun x C1 => WE X b env C1 fun y C2 => dEq true x y C2 (tb kb)) : WT X (.Compare a [.NotEq] [b] pos) env C kb := wt_cmp (OpR.or (op_neD hr.units) op_ne) r2_ne h (nomark _)
theorem wt_is (h : WE X a env C fun x C1 => WE X b env C1 fun y C2 => dIsN false x y C2 (tb kb)) : WT X (.Compare a [.Is] [b] pos) env C kb := wt_cmp op_isN r2_isN h (nomark _)
theorem wt_isnot (h : WE X a env C fun x C1 => WE X b env C1 fun y C2 => dIsN true x y C2 (tb kb)) : WT X (.Compare a [.IsNot] [b] pos) env C kb := wt_cmp op_notN r2_notN h (nomark _)
theorem wt_in {m : Nat} (hr : Room m X.A) (h : WE X a env C fun x C1 => WE X b env C1 fun y C2 => dIn false x y C2 (tb kb)) (hm : behindInMarks .In b = false := by rfl) : WT X (.Compare a [.In] [b] pos) env C kb := wt_cmp (OpR.or (op_inD (Room.u65 hr)) (OpR.or op_in_sign op_in_seq)) r2_in h hm
theorem wt_nin {m : Nat} (hr : Room m X.A) (h : WE X a env C fun x C1 => WE X b env C1 fun y C2 => dIn true x y C2 (tb kb)) (hm : behindInMarks .NotIn b = false := by rfl) : WT X (.Compare a [.NotIn] [b] pos) env C kb := wt_cmp (OpR.or (op_notInD (Room.u65 hr)) (OpR.or op_notIn_sign op_notIn_seq)) r2_nin h hm
end

/-! ### names by place -/
/-- a name's value, found by syntax -/
inductive Get : List Str → Str → DEnv → D → Prop where
  | here (x : Str) (N : List Str) (d : D) (l : DEnv) : Get (x :: N) x (some d :: l) d
  | there (y : Str) (o : Option D) {x : Str} {N : List Str} {l : DEnv} {d : D} (h : Get N x l d) : Get (y :: N) x (o :: l) d
/-- the places behind a store -/
inductive Put : List Str → Str → DEnv → (D → DEnv) → Prop where
  | here (x : Str) (N : List Str) (o : Option D) (l : DEnv) : Put (x :: N) x (o :: l) fun d => some d :: l
  | there (y : Str) (o : Option D) {x : Str} {N : List Str} {l : DEnv} {f : D → DEnv} (h : Put N x l f) : Put (y :: N) x (o :: l) fun d => o :: f d
theorem Get.get {N : List Str} {x : Str} {env : DEnv} {d : D} (h : Get N x env d) : ∃ i : Nat, N[i]? = some x ∧ env[i]? = some (some d) := by
  induction h with
  | here => exact ⟨0, rfl, rfl⟩
  | there y o _ ih => obtain ⟨i, h1, h2⟩ := ih; exact ⟨i + 1, by simpa using h1, by simpa using h2⟩
theorem Put.set {N : List Str} {x : Str} {env : DEnv} {f : D → DEnv} (h : Put N x env f) : ∃ i : Nat, N[i]? = some x ∧ (∀ d, env.set i (some d) = f d) ∧ ∀ d, (wipeD env [i]).set i (some d) = f d := by
  induction h with
  | here => exact ⟨0, rfl, fun _ => rfl, fun _ => rfl⟩
  | there y o _ ih =>
    obtain ⟨i, h1, h2, h3⟩ := ih
    refine ⟨i + 1, by simpa using h1, fun d => by simpa using h2 d, fun d => ?_⟩
    have := h3 d
    simp only [wipeD] at this ⊢
    simpa using this
/-- x stands in a written list -/
inductive Mem : Str → List Str → Prop where
  | here (x : Str) (l : List Str) : Mem x (x :: l)
  | there (y : Str) {x : Str} {l : List Str} (h : Mem x l) : Mem x (y :: l)
theorem Mem.mem {x : Str} {l : List Str} (h : Mem x l) : x ∈ l := by
  induction h with
  | here => exact List.mem_cons_self
  | there y _ ih => exact List.mem_cons_of_mem _ ih
/-- a context's own names: by place; those that are read -/
structure Nms (X : Cx) (N M : List Str) : Prop where
  n : X.N = N
  nd : X.N.Nodup
  vis : ∀ y ∈ M, Vis X.env.scope y
  ndb : ∀ y ∈ M, (y == ("__debug__" : Str)) = false
  ncd : ∀ y ∈ M, (y == ("__classdict__" : Str)) = false
/-- .. those that may be stored -/
structure Sts (X : Cx) (N M : List Str) : Prop where
  n : X.N = N
  nd : X.N.Nodup
  loc : ∀ y ∈ M, Loc X.env.scope y
  fn : ∀ y ∈ M, X.fn y = true ∨ X.env.scope.names.lookup y = some .local
section
variable {X : Cx} {e : Expr} {env : DEnv} {C : CS} {k : KD} {pos pos' : Pos} {E : DEnds} {N M : List Str} {i : Nat} {x : Str} {d : D} {f : D → DEnv}
theorem we_nm (B : Nms X N M) (hm' : Mem x M) (hi : Get N x env d) (h : k d C) : WE X (.Name x pos) env C k := by
  obtain ⟨i, h1, h2⟩ := hi.get
  have hm : x ∈ M := hm'.mem
  exact we_var (by rw [B.n]; exact h1) (B.vis x hm) h2 h (B.ndb x hm) (B.ncd x hm)
theorem ws_nm (B : Sts X N M) (hm' : Mem x M) (hi : Put N x env f) (h : WE X e env C fun d C1 => E.nx (f d) C1) (hs : swapsWith e (some (.Name x pos')) pos.line X.env = pure false := by rfl) : WS X (.Assign [.Name x pos'] e pos) env C E := by
  obtain ⟨i, h1, h2, _⟩ := hi.set
  have hm : x ∈ M := hm'.mem
  exact ws_set (i := i) B.nd (by rw [B.n]; exact h1) (B.loc x hm) (h.imp fun d C' z => by rw [h2]; exact z) hs (B.fn x hm)
theorem wg_nm {kE : DEnv → CS → Prop} (B : Sts X N M) (hm' : Mem x M) (hi : Put N x env f) (h : kE (f d) C) : WG X (.Name x pos) d env C kE := by
  obtain ⟨i, h1, h2, _⟩ := hi.set
  have hm : x ∈ M := hm'.mem
  exact wg_name (i := i) B.nd (by rw [B.n]; exact h1) (B.loc x hm) (by rw [h2]; exact h) (B.fn x hm)
theorem ws_augNm {op : Operator} {ti : TIp} {p : OpD} (B : Sts X N M) (hm' : Mem x M) (hg : Get N x env d) (hi : Put N x env f) (ho : PIp X op ti) (hr : RID X.K ti p) (h : WE X e env C fun y C1 => p d y C1 fun z C2 => E.nx (f z) C2) : WS X (.AugAssign (.Name x pos') op e pos) env C E := by
  obtain ⟨i, h1, h2, _⟩ := hi.set
  obtain ⟨j, h3, h4⟩ := hg.get
  have hm : x ∈ M := hm'.mem
  have nd := B.nd
  rw [B.n] at nd
  have hij : i = j := nodup_ix nd h1 h3
  subst hij
  exact ws_aug (i := i) B.nd (by rw [B.n]; exact h1) (B.loc x hm) ho hr h4 (by simpa only [h2] using h) (B.fn x hm)
theorem ws_augAdd (B : Sts X N M) (hm' : Mem x M) (hg : Get N x env d) (hi : Put N x env f) (h : WE X e env C fun y C1 => dI2 (fun i j => i + j) (fun _ _ => True) d y C1 fun z C2 => E.nx (f z) C2) : WS X (.AugAssign (.Name x pos') .Add e pos) env C E :=
  ws_augNm B hm' hg hi ip_add (p := dI2 (fun i j => i + j) fun _ _ => True) (by
    rintro x y a b G C H k Q w da db ⟨i, j, rfl, rfl, _, hk⟩ q
    cases da; cases db
    exact ⟨i, j, rfl, rfl, q _ _ _ _ _ (Fr.refl ..) w (.int _) hk⟩) h
/-- the globals that a context reads -/
structure Gls (X : Cx) (gs : List Str) : Prop where
  gl : ∀ y ∈ gs, Gl X y
end
theorem Gls.at {X : Cx} {gs : List Str} {x : Str} (B : Gls X gs) (h : Mem x gs) : Gl X x := B.gl x h.mem

/-- looks at a scope, by computation -/
def locC (sc : Scope) (N : List Str) : Bool := N.all fun y => (sc.names.lookup y == some .local || sc.names.lookup y == some .cell) && !(y == ("__debug__" : Str)) && !(y == ("__classdict__" : Str))
def visC (sc : Scope) (N : List Str) : Bool := N.all fun y => (sc.names.lookup y == some .local || sc.names.lookup y == some .cell || sc.names.lookup y == some .free) && !(y == ("__debug__" : Str)) && !(y == ("__classdict__" : Str))
def onlyC (sc : Scope) (N : List Str) : Bool := N.all fun y => sc.names.lookup y == some .local
def glC (sc : Scope) (gs : List Str) : Bool := gs.all fun y => sc.names.lookup y == some .globalImplicit
theorem nk_eq {a b : Option NameKind} (h : (a == b) = true) : a = b := by
  cases a <;> cases b <;> first | rfl | (rename_i x y; cases x <;> cases y <;> first | rfl | (exact absurd h (by decide))) | (exact absurd h (by decide)) | (rename_i x; cases x <;> exact absurd h (by decide))
theorem nms_of {X : Cx} {N M : List Str} {sc : Scope} (hn : X.N = N) (hs : X.env.scope = sc) (nd : X.N.Nodup) (h : visC sc M = true) : Nms X N M := by
  unfold visC at h
  rw [List.all_eq_true] at h
  refine ⟨hn, nd, fun y hy => ?_, fun y hy => ?_, fun y hy => ?_⟩
  · have q := h y hy
    simp only [Bool.and_eq_true, Bool.or_eq_true] at q
    rw [hs]
    rcases q.1.1 with (q | q) | q
    · exact .inl (nk_eq q)
    · exact .inr (.inl (nk_eq q))
    · exact .inr (.inr (nk_eq q))
  · have q := h y hy
    simp only [Bool.and_eq_true, Bool.not_eq_true'] at q
    exact q.1.2
  · have q := h y hy
    simp only [Bool.and_eq_true, Bool.not_eq_true'] at q
    exact q.2
theorem sts_of {X : Cx} {N M : List Str} {sc : Scope} (hn : X.N = N) (hs : X.env.scope = sc) (nd : X.N.Nodup) (h : locC sc M = true) (hf : ∀ y, X.fn y = true) : Sts X N M := by
  unfold locC at h
  rw [List.all_eq_true] at h
  refine ⟨hn, nd, fun y hy => ?_, fun y _ => .inl (hf y)⟩
  have q := h y hy
  simp only [Bool.and_eq_true, Bool.or_eq_true] at q
  rw [hs]
  rcases q.1.1 with q | q
  · exact .inl (nk_eq q)
  · exact .inr (nk_eq q)
theorem gls_of {X : Cx} {gs : List Str} {sc : Scope} (hs : X.env.scope = sc) (h : glC sc gs = true) : Gls X gs := by
  unfold glC at h
  rw [List.all_eq_true] at h
  refine ⟨fun y hy => ?_⟩
  show X.env.kindOf y = some .globalImplicit
  unfold Env.kindOf
  rw [hs]
  exact nk_eq (h y hy)
end DL
/-! DLi: small steps by data. -/
namespace DL
open PySem PySem.Spec PyProof.Rows L2

def D.isIntB : D → Bool
  | .int _ => true
  | .bl _ => true
  | _ => false
def D.isBl : D → Bool
  | .bl _ => true
  | _ => false
def D.isStr : D → Bool
  | .str _ => true
  | _ => false
def D.isLst : D → Bool
  | .lst _ => true
  | .slst _ => true
  | _ => false
def D.isTup : D → Bool
  | .tup _ => true
  | _ => false
def D.isNon : D → Bool
  | .non => true
  | _ => false
/-- data whose kind shows -/
def D.kind : D → Bool
  | .non | .bl _ | .int _ | .str _ | .lst _ | .slst _ | .tup _ => true
  | _ => false
theorem kind_of_py {x : D} (h : x.isPy = true) : x.kind = true := by cases x <;> first | rfl | (simp [D.isPy] at h)
section
variable {C : CS} {k : KD} {kb : Bool → CS → Prop} {x y : D} {i j : Int} {b : Bool} {xs ys : List D} {s t : Str} {a : Addr}
theorem isi_int (h : x.kind = true) (q : k (.bl x.isIntB) C) : dIsi [x, .opq (.ty "int")] C k := by
  cases x <;> first | exact ⟨_, _, _, true, rfl, rfl, by decide +kernel, q⟩ | exact ⟨_, _, _, false, rfl, rfl, by decide +kernel, q⟩ | (simp [D.kind] at h; done)
theorem isi_bool (h : x.kind = true) (q : k (.bl x.isBl) C) : dIsi [x, .opq (.ty "bool")] C k := by
  cases x <;> first | exact ⟨_, _, _, true, rfl, rfl, by decide +kernel, q⟩ | exact ⟨_, _, _, false, rfl, rfl, by decide +kernel, q⟩ | (simp [D.kind] at h; done)
theorem isi_str (h : x.kind = true) (q : k (.bl x.isStr) C) : dIsi [x, .opq (.ty "str")] C k := by
  cases x <;> first | exact ⟨_, _, _, true, rfl, rfl, by decide +kernel, q⟩ | exact ⟨_, _, _, false, rfl, rfl, by decide +kernel, q⟩ | (simp [D.kind] at h; done)
theorem isi_list (h : x.kind = true) (q : k (.bl x.isLst) C) : dIsi [x, .opq (.ty "list")] C k := by
  cases x <;> first | exact ⟨_, _, _, true, rfl, rfl, by decide +kernel, q⟩ | exact ⟨_, _, _, false, rfl, rfl, by decide +kernel, q⟩ | (simp [D.kind] at h; done)
theorem isi_tuple (h : x.kind = true) (q : k (.bl x.isTup) C) : dIsi [x, .opq (.ty "tuple")] C k := by
  cases x <;> first | exact ⟨_, _, _, true, rfl, rfl, by decide +kernel, q⟩ | exact ⟨_, _, _, false, rfl, rfl, by decide +kernel, q⟩ | (simp [D.kind] at h; done)
theorem isi_ownL (h : C a = some (.lst xs)) {U : String} (hb : kitB "list" U = some b) (q : k (.bl b) C) : dIsi [.own a, .opq (.ty U)] C k := ⟨_, _, _, _, rfl, by simp [tyN, h], hb, q⟩
theorem i2_ok {f : Int → Int → Int} {P : Int → Int → Prop} (h : P i j) (q : k (.int (f i j)) C) : dI2 f P (.int i) (.int j) C k := ⟨i, j, rfl, rfl, h, q⟩
theorem b2_ok {f : Int → Int → Bool} (q : k (.bl (f i j)) C) : dB2 f (.int i) (.int j) C k := ⟨i, j, rfl, rfl, q⟩
theorem add_ii (q : k (.int (i + j)) C) : dAdd (.int i) (.int j) C k := q
theorem add_ss (h : s.length + t.length ≤ sizeLine) (q : k (.str (s ++ t)) C) : dAdd (.str s) (.str t) C k := ⟨h, q⟩
theorem add_tt (h : xs.length + ys.length ≤ sizeLine) (q : k (.tup (xs ++ ys)) C) : dAdd (.tup xs) (.tup ys) C k := ⟨h, q⟩
theorem mul_ii (h : CMul i j) (q : k (.int (i * j)) C) : dMul (.int i) (.int j) C k := ⟨h, q⟩
theorem tb_ok (q : kb b C) : tb kb (.bl b) C := ⟨b, rfl, q⟩
theorem len_tup (q : k (.int (xs.length : Nat)) C) : dLen [.tup xs] C k := ⟨_, _, rfl, rfl, q⟩
theorem len_str (h : s.length ≤ sizeLine) (q : k (.int (s.length : Nat)) C) : dLen [.str s] C k := ⟨_, _, rfl, ⟨h, rfl⟩, q⟩
theorem len_fr (q : k (.int (xs.length : Nat)) C) : dLen [.lst xs] C k := ⟨_, _, rfl, ⟨xs, rfl, rfl⟩, q⟩
theorem len_sl (q : k (.int (xs.length : Nat)) C) : dLen [.slst xs] C k := ⟨_, _, rfl, ⟨xs, rfl, rfl⟩, q⟩
theorem len_own (h : C a = some (.lst xs)) (q : k (.int (xs.length : Nat)) C) : dLen [.own a] C k := ⟨_, _, rfl, ⟨xs, seqR_own h, rfl⟩, q⟩
theorem ix_t {d : D} (h : atI xs i = some d) (q : k d C) : dIx (.tup xs) (.int i) C k := ⟨d, h, q⟩
theorem ix_f {d : D} (h : atI xs i = some d) (q : k d C) : dIx (.lst xs) (.int i) C k := ⟨xs, d, rfl, h, q⟩
theorem ix_s {d : D} (h : atI xs i = some d) (q : k d C) : dIx (.slst xs) (.int i) C k := ⟨xs, d, rfl, h, q⟩
theorem ix_o {d : D} (hc : C a = some (.lst xs)) (h : atI xs i = some d) (q : k d C) : dIx (.own a) (.int i) C k := ⟨xs, d, seqR_own hc, h, q⟩
theorem ix_z {c : Nat} (hl : s.length ≤ sizeLine) (h : atI s.cps.toList i = some c) (q : k (.str ⟨#[c]⟩) C) : dIx (.str s) (.int i) C k := ⟨hl, c, h, q⟩
theorem sl_t {lo hi : Option Int} (q : k (.tup (cutD xs lo hi)) C) : dSl (.tup xs) lo hi C k := q
theorem sl_z {lo hi : Option Int} (hl : s.length ≤ sizeLine) (q : k (.str (cutS s lo hi)) C) : dSl (.str s) lo hi C k := ⟨hl, q⟩
theorem sl_f {lo hi : Option Int} (q : ∀ p, C p = none → k (.own p) (put C p (.lst (cutD xs lo hi)))) : dSl (.lst xs) lo hi C k := ⟨xs, rfl, q⟩
theorem sl_o {lo hi : Option Int} (hc : C a = some (.lst xs)) (q : ∀ p, C p = none → k (.own p) (put C p (.lst (cutD xs lo hi)))) : dSl (.own a) lo hi C k := ⟨xs, seqR_own hc, q⟩
theorem isn_k (h : x.kind = true) (q : k (.bl x.isNon) C) : dIsN false x .non C k := by
  refine ⟨rfl, ?_⟩
  cases x <;> first | exact q | (simp [D.kind] at h)
theorem nisn_k (h : x.kind = true) (q : k (.bl (!x.isNon)) C) : dIsN true x .non C k := by
  refine ⟨rfl, ?_⟩
  cases x <;> first | exact q | (simp [D.kind] at h)
theorem int1_ok {f : Int → Int} (q : k (.int (f i)) C) : dInt1 f [.int i] C k := ⟨i, rfl, q⟩
theorem int2_ok {f : Int → Int → Int} (q : k (.int (f i j)) C) : dInt2 f [.int i, .int j] C k := ⟨i, j, rfl, q⟩
theorem int_i (q : k (.int i) C) : dInt [.int i] C k := .inl ⟨i, rfl, q⟩
theorem int_b (q : k (.int (if b then 1 else 0)) C) : dInt [.bl b] C k := .inr ⟨b, rfl, q⟩
theorem ins_c {c : Nat} (q : k (.bl (decide (c ∈ s.cps.toList))) C) : dIn false (.str ⟨#[c]⟩) (.str s) C k := ⟨c, s, rfl, rfl, q⟩
theorem tup_t (q : k (.tup xs) C) : dTuple [.tup xs] C k := ⟨_, rfl, q⟩
theorem tup_f (q : k (.tup xs) C) : dTuple [.lst xs] C k := ⟨_, rfl, xs, rfl, q⟩
theorem tup_o (hc : C a = some (.lst xs)) (q : k (.tup xs) C) : dTuple [.own a] C k := ⟨_, rfl, xs, seqR_own hc, q⟩
/-- equality of data -/
def D.ok (x : D) : Bool := x.isPy && SeqAt.shaped x.py
theorem eq_ok (hx : x.ok = true) (hy : y.ok = true) (q : k (.bl (PyData.eqv x.py y.py)) C) : dEq false x y C k := by
  unfold D.ok at hx hy
  rw [Bool.and_eq_true] at hx hy
  refine .inl ⟨x.py, y.py, ?_, ?_, hx.2, hy.2, q⟩
  · cases x <;> first | (unfold pyC; simp only [hx.1]; rfl) | (simp [D.isPy] at hx)
  · cases y <;> first | (unfold pyC; simp only [hy.1]; rfl) | (simp [D.isPy] at hy)
theorem ne_ok (hx : x.ok = true) (hy : y.ok = true) (q : k (.bl (!PyData.eqv x.py y.py)) C) : dEq true x y C k := by
  unfold D.ok at hx hy
  rw [Bool.and_eq_true] at hx hy
  refine .inl ⟨x.py, y.py, ?_, ?_, hx.2, hy.2, q⟩
  · cases x <;> first | (unfold pyC; simp only [hx.1]; rfl) | (simp [D.isPy] at hx)
  · cases y <;> first | (unfold pyC; simp only [hy.1]; rfl) | (simp [D.isPy] at hy)
theorem eq_sS (q : k (.bl (s == t)) C) : dEq false (.str s) (.str t) C k := .inr ⟨s, t, rfl, rfl, q⟩
theorem ne_sS (q : k (.bl (!(s == t))) C) : dEq true (.str s) (.str t) C k := .inr ⟨s, t, rfl, rfl, q⟩
theorem eq_ii (q : k (.bl (i == j)) C) : dEq false (.int i) (.int j) C k := .inl ⟨.int i, .int j, rfl, rfl, rfl, rfl, by simpa [PyData.eqv] using q⟩
theorem ne_ii (q : k (.bl (!(i == j))) C) : dEq true (.int i) (.int j) C k := .inl ⟨.int i, .int j, rfl, rfl, rfl, rfl, by simpa [PyData.eqv] using q⟩
end
end DL
namespace DL
theorem and_T {A B : Prop} (a : A) : (true = true → A) ∧ (true = false → B) := ⟨fun _ => a, fun h => Bool.noConfusion h⟩
theorem and_F {A B : Prop} (b : B) : (false = true → A) ∧ (false = false → B) := ⟨fun h => Bool.noConfusion h, fun _ => b⟩
theorem and_S {b : Bool} {A B : Prop} (h1 : b = true → A) (h2 : b = false → B) : (b = true → A) ∧ (b = false → B) := ⟨h1, h2⟩
theorem ex_bl {b : Bool} {A : Bool → Prop} (h : A b) : ∃ t, D.bl b = D.bl t ∧ A t := ⟨b, rfl, h⟩
theorem ex_int {i : Int} {A : Int → Prop} (h : A i) : ∃ t, D.int i = D.int t ∧ A t := ⟨i, rfl, h⟩
end DL
/-! DLj: comprehensions by names. -/
namespace DL
open PySem PySem.Spec PyProof.Rows L2

/-- a def's context -/
structure Dfc (X : Cx) (N : List Str) (dsc : Scope) : Prop where
  n : X.N = N
  nd : X.N.Nodup
  sc : X.env.scope = dsc
  calm : X.calm = true
def LcB (X : Cx) (elt : Expr) (ifs : List Expr) (scope : Scope) (N M gs : List Str) (f : D → DEnv) (xs : List D) (Pc : CS → Prop) (C1 : CS) (k : KD) : Prop := ∃ Iv : Nat → List D → CS → Prop, Iv 0 [] C1 ∧ (∀ j acc C, Iv j acc C → Pc C) ∧
  (∀ j d acc C, xs[j]? = some d → Iv j acc C → ∀ X', Blk X scope X' → Nms X' N M → Gls X' gs → WIf X' ifs (f d) C fun t C3 => (t = true → ∀ X', Blk X scope X' → Nms X' N M → Gls X' gs → WE X' elt (f d) C3 fun y C4 => acc.length < sizeLine ∧ Iv (j + 1) (acc ++ [y]) C4) ∧ (t = false → Iv (j + 1) acc C3)) ∧
  (∀ acc C, Iv xs.length acc C → ∀ p, C p = none → k (.own p) (put C p (.lst acc)))
section
variable {X : Cx} {elt iter : Expr} {ifs : List Expr} {scope dsc : Scope} {env : DEnv} {C C1 : CS} {k : KD} {pos px : Pos} {E : DEnds} {N M gs : List Str} {x : Str} {f : D → DEnv} {xs : List D} {Pc : CS → Prop}
theorem blk_nms (D0 : Dfc X N dsc) (hv : visC (relS scope dsc) M = true) : ∀ X', Blk X scope X' → Nms X' N M := by
  rintro X' ⟨s, H, Ca, cl, fp, rfl⟩
  exact nms_of (sc := relS scope dsc) D0.n (by rw [← D0.sc]; rfl) D0.nd hv
theorem blk_gls (D0 : Dfc X N dsc) (hg : glC (relS scope dsc) gs = true) : ∀ X', Blk X scope X' → Gls X' gs := by
  rintro X' ⟨s, H, Ca, cl, fp, rfl⟩
  exact gls_of (sc := relS scope dsc) (by rw [← D0.sc]; rfl) hg
theorem lcB_I (D0 : Dfc X N dsc) (hP : Put N x env f) (hv : visC (relS scope dsc) M = true) (hg : glC (relS scope dsc) gs = true) (h : LcB X elt ifs scope N M gs f xs Pc C1 k) : ∃ i, N[i]? = some x ∧ LcI X elt ifs scope [i] (gName i) env xs Pc C1 k := by
  obtain ⟨i, h1, h2, h3⟩ := hP.set
  refine ⟨i, h1, ?_⟩
  obtain ⟨Iv, i0, hp, turn, done⟩ := h
  refine ⟨Iv, i0, hp, fun j d acc C hd hi => gw_name (List.mem_singleton.mpr rfl) ?_, done⟩
  rw [h3]
  exact fun X' hX => WIf.imp (turn j d acc C hd hi X' hX (blk_nms D0 hv X' hX) (blk_gls D0 hg X' hX)) fun t C3 z => ⟨fun ht X'' hX'' => z.1 ht X'' hX'' (blk_nms D0 hv X'' hX'') (blk_gls D0 hg X'' hX''), z.2⟩
theorem idxOf_of {α : Type} [BEq α] [LawfulBEq α] {l : List α} (nd : l.Nodup) {i : Nat} {x : α} (h : l[i]? = some x) : l.idxOf x = i := by
  obtain ⟨hi, rfl⟩ := List.getElem?_eq_some_iff.mp h
  exact nd.idxOf_getElem i hi
theorem lc_own (D0 : Dfc X N dsc) {i : Nat} (h1 : N[i]? = some x) (ok : blkC N dsc scope [(x, N.idxOf x)] = true) : BlkOk X.N X.env.scope scope [(x, i)] := by
  have nd : N.Nodup := by rw [← D0.n]; exact D0.nd
  rw [idxOf_of nd h1] at ok
  rw [D0.n, D0.sc]
  exact blkOk_by ok
theorem lc_pg (D0 : Dfc X N dsc) {i : Nat} (h1 : N[i]? = some x) (hx : onlyC (relS scope dsc) [x] = true) (s : Shared) (H : Hp) (Ca : Addr) (cl : List (Str × Addr)) (fp : List Addr) : PG (X.blk s H scope (compEnvC scope cl Ca X.env) fp) (.Name x px) (gName i) := by
  have e : (relS scope dsc).names.lookup x = some .local := by
    unfold onlyC at hx
    simp only [List.all_cons, List.all_nil, Bool.and_true] at hx
    exact nk_eq hx
  have e2 : (X.blk s H scope (compEnvC scope cl Ca X.env) fp).env.scope.names.lookup x = some .local := by
    have : (X.blk s H scope (compEnvC scope cl Ca X.env) fp).env.scope = relS scope dsc := by rw [← D0.sc]; rfl
    rw [this]; exact e
  exact pg_name D0.nd (by rw [show (X.blk s H scope (compEnvC scope cl Ca X.env) fp).N = N from D0.n]; exact h1) (.inl e2) (.inr e2)
theorem lc1 (M gs : List Str) (D0 : Dfc X N dsc) (hP : Put N x env f) (ok : blkC N dsc scope [(x, N.idxOf x)] = true) (hv : visC (relS scope dsc) M = true) (hg : glC (relS scope dsc) gs = true) (hx : onlyC (relS scope dsc) [x] = true)
    (h : WI X (.Name x px) iter env C fun xs Pc C1 => LcB X elt ifs scope N M gs f xs Pc C1 k) (hs : ∀ x, foldedSetIterable iter X.env x = pure x := by intro _; rfl) : WE X (.ListComp elt [⟨.Name x px, iter, ifs, 0⟩] scope pos) env C k := by
  obtain ⟨i, h1, _⟩ := hP.set
  have nd : N.Nodup := by rw [← D0.n]; exact D0.nd
  refine we_lc [(x, i)] D0.calm D0.nd (lc_own D0 h1 ok) (lc_pg D0 h1 hx) ?_ hs
  obtain ⟨wi, hi, hw⟩ := h
  refine ⟨wi, hi, fun G σ H R w er q => hw G σ H R w er fun J G' C' H' xs Pc f1 w1 it z => ?_⟩
  obtain ⟨j, h2, h3⟩ := lcB_I D0 hP hv hg z
  have : i = j := nodup_ix nd h1 h2
  subst this
  exact q J G' C' H' xs Pc f1 w1 it h3
/-- y = [..] -/
theorem ws_lc1 (M gs : List Str) {M0 : List Str} {y : Str} {py spos : Pos} {fy : D → DEnv} (D0 : Dfc X N dsc) (hy : Put N y env fy) (hyl : onlyC dsc [y] = true)
    (hP : Put N x env f) (ok : blkC N dsc scope [(x, N.idxOf x)] = true) (hv : visC (relS scope dsc) M = true) (hg : glC (relS scope dsc) gs = true) (hx : onlyC (relS scope dsc) [x] = true)
    (hsw : swapsWith (.ListComp elt [⟨.Name x px, iter, ifs, 0⟩] scope pos) (some (.Name y py)) spos.line X.env = pure true)
    (h : WI X (.Name x px) iter env C fun xs Pc C1 => LcB X elt ifs scope N M gs f xs Pc C1 fun d C2 => E.nx (fy d) C2) (hs : ∀ x, foldedSetIterable iter X.env x = pure x := by intro _; rfl) :
    WS X (.Assign [.Name y py] (.ListComp elt [⟨.Name x px, iter, ifs, 0⟩] scope pos) spos) env C E := by
  obtain ⟨i, h1, _⟩ := hP.set
  obtain ⟨iy, g1, g2, _⟩ := hy.set
  have nd : N.Nodup := by rw [← D0.n]; exact D0.nd
  have e : X.env.scope.names.lookup y = some .local := by
    unfold onlyC at hyl
    simp only [List.all_cons, List.all_nil, Bool.and_true] at hyl
    rw [D0.sc]; exact nk_eq hyl
  refine ws_setLc [(x, i)] (i := iy) D0.calm D0.nd (by rw [D0.n]; exact g1) e hsw (lc_own D0 h1 ok) (lc_pg D0 h1 hx) ?_ hs
  obtain ⟨wi, hi, hw⟩ := h
  refine ⟨wi, hi, fun G σ H R w er q => hw G σ H R w er fun J G' C' H' xs Pc f1 w1 it z => ?_⟩
  obtain ⟨j, h2, h3⟩ := lcB_I D0 hP hv hg z
  have : i = j := nodup_ix nd h1 h2
  subst this
  refine q J G' C' H' xs Pc f1 w1 it ?_
  show LcI X elt ifs scope [i] (gName i) env xs Pc C' fun d C2 => E.nx (env.set iy (some d)) C2
  rw [show (fun (d : D) (C2 : CS) => E.nx (env.set iy (some d)) C2) = fun d C2 => E.nx (fy d) C2 from by funext d C2; rw [g2]]
  exact h3
/-- each item gives a value, nothing changes -/
theorem LcB.map (g : D → D) (hP : Pc C1) (hl : xs.length ≤ sizeLine) (hx : ∀ d ∈ xs, ∀ X', Blk X scope X' → Nms X' N M → Gls X' gs → WE X' elt (f d) C1 fun y C' => y = g d ∧ C' = C1)
    (hk : ∀ p, C1 p = none → k (.own p) (put C1 p (.lst (xs.map g)))) : LcB X elt [] scope N M gs f xs Pc C1 k := by
  refine ⟨fun j acc C => C = C1 ∧ acc = (xs.take j).map g, ⟨rfl, rfl⟩, fun j acc C h => by rw [h.1]; exact hP, ?_, ?_⟩
  · rintro j d acc C hd ⟨rfl, rfl⟩ X' hX B G
    refine wif_nil ⟨fun _ X' hX B G => (hx d (List.mem_of_getElem? hd) X' hX B G).imp fun y C' z => ?_, fun h => Bool.noConfusion h⟩
    obtain ⟨rfl, rfl⟩ := z
    have hj : j < xs.length := (List.getElem?_eq_some_iff.mp hd).1
    refine ⟨by simp; omega, rfl, ?_⟩
    rw [List.take_add_one, hd, List.map_append]
    rfl
  · rintro acc C ⟨rfl, rfl⟩ p hp
    rw [List.take_length]
    exact hk p hp
/-- .. with a test -/
theorem LcB.filter {c : Expr} (t : D → Bool) (g : D → D) (hP : Pc C1) (hl : xs.length ≤ sizeLine) (ht : ∀ d ∈ xs, ∀ X', Blk X scope X' → Nms X' N M → Gls X' gs → WT X' c (f d) C1 fun b C' => b = t d ∧ C' = C1)
    (hx : ∀ d ∈ xs, t d = true → ∀ X', Blk X scope X' → Nms X' N M → Gls X' gs → WE X' elt (f d) C1 fun y C' => y = g d ∧ C' = C1)
    (hk : ∀ p, C1 p = none → k (.own p) (put C1 p (.lst ((xs.filter t).map g)))) : LcB X elt [c] scope N M gs f xs Pc C1 k := by
  refine ⟨fun j acc C => C = C1 ∧ acc = ((xs.take j).filter t).map g, ⟨rfl, rfl⟩, fun j acc C h => by rw [h.1]; exact hP, ?_, ?_⟩
  · rintro j d acc C hd ⟨rfl, rfl⟩ X' hX B G
    have hj : j < xs.length := (List.getElem?_eq_some_iff.mp hd).1
    refine wif_one ((ht d (List.mem_of_getElem? hd) X' hX B G).imp fun b C' z => ?_)
    obtain ⟨rfl, rfl⟩ := z
    refine ⟨fun hb X' hX B G => (hx d (List.mem_of_getElem? hd) hb X' hX B G).imp fun y C' z => ?_, fun hb => ⟨rfl, ?_⟩⟩
    · obtain ⟨rfl, rfl⟩ := z
      refine ⟨?_, rfl, ?_⟩
      · have h1 := List.length_filter_le t (xs.take j)
        rw [List.length_take] at h1
        rw [List.length_map]
        omega
      · rw [List.take_add_one, hd, List.filter_append, List.map_append]
        simp [hb]
    · rw [List.take_add_one, hd, List.filter_append]
      simp [hb]
  · rintro acc C ⟨rfl, rfl⟩ p hp
    rw [List.take_length]
    exact hk p hp
/-- frozen where it stands -/
def Frz (k : KD) : KD := fun d C1 => ∃ ds, seqL C1 d = some ds ∧ ((∃ a, d = .own a ∧ k (.lst ds) (del C1 a)) ∨ (d = .lst ds ∧ k (.lst ds) C1))
theorem we_fz {e : Expr} (h : WE X e env C (Frz k)) : WE X e env C k := we_frz h
theorem frz_ok {ds : List D} {p : Addr} (h : C p = none) (q : k (.lst ds) C) : Frz k (.own p) (put C p (.lst ds)) :=
  ⟨ds, seqL_own put_same, .inl ⟨p, rfl, by rw [del_put h]; exact q⟩⟩
theorem frz_lst {ds : List D} (q : k (.lst ds) C) : Frz k (.lst ds) C := ⟨ds, rfl, .inr ⟨rfl, q⟩⟩
end
end DL
/-! DLk: the context of a body as one fact; the rules over it; defs. -/
namespace DL
open PySem PySem.Spec PyProof.Rows L2

/-- a body runs: the module's facts, room for m calls -/
structure Ctx (P : Program) (w : World) (K : PySem.W.Frag) (mg : Str → Option Value) (base : Heap) (m : Nat) (X : Cx) : Prop where
  prog : X.prog = P
  w : X.w = w
  K : X.K = K
  mg : X.mg = mg
  base : X.base = base
  room : Room m X.A
  guards : X.A.guards = some []
  calm : X.calm = true
section
variable {P : Program} {w : World} {K : PySem.W.Frag} {mg : Str → Option Value} {base : Heap} {m n : Nat} {X X' : Cx} {scope : Scope} {x : Str} {S : DSp} {d : D}
theorem Ctx.blk (h : Ctx P w K mg base m X) (hX : Blk X scope X') : Ctx P w K mg base m X' := by
  obtain ⟨s, H, Ca, cl, fp, rfl⟩ := hX
  exact ⟨h.prog, h.w, h.K, h.mg, h.base, h.room, h.guards, h.calm⟩
theorem Ctx.zs (h : Ctx P w K mg base m X) (Z : Zs mg) : Zs X.mg := by rw [h.mg]; exact Z
theorem Ctx.fn (h : Ctx P w K mg base m X) (F : FnC P w K mg base x n S) : FnC X.prog X.w X.K X.mg X.base x n S := by rw [h.prog, h.w, h.K, h.mg, h.base]; exact F
/-- a constant of the module -/
def MgK (K : PySem.W.Frag) (mg : Str → Option Value) (x : Str) (d : D) : Prop := ∃ u v, mg x = some u ∧ RelV v u ∧ ∀ G, Dat K G v d
theorem Ctx.mgd (h : Ctx P w K mg base m X) (F : MgK K mg x d) : MgD X x d := by unfold MgD; rw [h.mg, h.K]; exact F
theorem mgk_int {i : Int} {t : Tok} (h : mg x = some (.int i t)) : MgK K mg x (.int i) := ⟨_, .int i, h, ⟨t, rfl⟩, fun _ => .int i⟩
theorem mgk_str {z : Str} {t : Tok} (h : mg x = some (.str z t)) : MgK K mg x (.str z) := ⟨_, .str z, h, ⟨t, rfl⟩, fun _ => .str z⟩
end
section
variable {P : Program} {w : World} {K : PySem.W.Frag} {mg : Str → Option Value} {base : Heap} {m n : Nat} {X : Cx} {e a b o : Expr} {es : List Expr} {env : DEnv} {C : CS} {k : KD} {pos p p1 p2 : Pos} {kb : Bool → CS → Prop} {E : DEnds}
theorem x_len (hx : Ctx P w K mg base m X) (Z : Zs mg) (hg : Gl X "len") (h : WA X (e :: es) env C fun ds C1 => dLen ds C1 k) (he : starEach (e :: es) X.env = (false, eval e X.env) :: starEach es X.env := by rfl) (hpl : (backTo pos (starEach es X.env)).any (·.1) = false := by rfl) : WE X (.Call (.Name "len" p) (e :: es) [] pos) env C k := we_len (hx.zs Z) hg h he hpl
theorem x_isi (hx : Ctx P w K mg base m X) (Z : Zs mg) (hg : Gl X "isinstance") (h : WA X (e :: es) env C fun ds C1 => dIsi ds C1 k) (he : starEach (e :: es) X.env = (false, eval e X.env) :: starEach es X.env := by rfl) (hpl : (backTo pos (starEach es X.env)).any (·.1) = false := by rfl) : WE X (.Call (.Name "isinstance" p) (e :: es) [] pos) env C k := we_isi (hx.zs Z) hg h he hpl
theorem x_abs (hx : Ctx P w K mg base m X) (Z : Zs mg) (hg : Gl X "abs") (h : WA X (e :: es) env C fun ds C1 => dInt1 (fun i => if i < 0 then -i else i) ds C1 k) (he : starEach (e :: es) X.env = (false, eval e X.env) :: starEach es X.env := by rfl) (hpl : (backTo pos (starEach es X.env)).any (·.1) = false := by rfl) : WE X (.Call (.Name "abs" p) (e :: es) [] pos) env C k := we_abs (hx.zs Z) hg h he hpl
theorem x_any (hx : Ctx P w K mg base m X) (Z : Zs mg) (hg : Gl X "any") (h : WA X (e :: es) env C fun ds C1 => dAny ds C1 k) (he : starEach (e :: es) X.env = (false, eval e X.env) :: starEach es X.env := by rfl) (hpl : (backTo pos (starEach es X.env)).any (·.1) = false := by rfl) : WE X (.Call (.Name "any" p) (e :: es) [] pos) env C k := we_any hx.calm (hx.zs Z) hg h he hpl
theorem x_all (hx : Ctx P w K mg base m X) (Z : Zs mg) (hg : Gl X "all") (h : WA X (e :: es) env C fun ds C1 => dAll ds C1 k) (he : starEach (e :: es) X.env = (false, eval e X.env) :: starEach es X.env := by rfl) (hpl : (backTo pos (starEach es X.env)).any (·.1) = false := by rfl) : WE X (.Call (.Name "all" p) (e :: es) [] pos) env C k := we_all hx.calm (hx.zs Z) hg h he hpl
theorem x_sum (hx : Ctx P w K mg base m X) (Z : Zs mg) (hg : Gl X "sum") (h : WA X (e :: es) env C fun ds C1 => dSum ds C1 k) (he : starEach (e :: es) X.env = (false, eval e X.env) :: starEach es X.env := by rfl) (hpl : (backTo pos (starEach es X.env)).any (·.1) = false := by rfl) : WE X (.Call (.Name "sum" p) (e :: es) [] pos) env C k := we_sum hx.calm (hx.zs Z) hg h he hpl
theorem x_intC (hx : Ctx P w K mg base m X) (Z : Zs mg) (hg : Gl X "int") (h : WA X (e :: es) env C fun ds C1 => dInt ds C1 k) (he : starEach (e :: es) X.env = (false, eval e X.env) :: starEach es X.env := by rfl) (hpl : (backTo pos (starEach es X.env)).any (·.1) = false := by rfl) : WE X (.Call (.Name "int" p) (e :: es) [] pos) env C k := we_intC (hx.zs Z) hg h he hpl
theorem x_strC (hx : Ctx P w K mg base m X) (Z : Zs mg) (hg : Gl X "str") (h : WA X (e :: es) env C fun ds C1 => dStrInt ds C1 k) (he : starEach (e :: es) X.env = (false, eval e X.env) :: starEach es X.env := by rfl) (hpl : (backTo pos (starEach es X.env)).any (·.1) = false := by rfl) : WE X (.Call (.Name "str" p) (e :: es) [] pos) env C k := we_strC (hx.zs Z) hg h he hpl
theorem x_tupleC (hx : Ctx P w K mg base m X) (Z : Zs mg) (hg : Gl X "tuple") (h : WA X (e :: es) env C fun ds C1 => dTuple ds C1 k) (he : starEach (e :: es) X.env = (false, eval e X.env) :: starEach es X.env := by rfl) (hpl : (backTo pos (starEach es X.env)).any (·.1) = false := by rfl) : WE X (.Call (.Name "tuple" p) (e :: es) [] pos) env C k := we_tupleC (hx.zs Z) hg h he hpl
theorem x_listC (hx : Ctx P w K mg base m X) (Z : Zs mg) (hg : Gl X "list") (h : WA X (e :: es) env C fun ds C1 => dList ds C1 k) (he : starEach (e :: es) X.env = (false, eval e X.env) :: starEach es X.env := by rfl) (hpl : (backTo pos (starEach es X.env)).any (·.1) = false := by rfl) : WE X (.Call (.Name "list" p) (e :: es) [] pos) env C k := we_listC (hx.zs Z) hg h he hpl
theorem x_max2 (hx : Ctx P w K mg base m X) (Z : Zs mg) (hg : Gl X "max") (h : WA X [a, b] env C fun ds C1 => dInt2 (fun i j => if j > i then j else i) ds C1 k) (he : starEach [a, b] X.env = (false, eval a X.env) :: starEach [b] X.env := by rfl) (hpl : (backTo pos (starEach [b] X.env)).any (·.1) = false := by rfl) : WE X (.Call (.Name "max" p) [a, b] [] pos) env C k := we_max2 hx.calm (hx.zs Z) hg h he hpl
theorem x_min2 (hx : Ctx P w K mg base m X) (Z : Zs mg) (hg : Gl X "min") (h : WA X [a, b] env C fun ds C1 => dInt2 (fun i j => if j < i then j else i) ds C1 k) (he : starEach [a, b] X.env = (false, eval a X.env) :: starEach [b] X.env := by rfl) (hpl : (backTo pos (starEach [b] X.env)).any (·.1) = false := by rfl) : WE X (.Call (.Name "min" p) [a, b] [] pos) env C k := we_min2 hx.calm (hx.zs Z) hg h he hpl
theorem x_minL (hx : Ctx P w K mg base m X) (Z : Zs mg) (hg : Gl X "min") (h : WA X [a] env C fun ds C1 => dMinL ds C1 k) (he : starEach [a] X.env = (false, eval a X.env) :: starEach [] X.env := by rfl) (hpl : (backTo pos (starEach [] X.env)).any (·.1) = false := by rfl) : WE X (.Call (.Name "min" p) [a] [] pos) env C k := we_minL hx.calm (hx.zs Z) hg h he hpl
theorem x_tyInt (hx : Ctx P w K mg base m X) (Z : Zs mg) (hg : Gl X "int") (h : k (.opq (.ty "int")) C) : WE X (.Name "int" pos) env C k := we_tyInt (hx.zs Z) hg h
theorem x_tyBool (hx : Ctx P w K mg base m X) (Z : Zs mg) (hg : Gl X "bool") (h : k (.opq (.ty "bool")) C) : WE X (.Name "bool" pos) env C k := we_tyBool (hx.zs Z) hg h
theorem x_tyStr (hx : Ctx P w K mg base m X) (Z : Zs mg) (hg : Gl X "str") (h : k (.opq (.ty "str")) C) : WE X (.Name "str" pos) env C k := we_tyStr (hx.zs Z) hg h
theorem x_tyList (hx : Ctx P w K mg base m X) (Z : Zs mg) (hg : Gl X "list") (h : k (.opq (.ty "list")) C) : WE X (.Name "list" pos) env C k := we_tyList (hx.zs Z) hg h
theorem x_tyTuple (hx : Ctx P w K mg base m X) (Z : Zs mg) (hg : Gl X "tuple") (h : k (.opq (.ty "tuple")) C) : WE X (.Name "tuple" pos) env C k := we_tyTuple (hx.zs Z) hg h
theorem x_eq (hx : Ctx P w K mg base m X) (h : WE X a env C fun x C1 => WE X b env C1 fun y C2 => dEq false x y C2 k) : WE X (.Compare a [.Eq] [b] pos) env C k := we_eq hx.room h
theorem xt_eq (hx : Ctx P w K mg base m X) (h : WE X a env C fun x C1 => WE X b env C1 fun y C2 => dEq false x y C2 (tb kb)) : WT X (.Compare a [.Eq] [b] pos) env C kb := wt_eq hx.room h
theorem x_ne (hx : Ctx P w K mg base m X) (h : WE X a env C fun x C1 => WE X b env C1 fun y C2 => dEq true x y C2 k) : WE X (.Compare a [.NotEq] [b] pos) env C k := we_ne hx.room h
theorem xt_ne (hx : Ctx P w K mg base m X) (h : WE X a env C fun x C1 => WE X b env C1 fun y C2 => dEq true x y C2 (tb kb)) : WT X (.Compare a [.NotEq] [b] pos) env C kb := wt_ne hx.room h
theorem x_in (hx : Ctx P w K mg base m X) (h : WE X a env C fun x C1 => WE X b env C1 fun y C2 => dIn false x y C2 k) (hm : behindInMarks .In b = false := by rfl) : WE X (.Compare a [.In] [b] pos) env C k := we_in hx.room h hm
theorem xt_in (hx : Ctx P w K mg base m X) (h : WE X a env C fun x C1 => WE X b env C1 fun y C2 => dIn false x y C2 (tb kb)) (hm : behindInMarks .In b = false := by rfl) : WT X (.Compare a [.In] [b] pos) env C kb := wt_in hx.room h hm
theorem x_nin (hx : Ctx P w K mg base m X) (h : WE X a env C fun x C1 => WE X b env C1 fun y C2 => dIn true x y C2 k) (hm : behindInMarks .NotIn b = false := by rfl) : WE X (.Compare a [.NotIn] [b] pos) env C k := we_nin hx.room h hm
theorem xt_nin (hx : Ctx P w K mg base m X) (h : WE X a env C fun x C1 => WE X b env C1 fun y C2 => dIn true x y C2 (tb kb)) (hm : behindInMarks .NotIn b = false := by rfl) : WT X (.Compare a [.NotIn] [b] pos) env C kb := wt_nin hx.room h hm
theorem x_call {x : Str} {S : DSp} (hx : Ctx P w K mg base m X) (h : FnC P w K mg base x n S) (hg : Gl X x) (ha : WA X (e :: es) env C fun ds C1 => S ds C1 k) (hle : n ≤ m := by decide)
    (hdb : (x == ("__debug__" : Str)) = false := by decide) (he : starEach (e :: es) X.env = (false, eval e X.env) :: starEach es X.env := by rfl) (hpl : (backTo pos (starEach es X.env)).any (·.1) = false := by rfl) : WE X (.Call (.Name x p) (e :: es) [] pos) env C k := we_call (hx.fn h) hx.guards hx.room hg ha hle hdb he hpl
theorem x_call0 {x : Str} {S : DSp} (hx : Ctx P w K mg base m X) (h : FnC P w K mg base x n S) (hg : Gl X x) (ha : S [] C k) (hle : n ≤ m := by decide)
    (hdb : (x == ("__debug__" : Str)) = false := by decide) : WE X (.Call (.Name x p) [] [] pos) env C k := we_call0 (hx.fn h) hx.guards hx.room hg ha hle hdb
theorem x_glob {x : Str} {d : D} (hx : Ctx P w K mg base m X) (hm : MgK K mg x d) (hg : Gl X x) (h : k d C) (hd : (x == ("__debug__" : Str)) = false := by decide) : WE X (.Name x pos) env C k := we_glob (hx.mgd hm) hg h hd

/-! walks -/
variable {tg iter : Expr} {body : List Stmt} {kI : KI}
theorem x_range1 (hx : Ctx P w K mg base m X) (Z : Zs mg) (hg : Gl X "range") (h : WA X [a] env C fun ds C1 => ∃ j : Int, ds = [.int j] ∧ -(2 ^ 62) ≤ j ∧ j < 2 ^ 62 ∧ kI (intsFrom 0 j.toNat) (fun _ => True) C1) (hs : starEach [a] X.env = [(false, eval a X.env)] := by rfl) :
    WI X tg (.Call (.Name "range" p) [a] [] pos) env C kI := wi_range1 (hx.zs Z).range hg h hs
theorem x_range2 (hx : Ctx P w K mg base m X) (Z : Zs mg) (hg : Gl X "range") (h : WA X [a, b] env C fun ds C1 => ∃ i j : Int, ds = [.int i, .int j] ∧ (-(2 ^ 62) ≤ i ∧ i < 2 ^ 62 ∧ -(2 ^ 62) ≤ j ∧ j < 2 ^ 62) ∧ kI (intsFrom i (j - i).toNat) (fun _ => True) C1)
    (hs : starEach [a, b] X.env = [(false, eval a X.env), (false, eval b X.env)] := by rfl) (hs2 : starEach [b] X.env = [(false, eval b X.env)] := by rfl) :
    WI X tg (.Call (.Name "range" p) [a, b] [] pos) env C kI := wi_range2 (hx.zs Z).range hg h hs hs2
/-- no exception leaves -/
structure Nox (X : Cx) : Prop where
  xe : X.xe = fun _ _ => False
theorem Nox.passes (h : Nox X) : PassesOwn (model X.prog X.w) X.A X.env X.xe := by rw [h.xe]; exact PassesOwn.never
theorem x_for (hx : Ctx P w K mg base m X) (hn : Nox X)
    (h : WI X tg iter env C fun xs Pc C1 => ∃ Iv : Nat → DEnv → CS → Prop, Iv 0 env C1 ∧ (∀ i env C, Iv i env C → Pc C) ∧
      (∀ i d env C, xs[i]? = some d → Iv i env C → WG X tg d env C fun env' C' => WSs X body env' C' { nx := Iv (i + 1), rt := E.rt, bk := E.nx, ct := Iv (i + 1) }) ∧ (∀ env C, Iv xs.length env C → E.nx env C))
    (hs : ∀ x, foldedSetIterable iter X.env x = pure x := by intro _; rfl) : WS X (.For tg iter body [] pos) env C E := ws_for hn.passes hx.calm h hs
theorem x_while {c : Expr} (hn : Nox X) (Iv : Nat → DEnv → CS → Prop) (h0 : ∃ m, Iv m env C)
    (h : ∀ m env C, Iv m env C → WT X c env C fun t C1 => (t = true → WSs X body env C1 { nx := fun env' C' => ∃ m', m' < m ∧ Iv m' env' C', rt := E.rt, bk := E.nx, ct := fun env' C' => ∃ m', m' < m ∧ Iv m' env' C' }) ∧ (t = false → E.nx env C1)) : WS X (.While c body [] pos) env C E := ws_while hn.passes Iv h0 h
end

/-! ### stores of two or three names at once -/
def envOf (sc : Scope) : Env := { scope := sc, locals := 0, globals := 0, cells := [], qual := "", func := none, code := .none, frame := none, builtins := 0 }
theorem sst_env {env : Env} {sc : Scope} (h : env.scope = sc) (ts : List Expr) (v : Expr) : swappedStores ts v env = swappedStores ts v (envOf sc) := by
  have e1 : env.blockKind = (envOf sc).blockKind := by unfold Env.blockKind; rw [h]; rfl
  have e2 : env.kindOf = (envOf sc).kindOf := by funext x; unfold Env.kindOf; rw [h]; rfl
  unfold swappedStores
  rw [e1, e2]
theorem sww_env {env : Env} {sc : Scope} (h : env.scope = sc) (v : Expr) (t : Option Expr) (l : Nat) : swapsWith v t l env = swapsWith v t l (envOf sc) := by
  have e1 : env.blockKind = (envOf sc).blockKind := by unfold Env.blockKind; rw [h]; rfl
  have e2 : env.kindOf = (envOf sc).kindOf := by funext x; unfold Env.kindOf; rw [h]; rfl
  have e3 : env.scope = (envOf sc).scope := h
  unfold swapsWith
  rw [e1, e2, e3]
end DL
/-! DLl: stores of several names; defs by an opaque context. -/
namespace DL
open PySem PySem.Spec PyProof.Rows L2

/-- a, b, c = x, y, z with plain local names: stored from the right -/
theorem ps_par3 {X : Cx} {pos : Pos} {i j l : Nat} {x y z : Str} {a b c : Expr} {ta : TA} {px py pz pt : Pos} {kt k2 pt2} (hc : X.calm = true) (hN : X.N.Nodup) (hi : X.N[i]? = some x) (hj : X.N[j]? = some y) (hl : X.N[l]? = some z)
    (hx : X.env.scope.names.lookup x = some .local) (hy : X.env.scope.names.lookup y = some .local) (hz : X.env.scope.names.lookup z = some .local) (ha : PA X [a, b, c] ta)
    (hw : swappedStores [.Tuple [.Name x px, .Name y py, .Name z pz] kt pt] (.Tuple [a, b, c] k2 pt2) X.env = pure (some [x, y, z]))
    (hs : swapsWithSole [.Tuple [.Name x px, .Name y py, .Name z pz] kt pt] (.Tuple [a, b, c] k2 pt2) pos.line X.env = pure false := by rfl) :
    PS X (.Assign [.Tuple [.Name x px, .Name y py, .Name z pz] kt pt] (.Tuple [a, b, c] k2 pt2) pos) (fun D σ H => ta σ H fun vs H1 => ∃ v w u, vs = [v, w, u] ∧ D.nx (((σ.set l (some u)).set j (some w)).set i (some v)) H1) := by
  refine ⟨fun pins s σ H D I h => ?_⟩
  rw [exec_Assign_arm]
  refine wpAny_bind (wpAny_standAt ?_)
  rw [hs]
  refine wpAny_bind (wpAny_pure ?_)
  rw [if_neg (by decide)]
  refine wpAny_bind (Tuple_ (L2.thn (ha.run _ pins s σ H _ I h) fun us s1 ⟨vs, H1, I1, r1, q1⟩ => ?_))
  obtain ⟨v, w, u, e1, q1⟩ := q1
  subst e1
  obtain ⟨u1, u2, u3, rfl, rv, rw', ru⟩ : ∃ u1 u2 u3, us = [u1, u2, u3] ∧ RelV v u1 ∧ RelV w u2 ∧ RelV u u3 := by
    cases r1 with
    | cons p q =>
      cases q with
      | cons p' q' =>
        cases q' with
        | cons p'' q'' =>
          cases q''
          exact ⟨_, _, _, rfl, p, p', p''⟩
  refine wpAny_newObj_type ?_ (by show 3 ≤ sizeLine; decide)
  have I2 : Inv X pins σ H1 { s1 with heap := s1.heap.push { cls := .type "tuple", data := .seq [u1, u2, u3].toArray } } := I1.kept (t' := s1.toks) fun b o e => Heap.get?_push_of_some _ e
  rw [hw]
  refine wpAny_bind (wpAny_pure ?_)
  show wpAny (model X.prog X.w) X.A (do rule "assign.swapped-stores"; let items ← unpackItems (.ref s1.heap.objs.size) 3 none; assignInOrder [fun v => bindName X.env z v, fun v => bindName X.env y v, fun v => bindName X.env x v] items.reverse; pure Flow.next) _ _ _
  refine wpAny_bind (wpAny_rule (wpAny_bind (unpackItems_tuple (items := #[u1, u2, u3]) (I.ok.hd hc) (IsTup.new s1.heap _) fun h' hx' => ?_)))
  have I3 := I2.kept (h' := h') (t' := s1.toks) fun b o e => hx' b o (Nat.ne_of_lt (Heap.lt_size e)) e
  show wpAny _ _ (assignInOrder [fun v => bindName X.env z v, fun v => bindName X.env y v, fun v => bindName X.env x v] [u3, u2, u1] >>= fun _ => pure Flow.next) _ _ _
  refine wpAny_bind (assignInOrder_cons (wpAny_bindName (store_ok I3 hN hl (.inl hz) ru (fun s2 I4 => ?_) (.inr hz))))
  refine assignInOrder_cons (wpAny_bindName (store_ok I4 hN hj (.inl hy) rw' (fun s3 I5 => ?_) (.inr hy)))
  refine assignInOrder_cons (wpAny_bindName (store_ok I5 hN hi (.inl hx) rv (fun s4 I6 => assignInOrder_nil (wpAny_pure ?_)) (.inr hx)))
  exact ⟨_, H1, I6, q1⟩

section
variable {X : Cx} {e a b c : Expr} {env : DEnv} {C : CS} {k : KD} {pos : Pos} {E : DEnds} {N : List Str} {dsc : Scope}
theorem only_loc {y : Str} (D0 : Dfc X N dsc) (h : onlyC dsc [y] = true) : X.env.scope.names.lookup y = some .local := by
  unfold onlyC at h
  simp only [List.all_cons, List.all_nil, Bool.and_true] at h
  rw [D0.sc]; exact nk_eq h
theorem x_par2 {x y : Str} {px py pt : Pos} {kt k2 : Nat} {pt2 : Pos} {f : D → DEnv} {g : D → D → DEnv} (D0 : Dfc X N dsc) (h1 : Put N y env f) (h2 : ∀ v, Put N x (f v) fun u => g u v) (hx : onlyC dsc [x] = true) (hy : onlyC dsc [y] = true) (hne : (x == y) = false)
    (hw : swappedStores [.Tuple [.Name x px, .Name y py] kt pt] (.Tuple [a, b] k2 pt2) (envOf dsc) = pure (some [x, y]))
    (h : WA X [a, b] env C fun ds C1 => ∃ u v, ds = [u, v] ∧ E.nx (g u v) C1)
    (hs : swapsWithSole [.Tuple [.Name x px, .Name y py] kt pt] (.Tuple [a, b] k2 pt2) pos.line X.env = pure false := by rfl) :
    WS X (.Assign [.Tuple [.Name x px, .Name y py] kt pt] (.Tuple [a, b] k2 pt2) pos) env C E := by
  obtain ⟨j, n1, s1, _⟩ := h1.set
  have ne : x ≠ y := fun e => by rw [e] at hne; simp at hne
  have hi : ∃ i : Nat, N[i]? = some x ∧ ∀ u v, (env.set j (some v)).set i (some u) = g u v := by
    obtain ⟨i, n2, _, _⟩ := (h2 .non).set
    refine ⟨i, n2, fun u v => ?_⟩
    obtain ⟨i', n3, s3, _⟩ := (h2 v).set
    have nd : N.Nodup := by rw [← D0.n]; exact D0.nd
    have : i = i' := nodup_ix nd n2 n3
    subst this
    rw [s1, s3]
  obtain ⟨i, n2, s2⟩ := hi
  have hij : i ≠ j := fun e => ne (by rw [e, n1] at n2; exact (Option.some.inj n2).symm)
  refine ws_par (i := i) (j := j) D0.calm D0.nd (by rw [D0.n]; exact n2) (by rw [D0.n]; exact n1) hij (only_loc D0 hx) (only_loc D0 hy) (h.imp fun ds C' z => ?_) (by rw [sst_env D0.sc]; exact hw) hs
  obtain ⟨u, v, e1, z⟩ := z
  exact ⟨u, v, e1, by rw [List.set_comm _ _ hij, s2]; exact z⟩
theorem x_par3 {x y z : Str} {px py pz pt : Pos} {kt k2 : Nat} {pt2 : Pos} {f : D → DEnv} {g : D → D → DEnv} {g3 : D → D → D → DEnv} (D0 : Dfc X N dsc) (h1 : Put N z env f) (h2 : ∀ v, Put N y (f v) fun u => g u v) (h3 : ∀ u v, Put N x (g u v) fun t => g3 t u v)
    (hx : onlyC dsc [x] = true) (hy : onlyC dsc [y] = true) (hz : onlyC dsc [z] = true)
    (hw : swappedStores [.Tuple [.Name x px, .Name y py, .Name z pz] kt pt] (.Tuple [a, b, c] k2 pt2) (envOf dsc) = pure (some [x, y, z]))
    (h : WA X [a, b, c] env C fun ds C1 => ∃ t u v, ds = [t, u, v] ∧ E.nx (g3 t u v) C1)
    (hs : swapsWithSole [.Tuple [.Name x px, .Name y py, .Name z pz] kt pt] (.Tuple [a, b, c] k2 pt2) pos.line X.env = pure false := by rfl) :
    WS X (.Assign [.Tuple [.Name x px, .Name y py, .Name z pz] kt pt] (.Tuple [a, b, c] k2 pt2) pos) env C E := by
  have nd : N.Nodup := by rw [← D0.n]; exact D0.nd
  obtain ⟨l, n1, s1, _⟩ := h1.set
  obtain ⟨j, n2, _, _⟩ := (h2 .non).set
  obtain ⟨i, n3, _, _⟩ := (h3 .non .non).set
  have all : ∀ t u v, ((env.set l (some v)).set j (some u)).set i (some t) = g3 t u v := fun t u v => by
    obtain ⟨j', m2, r2, _⟩ := (h2 v).set
    obtain ⟨i', m3, r3, _⟩ := (h3 u v).set
    have e1 : j = j' := nodup_ix nd n2 m2
    have e2 : i = i' := nodup_ix nd n3 m3
    subst e1; subst e2
    rw [s1, r2, r3]
  refine .of (ps_par3 (i := i) (j := j) (l := l) D0.calm D0.nd (by rw [D0.n]; exact n3) (by rw [D0.n]; exact n2) (by rw [D0.n]; exact n1) (only_loc D0 hx) (only_loc D0 hy) (only_loc D0 hz) pa_tAr (by rw [sst_env D0.sc]; exact hw) hs) fun G σ H D w er q => h G σ H _ w er fun vs G1 C1 H1 ds f1 w1 r1 zz => ?_
  obtain ⟨t, u, v, rfl, zz⟩ := zz
  cases r1 with
  | @cons t' _ _ _ r1 r2 =>
    cases r2 with
    | @cons u' _ _ _ r2 r3 =>
      cases r3 with
      | @cons v' _ _ _ r3 r4 =>
        cases r4
        exact ⟨t', u', v', rfl, q.nx G1 C1 H1 _ _ f1 w1 ((((er.mono f1.exG).set l r3).set j r2).set i r1) (by rw [all]; exact zz)⟩
end

/-! ### defs by an opaque context -/
section
variable {P : Program} {w : World} {K : PySem.W.Frag} {mg : Str → Option Value} {base : Heap}
structure Bdy (P : Program) (w : World) (K : PySem.W.Frag) (mg : Str → Option Value) (base : Heap) (n : Nat) (N M Ds : List Str) (dsc : Scope) (X : Cx) : Prop where
  x : Ctx P w K mg base n X
  b : Nms X N M
  s : Sts X N M
  g : Gls X Ds
  d : Dfc X N dsc
  nox : Nox X
theorem fnX {x qual : Str} {st : Stmt} {f : Addr} {fd : FuncData} {N M Ds ps : List Str} {n : Nat} {S : DSp} (F : Fun K x qual st f fd) (sc : FnScope N ps (defScope st)) (hv : visC (defScope st) M = true) (hlc : locC (defScope st) M = true) (hg : glC (defScope st) Ds = true)
    (hl : ∀ ds C k, S ds C k → ds.length = ps.length)
    (hb : ∀ (X : Cx), Bdy P w K mg base n N M Ds (defScope st) X → ∀ (ds : List D) (C : CS) (k : KD), S ds C k → WSs X (defBody st) (startD N ds) C { nx := fun _ C' => k .non C', rt := k }) : FnG P w K mg base CX0 (n + 1) f fd ps (toSp K S) :=
  fnD F sc hl fun cdv A outer s H E ds C k hgd hr h => hb _ ⟨⟨rfl, rfl, rfl, rfl, rfl, hr, hgd, rfl⟩, nms_of rfl (sc := defScope st) rfl sc.nd hv, sts_of rfl (sc := defScope st) rfl sc.nd hlc (fun _ => rfl), gls_of (sc := defScope st) rfl hg, ⟨rfl, sc.nd, rfl, rfl⟩, ⟨rfl⟩⟩ ds C k h
end
end DL
namespace DL
open PySem L2
theorem wo_n {X : Cx} {env : DEnv} {C : CS} {k : Option Int → CS → Prop} (h : k none C) : WO X none env C k := h
theorem wo_s {X : Cx} {e : Expr} {env : DEnv} {C : CS} {k : Option Int → CS → Prop} (h : WE X e env C fun d C1 => ∃ i, d = .int i ∧ k (some i) C1) : WO X (some e) env C k := h
theorem ex_2 {a b : D} {A : D → D → Prop} (h : A a b) : ∃ u v, [a, b] = [u, v] ∧ A u v := ⟨a, b, rfl, h⟩
theorem ex_3 {a b c : D} {A : D → D → D → Prop} (h : A a b c) : ∃ t u v, [a, b, c] = [t, u, v] ∧ A t u v := ⟨a, b, c, rfl, h⟩
end DL
/-! DLm: a test that stores; data that is fit for ==. -/
namespace DL
open PySem PySem.Spec PyProof.Rows L2
section
variable {X : Cx} {e a b c : Expr} {env : DEnv} {C : CS} {k : KD} {pos p1 p2 py pc : Pos} {E : DEnds} {N M : List Str} {s1 s2 : List Stmt}
/-- if (y := e) op b: .. -/
theorem x_ifW {y : Str} {op : CmpOp} {r : R2} {p : OpD} {f : D → DEnv} (B : Sts X N M) (hm' : Mem y M) (hP : Put N y env f) (ho : OpR X (compareOp op) r) (hr : R2D X.K r p)
    (h : WE X e env C fun d C1 => WE X b (f d) C1 fun z C2 => p d z C2 fun t' C3 => ∃ t, t' = .bl t ∧ (t = true → WSs X s1 (f d) C3 E) ∧ (t = false → WSs X s2 (f d) C3 E)) (hm : behindInMarks op b = false) :
    WS X (.If (.Compare (.NamedExpr (.Name y py) e p1) [op] [b] pc) s1 s2 pos) env C E := by
  obtain ⟨i, h1, h2, _⟩ := hP.set
  refine .of (ps_ifW (ptw_cmp ho (pew_named (i := i) B.nd (by rw [B.n]; exact h1) (B.loc y hm'.mem) (pew_of pe_tS) (B.fn y hm'.mem)) pe_tS hm) pss_tXs pss_tXs) fun G σ H D w er q => ?_
  refine h G σ H _ w er fun v G1 C1 H1 d f1 w1 r1 z => ?_
  have er1 : EnvR X.K G1 (f d) (σ.set i (some v)) := by rw [← h2]; exact (er.mono f1.exG).set i r1
  refine z G1 _ H1 _ w1 er1 fun u G2 C2 H2 y2 f2 w2 r2 z2 => ?_
  refine hr v u d y2 G2 C2 H2 _ _ w2 (r1.mono f2.exG) r2 z2 fun t' G3 C3 H3 d3 f3 w3 r3 z3 => ?_
  obtain ⟨t, rfl, z3⟩ := z3
  cases r3
  have F := (f1.trans f2).trans f3
  refine ⟨t, rfl, ?_⟩
  cases t with
  | true => exact iteT (z3.1 rfl G3 _ H3 D w3 (er1.mono (f2.trans f3).exG) (q.after F))
  | false => exact iteF (z3.2 rfl G3 _ H3 D w3 (er1.mono (f2.trans f3).exG) (q.after F))
theorem x_ifWge {y : Str} {f : D → DEnv} (B : Sts X N M) (hm' : Mem y M) (hP : Put N y env f)
    (h : WE X e env C fun d C1 => WE X b (f d) C1 fun z C2 => dB2 (fun i j => decide (j ≤ i)) d z C2 fun t' C3 => ∃ t, t' = .bl t ∧ (t = true → WSs X s1 (f d) C3 E) ∧ (t = false → WSs X s2 (f d) C3 E)) :
    WS X (.If (.Compare (.NamedExpr (.Name y py) e p1) [.GtE] [b] pc) s1 s2 pos) env C E := x_ifW B hm' hP op_ge r2_B h (nomark _)
end

/-! ### data fit for == -/
mutual
/-- built of what == compares, at most so deep -/
def D.fit : Nat → D → Bool
  | _, .non | _, .bl _ | _, .int _ => true
  | _, .str x => PyData.strOk x
  | 0, .lst _ | 0, .slst _ | 0, .tup _ => false
  | n + 1, .lst xs => fitL n xs
  | n + 1, .slst xs => fitL n xs
  | n + 1, .tup xs => fitL n xs
  | _, _ => false
def fitL : Nat → List D → Bool
  | _, [] => true
  | n, d :: ds => d.fit n && fitL n ds
end
theorem fitL_all {n : Nat} : ∀ {ds : List D}, fitL n ds = true ↔ ∀ d ∈ ds, d.fit n = true
  | [] => by simp [fitL]
  | d :: ds => by simp [fitL, fitL_all (ds := ds)]
mutual
theorem fit_py : ∀ (d : D) {n : Nat}, d.fit n = true → d.isPy = true
  | .non, _, _ | .bl _, _, _ | .int _, _, _ | .str _, _, _ => rfl
  | .lst xs, 0, h | .slst xs, 0, h | .tup xs, 0, h => by simp [D.fit] at h
  | .lst xs, n + 1, h => by unfold D.isPy; exact fitL_py xs (n := n) (by simpa [D.fit] using h)
  | .slst xs, n + 1, h => by unfold D.isPy; exact fitL_py xs (n := n) (by simpa [D.fit] using h)
  | .tup xs, n + 1, h => by unfold D.isPy; exact fitL_py xs (n := n) (by simpa [D.fit] using h)
  | .obj _ _ _, n, h => by cases n <;> simp [D.fit] at h
  | .own _, n, h => by cases n <;> simp [D.fit] at h
  | .opq _, n, h => by cases n <;> simp [D.fit] at h
theorem fitL_py : ∀ (ds : List D) {n : Nat}, fitL n ds = true → allPy ds = true
  | [], _, _ => rfl
  | d :: ds, n, h => by
    simp only [fitL, Bool.and_eq_true] at h
    simp only [allPy, Bool.and_eq_true]
    exact ⟨fit_py d h.1, fitL_py ds h.2⟩
end
mutual
theorem fit_lay : ∀ (d : D) {n : Nat}, d.fit n = true → d.py.canLay0 = true
  | .non, _, _ | .bl _, _, _ | .int _, _, _ => rfl
  | .str x, n, h => by cases n <;> exact h
  | .lst xs, 0, h | .slst xs, 0, h | .tup xs, 0, h => by simp [D.fit] at h
  | .lst xs, n + 1, h => by simp only [D.py, PyData.canLay0]; exact fitL_lay xs (n := n) (by simpa [D.fit] using h)
  | .slst xs, n + 1, h => by simp only [D.py, PyData.canLay0]; exact fitL_lay xs (n := n) (by simpa [D.fit] using h)
  | .tup xs, n + 1, h => by simp only [D.py, PyData.canLay0]; exact fitL_lay xs (n := n) (by simpa [D.fit] using h)
  | .obj _ _ _, n, h => by cases n <;> simp [D.fit] at h
  | .own _, n, h => by cases n <;> simp [D.fit] at h
  | .opq _, n, h => by cases n <;> simp [D.fit] at h
theorem fitL_lay : ∀ (ds : List D) {n : Nat}, fitL n ds = true → PyData.canLayAll0 (pyL ds) = true
  | [], _, _ => rfl
  | d :: ds, n, h => by
    simp only [fitL, Bool.and_eq_true] at h
    simp only [pyL, PyData.canLayAll0, Bool.and_eq_true]
    exact ⟨fit_lay d h.1, fitL_lay ds h.2⟩
end
mutual
theorem fit_depth : ∀ (d : D) {n : Nat}, d.fit n = true → d.py.depth ≤ n
  | .non, _, _ | .bl _, _, _ | .int _, _, _ | .str _, _, _ => Nat.zero_le _
  | .lst xs, 0, h | .slst xs, 0, h | .tup xs, 0, h => by simp [D.fit] at h
  | .lst xs, n + 1, h => Nat.succ_le_succ (fitL_depth xs (n := n) (by simpa [D.fit] using h))
  | .slst xs, n + 1, h => Nat.succ_le_succ (fitL_depth xs (n := n) (by simpa [D.fit] using h))
  | .tup xs, n + 1, h => Nat.succ_le_succ (fitL_depth xs (n := n) (by simpa [D.fit] using h))
  | .obj _ _ _, n, h => by cases n <;> simp [D.fit] at h
  | .own _, n, h => by cases n <;> simp [D.fit] at h
  | .opq _, n, h => by cases n <;> simp [D.fit] at h
theorem fitL_depth : ∀ (ds : List D) {n : Nat}, fitL n ds = true → PyData.depthAll (pyL ds) ≤ n
  | [], _, _ => Nat.zero_le _
  | d :: ds, n, h => by
    simp only [fitL, Bool.and_eq_true] at h
    exact Nat.max_le.mpr ⟨fit_depth d h.1, fitL_depth ds h.2⟩
end
theorem fit_ok {d : D} {n : Nat} (h : d.fit n = true) (hn : n ≤ 64 := by decide) : d.ok = true := by
  unfold D.ok SeqAt.shaped
  simp only [Bool.and_eq_true, decide_eq_true_eq]
  exact ⟨fit_py d h, fit_lay d h, Nat.le_trans (fit_depth d h) hn⟩
mutual
theorem fit_mono : ∀ (d : D) {n m : Nat}, d.fit n = true → n ≤ m → d.fit m = true
  | .non, _, _, _, _ | .bl _, _, _, _, _ | .int _, _, _, _, _ => by simp [D.fit]
  | .str x, n, m, h, _ => by
    have : PyData.strOk x = true := by cases n <;> exact h
    cases m <;> exact this
  | .lst xs, 0, _, h, _ | .slst xs, 0, _, h, _ | .tup xs, 0, _, h, _ => by simp [D.fit] at h
  | .lst xs, n + 1, 0, h, l | .slst xs, n + 1, 0, h, l | .tup xs, n + 1, 0, h, l => absurd l (by omega)
  | .lst xs, n + 1, m + 1, h, l => by simp only [D.fit] at h ⊢; exact fitL_mono xs h (by omega)
  | .slst xs, n + 1, m + 1, h, l => by simp only [D.fit] at h ⊢; exact fitL_mono xs h (by omega)
  | .tup xs, n + 1, m + 1, h, l => by simp only [D.fit] at h ⊢; exact fitL_mono xs h (by omega)
  | .obj _ _ _, n, _, h, _ => by cases n <;> simp [D.fit] at h
  | .own _, n, _, h, _ => by cases n <;> simp [D.fit] at h
  | .opq _, n, _, h, _ => by cases n <;> simp [D.fit] at h
theorem fitL_mono : ∀ (ds : List D) {n m : Nat}, fitL n ds = true → n ≤ m → fitL m ds = true
  | [], _, _, _, _ => rfl
  | d :: ds, n, m, h, l => by
    simp only [fitL, Bool.and_eq_true] at h ⊢
    exact ⟨fit_mono d h.1 l, fitL_mono ds h.2 l⟩
end
/-- == of frozen data, of a list's cell -/
def dataOf (C : CS) : D → D
  | .own a => match C a with
    | some (.lst ds) => .lst ds
    | _ => .own a
  | d => d
theorem eq_fit {C : CS} {k : KD} {x y : D} {n m : Nat} (hx : x.fit n = true) (hy : y.fit m = true) (q : k (.bl (PyData.eqv x.py y.py)) C) (hn : n ≤ 64 := by decide) (hm : m ≤ 64 := by decide) : dEq false x y C k := eq_ok (fit_ok hx hn) (fit_ok hy hm) q
theorem ne_fit {C : CS} {k : KD} {x y : D} {n m : Nat} (hx : x.fit n = true) (hy : y.fit m = true) (q : k (.bl (!PyData.eqv x.py y.py)) C) (hn : n ≤ 64 := by decide) (hm : m ≤ 64 := by decide) : dEq true x y C k := ne_ok (fit_ok hx hn) (fit_ok hy hm) q
end DL
namespace DL
open PySem L2
theorem wt_bo {X : Cx} {op : PySem.BoolOp} {es : List Expr} {env : DEnv} {C : CS} {kb : Bool → CS → Prop} {pos : Pos} (h : WW X (.BoolOp op es pos) env C kb) : WT X (.BoolOp op es pos) env C kb := wt_ww h
end DL
namespace DL
open PySem L2
theorem isTup_eq {x : D} (h : x.isTup = true) : ∃ xs, x = .tup xs := by cases x <;> first | exact ⟨_, rfl⟩ | (simp [D.isTup] at h; done)
theorem isStr_eq {x : D} (h : x.isStr = true) : ∃ s, x = .str s := by cases x <;> first | exact ⟨_, rfl⟩ | (simp [D.isStr] at h; done)
theorem two_of {α : Type} {xs : List α} (h : xs.length = 2) : ∃ a b, xs = [a, b] := by
  match xs, h with
  | [a, b], _ => exact ⟨a, b, rfl⟩
theorem fit_tup {xs : List D} {n : Nat} (h : (D.tup xs).fit n = true) : ∃ m, n = m + 1 ∧ ∀ d ∈ xs, d.fit m = true := by
  cases n with
  | zero => simp [D.fit] at h
  | succ m => exact ⟨m, rfl, fitL_all.mp (by simpa [D.fit] using h)⟩
theorem fit_lst {xs : List D} {n : Nat} (h : (D.lst xs).fit n = true) : ∃ m, n = m + 1 ∧ ∀ d ∈ xs, d.fit m = true := by
  cases n with
  | zero => simp [D.fit] at h
  | succ m => exact ⟨m, rfl, fitL_all.mp (by simpa [D.fit] using h)⟩
theorem len_ne2 {n : Nat} (h : (!((n : Int) == 2)) = false) : n = 2 := by
  have : ((n : Int) == 2) = true := by simpa using h
  have := beq_iff_eq.mp this
  omega
end DL
namespace DL
open PySem L2
theorem sIx_nat' (n d k : Nat) : HT.sIx n d (some (k : Int)) = min k n := HT.sIx_nat n d k
theorem cut_nat (xs : List D) (a b : Nat) : cutD xs (some (a : Int)) (some (b : Int)) = (xs.drop a).take (b - a) := by
  unfold cutD
  rw [sIx_nat', sIx_nat']
  by_cases h : a ≤ xs.length
  · rw [Nat.min_eq_left h]
    by_cases h2 : b ≤ xs.length
    · rw [Nat.min_eq_left h2]
    · have h3 : b > xs.length := by omega
      have e1 : (xs.drop a).take (xs.length - a) = xs.drop a := List.take_of_length_le (by simp)
      have e2 : (xs.drop a).take (b - a) = xs.drop a := List.take_of_length_le (by rw [List.length_drop]; omega)
      rw [Nat.min_eq_right (Nat.le_of_lt h3), e1, e2]
  · have h3 : xs.length ≤ a := by omega
    rw [Nat.min_eq_right h3, List.drop_of_length_le (Nat.le_refl _), List.drop_of_length_le h3]
    simp
def eqL (xs ys : List D) : Bool := PyData.eqvAll (pyL xs) (pyL ys)
theorem pyL_length : ∀ xs : List D, (pyL xs).length = xs.length
  | [] => rfl
  | _ :: xs => by simp [pyL, pyL_length xs]
theorem eqvAll_length : ∀ (xs ys : List PyData), PyData.eqvAll xs ys = true → xs.length = ys.length
  | [], [], _ => rfl
  | x :: xs, y :: ys, h => by
    simp only [PyData.eqvAll, Bool.and_eq_true] at h
    simp [eqvAll_length xs ys h.2]
  | [], _ :: _, h => by simp [PyData.eqvAll] at h
  | _ :: _, [], h => by simp [PyData.eqvAll] at h
theorem eqL_length {xs ys : List D} (h : eqL xs ys = true) : xs.length = ys.length := by
  have := eqvAll_length _ _ h
  rwa [pyL_length, pyL_length] at this
theorem fit_cut {xs : List D} {n : Nat} {lo hi : Option Int} (h : ∀ d ∈ xs, d.fit n = true) : (D.tup (cutD xs lo hi)).fit (n + 1) = true := by
  simp only [D.fit]
  exact fitL_all.mpr fun d hd => h d (List.mem_of_mem_drop (List.mem_of_mem_take hd))
theorem fit_cutL {xs : List D} {n : Nat} {lo hi : Option Int} (h : ∀ d ∈ xs, d.fit n = true) : (D.lst (cutD xs lo hi)).fit (n + 1) = true := by
  simp only [D.fit]
  exact fitL_all.mpr fun d hd => h d (List.mem_of_mem_drop (List.mem_of_mem_take hd))
theorem fit_tupI {xs : List D} {n : Nat} (h : ∀ d ∈ xs, d.fit n = true) : (D.tup xs).fit (n + 1) = true := by simp only [D.fit]; exact fitL_all.mpr h
theorem fit_lstI {xs : List D} {n : Nat} (h : ∀ d ∈ xs, d.fit n = true) : (D.lst xs).fit (n + 1) = true := by simp only [D.fit]; exact fitL_all.mpr h
end DL
namespace DL
open PySem L2
theorem any_map {C : CS} {k : KD} {xs : List D} {f : D → Bool} (q : k (.bl (xs.any f)) C) : dAny [.lst (xs.map fun d => .bl (f d))] C k :=
  ⟨_, xs.map f, rfl, by simp only [seqR, List.map_map]; rfl, by rw [List.any_map]; exact q⟩
theorem all_map {C : CS} {k : KD} {xs : List D} {f : D → Bool} (q : k (.bl (xs.all f)) C) : dAll [.lst (xs.map fun d => .bl (f d))] C k :=
  ⟨_, xs.map f, rfl, by simp only [seqR, List.map_map]; rfl, by rw [List.all_map]; exact q⟩
end DL
namespace DL
open PySem L2
theorem sz_ok {n : Nat} {B : Prop} (h : Nat.ble n 1000 = true) (q : B) : n ≤ sizeLine ∧ B := ⟨Nat.le_trans (Nat.le_of_ble_eq_true h) (by decide), q⟩
theorem sz_as {n : Nat} {B : Prop} (h : n ≤ sizeLine) (q : B) : n ≤ sizeLine ∧ B := ⟨h, q⟩
theorem dec_t {p : Prop} [Decidable p] (h : decide p = true) : p := of_decide_eq_true h
theorem dec_f {p : Prop} [Decidable p] (h : decide p = false) : ¬ p := of_decide_eq_false h
end DL
namespace DL
open PySem PySem.Spec PyProof.Rows L2
section
variable {X : Cx} {e a b o : Expr} {es : List Expr} {env : DEnv} {C : CS} {k : KD} {pos apos cpos : Pos} {kb : Bool → CS → Prop}
theorem we_nil (h : ∀ p, C p = none → k (.own p) (put C p (.lst []))) : WE X (.List [] pos) env C k := we_lst (wa_nil ⟨Nat.zero_le _, h⟩)
abbrev H1 (X : Cx) (o e : Expr) (name : Str) (apos cpos : Pos) : Prop := attributeBase o name X.env (eval o X.env) = eval o X.env
theorem x_append (h : WE X o env C fun x C1 => tyD "list" C1 x ∧ WE X e env C1 fun y C2 => dAppend x [y] C2 k)
    (hbase : attributeBase o "append" X.env (eval o X.env) = eval o X.env := by rfl)
    (hfew : ((backTo cpos (starEach (e :: []) X.env)).all (fun x => !x.1) && (backToKw cpos (keywordEach [] X.env)).all (fun x => x.1.isSome)
      && decide ((e :: []).length + ([] : List Keyword).length + (if ([] : List Keyword).isEmpty then 0 else 1) < 30)) = true := by rfl)
    (hline : (apos.endLine == cpos.line) = true := by rfl) (hs : starEach (e :: []) X.env = (false, eval e X.env) :: starEach [] X.env := by rfl) (hplain : (backTo cpos (starEach [] X.env)).any (·.1) = false := by rfl) :
    WE X (.Call (.Attribute o "append" apos) [e] [] cpos) env C k :=
  we_bm PySem.F.plainAttrs_list PySem.F.slot_list_append PySem.F.type_list_append mt_append rm_append (h.imp fun x C1 z => ⟨z.1, wa_cons (z.2.imp fun y C2 q => wa_nil q) hs⟩) hbase hfew hline hs hplain
theorem app_ok {p : Addr} {xs : List D} {y : D} (hc : C p = some (.lst xs)) (hl : xs.length < sizeLine) (q : k .non (put C p (.lst (xs ++ [y])))) : dAppend (.own p) [y] C k := ⟨p, xs, y, rfl, rfl, hc, hl, q⟩
theorem app_put {p : Addr} {xs : List D} {y : D} (hl : xs.length < sizeLine) (q : k .non (put C p (.lst (xs ++ [y])))) : dAppend (.own p) [y] (put C p (.lst xs)) k := ⟨p, xs, y, rfl, rfl, put_same, hl, by rw [put_put]; exact q⟩
theorem ty_own {p : Addr} {xs : List D} {B : Prop} (hc : C p = some (.lst xs)) (q : B) : tyD "list" C (.own p) ∧ B := ⟨.inl ⟨rfl, xs, hc⟩, q⟩
theorem ty_put {p : Addr} {xs : List D} {B : Prop} (q : B) : tyD "list" (put C p (.lst xs)) (.own p) ∧ B := ⟨.inl ⟨rfl, xs, put_same⟩, q⟩
theorem tuple_A {x : D} {rs : List D} (h : seqA C x = some rs) (q : k (.tup rs) C) : dTuple [x] C k := by
  refine ⟨x, rfl, ?_⟩
  cases x <;> simp only [seqA, Option.some.injEq] at h ⊢ <;> first | (subst h; exact q) | exact ⟨rs, h, q⟩
end
end DL
namespace DL
open PySem PySem.Spec PyProof.Rows L2
theorem x_gtup {P : Program} {w : World} {K : PySem.W.Frag} {mg : Str → Option Value} {base : Heap} {m : Nat} {X : Cx} {env : DEnv} {C : CS} {pos : Pos} {ts : List Expr} {n : Nat} {ds : List D} {kE : DEnv → CS → Prop} (hx : Ctx P w K mg base m X) (hl : ds.length = (assignEach ts X.env).length) (h : WGs X ts ds env C kE) (hst : (assignEach ts X.env).findIdx? (·.1) = none := by rfl) : WG X (.Tuple ts n pos) (.tup ds) env C kE := wg_tup hx.calm hl h hst
end DL
namespace DL
open PySem L2
theorem ix_p {C : CS} {k : KD} {p : Addr} {xs : List D} {i : Int} {d : D} (h : atI xs i = some d) (q : k d (put C p (.lst xs))) : dIx (.own p) (.int i) (put C p (.lst xs)) k := ix_o put_same h q
theorem setL_p {C : CS} {p : Addr} {xs : List D} {n : Int} {j : Nat} {d : D} {env : DEnv} {kE : DEnv → CS → Prop} (hj : ixN xs.length n = some j) (q : kE env (put C p (.lst (xs.set j d)))) : ∃ p' n' ys j', D.own p = .own p' ∧ D.int n = .int n' ∧ (put C p (.lst xs)) p' = some (.lst ys) ∧ ixN ys.length n' = some j' ∧ kE env (put (put C p (.lst xs)) p' (.lst (ys.set j' d))) :=
  ⟨p, n, xs, j, rfl, rfl, put_same, hj, by rw [put_put]; exact q⟩
theorem setL_o {C : CS} {p : Addr} {xs : List D} {n : Int} {j : Nat} {d : D} {env : DEnv} {kE : DEnv → CS → Prop} (hc : C p = some (.lst xs)) (hj : ixN xs.length n = some j) (q : kE env (put C p (.lst (xs.set j d)))) : ∃ p' n' ys j', D.own p = .own p' ∧ D.int n = .int n' ∧ C p' = some (.lst ys) ∧ ixN ys.length n' = some j' ∧ kE env (put C p' (.lst (ys.set j' d))) :=
  ⟨p, n, xs, j, rfl, rfl, hc, hj, q⟩
theorem len_put {C : CS} {k : KD} {p : Addr} {xs : List D} (q : k (.int (xs.length : Nat)) (put C p (.lst xs))) : dLen [.own p] (put C p (.lst xs)) k := len_own put_same q
end DL
namespace DL
open PySem PySem.Spec PyProof.Rows L2
theorem ws_asgD {X : Cx} {N : List Str} {dsc : Scope} {e tg : Expr} {env : DEnv} {C : CS} {pos : Pos} {E : DEnds} (D0 : Dfc X N dsc) (h : WE X e env C fun d C1 => WG X tg d env C1 E.nx) (hw : swappedStores [tg] e (envOf dsc) = pure none) (hs : swapsWithSole [tg] e pos.line X.env = pure false := by rfl)
    (h1 : (assignEach [tg] X.env).map (·.2) = [assign tg X.env] := by rfl) : WS X (.Assign [tg] e pos) env C E := ws_asg h hs (by rw [sst_env D0.sc]; exact hw) h1
theorem put_self {C : CS} {a : Addr} {c : Cell} (h : C a = some c) : put C a c = C := by
  funext b; unfold put; split
  · rename_i e; rw [e, h]
  · rfl
theorem put_comm {C : CS} {a b : Addr} {c d : Cell} (h : a ≠ b) : put (put C a c) b d = put (put C b d) a c := by
  funext x; unfold put
  by_cases e : x = a
  · subst e; rw [if_neg h, if_pos rfl]
    simp
  · by_cases e2 : x = b
    · subst e2; simp [e]
    · simp [e, e2]
end DL
/-! DLn: methods by their names; texts. -/
namespace DL
open PySem PySem.Spec PyProof.Rows L2
section
variable {X : Cx} {e a b o : Expr} {es : List Expr} {env : DEnv} {C : CS} {k : KD} {pos apos cpos : Pos} {kb : Bool → CS → Prop}
theorem x_join (h : WE X o env C fun x C1 => tyD "str" C1 x ∧ WA X (e :: es) env C1 fun ds C2 => dJoin x ds C2 k)
    (hbase : attributeBase o "join" X.env (eval o X.env) = eval o X.env := by rfl)
    (hfew : ((backTo cpos (starEach (e :: es) X.env)).all (fun x => !x.1) && (backToKw cpos (keywordEach [] X.env)).all (fun x => x.1.isSome)
      && decide ((e :: es).length + ([] : List Keyword).length + (if ([] : List Keyword).isEmpty then 0 else 1) < 30)) = true := by rfl)
    (hline : (apos.endLine == cpos.line) = true := by rfl) (hs : starEach (e :: es) X.env = (false, eval e X.env) :: starEach es X.env := by rfl) (hplain : (backTo cpos (starEach es X.env)).any (·.1) = false := by rfl) :
    WE X (.Call (.Attribute o "join" apos) (e :: es) [] cpos) env C k :=
  we_bm PySem.F.plainAttrs_str PySem.F.slot_str_join PySem.F.type_str_join mt_join rm_join h hbase hfew hline hs hplain
theorem x_sindex (h : WE X o env C fun x C1 => tyD "str" C1 x ∧ WA X (e :: es) env C1 fun ds C2 => dSIndex x ds C2 k)
    (hbase : attributeBase o "index" X.env (eval o X.env) = eval o X.env := by rfl)
    (hfew : ((backTo cpos (starEach (e :: es) X.env)).all (fun x => !x.1) && (backToKw cpos (keywordEach [] X.env)).all (fun x => x.1.isSome)
      && decide ((e :: es).length + ([] : List Keyword).length + (if ([] : List Keyword).isEmpty then 0 else 1) < 30)) = true := by rfl)
    (hline : (apos.endLine == cpos.line) = true := by rfl) (hs : starEach (e :: es) X.env = (false, eval e X.env) :: starEach es X.env := by rfl) (hplain : (backTo cpos (starEach es X.env)).any (·.1) = false := by rfl) :
    WE X (.Call (.Attribute o "index" apos) (e :: es) [] cpos) env C k :=
  we_bm PySem.F.plainAttrs_str PySem.F.slot_str_index PySem.F.type_str_index mt_sindex rm_sindex h hbase hfew hline hs hplain
theorem x_insert (h : WE X o env C fun x C1 => tyD "list" C1 x ∧ WA X (e :: es) env C1 fun ds C2 => dInsert x ds C2 k)
    (hbase : attributeBase o "insert" X.env (eval o X.env) = eval o X.env := by rfl)
    (hfew : ((backTo cpos (starEach (e :: es) X.env)).all (fun x => !x.1) && (backToKw cpos (keywordEach [] X.env)).all (fun x => x.1.isSome)
      && decide ((e :: es).length + ([] : List Keyword).length + (if ([] : List Keyword).isEmpty then 0 else 1) < 30)) = true := by rfl)
    (hline : (apos.endLine == cpos.line) = true := by rfl) (hs : starEach (e :: es) X.env = (false, eval e X.env) :: starEach es X.env := by rfl) (hplain : (backTo cpos (starEach es X.env)).any (·.1) = false := by rfl) :
    WE X (.Call (.Attribute o "insert" apos) (e :: es) [] cpos) env C k :=
  we_bm PySem.F.plainAttrs_list PySem.F.slot_list_insert PySem.F.type_list_insert mt_insert rm_insert h hbase hfew hline hs hplain
theorem x_popAt (h : WE X o env C fun x C1 => tyD "list" C1 x ∧ WA X (e :: es) env C1 fun ds C2 => dPopAt x ds C2 k)
    (hbase : attributeBase o "pop" X.env (eval o X.env) = eval o X.env := by rfl)
    (hfew : ((backTo cpos (starEach (e :: es) X.env)).all (fun x => !x.1) && (backToKw cpos (keywordEach [] X.env)).all (fun x => x.1.isSome)
      && decide ((e :: es).length + ([] : List Keyword).length + (if ([] : List Keyword).isEmpty then 0 else 1) < 30)) = true := by rfl)
    (hline : (apos.endLine == cpos.line) = true := by rfl) (hs : starEach (e :: es) X.env = (false, eval e X.env) :: starEach es X.env := by rfl) (hplain : (backTo cpos (starEach es X.env)).any (·.1) = false := by rfl) :
    WE X (.Call (.Attribute o "pop" apos) (e :: es) [] cpos) env C k :=
  we_bm PySem.F.plainAttrs_list PySem.F.slot_list_pop PySem.F.type_list_pop mt_popAt rm_popAt h hbase hfew hline hs hplain
end
theorem x_ixL {X : Cx} {es : List Expr} {b : Expr} {env : DEnv} {C : CS} {k : KD} {pos p1 : Pos} (h : WA X es env C fun ds C1 => ds.length ≤ sizeLine ∧ WE X b env C1 fun y C2 => dIx (.lst ds) y C2 k) (hs : PlainIx b := by intro _ _; rfl) : WE X (.Subscript (.List es p1) b pos) env C k := we_ix (we_lstF h) hs
theorem ty_str {C : CS} {z : Str} {B : Prop} (q : B) : tyD "str" C (.str z) ∧ B := ⟨rfl, q⟩
/-- a text of signs -/
def sg (c : Nat) : Str := ⟨#[c]⟩
theorem joinL_sg : ∀ cs : List Nat, TL.joinL [] (cs.map fun c => [c]) = cs
  | [] => rfl
  | [c] => rfl
  | c :: d :: r => by
    show [c] ++ ([] ++ TL.joinL [] ((d :: r).map fun c => [c])) = _
    rw [joinL_sg (d :: r)]
    rfl
theorem join_sg (cs : List Nat) : (Txt.join "" (cs.map sg)).cps.toList = cs := by
  refine (congrArg TL.tl (TL.join_eq "" (cs.map sg))).trans ?_
  rw [TL.tl_join, List.map_map]
  have e : TL.tl ("" : Str) = [] := by decide +kernel
  rw [e]
  exact joinL_sg cs
theorem join_ok {C : CS} {k : KD} {x : D} {cs : List Nat} (hs : seqR C x = some (cs.map fun c => D.str (sg c))) (hl : cs.length ≤ 1000000) (q : ∀ z : Str, z.cps.toList = cs → k (.str z) C) : dJoin (.str "") [x] C k := by
  refine ⟨"", x, cs.map sg, rfl, rfl, by rw [hs, List.map_map]; rfl, ?_, q _ (join_sg cs)⟩
  have e : ("" : Str).length = 0 := by decide +kernel
  rw [e, Nat.mul_zero, Nat.add_zero, List.map_map]
  have : ∀ cs : List Nat, (cs.map ((fun x : Str => x.length) ∘ sg)).sum = cs.length := by
    intro cs
    induction cs with
    | nil => rfl
    | cons c cs ih => rw [List.map_cons, List.sum_cons, ih, List.length_cons]; show 1 + _ = _; omega
  rw [this]
  omega
theorem str_ext {x y : Str} (h : x.cps.toList = y.cps.toList) : x = y := by
  cases x with
  | mk a => cases y with
    | mk b => exact congrArg Str.mk (Array.toList_inj.mp h)
theorem str_app (x y : Str) : (x ++ y).cps.toList = x.cps.toList ++ y.cps.toList := by
  show (x.cps ++ y.cps).toList = _
  rw [Array.toList_append]
theorem str_len (x : Str) : x.length = x.cps.toList.length := by
  show x.cps.size = _
  rw [Array.length_toList]
/-- cells forgotten -/
def Sub (C2 C1 : CS) : Prop := ∀ a c, C2 a = some c → C1 a = some c
theorem Sub.refl (C : CS) : Sub C C := fun _ _ h => h
theorem Sub.trans {C1 C2 C3 : CS} (a : Sub C1 C2) (b : Sub C2 C3) : Sub C1 C3 := fun x c h => b x c (a x c h)
theorem Sub.put {C C1 : CS} (h : Sub C C1) (a : Addr) (c : Cell) : Sub (put C a c) (put C1 a c) := fun x d e => by
  by_cases q : x = a
  · subst q; rw [put_same] at e ⊢; exact e
  · rw [put_ne q] at e ⊢; exact h x d e
theorem Sub.new {C C1 : CS} {a : Addr} {c : Cell} (h : Sub C C1) (ha : C a = none) : Sub C (DL.put C1 a c) := fun x d e => by
  have : x ≠ a := fun q => by subst q; rw [ha] at e; cases e
  rw [put_ne this]; exact h x d e
theorem fnS {P : Program} {w : World} {K : PySem.W.Frag} {mg : Str → Option Value} {base : Heap} {x qual : Str} {st : Stmt} {f : Addr} {fd : FuncData} {N M Ds ps : List Str} {n : Nat} {S : DSp} (F : Fun K x qual st f fd) (sc : FnScope N ps (defScope st)) (hv : visC (defScope st) M = true) (hlc : locC (defScope st) M = true) (hg : glC (defScope st) Ds = true)
    (hl : ∀ ds C k, S ds C k → ds.length = ps.length)
    (hb : ∀ (X : Cx), Bdy P w K mg base n N M Ds (defScope st) X → ∀ (ds : List D) (C : CS) (k : KD), S ds C k → WSs X (defBody st) (startD N ds) C { nx := fun _ C1 => ∃ C2, Sub C2 C1 ∧ k .non C2, rt := fun d C1 => ∃ C2, Sub C2 C1 ∧ k d C2 }) : FnG P w K mg base CX0 (n + 1) f fd ps (toSp K S) :=
  fnX F sc hv hlc hg hl fun X hB ds C k hS G σ H D0 wl er q => hb X hB ds C k hS G σ H D0 wl er
    ⟨fun G' C' H' σ' env f' w' er' ⟨C2, hs, z⟩ => let ⟨w2, f2⟩ := w'.sub hs; q.nx G' C2 H' σ' env (f'.trans f2) w2 er' z,
     fun v G' C' H' d f' w' r ⟨C2, hs, z⟩ => let ⟨w2, f2⟩ := w'.sub hs; q.rt v G' C2 H' d (f'.trans f2) w2 r z, fun G' C' H' σ' env f' w' er' z => z.elim, fun G' C' H' σ' env f' w' er' z => z.elim⟩
theorem pyL_strs : ∀ zs : List Str, pyL (zs.map D.str) = zs.map PyData.str
  | [] => rfl
  | z :: zs => by rw [List.map_cons, pyL, pyL_strs zs]; rfl
theorem allPy_strs : ∀ zs : List Str, allPy (zs.map D.str) = true
  | [] => rfl
  | z :: zs => by rw [List.map_cons, allPy, allPy_strs zs]; rfl
theorem strs_lay : ∀ zs : List Str, (∀ y ∈ zs, PyData.strOk y = true) → PyData.canLayAll0 (zs.map PyData.str) = true ∧ PyData.depthAll (zs.map PyData.str) = 0
  | [], _ => ⟨rfl, rfl⟩
  | z :: zs, h => by
    obtain ⟨h1, h2⟩ := strs_lay zs fun y hy => h y (List.mem_cons_of_mem _ hy)
    refine ⟨?_, ?_⟩
    · rw [List.map_cons, PyData.canLayAll0, h1, Bool.and_true]
      exact h z List.mem_cons_self
    · rw [List.map_cons, PyData.depthAll, h2]; rfl
theorem any_strs (z : Str) : ∀ zs : List Str, ((zs.map PyData.str).any fun w => PyData.eqv w (.str z)) = decide (z ∈ zs)
  | [] => rfl
  | y :: zs => by
    rw [List.map_cons, List.any_cons, any_strs z zs]
    by_cases h : y = z
    · subst h; simp [PyData.eqv]
    · have h' : ¬ z = y := fun e => h e.symm
      simp [PyData.eqv, h, h']
theorem shaped_str {z : Str} (h : PyData.strOk z = true) : SeqAt.shaped (.str z) = true := by
  unfold SeqAt.shaped
  rw [Bool.and_eq_true]
  exact ⟨h, rfl⟩
theorem shaped_strs {zs : List Str} (h : ∀ y ∈ zs, PyData.strOk y = true) : SeqAt.shaped (.list (zs.map PyData.str)) = true := by
  obtain ⟨h1, h2⟩ := strs_lay zs h
  unfold SeqAt.shaped
  rw [Bool.and_eq_true]
  refine ⟨h1, decide_eq_true ?_⟩
  show PyData.depthAll (zs.map PyData.str) + 1 ≤ 64
  omega
/-- a text in a list of texts -/
theorem in_strs {C : CS} {k : KD} {x : D} {zs : List Str} {z : Str} (hx : x.isStr = false) (hc : pyC C x = some (.list (zs.map PyData.str))) (hz : PyData.strOk z = true) (hzs : ∀ y ∈ zs, PyData.strOk y = true) (q : k (.bl (decide (z ∈ zs))) C) : dIn false (.str z) x C k := by
  have : dInL false (.str z) x C k := ⟨.str z, zs.map PyData.str, rfl, hc, shaped_str hz, shaped_strs hzs, by
    show k (.bl ((zs.map PyData.str).any fun w => PyData.eqv w (.str z))) C
    rw [any_strs]; exact q⟩
  cases x <;> first | exact this | (simp [D.isStr] at hx; done) | (simp [pyC, D.py] at hc; done)
theorem nin_strs {C : CS} {k : KD} {x : D} {zs : List Str} {z : Str} (hx : x.isStr = false) (hc : pyC C x = some (.list (zs.map PyData.str))) (hz : PyData.strOk z = true) (hzs : ∀ y ∈ zs, PyData.strOk y = true) (q : k (.bl (!decide (z ∈ zs))) C) : dIn true (.str z) x C k := by
  have : dInL true (.str z) x C k := ⟨.str z, zs.map PyData.str, rfl, hc, shaped_str hz, shaped_strs hzs, by
    show k (.bl (!(zs.map PyData.str).any fun w => PyData.eqv w (.str z))) C
    rw [any_strs]; exact q⟩
  cases x <;> first | exact this | (simp [D.isStr] at hx; done) | (simp [pyC, D.py] at hc; done)
theorem pyC_strs {C : CS} {p : Addr} {zs : List Str} (h : C p = some (.lst (zs.map D.str))) : pyC C (.own p) = some (.list (zs.map PyData.str)) := by
  unfold pyC
  simp only [h]
  rw [if_pos (allPy_strs zs), pyL_strs]
theorem pyF_strs {C : CS} {zs : List Str} : pyC C (.lst (zs.map D.str)) = some (.list (zs.map PyData.str)) := by
  unfold pyC
  simp only [D.isPy, allPy_strs, D.py, pyL_strs, if_true]
theorem nodup_sub {α : Type} [DecidableEq α] : ∀ (xs ys : List α), xs.Nodup → (∀ x ∈ xs, x ∈ ys) → xs.length ≤ ys.length
  | [], _, _, _ => Nat.zero_le _
  | x :: xs, ys, nd, h => by
    have hx := h x List.mem_cons_self
    have nd' := List.nodup_cons.mp nd
    have := nodup_sub xs (ys.erase x) nd'.2 fun y hy => (List.mem_erase_of_ne (fun e => by subst e; exact nd'.1 hy)).mpr (h y (List.mem_cons_of_mem _ hy))
    rw [List.length_erase_of_mem hx] at this
    have hp : 0 < ys.length := List.length_pos_of_mem hx
    rw [List.length_cons]
    omega
end DL
/-! DLo: classes in a tuple; zip; two names in a comprehension. -/
namespace DL
open PySem PySem.Spec PyProof.Rows L2 RZ
/-- isinstance with a tuple of classes, wherever the tuple stands -/
def rIsiU (K : PySem.W.Frag) : List V → Hp → VK → Prop := fun xs H Q => ∃ (x : V) (tp : Addr) (cs : List V) (t : Value) (us : List Value) (b : Bool), xs = [x, .ref tp] ∧ SqT K H tp cs ∧ Paired ClsV cs us ∧ TyX K H x t ∧ PySem.W.kitAny K t us = some b ∧ Q (.bl b) H
theorem call_isiU {X : Cx} : CallR X (.builtin "isinstance") (rIsiU X.K) := by
  rintro pins s σ H xs us Q I r ⟨x, tp, cs, t, ws, b, rfl, hT, hcs, ty, e, q⟩
  obtain ⟨u1, u2, rfl, r1, r2⟩ := vals2 r
  obtain rfl : u2 = Value.ref tp := r2
  obtain ⟨P, hZ, hp, hne⟩ := kit_of I r1 ty
  obtain ⟨its, rv, ⟨⟨oc, od, dt, sl⟩, g1, g2, n, g3⟩, _⟩ := I.tuple hT
  obtain rfl := ClsV.all hcs rv
  simp only at g2 g3
  subst g2
  subst g3
  refine PySem.W.kia_tup hZ I.kIn hp g1 e hne ?_
  intro tk
  exact ⟨V.bl b, H, I.tok tk, rfl, q⟩
def kitL (T : String) : List String → Option Bool
  | [] => some false
  | U :: Us => match kitB T U with
    | some true => some true
    | some false => kitL T Us
    | none => none
theorem kitL_ok {K : PySem.W.Frag} {T : String} {b : Bool} : ∀ {Us : List String}, kitL T Us = some b → PySem.W.kitAny K (.type T) (Us.map fun U => .type U) = some b
  | [], h => by cases h; exact kitAny_nil
  | U :: Us, h => by
    unfold kitL at h
    cases e : kitB T U with
    | none => rw [e] at h; cases h
    | some t =>
      rw [e] at h
      cases t with
      | true => exact kitAny_cons (kit_ty e) (fun z => by cases z) fun _ => by cases h; rfl
      | false => exact kitAny_cons (kit_ty e) (fun _ => kitL_ok h) fun z => by cases z
def tysD (Us : List String) : List D := Us.map fun U => .opq (.ty U)
def dIsiT : List D → CS → KD → Prop := fun ds C k => ∃ x T Us b, ds = [x, .tup (tysD Us)] ∧ tyN C x = some T ∧ kitL T Us = some b ∧ k (.bl b) C
theorem dat_tys {K : PySem.W.Frag} {G : Hp} : ∀ {Us : List String} {vs : List V}, DatAll K G vs (tysD Us) → Paired ClsV vs (Us.map fun U => .type U)
  | [], _, h => by cases h; exact .nil
  | U :: Us, _, h => by
    cases h with
    | cons h1 h2 => cases h1; exact .cons (.ty U) (dat_tys h2)
theorem rl_isiT {K : PySem.W.Frag} : RLD K (rIsiU K) dIsiT := by
  rintro xs ds G C H k Q w rs ⟨x, T, Us, b, rfl, ht, hb, hk⟩ q
  cases rs with
  | cons r1 r2 =>
    cases r2 with
    | cons r2 r3 =>
      cases r3
      obtain ⟨a, vs, rfl, h1, h2⟩ := w.tup r2
      exact ⟨_, a, vs, .type T, _, b, rfl, h1, dat_tys h2, tyN_ok w r1 ht, kitL_ok hb, q _ _ _ _ _ (Fr.refl ..) w (.bl _) hk⟩
section
variable {X : Cx} {a e e2 elt iter : Expr} {ts es : List Expr} {env : DEnv} {C C1 : CS} {k : KD} {pos p p2 : Pos} {n m : Nat} {P : Program} {w : World} {K : PySem.W.Frag} {mg : Str → Option Value} {base : Heap}
theorem x_isiT (hx : Ctx P w K mg base m X) (Z : Zs mg) (hg : Gl X "isinstance") (h : WA X [a, .Tuple ts n p2] env C fun ds C1 => dIsiT ds C1 k) (he : starEach [a, .Tuple ts n p2] X.env = (false, eval a X.env) :: starEach [.Tuple ts n p2] X.env := by rfl)
    (hpl : (backTo pos (starEach [.Tuple ts n p2] X.env)).any (·.1) = false := by rfl) : WE X (.Call (.Name "isinstance" p) [a, .Tuple ts n p2] [] pos) env C k :=
  we_cb (hx.zs Z).isi call_isiU rl_isiT hg bt_isi h (he := he) (hpl := hpl)
end
section
variable {C : CS} {k : KD} {x : D}
theorem isi_lt (h : x.kind = true) (q : k (.bl (x.isLst || x.isTup)) C) : dIsiT [x, .tup [.opq (.ty "list"), .opq (.ty "tuple")]] C k := by
  cases x <;> first | exact ⟨_, _, ["list", "tuple"], true, rfl, rfl, by decide +kernel, q⟩ | exact ⟨_, _, ["list", "tuple"], false, rfl, rfl, by decide +kernel, q⟩ | (simp [D.kind] at h; done)
theorem isi_ownLT {a : Addr} {xs : List D} (h : C a = some (.lst xs)) (q : k (.bl true) C) : dIsiT [.own a, .tup [.opq (.ty "list"), .opq (.ty "tuple")]] C k :=
  ⟨_, "list", ["list", "tuple"], true, rfl, by simp [tyN, h], by decide +kernel, q⟩
end
/-! ### zip -/
def zipD : List D → List D → List D
  | x :: xs, y :: ys => .tup [x, y] :: zipD xs ys
  | _, _ => []
theorem zipD_get : ∀ {xs ys : List D} {i : Nat} {d : D}, (zipD xs ys)[i]? = some d → ∃ x y, d = .tup [x, y] ∧ xs[i]? = some x ∧ ys[i]? = some y
  | [], _, i, d, h => by simp [zipD] at h
  | _ :: _, [], i, d, h => by simp [zipD] at h
  | x :: xs, y :: ys, 0, d, h => by
    simp [zipD] at h
    exact ⟨x, y, h.symm, rfl, rfl⟩
  | x :: xs, y :: ys, i + 1, d, h => by
    simp [zipD] at h
    obtain ⟨x', y', h1, h2, h3⟩ := zipD_get h
    exact ⟨x', y', h1, by simpa using h2, by simpa using h3⟩
theorem zipD_len : ∀ {xs ys : List D}, xs.length = ys.length → (zipD xs ys).length = xs.length
  | [], _, _ => rfl
  | _ :: _, [], h => by cases h
  | x :: xs, y :: ys, h => by
    simp only [zipD, List.length_cons]
    rw [zipD_len (by simpa using h)]
/-- while P holds of the cells, a is the list of these data -/
def SeqOf (K : PySem.W.Frag) (a : Addr) (xs : List D) (Pc : CS → Prop) (G : Hp) : Prop := ∀ G' C' H', Same G G' → Wld K G' C' H' → Pc C' → ∃ vs, SqL K H' a vs ∧ DatAll K G' vs xs
/-- what a list's name says of the cells -/
def ownP (d : D) (xs : List D) : CS → Prop := fun C => ∀ a, d = .own a → C a = some (.lst xs)
theorem seqOf_dat {K : PySem.W.Frag} {G H : Hp} {C : CS} {v : V} {d : D} {xs : List D} (w : Wld K G C H) (r : Dat K G v d) (h : seqR C d = some xs) : ∃ a, v = .ref a ∧ SeqOf K a xs (ownP d xs) G ∧ ∃ vs, SqL K H a vs := by
  cases r with
  | lst x1 x2 =>
    simp [seqR] at h; subst h
    exact ⟨_, rfl, fun G' C' H' e w' _ => ⟨_, w'.ex.seq (e.seq (SqL.of x1)), x2.mono e⟩, _, w.ex.seq (SqL.of x1)⟩
  | slst x1 x2 =>
    simp [seqR] at h; subst h
    exact ⟨_, rfl, fun G' C' H' e w' _ => ⟨_, w'.ex.seq (e.seq x1), x2.mono e⟩, _, w.ex.seq x1⟩
  | own a =>
    obtain ⟨_, vs, y1, y2⟩ := w.cell a _ (own_seqR h)
    refine ⟨a, rfl, fun G' C' H' e w' p => ?_, _, SqL.of y1⟩
    obtain ⟨_, vs, z1, z2⟩ := w'.cell a _ (p a rfl)
    exact ⟨vs, SqL.of z1, z2⟩
  | _ => simp [seqR] at h
theorem iterD_zip {K : PySem.W.Frag} {G : Hp} {a b : Addr} {xs ys : List D} {P1 P2 : CS → Prop} (hl : xs.length = ys.length) (h1 : SeqOf K a xs P1 G) (h2 : SeqOf K b ys P2 G) : IterD K (Itz K a b) (zipD xs ys) (fun C => P1 C ∧ P2 C) G := by
  rintro G' C' H' e w ⟨p1, p2⟩
  obtain ⟨vs, q1, r1⟩ := h1 G' C' H' e w p1
  obtain ⟨us, q2, r2⟩ := h2 G' C' H' e w p2
  refine ⟨fun i d hd => ?_, fun i hi => ⟨vs, us, q1, q2, .inl (by rw [r1.length]; rwa [zipD_len hl] at hi)⟩⟩
  obtain ⟨x, y, rfl, gx, gy⟩ := zipD_get hd
  obtain ⟨v1, t1, d1⟩ := r1.get gx
  obtain ⟨v2, t2, d2⟩ := r2.get gy
  refine ⟨⟨vs, us, v1, v2, q1, q2, t1, t2⟩, ?_⟩
  rintro v H2 ⟨T, x', y', rfl, hT, rfl, f1, f2⟩
  have e1 := f1 vs q1
  rw [t1] at e1; cases e1
  have e2 := f2 us q2
  rw [t2] at e2; cases e2
  obtain ⟨w2, f2, s2⟩ := w.newG hT (.tup [v1, v2])
  exact ⟨_, f2, w2, .tup (SqT.of upd_same) (.cons (d1.mono s2) (.cons (d2.mono s2) .nil))⟩
theorem iterD_zipT {K : PySem.W.Frag} {G : Hp} {a b : Addr} {vs us : List V} {xs ys : List D} (hl : xs.length = ys.length) (h1 : SqT K G a vs) (r1 : DatAll K G vs xs) (h2 : SqT K G b us) (r2 : DatAll K G us ys) : IterD K (ItzT K a b) (zipD xs ys) (fun _ => True) G := by
  rintro G' C' H' e w _
  have q1 : SqT K H' a vs := Same.sqT w.ex (Same.sqT e h1)
  have q2 : SqT K H' b us := Same.sqT w.ex (Same.sqT e h2)
  refine ⟨fun i d hd => ?_, fun i hi => ⟨vs, us, q1, q2, .inl (by rw [r1.length]; rwa [zipD_len hl] at hi)⟩⟩
  obtain ⟨x, y, rfl, gx, gy⟩ := zipD_get hd
  obtain ⟨v1, t1, d1⟩ := r1.get gx
  obtain ⟨v2, t2, d2⟩ := r2.get gy
  refine ⟨⟨vs, us, v1, v2, q1, q2, t1, t2⟩, ?_⟩
  rintro v H2 ⟨T, x', y', rfl, hT, rfl, f1, f2⟩
  have e1 := f1 vs q1
  rw [t1] at e1; cases e1
  have e2 := f2 us q2
  rw [t2] at e2; cases e2
  obtain ⟨w2, f2, s2⟩ := w.newG hT (.tup [v1, v2])
  exact ⟨_, f2, w2, .tup (SqT.of upd_same) (.cons ((d1.mono e).mono s2) (.cons ((d2.mono e).mono s2) .nil))⟩
section
variable {X : Cx} {a b e e2 elt iter : Expr} {ts es : List Expr} {env : DEnv} {C C1 : CS} {k : KD} {kI : KI} {pos p p2 tpos : Pos} {n m : Nat} {P : Program} {w : World} {K : PySem.W.Frag} {mg : Str → Option Value} {base : Heap}
theorem wi_zip (hx : Ctx P w K mg base m X) (Z : Zs mg) (hg : Gl X "zip") (h : WA X [a, b] env C fun ds C1 => ∃ x y xs ys, ds = [x, y] ∧ xs.length = ys.length ∧ ((seqR C1 x = some xs ∧ seqR C1 y = some ys ∧ kI (zipD xs ys) (fun C => ownP x xs C ∧ ownP y ys C) C1) ∨ (x = .tup xs ∧ y = .tup ys ∧ kI (zipD xs ys) (fun _ => True) C1)))
    (hs : starEach [a, b] X.env = (false, eval a X.env) :: starEach [b] X.env := by rfl) (hpl : (backTo pos (starEach [b] X.env)).any (·.1) = false := by rfl) : WI X (.Tuple ts n tpos) (.Call (.Name "zip" p) [a, b] [] pos) env C kI := by
  refine ⟨_, pi_zipA hg (hx.zs Z).zip pa_tAr hs hpl, fun G σ H R w er q => h G σ H _ w er fun v G1 C1 H1 ds f1 w1 r1 z => ?_⟩
  obtain ⟨x, y, xs, ys, rfl, hl, z⟩ := z
  cases r1 with
  | cons r1 r2 =>
    cases r2 with
    | cons r2 r3 =>
      cases r3
      rcases z with ⟨s1, s2, z⟩ | ⟨rfl, rfl, z⟩
      · obtain ⟨a1, rfl, g1, vs, t1⟩ := seqOf_dat w1 r1 s1
        obtain ⟨a2, rfl, g2, us, t2⟩ := seqOf_dat w1 r2 s2
        exact ⟨a1, a2, vs, us, rfl, .inl ⟨t1, t2, q _ _ _ _ _ _ f1 w1 (iterD_zip hl g1 g2) z⟩⟩
      · cases r1 with
        | tup x1 x2 =>
          cases r2 with
          | tup y1 y2 => exact ⟨_, _, _, _, rfl, .inr ⟨Same.sqT w1.ex x1, Same.sqT w1.ex y1, q _ _ _ _ _ _ f1 w1 (iterD_zipT hl x1 x2 y1 y2) z⟩⟩
end
/-! ### a comprehension with two names -/
def pairF (env : DEnv) (f : D → D → DEnv) : D → DEnv
  | .tup [a, b] => f a b
  | _ => env
theorem set_two {env : DEnv} {i j : Nat} (h : i ≠ j) (a b : D) : ((wipeD env [i, j]).set i (some a)).set j (some b) = (env.set i (some a)).set j (some b) := by
  show ((((env.set j none).set i none).set i (some a)).set j (some b)) = _
  rw [List.set_set, List.set_comm _ _ h.symm, List.set_set]
section
variable {X : Cx} {elt iter : Expr} {ifs : List Expr} {scope dsc : Scope} {env : DEnv} {C C1 : CS} {k : KD} {pos px py pt : Pos} {n : Nat} {E : DEnds} {N M gs : List Str} {x y : Str} {f1 : D → DEnv} {f2 : D → D → DEnv} {xs : List D} {Pc : CS → Prop}
theorem lcB_I2 (D0 : Dfc X N dsc) (hP : Put N x env f1) (hQ : ∀ d, Put N y (f1 d) (f2 d)) (hxy : x ≠ y) (hv : visC (relS scope dsc) M = true) (hg : glC (relS scope dsc) gs = true) (hp2 : ∀ d ∈ xs, ∃ a b, d = .tup [a, b])
    (h : LcB X elt ifs scope N M gs (pairF env f2) xs Pc C1 k) : ∃ i j, N[i]? = some x ∧ N[j]? = some y ∧ LcI X elt ifs scope [i, j] (gTup X.K 2 (gCons (gName i) (gCons (gName j) gNil))) env xs Pc C1 k := by
  obtain ⟨i, h1, h2, _⟩ := hP.set
  obtain ⟨j, g1, _⟩ := (hQ .non).set
  have hij : i ≠ j := fun e => by subst e; rw [h1] at g1; exact hxy (Option.some.inj g1)
  have nd : N.Nodup := by rw [← D0.n]; exact D0.nd
  have e2 : ∀ a b, (env.set i (some a)).set j (some b) = f2 a b := by
    intro a b
    obtain ⟨j', k1, k2, _⟩ := (hQ a).set
    obtain rfl := nodup_ix nd k1 g1
    rw [h2, k2]
  refine ⟨i, j, h1, g1, ?_⟩
  obtain ⟨Iv, i0, hp, turn, done⟩ := h
  refine ⟨Iv, i0, hp, fun m d acc C hd hi => ?_, done⟩
  obtain ⟨a, b, rfl⟩ := hp2 d (List.mem_of_getElem? hd)
  refine gw_tup2 (by simp) (by simp) ?_
  rw [set_two hij, e2]
  exact fun X' hX => WIf.imp (turn m _ acc C hd hi X' hX (blk_nms D0 hv X' hX) (blk_gls D0 hg X' hX)) fun t C3 z => ⟨fun ht X'' hX'' => z.1 ht X'' hX'' (blk_nms D0 hv X'' hX'') (blk_gls D0 hg X'' hX''), z.2⟩
theorem lc2 (M gs : List Str) (D0 : Dfc X N dsc) (hP : Put N x env f1) (hQ : ∀ d, Put N y (f1 d) (f2 d)) (hxy : x ≠ y) (ok : blkC N dsc scope [(x, N.idxOf x), (y, N.idxOf y)] = true) (hv : visC (relS scope dsc) M = true) (hg : glC (relS scope dsc) gs = true)
    (hx : onlyC (relS scope dsc) [x] = true) (hy : onlyC (relS scope dsc) [y] = true)
    (h : WI X (.Tuple [.Name x px, .Name y py] n pt) iter env C fun xs Pc C1 => (∀ d ∈ xs, ∃ a b, d = .tup [a, b]) ∧ LcB X elt ifs scope N M gs (pairF env f2) xs Pc C1 k) (hs : ∀ x, foldedSetIterable iter X.env x = pure x := by intro _; rfl) :
    WE X (.ListComp elt [⟨.Tuple [.Name x px, .Name y py] n pt, iter, ifs, 0⟩] scope pos) env C k := by
  obtain ⟨i, h1, _⟩ := hP.set
  obtain ⟨j, g1, _⟩ := (hQ .non).set
  have nd : N.Nodup := by rw [← D0.n]; exact D0.nd
  have ok' : BlkOk X.N X.env.scope scope [(x, i), (y, j)] := by
    rw [idxOf_of nd h1, idxOf_of nd g1] at ok
    rw [D0.n, D0.sc]
    exact blkOk_by ok
  refine we_lc [(x, i), (y, j)] (g := gTup X.K 2 (gCons (gName i) (gCons (gName j) gNil))) D0.calm D0.nd ok' (fun s H Ca cl fp => ?_) ?_ hs
  · exact pg_tup (show X.calm = true from D0.calm) (pgs_cons (lc_pg D0 h1 hx s H Ca cl fp) (pgs_cons (lc_pg D0 g1 hy s H Ca cl fp) pgs_nil))
  · obtain ⟨wi, hi, hw⟩ := h
    refine ⟨wi, hi, fun G σ H R w er q => hw G σ H R w er fun J G' C' H' xs Pc f w1 it z => ?_⟩
    obtain ⟨i', j', a1, a2, h3⟩ := lcB_I2 D0 hP hQ hxy hv hg z.1 z.2
    obtain rfl := nodup_ix nd a1 h1
    obtain rfl := nodup_ix nd a2 g1
    exact q J G' C' H' xs Pc f w1 it h3
end
section
variable {C : CS} {k : KD} {x : D} {xs : List D}
theorem isi_ltT (h : x.kind = true) (h2 : (x.isLst || x.isTup) = true) (q : k (.bl true) C) : dIsiT [x, .tup [.opq (.ty "list"), .opq (.ty "tuple")]] C k := isi_lt h (by rw [h2]; exact q)
theorem isi_ltF (h : x.kind = true) (h2 : (x.isLst || x.isTup) = false) (q : k (.bl false) C) : dIsiT [x, .tup [.opq (.ty "list"), .opq (.ty "tuple")]] C k := isi_lt h (by rw [h2]; exact q)
theorem isi_c1 {T U : String} (h : tyN C x = some T) {b : Bool} (h2 : kitB T U = some b) (q : k (.bl b) C) : dIsi [x, .opq (.ty U)] C k := ⟨x, T, U, b, rfl, h, h2, q⟩
theorem isi_ls (h : seqR C x = some xs) (q : k (.bl true) C) : dIsi [x, .opq (.ty "list")] C k := by
  cases x with
  | lst xs => exact ⟨_, "list", _, true, rfl, rfl, by decide +kernel, q⟩
  | slst xs => exact ⟨_, "list", _, true, rfl, rfl, by decide +kernel, q⟩
  | own a =>
    have h' := own_seqR h
    exact ⟨_, "list", _, true, rfl, by simp [tyN, h'], by decide +kernel, q⟩
  | _ => simp [seqR] at h
theorem isi_lsT (h : seqR C x = some xs) (q : k (.bl false) C) : dIsi [x, .opq (.ty "tuple")] C k := by
  cases x with
  | lst xs => exact ⟨_, "list", _, false, rfl, rfl, by decide +kernel, q⟩
  | slst xs => exact ⟨_, "list", _, false, rfl, rfl, by decide +kernel, q⟩
  | own a =>
    have h' := own_seqR h
    exact ⟨_, "list", _, false, rfl, by simp [tyN, h'], by decide +kernel, q⟩
  | _ => simp [seqR] at h
theorem isiT_ls (h : seqR C x = some xs) (q : k (.bl true) C) : dIsiT [x, .tup [.opq (.ty "list"), .opq (.ty "tuple")]] C k := by
  cases x with
  | lst xs => exact isi_lt rfl q
  | slst xs => exact isi_lt rfl q
  | own a =>
    have h' := own_seqR h
    exact isi_ownLT h' q
  | _ => simp [seqR] at h
theorem len_ls (h : seqR C x = some xs) (q : k (.int (xs.length : Nat)) C) : dLen [x] C k := by
  cases x with
  | lst xs => exact ⟨_, _, rfl, ⟨_, h, rfl⟩, q⟩
  | slst xs => exact ⟨_, _, rfl, ⟨_, h, rfl⟩, q⟩
  | own a =>
    have h' := own_seqR h
    exact ⟨_, _, rfl, ⟨_, h, rfl⟩, q⟩
  | _ => simp [seqR] at h
theorem eq_bb {a b : Bool} (q : k (.bl (a == b)) C) : dEq false (.bl a) (.bl b) C k := eq_ok (by cases a <;> rfl) (by cases b <;> rfl) (by cases a <;> cases b <;> exact q)
theorem ne_bb {a b : Bool} (q : k (.bl (a != b)) C) : dEq true (.bl a) (.bl b) C k := ne_ok (by cases a <;> rfl) (by cases b <;> rfl) (by cases a <;> cases b <;> exact q)
end
/-! ### the same data -/
def Sm (C : CS) : Nat → D → D → Prop
  | 0, x, y => x = y ∧ x.fit 0 = true
  | n + 1, x, y => (x = y ∧ x.fit 0 = true) ∨ ∃ xs ys, xs.length = ys.length ∧ xs.length ≤ sizeLine ∧ ((seqR C x = some xs ∧ seqR C y = some ys) ∨ (x = .tup xs ∧ y = .tup ys)) ∧ ∀ (i : Nat) (a b : D), xs[i]? = some a → ys[i]? = some b → Sm C n a b
/-- trees of lists that are not too long -/
def Sz : Nat → D → Prop
  | 0, x => x.fit 0 = true
  | n + 1, x => x.fit 0 = true ∨ ∃ xs : List D, xs.length ≤ sizeLine ∧ (x = .lst xs ∨ x = .slst xs ∨ x = .tup xs) ∧ ∀ a ∈ xs, Sz n a
theorem Sm.of {C : CS} : ∀ {n : Nat} {x : D}, Sz n x → Sm C n x x
  | 0, _, h => ⟨rfl, h⟩
  | n + 1, x, h => by
    rcases h with h | ⟨xs, h1, h2, h3⟩
    · exact .inl ⟨rfl, h⟩
    · refine .inr ⟨xs, xs, rfl, h1, ?_, fun i a b ha hb => ?_⟩
      · rcases h2 with rfl | rfl | rfl
        · exact .inl ⟨rfl, rfl⟩
        · exact .inl ⟨rfl, rfl⟩
        · exact .inr ⟨rfl, rfl⟩
      · rw [ha] at hb; cases hb
        exact Sm.of (h3 a (List.mem_of_getElem? ha))
end DL
/-! DLp: lists unpacked; lists made and frozen by * and +. -/
namespace DL
open PySem PySem.Spec PyProof.Rows L2
section
variable {X : Cx} {a b e : Expr} {es ts : List Expr} {env : DEnv} {C : CS} {k : KD} {pos p1 p2 p3 : Pos} {n m : Nat} {P : Program} {w : World} {K : PySem.W.Frag} {mg : Str → Option Value} {base : Heap} {op : Operator}
theorem wg_lst {d : D} {ds : List D} {kE : DEnv → CS → Prop} (hs : seqR C d = some ds) (hc : X.calm = true) (hl : ds.length = (assignEach ts X.env).length) (h : WGs X ts ds env C kE) (hst : (assignEach ts X.env).findIdx? (·.1) = none := by rfl) : WG X (.Tuple ts n pos) d env C kE :=
  .of (pg_lst hc pgs_tGts rfl hst) fun G σ H v Q w er r q => by
    obtain ⟨a, vs, rfl, h1, h2⟩ := w.seq r hs
    exact ⟨_, _, rfl, h1, by rw [h2.length]; exact hl, h G σ H _ Q w er h2 q⟩
theorem x_glst {d : D} {ds : List D} {kE : DEnv → CS → Prop} (hx : Ctx P w K mg base m X) (hs : seqR C d = some ds) (hl : ds.length = (assignEach ts X.env).length) (h : WGs X ts ds env C kE) (hst : (assignEach ts X.env).findIdx? (·.1) = none := by rfl) : WG X (.Tuple ts n pos) d env C kE := wg_lst hs hx.calm hl h hst
theorem x_mulF (h : WA X es env C fun ds C1 => ds.length ≤ sizeLine ∧ WE X b env C1 fun y C2 => dMul (.lst ds) y C2 (Frz k)) : WE X (.BinOp (.List es p1) .Mult b pos) env C k := we_fz (we_mul (we_lstF h))
theorem x_addF (h : WE X (.List es p1) env C fun x C1 => WE X b env C1 fun y C2 => dAdd x y C2 (Frz k)) : WE X (.BinOp (.List es p1) .Add b pos) env C k := we_fz (we_add h)
theorem x_addF2 (h : WE X (.BinOp (.List es p1) op a p2) env C fun x C1 => WE X b env C1 fun y C2 => dAdd x y C2 (Frz k)) : WE X (.BinOp (.BinOp (.List es p1) op a p2) .Add b pos) env C k := we_fz (we_add h)
theorem x_addF3 (h : WE X (.BinOp (.BinOp (.List es p1) op a p2) .Add e p3) env C fun x C1 => WE X b env C1 fun y C2 => dAdd x y C2 (Frz k)) : WE X (.BinOp (.BinOp (.BinOp (.List es p1) op a p2) .Add e p3) .Add b pos) env C k := we_fz (we_add h)
end
section
variable {C : CS} {k : KD} {xs ys : List D} {i : Int} {p : Addr} {d : D}
theorem mul_lf (h : 0 ≤ i ∧ i ≤ 1000 ∧ xs.length ≤ 100) (q : k (.lst (List.replicate i.toNat xs).flatten) C) : dMul (.lst xs) (.int i) C (Frz k) := by
  refine ⟨xs, rfl, by omega, by omega, ?_, fun p hp => frz_ok hp q⟩
  have : xs.length * i.toNat ≤ 100 * 1000 := Nat.mul_le_mul h.2.2 (by omega)
  exact Nat.le_trans this (by decide)
theorem add_lf (h : xs.length + ys.length ≤ sizeLine) (q : k (.lst (xs ++ ys)) C) : dAdd (.lst xs) (.lst ys) C (Frz k) := add_lst rfl rfl h fun _ hp => frz_ok hp q
theorem rep_len (n : Nat) (xs : List D) : (List.replicate n xs).flatten.length = n * xs.length := by simp
end
/-! ### a text times an int -/
theorem op_mulS {X : Cx} : OpR X (binaryOp .Mult) (fun x y H Q => ∃ z n, x = .str z ∧ y = .int n ∧ MulOk z n ∧ Q (.str (Txt.mul z n)) H) := by
  rintro pins s σ H x y v u Q I rx ry ⟨z, n, rfl, rfl, hok, q⟩
  obtain ⟨t, rfl⟩ := rx
  obtain ⟨t', rfl⟩ := ry
  exact SB.mul hok fun t' k => ⟨.str (Txt.mul z n), H, I.tok _, ⟨_, rfl⟩, q⟩
def dMulS : OpD := fun x y C k => ∃ z n, x = .str z ∧ y = .int n ∧ MulOk z n ∧ k (.str (Txt.mul z n)) C
theorem r2_mulS {K : PySem.W.Frag} : R2D K (fun x y H Q => ∃ z n, x = .str z ∧ y = .int n ∧ MulOk z n ∧ Q (.str (Txt.mul z n)) H) dMulS := by
  rintro x y a b G C H k Q w da db ⟨z, n, rfl, rfl, h1, h2⟩ q
  cases da
  cases db
  exact ⟨z, n, rfl, rfl, h1, q _ _ _ _ _ (Fr.refl ..) w (.str _) h2⟩
theorem x_mulS {X : Cx} {b : Expr} {env : DEnv} {C : CS} {k : KD} {pos p1 : Pos} {z : Str} {j : Nat} (h : WE X b env C fun y C1 => dMulS (.str z) y C1 k) : WE X (.BinOp (.Constant (.str z) j p1) .Mult b pos) env C k := we_op op_mulS r2_mulS (we_str h)
theorem mul_s {C : CS} {k : KD} {z : Str} {n : Int} (h : MulOk z n) (q : k (.str (Txt.mul z n)) C) : dMulS (.str z) (.int n) C k := ⟨z, n, rfl, rfl, h, q⟩
end DL
/-! DLq: repr of data. -/
namespace DL
open PySem PySem.Spec PyProof.Rows L2 RZ
/-- repr of a list or a tuple of data -/
def rRepr (K : PySem.W.Frag) : List V → Hp → VK → Prop := fun xs H Q => ∃ (v : V) (d : PyData), xs = [v] ∧ Dp K H v d ∧ isDisplay d = true ∧ d.showable = true ∧ d.hasDict = false ∧ d.depth ≤ 60 ∧ d.shown.length ≤ sizeLine ∧ Q (.str d.shown) H
theorem call_reprD {X : Cx} (hgd : X.A.guards = some []) (hu : X.A.units + 65 < cLine) : CallR X (.builtin "repr") (rRepr X.K) := by
  rintro pins s σ H xs us Q I r ⟨v, d, rfl, hd, hdis, hs, hnd, hdp, hsz, q⟩
  cases r with
  | cons r1 r2 =>
    cases r2
    obtain ⟨as, rd⟩ := Dp.reads I d v _ hd r1
    obtain ⟨a, rfl⟩ := isRef_of_reads rd hdis
    refine repr_of_reads' rd hs (PyData.noDict_hsm hnd) hgd (by omega) (fun _ _ e => e) ?_ hsz
    intro h' u tk hk
    exact ⟨.str d.shown, H, I.kept (t' := tk) hk, ⟨u, rfl⟩, q⟩
/-- repr of data -/
def rReprA (K : PySem.W.Frag) : List V → Hp → VK → Prop := fun xs H Q => ∃ (v : V) (d : PyData), xs = [v] ∧ Dp K H v d ∧ d.showable = true ∧ d.hasDict = false ∧ d.depth ≤ 60 ∧ d.shown.length ≤ sizeLine ∧ Q (.str d.shown) H
theorem call_reprA {X : Cx} (hgd : X.A.guards = some []) (hu : X.A.units + 65 < cLine) : CallR X (.builtin "repr") (rReprA X.K) := by
  rintro pins s σ H xs us Q I r ⟨v, d, rfl, hd, hs, hnd, hdp, hsz, q⟩
  by_cases hdis : isDisplay d = true
  · exact call_reprD hgd hu pins s σ H [v] us Q I r ⟨v, d, rfl, hd, hdis, hs, hnd, hdp, hsz, q⟩
  · cases r with
    | cons r1 r2 =>
      cases r2
      have fin : EP X pins σ Q (.str d.shown s.toks) { s with toks := s.toks + 1 } := ⟨.str d.shown, H, I.tok _, ⟨_, rfl⟩, q⟩
      cases hd with
      | non =>
        obtain rfl : _ = Value.none := r1
        exact P.repr_of_none fin
      | bl b =>
        obtain rfl : _ = Value.bool b := r1
        exact P.repr_of_bool fin
      | int i =>
        obtain ⟨t, rfl⟩ := r1
        exact P.repr_of_int (by simpa [PyData.showable] using hs) fin
      | str z =>
        obtain ⟨t, rfl⟩ := r1
        exact P.repr_of_str fin hsz
      | _ => exact absurd rfl hdis
def dRepr : List D → CS → KD → Prop := fun ds C k => ∃ x d, ds = [x] ∧ pyC C x = some d ∧ d.showable = true ∧ d.hasDict = false ∧ d.depth ≤ 60 ∧ d.shown.length ≤ sizeLine ∧ k (.str d.shown) C
theorem rl_repr {K : PySem.W.Frag} : RLD K (rReprA K) dRepr := by
  rintro xs ds G C H k Q w rs ⟨x, d, rfl, hd, h1, h2, h3, h4, hk⟩ q
  cases rs with
  | cons r1 r2 =>
    cases r2
    exact ⟨_, d, rfl, w.dp r1 hd, h1, h2, h3, h4, q _ _ _ _ _ (Fr.refl ..) w (.str _) hk⟩
section
variable {X : Cx} {e : Expr} {es : List Expr} {env : DEnv} {C : CS} {k : KD} {pos p : Pos} {m : Nat} {P : Program} {w : World} {K : PySem.W.Frag} {mg : Str → Option Value} {base : Heap}
theorem x_repr (hx : Ctx P w K mg base m X) (Z : Zs mg) (hg : Gl X "repr") (h : WA X (e :: es) env C fun ds C1 => dRepr ds C1 k) (he : starEach (e :: es) X.env = (false, eval e X.env) :: starEach es X.env := by rfl) (hpl : (backTo pos (starEach es X.env)).any (·.1) = false := by rfl) :
    WE X (.Call (.Name "repr" p) (e :: es) [] pos) env C k := we_cb (hx.zs Z).repr (call_reprA hx.guards (by have := hx.room.units; have := hx.room.un; omega)) rl_repr hg bootS_repr h (he := he) (hpl := hpl)
end
end DL
/-! DLr: comprehensions with any number of fors. -/
namespace DL
open PySem PySem.Spec PyProof.Rows L2
section
variable {elt t0 i0 t1 i1 : Expr} {ifs0 ifs1 : List Expr} {gens : List Comprehension} {scope : Scope} {pos : Pos} {it acc : Value} {env : Env} {i : Nat}
theorem turn_mid (h0 : gens[i]? = some ⟨t0, i0, ifs0, 0⟩) (h1 : gens[i + 1]? = some ⟨t1, i1, ifs1, 0⟩) : compTurn (.ListComp elt gens scope pos) i it acc env = (do
    standAt i0.pos
    match ← pyNext it with
    | none => pure (.done .next)
    | some v =>
      letOwnedTupleGo t0 it v
      assign t0 env v
      let mut ok := true
      for c in ifs0 do
        if ok then ok ← isTrue c env (eval c env)
      if ok then
        let x ← eval i1 env
        standAt i1.pos
        let x ← foldedSetIterable i1 env x
        let _ ← runOwn (.compStart (.ListComp elt gens scope pos) (i + 1) (← holding [x] (pyIter x)) acc env) env
      again (.compLoop (.ListComp elt gens scope pos) i it acc env)) := by
  unfold compTurn
  simp only [h0, h1]
  rfl
theorem turn_last (h0 : gens[i]? = some ⟨t0, i0, ifs0, 0⟩) (h1 : gens[i + 1]? = none) : compTurn (.ListComp elt gens scope pos) i it acc env = (do
    standAt i0.pos
    match ← pyNext it with
    | none => pure (.done .next)
    | some v =>
      letOwnedTupleGo t0 it v
      assign t0 env v
      let mut ok := true
      for c in ifs0 do
        if ok then ok ← isTrue c env (eval c env)
      if ok then
        (do let _ ← call (.builtin "list.append") [acc, ← eval elt env])
      again (.compLoop (.ListComp elt gens scope pos) i it acc env)) := by
  unfold compTurn
  simp only [h0, h1]
  rfl
end
section
variable {prog : Program} {w : World} {A : Around} {R : Result → Shared → Prop} {s : Shared} {elt t0 i0 t1 i1 : Expr} {ifs0 ifs1 : List Expr} {gens : List Comprehension} {scope : Scope} {pos : Pos} {it acc : Value} {env : Env} {i : Nat}
/-- what is raised in a comprehension's turn -/
def Nb (prog : Program) (w : World) (A : Around) (env : Env) (R : Result → Shared → Prop) : Value → Shared → Prop := notedBy (model prog w) A env fun e s' => R (.error e) s'
/-- the tests of a clause -/
def tests (env : Env) (ifs : List Expr) : Sem Bool := forIn ifs true fun c r => if r = true then do let ok ← isTrue c env (eval c env); pure (ForInStep.yield ok) else pure (ForInStep.yield r)
/-- a turn up to the tests -/
def TurnW (prog : Program) (w : World) (A : Around) (env : Env) (R : Result → Shared → Prop) (t : Expr) (ifs : List Expr) (it : Value) (B N : Shared → Prop) (s : Shared) : Prop :=
  wpAny (model prog w) A (pyNext it) (fun r s1 => match r with
    | none => R (.ok .next) s1
    | some v => wpAny (model prog w) A (letOwnedTupleGo t it v) (fun _ s2 => wpAny (model prog w) A (assign t env v) (fun _ s3 =>
        wpAny (model prog w) A (tests env ifs) (fun ok s4 => if ok = true then B s4 else N s4) (Nb prog w A env R) s3) (Nb prog w A env R) s2) (Nb prog w A env R) s1) (Nb prog w A env R) s
theorem loop_mid (h0 : gens[i]? = some ⟨t0, i0, ifs0, 0⟩) (h1 : gens[i + 1]? = some ⟨t1, i1, ifs1, 0⟩) (hs : ∀ x, foldedSetIterable i1 env x = pure x) (I : Nat → Shared → Prop)
    (turn : ∀ n s, I n s → TurnW prog w A env R t0 ifs0 it (fun s4 => wpAny (model prog w) A (eval i1 env) (fun x s5 => wpAny (model prog w) A (pyIter x) (fun it1 s6 =>
      codeAny (model prog w) A (.compStart (.ListComp elt gens scope pos) (i + 1) it1 acc env) (fun r s' => match r with
        | .ok _ => ∃ m, m < n ∧ I m s'
        | .error _ => False) s6) (Nb prog w A env R) s5) (Nb prog w A env R) s4) (fun s4 => ∃ m, m < n ∧ I m s4) s) (n : Nat) (h : I n s) :
    codeAny (model prog w) A (.compLoop (.ListComp elt gens scope pos) i it acc env) R s := by
  refine codeAny_loop rfl I ?_ n h
  intro n s hI
  show wpAny _ A ((compTurn (.ListComp elt gens scope pos) i it acc env).onRaise (fun x => do noteFrame x env; theTreesLotGoes x)) _ _ s
  refine wpAny_noted ?_
  rw [turn_mid h0 h1]
  have go := turn n s hI
  refine wpAny_bind (wpAny_standAt (wpAny_bind (wpAny_mono go ?_ fun _ _ z => z)))
  intro r s1 g1
  match r, g1 with
  | none, g1 => exact wpAny_pure g1
  | some v, g1 =>
    refine wpAny_bind (wpAny_mono g1 (fun _ s2 g2 => wpAny_bind (wpAny_mono g2 (fun _ s3 g3 => wpAny_bind (wpAny_mono g3 ?_ fun _ _ z => z)) fun _ _ z => z)) fun _ _ z => z)
    intro ok s4 g4
    match ok, g4 with
    | false, g4 => exact wpAny_pure ⟨rfl, g4⟩
    | true, g4 =>
      refine wpAny_bind (wpAny_mono g4 ?_ fun _ _ z => z)
      intro x s5 g5
      refine wpAny_bind (wpAny_standAt (wpAny_bind (wpAny_of_eq (hs x) (wpAny_bind (wpAny_holding (wpAny_mono g5 ?_ fun _ _ z => z))))))
      intro it1 s6 g6
      refine wpAny_bind (wpAny_runOwn ?_)
      rw [Around.mark_none]
      refine codeAny_mono g6 ?_
      intro r s' z
      match r, z with
      | .ok f, z => first | exact wpAny_pure ⟨rfl, z⟩ | exact wpAny_bind (wpAny_pure (wpAny_pure ⟨rfl, z⟩))
theorem loop_last (h0 : gens[i]? = some ⟨t0, i0, ifs0, 0⟩) (h1 : gens[i + 1]? = none) (I : Nat → Shared → Prop)
    (turn : ∀ n s, I n s → TurnW prog w A env R t0 ifs0 it (fun s4 => wpAny (model prog w) A (eval elt env) (fun x s5 => wpAny (model prog w) A (call (.builtin "list.append") [acc, x]) (fun _ s6 => ∃ m, m < n ∧ I m s6) (Nb prog w A env R) s5) (Nb prog w A env R) s4)
      (fun s4 => ∃ m, m < n ∧ I m s4) s) (n : Nat) (h : I n s) : codeAny (model prog w) A (.compLoop (.ListComp elt gens scope pos) i it acc env) R s := by
  refine codeAny_loop rfl I ?_ n h
  intro n s hI
  show wpAny _ A ((compTurn (.ListComp elt gens scope pos) i it acc env).onRaise (fun x => do noteFrame x env; theTreesLotGoes x)) _ _ s
  refine wpAny_noted ?_
  rw [turn_last h0 h1]
  have go := turn n s hI
  refine wpAny_bind (wpAny_standAt (wpAny_bind (wpAny_mono go ?_ fun _ _ z => z)))
  intro r s1 g1
  match r, g1 with
  | none, g1 => exact wpAny_pure g1
  | some v, g1 =>
    refine wpAny_bind (wpAny_mono g1 (fun _ s2 g2 => wpAny_bind (wpAny_mono g2 (fun _ s3 g3 => wpAny_bind (wpAny_mono g3 ?_ fun _ _ z => z)) fun _ _ z => z)) fun _ _ z => z)
    intro ok s4 g4
    match ok, g4 with
    | false, g4 => exact wpAny_pure ⟨rfl, g4⟩
    | true, g4 => exact wpAny_bind (wpAny_bind (wpAny_mono g4 (fun x s5 g5 => wpAny_bind (wpAny_mono g5 (fun _ s6 g6 => wpAny_pure (wpAny_pure ⟨rfl, g6⟩)) fun _ _ z => z)) fun _ _ z => z))
/-- an inner clause's start -/
theorem start_in (h0 : gens[i]? = some ⟨t0, i0, ifs0, 0⟩) (hl : codeAny (model prog w) A (.compLoop (.ListComp elt gens scope pos) i it acc env) R s)
    (hi : wpAny (model prog w) A (pyIter it) (fun it' s' => codeAny (model prog w) A (.compLoop (.ListComp elt gens scope pos) i it' acc env) R s') (Nb prog w A env R) s) : codeAny (model prog w) A (.compStart (.ListComp elt gens scope pos) i it acc env) R s := by
  have hc : (clausesOf (.ListComp elt gens scope pos))[i]? = some ⟨t0, i0, ifs0, 0⟩ := h0
  refine codeAny_of_tree ?_
  show wpAny _ _ ((compStart (.ListComp elt gens scope pos) i it acc env).onRaise (fun x => do noteFrame x env; standAt theWindowsPlace)) _ _ s
  refine wpAny_notedAt ?_
  unfold compStart
  simp only [hc, Option.elim_some]
  show wpAny _ _ (ask >>= _) _ _ s
  refine wpAny_bind (wpAny_askSetting (wpAny_ite ?_))
  split
  · first | exact wpAny_bind (wpAny_pure (wpAny_pure (And.intro rfl hl))) | exact wpAny_pure (And.intro rfl hl)
  · refine wpAny_bind (wpAny_rule ?_)
    show wpAny _ _ (standAt i0.pos >>= _) _ _ s
    exact wpAny_bind (wpAny_standAt (wpAny_bind (wpAny_mono hi (fun it' s' z => wpAny_pure (And.intro rfl z)) fun _ _ z => z)))
end
/-! ### the inner clauses -/
/-- a clause and its readings -/
structure Lv where
  tg : Expr
  iter : Expr
  ifs : List Expr
  wi : TI
  g : TG
  tt : TT
  vs : List Nat
def Lv.c (l : Lv) : Comprehension := ⟨l.tg, l.iter, l.ifs, 0⟩
structure LvOk (Y : Cx) (l : Lv) : Prop where
  pi : PI Y l.tg l.iter l.wi
  pg : PG Y l.tg l.g
  pt : PTs Y l.ifs l.tt
  fs : ∀ x, foldedSetIterable l.iter Y.env x = pure x
def restV : List Lv → List Nat
  | [] => []
  | l :: ls => l.vs ++ restV ls
theorem wipe_app (σ : L2.St) (us : List Nat) : ∀ vs : List Nat, wipe σ (vs ++ us) = wipe (wipe σ us) vs
  | [] => rfl
  | v :: vs => by
    show (wipe σ (vs ++ us)).set v none = (wipe (wipe σ us) vs).set v none
    rw [wipe_app σ us vs]
theorem wipe_two (σ : L2.St) (vs : List Nat) : wipe (wipe σ vs) vs = wipe σ vs := by
  apply wipe_ext
  · rw [wipe_length]
  · intro j hj
    rw [wipe_get, if_neg hj]
def tIn (D : Addr) (te : TE) : List Lv → L2.St → Hp → (Hp → Prop) → Prop
  | [], σ, H, Nx => te σ H fun y H1 => ∃ acc, H1 D = some (.lst acc) ∧ acc.length < sizeLine ∧ Nx (upd H1 D (.lst (acc ++ [y])))
  | l :: ls, σ, H, Nx => l.wi σ H fun J H1 => ∃ W : Nat → Nat → Hp → Prop, (∃ m, W 0 m H1) ∧ ∀ j k H, W j k H → (J.stop j H ∧ Nx H) ∨ (J.go j H ∧ ∃ N1 : Hp → Prop, (∀ H', N1 H' → ∃ k', k' < k ∧ W (j + 1) k' H') ∧
      ∀ x H', J.yld j H x H' → l.g x (wipe σ (restV (l :: ls))) H' fun σ2 H2 => wipe σ2 (restV (l :: ls)) = wipe σ (restV (l :: ls)) ∧ l.tt σ2 H2 fun b H3 => if b = true then tIn D te ls σ2 H3 N1 else N1 H3)
section
variable {Y : Cx} {elt : Expr} {te : TE} {scope : Scope} {pos : Pos} {gens : List Comprehension} {D : Addr}
/-- behind an inner clause -/
def Beh (Y : Cx) (pins : List (Addr × Obj)) (V : List Nat) (σ : L2.St) (Nx : Hp → Prop) (s' : Shared) : Prop := ∃ σ' H', Inv Y pins σ' H' s' ∧ wipe σ' V = wipe σ V ∧ Nx H'
/-- what a turn goes on with -/
def Body (Y : Cx) (elt : Expr) (scope : Scope) (pos : Pos) (gens : List Comprehension) (D : Addr) (R : Result → Shared → Prop) (P : Shared → Prop) (i : Nat) : List Lv → Shared → Prop
  | [], s => wpAny (model Y.prog Y.w) Y.A (eval elt Y.env) (fun x s1 => wpAny (model Y.prog Y.w) Y.A (call (.builtin "list.append") [.ref D, x]) (fun _ s2 => P s2) (Nb Y.prog Y.w Y.A Y.env R) s1) (Nb Y.prog Y.w Y.A Y.env R) s
  | l :: _, s => wpAny (model Y.prog Y.w) Y.A (eval l.iter Y.env) (fun x s1 => wpAny (model Y.prog Y.w) Y.A (pyIter x) (fun it s2 => codeAny (model Y.prog Y.w) Y.A (.compStart (.ListComp elt gens scope pos) i it (.ref D) Y.env) (fun r s' => match r with
      | .ok _ => P s'
      | .error _ => False) s2) (Nb Y.prog Y.w Y.A Y.env R) s1) (Nb Y.prog Y.w Y.A Y.env R) s
/-- the loop of a clause, from what the clauses behind it do -/
theorem loopLv {l : Lv} {ls : List Lv} {i : Nat} (hxe : Y.xe = fun _ _ => False) (hc : Y.calm = true) (hd : gens.drop i = (l :: ls).map Lv.c) (hfs : ∀ l' ∈ ls, ∀ x, foldedSetIterable l'.iter Y.env x = pure x) (opg : PG Y l.tg l.g) (opt : PTs Y l.ifs l.tt)
    (ih : ∀ (pins : List (Addr × Obj)) (σ : L2.St) (H : Hp) (s : Shared) (Nx : Hp → Prop) (R : Result → Shared → Prop) (P : Shared → Prop), Inv Y pins σ H s → tIn D te ls σ H Nx → (∀ s', Beh Y pins (restV ls) σ Nx s' → P s') → Body Y elt scope pos gens D R P (i + 1) ls s)
    {pins : List (Addr × Obj)} {σ : L2.St} {V : List Nat} (hV : restV (l :: ls) = V) {it : Addr} {fp : List Addr} {tn : Nat → Heap → Prop} {J : It} (T : Turn Y.prog Y.w Y.K l.tg J fp it tn) {Nx : Hp → Prop} {R : Result → Shared → Prop}
    (fin : ∀ s', Beh Y pins V σ Nx s' → R (.ok .next) s') {W : Nat → Nat → Hp → Prop} (stat : ∀ {H' : Hp} {s' : Shared} {σ' : L2.St}, Inv Y pins σ' H' s' → (∀ b ∈ fp, H' b = none) → ∀ b ∈ fp, FpOk Y pins H' b)
    (turn : ∀ j k H, W j k H → (J.stop j H ∧ Nx H) ∨ (J.go j H ∧ ∃ N1 : Hp → Prop, (∀ H', N1 H' → ∃ k', k' < k ∧ W (j + 1) k' H') ∧
      ∀ x H', J.yld j H x H' → l.g x (wipe σ V) H' fun σ2 H2 => wipe σ2 V = wipe σ V ∧ l.tt σ2 H2 fun b H3 => if b = true then tIn D te ls σ2 H3 N1 else N1 H3))
    {m0 : Nat} {H2 : Hp} {s2 : Shared} (I2 : Inv Y pins (wipe σ V) H2 s2) (st2 : tn 0 s2.heap) (n2 : ∀ b ∈ fp, H2 b = none) (w0 : W 0 m0 H2) :
    codeAny (model Y.prog Y.w) Y.A (.compLoop (.ListComp elt gens scope pos) i (.ref it) (.ref D) Y.env) R s2 := by
  have h0 : gens[i]? = some l.c := by
    have := congrArg (fun x : List Comprehension => x[0]?) hd
    simpa [List.getElem?_drop] using this
  have hd1 : gens.drop (i + 1) = ls.map Lv.c := by
    have := congrArg List.tail hd
    simpa [List.tail_drop] using this
  have hV' : V = l.vs ++ restV ls := hV.symm
  let Iv : Nat → Shared → Prop := fun k s' => ∃ j H', Inv Y pins (wipe σ V) H' s' ∧ tn j s'.heap ∧ (∀ b ∈ fp, H' b = none) ∧ W j k H'
  have turnW : ∀ n s, Iv n s → TurnW Y.prog Y.w Y.A Y.env R l.tg l.ifs (.ref it) (fun s4 => Body Y elt scope pos gens D R (fun s' => ∃ m, m < n ∧ Iv m s') (i + 1) ls s4) (fun s4 => ∃ m, m < n ∧ Iv m s4) s := by
    intro n s ⟨j, H3, I3, st3, n3, w3⟩
    rcases turn j n H3 w3 with ⟨stop, nx⟩ | ⟨go, N1, hN1, step⟩
    · refine thnF (T.done Y rfl rfl rfl hc j pins s (wipe σ V) H3 (fun _ _ => False) I3 (stat I3 n3) st3 stop) fun r s4 z => ?_
      obtain ⟨rfl, I4⟩ := z
      exact fin s4 ⟨_, _, I4, wipe_two σ V, nx⟩
    · refine thnF (T.item Y rfl rfl rfl hc j pins s (wipe σ V) H3 (fun _ _ => False) I3 (stat I3 n3) st3 go) fun r s4 z => ?_
      obtain ⟨u, rfl, z⟩ := z
      refine thnF z fun _ s5 ⟨x, H5, I5, r5, y5, st5, n5⟩ => ?_
      have I6 := I5.pinned (stat I5 n5) (T.obj _ _ st5)
      have pg := opg.run _ s5 (wipe σ V) H5 x u _ I6 r5 (step x H5 y5)
      rw [hxe] at pg
      refine thnF pg fun _ s6 ⟨σ6, H6, I7, hw6, q6⟩ => ?_
      have pt := opt.run _ s6 σ6 H6 _ I7 q6
      rw [hxe] at pt
      refine thnF pt fun b s7 ⟨H7, I8, q8⟩ => ?_
      have back : ∀ {s' : Shared} {σ' : L2.St} {H' : Hp}, Inv Y (pins ++ pinsAt fp s5.heap) σ' H' s' → wipe σ' (restV ls) = wipe σ6 (restV ls) → N1 H' → ∃ m, m < n ∧ Iv m s' := by
        intro s' σ' H' I' hw' nx
        obtain ⟨m', hm, w'⟩ := hN1 H' nx
        have hw2 : wipe σ' V = wipe σ V := by
          rw [hV', wipe_app, hw', ← wipe_app, ← hV']; exact hw6
        have pin' : ∀ b ∈ fp, ∀ ob, s5.heap.get? b = some ob → s'.heap.get? b = some ob ∧ H' b = none := fun b hb ob e =>
          let z := I'.pin (b, ob) (List.mem_append_right _ (List.mem_append_right _ (mem_pinsAt hb e)))
          ⟨z.1, z.2.1⟩
        refine ⟨m', hm, j + 1, H', I'.unpinned.weak ?_ ?_, T.keep _ _ _ st5 fun b hb ob e => (pin' b hb ob e).1, fun b hb => ?_, w'⟩
        · rw [← hw2, wipe_length]
        · intro k v e
          rw [← hw2] at e
          exact (wipe_some e).1
        · obtain ⟨ob, e, _⟩ := T.obj _ _ st5 b hb
          exact (pin' b hb ob e).2
      match b, q8 with
      | false, q8 => exact back I8 rfl q8
      | true, q8 => exact ih _ σ6 H7 s7 N1 R _ I8 q8 fun s' ⟨σ', H', I', hw', nx⟩ => back I' hw' nx
  match ls, hd1, turnW, hfs with
  | [], hd1, turnW, _ =>
    have h1 : gens[i + 1]? = none := by
      have := congrArg (fun x : List Comprehension => x[0]?) hd1
      simpa [List.getElem?_drop] using this
    exact loop_last h0 h1 Iv turnW m0 ⟨0, H2, I2, st2, n2, w0⟩
  | l' :: ls', hd1, turnW, hfs =>
    have h1 : gens[i + 1]? = some l'.c := by
      have := congrArg (fun x : List Comprehension => x[0]?) hd1
      simpa [List.getElem?_drop] using this
    exact loop_mid h0 h1 (hfs l' (by simp)) Iv turnW m0 ⟨0, H2, I2, st2, n2, w0⟩
theorem inner (hxe : Y.xe = fun _ _ => False) (hc : Y.calm = true) (he : PE Y elt te) : ∀ (ls : List Lv) (i : Nat), gens.drop i = ls.map Lv.c → (∀ l ∈ ls, LvOk Y l) → ∀ (pins : List (Addr × Obj)) (σ : L2.St) (H : Hp) (s : Shared) (Nx : Hp → Prop) (R : Result → Shared → Prop) (P : Shared → Prop),
    Inv Y pins σ H s → tIn D te ls σ H Nx → (∀ s', Beh Y pins (restV ls) σ Nx s' → P s') → Body Y elt scope pos gens D R P i ls s
  | [], i, hd, ok, pins, σ, H, s, Nx, R, P, I, q, fin => by
    have run := he.run pins s σ H _ I q
    rw [hxe] at run
    refine thnF run fun x s1 z => ?_
    obtain ⟨y, H1, I1, r1, acc, h1, h2, h3⟩ := z
    exact L2.app_ok (X := Y) I1 h1 h2 r1 fun s2 I2 => fin s2 ⟨σ, _, I2, rfl, h3⟩
  | l :: ls, i, hd, ok, pins, σ, H, s, Nx, R, P, I, q, fin => by
    have o := ok l List.mem_cons_self
    have h0 : gens[i]? = some l.c := by
      have := congrArg (fun x : List Comprehension => x[0]?) hd
      simpa [List.getElem?_drop] using this
    have hd1 : gens.drop (i + 1) = ls.map Lv.c := by
      have := congrArg List.tail hd
      simpa [List.tail_drop] using this
    have run := o.pi.run pins s σ H _ I q
    rw [hxe] at run
    refine thnF run fun xv s1 hx => thnF hx fun itv s2 h2 => ?_
    obtain ⟨it, fp, tn, J, H2, e, I2, T, st2, f2, W, ⟨m0, w0⟩, turn⟩ := h2
    subst e
    have loop := loopLv (D := D) (te := te) (elt := elt) (scope := scope) (pos := pos) (R := fun r s' => match r with
        | .ok _ => P s'
        | .error _ => False) hxe hc hd (fun l' hl' => (ok l' (List.mem_cons_of_mem _ hl')).fs) o.pg o.pt (inner hxe hc he ls (i + 1) hd1 fun l' hl' => ok l' (List.mem_cons_of_mem _ hl')) rfl T (fun s' z => fin s' z)
        (fun _ hn b hb => ⟨hn b hb, (f2 b hb).2⟩) turn (I2.weak (wipe_length _ _) (fun j v e => (wipe_some e).1)) st2 (fun b hb => (f2 b hb).1) w0
    exact start_in h0 loop (T.self Y.A 0 _ _ _ st2 loop)
end
/-! ### the whole -/
def tLcN (wi : TI) (l : Lv) (ls : List Lv) (te : TE) : TE := fun σ H Q => wi σ H fun J H1 => ∀ D, H1 D = none → ∃ W : Nat → Nat → Hp → Prop, (∃ m, W 0 m (upd H1 D (.lst []))) ∧ ∀ j k H, W j k H →
  (J.stop j H ∧ Q (.ref D) H) ∨ (J.go j H ∧ ∃ N1 : Hp → Prop, (∀ H', N1 H' → ∃ k', k' < k ∧ W (j + 1) k' H') ∧
    ∀ x H', J.yld j H x H' → l.g x (wipe σ (restV (l :: ls))) H' fun σ2 H2 => wipe σ2 (restV (l :: ls)) = wipe σ (restV (l :: ls)) ∧ l.tt σ2 H2 fun b H3 => if b = true then tIn D te ls σ2 H3 N1 else N1 H3)
section
variable {X : Cx} {elt : Expr} {te : TE} {scope : Scope} {pos : Pos} {own : List (Str × Nat)} {l : Lv} {ls : List Lv} {wi : TI}
theorem pe_lcN (hc : X.calm = true) (hN : X.N.Nodup) (hi : PI X l.tg l.iter wi) (hs : ∀ x, foldedSetIterable l.iter X.env x = pure x) (ok : BlkOk X.N X.env.scope scope own) (hV : restV (l :: ls) = own.map (·.2))
    (hl : ∀ (s : Shared) (H : Hp) (C : Addr) (cl : List (Str × Addr)) (fp : List Addr), let Y := X.blk s H scope (compEnvC scope cl C X.env) fp; PG Y l.tg l.g ∧ PTs Y l.ifs l.tt ∧ PE Y elt te ∧ ∀ l' ∈ ls, LvOk Y l') :
    PE X (.ListComp elt (l.c :: ls.map Lv.c) scope pos) (tLcN wi l ls te) := by
  refine ⟨fun pins s σ H Q I h => ?_⟩
  rw [eval_ListComp]
  have hfree : ∀ y ∈ scope.names, y.2 = .free → ∃ c, X.env.cells.lookup y.1 = some c := fun y hy e => (ok.free y hy e).elim (fun k => I.ok.has _ (.inl k)) fun k => I.ok.has _ (.inr k)
  refine wpAny_comprehension_free (g := l.c) (gs := ls.map Lv.c) rfl hs (closure_ok hfree) ok.kind (fun y hy e => by rw [ok.uniq y hy, e]) (thn (hi.run pins s σ H _ I h) fun xv s1 hx => thn hx fun itv s2 h2 => ?_)
  obtain ⟨it, fp, tn, J, H2, e, I2, T, st2, f2, q⟩ := h2
  subst e
  refine wpAny_newObj_type (newEnv_comp ?_) (by show 0 ≤ sizeLine; decide)
  generalize hD : s2.heap.objs.size = D
  have hDn : H2 D = none := I2.hok.fresh (Nat.le_of_eq hD)
  obtain ⟨W, ⟨m0, w0⟩, turn⟩ := q D hDn
  generalize hs3 : ({ s2 with heap := s2.heap.push { cls := .type "list", data := .seq ([] : List Value).toArray } } : Shared) = s3
  have h3 : s3.heap = s2.heap.push { cls := .type "list", data := .seq ([] : List Value).toArray } := by rw [← hs3]
  have I3 : Inv X pins σ (upd H2 D (.lst [])) s3 := by
    rw [← hs3]
    refine I2.laid (t' := s2.toks) (fun b o e => Heap.get?_push_of_some _ e) (Nat.le_of_eq hD) ⟨Nat.zero_le _, [], 0, .nil, ?_⟩
    rw [← hD]
    exact Heap.get?_push_size _ rfl
  have lt2 : ∀ b ∈ fp, b < s2.heap.objs.size := fun b hb => let ⟨o, e, _⟩ := T.obj _ _ st2 b hb; Heap.lt_size e
  have f3 : ∀ b ∈ fp, FpOk X pins (upd H2 D (.lst [])) b ∧ b < s3.heap.objs.size := fun b hb => by
    have hlt := lt2 b hb
    refine ⟨⟨?_, (f2 b hb).2⟩, by rw [h3, Heap.size_push]; exact Nat.lt_succ_of_lt hlt⟩
    rw [upd_ne (by rw [← hD]; exact Nat.ne_of_lt hlt)]
    exact (f2 b hb).1
  have st3 : tn 0 s3.heap := T.keep _ _ _ st2 fun b _ o e => by rw [h3]; exact Heap.get?_push_of_some _ e
  have I4 := block_start I3 ok hN f3
  have hY := hl s3 (upd H2 D (.lst [])) s3.heap.objs.size (cellsFrom (s3.heap.objs.size + 1) scope.names (cloFrom X.env.cells scope.names [])) fp
  show codeAny _ _ (.compStart (.ListComp elt (l.c :: ls.map Lv.c) scope pos) 0 (.ref it) (.ref D) (compEnvC scope (cellsFrom (s3.heap.objs.size + 1) scope.names (cloFrom X.env.cells scope.names [])) s3.heap.objs.size X.env)) (compPost (model X.prog X.w) X.A X.xe none _ (.ref D) s3.heap.objs.size) { s3 with heap := pushCells (s3.heap.push { cls := .type "dict", data := .dict #[] }) scope.names }
  have nfp : ∀ b ∈ fp, (upd H2 D (.lst [])) b = none := fun b hb => (f3 b hb).1.1
  generalize hce : compEnvC scope (cellsFrom (s3.heap.objs.size + 1) scope.names (cloFrom X.env.cells scope.names [])) s3.heap.objs.size X.env = ce at I4 hY ⊢
  have cL : ce.locals = s3.heap.objs.size := by subst hce; rfl
  generalize hs4 : ({ s3 with heap := pushCells (s3.heap.push { cls := .type "dict", data := .dict #[] }) scope.names } : Shared) = s4 at I4 ⊢
  have st4 : tn 0 s4.heap := T.keep _ _ _ st3 fun b _ o e => by rw [← hs4]; exact pushCells_keeps _ _ _ _ (Heap.get?_push_of_some _ e)
  obtain ⟨y1, y2, y3, y4⟩ := hY
  have loop := loopLv (Y := X.blk s3 (upd H2 D (.lst [])) scope ce fp) (l := l) (ls := ls) (i := 0) (D := D) (te := te) (elt := elt) (scope := scope) (pos := pos) (gens := l.c :: ls.map Lv.c) (pins := []) (σ := σ) (V := own.map (·.2)) (fp := fp) (tn := tn) (J := J) (it := it)
    (Nx := fun H' => Q (.ref D) H') (R := compPost (model X.prog X.w) X.A X.xe none (EP X pins σ Q) (.ref D) s3.heap.objs.size) (W := W) (m0 := m0) (H2 := upd H2 D (.lst [])) (s2 := s4)
    rfl hc rfl (fun l' hl' => (y4 l' hl').fs) y1 y2 (inner (Y := X.blk s3 (upd H2 D (.lst [])) scope ce fp) rfl hc y3 ls 1 rfl y4) hV T ?fin ?stat (by rw [← hV]; exact turn) I4 st4 nfp w0
  case fin =>
    rintro s6 ⟨σ', H5, I6, hw, qq⟩
    have I7 : Inv X pins σ H5 s6 := I3.call' (ch := fp) I6.os I6.base I6.hok I6.bare fun b hb => ⟨(f3 b hb).1.2.2.2.1, (f3 b hb).1.2.1, (f3 b hb).1.2.2.2.2.1, (f3 b hb).1.2.2.2.2.2⟩
    have nC : H5 s3.heap.objs.size = none := by
      have z : H5 ce.locals = none := I6.free
      rwa [cL] at z
    obtain ⟨m, hn, _⟩ := I6.loc
    have hn : s6.heap.Ns ce.locals m := hn
    rw [cL] at hn
    obtain ⟨g0, g1, g2, g3, g4, g5⟩ := I3.fpOk (Nat.le_refl _) nC
    exact ⟨m, hn, fun h'' sb => ⟨.ref D, H5, I7.turned (t' := s6.toks) (fun b o hb e => (sb.2 b hb).trans e) nC g1 g3 g4 g5, rfl, qq⟩⟩
  case stat =>
    intro H' s' σ' I' hn b hb
    exact ⟨hn b hb, (I'.ok.exf b hb).1, I'.ok.exfs b hb, .inl hb, fun x c e => (I'.ok.exf b hb).2 x c e, fun p hp => absurd (show p ∈ ([] : List (Addr × Obj)) ++ [] from hp) (by simp)⟩
  exact codeAny_compStart_list loop (T.self X.A 0 _ _ _ st4 loop)
end
end DL
/-! DLs: comprehensions with any number of fors, by data. -/
namespace DL
open PySem PySem.Spec PyProof.Rows L2
/-- a source as it runs -/
def tI (X : Cx) (tg iter : Expr) : TI := fun σ H R => ∀ pins s, Inv X pins σ H s → wpAny (model X.prog X.w) X.A (eval iter X.env) (fun v s1 => wpAny (model X.prog X.w) X.A (pyIter v) (PIE X pins σ tg R) X.xe s1) X.xe s
theorem pi_tI {X : Cx} {tg iter : Expr} : PI X tg iter (tI X tg iter) := ⟨fun pins s σ H R I h => h pins s I⟩
theorem WI.ev {X : Cx} {tg iter : Expr} {env : DEnv} {C : CS} {kI : KI} (h : WI X tg iter env C kI) : EvI X.K (tI X tg iter) env C kI := fun G σ H R w er q pins s I => by
  obtain ⟨wi, hi, hw⟩ := h
  exact hi.run pins s σ H R I (hw G σ H R w er q)
/-- a clause by syntax: its target's reading and its names -/
structure Cl where
  tg : Expr
  iter : Expr
  ifs : List Expr
  g : TG
  vs : List Nat
def Cl.lv (X : Cx) (scope : Scope) (c : Cl) : Lv := ⟨c.tg, c.iter, c.ifs, fun σ H R => ∀ X', Blk X scope X' → tI X' c.tg c.iter σ H R, c.g, fun σ H Q => ∀ X', Blk X scope X' → tPIf X' c.ifs σ H Q, c.vs⟩
def restC (cs : List Cl) : List Nat := (cs.map (·.vs)).flatten
theorem restV_lv {X : Cx} {scope : Scope} : ∀ cs : List Cl, restV (cs.map (Cl.lv X scope)) = restC cs
  | [] => rfl
  | c :: cs => by
    show c.vs ++ restV (cs.map (Cl.lv X scope)) = _
    rw [restV_lv cs]; rfl
def DIn (X : Cx) (scope : Scope) (elt : Expr) : List Cl → DEnv → List D → CS → (List D → CS → Prop) → Prop
  | [], env, acc, C, k => ∀ X', Blk X scope X' → WE X' elt env C fun y C1 => acc.length < sizeLine ∧ k (acc ++ [y]) C1
  | c :: cs, env, acc, C, k => ∀ X', Blk X scope X' → WI X' c.tg c.iter env C fun xs Pc C1 => ∃ Iv : Nat → List D → CS → Prop, Iv 0 acc C1 ∧ (∀ j acc C, Iv j acc C → Pc C) ∧
      (∀ j d acc C, xs[j]? = some d → Iv j acc C → EvGW X.K c.g (restC (c :: cs)) d env C fun env2 C2 => ∀ X', Blk X scope X' → WIf X' c.ifs env2 C2 fun t C3 => (t = true → DIn X scope elt cs env2 acc C3 (Iv (j + 1))) ∧ (t = false → Iv (j + 1) acc C3)) ∧
      (∀ acc C, Iv xs.length acc C → k acc C)
/-- the world with the hidden list -/
structure Hd (K : PySem.W.Frag) (G0 : Hp) (C0 : CS) (H0 : Hp) (Da : Addr) (G : Hp) (C : CS) (H : Hp) (acc : List D) : Prop where
  f : Fr G0 C0 H0 G C H
  w : Wld K G C H
  l : ∃ vs, H Da = some (.lst vs) ∧ DatAll K G vs acc
  c : C Da = none
  g : G Da = none
section
variable {K : PySem.W.Frag} {G0 H0 : Hp} {C0 : CS} {Da : Addr} {G H G' H' : Hp} {C C' : CS} {acc : List D}
theorem Hd.step (h : Hd K G0 C0 H0 Da G C H acc) (f : Fr G C H G' C' H') (w : Wld K G' C' H') : Hd K G0 C0 H0 Da G' C' H' acc := by
  obtain ⟨vs, h1, h2⟩ := h.l
  refine ⟨h.f.trans f, w, ⟨vs, f.keep _ _ h1 h.c, h2.mono f.exG⟩, ?_, ?_⟩
  · cases e : C' Da with
    | none => rfl
    | some c => exact absurd h.c (f.newC Da (by rw [h1]; simp) (by rw [e]; simp))
  · cases e : G' Da with
    | none => rfl
    | some c => exact ((f.newG Da (by rw [h1]; simp) (by rw [e]; simp)).elim (fun z => z h.g) fun z => z h.c).elim
theorem Hd.add (hD : H0 Da = none) (h : Hd K G0 C0 H0 Da G C H acc) {v : V} {y : D} {vs : List V} (hv : H Da = some (.lst vs)) (r : DatAll K G vs acc) (ry : Dat K G v y) : Hd K G0 C0 H0 Da G C (upd H Da (.lst (vs ++ [v]))) (acc ++ [y]) := by
  refine ⟨⟨h.f.exG, fun a o e c => ?_, fun a e => ?_, h.f.newC, h.f.newG⟩, ⟨fun a o e => by rw [upd_ne (ne_of_none e h.g)]; exact h.w.ex a o e, fun a c e => ?_⟩, ⟨_, upd_same, r.append (.cons ry .nil)⟩, h.c, h.g⟩
  · by_cases q : a = Da
    · subst q; rw [hD] at e; cases e
    · rw [upd_ne q]; exact h.f.keep a o e c
  · by_cases q : a = Da
    · subst q; rw [upd_same]; simp
    · rw [upd_ne q]; exact h.f.dom a e
  · obtain ⟨h1, h2⟩ := h.w.cell a c e
    exact ⟨h1, h2.mono (fun _ _ h => h) (upd_ne (cell_ne e h.c))⟩
end
section
variable {X : Cx} {scope : Scope} {elt : Expr} {G0 H0 : Hp} {C0 : CS} {Da : Addr}
theorem inD (hD : H0 Da = none) : ∀ (cs : List Cl) (env : DEnv) (acc : List D) (C : CS) (k : List D → CS → Prop) (σ : L2.St) (G H : Hp) (Nx : Hp → Prop), Hd X.K G0 C0 H0 Da G C H acc → EnvR X.K G env σ → DIn X scope elt cs env acc C k →
    (∀ G' C' H' acc', Same G G' → Hd X.K G0 C0 H0 Da G' C' H' acc' → k acc' C' → Nx H') → tIn Da (fun σ H Q => ∀ X', Blk X scope X' → tS X' elt σ H Q) (cs.map (Cl.lv X scope)) σ H Nx
  | [], env, acc, C, k, σ, G, H, Nx, hd, er, h, fin => fun X' hX => by
    have h1 := h X' hX
    obtain ⟨s, H1, Ca, cl, fp, rfl⟩ := hX
    refine h1 G σ H _ hd.w er fun y G6 C6 H6 d6 f6 w6 r6 z => ?_
    have hd6 := hd.step f6 w6
    obtain ⟨vs, hv, hr⟩ := hd6.l
    exact ⟨vs, hv, by rw [hr.length]; exact z.1, fin _ _ _ _ f6.exG (hd6.add hD hv hr r6) z.2⟩
  | c :: cs, env, acc, C, k, σ, G, H, Nx, hd, er, h, fin => fun X' hX => by
    have h1 := (h X' hX).ev
    obtain ⟨s, H1, Ca, cl, fp, rfl⟩ := hX
    refine h1 G σ H _ hd.w er fun J G1 C1 H1 xs Pc f1 w1 it z => ?_
    obtain ⟨Iv, i0, hP, turn, done⟩ := z
    have hd1 := hd.step f1 w1
    refine ⟨fun i m H2 => m = xs.length - i ∧ i ≤ xs.length ∧ ∃ G2 C2 acc2, Same G1 G2 ∧ Hd X.K G0 C0 H0 Da G2 C2 H2 acc2 ∧ Iv i acc2 C2, ⟨xs.length, rfl, Nat.zero_le _, G1, C1, acc, fun _ _ h => h, hd1, i0⟩, ?_⟩
    rintro i m H2 ⟨rfl, hi2, G2, C2, acc2, s2, hd2, i2⟩
    obtain ⟨go, stop⟩ := it G2 C2 H2 s2 hd2.w (hP _ _ _ i2)
    by_cases hlt : i < xs.length
    · obtain ⟨hgo, hy⟩ := go i xs[i] (by simp [hlt])
      refine .inr ⟨hgo, fun H' => i + 1 ≤ xs.length ∧ ∃ G2 C2 acc2, Same G1 G2 ∧ Hd X.K G0 C0 H0 Da G2 C2 H' acc2 ∧ Iv (i + 1) acc2 C2, fun H' z => ⟨xs.length - (i + 1), by omega, rfl, z⟩, fun x H3 hx => ?_⟩
      obtain ⟨G3, f3, w3, r3⟩ := hy x H3 hx
      have hd3 := hd2.step f3 w3
      have t1 := turn i xs[i] acc2 C2 (by simp [hlt]) i2 G3 σ H3 x
      change c.g x (wipe σ (restV (Cl.lv X scope c :: cs.map (Cl.lv X scope)))) H3 _
      rw [show restV (Cl.lv X scope c :: cs.map (Cl.lv X scope)) = restC (c :: cs) from restV_lv (c :: cs)]
      refine t1 _ w3 (er.mono (f1.exG.trans (s2.trans f3.exG))) r3 ?_
      intro G4 C4 H4 σ4 env4 f4 w4 er4 h4 X' hX
      have h5 := h4 X' hX
      have hd4 := hd3.step f4 w4
      obtain ⟨s0, H00, Ca, cl, fp, rfl⟩ := hX
      refine h5 G4 σ4 H4 _ w4 er4 fun t G5 C5 H5 f5 w5 ht => ?_
      have hd5 := hd4.step f5 w5
      have s5 : Same G1 G5 := s2.trans (f3.exG.trans (f4.exG.trans f5.exG))
      cases t with
      | true => exact iteT (inD hD cs env4 acc2 C5 (Iv (i + 1)) σ4 G5 H5 _ hd5 (er4.mono f5.exG) (ht.1 rfl) fun G' C' H' acc' ss hh kk => ⟨hlt, G', C', acc', s5.trans ss, hh, kk⟩)
      | false => exact iteF ⟨hlt, G5, C5, acc2, s5, hd5, ht.2 rfl⟩
    · have e : i = xs.length := by omega
      subst e
      exact .inl ⟨stop _ (Nat.le_refl _), fin _ _ _ _ (f1.exG.trans s2) hd2 (done acc2 C2 i2)⟩
/-- the whole, by data -/
def WIn (X : Cx) (scope : Scope) (elt : Expr) (c : Cl) (cs : List Cl) (env : DEnv) (C : CS) (k : KD) : Prop := WI X c.tg c.iter env C fun xs Pc C1 => ∃ Iv : Nat → List D → CS → Prop, Iv 0 [] C1 ∧ (∀ j acc C, Iv j acc C → Pc C) ∧
  (∀ j d acc C, xs[j]? = some d → Iv j acc C → EvGW X.K c.g (restC (c :: cs)) d env C fun env2 C2 => ∀ X', Blk X scope X' → WIf X' c.ifs env2 C2 fun t C3 => (t = true → DIn X scope elt cs env2 acc C3 (Iv (j + 1))) ∧ (t = false → Iv (j + 1) acc C3)) ∧
  (∀ acc C, Iv xs.length acc C → ∀ p, C p = none → k (.own p) (put C p (.lst acc)))
theorem ev_lcN {c : Cl} {cs : List Cl} {env : DEnv} {C : CS} {k : KD} (h : WIn X scope elt c cs env C k) :
    Ev X.K (tLcN (tI X c.tg c.iter) (c.lv X scope) (cs.map (Cl.lv X scope)) (fun σ H Q => ∀ X', Blk X scope X' → tS X' elt σ H Q)) env C k := fun G σ H Q w er q => by
  refine WI.ev h G σ H _ w er fun J G1 C1 H1 xs Pc f1 w1 it z Da hD => ?_
  obtain ⟨Iv, i0, hP, turn, done⟩ := z
  have hn := w1.ne hD
  have h0 : H Da = none := by
    cases e : H Da with
    | none => rfl
    | some o => exact absurd hD (f1.dom Da (by rw [e]; simp))
  have hd1 : Hd X.K G C H Da G1 C1 (upd H1 Da (.lst [])) [] := ⟨f1.trans (Fr.fresh hD), ⟨fun a o e => by rw [upd_ne (ne_of_none e hn.1)]; exact w1.ex a o e, fun a c e => by
    obtain ⟨h1, h2⟩ := w1.cell a c e
    exact ⟨h1, h2.mono (fun _ _ h => h) (upd_ne (cell_ne e hn.2))⟩⟩, ⟨[], upd_same, .nil⟩, hn.2, hn.1⟩
  refine ⟨fun i m H2 => m = xs.length - i ∧ i ≤ xs.length ∧ ∃ G2 C2 acc2, Same G1 G2 ∧ Hd X.K G C H Da G2 C2 H2 acc2 ∧ Iv i acc2 C2, ⟨xs.length, rfl, Nat.zero_le _, G1, C1, [], fun _ _ h => h, hd1, i0⟩, ?_⟩
  rintro i m H2 ⟨rfl, hi2, G2, C2, acc2, s2, hd2, i2⟩
  obtain ⟨go, stop⟩ := it G2 C2 H2 s2 hd2.w (hP _ _ _ i2)
  by_cases hlt : i < xs.length
  · obtain ⟨hgo, hy⟩ := go i xs[i] (by simp [hlt])
    refine .inr ⟨hgo, fun H' => i + 1 ≤ xs.length ∧ ∃ G2 C2 acc2, Same G1 G2 ∧ Hd X.K G C H Da G2 C2 H' acc2 ∧ Iv (i + 1) acc2 C2, fun H' z => ⟨xs.length - (i + 1), by omega, rfl, z⟩, fun x H3 hx => ?_⟩
    obtain ⟨G3, f3, w3, r3⟩ := hy x H3 hx
    have hd3 := hd2.step f3 w3
    have t1 := turn i xs[i] acc2 C2 (by simp [hlt]) i2 G3 σ H3 x
    change c.g x (wipe σ (restV (Cl.lv X scope c :: cs.map (Cl.lv X scope)))) H3 _
    rw [show restV (Cl.lv X scope c :: cs.map (Cl.lv X scope)) = restC (c :: cs) from restV_lv (c :: cs)]
    refine t1 _ w3 (er.mono (f1.exG.trans (s2.trans f3.exG))) r3 ?_
    intro G4 C4 H4 σ4 env4 f4 w4 er4 h4 X' hX
    have h5 := h4 X' hX
    have hd4 := hd3.step f4 w4
    obtain ⟨s0, H00, Ca, cl, fp, rfl⟩ := hX
    refine h5 G4 σ4 H4 _ w4 er4 fun t G5 C5 H5 f5 w5 ht => ?_
    have hd5 := hd4.step f5 w5
    have s5 : Same G1 G5 := s2.trans (f3.exG.trans (f4.exG.trans f5.exG))
    cases t with
    | true => exact iteT (inD h0 cs env4 acc2 C5 (Iv (i + 1)) σ4 G5 H5 _ hd5 (er4.mono f5.exG) (ht.1 rfl) fun G' C' H' acc' ss hh kk => ⟨hlt, G', C', acc', s5.trans ss, hh, kk⟩)
    | false => exact iteF ⟨hlt, G5, C5, acc2, s5, hd5, ht.2 rfl⟩
  · have e : i = xs.length := by omega
    subst e
    obtain ⟨vs, hv, hr⟩ := hd2.l
    obtain ⟨F, w3⟩ := hd2.w.claim hd2.f h0 hv hr hd2.c hd2.g
    exact .inl ⟨stop _ (Nat.le_refl _), q _ _ _ _ _ F w3 (.own Da) (done acc2 C2 i2 Da hd2.c)⟩
theorem we_lcN {own : List (Str × Nat)} {c : Cl} {cs : List Cl} {env : DEnv} {C : CS} {k : KD} {pos : Pos} (hc : X.calm = true) (hN : X.N.Nodup) (ok : BlkOk X.N X.env.scope scope own) (hV : restC (c :: cs) = own.map (·.2))
    (hg : ∀ Y, Blk X scope Y → PG Y c.tg c.g ∧ ∀ c' ∈ cs, PG Y c'.tg c'.g) (hfs : ∀ Y, Blk X scope Y → ∀ c' ∈ cs, ∀ x, foldedSetIterable c'.iter Y.env x = pure x) (hs : ∀ x, foldedSetIterable c.iter X.env x = pure x)
    (h : WIn X scope elt c cs env C k) : WE X (.ListComp elt (⟨c.tg, c.iter, c.ifs, 0⟩ :: cs.map fun c' => ⟨c'.tg, c'.iter, c'.ifs, 0⟩) scope pos) env C k := by
  have p := pe_lcN (X := X) (elt := elt) (te := fun σ H Q => ∀ X', Blk X scope X' → tS X' elt σ H Q) (pos := pos) (l := c.lv X scope) (ls := cs.map (Cl.lv X scope)) hc hN pi_tI hs ok (by rw [← hV]; exact restV_lv (c :: cs)) (fun s H Ca cl fp => by
    have hb : Blk X scope (X.blk s H scope (compEnvC scope cl Ca X.env) fp) := ⟨s, H, Ca, cl, fp, rfl⟩
    obtain ⟨g1, g2⟩ := hg _ hb
    refine ⟨g1, ⟨fun pins s' σ H Q I z => z _ hb pins s' I⟩, ⟨fun pins s' σ H Q I z => z _ hb pins s' I⟩, fun l' hl' => ?_⟩
    obtain ⟨c', hc', rfl⟩ := List.mem_map.mp hl'
    exact ⟨⟨fun pins s' σ H R I z => z _ hb pins s' I⟩, g2 c' hc', ⟨fun pins s' σ H Q I z => z _ hb pins s' I⟩, hfs _ hb c' hc'⟩)
  have e : (c.lv X scope).c :: (cs.map (Cl.lv X scope)).map Lv.c = (⟨c.tg, c.iter, c.ifs, 0⟩ : Comprehension) :: cs.map fun c' => ⟨c'.tg, c'.iter, c'.ifs, 0⟩ := by rw [List.map_map]; rfl
  rw [← e]
  exact .of p (ev_lcN h)
end
theorem wi_ls {X : Cx} {tg e : Expr} {env : DEnv} {C : CS} {kI : KI} (h : WE X e env C fun d C1 => ∃ xs, seqR C1 d = some xs ∧ kI xs (ownP d xs) C1) : WI X tg e env C kI := by
  refine wi_list (h.imp ?_)
  rintro d C1 ⟨xs, hs, hk⟩
  refine ⟨xs, hs, ?_⟩
  have e1 : (∀ a, d ≠ .own a) → ownP d xs = fun _ => True := fun hn => by
    funext C2
    exact propext ⟨fun _ => trivial, fun _ a z => absurd z (hn a)⟩
  cases d with
  | own a =>
    have : ownP (.own a) xs = fun C2 => C2 a = some (.lst xs) := by
      funext C2
      exact propext ⟨fun z => z a rfl, fun z b e => by cases e; exact z⟩
    rw [this] at hk
    exact hk
  | lst ys => rw [e1 (fun _ => by simp)] at hk; exact hk
  | slst ys => rw [e1 (fun _ => by simp)] at hk; exact hk
  | _ => simp [seqR] at hs
end DL
/-! DLt: what is made and then stands still: lists frozen wherever they are made; == of lists' cells; repr's bound. -/
namespace DL
open PySem PySem.Spec PyProof.Rows L2 RZ
/-- a value is taken on, a list's cell frozen -/
def FrzA (k : KD) : KD := fun d C1 => (∃ a ds, d = .own a ∧ C1 a = some (.lst ds) ∧ k (.lst ds) (del C1 a)) ∨ ((∀ a, d ≠ .own a) ∧ k d C1)
theorem ev_frzA {K : PySem.W.Frag} {te : TE} {env : DEnv} {C : CS} {k : KD} (h : Ev K te env C (FrzA k)) : Ev K te env C k := fun G σ H Q w er q =>
  h G σ H _ w er fun v G1 C1 H1 d f1 w1 d1 hb => by
    rcases hb with ⟨a, ds, rfl, hc, h2⟩ | ⟨_, h2⟩
    · cases d1
      obtain ⟨G2, w2, f2, r2⟩ := w1.freeze hc
      exact q _ _ _ _ _ (f1.trans f2) w2 r2 h2
    · exact q _ _ _ _ _ f1 w1 d1 h2
section
variable {X : Cx} {e a b : Expr} {es : List Expr} {env : DEnv} {C : CS} {k : KD} {pos p p1 p2 : Pos} {P : Program} {w : World} {K : PySem.W.Frag} {mg : Str → Option Value} {base : Heap} {m : Nat}
theorem we_fa (h : WE X e env C (FrzA k)) : WE X e env C k := ev_frzA h
theorem x_addA (h : WE X a env C fun x C1 => WE X b env C1 fun y C2 => dAdd x y C2 (FrzA k)) : WE X (.BinOp a .Add b pos) env C k := we_fa (we_add h)
theorem x_mulA (h : WE X a env C fun x C1 => WE X b env C1 fun y C2 => dMul x y C2 (FrzA k)) : WE X (.BinOp a .Mult b pos) env C k := we_fa (we_mul h)
theorem x_sliceA {lo hi : Option Expr} {p2 : Pos} (h : WE X a env C fun x C1 => WO X lo env C1 fun l C2 => WO X hi env C2 fun u C3 => dSl x l u C3 (FrzA k)) : WE X (.Subscript a (.Slice lo hi none p2) pos) env C k := we_fa (we_slice h)
theorem x_listA (hx : Ctx P w K mg base m X) (Z : Zs mg) (hg : Gl X "list") (h : WA X (e :: es) env C fun ds C1 => dList ds C1 (FrzA k)) (he : starEach (e :: es) X.env = (false, eval e X.env) :: starEach es X.env := by rfl) (hpl : (backTo pos (starEach es X.env)).any (·.1) = false := by rfl) : WE X (.Call (.Name "list" p) (e :: es) [] pos) env C k := we_fa (x_listC hx Z hg h he hpl)
end
section
variable {C : CS} {k : KD} {x : D} {xs ys : List D} {i j : Int} {p : Addr} {s t : Str} {lo hi : Option Int} {b : Bool}
theorem fa_int (q : k (.int i) C) : FrzA k (.int i) C := .inr ⟨fun _ z => (by cases z), q⟩
theorem fa_str (q : k (.str s) C) : FrzA k (.str s) C := .inr ⟨fun _ z => (by cases z), q⟩
theorem fa_bl (q : k (.bl b) C) : FrzA k (.bl b) C := .inr ⟨fun _ z => (by cases z), q⟩
theorem fa_non (q : k .non C) : FrzA k .non C := .inr ⟨fun _ z => (by cases z), q⟩
theorem fa_tup (q : k (.tup xs) C) : FrzA k (.tup xs) C := .inr ⟨fun _ z => (by cases z), q⟩
theorem fa_lst (q : k (.lst xs) C) : FrzA k (.lst xs) C := .inr ⟨fun _ z => (by cases z), q⟩
theorem fa_put (h : C p = none) (q : k (.lst xs) C) : FrzA k (.own p) (put C p (.lst xs)) := .inl ⟨p, xs, rfl, put_same, by rw [del_put h]; exact q⟩
theorem slA_o {a : Addr} (hc : C a = some (.lst xs)) (q : k (.lst (cutD xs lo hi)) C) : dSl (.own a) lo hi C (FrzA k) := sl_o hc fun _ hp => fa_put hp q
theorem slA_p (q : k (.lst (cutD xs lo hi)) (put C p (.lst xs))) : dSl (.own p) lo hi (put C p (.lst xs)) (FrzA k) := slA_o put_same q
theorem slA_f (q : k (.lst (cutD xs lo hi)) C) : dSl (.lst xs) lo hi C (FrzA k) := sl_f fun _ hp => fa_put hp q
theorem slA_t (q : k (.tup (cutD xs lo hi)) C) : dSl (.tup xs) lo hi C (FrzA k) := sl_t (fa_tup q)
theorem slA_z (hl : s.length ≤ sizeLine) (q : k (.str (cutS s lo hi)) C) : dSl (.str s) lo hi C (FrzA k) := sl_z hl (fa_str q)
theorem addA_ll (h : xs.length + ys.length ≤ sizeLine) (q : k (.lst (xs ++ ys)) C) : dAdd (.lst xs) (.lst ys) C (FrzA k) := add_lst rfl rfl h fun _ hp => fa_put hp q
theorem addA_ol {a : Addr} (hc : C a = some (.lst xs)) (h : xs.length + ys.length ≤ sizeLine) (q : k (.lst (xs ++ ys)) C) : dAdd (.own a) (.lst ys) C (FrzA k) := add_lst (seqL_own hc) rfl h fun _ hp => fa_put hp q
theorem addA_pl (h : xs.length + ys.length ≤ sizeLine) (q : k (.lst (xs ++ ys)) (put C p (.lst xs))) : dAdd (.own p) (.lst ys) (put C p (.lst xs)) (FrzA k) := addA_ol put_same h q
theorem addA_lo {a : Addr} (hc : C a = some (.lst ys)) (h : xs.length + ys.length ≤ sizeLine) (q : k (.lst (xs ++ ys)) C) : dAdd (.lst xs) (.own a) C (FrzA k) := add_lst rfl (seqL_own hc) h fun _ hp => fa_put hp q
theorem addA_ii (q : k (.int (i + j)) C) : dAdd (.int i) (.int j) C (FrzA k) := add_ii (fa_int q)
theorem addA_ss (h : s.length + t.length ≤ sizeLine) (q : k (.str (s ++ t)) C) : dAdd (.str s) (.str t) C (FrzA k) := add_ss h (fa_str q)
theorem addA_tt (h : xs.length + ys.length ≤ sizeLine) (q : k (.tup (xs ++ ys)) C) : dAdd (.tup xs) (.tup ys) C (FrzA k) := add_tt h (fa_tup q)
theorem mulA_ii (h : CMul i j) (q : k (.int (i * j)) C) : dMul (.int i) (.int j) C (FrzA k) := mul_ii h (fa_int q)
theorem mulA_li (h : 0 ≤ i ∧ i ≤ 1000 ∧ xs.length ≤ 100) (q : k (.lst (List.replicate i.toNat xs).flatten) C) : dMul (.lst xs) (.int i) C (FrzA k) := by
  refine ⟨xs, rfl, by omega, by omega, ?_, fun p hp => fa_put hp q⟩
  have : xs.length * i.toNat ≤ 100 * 1000 := Nat.mul_le_mul h.2.2 (by omega)
  exact Nat.le_trans this (by decide)
theorem listA_o {a : Addr} (hc : C a = some (.lst xs)) (q : k (.lst xs) C) : dList [.own a] C (FrzA k) := ⟨_, _, rfl, seqR_own hc, fun _ hp => fa_put hp q⟩
theorem listA_p (q : k (.lst xs) (put C p (.lst xs))) : dList [.own p] (put C p (.lst xs)) (FrzA k) := listA_o put_same q
theorem listA_l (q : k (.lst xs) C) : dList [.lst xs] C (FrzA k) := ⟨_, _, rfl, rfl, fun _ hp => fa_put hp q⟩
theorem listA_t (q : k (.lst xs) C) : dList [.tup xs] C (FrzA k) := ⟨_, _, rfl, rfl, fun _ hp => fa_put hp q⟩
end
/-! ### == of lists' cells -/
theorem eqL_refl {xs : List D} {n : Nat} (h : ∀ d ∈ xs, d.fit n = true) : eqL xs xs = true := SeqAt.eqvAll_refl _ (fitL_lay xs (fitL_all.mpr h))
theorem eqv_fit {d : D} {n : Nat} (h : d.fit n = true) : PyData.eqv d.py d.py = true := SeqAt.eqv_refl _ (fit_lay d h)
theorem pyC_own {C : CS} {a : Addr} {xs : List D} {n : Nat} (hc : C a = some (.lst xs)) (h : ∀ d ∈ xs, d.fit n = true) : pyC C (.own a) = some (.list (pyL xs)) := by
  unfold pyC
  simp only [hc]
  rw [if_pos (fitL_py xs (fitL_all.mpr h))]
theorem shaped_lst {xs : List D} {n : Nat} (h : ∀ d ∈ xs, d.fit n = true) (hn : n < 64) : SeqAt.shaped (.list (pyL xs)) = true := by
  have := fit_ok (d := .lst xs) (n := n + 1) (fit_lstI h) (by omega)
  unfold D.ok at this
  rw [Bool.and_eq_true] at this
  exact this.2
section
variable {C : CS} {k : KD} {a b : Addr} {xs ys : List D} {n m : Nat}
theorem eq_oo (ha : C a = some (.lst xs)) (hb : C b = some (.lst ys)) (hx : ∀ d ∈ xs, d.fit n = true) (hy : ∀ d ∈ ys, d.fit m = true) (hn : n < 64) (hm : m < 64) (q : k (.bl (eqL xs ys)) C) : dEq false (.own a) (.own b) C k :=
  .inl ⟨_, _, pyC_own ha hx, pyC_own hb hy, shaped_lst hx hn, shaped_lst hy hm, q⟩
theorem eq_ol (ha : C a = some (.lst xs)) (hx : ∀ d ∈ xs, d.fit n = true) (hy : ∀ d ∈ ys, d.fit m = true) (hn : n < 64) (hm : m < 64) (q : k (.bl (eqL xs ys)) C) : dEq false (.own a) (.lst ys) C k := by
  refine .inl ⟨_, .list (pyL ys), pyC_own ha hx, ?_, shaped_lst hx hn, shaped_lst hy hm, q⟩
  unfold pyC
  simp only [D.isPy, fitL_py ys (fitL_all.mpr hy), if_true, D.py]
theorem eq_lo (hb : C b = some (.lst ys)) (hx : ∀ d ∈ xs, d.fit n = true) (hy : ∀ d ∈ ys, d.fit m = true) (hn : n < 64) (hm : m < 64) (q : k (.bl (eqL xs ys)) C) : dEq false (.lst xs) (.own b) C k := by
  refine .inl ⟨.list (pyL xs), _, ?_, pyC_own hb hy, shaped_lst hx hn, shaped_lst hy hm, q⟩
  unfold pyC
  simp only [D.isPy, fitL_py xs (fitL_all.mpr hx), if_true, D.py]
theorem eq_ll (hx : ∀ d ∈ xs, d.fit n = true) (hy : ∀ d ∈ ys, d.fit m = true) (hn : n < 64) (hm : m < 64) (q : k (.bl (eqL xs ys)) C) : dEq false (.lst xs) (.lst ys) C k := eq_fit (fit_lstI hx) (fit_lstI hy) q (by omega) (by omega)
end
/-! ### repr: data whose text is short -/
mutual
/-- how many parts it has (signs of texts among them) -/
def D.wt : D → Nat
  | .int _ => 200
  | .str x => x.cps.size
  | .lst xs | .slst xs | .tup xs => wtL xs
  | _ => 0
def wtL : List D → Nat
  | [] => 0
  | d :: ds => d.wt + 1 + wtL ds
end
mutual
/-- its ints have at most sixty figures -/
def D.shI : D → Bool
  | .int i => decide (i.natAbs < 10 ^ 60)
  | .lst xs | .slst xs | .tup xs => shL xs
  | _ => true
def shL : List D → Bool
  | [] => true
  | d :: ds => d.shI && shL ds
end
theorem shL_all : ∀ {ds : List D}, shL ds = true ↔ ∀ d ∈ ds, d.shI = true
  | [] => by simp [shL]
  | d :: ds => by simp [shL, shL_all (ds := ds)]
theorem wtL_le {W : Nat} : ∀ {ds : List D}, (∀ d ∈ ds, d.wt ≤ W) → wtL ds ≤ ds.length * (W + 1)
  | [], _ => Nat.zero_le _
  | d :: ds, h => by
    have h1 := h d List.mem_cons_self
    have h2 := wtL_le (ds := ds) fun x hx => h x (List.mem_cons_of_mem _ hx)
    simp only [wtL, List.length_cons]
    rw [Nat.add_mul, Nat.one_mul]
    omega
theorem int_log {i : Int} (h : i.natAbs < 10 ^ 60) : (if (i == 0) = true then 0 else i.natAbs.log2 + 1) ≤ 200 := by
  split
  · omega
  · rename_i z
    have z : i.natAbs ≠ 0 := by simpa using z
    have := (Nat.log2_lt (n := i.natAbs) (k := 200) z).mpr (Nat.lt_trans h (by decide +kernel))
    omega
mutual
theorem wt_py : ∀ (d : D) {n : Nat}, d.fit n = true → d.shI = true → d.py.weight ≤ d.wt ∧ d.py.leavesShort 61 = true ∧ d.py.showable = true ∧ d.py.hasDict = false
  | .non, _, _, _ | .bl _, _, _, _ => ⟨Nat.le_refl _, rfl, rfl, rfl⟩
  | .int i, _, _, h => by
    have h : i.natAbs < 10 ^ 60 := by simpa [D.shI] using h
    refine ⟨int_log h, ?_, ?_, rfl⟩
    · simp only [D.py, PyData.leavesShort, decide_eq_true_eq]
      have e := int_text_length_le10 (k := 60) (by decide) h
      show (Str.ofString (toString i)).length ≤ 61
      rw [PySem.ofString_length]; exact e
    · simp only [D.py, PyData.showable, decide_eq_true_eq]
      by_cases z : i.natAbs = 0
      · rw [z]; decide
      · exact (Nat.log2_lt z).mpr (Nat.lt_trans h (by decide +kernel))
  | .str x, n, h, _ => by
    have hx : PyData.strOk x = true := by cases n <;> exact h
    exact ⟨Nat.le_refl _, PyData.leavesShort_of_canLay0 61 (.str x) hx rfl, rfl, rfl⟩
  | .lst xs, 0, h, _ | .slst xs, 0, h, _ | .tup xs, 0, h, _ => by simp [D.fit] at h
  | .lst xs, n + 1, h, s => wtL_py xs (n := n) (by simpa [D.fit] using h) (by simpa [D.shI] using s)
  | .slst xs, n + 1, h, s => wtL_py xs (n := n) (by simpa [D.fit] using h) (by simpa [D.shI] using s)
  | .tup xs, n + 1, h, s => wtL_py xs (n := n) (by simpa [D.fit] using h) (by simpa [D.shI] using s)
  | .obj _ _ _, n, h, _ => by cases n <;> simp [D.fit] at h
  | .own _, n, h, _ => by cases n <;> simp [D.fit] at h
  | .opq _, n, h, _ => by cases n <;> simp [D.fit] at h
theorem wtL_py : ∀ (ds : List D) {n : Nat}, fitL n ds = true → shL ds = true → PyData.weightAll (pyL ds) ≤ wtL ds ∧ PyData.leavesShortAll 61 (pyL ds) = true ∧ PyData.showableAll (pyL ds) = true ∧ PyData.hasDictAll (pyL ds) = false
  | [], _, _, _ => ⟨Nat.le_refl _, rfl, rfl, rfl⟩
  | d :: ds, n, h, s => by
    simp only [fitL, shL, Bool.and_eq_true] at h s
    obtain ⟨a, b, c, e⟩ := wt_py d h.1 s.1
    obtain ⟨a', b', c', e'⟩ := wtL_py ds h.2 s.2
    refine ⟨?_, ?_, ?_, ?_⟩
    · simp only [pyL, PyData.weightAll, wtL]; omega
    · simp only [pyL, PyData.leavesShortAll, b, b', Bool.and_self]
    · simp only [pyL, PyData.showableAll, c, c', Bool.and_self]
    · simp only [pyL, PyData.hasDictAll, e, e', Bool.or_self]
end
theorem repr_len {x : D} {n : Nat} (hf : x.fit n = true) (hs : x.shI = true) (hw : x.wt ≤ 200000) : x.py.shown.length ≤ sizeLine := by
  obtain ⟨a, b, _, _⟩ := wt_py x hf hs
  have h := PyData.shown_le 61 (by decide) x.py b
  have : (61 + 2) * x.py.weight ≤ 63 * 200000 := Nat.mul_le_mul (by decide) (by omega)
  rw [sizeLine_eq]
  omega
section
variable {C : CS} {k : KD} {x : D} {n : Nat} {a : Addr} {xs : List D}
theorem repr_ok (hf : x.fit n = true) (hn : n ≤ 60) (hs : x.shI = true) (hw : x.wt ≤ 200000) (q : k (.str x.py.shown) C) : dRepr [x] C k := by
  obtain ⟨_, b, c, d⟩ := wt_py x hf hs
  refine ⟨x, x.py, rfl, ?_, c, d, Nat.le_trans (fit_depth x hf) hn, repr_len hf hs hw, q⟩
  have hp := fit_py x hf
  cases x <;> first | (unfold pyC; simp only [hp]; rfl) | (simp [D.isPy] at hp)
theorem repr_o (hc : C a = some (.lst xs)) (hf : ∀ d ∈ xs, d.fit n = true) (hn : n < 60) (hs : ∀ d ∈ xs, d.shI = true) (hw : wtL xs ≤ 200000) (q : k (.str (D.lst xs).py.shown) C) : dRepr [.own a] C k := by
  have hf' : (D.lst xs).fit (n + 1) = true := fit_lstI hf
  have hs' : (D.lst xs).shI = true := by simp only [D.shI]; exact shL_all.mpr hs
  obtain ⟨_, b, c, d⟩ := wt_py (.lst xs) hf' hs'
  exact ⟨.own a, (D.lst xs).py, rfl, pyC_own hc hf, c, d, Nat.le_trans (fit_depth _ hf') hn, repr_len hf' hs' hw, q⟩
end
end DL
namespace DL
open PySem PySem.Spec PyProof.Rows L2
/-- a list that a name has is frozen -/
theorem wss_frzI {X : Cx} {sts : List Stmt} {env : DEnv} {C : CS} {E : DEnds} (i : Nat) {p : Addr} {ds : List D} (he : env[i]? = some (some (.own p))) (hc : C p = some (.lst ds)) (h : WSs X sts (env.set i (some (.lst ds))) (del C p) E) : WSs X sts env C E := fun G σ H D0 w er q => by
  obtain ⟨G2, w2, f2, r2⟩ := w.freeze hc
  obtain ⟨v, h1, h2⟩ := er.2 i _ he
  cases h2
  have er2 : EnvR X.K G2 (env.set i (some (.lst ds))) σ := by
    have := (er.mono f2.exG).set i r2
    have hσ : σ.set i (some (.ref p)) = σ := by
      apply List.ext_getElem?
      intro j
      by_cases e : i = j
      · subst e
        rw [List.getElem?_set_self (List.getElem?_eq_some_iff.mp h1).1, h1]
      · rw [List.getElem?_set_ne e]
    rw [hσ] at this
    exact this
  exact h G2 σ H D0 w2 er2 (q.after f2)
end DL
/-! DLu: chains of comparisons; tuples backwards; texts in a tuple; tuples of the module; upper. -/
namespace DL
open PySem PySem.Spec PyProof.Rows L2
/-! ### a op b op' c -/
section
variable {K : PySem.W.Frag} {env : DEnv} {C : CS} {ta tb tc : TE} {k : KD} {r r' : R2} {p p' : OpD}
theorem ev_chain (hr : R2D K r p) (hr' : R2D K r' p') (h : Ev K ta env C fun x C1 => Ev K tb env C1 fun y C2 => p x y C2 fun z C3 => ∃ t, z = .bl t ∧ (t = true → Ev K tc env C3 fun w C4 => p' y w C4 k) ∧ (t = false → k (.bl false) C3)) : Ev K (tChain r r' ta tb tc) env C k := fun G σ H Q w er q =>
  h G σ H _ w er fun v G1 C1 H1 x f1 w1 d1 h1 => h1 G1 σ H1 _ w1 (er.mono f1.exG) fun u G2 C2 H2 y f2 w2 d2 h2 => hr v u x y G2 C2 H2 _ _ w2 (d1.mono f2.exG) d2 h2 fun z' G3 C3 H3 z f3 w3 d3 h3 => by
    obtain ⟨t, rfl, h4, h5⟩ := h3
    cases d3
    refine ⟨t, rfl, ?_⟩
    have F := (f1.trans f2).trans f3
    cases t with
    | true => exact iteT (h4 rfl G3 σ H3 _ w3 (er.mono F.exG) fun w' G4 C4 H4 d f4 w4 d4 h6 => hr' u w' y d G4 C4 H4 k Q w4 (d2.mono (f3.trans f4).exG) d4 h6 (q.after (F.trans f4)))
    | false => exact iteF (q _ G3 C3 H3 _ F w3 (.bl false) (h5 rfl))
end
section
variable {X : Cx} {a b c e : Expr} {env : DEnv} {C : CS} {k : KD} {kb : Bool → CS → Prop} {pos : Pos}
theorem we_lele (h : WE X a env C fun x C1 => WE X b env C1 fun y C2 => dB2 (fun i j => decide (i ≤ j)) x y C2 fun z C3 => ∃ t, z = .bl t ∧ (t = true → WE X c env C3 fun w C4 => dB2 (fun i j => decide (i ≤ j)) y w C4 k) ∧ (t = false → k (.bl false) C3))
    (hm : lastMarks [.LtE, .LtE] [b, c] = false := by with_unfolding_all rfl) : WE X (.Compare a [.LtE, .LtE] [b, c] pos) env C k := .of (pe_chain op_le op_le pe_tS pe_tS pe_tS hm) (ev_chain r2_B r2_B h)
theorem wt_lele (h : WE X a env C fun x C1 => WE X b env C1 fun y C2 => dB2 (fun i j => decide (i ≤ j)) x y C2 fun z C3 => ∃ t, z = .bl t ∧ (t = true → WE X c env C3 fun w C4 => dB2 (fun i j => decide (i ≤ j)) y w C4 (tb kb)) ∧ (t = false → kb false C3))
    (hm : lastMarks [.LtE, .LtE] [b, c] = false := by with_unfolding_all rfl) : WT X (.Compare a [.LtE, .LtE] [b, c] pos) env C kb :=
  .of (pt_chain op_le op_le pe_tS pe_tS pe_tS hm) (eb_test (ev_chain r2_B r2_B (h.imp fun x C1 z => WE.imp z fun y C2 z => by
    obtain ⟨i, j, rfl, rfl, t, e, h1, h2⟩ := z
    exact ⟨i, j, rfl, rfl, t, e, h1, fun ht => ⟨false, rfl, h2 ht⟩⟩)))
theorem we_ltle (h : WE X a env C fun x C1 => WE X b env C1 fun y C2 => dB2 (fun i j => decide (i < j)) x y C2 fun z C3 => ∃ t, z = .bl t ∧ (t = true → WE X c env C3 fun w C4 => dB2 (fun i j => decide (i ≤ j)) y w C4 k) ∧ (t = false → k (.bl false) C3))
    (hm : lastMarks [.Lt, .LtE] [b, c] = false := by with_unfolding_all rfl) : WE X (.Compare a [.Lt, .LtE] [b, c] pos) env C k := .of (pe_chain op_lt op_le pe_tS pe_tS pe_tS hm) (ev_chain r2_B r2_B h)
end
/-! ### t[::-1] -/
section
variable {prog : Program} {w : World} {A : Around} {E : Value → Shared → Prop} {s : Shared}
theorem sliceApplied_back {sl : Addr} {vl vu vs : Value} {n : Nat} {Q : Int × Int × Nat → Shared → Prop} (hs : s.heap.IsSliceOf sl vl vu vs) (pl : IsPart vl none) (pu : IsPart vu none) (ps : IsPart vs (some (-1)))
    (h : Q ((n : Int) - 1, -1, n) s) : wpAny (model prog w) A (Builtin.Slice.sliceApplied (.ref sl) (pure (n : Int))) Q E s := by
  obtain ⟨os, hos, hcs, hds⟩ := id hs
  unfold Builtin.Slice.sliceApplied Builtin.Slice.sliceFields
  refine wpAny_bind (wpAny_bind (wpAny_field hos hds (x := vl) rfl (wpAny_bind (wpAny_field hos hds (x := vu) rfl (wpAny_bind (wpAny_field hos hds (x := vs) rfl (wpAny_pure ?_)))))))
  refine wpAny_bind (HT.slicePart_ ps ?_)
  show wpAny _ _ (if ((-1 : Int) == 0) = true then _ else _) _ _ s
  rw [if_neg (by decide)]
  refine wpAny_bind (HT.slicePart_ pl (wpAny_bind (HT.slicePart_ pu (wpAny_bind (wpAny_pure ?_)))))
  show wpAny _ _ (match Builtin.Slice.sliceAdjust none none (-1) (n : Int) with | (lo, hi) => pure (lo, (-1 : Int), Builtin.Slice.slicePlaces lo hi (-1))) _ _ s
  have e1 : Builtin.Slice.sliceAdjust none none (-1) (n : Int) = ((n : Int) - 1, -1) := rfl
  rw [e1]
  show wpAny _ _ (pure ((n : Int) - 1, (-1 : Int), Builtin.Slice.slicePlaces ((n : Int) - 1) (-1) (-1))) _ _ s
  have e2 : Builtin.Slice.slicePlaces ((n : Int) - 1) (-1) (-1) = n := by
    unfold Builtin.Slice.slicePlaces
    rw [if_neg (by decide), show -(-1 : Int) = 1 from rfl, Int.ediv_one]
    split <;> omega
  rw [e2]
  exact wpAny_pure h
theorem pick_back (xs : Array Value) : ((List.range xs.size).filterMap fun (m : Nat) => xs[(((xs.size : Nat) : Int) - 1 + (m : Int) * (-1)).toNat]?).toArray = xs.toList.reverse.toArray := by
  congr 1
  apply List.ext_getElem?
  have e : ((List.range xs.size).filterMap fun (m : Nat) => xs[(((xs.size : Nat) : Int) - 1 + (m : Int) * (-1)).toNat]?) = (List.range xs.size).map fun m => xs.toList.reverse.getD m .none := by
    have : ∀ l : List Nat, (∀ m ∈ l, m < xs.size) → (l.filterMap fun (m : Nat) => xs[(((xs.size : Nat) : Int) - 1 + (m : Int) * (-1)).toNat]?) = l.map fun m => xs.toList.reverse.getD m .none := by
      intro l
      induction l with
      | nil => intro _; rfl
      | cons m l ih =>
        intro hl
        have hm := hl m List.mem_cons_self
        have e1 : (((xs.size : Nat) : Int) - 1 + (m : Int) * (-1)).toNat = xs.size - 1 - m := by omega
        have e2 : xs[xs.size - 1 - m]? = some (xs.toList.reverse.getD m .none) := by
          rw [List.getD_eq_getElem?_getD, List.getElem?_reverse (by simpa using hm), Array.length_toList, Array.getElem?_toList]
          rw [Array.getElem?_eq_getElem (by omega)]
          rfl
        rw [List.filterMap_cons, e1, e2, List.map_cons, ih fun m hm => hl m (List.mem_cons_of_mem _ hm)]
    exact this _ fun m hm => List.mem_range.mp hm
  intro i
  rw [e, List.getElem?_map]
  by_cases hi : i < xs.size
  · rw [List.getElem?_range hi, List.getElem?_eq_getElem (by simpa using hi)]
    simp [List.getD_eq_getElem?_getD, List.getElem?_eq_getElem (show i < xs.toList.reverse.length by simpa using hi)]
  · rw [List.getElem?_eq_none (by simpa using hi), List.getElem?_eq_none (by simpa using hi)]; rfl
theorem getItem_tuple_back {t sl : Addr} {items : Array Value} {vl vu vs : Value} {Q : Value → Shared → Prop} (ht : IsTup s.heap t items) (hs : s.heap.IsSliceOf sl vl vu vs) (pl : IsPart vl none) (pu : IsPart vu none) (ps : IsPart vs (some (-1)))
    (h : Q (.ref s.heap.objs.size) { s with heap := s.heap.push { cls := .type "tuple", data := .seq items.toList.reverse.toArray } })
    (hsz : items.size ≤ sizeLine) : wpAny (model prog w) A (getItem (.ref t) (.ref sl)) Q E s := by
  have htake : sizeOk (.seq items.toList.reverse.toArray) := by
    show items.toList.reverse.toArray.size ≤ sizeLine
    rw [List.size_toArray, List.length_reverse, Array.length_toList]
    exact hsz
  obtain ⟨os, hos, hcs, hds⟩ := id hs
  have hTs : s.TypeIs (.ref sl) "slice" := ⟨os, hos, hcs⟩
  unfold getItem
  try with_reducible refine wpAny_holding ?_
  first | refine wpAny_bind (wpAny_pure ?_) | skip
  refine wpAny_bind (wpAny_sequenceKey ht.typeIs (by decide) ?_)
  refine wpAny_bind (wpAny_callSpecial?_slot (name := Str.ofString "__getitem__") ht.typeIs PyProof.Rows.slot_tuple_getitem
    (wpAny_call_entry PyProof.Rows.slot_tuple_getitem ht.typeIs entry_tuple_getitem ?_ (args_tuple_getitem _ _)))
  show wpAny _ _ (Builtin.Tuple.tupleItemsOf (.ref t) >>= _) _ _ s
  refine wpAny_bind (tupleItemsOf_ ht ?_)
  refine wpAny_bind (wpAny_typeOf hTs ?_)
  rw [if_pos (by decide)]
  refine wpAny_bind (sliceApplied_back hs pl pu ps ?_)
  have hno : ¬ ((((items.size : Nat) : Int) - 1 == 0 && (-1 : Int) == 1 && items.size == items.size) = true) := by
    rw [show ((-1 : Int) == 1) = false from rfl, Bool.and_false, Bool.false_and]
    exact Bool.false_ne_true
  show wpAny _ _ (if (((items.size : Nat) : Int) - 1 == 0 && (-1 : Int) == 1 && items.size == items.size) = true then _ else _) _ _ s
  rw [if_neg hno, pick_back]
  first
    | exact wpAny_bind (m := Builtin.Tuple.tupleExact _) (wpAny_newObj_type (wpAny_pure ⟨_, rfl, wpAny_pure h⟩) htake)
    | exact wpAny_bind (m := Builtin.Tuple.tupleExact _) (wpAny_newObj_type (wpAny_bind (wpAny_pure (wpAny_pure ⟨_, rfl, wpAny_pure h⟩))) htake)
    | exact wpAny_bind (wpAny_bind (m := Builtin.Tuple.tupleExact _) (wpAny_newObj_type (wpAny_pure (wpAny_pure ⟨_, rfl, wpAny_pure h⟩)) htake))
    | exact wpAny_bind (wpAny_bind (m := Builtin.Tuple.tupleExact _) (wpAny_newObj_type (wpAny_pure ⟨_, rfl, wpAny_pure h⟩) htake))
end
def tRevT (K : PySem.W.Frag) (te : TE) : TE := fun σ H Q => te σ H fun x H1 => ∃ a xs, x = .ref a ∧ SqT K H1 a xs ∧ ∀ p, H1 p = none → Q (.ref p) (upd H1 p (.tup xs.reverse))
theorem pe_revT {X : Cx} {e : Expr} {te : TE} {k : Nat} {p1 p2 p3 pos : Pos} (he : PE X e te) : PE X (.Subscript e (.Slice none none (some (.UnaryOp .USub (.Constant (.int 1) k p1) p2)) p3) pos) (tRevT X.K te) := by
  refine ⟨fun pins s σ H Q I h => ?_⟩
  refine Subscript_ (L2.thn (he.run pins s σ H _ I h) fun v s1 ⟨x, H1, I1, r1, q1⟩ => ?_)
  obtain ⟨a, xs, ex, hx, q⟩ := q1
  subst ex
  cases r1
  have hst : PO X (some (.UnaryOp .USub (.Constant (.int 1) k p1) p2)) (tPart (tUn (rU fun i => .int (-i)) (tC (.int 1)))) := po_some (pe_un un_neg pe_int)
  refine wpAny_Slice (L2.thn (po_none.run pins s1 σ H1 (fun o H2 => o = none ∧ H2 = H1) I1 ⟨rfl, rfl⟩) fun vl s2 ⟨l, H2, I2, pl, el, e2⟩ => ?_)
  subst el e2
  refine L2.thn (po_none.run pins s2 σ H2 (fun o H3 => o = none ∧ H3 = H2) I2 ⟨rfl, rfl⟩) fun vu s3 ⟨u, H3, I3, pu, eu, e3⟩ => ?_
  subst eu e3
  refine L2.thn (hst.run pins s3 σ H3 (fun o H4 => o = some (-1) ∧ H4 = H3) I3 ⟨1, rfl, -1, rfl, rfl, rfl⟩) fun vs s4 ⟨o, H4, I4, ps, eo, e4⟩ => ?_
  subst eo e4
  have I5 : Inv X pins σ H4 { s4 with heap := s4.heap.push { cls := .type "slice", data := .fields #[vl, vu, vs] } } := I4.kept (t' := s4.toks) fun b ob q => Heap.get?_push_of_some _ q
  obtain ⟨its, r, ht, hz⟩ := I5.tuple hx
  have hlen := r.length
  show wpAny (model X.prog X.w) X.A (subscriptTail e (.Slice none none (some (.UnaryOp .USub (.Constant (.int 1) k p1) p2)) p3) (.ref a) (.ref s4.heap.objs.size)) (EP X pins σ Q) X.xe { s4 with heap := s4.heap.push { cls := .type "slice", data := .fields #[vl, vu, vs] } }
  refine tail_any (ops := [.ref a, .ref s4.heap.objs.size]) ht.typeIs (PyProof.Rows.slot_tuple_getitem.lookup) ?_ (by with_unfolding_all rfl)
  refine getItem_tuple_back ht (Heap.IsSliceOf.new _ vl vu vs) pl pu ps ?_ (by rw [List.size_toArray]; omega)
  refine ⟨.ref _, _, I5.laid (t' := s4.toks) (o := .tup xs.reverse) (fun b ob q => Heap.get?_push_of_some _ q) (Nat.le_refl _) ?_, rfl, q _ (I5.hok.fresh (Nat.le_refl _))⟩
  exact ⟨by rw [List.length_reverse]; exact hz, _, r.reverse, IsTup.new _ _⟩
section
variable {X : Cx} {e : Expr} {env : DEnv} {C : CS} {k : KD} {pos p1 p2 p3 : Pos} {j : Nat}
theorem we_revT (h : WE X e env C fun d C1 => ∃ xs, d = .tup xs ∧ k (.tup xs.reverse) C1) : WE X (.Subscript e (.Slice none none (some (.UnaryOp .USub (.Constant (.int 1) j p1) p2)) p3) pos) env C k :=
  .of (pe_revT pe_tS) fun G σ H Q w er q => h G σ H _ w er fun v G1 C1 H1 d f1 w1 r1 z => by
    obtain ⟨xs, rfl, z⟩ := z
    obtain ⟨a, vs, rfl, h1, h2⟩ := w1.tup r1
    refine ⟨a, vs, rfl, h1, fun p hp => ?_⟩
    obtain ⟨w2, f2, s2⟩ := w1.newG hp (.tup vs.reverse)
    exact q _ _ _ _ _ (f1.trans f2) w2 (.tup (SqT.of upd_same) (h2.rev.mono s2)) z
end
/-! ### tuples of texts -/
theorem in_tup {C : CS} {k : KD} {z : Str} {xs : List D} {zs : List Str} (e : xs = zs.map D.str) (q : k (.bl (decide (z ∈ zs))) C) : dIn false (.str z) (.tup xs) C k := ⟨z, zs, rfl, by rw [e], q⟩
theorem nin_tup {C : CS} {k : KD} {z : Str} {xs : List D} {zs : List Str} (e : xs = zs.map D.str) (q : k (.bl (!decide (z ∈ zs))) C) : dIn true (.str z) (.tup xs) C k := ⟨z, zs, rfl, by rw [e], q⟩
/-! ### tuples of the module -/
theorem mgk_tup {K : PySem.W.Frag} {mg : Str → Option Value} {x : Str} {a : Addr} {o : Obj} {its : Array Value} {n : Nat} {xs : List V} {ds : List D} (h : mg x = some (.ref a)) (l : K.lookup a = some o) (hc : o.cls = .type "tuple") (hd : o.data = .seq its n) (hz : its.size ≤ sizeLine) (hv : Vals xs its.toList) (hD : ∀ G, DatAll K G xs ds) : MgK K mg x (.tup ds) :=
  ⟨_, .ref a, h, rfl, fun G => .tup (.inr ⟨o, its, n, l, hc, hd, hz, hv⟩) (hD G)⟩
theorem datAll_strsI {K : PySem.W.Frag} {G : Hp} : ∀ zs : List Str, DatAll K G (zs.map V.str) (zs.map D.str)
  | [] => .nil
  | z :: zs => .cons (.str z) (datAll_strsI zs)
/-! ### upper -/
def dUpper : D → List D → CS → KD → Prop := fun x ds C k => ∃ z, x = .str z ∧ ds = [] ∧ z.length ≤ 5592405 ∧ k (.str (Txt.upper z)) C
theorem rm_upper {K : PySem.W.Frag} : RMD K (fun x xs H Q => ∃ a, x = .str a ∧ xs = [] ∧ a.length ≤ 5592405 ∧ Q (.str (Txt.upper a)) H) dUpper := by
  rintro x a xs ds G C H k Q w r rs ⟨z, rfl, rfl, h, hk⟩ q
  cases r; cases rs
  exact ⟨z, rfl, rfl, h, q _ _ _ _ _ (Fr.refl ..) w (.str _) hk⟩
theorem x_upper {X : Cx} {o : Expr} {env : DEnv} {C : CS} {k : KD} {apos cpos : Pos} (h : WE X o env C fun x C1 => tyD "str" C1 x ∧ dUpper x [] C1 k) (hbase : attributeBase o "upper" X.env (eval o X.env) = eval o X.env := by rfl) (hline : (apos.endLine == cpos.line) = true := by rfl) :
    WE X (.Call (.Attribute o "upper" apos) [] [] cpos) env C k := we_bm0 PySem.F.plainAttrs_str PySem.F.slot_str_upper PySem.F.type_str_upper mt_upper rm_upper h hbase hline
theorem up1_lt {c : Nat} (h : c < 128) : up1 c < 128 := by unfold up1; split <;> omega
theorem upper_len {z : Str} (h : ∀ c ∈ z.cps.toList, c < 128) : (Txt.upper z).length = z.length ∧ ∀ c ∈ (Txt.upper z).cps.toList, c < 128 := by
  rw [upper_ascii h]
  refine ⟨Array.size_map .., fun c hc => ?_⟩
  rw [Array.toList_map] at hc
  obtain ⟨d, hd, rfl⟩ := List.mem_map.mp hc
  exact up1_lt (h d hd)
end DL
/-! DLv: instances by data: fields, methods, makings, properties. -/
namespace DL
open PySem PySem.Spec PyProof.Rows L2
section
variable {X : Cx} {CT : CXT} {n : Nat} {fa Ca : Addr} {fd : FuncData} {ps : List Str} {sp : Sp} {E : XK} {x m : Str} {p pos apos : Pos} {e o : Expr} {es : List Expr} {ta : TE} {t : TA} {dvs : List V} {ds : List Value}
theorem goD {pins : List (Addr × Obj)} {σ : L2.St} {H : Hp} {s : Shared} {Q : VK} {us : List Value} {as : List V} (F : FnG X.prog X.w X.K X.mg X.base CT n fa fd ps sp) (hgd : X.A.guards = some []) (hr : Room n X.A) (hb : Binds X.K fd ps ds) (hd : Vals dvs ds) (hx : Passes CT X E)
    (I : Inv X pins σ H s) (r : Vals as us) (h : sp (as ++ dvs) H Q E) : wpAny (model X.prog X.w) X.A (call (.ref fa) us) (EP X pins σ Q) X.xe s := by
  have r2 : Vals (as ++ dvs) (us ++ ds) := r.append hd
  have hlen : (us ++ ds).length = ps.length := by
    rw [← r2.length]
    exact F.len _ _ _ _ h
  refine wpAny_call (codeAny_mono (F.run hgd hr I.env0 (hb s us I.kIn hlen) r2 h) ?_)
  intro res s' z
  match res, z with
  | .error e, z => exact hx pins σ H s e s' I z
  | .ok (.ret u), z => exact I.after z
/-- f(e, ..) with defaults -/
theorem pe_callD (F : FnG X.prog X.w X.K X.mg X.base CT n fa fd ps sp) (hgd : X.A.guards = some []) (hr : Room n X.A) (hg : Gl X x) (hm : X.mg x = some (.ref fa)) (hk : PySem.W.keepIn X.K (.ref fa) = true) (hb : Binds X.K fd ps ds) (hd : Vals dvs ds) (hx : Passes CT X E)
    (ha : PA X (e :: es) t) (hdb : (x == ("__debug__" : Str)) = false := by decide) (he : starEach (e :: es) X.env = (false, eval e X.env) :: starEach es X.env := by rfl) (hpl : (backTo pos (starEach es X.env)).any (·.1) = false := by rfl) :
    PE X (.Call (.Name x p) (e :: es) [] pos) (tCall sp dvs E t) := ⟨fun pins s σ H Q I h => wpAny_Call_Name_kw (ld_glob I hg hm (PySem.W.callWith_K (h₀ := X.base) I.ok.mod.kin hk (thn (ha.run pos pins s σ H _ I h) fun us s1 z => by
      obtain ⟨as, H1, I1, r, q⟩ := z
      exact ⟨I1.kIn, goD F hgd hr hb hd hx I1 r q⟩) he hpl) hdb)⟩
/-- o.m(e, ..) -/
theorem pe_methG {pl : Sem Bool} (he : PE X o ta) (c : Cls X.K Ca) (hm : Meth X.K Ca m fa) (F : FnG X.prog X.w X.K X.mg X.base CT n fa fd ps sp) (hgd : X.A.guards = some []) (hr : Room n X.A) (hb : Binds X.K fd ps ds) (hd : Vals dvs ds) (hx : Passes CT X E) (ha : PA X (e :: es) t)
    (hst : starEach (e :: es) X.env = (false, eval e X.env) :: starEach es X.env := by rfl) (hpl : (backTo pos (starEach es X.env)).any (·.1) = false := by rfl)
    (ht : eval (.Call (.Attribute o m apos) (e :: es) [] pos) X.env = (do
      let ov ← eval o X.env
      standAt apos.atName
      let (f, first) ← holding [ov] (getMethod ov m pl)
      callWith pos f first (backTo pos (starEach (e :: es) X.env)) (backToKw pos (keywordEach [] X.env))) := by rfl) :
    PE X (.Call (.Attribute o m apos) (e :: es) [] pos) (tMeth Ca m sp dvs E ta t) := by
  refine ⟨fun pins s σ H Q I h => ?_⟩
  refine PySem.W.methodCall_KW (pl := pl) (thn (he.run pins s σ H _ I h) fun u s1 ⟨x, H1, I1, rx, a, dx, fs, ex, ea, l, q⟩ => ?_) ht
  subst ex
  obtain rfl : u = Value.ref a := rx
  refine getmeth_ok I1 ea c hm l ?_
  refine PySem.W.callWith_K (first := [.ref a]) (h₀ := X.base) I.ok.mod.kin hm.kp (thn (ha.run pos pins s1 σ H1 _ I1 q) fun us s2 ⟨vs, H2, I2, r, q2⟩ => ⟨I2.kIn, ?_⟩) hst hpl
  exact goD (us := .ref a :: us) (as := .ref a :: vs) F hgd hr hb hd hx I2 (.cons rfl r) q2
/-- o.m() -/
theorem pe_methG0 {pl : Sem Bool} (he : PE X o ta) (c : Cls X.K Ca) (hm : Meth X.K Ca m fa) (F : FnG X.prog X.w X.K X.mg X.base CT n fa fd ps sp) (hgd : X.A.guards = some []) (hr : Room n X.A) (hb : Binds X.K fd ps ds) (hd : Vals dvs ds) (hx : Passes CT X E)
    (ht : eval (.Call (.Attribute o m apos) [] [] pos) X.env = (do
      let ov ← eval o X.env
      standAt apos.atName
      let (f, first) ← holding [ov] (getMethod ov m pl)
      callWith pos f first (backTo pos (starEach [] X.env)) (backToKw pos (keywordEach [] X.env))) := by rfl) :
    PE X (.Call (.Attribute o m apos) [] [] pos) (tMeth Ca m sp dvs E ta tNil) := by
  refine ⟨fun pins s σ H Q I h => ?_⟩
  refine PySem.W.methodCall_KW (pl := pl) (thn (he.run pins s σ H _ I h) fun u s1 ⟨x, H1, I1, rx, a, dx, fs, ex, ea, l, q⟩ => ?_) ht
  subst ex
  obtain rfl : u = Value.ref a := rx
  refine getmeth_ok I1 ea c hm l ?_
  exact PySem.W.callWith_K0 (first := [.ref a]) I1.kIn hm.kp (goD (us := [.ref a]) (as := [.ref a]) F hgd hr hb hd hx I1 (.cons rfl .nil) q)
theorem makeG {pins : List (Addr × Obj)} {σ : L2.St} {H : Hp} {s : Shared} {Q : VK} {us : List Value} {vs : List V} (M : Mk X.K Ca fa) (F : FnG X.prog X.w X.K X.mg X.base CT n fa fd ps sp) (hgd : X.A.guards = some []) (hr : Room (n + 1) X.A) (hb : Binds X.K fd ps ds) (hd : Vals dvs ds)
    (hx : Passes CT X E) (I : Inv X pins σ H s) (r : Vals vs us)
    (h : ∀ x dx, H x = none → H dx = none → dx ≠ x → sp (.ref x :: (vs ++ dvs)) (upd (upd H dx (.own x)) x (.ins Ca dx [])) (fun v H2 => v = .non ∧ Q (.ref x) H2) E) :
    wpAny (model X.prog X.w) X.A (call (.ref Ca) us) (EP X pins σ Q) X.xe s := by
  have hq := h (s.heap.objs.size + 1) s.heap.objs.size (I.hok.fresh (Nat.le_succ _)) (I.hok.fresh (Nat.le_refl _)) (Nat.ne_of_lt (Nat.lt_succ_self _))
  have I2 := Inv.made (C := Ca) I
  have r2 : Vals (V.ref (s.heap.objs.size + 1) :: (vs ++ dvs)) (Value.ref (s.heap.objs.size + 1) :: (us ++ ds)) := .cons rfl (r.append hd)
  have hl : (Value.ref (s.heap.objs.size + 1) :: us ++ ds).length = ps.length := by
    have e := r2.length
    rw [F.len _ _ _ _ hq] at e
    exact e.symm
  refine wpAny_call (make_map (f := fa) I.kIn M.makes M.init (beq_iff_eq.mp M.fn) (codeAny_mono (F.run (by exact hgd) (hr.make Ca us []) (I2.env0.make Ca us []) (hb _ (Value.ref (s.heap.objs.size + 1) :: us) I2.kIn hl) r2 hq) fun r s' hq' => ?_))
  cases r with
  | error e => exact hx pins σ _ _ e s' I2 hq'
  | ok fl =>
    cases fl with
    | ret u =>
      obtain ⟨v, H', I3, rv, ev, q3⟩ := I2.after hq'
      subst ev
      exact ⟨rv, ⟨V.ref (s.heap.objs.size + 1), H', I3, rfl, q3⟩⟩
    | next => exact False.elim hq'
    | brk => exact False.elim hq'
    | cont => exact False.elim hq'
theorem pe_makeG (M : Mk X.K Ca fa) (F : FnG X.prog X.w X.K X.mg X.base CT n fa fd ps sp) (hgd : X.A.guards = some []) (hr : Room (n + 1) X.A) (hg : Gl X x) (hm : X.mg x = some (.ref Ca)) (hb : Binds X.K fd ps ds) (hd : Vals dvs ds) (hx : Passes CT X E)
    (ha : PA X (e :: es) t) (hdb : (x == ("__debug__" : Str)) = false := by decide) (he : starEach (e :: es) X.env = (false, eval e X.env) :: starEach es X.env := by rfl) (hpl : (backTo pos (starEach es X.env)).any (·.1) = false := by rfl) :
    PE X (.Call (.Name x p) (e :: es) [] pos) (tMake Ca sp dvs E t) := by
  refine ⟨fun pins s σ H Q I h => ?_⟩
  refine wpAny_Call_Name_kw (ld_glob I hg hm ?_ hdb)
  refine PySem.W.callWith_K (h₀ := X.base) I.ok.mod.kin M.kp (thn (ha.run pos pins s σ H _ I h) fun us s1 ⟨vs, H1, I1, r, q⟩ => ⟨I1.kIn, ?_⟩) he hpl
  exact makeG M F hgd hr hb hd hx I1 r q
theorem pe_makeG0 (M : Mk X.K Ca fa) (F : FnG X.prog X.w X.K X.mg X.base CT n fa fd ps sp) (hgd : X.A.guards = some []) (hr : Room (n + 1) X.A) (hg : Gl X x) (hm : X.mg x = some (.ref Ca)) (hb : Binds X.K fd ps ds) (hd : Vals dvs ds) (hx : Passes CT X E)
    (hdb : (x == ("__debug__" : Str)) = false := by decide) : PE X (.Call (.Name x p) [] [] pos) (tMake Ca sp dvs E tNil) := by
  refine ⟨fun pins s σ H Q I h => ?_⟩
  refine wpAny_Call_Name_kw (ld_glob I hg hm ?_ hdb)
  exact PySem.W.callWith_K0 I.kIn M.kp (makeG (us := []) M F hgd hr hb hd hx I .nil h)
theorem getpropG {pins : List (Addr × Obj)} {σ : L2.St} {H : Hp} {s : Shared} {Q : VK} {b : Bool} {E' : Value → Shared → Prop} {a dx pa g : Addr} {fs : List (Str × V)} {f : Str} (I : Inv X pins σ H s) (ea : H a = some (.ins Ca dx fs)) (c : Cls X.K Ca) (hp : PropOf X.K Ca f pa g)
    (F : FnG X.prog X.w X.K X.mg X.base CT n g fd ps sp) (hgd : X.A.guards = some []) (hr : Room (n + 1) X.A) (hb : Binds X.K fd ps ds) (hd : Vals dvs ds) (hx : Passes CT X.nox E) (h : sp (.ref a :: dvs) H Q E) :
    wpAny (model X.prog X.w) X.A (getAttr (.ref a) f b) (EP X pins σ Q) E' s := by
  obtain ⟨mA, O, _, _, _, _⟩ := ins_get I.hok ea
  obtain ⟨od, J, _⟩ := O.look
  obtain ⟨rest, hrec⟩ := hp.rec_
  have I1 := I.tok (s.toks + 1)
  have hl : ([Value.ref a] ++ ds).length = ps.length := by
    rw [← F.len _ _ _ _ h]
    show ds.length + 1 = dvs.length + 1
    rw [hd.length]
  have hc : (PySem.W.clsIn X.K Ca).isSome = true := by
    obtain ⟨cd, hc, _⟩ := PySem.W.any_some c.hd
    rw [hc]
    rfl
  refine PySem.W.get_bind I.kIn J (PySem.W.plainGet_of (c.get f)).1 (PySem.W.findObj_data hc hp.at_ hp.get hp.tak) (PySem.W.plainGet_of (c.get f)).2 (wpAny_call (PySem.W.prop_get (s := { s with toks := s.toks + 1 }) I.kIn hrec ?_))
  refine codeAny_mono (F.run (us := .ref a :: ds) (as := .ref a :: dvs) (by exact hgd) hr.in1 I1.env0.in1 (hb _ [.ref a] I1.kIn hl) (.cons rfl hd) h) fun r s' hq => ?_
  cases r with
  | error er => exact False.elim (hx pins σ H { s with toks := s.toks + 1 } er s' (I1.wish _) hq)
  | ok fl =>
    cases fl with
    | ret u =>
      obtain ⟨v, H', I3, rv, q3⟩ := I1.after hq
      show wpAny _ _ (handedOut u) _ _ _
      rw [PySem.W.handedOut_of (handed_of rv)]
      exact wpAny_pure ⟨v, H', I3, rv, q3⟩
    | next => exact False.elim hq
    | brk => exact False.elim hq
    | cont => exact False.elim hq
theorem pe_propG {pa g : Addr} {f : Str} (he : PE X e ta) (c : Cls X.K Ca) (hp : PropOf X.K Ca f pa g) (F : FnG X.prog X.w X.K X.mg X.base CT n g fd ps sp) (hgd : X.A.guards = some []) (hr : Room (n + 1) X.A) (hb : Binds X.K fd ps ds) (hd : Vals dvs ds) (hx : Passes CT X.nox E)
    (hab : attributeBase e f X.env (eval e X.env) = eval e X.env) : PE X (.Attribute e f pos) (tProp Ca sp dvs E ta) := by
  refine ⟨fun pins s σ H Q I h => ?_⟩
  refine attr_of hab (thn (he.run pins s σ H _ I h) fun u s1 ⟨x, H1, I1, rx, a, dx, fs, ex, ea, q⟩ => ?_)
  subst ex
  obtain rfl : u = Value.ref a := rx
  exact getpropG I1 ea c hp F hgd hr hb hd hx q
end

/-! ### fields by data -/
/-- a field's value, found by syntax -/
inductive FGet : List Str → List D → Str → D → Prop where
  | here (f : Str) (ks : List Str) (d : D) (xs : List D) : FGet (f :: ks) (d :: xs) f d
  | there {g f : Str} {ks : List Str} {x d : D} {xs : List D} (hne : (f == g) = false) (h : FGet ks xs f d) : FGet (g :: ks) (x :: xs) f d
/-- the fields behind a store -/
inductive FPut (f : Str) (d : D) : List Str → List D → List Str → List D → Prop where
  | nil : FPut f d [] [] [f] [d]
  | here (ks : List Str) (x : D) (xs : List D) : FPut f d (f :: ks) (x :: xs) (f :: ks) (d :: xs)
  | there {g : Str} {ks ks' : List Str} {x : D} {xs xs' : List D} (hne : (g == f) = false) (h : FPut f d ks xs ks' xs') : FPut f d (g :: ks) (x :: xs) (g :: ks') (x :: xs')
section
variable {K : PySem.W.Frag} {G H : Hp}
theorem FGet.look {f : Str} {d : D} : ∀ {fs : List (Str × V)} {ks : List Str} {xs : List D}, FGet ks xs f d → fs.map (·.1) = ks → DatAll K G (fs.map (·.2)) xs → ∃ v, fs.lookup f = some v ∧ Dat K G v d
  | [], _, _, h, e, r => by cases e; cases h
  | (g, v) :: fs, _, _, h, e, r => by
    cases e
    cases h with
    | here =>
      cases r with
      | cons r1 r2 => exact ⟨v, by simp, r1⟩
    | there hne h =>
      cases r with
      | cons r1 r2 =>
        obtain ⟨u, h1, h2⟩ := FGet.look h rfl r2
        exact ⟨u, by rw [List.lookup_cons, hne]; exact h1, h2⟩
theorem FPut.put {f : Str} {d : D} {y : V} (ry : Dat K G y d) : ∀ {fs : List (Str × V)} {ks ks' : List Str} {xs xs' : List D}, FPut f d ks xs ks' xs' → fs.map (·.1) = ks → DatAll K G (fs.map (·.2)) xs → (putF f y fs).map (·.1) = ks' ∧ DatAll K G ((putF f y fs).map (·.2)) xs'
  | [], _, _, _, _, h, e, r => by cases e; cases h; exact ⟨rfl, .cons ry .nil⟩
  | (g, v) :: fs, _, _, _, _, h, e, r => by
    cases e
    cases h with
    | here =>
      cases r with
      | cons r1 r2 =>
        unfold putF
        rw [if_pos rfl]
        exact ⟨rfl, .cons ry r2⟩
    | there hne h =>
      cases r with
      | cons r1 r2 =>
        obtain ⟨h1, h2⟩ := FPut.put ry h rfl r2
        have : g ≠ f := fun z => by rw [z] at hne; simp at hne
        unfold putF
        rw [if_neg this]
        exact ⟨by rw [List.map_cons, h1], .cons r1 h2⟩
theorem look_none {f : Str} : ∀ {fs : List (Str × V)} {ks : List Str}, fs.map (·.1) = ks → f ∉ ks → fs.lookup f = none
  | [], _, _, _ => rfl
  | (g, v) :: fs, _, e, h => by
    cases e
    have h1 : f ≠ g := fun z => h (by simp [z])
    rw [List.lookup_cons, beq_eq_false_iff_ne.mpr h1]
    exact look_none rfl fun z => h (by simp at z ⊢; exact .inr z)
end
/-- an instance: a cell, or frozen -/
def insD (C : CS) : D → Option (Addr × List Str × List D)
  | .obj Cl ks xs => some (Cl, ks, xs)
  | .own a => match C a with
    | some (.ins Cl ks xs) => some (Cl, ks, xs)
    | _ => none
  | _ => none
theorem insD_own {C : CS} {a Cl : Addr} {ks : List Str} {xs : List D} (h : C a = some (.ins Cl ks xs)) : insD C (.own a) = some (Cl, ks, xs) := by unfold insD; simp only [h]
theorem Wld.ins {K : PySem.W.Frag} {G H : Hp} {C : CS} {v : V} {d : D} {Cl : Addr} {ks : List Str} {xs : List D} (w : Wld K G C H) (r : Dat K G v d) (e : insD C d = some (Cl, ks, xs)) : ∃ a dx fs, v = .ref a ∧ H a = some (.ins Cl dx fs) ∧ fs.map (·.1) = ks ∧ DatAll K G (fs.map (·.2)) xs := by
  cases r with
  | obj a b c => simp [insD] at e; obtain ⟨rfl, rfl, rfl⟩ := e; exact ⟨_, _, _, rfl, w.ex _ _ a, b, c⟩
  | own a =>
    unfold insD at e
    cases q : C a with
    | none => simp [q] at e
    | some c =>
      cases c with
      | ins Cl' ks' xs' =>
        simp [q] at e
        obtain ⟨rfl, rfl, rfl⟩ := e
        obtain ⟨_, dx, fs, h1, h2, h3⟩ := w.cell a _ q
        exact ⟨a, dx, fs, rfl, h1, h2, h3⟩
      | _ => simp [q] at e
  | _ => simp [insD] at e
/-- an instance's cell is frozen -/
theorem Wld.freezeI {K : PySem.W.Frag} {G H : Hp} {C : CS} {p Cl : Addr} {ks : List Str} {xs : List D} (w : Wld K G C H) (h : C p = some (.ins Cl ks xs)) : ∃ G', Wld K G' (del C p) H ∧ Fr G C H G' (del C p) H ∧ Dat K G' (.ref p) (.obj Cl ks xs) := by
  obtain ⟨g, dx, fs, e, r1, r2⟩ := w.cell p _ h
  have sG : Same G (upd G p (.ins Cl dx fs)) := fun b u e => by rw [upd_ne (ne_of_none e g)]; exact e
  refine ⟨upd G p (.ins Cl dx fs), ⟨fun b u q => ?_, fun b c q => ?_⟩, ⟨sG, fun _ _ h _ => h, fun _ h => h, fun b _ k => ?_, fun b _ k => ?_⟩, .obj upd_same r1 (r2.mono sG)⟩
  · by_cases z : b = p
    · subst z; rw [upd_same] at q; rw [e]; exact q
    · rw [upd_ne z] at q; exact w.ex b u q
  · have ne : b ≠ p := fun z => by subst z; rw [del_same] at q; cases q
    rw [del_ne ne] at q
    obtain ⟨h1, h2⟩ := w.cell b c q
    exact ⟨by rw [upd_ne ne]; exact h1, h2.mono sG rfl⟩
  · by_cases z : b = p
    · subst z; rw [h]; simp
    · rw [del_ne z] at k; exact k
  · by_cases z : b = p
    · subst z; right; rw [h]; simp
    · rw [upd_ne z] at k; exact .inl k
def FldC (K : PySem.W.Frag) (Cl : Addr) (f : Str) : Prop := Cls K Cl ∧ NoAttr K Cl f
/-- a def by its address; dfl: what fills up the parameters -/
def FnA (P : Program) (w : World) (K : PySem.W.Frag) (mg : Str → Option Value) (base : Heap) (f : Addr) (n : Nat) (dfl : List D) (S : DSp) : Prop :=
  ∃ (fd : FuncData) (ps : List Str) (ds : List Value) (dvs : List V), FnG P w K mg base CX0 n f fd ps (toSp K S) ∧ Binds K fd ps ds ∧ Vals dvs ds ∧ ∀ G, DatAll K G dvs dfl
def MthC (P : Program) (w : World) (K : PySem.W.Frag) (mg : Str → Option Value) (base : Heap) (Cl : Addr) (m : Str) (n : Nat) (dfl : List D) (S : DSp) : Prop := Cls K Cl ∧ ∃ f, Meth K Cl m f ∧ FnA P w K mg base f n dfl S
def MakC (P : Program) (w : World) (K : PySem.W.Frag) (mg : Str → Option Value) (base : Heap) (x : Str) (Cl : Addr) (n : Nat) (dfl : List D) (S : DSp) : Prop := mg x = some (.ref Cl) ∧ ∃ f, Mk K Cl f ∧ FnA P w K mg base f n dfl S
def PrpC (P : Program) (w : World) (K : PySem.W.Frag) (mg : Str → Option Value) (base : Heap) (Cl : Addr) (m : Str) (n : Nat) (S : DSp) : Prop := Cls K Cl ∧ ∃ p f, PropOf K Cl m p f ∧ FnA P w K mg base f n [] S
section
variable {P : Program} {w : World} {K : PySem.W.Frag} {mg : Str → Option Value} {base : Heap} {j n : Nat} {X : Cx} {Cl : Addr} {m f x : Str} {S : DSp} {dfl : List D} {e o v : Expr} {es : List Expr} {env : DEnv} {C : CS} {k : KD} {pos p apos pos' : Pos} {E : DEnds}
theorem toSp_ok {G G' : Hp} {C' : CS} {H' : Hp} {vs dvs : List V} {ds : List D} {Q : VK} {X0 : XK} {C0 : CS} {H0 : Hp} (w1 : Wld K G' C' H') (r : DatAll K G' vs ds) (rd : ∀ G, DatAll K G dvs dfl) (f1 : Fr G C0 H0 G' C' H') (q : Kont K G C0 H0 k Q) (z : S (ds ++ dfl) C' k) : toSp K S (vs ++ dvs) H' Q X0 :=
  ⟨G', C', ds ++ dfl, k, w1, r.append (rd G'), z, q.after f1⟩
theorem x_fld (hx : Ctx P w K mg base j X) (h : WE X e env C fun d C1 => ∃ Cl ks xs v, insD C1 d = some (Cl, ks, xs) ∧ FldC K Cl f ∧ FGet ks xs f v ∧ k v C1) (hb : attributeBase e f X.env (eval e X.env) = eval e X.env := by rfl) : WE X (.Attribute e f pos) env C k :=
  .of (pe_fld pe_tS hb) fun G σ H Q w er q => h G σ H _ w er fun u G1 C1 H1 d f1 w1 r1 z => by
    obtain ⟨Cl, ks, xs, v, hi, ⟨hc, hn⟩, hg, hk⟩ := z
    obtain ⟨a, dx, fs, rfl, h1, h2, h3⟩ := w1.ins r1 hi
    obtain ⟨v', g1, g2⟩ := hg.look h2 h3
    exact ⟨a, Cl, dx, fs, v', rfl, h1, by rw [hx.K]; exact hc, by rw [hx.K]; exact hn, g1, q _ _ _ _ _ f1 w1 g2 hk⟩
theorem x_setFld (hx : Ctx P w K mg base j X) (h : WE X v env C fun y C1 => WE X o env C1 fun d C2 => ∃ p Cl ks xs ks' xs', d = .own p ∧ C2 p = some (.ins Cl ks xs) ∧ FldC K Cl f ∧ ks.length < 1000 ∧ FPut f y ks xs ks' xs' ∧ E.nx env (put C2 p (.ins Cl ks' xs')))
    (hs : swapsWith v (some (.Attribute o f pos')) pos.line X.env = pure false := by rfl) : WS X (.Assign [.Attribute o f pos'] v pos) env C E :=
  .of (ps_fld pe_tS pe_tS hs) fun G σ H D w er q => h G σ H _ w er fun y' G1 C1 H1 y f1 w1 r1 h1 => h1 G1 σ H1 _ w1 (er.mono f1.exG) fun o' G2 C2 H2 d f2 w2 r2 z => by
    obtain ⟨p, Cl, ks, xs, ks', xs', rfl, hp, ⟨hc, hn⟩, hl, hput, hk⟩ := z
    cases r2
    obtain ⟨_, dx, fs, g1, g2, g3⟩ := w2.cell p _ hp
    obtain ⟨u1, u2⟩ := hput.put (r1.mono f2.exG) g2 g3
    obtain ⟨w3, f3⟩ := w2.write hp (o := .ins Cl dx (putF f y' fs)) (c' := .ins Cl ks' xs') fun H' e => ⟨dx, _, e, u1, u2⟩
    exact ⟨p, Cl, dx, fs, rfl, g1, by rw [hx.K]; exact hc, by rw [hx.K]; exact hn, by rw [← List.length_map (f := (·.1)), g2]; exact hl, q.nx _ _ _ _ _ ((f1.trans f2).trans f3) w3 (er.mono ((f1.trans f2).trans f3).exG) hk⟩
theorem x_meth (hx : Ctx P w K mg base j X) (hM : MthC P w K mg base Cl m n dfl S) (h : WE X o env C fun d C1 => (∃ ks xs, insD C1 d = some (Cl, ks, xs) ∧ m ∉ ks) ∧ WA X (e :: es) env C1 fun ds C2 => S (d :: (ds ++ dfl)) C2 k) (hle : n ≤ j := by decide)
    (hst : starEach (e :: es) X.env = (false, eval e X.env) :: starEach es X.env := by rfl) (hpl : (backTo pos (starEach es X.env)).any (·.1) = false := by rfl) {pl : Sem Bool}
    (ht : eval (.Call (.Attribute o m apos) (e :: es) [] pos) X.env = (do
      let ov ← eval o X.env
      standAt apos.atName
      let (f, first) ← holding [ov] (getMethod ov m pl)
      callWith pos f first (backTo pos (starEach (e :: es) X.env)) (backToKw pos (keywordEach [] X.env))) := by rfl) : WE X (.Call (.Attribute o m apos) (e :: es) [] pos) env C k := by
  obtain ⟨hc, fa, hm, fd, ps, ds, dvs, F, hb, hd, hdat⟩ := hM
  have hroom := hx.room
  obtain ⟨e1, e2, e3, e4, e5, _, hgd, hcalm⟩ := hx
  subst e1 e2 e3 e4 e5
  refine .of (pe_methG pe_tS hc hm F hgd (hroom.mono hle) hb hd pass0 pa_tAr hst hpl ht) fun G σ H Q w er q => h G σ H _ w er fun u G1 C1 H1 d f1 w1 r1 z => ?_
  obtain ⟨⟨ks, xs, hi, hnk⟩, z⟩ := z
  obtain ⟨a, dx, fs, rfl, h1, h2, h3⟩ := w1.ins r1 hi
  refine ⟨a, dx, fs, rfl, h1, look_none h2 hnk, z G1 σ H1 _ w1 (er.mono f1.exG) fun vs G2 C2 H2 ds2 f2 w2 r2 zz => ?_⟩
  exact toSp_ok (ds := d :: ds2) w2 (.cons (r1.mono f2.exG) r2) hdat (f1.trans f2) q zz
theorem x_meth0 (hx : Ctx P w K mg base j X) (hM : MthC P w K mg base Cl m n dfl S) (h : WE X o env C fun d C1 => (∃ ks xs, insD C1 d = some (Cl, ks, xs) ∧ m ∉ ks) ∧ S (d :: dfl) C1 k) (hle : n ≤ j := by decide) {pl : Sem Bool}
    (ht : eval (.Call (.Attribute o m apos) [] [] pos) X.env = (do
      let ov ← eval o X.env
      standAt apos.atName
      let (f, first) ← holding [ov] (getMethod ov m pl)
      callWith pos f first (backTo pos (starEach [] X.env)) (backToKw pos (keywordEach [] X.env))) := by rfl) : WE X (.Call (.Attribute o m apos) [] [] pos) env C k := by
  obtain ⟨hc, fa, hm, fd, ps, ds, dvs, F, hb, hd, hdat⟩ := hM
  have hroom := hx.room
  obtain ⟨e1, e2, e3, e4, e5, _, hgd, hcalm⟩ := hx
  subst e1 e2 e3 e4 e5
  refine .of (pe_methG0 pe_tS hc hm F hgd (hroom.mono hle) hb hd pass0 ht) fun G σ H Q w er q => h G σ H _ w er fun u G1 C1 H1 d f1 w1 r1 z => ?_
  obtain ⟨⟨ks, xs, hi, hnk⟩, z⟩ := z
  obtain ⟨a, dx, fs, rfl, h1, h2, h3⟩ := w1.ins r1 hi
  exact ⟨a, dx, fs, rfl, h1, look_none h2 hnk, toSp_ok (ds := [d]) (vs := [.ref a]) (X0 := E0) w1 (.cons r1 .nil) hdat f1 q z⟩
theorem made_ok {G H : Hp} {a dx : Addr} (w1 : Wld K G C H) (ha : H a = none) (hd : H dx = none) (hne : dx ≠ a) : Wld K G (put C a (.ins Cl [] [])) (upd (upd H dx (.own a)) a (.ins Cl dx [])) ∧ Fr G C H G (put C a (.ins Cl [] [])) (upd (upd H dx (.own a)) a (.ins Cl dx [])) := by
  have w2 : Wld K G C (upd H dx (.own a)) := by
    obtain ⟨g, c⟩ := w1.ne hd
    exact ⟨fun b o e => by rw [upd_ne (ne_of_none e g)]; exact w1.ex b o e, fun b c' e => by
      obtain ⟨h1, h2⟩ := w1.cell b c' e
      exact ⟨h1, h2.mono (fun _ _ h => h) (upd_ne (cell_ne e c))⟩⟩
  have f2 : Fr G C H G C (upd H dx (.own a)) := Fr.fresh hd
  have ha2 : upd H dx (.own a) a = none := by rw [upd_ne hne.symm]; exact ha
  obtain ⟨w3, f3⟩ := w2.newC ha2 (o := .ins Cl dx []) (c := .ins Cl [] []) fun H' e => ⟨dx, [], e, rfl, .nil⟩
  exact ⟨w3, f2.trans f3⟩
theorem x_make (hx : Ctx P w K mg base j X) (hM : MakC P w K mg base x Cl n dfl S) (hg : Gl X x) (h : WA X (e :: es) env C fun ds C1 => ∀ a, C1 a = none → S (.own a :: (ds ++ dfl)) (put C1 a (.ins Cl [] [])) fun d C2 => d = .non ∧ k (.own a) C2) (hle : n + 1 ≤ j := by decide)
    (hdb : (x == ("__debug__" : Str)) = false := by decide) (he : starEach (e :: es) X.env = (false, eval e X.env) :: starEach es X.env := by rfl) (hpl : (backTo pos (starEach es X.env)).any (·.1) = false := by rfl) : WE X (.Call (.Name x p) (e :: es) [] pos) env C k := by
  obtain ⟨hmg, fa, hm, fd, ps, ds, dvs, F, hb, hd, hdat⟩ := hM
  have hroom := hx.room
  obtain ⟨e1, e2, e3, e4, e5, _, hgd, hcalm⟩ := hx
  subst e1 e2 e3 e4 e5
  refine .of (pe_makeG hm F hgd (hroom.mono hle) hg hmg hb hd pass0 pa_tAr hdb he hpl) fun G σ H Q w er q => h G σ H _ w er fun vs G1 C1 H1 ds1 f1 w1 r1 z => fun a dx ha hdx hne => ?_
  obtain ⟨w3, f3⟩ := made_ok (Cl := Cl) w1 ha hdx hne
  refine toSp_ok (ds := .own a :: ds1) (vs := .ref a :: vs) (k := fun d C2 => d = .non ∧ k (.own a) C2) w3 (.cons (.own a) (r1.mono f3.exG)) hdat (Fr.refl ..) ?_ (z a (w1.ne ha).2)
  rintro v G2 C2 H2 d f2 w2 r2 ⟨rfl, zk⟩
  cases r2
  exact ⟨rfl, q _ _ _ _ _ ((f1.trans f3).trans f2) w2 (.own a) zk⟩
theorem x_make0 (hx : Ctx P w K mg base j X) (hM : MakC P w K mg base x Cl n dfl S) (hg : Gl X x) (h : ∀ a, C a = none → S (.own a :: dfl) (put C a (.ins Cl [] [])) fun d C2 => d = .non ∧ k (.own a) C2) (hle : n + 1 ≤ j := by decide)
    (hdb : (x == ("__debug__" : Str)) = false := by decide) : WE X (.Call (.Name x p) [] [] pos) env C k := by
  obtain ⟨hmg, fa, hm, fd, ps, ds, dvs, F, hb, hd, hdat⟩ := hM
  have hroom := hx.room
  obtain ⟨e1, e2, e3, e4, e5, _, hgd, hcalm⟩ := hx
  subst e1 e2 e3 e4 e5
  refine .of (pe_makeG0 hm F hgd (hroom.mono hle) hg hmg hb hd pass0 hdb) fun G σ H Q w1 er q => fun a dx ha hdx hne => ?_
  obtain ⟨w3, f3⟩ := made_ok (Cl := Cl) w1 ha hdx hne
  refine toSp_ok (ds := [.own a]) (vs := [.ref a]) (k := fun d C2 => d = .non ∧ k (.own a) C2) w3 (.cons (.own a) .nil) hdat (Fr.refl ..) ?_ (h a (w1.ne ha).2)
  rintro v G2 C2 H2 d f2 w2 r2 ⟨rfl, zk⟩
  cases r2
  exact ⟨rfl, q _ _ _ _ _ (f3.trans f2) w2 (.own a) zk⟩
theorem x_prop (hx : Ctx P w K mg base j X) (hn : Nox X) (hM : PrpC P w K mg base Cl f n S) (h : WE X e env C fun d C1 => (∃ ks xs, insD C1 d = some (Cl, ks, xs)) ∧ S [d] C1 k) (hle : n + 1 ≤ j := by decide)
    (hab : attributeBase e f X.env (eval e X.env) = eval e X.env := by rfl) : WE X (.Attribute e f pos) env C k := by
  obtain ⟨hc, pa, fa, hm, fd, ps, ds, dvs, F, hb, hd, hdat⟩ := hM
  have hroom := hx.room
  obtain ⟨e1, e2, e3, e4, e5, _, hgd, hcalm⟩ := hx
  subst e1 e2 e3 e4 e5
  refine .of (pe_propG pe_tS hc hm F hgd (hroom.mono hle) hb hd pass0 hab) fun G σ H Q w er q => h G σ H _ w er fun u G1 C1 H1 d f1 w1 r1 z => ?_
  obtain ⟨⟨ks, xs, hi⟩, z⟩ := z
  obtain ⟨a, dx, fs, rfl, h1, h2, h3⟩ := w1.ins r1 hi
  have := toSp_ok (ds := [d]) (vs := [.ref a]) (X0 := E0) w1 (.cons r1 .nil) hdat f1 q (by simpa using z)
  exact ⟨a, dx, fs, rfl, h1, this⟩
end
end DL
/-! DLw: dicts by data (keys ints and texts). -/
namespace DL
open PySem PySem.Spec PyProof.Rows L2
/-- a key as data -/
def kD : Key → D
  | .inl i => .int i
  | .inr s => .str s
def valD (kvs : List (Key × D)) (k : Key) : Option D := (kvs.find? fun kv => decide (kv.1 = k)).map (·.2)
def putD (kvs : List (Key × D)) (k : Key) (v : D) : List (Key × D) :=
  if (kvs.any fun kv => decide (kv.1 = k)) = true then kvs.map (fun kv => if kv.1 = k then (kv.1, v) else kv) else kvs ++ [(k, v)]
def dropD (kvs : List (Key × D)) (k : Key) : List (Key × D) := kvs.filter fun kv => decide (kv.1 ≠ k)
section
variable {K : PySem.W.Frag} {G H : Hp} {C : CS}
theorem dat_key {v : V} {k : Key} (r : Dat K G v (kD k)) : v = kV k := by
  cases k <;> (cases r; rfl)
theorem rel_val {k : Key} : ∀ {kw : List (Key × V)} {kvs : List (Key × D)}, kw.map (·.1) = kvs.map (·.1) → DatAll K G (kw.map (·.2)) (kvs.map (·.2)) → (valD kvs k = none → valV kw k = none) ∧ (∀ d, valD kvs k = some d → ∃ v, valV kw k = some v ∧ Dat K G v d) ∧ (valV kw k).isSome = (valD kvs k).isSome
  | [], [], _, _ => ⟨fun _ => rfl, fun d h => (by cases h), rfl⟩
  | (a, v) :: kw, (b, d) :: kvs, e, r => by
    simp only [List.map_cons, List.cons.injEq] at e
    obtain ⟨rfl, e⟩ := e
    cases r with
    | cons r1 r2 =>
      obtain ⟨h1, h2, h3⟩ := rel_val (k := k) e r2
      by_cases hk : a = k
      · have e1 : valV ((a, v) :: kw) k = some v := valV_pos (p := (a, v)) hk
        have e2 : valD ((a, d) :: kvs) k = some d := by simp [valD, List.find?_cons, hk]
        refine ⟨fun z => (by rw [e2] at z; cases z), fun d' z => ?_, by rw [e1, e2]; rfl⟩
        rw [e2] at z; cases z
        exact ⟨v, e1, r1⟩
      · have e1 : valV ((a, v) :: kw) k = valV kw k := valV_neg (p := (a, v)) hk
        have e2 : valD ((a, d) :: kvs) k = valD kvs k := by simp [valD, List.find?_cons, hk]
        rw [e1, e2]
        exact ⟨h1, h2, h3⟩
  | [], _ :: _, e, _ => by simp at e
  | _ :: _, [], e, _ => by simp at e
theorem any_rel {k : Key} : ∀ {kw : List (Key × V)} {kvs : List (Key × D)}, kw.map (·.1) = kvs.map (·.1) → (kw.any fun kv => decide (kv.1 = k)) = (kvs.any fun kv => decide (kv.1 = k))
  | [], [], _ => rfl
  | (a, v) :: kw, (b, d) :: kvs, e => by
    simp only [List.map_cons, List.cons.injEq] at e
    obtain ⟨rfl, e⟩ := e
    rw [List.any_cons, List.any_cons, any_rel e]
  | [], _ :: _, e => by simp at e
  | _ :: _, [], e => by simp at e
theorem map_rel {k : Key} {y : V} {z : D} (rz : Dat K G y z) : ∀ {kw : List (Key × V)} {kvs : List (Key × D)}, kw.map (·.1) = kvs.map (·.1) → DatAll K G (kw.map (·.2)) (kvs.map (·.2)) →
    (kw.map fun kv => if kv.1 = k then (kv.1, y) else kv).map (·.1) = (kvs.map fun kv => if kv.1 = k then (kv.1, z) else kv).map (·.1) ∧ DatAll K G ((kw.map fun kv => if kv.1 = k then (kv.1, y) else kv).map (·.2)) ((kvs.map fun kv => if kv.1 = k then (kv.1, z) else kv).map (·.2))
  | [], [], _, _ => ⟨rfl, .nil⟩
  | (a, v) :: kw, (b, d) :: kvs, e, r => by
    simp only [List.map_cons, List.cons.injEq] at e
    obtain ⟨rfl, e⟩ := e
    cases r with
    | cons r1 r2 =>
      obtain ⟨h1, h2⟩ := map_rel (k := k) rz e r2
      by_cases hk : a = k
      · subst hk
        simp only [List.map_cons, if_true]
        exact ⟨by rw [h1], .cons rz h2⟩
      · simp only [List.map_cons, hk, if_false]
        exact ⟨by rw [h1], .cons r1 h2⟩
  | [], _ :: _, e, _ => by simp at e
  | _ :: _, [], e, _ => by simp at e
theorem put_rel {k : Key} {y : V} {z : D} (rz : Dat K G y z) {kw : List (Key × V)} {kvs : List (Key × D)} (e : kw.map (·.1) = kvs.map (·.1)) (r : DatAll K G (kw.map (·.2)) (kvs.map (·.2))) : (L2.putK kw k y).map (·.1) = (putD kvs k z).map (·.1) ∧ DatAll K G ((L2.putK kw k y).map (·.2)) ((putD kvs k z).map (·.2)) := by
  unfold L2.putK putD
  rw [any_rel e]
  split
  · exact map_rel rz e r
  · rw [List.map_append, List.map_append, List.map_append, List.map_append, e]
    exact ⟨rfl, r.append (.cons rz .nil)⟩
theorem drop_rel {k : Key} : ∀ {kw : List (Key × V)} {kvs : List (Key × D)}, kw.map (·.1) = kvs.map (·.1) → DatAll K G (kw.map (·.2)) (kvs.map (·.2)) → (dropK kw k).map (·.1) = (dropD kvs k).map (·.1) ∧ DatAll K G ((dropK kw k).map (·.2)) ((dropD kvs k).map (·.2))
  | [], [], _, _ => ⟨rfl, .nil⟩
  | (a, v) :: kw, (b, d) :: kvs, e, r => by
    simp only [List.map_cons, List.cons.injEq] at e
    obtain ⟨rfl, e⟩ := e
    cases r with
    | cons r1 r2 =>
      obtain ⟨h1, h2⟩ := drop_rel (k := k) e r2
      unfold dropK dropD at *
      by_cases hk : a = k
      · rw [List.filter_cons_of_neg (by simp [hk]), List.filter_cons_of_neg (by simp [hk])]
        exact ⟨h1, h2⟩
      · rw [List.filter_cons_of_pos (by simp [hk]), List.filter_cons_of_pos (by simp [hk]), List.map_cons, List.map_cons, List.map_cons, List.map_cons, h1]
        exact ⟨rfl, .cons r1 h2⟩
  | [], _ :: _, e, _ => by simp at e
  | _ :: _, [], e, _ => by simp at e
theorem Wld.dic {v : V} {a : Addr} {kvs : List (Key × D)} (w : Wld K G C H) (r : Dat K G v (.own a)) (e : C a = some (.dic kvs)) : v = .ref a ∧ ∃ kw : List (Key × V), H a = some (.dK kw) ∧ kw.map (·.1) = kvs.map (·.1) ∧ DatAll K G (kw.map (·.2)) (kvs.map (·.2)) := by
  cases r
  obtain ⟨_, kw, h1, h2, h3⟩ := w.cell a _ e
  exact ⟨rfl, kw, h1, h2, h3⟩
end
/-! ### d[k], lists and dicts alike -/
def rIxD : R2 := fun x y H Q => ∃ a v, x = .ref a ∧ DGet H a y (some v) ∧ Q v H
theorem ix_dict {X : Cx} (hu : X.A.units + 1 < cLine) : IxR X rIxD := by
  intro value slice pins s σ H x y v u Q I rx ry h hs
  obtain ⟨a, z, rfl, g, q⟩ := h
  obtain rfl : v = Value.ref a := rx
  have hT := dict_typeIs I g
  have h2 : wpAny (model X.prog X.w) X.A (getItem (.ref a) u) (EP X pins σ Q) X.xe s := d_getItem hu I g ry fun w' s3 I3 rw' => ⟨z, H, I3, rw', q⟩
  unfold subscriptTail
  refine wpAny_bind ?_
  rw [getitemInPython_of_ne hT.not_modules]
  refine wpAny_bind (wpAny_specialOf hT PySem.F.slot_dict_getitem.lookup ?_)
  have fin : wpAny (model X.prog X.w) X.A (subscripted slice false (.ref a) u) (fun r s₃ => wpAny (model X.prog X.w) X.A (letTemporaryGo value (.ref a) r >>= fun _ => pure r) (EP X pins σ Q) X.xe s₃) X.xe s := by
    rw [hs]
    exact wpAny_operating (wpAny_mono h2 (fun r s₃ h₃ => wpAny_bind (wpAny_letTemporaryGo (wpAny_pure h₃))) fun _ _ x => x)
  first
    | exact wpAny_pure (wpAny_bind fin)
    | exact wpAny_bind (wpAny_pure (wpAny_bind fin))
    | exact wpAny_bind fin
theorem IxR.or {X : Cx} {r r' : R2} (h : IxR X r) (h' : IxR X r') : IxR X fun x y H Q => r x y H Q ∨ r' x y H Q := by
  intro value slice pins s σ H x y v u Q I rx ry hq hs
  rcases hq with hq | hq
  · exact h value slice pins s σ H x y v u Q I rx ry hq hs
  · exact h' value slice pins s σ H x y v u Q I rx ry hq hs
def dGetD : OpD := fun x y C k => ∃ a kvs ky d, x = .own a ∧ y = kD ky ∧ C a = some (.dic kvs) ∧ valD kvs ky = some d ∧ k d C
def dIxD : OpD := fun x y C k => dIx x y C k ∨ dGetD x y C k
theorem r2_ixD {K : PySem.W.Frag} : R2D K (fun x y H Q => rIx K x y H Q ∨ rIxD x y H Q) dIxD := by
  rintro x y a b G C H k Q w da db (h | ⟨p, kvs, ky, d, rfl, rfl, hp, hv, hk⟩) q
  · exact .inl (r2_ix x y a b G C H k Q w da db h q)
  · obtain ⟨rfl, kw, h1, h2, h3⟩ := w.dic da hp
    obtain rfl := dat_key db
    obtain ⟨_, g2, _⟩ := rel_val (k := ky) h2 h3
    obtain ⟨v, e, r⟩ := g2 d hv
    refine .inr ⟨p, v, rfl, ?_, q _ _ _ _ _ (Fr.refl ..) w r hk⟩
    rw [← e]
    exact DGet.k h1
/-! ### in -/
def rInDk (neg : Bool) : R2 := fun y x H Q => ∃ a o, x = .ref a ∧ DGet H a y o ∧ Q (.bl (if neg = true then !o.isSome else o.isSome)) H
theorem op_inDk {X : Cx} (hu : X.A.units + 1 < cLine) : OpR X (compareOp .In) (rInDk false) := by
  rintro pins s σ H y x u v Q I ry rx ⟨a, o, rfl, g, q⟩
  obtain rfl : v = Value.ref a := rx
  exact d_in hu I g ry fun s3 I3 => ⟨.bl o.isSome, H, I3, rfl, q⟩
theorem op_ninDk {X : Cx} (hu : X.A.units + 1 < cLine) : OpR X (compareOp .NotIn) (rInDk true) := by
  rintro pins s σ H y x u v Q I ry rx ⟨a, o, rfl, g, q⟩
  obtain rfl : v = Value.ref a := rx
  exact d_notIn hu I g ry fun s3 I3 => ⟨.bl (!o.isSome), H, I3, rfl, q⟩
def dInDk (neg : Bool) : OpD := fun y x C k => ∃ a kvs ky, x = .own a ∧ y = kD ky ∧ C a = some (.dic kvs) ∧ k (.bl (if neg = true then !(valD kvs ky).isSome else (valD kvs ky).isSome)) C
theorem r2_inDk {K : PySem.W.Frag} {neg : Bool} : R2D K (rInDk neg) (dInDk neg) := by
  rintro y x b a G C H k Q w db da ⟨p, kvs, ky, rfl, rfl, hp, hk⟩ q
  obtain ⟨rfl, kw, h1, h2, h3⟩ := w.dic da hp
  obtain rfl := dat_key db
  obtain ⟨_, _, g3⟩ := rel_val (k := ky) h2 h3
  refine ⟨p, valV kw ky, rfl, DGet.k h1, ?_⟩
  rw [g3]
  exact q _ _ _ _ _ (Fr.refl ..) w (.bl _) hk
def dInX (neg : Bool) : OpD := fun x y C k => dIn neg x y C k ∨ dInDk neg x y C k
theorem OpD.or {K : PySem.W.Frag} {r r' : R2} {p p' : OpD} (h : R2D K r p) (h' : R2D K r' p') : R2D K (fun x y H Q => r x y H Q ∨ r' x y H Q) fun x y C k => p x y C k ∨ p' x y C k := by
  rintro x y a b G C H k Q w da db (z | z) q
  · exact .inl (h x y a b G C H k Q w da db z q)
  · exact .inr (h' x y a b G C H k Q w da db z q)
/-! ### d[k] = v -/
def rSetD : TSet := fun x i v H Q => ∃ a H', x = .ref a ∧ DPut H a i v H' ∧ Q H'
theorem set_dict {X : Cx} (hu : X.A.units + 1 < cLine) : PSet X rSetD := by
  intro pins s σ H o i v ov iv u Q I ro ri rv h
  obtain ⟨a, H', rfl, g, q⟩ := h
  obtain rfl : ov = Value.ref a := ro
  exact d_setItem hu I g ri rv fun s4 I4 => ⟨H', I4, q⟩
theorem PSet.or {X : Cx} {t t' : TSet} (h : PSet X t) (h' : PSet X t') : PSet X fun x i v H Q => t x i v H Q ∨ t' x i v H Q := by
  intro pins s σ H o i v ov iv u Q I ro ri rv hq
  rcases hq with hq | hq
  · exact h pins s σ H o i v ov iv u Q I ro ri rv hq
  · exact h' pins s σ H o i v ov iv u Q I ro ri rv hq
def dSetX (x y d : D) (C : CS) (kC : CS → Prop) : Prop := (∃ p n xs j, x = .own p ∧ y = .int n ∧ C p = some (.lst xs) ∧ ixN xs.length n = some j ∧ kC (put C p (.lst (xs.set j d)))) ∨
  ∃ p kvs ky, x = .own p ∧ y = kD ky ∧ C p = some (.dic kvs) ∧ kvs.length < sizeLine ∧ kC (put C p (.dic (putD kvs ky d)))
section
variable {P : Program} {w : World} {K : PySem.W.Frag} {mg : Str → Option Value} {base : Heap} {j n : Nat} {X : Cx} {a b e o i : Expr} {es : List Expr} {env : DEnv} {C : CS} {k : KD} {kb : Bool → CS → Prop} {pos p apos cpos tpos p0 : Pos} {E : DEnds}
theorem Ctx.hu (hx : Ctx P w K mg base j X) : X.A.units + 1 < cLine := by have := hx.room.units; have := hx.room.un; omega
theorem x_ixD (hx : Ctx P w K mg base j X) (h : WE X a env C fun x C1 => WE X b env C1 fun y C2 => dIxD x y C2 k) (hs : PlainIx b := by intro _ _; rfl) : WE X (.Subscript a b pos) env C k := .of (pe_ix (IxR.or ix_seq (ix_dict hx.hu)) pe_tS pe_tS hs) (ev_op r2_ixD h)
theorem x_inX (hx : Ctx P w K mg base j X) (h : WE X a env C fun x C1 => WE X b env C1 fun y C2 => dInX false x y C2 k) (hm : behindInMarks .In b = false := by rfl) : WE X (.Compare a [.In] [b] pos) env C k := we_cmp (OpR.or (OpR.or (op_inD (Room.u65 hx.room)) (OpR.or op_in_sign op_in_seq)) (op_inDk hx.hu)) (OpD.or r2_in r2_inDk) h hm
theorem xt_inX (hx : Ctx P w K mg base j X) (h : WE X a env C fun x C1 => WE X b env C1 fun y C2 => dInX false x y C2 (tb kb)) (hm : behindInMarks .In b = false := by rfl) : WT X (.Compare a [.In] [b] pos) env C kb := wt_cmp (OpR.or (OpR.or (op_inD (Room.u65 hx.room)) (OpR.or op_in_sign op_in_seq)) (op_inDk hx.hu)) (OpD.or r2_in r2_inDk) h hm
theorem x_ninX (hx : Ctx P w K mg base j X) (h : WE X a env C fun x C1 => WE X b env C1 fun y C2 => dInX true x y C2 k) (hm : behindInMarks .NotIn b = false := by rfl) : WE X (.Compare a [.NotIn] [b] pos) env C k := we_cmp (OpR.or (OpR.or (op_notInD (Room.u65 hx.room)) (OpR.or op_notIn_sign op_notIn_seq)) (op_ninDk hx.hu)) (OpD.or r2_nin r2_inDk) h hm
theorem xt_ninX (hx : Ctx P w K mg base j X) (h : WE X a env C fun x C1 => WE X b env C1 fun y C2 => dInX true x y C2 (tb kb)) (hm : behindInMarks .NotIn b = false := by rfl) : WT X (.Compare a [.NotIn] [b] pos) env C kb := wt_cmp (OpR.or (OpR.or (op_notInD (Room.u65 hx.room)) (OpR.or op_notIn_sign op_notIn_seq)) (op_ninDk hx.hu)) (OpD.or r2_nin r2_inDk) h hm
theorem set_dat {G H : Hp} {x i' v : V} {dx di dv : D} {kC : CS → Prop} {Q : Hp → Prop} (w1 : Wld K G C H) (rx : Dat K G x dx) (ri : Dat K G i' di) (rv : Dat K G v dv) (h : dSetX dx di dv C kC) (q : ∀ C' H', Fr G C H G C' H' → Wld K G C' H' → kC C' → Q H') : rSetL x i' v H Q ∨ rSetD x i' v H Q := by
  rcases h with ⟨p, n, xs, j, rfl, rfl, hp, hj, hk⟩ | ⟨p, kvs, ky, rfl, rfl, hp, hl, hk⟩
  · exact .inl (set_ok w1 hp rx ri rv hj fun H' f w' => q _ H' f w' hk)
  · obtain ⟨rfl, kw, h1, h2, h3⟩ := w1.dic rx hp
    obtain rfl := dat_key ri
    obtain ⟨g1, g2⟩ := put_rel (k := ky) rv h2 h3
    have hlen : kw.length = kvs.length := by rw [← List.length_map (f := (·.1)) (as := kw), h2, List.length_map]
    obtain ⟨w3, f3⟩ := w1.write hp (o := .dK (L2.putK kw ky v)) (c' := .dic (putD kvs ky dv)) fun H' e => ⟨_, e, g1, g2⟩
    exact .inr ⟨p, _, rfl, DPut.k h1 (by rw [hlen]; exact hl), q _ _ f3 w3 hk⟩
theorem x_setX (hx : Ctx P w K mg base j X) {d : D} {kE : DEnv → CS → Prop} (h : WE X o env C fun x C1 => WE X i env C1 fun y C2 => dSetX x y d C2 (kE env))
    (ha : ∀ v, assign (.Subscript o i pos) X.env v = (do
      let ov ← holding [v] (eval o X.env)
      let iv ← holding [v, ov] (eval i X.env)
      standAt pos
      holding [v, ov, iv] (setItem ov iv v)
      release [v, ov, iv] []) := by intro _; rfl) : WG X (.Subscript o i pos) d env C kE :=
  .of (pg_sub pe_tS pe_tS (PSet.or set_list (set_dict hx.hu)) ha) fun G σ H v Q w er r q => h G σ H _ w er fun x' G1 C1 H1 x f1 w1 r1 h1 => h1 G1 σ H1 _ w1 (er.mono f1.exG) fun y' G2 C2 H2 y f2 w2 r2 h2 =>
    set_dat w2 (r1.mono f2.exG) r2 (r.mono (f1.trans f2).exG) h2 fun C' H' f3 w3 hk => q _ _ _ _ _ ((f1.trans f2).trans f3) w3 (er.mono (f1.trans f2).exG) hk
/-- {} -/
theorem x_dnew (h : ∀ a, C a = none → k (.own a) (put C a (.dic []))) : WE X (.Dict [] [] pos) env C k := .of pe_dnewK fun G σ H Q w er q p hp => by
  obtain ⟨w3, f3⟩ := w.newC hp (o := .dK []) (c := .dic []) fun H' e => ⟨[], e, rfl, .nil⟩
  exact q _ _ _ _ _ f3 w3 (.own p) (h p (w.ne hp).2)
/-- d.get(k, x) -/
theorem x_dget2 (hx : Ctx P w K mg base j X) (h : WE X o env C fun x C1 => ∃ p kvs, x = .own p ∧ C1 p = some (.dic kvs) ∧ WE X a env C1 fun y C2 => WE X b env C2 fun z C3 => ∃ kvs ky, y = kD ky ∧ C3 p = some (.dic kvs) ∧ k ((valD kvs ky).getD z) C3)
    (m : M2 X o "get" apos a b cpos) : WE X (.Call (.Attribute o "get" apos) [a, b] [] cpos) env C k :=
  .of (pe_dget2 hx.hu pe_tS pe_tS pe_tS m) fun G σ H Q w er q => h G σ H _ w er fun x' G1 C1 H1 x f1 w1 r1 z => by
    obtain ⟨p, kvs, rfl, hp, z⟩ := z
    obtain ⟨rfl, kw, h1, h2, h3⟩ := w1.dic r1 hp
    refine ⟨p, rfl, .inl ⟨kw, .inl h1⟩, z G1 σ H1 _ w1 (er.mono f1.exG) fun y' G2 C2 H2 y f2 w2 r2 z2 => z2 G2 σ H2 _ w2 (er.mono (f1.trans f2).exG) fun z' G3 C3 H3 zd f3 w3 r3 z3 => ?_⟩
    obtain ⟨kvs', ky, rfl, hp', hk⟩ := z3
    obtain ⟨_, kw', g1, g2, g3⟩ := w3.dic (.own p) hp'
    have e := dat_key r2
    subst e
    obtain ⟨u1, u2, u3⟩ := rel_val (k := ky) g2 g3
    refine ⟨valV kw' ky, DGet.k g1, ?_⟩
    cases hv : valD kvs' ky with
    | none =>
      rw [u1 hv]
      rw [hv] at hk
      exact q _ _ _ _ _ ((f1.trans f2).trans f3) w3 r3 hk
    | some d =>
      obtain ⟨v, e1, e2⟩ := u2 d hv
      rw [e1]
      rw [hv] at hk
      exact q _ _ _ _ _ ((f1.trans f2).trans f3) w3 e2 hk
/-- d.pop(k), there -/
theorem x_dpop1 (h : WE X o env C fun x C1 => ∃ p kvs, x = .own p ∧ C1 p = some (.dic kvs) ∧ WE X a env C1 fun y C2 => ∃ kvs ky d, y = kD ky ∧ C2 p = some (.dic kvs) ∧ valD kvs ky = some d ∧ k d (put C2 p (.dic (dropD kvs ky))))
    (m : M1 X o "pop" apos a cpos) : WE X (.Call (.Attribute o "pop" apos) [a] [] cpos) env C k :=
  .of (pe_dpop1 pe_tS pe_tS m) fun G σ H Q w er q => h G σ H _ w er fun x' G1 C1 H1 x f1 w1 r1 z => by
    obtain ⟨p, kvs, rfl, hp, z⟩ := z
    obtain ⟨rfl, kw, h1, h2, h3⟩ := w1.dic r1 hp
    refine ⟨p, rfl, .inl ⟨kw, .inl h1⟩, z G1 σ H1 _ w1 (er.mono f1.exG) fun y' G2 C2 H2 y f2 w2 r2 z2 => ?_⟩
    obtain ⟨kvs', ky, d, rfl, hp', hv, hk⟩ := z2
    obtain ⟨_, kw', g1, g2, g3⟩ := w2.dic (.own p) hp'
    obtain rfl := dat_key r2
    obtain ⟨_, u2, _⟩ := rel_val (k := ky) g2 g3
    obtain ⟨v, e1, e2⟩ := u2 d hv
    obtain ⟨v1, v2⟩ := drop_rel (k := ky) g2 g3
    obtain ⟨w3, f3⟩ := w2.write hp' (o := .dK (dropK kw' ky)) (c' := .dic (dropD kvs' ky)) fun H' e => ⟨_, e, v1, v2⟩
    exact ⟨kw', ky, v, g1, rfl, e1, q _ _ _ _ _ ((f1.trans f2).trans f3) w3 e2 hk⟩
/-- del d[k] -/
theorem x_ddel (h : WE X o env C fun x C1 => WE X i env C1 fun y C2 => ∃ p kvs ky, x = .own p ∧ y = kD ky ∧ C2 p = some (.dic kvs) ∧ (valD kvs ky).isSome = true ∧ E.nx env (put C2 p (.dic (dropD kvs ky)))) : WS X (.Delete [.Subscript o i tpos] pos) env C E :=
  .of (ps_ddel pe_tS pe_tS) fun G σ H D w er q => h G σ H _ w er fun x' G1 C1 H1 x f1 w1 r1 h1 => h1 G1 σ H1 _ w1 (er.mono f1.exG) fun y' G2 C2 H2 y f2 w2 r2 z => by
    obtain ⟨p, kvs, ky, rfl, rfl, hp, hv, hk⟩ := z
    obtain ⟨rfl, kw, g1, g2, g3⟩ := w2.dic (r1.mono f2.exG) hp
    obtain rfl := dat_key r2
    obtain ⟨_, _, u3⟩ := rel_val (k := ky) g2 g3
    obtain ⟨v1, v2⟩ := drop_rel (k := ky) g2 g3
    obtain ⟨w3, f3⟩ := w2.write hp (o := .dK (dropK kw ky)) (c' := .dic (dropD kvs ky)) fun H' e => ⟨_, e, v1, v2⟩
    exact ⟨p, kw, ky, rfl, g1, rfl, by rw [u3]; exact hv, q.nx _ _ _ _ _ ((f1.trans f2).trans f3) w3 (er.mono ((f1.trans f2).trans f3).exG) hk⟩
end
/-! ### len, sorted, list of a dict -/
def dLenK : List D → CS → KD → Prop := fun ds C k => ∃ a kvs, ds = [.own a] ∧ C a = some (.dic kvs) ∧ k (.int (kvs.length : Nat)) C
theorem rl_lenK {K : PySem.W.Frag} : RLD K (fun xs H Q => ∃ a kvs, xs = [V.ref a] ∧ H a = some (.dK kvs) ∧ Q (.int kvs.length) H) dLenK := by
  rintro xs ds G C H k Q w rs ⟨a, kvs, rfl, hp, hk⟩ q
  cases rs with
  | cons r1 r2 =>
    cases r2
    obtain ⟨rfl, kw, h1, h2, _⟩ := w.dic r1 hp
    have hlen : kw.length = kvs.length := by rw [← List.length_map (f := (·.1)) (as := kw), h2, List.length_map]
    exact ⟨a, kw, rfl, h1, by rw [hlen]; exact q _ _ _ _ _ (Fr.refl ..) w (.int _) hk⟩
def dLenX : List D → CS → KD → Prop := fun ds C k => dLen ds C k ∨ dLenK ds C k
theorem CallR.or {X : Cx} {f : Value} {r r' : List V → Hp → VK → Prop} (h : CallR X f r) (h' : CallR X f r') : CallR X f fun xs H Q => r xs H Q ∨ r' xs H Q := by
  intro pins s σ H xs us Q I rv hq
  rcases hq with hq | hq
  · exact h pins s σ H xs us Q I rv hq
  · exact h' pins s σ H xs us Q I rv hq
theorem RLD.or {K : PySem.W.Frag} {r r' : List V → Hp → VK → Prop} {p p' : List D → CS → KD → Prop} (h : RLD K r p) (h' : RLD K r' p') : RLD K (fun xs H Q => r xs H Q ∨ r' xs H Q) fun ds C k => p ds C k ∨ p' ds C k := by
  rintro xs ds G C H k Q w rs (z | z) q
  · exact .inl (h xs ds G C H k Q w rs z q)
  · exact .inr (h' xs ds G C H k Q w rs z q)
/-- sorted(d), keys texts -/
def dSortedK : List D → CS → KD → Prop := fun ds C k => ∃ (a : Addr) (kvs : List (Key × D)) (ks : List Str), ds = [.own a] ∧ C a = some (.dic kvs) ∧ kvs.map (·.1) = ks.map Sum.inr ∧ ks.length < 64 ∧ ∀ ys p, ys.Perm ks → sortedS ys = true → C p = none → k (.own p) (put C p (.lst (ys.map D.str)))
theorem rl_sortedK {K : PySem.W.Frag} : RLD K (fun xs H Q => ∃ (a : Addr) (kvs : List (Key × V)) (ks : List Str), xs = [.ref a] ∧ Rd H a (.dK kvs) ∧ kvs.map (·.1) = ks.map Sum.inr ∧ ks.length < 64 ∧
    ∀ ys p, ys.Perm ks → sortedS ys = true → H p = none → Q (.ref p) (upd H p (.lst (ys.map V.str)))) dSortedK := by
  rintro xs ds G C H k Q w rs ⟨a, kvs, ks, rfl, hp, hks, h64, hk⟩ q
  cases rs with
  | cons r1 r2 =>
    cases r2
    obtain ⟨rfl, kw, h1, h2, _⟩ := w.dic r1 hp
    refine ⟨a, kw, ks, rfl, .inl h1, h2.trans hks, h64, fun ys p hperm hs hp => ?_⟩
    obtain ⟨w3, f3⟩ := w.newC hp (o := .lst (ys.map V.str)) (c := .lst (ys.map D.str)) fun H' e => ⟨_, e, datAll_strsI ys⟩
    exact q _ _ _ _ _ f3 w3 (.own p) (hk ys p hperm hs (w.ne hp).2)
section
variable {P : Program} {w : World} {K : PySem.W.Frag} {mg : Str → Option Value} {base : Heap} {j n : Nat} {X : Cx} {e : Expr} {es : List Expr} {env : DEnv} {C : CS} {k : KD} {pos p : Pos}
theorem x_lenX (hx : Ctx P w K mg base j X) (Z : Zs mg) (hg : Gl X "len") (h : WA X (e :: es) env C fun ds C1 => dLenX ds C1 k) (he : starEach (e :: es) X.env = (false, eval e X.env) :: starEach es X.env := by rfl) (hpl : (backTo pos (starEach es X.env)).any (·.1) = false := by rfl) : WE X (.Call (.Name "len" p) (e :: es) [] pos) env C k := we_cb (hx.zs Z).len (CallR.or call_len call_lenD) (RLD.or rl_len rl_lenK) hg bt_len h (he := he) (hpl := hpl)
theorem x_sortedK (hx : Ctx P w K mg base j X) (Z : Zs mg) (hg : Gl X "sorted") (h : WA X (e :: es) env C fun ds C1 => dSortedK ds C1 k) (he : starEach (e :: es) X.env = (false, eval e X.env) :: starEach es X.env := by rfl) (hpl : (backTo pos (starEach es X.env)).any (·.1) = false := by rfl) : WE X (.Call (.Name "sorted" p) (e :: es) [] pos) env C k := we_cb (hx.zs Z).sorted (call_sortedD hx.calm) rl_sortedK hg (by decide +kernel) h (he := he) (hpl := hpl)
end
end DL
/-! DLx: enumerate of a tuple; own __len__ and __contains__; strip with signs; dict of pairs. -/
namespace PySem
open Sem (wp)
open AutoSeq1 (wpAny_loadPart')
set_option maxHeartbeats 1000000 in
theorem meets_enumerate_newT {v : Value} {o : Obj} {H : Heap → Prop} (B : Begins v o H) :
    Meets (Builtin.«enumerate.__new__» ⟨[.type "enumerate", v], []⟩) (fun _ R s => H s.heap ∧
      R (.ok (.ret (.ref (s.heap.push o).objs.size))) { s with heap := (s.heap.push o).push { cls := .type "enumerate", data := .fields #[.none, .bool false, .ref s.heap.objs.size, rawInt 0, .none, .none] } }) :=
  .of_wp fun prog w A R s h => by
    obtain ⟨hp, g, d, tk, os⟩ := s; obtain ⟨h1, h⟩ := h
    have hsub := sub_enumerate
    have q1 : ∀ {A' : Around} {E : Value → Shared → Prop} {Q : Value → Shared → Prop}, Q (.ref hp.objs.size) ⟨hp.push o, g, d, tk, os⟩ → wpAny (model prog w) A' (pyIter v) Q E ⟨hp, g, d, tk, os⟩ :=
      fun q => B.iter prog w _ _ ⟨hp, g, d, tk, os⟩ _ h1 q
    wp_walk using q1
    refine wpAny_stack_any fun st => wpAny_pure ?_
    split
    · rename_i c _ _ _ _ _
      cases (c == Value.type "enumerate")
      · wp_walk using q1
        exact ⟨_, rfl, h⟩
      · wp_walk using q1
        exact ⟨_, rfl, h⟩
    · wp_walk using q1
      exact ⟨_, rfl, h⟩
section
variable {prog : Program} {w : World} {A : Around} {E : Value → Shared → Prop} {s : Shared}
theorem call_enumerate_B {v : Value} {o : Obj} {H : Heap → Prop} (B : Begins v o H) {Q : Value → Shared → Prop} (h1 : H s.heap)
    (h : ∀ h', IsEnum h' (s.heap.objs.size + 1) s.heap.objs.size 0 .none → h'.get? s.heap.objs.size = some o → h'.objs.size = s.heap.objs.size + 2 →
      (∀ b o, s.heap.get? b = some o → h'.get? b = some o) → Q (.ref (s.heap.objs.size + 1)) { s with heap := h' }) :
    wpAny (model prog w) A (call (.type "enumerate") [v]) Q E s := by
  refine callType_new F.called_enumerate (by decide) (F.typeCall_enumerate_1 _) (F.newCall_enumerate_1 _) (fun obj => F.args_object_init_2 obj _) F.entry_enumerate_new
    (meets_enumerate_newT B) ⟨h1, ?_⟩
  have hz : (s.heap.push o).objs.size = s.heap.objs.size + 1 := Heap.size_push ..
  show _ ∧ _
  rw [hz]
  have he : IsEnum ((s.heap.push o).push { cls := .type "enumerate", data := .fields #[.none, .bool false, .ref s.heap.objs.size, rawInt 0, .none, .none] }) (s.heap.objs.size + 1) s.heap.objs.size 0 .none := by
    have := Heap.get?_push_size (s.heap.push o) (o := { cls := .type "enumerate", data := .fields #[.none, .bool false, .ref s.heap.objs.size, rawInt 0, .none, .none] }) rfl
    rw [hz] at this; exact this
  refine ⟨⟨_, he, rfl⟩, h _ he (Heap.get?_push_of_some _ (Heap.get?_push_size _ B.free)) (by rw [Heap.size_push, hz]) fun b o x => Heap.get?_push_of_some _ (Heap.get?_push_of_some _ x)⟩
end
end PySem

namespace L2
open PySem PySem.Spec PyProof.Rows
/-- the tuple at a, each item in a new pair -/
def IteT (K : PySem.W.Frag) (a : Addr) : It :=
  ⟨fun i H => ∃ (xs : List V) (x : V), SqT K H a xs ∧ xs[i]? = some x, fun i H v H' => ∃ T x, v = .ref T ∧ H T = none ∧ H' = upd H T (.tup [.int (i : Nat), x]) ∧ ∀ xs, SqT K H a xs → xs[i]? = some x, fun i H => ∃ xs : List V, SqT K H a xs ∧ xs.length ≤ i⟩
theorem drawsEnd {prog : Program} {w : World} {A : Around} (hh : A.handled = none) (it t : Addr) (hne : t ≠ it) (items : Array Value) (n : Nat) (hn : items.size ≤ n) :
    PySem.Draws prog w A it [it, t] n (fun _ _ => False) (fun i h => i = n ∧ h.IsTupleIter it t i ∧ h.IsTuple t items) where
  live := fun _ _ st => let ⟨o, ho, _⟩ := st.2.1; ⟨o, ho⟩
  frame := fun _ _ _ st hk => ⟨st.1, st.2.1.at fun o e => hk it (by simp) o e, st.2.2.at fun o e => hk t (by simp) o e⟩
  item := fun i s Q E hi st hQ => by
    have := st.1
    omega
  done := fun s Q E st hE => PySem.wpAny_nextOf_tuple_end hh st.2.1 st.2.2 (by simp; omega) hE
theorem turn_enumT {P : Program} {w : World} {K : PySem.W.Frag} {elts : List Expr} {kk : Nat} {tpos : Pos} (a e it : Addr) :
    Turn P w K (.Tuple elts kk tpos) (IteT K a) [e, it] e (fun i h => (∃ old, IsEnum h e it ((i : Nat) : Int) old) ∧ h.IsTupleIter it a i ∧ e ≠ it) where
  mem := by simp
  obj := fun i h st b hb => by
    obtain ⟨⟨old, he⟩, ⟨o, ho, hc, hd⟩, _⟩ := st
    have e' : b = e ∨ b = it := by simpa using hb
    rcases e' with z | z
    · rw [z]; exact ⟨_, he, fun v q => nomatch q⟩
    · rw [z]; exact ⟨o, ho, fun v q => by rw [hd] at q; cases q⟩
  keep := fun i h h' st k => let ⟨⟨old, he⟩, hi, hne⟩ := st; ⟨⟨old, k e (by simp) _ he⟩, hi.at fun o q => k it (by simp) o q, hne⟩
  item := by
    intro X hP hw hK hc i pins s σ H E I hf st hg
    subst hP hw hK
    obtain ⟨⟨old, he⟩, hit, hne⟩ := st
    obtain ⟨xs, x, hq, hx⟩ := hg
    obtain ⟨its, rv, p, hz⟩ := I.tuple hq
    obtain ⟨u, hu, ru⟩ := rv.get hx
    have hel : e < s.heap.objs.size := Heap.lt_size he
    have hil : it < s.heap.objs.size := by obtain ⟨_, q, _⟩ := hit; exact Heap.lt_size q
    have pT : s.heap.IsTuple a its.toArray := p
    have hat : a ≠ it := by
      rintro rfl
      obtain ⟨o1, h1, c1, _⟩ := pT
      obtain ⟨o2, h2, c2, _⟩ := hit
      rw [h1] at h2; cases h2
      rw [c1] at c2; exact absurd c2 (by decide)
    have hae : a ≠ e := by
      rintro rfl
      obtain ⟨o1, h1, c1, _⟩ := pT
      have h2 : s.heap.get? a = some _ := he
      rw [h1] at h2; cases h2
      have c2 : Value.type "enumerate" = Value.type "tuple" := c1
      exact absurd c2 (by decide)
    have hlt : i < its.toArray.size := by
      have := (List.getElem?_eq_some_iff.mp hu).1
      simpa using this
    refine wpAny_pyNext_enum_itemC (c := (i : Int)) (i := i) (PySem.Draws.tuple (prog := X.prog) (w := X.w) (A := X.A.in1) (I.ok.hd hc) it a hat its.toArray) he ⟨hit, pT⟩ hlt hne (by simp; exact ⟨hne, fun z => hae z.symm⟩) fun y h' tk hP ho hst' hT hsz hk => ?_
    obtain ⟨hit', hat'⟩ := hst'
    have hy : y = u := by
      have e1 : its.toArray[i]? = some y := hP
      have e2 : its.toArray[i]? = some u := by simpa using hu
      rw [e1] at e2
      exact Option.some.inj e2
    subst hy
    refine ⟨_, rfl, wpAny_letOwnedTupleGo_enum (s := { s with heap := h', toks := tk + 1 }) ho fun h'' he' sb => ?_⟩
    have hT2 : h''.get? s.heap.objs.size = some { cls := .type "tuple", data := .seq #[.int i tk, y] } := (sb.2 _ (Nat.ne_of_gt hel)).trans hT
    have new : ObjOk X.prog X.w (upd H s.heap.objs.size (.tup [.int (i : Nat), x])) h'' s.heap.objs.size (.tup [.int (i : Nat), x]) :=
      ⟨by show 2 ≤ sizeLine; decide, [.int i tk, y], .cons ⟨_, rfl⟩ (.cons ru .nil), ⟨_, hT2, rfl, _, rfl⟩⟩
    have I1 : Inv X pins σ (upd H s.heap.objs.size (.tup [.int (i : Nat), x])) { s with heap := h'', toks := tk + 1 } :=
      I.turnedNew (ch := [e, it]) (fun b ob hb q => (sb.2 b (fun z => hb (by simp [z]))).trans (hk b ob (fun z => hb (by simp [z])) (fun z => hb (by simp [z])) q)) hf (Nat.le_refl _) new
    refine ⟨.ref s.heap.objs.size, _, I1, rfl, ⟨_, x, rfl, I.hok.fresh (Nat.le_refl _), rfl, fun ys hy => by rw [I.tuple_inj hy hq]; exact hx⟩, ⟨⟨y, ?_⟩, hit'.at fun o q => (sb.2 it (Ne.symm hne)).trans q, hne⟩, fun b hb => ?_⟩
    · have e1 : ((i + 1 : Nat) : Int) = (i : Int) + 1 := by omega
      rw [e1]; exact he'
    · have hb' : b < s.heap.objs.size := by
        have e' : b = e ∨ b = it := by simpa using hb
        rcases e' with z | z
        · rw [z]; exact hel
        · rw [z]; exact hil
      rw [upd_ne (Nat.ne_of_lt hb')]
      exact (hf b hb).1
  done := by
    intro X hP hw hK hc i pins s σ H E I hf st hg
    subst hP hw hK
    obtain ⟨⟨old, he⟩, hit, hne⟩ := st
    obtain ⟨xs, hq, hx⟩ := hg
    obtain ⟨its, rv, p, hz⟩ := I.tuple hq
    obtain ⟨f0, f1, f2, f3, f4, f5⟩ := hf it (by simp)
    have hl := rv.length
    have pT : s.heap.IsTuple a its.toArray := p
    have hat : a ≠ it := by
      rintro rfl
      obtain ⟨o1, h1, c1, _⟩ := pT
      obtain ⟨o2, h2, c2, _⟩ := hit
      rw [h1] at h2; cases h2
      rw [c1] at c2; exact absurd c2 (by decide)
    exact wpAny_pyNext_enum_endD (drawsEnd (A := X.A.in1) (I.ok.hd hc) it a hat its.toArray i (by simp; omega)) he ⟨rfl, hit, pT⟩ fun h' eb => ⟨rfl, I.turned (t' := s.toks) (fun b o hb q => eb b o hb q) f0 f1 f3 f4 f5⟩
  self := fun A i s Q E st h => let ⟨⟨_, he⟩, _⟩ := st; wpAny_pyIter_enum he h
def iEnumX (K : PySem.W.Frag) (ta : TA) : TI := fun σ H R => ta σ H fun vs H1 => ∃ a xs, vs = [.ref a] ∧ ((SqL K H1 a xs ∧ R (Ite K a) H1) ∨ (SqT K H1 a xs ∧ R (IteT K a) H1))
theorem pi_enumX {X : Cx} {e : Expr} {ta : TA} {p pos tpos : Pos} {elts : List Expr} {kk : Nat} (hg : Gl X "enumerate") (hm : X.mg "enumerate" = none) (ha : PA X [e] ta) (hs : starEach [e] X.env = [(false, eval e X.env)] := by rfl) :
    PI X (.Tuple elts kk tpos) (.Call (.Name "enumerate" p) [e] [] pos) (iEnumX X.K ta) := by
  refine ⟨fun pins s σ H R I h => ?_⟩
  refine Call_ (ld_blt I hg hm boot_enumerate (PyProof.Rows.callWith_type1 (thn (ha.run pos pins s σ H _ I h) fun us s1 ⟨vs, H1, I1, r1, q1⟩ => ?_) hs rfl))
  obtain ⟨a, xs, ex, q1⟩ := q1
  subst ex
  have fp : ∀ b ∈ [s1.heap.objs.size + 1, s1.heap.objs.size], FpOk X pins H1 b := fun b hb => by
    have e' : b = s1.heap.objs.size + 1 ∨ b = s1.heap.objs.size := by simpa using hb
    have hle : s1.heap.objs.size ≤ b := by
      rcases e' with z | z
      · rw [z]; exact Nat.le_add_right _ _
      · rw [z]; exact Nat.le_refl _
    exact I1.fpOk hle (I1.hok.fresh hle)
  cases r1 with
  | cons r rr =>
    cases rr
    cases r
    rcases q1 with ⟨hq, q⟩ | ⟨hq, q⟩
    · obtain ⟨its, rv, p', hz⟩ := I1.list hq
      refine call_enumerate_list p'.isList fun h' he hit hsz hk => wpAny_pyIter_enum he ?_
      have I2 : Inv X pins σ H1 { s1 with heap := h' } := I1.kept (t' := s1.toks) hk
      exact ⟨s1.heap.objs.size + 1, [s1.heap.objs.size + 1, s1.heap.objs.size], _, _, H1, rfl, I2, turn_enum a (s1.heap.objs.size + 1) s1.heap.objs.size, ⟨⟨.none, he⟩, hit, Nat.succ_ne_self _⟩, fp, q⟩
    · obtain ⟨its, rv, p', hz⟩ := I1.tuple hq
      refine PySem.call_enumerate_B (begins_tuple a its.toArray) (show s1.heap.IsTuple a its.toArray from p') fun h' he hit hsz hk => wpAny_pyIter_enum he ?_
      have I2 : Inv X pins σ H1 { s1 with heap := h' } := I1.kept (t' := s1.toks) hk
      exact ⟨s1.heap.objs.size + 1, [s1.heap.objs.size + 1, s1.heap.objs.size], _, _, H1, rfl, I2, turn_enumT a (s1.heap.objs.size + 1) s1.heap.objs.size, ⟨⟨.none, he⟩, ⟨_, hit, rfl, rfl⟩, Nat.succ_ne_self _⟩, fp, q⟩
end L2

namespace L2
open PySem PySem.Spec PyProof.Rows
section
variable {X : Cx} {CT : CXT} {n : Nat} {fa Ca : Addr} {fd : FuncData} {ps : List Str} {sp : Sp} {E : XK} {dvs : List V} {ds : List Value}
/-- len(o), the class's own -/
theorem call_lenG (F : DL.FnG X.prog X.w X.K X.mg X.base CT n fa fd ps sp) (hm : Meth X.K Ca "__len__" fa) (hgd : X.A.guards = some []) (hr : Room (n + 1) X.A) (hb : Binds X.K fd ps ds) (hd : Vals dvs ds) (hx : Passes CT X E) :
    CallR X (.builtin "len") (fun xs H Q => ∃ a dx fs, xs = [.ref a] ∧ H a = some (.ins Ca dx fs) ∧ sp (.ref a :: dvs) H (fun v H' => ∃ i : Int, v = .int i ∧ 0 ≤ i ∧ i < 2 ^ 63 ∧ Q (.int i) H') E) := by
  intro pins s σ H xs us Q I r h
  obtain ⟨a, dx, fs, rfl, ea, h⟩ := h
  obtain ⟨u, rfl, rx⟩ := vals1 r
  cases rx
  obtain ⟨mA, O, _⟩ := ins_get I.hok ea
  obtain ⟨od, J, _⟩ := O.look
  obtain ⟨m, hF⟩ := I.fr
  have hl : ([Value.ref a] ++ ds).length = ps.length := by
    rw [← F.len _ _ _ _ h]
    show ds.length + 1 = dvs.length + 1
    rw [hd.length]
  refine PySem.W.len_K hF I.ok.mod.kin J hm.at_ hm.fn (wpAny_call (codeAny_mono (F.run (us := .ref a :: ds) (as := .ref a :: dvs) (by exact hgd) hr.in1 I.env0.in1 (hb s [.ref a] I.kIn hl) (.cons rfl hd) h) fun r s' hq => ?_))
  cases r with
  | error er => exact hx pins σ H s er s' I hq
  | ok fl =>
    cases fl with
    | ret u =>
      obtain ⟨v, H', I3, rv, i, rfl, h0, h1, q3⟩ := I.after hq
      obtain ⟨t, rfl⟩ := rv
      exact ⟨⟨h0, h1⟩, .int i, H', I3.tok _, ⟨_, rfl⟩, q3⟩
    | next => exact False.elim hq
    | brk => exact False.elim hq
    | cont => exact False.elim hq
theorem op_inG (F : DL.FnG X.prog X.w X.K X.mg X.base CT n fa fd ps sp) (hm : Meth X.K Ca "__contains__" fa) (hgd : X.A.guards = some []) (hr : Room n X.A) (hb : Binds X.K fd ps ds) (hd : Vals dvs ds) (hx : Passes CT X E) :
    OpR X (compareOp .In) (fun y x H Q => ∃ a dx fs, x = .ref a ∧ H a = some (.ins Ca dx fs) ∧ sp (.ref a :: y :: dvs) H (fun v H' => ∃ t : Bool, v = .bl t ∧ Q (.bl t) H') E) := by
  intro pins s σ H y x u v Q I ry rx h
  obtain ⟨a, dx, fs, rfl, ea, h⟩ := h
  cases rx
  obtain ⟨mA, O, _⟩ := ins_get I.hok ea
  obtain ⟨od, J, _⟩ := O.look
  obtain ⟨m, hF⟩ := I.fr
  refine PySem.W.in_K hF I.ok.mod.kin J hm.at_ hm.fn ?_
  refine wpAny_mono (DL.goD (us := [.ref a, u]) (as := [.ref a, y]) F hgd hr hb hd hx I (.cons rfl (.cons ry .nil)) h) (fun r s' z => ?_) fun _ _ x => x
  obtain ⟨w', H', I', rw', t, rfl, q⟩ := z
  cases rw'
  exact wpAny_truthy_bool ⟨.bl t, H', I', rfl, q⟩
theorem op_ninG (F : DL.FnG X.prog X.w X.K X.mg X.base CT n fa fd ps sp) (hm : Meth X.K Ca "__contains__" fa) (hgd : X.A.guards = some []) (hr : Room n X.A) (hb : Binds X.K fd ps ds) (hd : Vals dvs ds) (hx : Passes CT X E) :
    OpR X (compareOp .NotIn) (fun y x H Q => ∃ a dx fs, x = .ref a ∧ H a = some (.ins Ca dx fs) ∧ sp (.ref a :: y :: dvs) H (fun v H' => ∃ t : Bool, v = .bl t ∧ Q (.bl (!t)) H') E) := by
  intro pins s σ H y x u v Q I ry rx h
  obtain ⟨a, dx, fs, rfl, ea, h⟩ := h
  cases rx
  obtain ⟨mA, O, _⟩ := ins_get I.hok ea
  obtain ⟨od, J, _⟩ := O.look
  obtain ⟨m, hF⟩ := I.fr
  refine PySem.W.notIn_K hF I.ok.mod.kin J hm.at_ hm.fn ?_
  refine wpAny_mono (DL.goD (us := [.ref a, u]) (as := [.ref a, y]) F hgd hr hb hd hx I (.cons rfl (.cons ry .nil)) h) (fun r s' z => ?_) fun _ _ x => x
  obtain ⟨w', H', I', rw', t, rfl, q⟩ := z
  cases rw'
  exact wpAny_truthy_bool ⟨.bl (!t), H', I', rfl, q⟩
end
end L2
namespace DL
open PySem PySem.Spec PyProof.Rows L2
/-- pairs (i, x) -/
def enumD (xs : List D) : List D := xs.mapIdx fun i x => .tup [.int (i : Nat), x]
theorem enumD_get {xs : List D} {i : Nat} {d : D} (h : (enumD xs)[i]? = some d) : ∃ x, xs[i]? = some x ∧ d = .tup [.int (i : Nat), x] := by
  unfold enumD at h
  rw [List.getElem?_mapIdx] at h
  cases e : xs[i]? with
  | none => rw [e] at h; cases h
  | some x => rw [e] at h; exact ⟨x, rfl, (Option.some.inj h).symm⟩
theorem enumD_len {xs : List D} : (enumD xs).length = xs.length := by simp [enumD]
theorem iterD_enum {K : PySem.W.Frag} {G : Hp} {a : Addr} {xs : List D} {Pc : CS → Prop} (h1 : SeqOf K a xs Pc G) : IterD K (Ite K a) (enumD xs) Pc G := by
  rintro G' C' H' e w p1
  obtain ⟨vs, q1, r1⟩ := h1 G' C' H' e w p1
  refine ⟨fun i d hd => ?_, fun i hi => ⟨vs, q1, by rw [r1.length]; rwa [enumD_len] at hi⟩⟩
  obtain ⟨x, gx, rfl⟩ := enumD_get hd
  obtain ⟨v1, t1, d1⟩ := r1.get gx
  refine ⟨⟨vs, v1, q1, t1⟩, ?_⟩
  rintro v H2 ⟨T, x', rfl, hT, rfl, f1⟩
  have e1 := f1 vs q1
  rw [t1] at e1; cases e1
  obtain ⟨w2, f2, s2⟩ := w.newG hT (.tup [.int (i : Nat), v1])
  exact ⟨_, f2, w2, .tup (SqT.of upd_same) (.cons (.int _) (.cons (d1.mono s2) .nil))⟩
theorem iterD_enumT {K : PySem.W.Frag} {G : Hp} {a : Addr} {vs : List V} {xs : List D} (h1 : SqT K G a vs) (r1 : DatAll K G vs xs) : IterD K (IteT K a) (enumD xs) (fun _ => True) G := by
  rintro G' C' H' e w _
  have q1 : SqT K H' a vs := Same.sqT w.ex (Same.sqT e h1)
  refine ⟨fun i d hd => ?_, fun i hi => ⟨vs, q1, by rw [r1.length]; rwa [enumD_len] at hi⟩⟩
  obtain ⟨x, gx, rfl⟩ := enumD_get hd
  obtain ⟨v1, t1, d1⟩ := r1.get gx
  refine ⟨⟨vs, v1, q1, t1⟩, ?_⟩
  rintro v H2 ⟨T, x', rfl, hT, rfl, f1⟩
  have e1 := f1 vs q1
  rw [t1] at e1; cases e1
  obtain ⟨w2, f2, s2⟩ := w.newG hT (.tup [.int (i : Nat), v1])
  exact ⟨_, f2, w2, .tup (SqT.of upd_same) (.cons (.int _) (.cons ((d1.mono e).mono s2) .nil))⟩
section
variable {P : Program} {w : World} {K : PySem.W.Frag} {mg : Str → Option Value} {base : Heap} {j n m : Nat} {X : Cx} {Cl : Addr} {S : DSp} {dfl : List D} {a b e o : Expr} {ts es : List Expr} {env : DEnv} {C : CS} {k : KD} {kI : KI} {kb : Bool → CS → Prop} {pos p apos tpos cpos : Pos}
theorem wi_enum (hm : X.mg "enumerate" = none) (hg : Gl X "enumerate") (h : WA X [a] env C fun ds C1 => ∃ x xs, ds = [x] ∧ ((seqR C1 x = some xs ∧ kI (enumD xs) (ownP x xs) C1) ∨ (x = .tup xs ∧ kI (enumD xs) (fun _ => True) C1)))
    (hs : starEach [a] X.env = [(false, eval a X.env)] := by rfl) : WI X (.Tuple ts n tpos) (.Call (.Name "enumerate" p) [a] [] pos) env C kI := by
  refine ⟨_, pi_enumX hg hm pa_tAr hs, fun G σ H R w er q => h G σ H _ w er fun v G1 C1 H1 ds f1 w1 r1 z => ?_⟩
  obtain ⟨x, xs, rfl, z⟩ := z
  cases r1 with
  | cons r1 r2 =>
    cases r2
    rcases z with ⟨s1, z⟩ | ⟨rfl, z⟩
    · obtain ⟨a1, rfl, g1, vs, t1⟩ := seqOf_dat w1 r1 s1
      exact ⟨a1, vs, rfl, .inl ⟨t1, q _ _ _ _ _ _ f1 w1 (iterD_enum g1) z⟩⟩
    · cases r1 with
      | tup x1 x2 => exact ⟨_, _, rfl, .inr ⟨Same.sqT w1.ex x1, q _ _ _ _ _ _ f1 w1 (iterD_enumT x1 x2) z⟩⟩
def dLenO (Cl : Addr) (S : DSp) (dfl : List D) : List D → CS → KD → Prop := fun ds C k => ∃ d ks xs, ds = [d] ∧ insD C d = some (Cl, ks, xs) ∧ S (d :: dfl) C fun y C2 => ∃ i : Int, y = .int i ∧ 0 ≤ i ∧ i < 2 ^ 63 ∧ k (.int i) C2
theorem x_lenO (hx : Ctx P w K mg base j X) (Z : Zs mg) (hM : MthC P w K mg base Cl "__len__" n dfl S) (hg : Gl X "len") (h : WA X (e :: es) env C fun ds C1 => dLenO Cl S dfl ds C1 k) (hle : n + 1 ≤ j := by decide)
    (he : starEach (e :: es) X.env = (false, eval e X.env) :: starEach es X.env := by rfl) (hpl : (backTo pos (starEach es X.env)).any (·.1) = false := by rfl) : WE X (.Call (.Name "len" p) (e :: es) [] pos) env C k := by
  obtain ⟨hc, fa, hm, fd, ps, ds, dvs, F, hb, hd, hdat⟩ := hM
  have hroom := hx.room
  have hlen := (hx.zs Z).len
  obtain ⟨e1, e2, e3, e4, e5, _, hgd, hcalm⟩ := hx
  subst e1 e2 e3 e4 e5
  refine we_cb hlen (call_lenG F hm hgd (hroom.mono hle) hb hd pass0) (p := dLenO Cl S dfl) ?_ hg bt_len h (he := he) (hpl := hpl)
  rintro xs ds' G C H k Q w rs ⟨d, ks, xs', rfl, hi, z⟩ q
  cases rs with
  | cons r1 r2 =>
    cases r2
    obtain ⟨a, dx, fs, rfl, h1, h2, h3⟩ := w.ins r1 hi
    refine ⟨a, dx, fs, rfl, h1, toSp_ok (ds := [d]) (vs := [.ref a]) (X0 := E0) (k := fun y C2 => ∃ i : Int, y = .int i ∧ 0 ≤ i ∧ i < 2 ^ 63 ∧ k (.int i) C2) w (.cons r1 .nil) hdat (Fr.refl ..) ?_ z⟩
    rintro v G2 C2 H2 d2 f2 w2 r2 ⟨i, rfl, i0, i1, zk⟩
    cases r2
    exact ⟨i, rfl, i0, i1, q _ _ _ _ _ f2 w2 (.int i) zk⟩
def dInO (neg : Bool) (Cl : Addr) (S : DSp) (dfl : List D) : OpD := fun y x C k => ∃ ks xs, insD C x = some (Cl, ks, xs) ∧ S (x :: y :: dfl) C fun r C2 => ∃ t : Bool, r = .bl t ∧ k (.bl (if neg = true then !t else t)) C2
theorem r2_inO {f : Addr} (hdat : ∀ G, DatAll K G dvs dfl) : R2D K (fun y x H Q => ∃ a dx fs, x = .ref a ∧ H a = some (.ins Cl dx fs) ∧ toSp K S (.ref a :: y :: dvs) H (fun v H' => ∃ t : Bool, v = .bl t ∧ Q (.bl t) H') E0) (dInO false Cl S dfl) := by
  rintro y x b a G C H k Q w db da ⟨ks, xs, hi, z⟩ q
  obtain ⟨a', dx, fs, rfl, h1, h2, h3⟩ := w.ins da hi
  refine ⟨a', dx, fs, rfl, h1, toSp_ok (ds := [a, b]) (vs := [.ref a', y]) (X0 := E0) (k := fun r C2 => ∃ t : Bool, r = .bl t ∧ k (.bl t) C2) w (.cons da (.cons db .nil)) hdat (Fr.refl ..) ?_ (by simpa using z)⟩
  rintro v G2 C2 H2 d2 f2 w2 r2 ⟨t, rfl, zk⟩
  cases r2
  exact ⟨t, rfl, q _ _ _ _ _ f2 w2 (.bl t) zk⟩
theorem r2_ninO {f : Addr} (hdat : ∀ G, DatAll K G dvs dfl) : R2D K (fun y x H Q => ∃ a dx fs, x = .ref a ∧ H a = some (.ins Cl dx fs) ∧ toSp K S (.ref a :: y :: dvs) H (fun v H' => ∃ t : Bool, v = .bl t ∧ Q (.bl (!t)) H') E0) (dInO true Cl S dfl) := by
  rintro y x b a G C H k Q w db da ⟨ks, xs, hi, z⟩ q
  obtain ⟨a', dx, fs, rfl, h1, h2, h3⟩ := w.ins da hi
  refine ⟨a', dx, fs, rfl, h1, toSp_ok (ds := [a, b]) (vs := [.ref a', y]) (X0 := E0) (k := fun r C2 => ∃ t : Bool, r = .bl t ∧ k (.bl (!t)) C2) w (.cons da (.cons db .nil)) hdat (Fr.refl ..) ?_ (by simpa using z)⟩
  rintro v G2 C2 H2 d2 f2 w2 r2 ⟨t, rfl, zk⟩
  cases r2
  exact ⟨t, rfl, q _ _ _ _ _ f2 w2 (.bl (!t)) zk⟩
theorem x_inO (hx : Ctx P w K mg base j X) (hM : MthC P w K mg base Cl "__contains__" n dfl S) (h : WE X a env C fun x C1 => WE X b env C1 fun y C2 => dInO false Cl S dfl x y C2 k) (hle : n ≤ j := by decide) (hm : behindInMarks .In b = false := by rfl) : WE X (.Compare a [.In] [b] pos) env C k := by
  obtain ⟨hc, fa, hmm, fd, ps, ds, dvs, F, hb, hd, hdat⟩ := hM
  have hroom := hx.room
  obtain ⟨e1, e2, e3, e4, e5, _, hgd, hcalm⟩ := hx
  subst e1 e2 e3 e4 e5
  exact we_cmp (op_inG F hmm hgd (hroom.mono hle) hb hd pass0) (r2_inO (f := fa) hdat) h hm
theorem xt_inO (hx : Ctx P w K mg base j X) (hM : MthC P w K mg base Cl "__contains__" n dfl S) (h : WE X a env C fun x C1 => WE X b env C1 fun y C2 => dInO false Cl S dfl x y C2 (tb kb)) (hle : n ≤ j := by decide) (hm : behindInMarks .In b = false := by rfl) : WT X (.Compare a [.In] [b] pos) env C kb := by
  obtain ⟨hc, fa, hmm, fd, ps, ds, dvs, F, hb, hd, hdat⟩ := hM
  have hroom := hx.room
  obtain ⟨e1, e2, e3, e4, e5, _, hgd, hcalm⟩ := hx
  subst e1 e2 e3 e4 e5
  exact wt_cmp (op_inG F hmm hgd (hroom.mono hle) hb hd pass0) (r2_inO (f := fa) hdat) h hm
theorem x_ninO (hx : Ctx P w K mg base j X) (hM : MthC P w K mg base Cl "__contains__" n dfl S) (h : WE X a env C fun x C1 => WE X b env C1 fun y C2 => dInO true Cl S dfl x y C2 k) (hle : n ≤ j := by decide) (hm : behindInMarks .NotIn b = false := by rfl) : WE X (.Compare a [.NotIn] [b] pos) env C k := by
  obtain ⟨hc, fa, hmm, fd, ps, ds, dvs, F, hb, hd, hdat⟩ := hM
  have hroom := hx.room
  obtain ⟨e1, e2, e3, e4, e5, _, hgd, hcalm⟩ := hx
  subst e1 e2 e3 e4 e5
  exact we_cmp (op_ninG F hmm hgd (hroom.mono hle) hb hd pass0) (r2_ninO (f := fa) hdat) h hm
theorem xt_ninO (hx : Ctx P w K mg base j X) (hM : MthC P w K mg base Cl "__contains__" n dfl S) (h : WE X a env C fun x C1 => WE X b env C1 fun y C2 => dInO true Cl S dfl x y C2 (tb kb)) (hle : n ≤ j := by decide) (hm : behindInMarks .NotIn b = false := by rfl) : WT X (.Compare a [.NotIn] [b] pos) env C kb := by
  obtain ⟨hc, fa, hmm, fd, ps, ds, dvs, F, hb, hd, hdat⟩ := hM
  have hroom := hx.room
  obtain ⟨e1, e2, e3, e4, e5, _, hgd, hcalm⟩ := hx
  subst e1 e2 e3 e4 e5
  exact wt_cmp (op_ninG F hmm hgd (hroom.mono hle) hb hd pass0) (r2_ninO (f := fa) hdat) h hm
/-! ### strip -/
def dStripC : D → List D → CS → KD → Prop := fun x ds C k => ∃ z y, x = .str z ∧ ds = [.str y] ∧ z.length ≤ sizeLine ∧ k (.str (Txt.stripChars z y)) C
theorem rm_stripC {K : PySem.W.Frag} : RMD K (fun x xs H Q => ∃ a b, x = .str a ∧ xs = [.str b] ∧ a.length ≤ sizeLine ∧ Q (.str (Txt.stripChars a b)) H) dStripC := by
  rintro x a xs ds G C H k Q w da rs ⟨z, y, rfl, rfl, hl, hk⟩ q
  cases da
  cases rs with
  | cons r1 r2 =>
    cases r2
    cases r1
    exact ⟨z, y, rfl, rfl, hl, q _ _ _ _ _ (Fr.refl ..) w (.str _) hk⟩
theorem x_stripC (h : WE X o env C fun x C1 => tyD "str" C1 x ∧ WA X (e :: es) env C1 fun ds C2 => dStripC x ds C2 k) (hbase : attributeBase o "strip" X.env (eval o X.env) = eval o X.env := by rfl)
    (hfew : ((backTo cpos (starEach (e :: es) X.env)).all (fun x => !x.1) && (backToKw cpos (keywordEach [] X.env)).all (fun x => x.1.isSome)
      && decide ((e :: es).length + ([] : List Keyword).length + (if ([] : List Keyword).isEmpty then 0 else 1) < 30)) = true := by rfl)
    (hline : (apos.endLine == cpos.line) = true := by rfl) (hs : starEach (e :: es) X.env = (false, eval e X.env) :: starEach es X.env := by rfl) (hplain : (backTo cpos (starEach es X.env)).any (·.1) = false := by rfl) :
    WE X (.Call (.Attribute o "strip" apos) (e :: es) [] cpos) env C k :=
  we_bm PySem.F.plainAttrs_str PySem.F.slot_str_strip PySem.F.type_str_strip mt_stripChars rm_stripC h hbase hfew hline hs hplain
end
/-! ### dict of pairs -/
def mergeD (kvs more : List (Key × D)) : List (Key × D) := more.foldl (fun acc kv => putD acc kv.1 kv.2) kvs
section
variable {K : PySem.W.Frag} {G H : Hp} {C : CS}
theorem merge_rel : ∀ {mw : List (Key × V)} {more : List (Key × D)} {kw : List (Key × V)} {kvs : List (Key × D)}, mw.map (·.1) = more.map (·.1) → DatAll K G (mw.map (·.2)) (more.map (·.2)) → kw.map (·.1) = kvs.map (·.1) → DatAll K G (kw.map (·.2)) (kvs.map (·.2)) →
    (mergeK kw mw).map (·.1) = (mergeD kvs more).map (·.1) ∧ DatAll K G ((mergeK kw mw).map (·.2)) ((mergeD kvs more).map (·.2))
  | [], [], _, _, _, _, e, r => ⟨e, r⟩
  | (a, v) :: mw, (b, d) :: more, kw, kvs, e1, r1, e, r => by
    simp only [List.map_cons, List.cons.injEq] at e1
    obtain ⟨rfl, e1⟩ := e1
    cases r1 with
    | cons r1 r2 =>
      obtain ⟨g1, g2⟩ := put_rel (k := a) r1 e r
      exact merge_rel (mw := mw) (more := more) e1 r2 g1 g2
  | [], _ :: _, _, _, e, _, _, _ => by simp at e
  | _ :: _, [], _, _, e, _, _, _ => by simp at e
theorem pairs_dat : ∀ {vs : List V} {kvs : List (Key × D)}, DatAll K G vs (kvs.map fun kv => D.tup [kD kv.1, kv.2]) → (∀ a o, G a = some o → H a = some o) → ∃ (ps : List Addr) (kw : List (Key × V)), vs = ps.map V.ref ∧ Paired (fun p kv => SqT K H p [kV kv.1, kv.2]) ps kw ∧ kw.map (·.1) = kvs.map (·.1) ∧ DatAll K G (kw.map (·.2)) (kvs.map (·.2))
  | [], [], _, _ => ⟨[], [], rfl, .nil, rfl, .nil⟩
  | v :: vs, (ky, d) :: kvs, r, e => by
    cases r with
    | cons r1 r2 =>
      obtain ⟨ps, kw, h1, h2, h3, h4⟩ := pairs_dat (vs := vs) (kvs := kvs) r2 e
      cases r1 with
      | @tup p us _ x1 x2 =>
        cases x2 with
        | @cons u1 _ us' _ y1 y2 =>
          cases y2 with
          | @cons u2 _ us'' _ z1 z2 =>
            cases z2
            obtain rfl := dat_key y1
            exact ⟨p :: ps, (ky, u2) :: kw, by rw [h1]; rfl, .cons (Same.sqT e x1) h2, by simp [h3], .cons z1 h4⟩
  | [], _ :: _, r, _ => by cases r
  | _ :: _, [], r, _ => by cases r
def dDictP : List D → CS → KD → Prop := fun ds C k => ∃ (d : D) (kvs : List (Key × D)), ds = [d] ∧ seqR C d = some (kvs.map fun kv => D.tup [kD kv.1, kv.2]) ∧ ∀ p, C p = none → k (.own p) (put C p (.dic (mergeD [] kvs)))
theorem rl_dictP : RLD K (fun xs H Q => ∃ (a : Addr) (ps : List Addr) (kvs : List (Key × V)), xs = [.ref a] ∧ SqL K H a (ps.map V.ref) ∧ Paired (fun p kv => SqT K H p [kV kv.1, kv.2]) ps kvs ∧
    ∀ p, H p = none → Q (.ref p) (upd H p (.dK (mergeK [] kvs)))) dDictP := by
  rintro xs ds G C H k Q w rs ⟨d, kvs, rfl, hs, hk⟩ q
  cases rs with
  | @cons v1 _ vs1 _ r1 r2 =>
    cases r2
    obtain ⟨a, rfl, g1, vs', t1⟩ := seqOf_dat w r1 hs
    obtain ⟨vs, h1, h2⟩ : ∃ vs, SqL K H a vs ∧ DatAll K G vs (kvs.map fun kv => D.tup [kD kv.1, kv.2]) := by
      cases r1 with
      | lst x1 x2 => simp [seqR] at hs; subst hs; exact ⟨_, w.ex.seq (SqL.of x1), x2⟩
      | slst x1 x2 => simp [seqR] at hs; subst hs; exact ⟨_, w.ex.seq x1, x2⟩
      | own a =>
        obtain ⟨_, vs, y1, y2⟩ := w.cell a _ (own_seqR hs)
        exact ⟨vs, SqL.of y1, y2⟩
      | _ => simp [seqR] at hs
    obtain ⟨ps, kw, rfl, g2, g3, g4⟩ := pairs_dat h2 w.ex
    refine ⟨a, ps, kw, rfl, h1, g2, fun p hp => ?_⟩
    obtain ⟨m1, m2⟩ := merge_rel (kw := []) (kvs := []) g3 g4 rfl .nil
    obtain ⟨w3, f3⟩ := w.newC hp (o := .dK (mergeK [] kw)) (c := .dic (mergeD [] kvs)) fun H' e => ⟨_, e, m1, m2⟩
    exact q _ _ _ _ _ f3 w3 (.own p) (hk p (w.ne hp).2)
end
section
variable {P : Program} {w : World} {K : PySem.W.Frag} {mg : Str → Option Value} {base : Heap} {j n m : Nat} {X : Cx} {e : Expr} {es : List Expr} {env : DEnv} {C : CS} {k : KD} {pos p : Pos}
theorem x_dictP (hx : Ctx P w K mg base j X) (Z : Zs mg) (hg : Gl X "dict") (h : WA X (e :: es) env C fun ds C1 => dDictP ds C1 k) (he : starEach (e :: es) X.env = (false, eval e X.env) :: starEach es X.env := by rfl) (hpl : (backTo pos (starEach es X.env)).any (·.1) = false := by rfl) :
    WE X (.Call (.Name "dict" p) (e :: es) [] pos) env C k := we_ct (hx.zs Z).dict (call_dictP hx.calm) rl_dictP hg (by decide +kernel) h (he := he) (hpl := hpl)
end
/-! ### short answers -/
section
variable {C C1 : CS} {k : KD} {kC : CS → Prop} {K : PySem.W.Frag} {Cl p a : Addr} {ks : List Str} {xs : List D} {f s : Str} {d v : D} {kvs : List (Key × D)} {q : D → Prop}
theorem fld_ok (h1 : insD C d = some (Cl, ks, xs)) (h2 : FldC K Cl f) (h3 : FGet ks xs f v) (h : q v) : ∃ Cl ks xs v, insD C d = some (Cl, ks, xs) ∧ FldC K Cl f ∧ FGet ks xs f v ∧ q v := ⟨_, _, _, _, h1, h2, h3, h⟩
theorem ixD_ok (h1 : C a = some (.dic kvs)) (h2 : valD kvs (Sum.inr s) = some d) (h : k d C) : dIxD (.own a) (.str s) C k := .inr ⟨_, _, Sum.inr s, _, rfl, rfl, h1, h2, h⟩
theorem inX_ok (h1 : C a = some (.dic kvs)) (h : k (.bl (valD kvs (Sum.inr s)).isSome) C) : dInX false (.str s) (.own a) C k := .inr ⟨_, _, Sum.inr s, rfl, rfl, h1, h⟩
theorem ninX_ok (h1 : C a = some (.dic kvs)) (h : k (.bl (!(valD kvs (Sum.inr s)).isSome)) C) : dInX true (.str s) (.own a) C k := .inr ⟨_, _, Sum.inr s, rfl, rfl, h1, h⟩
theorem lenX_ok (h1 : C a = some (.dic kvs)) (h : k (.int (kvs.length : Nat)) C) : dLenX [.own a] C k := .inr ⟨_, _, rfl, h1, h⟩
theorem setX_ok (h1 : C p = some (.dic kvs)) (hl : kvs.length < sizeLine) (h : kC (put C p (.dic (putD kvs (Sum.inr s) d)))) : dSetX (.own p) (.str s) d C kC := .inr ⟨_, _, Sum.inr s, rfl, rfl, h1, hl, h⟩
end
end DL
namespace K31
open PySem L2 DL
def top (i : Nat) : Stmt := PySem.Challenge.pw_chainedreports_k56_files_put.main.body.getD i (.Pass ⟨0, 0, 0, 0⟩)

/-! _wall -/
abbrev s__wall : Stmt := top 0
abbrev N__wall : List Str := ["k"]
abbrev M__wall : List Str := ["k"]
abbrev P__wall : List Str := ["k"]
abbrev G__wall : List Str := []
theorem sc__wall : FnScope N__wall P__wall (defScope s__wall) := ⟨rfl, rfl, rfl, by decide +kernel, rfl, by decide +kernel, by decide +kernel⟩
theorem v__wall : visC (defScope s__wall) M__wall = true := by decide +kernel
theorem l__wall : locC (defScope s__wall) M__wall = true := by decide +kernel
abbrev D__wall : List Str := []
theorem g__wall : glC (defScope s__wall) D__wall = true := by decide +kernel

/-! NoName.__init__ -/
abbrev s_NoName___init__ : Stmt := inClass (top 2) 0
abbrev N_NoName___init__ : List Str := ["self", "name"]
abbrev M_NoName___init__ : List Str := ["self", "name"]
abbrev P_NoName___init__ : List Str := ["self", "name"]
abbrev G_NoName___init__ : List Str := ["ValueError"]
theorem sc_NoName___init__ : FnScope N_NoName___init__ P_NoName___init__ (defScope s_NoName___init__) := ⟨rfl, rfl, rfl, by decide +kernel, rfl, by decide +kernel, by decide +kernel⟩
theorem v_NoName___init__ : visC (defScope s_NoName___init__) M_NoName___init__ = true := by decide +kernel
theorem l_NoName___init__ : locC (defScope s_NoName___init__) M_NoName___init__ = true := by decide +kernel
abbrev D_NoName___init__ : List Str := ["ValueError"]
theorem g_NoName___init__ : glC (defScope s_NoName___init__) D_NoName___init__ = true := by decide +kernel

/-! TooMany.__init__ -/
abbrev s_TooMany___init__ : Stmt := inClass (top 3) 0
abbrev N_TooMany___init__ : List Str := ["self", "what"]
abbrev M_TooMany___init__ : List Str := ["self", "what"]
abbrev P_TooMany___init__ : List Str := ["self", "what"]
abbrev G_TooMany___init__ : List Str := ["OverflowError"]
theorem sc_TooMany___init__ : FnScope N_TooMany___init__ P_TooMany___init__ (defScope s_TooMany___init__) := ⟨rfl, rfl, rfl, by decide +kernel, rfl, by decide +kernel, by decide +kernel⟩
theorem v_TooMany___init__ : visC (defScope s_TooMany___init__) M_TooMany___init__ = true := by decide +kernel
theorem l_TooMany___init__ : locC (defScope s_TooMany___init__) M_TooMany___init__ = true := by decide +kernel
abbrev D_TooMany___init__ : List Str := ["OverflowError"]
theorem g_TooMany___init__ : glC (defScope s_TooMany___init__) D_TooMany___init__ = true := by decide +kernel

/-! NoFile.__init__ -/
abbrev s_NoFile___init__ : Stmt := inClass (top 4) 0
abbrev N_NoFile___init__ : List Str := ["self", "file"]
abbrev M_NoFile___init__ : List Str := ["self", "file"]
abbrev P_NoFile___init__ : List Str := ["self", "file"]
abbrev G_NoFile___init__ : List Str := ["KeyError"]
theorem sc_NoFile___init__ : FnScope N_NoFile___init__ P_NoFile___init__ (defScope s_NoFile___init__) := ⟨rfl, rfl, rfl, by decide +kernel, rfl, by decide +kernel, by decide +kernel⟩
theorem v_NoFile___init__ : visC (defScope s_NoFile___init__) M_NoFile___init__ = true := by decide +kernel
theorem l_NoFile___init__ : locC (defScope s_NoFile___init__) M_NoFile___init__ = true := by decide +kernel
abbrev D_NoFile___init__ : List Str := ["KeyError"]
theorem g_NoFile___init__ : glC (defScope s_NoFile___init__) D_NoFile___init__ = true := by decide +kernel

/-! BadLines.__init__ -/
abbrev s_BadLines___init__ : Stmt := inClass (top 5) 0
abbrev N_BadLines___init__ : List Str := ["self", "index"]
abbrev M_BadLines___init__ : List Str := ["self", "index"]
abbrev P_BadLines___init__ : List Str := ["self", "index"]
abbrev G_BadLines___init__ : List Str := ["TypeError"]
theorem sc_BadLines___init__ : FnScope N_BadLines___init__ P_BadLines___init__ (defScope s_BadLines___init__) := ⟨rfl, rfl, rfl, by decide +kernel, rfl, by decide +kernel, by decide +kernel⟩
theorem v_BadLines___init__ : visC (defScope s_BadLines___init__) M_BadLines___init__ = true := by decide +kernel
theorem l_BadLines___init__ : locC (defScope s_BadLines___init__) M_BadLines___init__ = true := by decide +kernel
abbrev D_BadLines___init__ : List Str := ["TypeError"]
theorem g_BadLines___init__ : glC (defScope s_BadLines___init__) D_BadLines___init__ = true := by decide +kernel

/-! is_name -/
abbrev s_is_name : Stmt := top 10
abbrev N_is_name : List Str := ["thing", "sign"]
abbrev M_is_name : List Str := ["thing"]
abbrev P_is_name : List Str := ["thing"]
abbrev G_is_name : List Str := ["all", "isinstance", "str", "MOST_LETTERS", "LETTERS", "len"]
theorem sc_is_name : FnScope N_is_name P_is_name (defScope s_is_name) := ⟨rfl, rfl, rfl, by decide +kernel, rfl, by decide +kernel, by decide +kernel⟩
theorem v_is_name : visC (defScope s_is_name) M_is_name = true := by decide +kernel
theorem l_is_name : locC (defScope s_is_name) M_is_name = true := by decide +kernel
abbrev D_is_name : List Str := ["all", "isinstance", "str", "MOST_LETTERS", "len"]
theorem g_is_name : glC (defScope s_is_name) D_is_name = true := by decide +kernel
-- comprehension at 32: own ["sign"] reads ["sign", "thing"] globals ["LETTERS"]

/-! is_line -/
abbrev s_is_line : Stmt := top 11
abbrev N_is_line : List Str := ["thing"]
abbrev M_is_line : List Str := ["thing"]
abbrev P_is_line : List Str := ["thing"]
abbrev G_is_line : List Str := ["isinstance", "str", "FEED"]
theorem sc_is_line : FnScope N_is_line P_is_line (defScope s_is_line) := ⟨rfl, rfl, rfl, by decide +kernel, rfl, by decide +kernel, by decide +kernel⟩
theorem v_is_line : visC (defScope s_is_line) M_is_line = true := by decide +kernel
theorem l_is_line : locC (defScope s_is_line) M_is_line = true := by decide +kernel
abbrev D_is_line : List Str := ["isinstance", "str", "FEED"]
theorem g_is_line : glC (defScope s_is_line) D_is_line = true := by decide +kernel

/-! look_lines -/
abbrev s_look_lines : Stmt := top 15
abbrev N_look_lines : List Str := ["lines", "at", "line"]
abbrev M_look_lines : List Str := ["lines", "at", "line"]
abbrev P_look_lines : List Str := ["lines"]
abbrev G_look_lines : List Str := ["enumerate", "isinstance", "BadLines", "list", "tuple", "is_line"]
theorem sc_look_lines : FnScope N_look_lines P_look_lines (defScope s_look_lines) := ⟨rfl, rfl, rfl, by decide +kernel, rfl, by decide +kernel, by decide +kernel⟩
theorem v_look_lines : visC (defScope s_look_lines) M_look_lines = true := by decide +kernel
theorem l_look_lines : locC (defScope s_look_lines) M_look_lines = true := by decide +kernel
abbrev D_look_lines : List Str := ["enumerate", "isinstance", "BadLines", "list", "tuple", "is_line"]
theorem g_look_lines : glC (defScope s_look_lines) D_look_lines = true := by decide +kernel

/-! Sources.__init__ -/
abbrev s_Sources___init__ : Stmt := inClass (top 16) 0
abbrev N_Sources___init__ : List Str := ["self"]
abbrev M_Sources___init__ : List Str := ["self"]
abbrev P_Sources___init__ : List Str := ["self"]
abbrev G_Sources___init__ : List Str := []
theorem sc_Sources___init__ : FnScope N_Sources___init__ P_Sources___init__ (defScope s_Sources___init__) := ⟨rfl, rfl, rfl, by decide +kernel, rfl, by decide +kernel, by decide +kernel⟩
theorem v_Sources___init__ : visC (defScope s_Sources___init__) M_Sources___init__ = true := by decide +kernel
theorem l_Sources___init__ : locC (defScope s_Sources___init__) M_Sources___init__ = true := by decide +kernel
abbrev D_Sources___init__ : List Str := []
theorem g_Sources___init__ : glC (defScope s_Sources___init__) D_Sources___init__ = true := by decide +kernel

/-! Sources.files -/
abbrev s_Sources_files : Stmt := inClass (top 16) 1
abbrev N_Sources_files : List Str := ["self"]
abbrev M_Sources_files : List Str := ["self"]
abbrev P_Sources_files : List Str := ["self"]
abbrev G_Sources_files : List Str := ["sorted"]
theorem sc_Sources_files : FnScope N_Sources_files P_Sources_files (defScope s_Sources_files) := ⟨rfl, rfl, rfl, by decide +kernel, rfl, by decide +kernel, by decide +kernel⟩
theorem v_Sources_files : visC (defScope s_Sources_files) M_Sources_files = true := by decide +kernel
theorem l_Sources_files : locC (defScope s_Sources_files) M_Sources_files = true := by decide +kernel
abbrev D_Sources_files : List Str := ["sorted"]
theorem g_Sources_files : glC (defScope s_Sources_files) D_Sources_files = true := by decide +kernel

/-! Sources.__len__ -/
abbrev s_Sources___len__ : Stmt := inClass (top 16) 2
abbrev N_Sources___len__ : List Str := ["self"]
abbrev M_Sources___len__ : List Str := ["self"]
abbrev P_Sources___len__ : List Str := ["self"]
abbrev G_Sources___len__ : List Str := ["len"]
theorem sc_Sources___len__ : FnScope N_Sources___len__ P_Sources___len__ (defScope s_Sources___len__) := ⟨rfl, rfl, rfl, by decide +kernel, rfl, by decide +kernel, by decide +kernel⟩
theorem v_Sources___len__ : visC (defScope s_Sources___len__) M_Sources___len__ = true := by decide +kernel
theorem l_Sources___len__ : locC (defScope s_Sources___len__) M_Sources___len__ = true := by decide +kernel
abbrev D_Sources___len__ : List Str := ["len"]
theorem g_Sources___len__ : glC (defScope s_Sources___len__) D_Sources___len__ = true := by decide +kernel

/-! Sources.__contains__ -/
abbrev s_Sources___contains__ : Stmt := inClass (top 16) 3
abbrev N_Sources___contains__ : List Str := ["self", "file"]
abbrev M_Sources___contains__ : List Str := ["self", "file"]
abbrev P_Sources___contains__ : List Str := ["self", "file"]
abbrev G_Sources___contains__ : List Str := ["isinstance", "str"]
theorem sc_Sources___contains__ : FnScope N_Sources___contains__ P_Sources___contains__ (defScope s_Sources___contains__) := ⟨rfl, rfl, rfl, by decide +kernel, rfl, by decide +kernel, by decide +kernel⟩
theorem v_Sources___contains__ : visC (defScope s_Sources___contains__) M_Sources___contains__ = true := by decide +kernel
theorem l_Sources___contains__ : locC (defScope s_Sources___contains__) M_Sources___contains__ = true := by decide +kernel
abbrev D_Sources___contains__ : List Str := ["isinstance", "str"]
theorem g_Sources___contains__ : glC (defScope s_Sources___contains__) D_Sources___contains__ = true := by decide +kernel

/-! Sources.look_file -/
abbrev s_Sources_look_file : Stmt := inClass (top 16) 4
abbrev N_Sources_look_file : List Str := ["self", "file"]
abbrev M_Sources_look_file : List Str := ["self", "file"]
abbrev P_Sources_look_file : List Str := ["self", "file"]
abbrev G_Sources_look_file : List Str := ["NoFile", "isinstance", "str"]
theorem sc_Sources_look_file : FnScope N_Sources_look_file P_Sources_look_file (defScope s_Sources_look_file) := ⟨rfl, rfl, rfl, by decide +kernel, rfl, by decide +kernel, by decide +kernel⟩
theorem v_Sources_look_file : visC (defScope s_Sources_look_file) M_Sources_look_file = true := by decide +kernel
theorem l_Sources_look_file : locC (defScope s_Sources_look_file) M_Sources_look_file = true := by decide +kernel
abbrev D_Sources_look_file : List Str := ["NoFile", "isinstance", "str"]
theorem g_Sources_look_file : glC (defScope s_Sources_look_file) D_Sources_look_file = true := by decide +kernel

/-! Sources.put -/
abbrev s_Sources_put : Stmt := inClass (top 16) 5
abbrev N_Sources_put : List Str := ["self", "file", "lines"]
abbrev M_Sources_put : List Str := ["self", "file", "lines"]
abbrev P_Sources_put : List Str := ["self", "file", "lines"]
abbrev G_Sources_put : List Str := ["look_lines", "MOST_LINES", "tuple", "is_name", "NoName", "len", "TooMany", "MOST_FILES"]
theorem sc_Sources_put : FnScope N_Sources_put P_Sources_put (defScope s_Sources_put) := ⟨rfl, rfl, rfl, by decide +kernel, rfl, by decide +kernel, by decide +kernel⟩
theorem v_Sources_put : visC (defScope s_Sources_put) M_Sources_put = true := by decide +kernel
theorem l_Sources_put : locC (defScope s_Sources_put) M_Sources_put = true := by decide +kernel
abbrev D_Sources_put : List Str := ["look_lines", "MOST_LINES", "tuple", "is_name", "NoName", "len", "TooMany", "MOST_FILES"]
theorem g_Sources_put : glC (defScope s_Sources_put) D_Sources_put = true := by decide +kernel

/-! Sources.remove -/
abbrev s_Sources_remove : Stmt := inClass (top 16) 6
abbrev N_Sources_remove : List Str := ["self", "file"]
abbrev M_Sources_remove : List Str := ["self", "file"]
abbrev P_Sources_remove : List Str := ["self", "file"]
abbrev G_Sources_remove : List Str := []
theorem sc_Sources_remove : FnScope N_Sources_remove P_Sources_remove (defScope s_Sources_remove) := ⟨rfl, rfl, rfl, by decide +kernel, rfl, by decide +kernel, by decide +kernel⟩
theorem v_Sources_remove : visC (defScope s_Sources_remove) M_Sources_remove = true := by decide +kernel
theorem l_Sources_remove : locC (defScope s_Sources_remove) M_Sources_remove = true := by decide +kernel
abbrev D_Sources_remove : List Str := []
theorem g_Sources_remove : glC (defScope s_Sources_remove) D_Sources_remove = true := by decide +kernel

/-! Sources.edition -/
abbrev s_Sources_edition : Stmt := inClass (top 16) 7
abbrev N_Sources_edition : List Str := ["self", "file"]
abbrev M_Sources_edition : List Str := ["self", "file"]
abbrev P_Sources_edition : List Str := ["self", "file"]
abbrev G_Sources_edition : List Str := ["isinstance", "str"]
theorem sc_Sources_edition : FnScope N_Sources_edition P_Sources_edition (defScope s_Sources_edition) := ⟨rfl, rfl, rfl, by decide +kernel, rfl, by decide +kernel, by decide +kernel⟩
theorem v_Sources_edition : visC (defScope s_Sources_edition) M_Sources_edition = true := by decide +kernel
theorem l_Sources_edition : locC (defScope s_Sources_edition) M_Sources_edition = true := by decide +kernel
abbrev D_Sources_edition : List Str := ["isinstance", "str"]
theorem g_Sources_edition : glC (defScope s_Sources_edition) D_Sources_edition = true := by decide +kernel

/-! Sources.lines -/
abbrev s_Sources_lines : Stmt := inClass (top 16) 8
abbrev N_Sources_lines : List Str := ["self", "file"]
abbrev M_Sources_lines : List Str := ["self", "file"]
abbrev P_Sources_lines : List Str := ["self", "file"]
abbrev G_Sources_lines : List Str := ["list"]
theorem sc_Sources_lines : FnScope N_Sources_lines P_Sources_lines (defScope s_Sources_lines) := ⟨rfl, rfl, rfl, by decide +kernel, rfl, by decide +kernel, by decide +kernel⟩
theorem v_Sources_lines : visC (defScope s_Sources_lines) M_Sources_lines = true := by decide +kernel
theorem l_Sources_lines : locC (defScope s_Sources_lines) M_Sources_lines = true := by decide +kernel
abbrev D_Sources_lines : List Str := ["list"]
theorem g_Sources_lines : glC (defScope s_Sources_lines) D_Sources_lines = true := by decide +kernel

/-! Sources.text -/
abbrev s_Sources_text : Stmt := inClass (top 16) 9
abbrev N_Sources_text : List Str := ["self", "row"]
abbrev M_Sources_text : List Str := ["self", "row"]
abbrev P_Sources_text : List Str := ["self", "row"]
abbrev G_Sources_text : List Str := ["_wall"]
theorem sc_Sources_text : FnScope N_Sources_text P_Sources_text (defScope s_Sources_text) := ⟨rfl, rfl, rfl, by decide +kernel, rfl, by decide +kernel, by decide +kernel⟩
theorem v_Sources_text : visC (defScope s_Sources_text) M_Sources_text = true := by decide +kernel
theorem l_Sources_text : locC (defScope s_Sources_text) M_Sources_text = true := by decide +kernel
abbrev D_Sources_text : List Str := ["_wall"]
theorem g_Sources_text : glC (defScope s_Sources_text) D_Sources_text = true := by decide +kernel

/-! Sources.seen -/
abbrev s_Sources_seen : Stmt := inClass (top 16) 10
abbrev N_Sources_seen : List Str := ["self", "row"]
abbrev M_Sources_seen : List Str := ["self", "row"]
abbrev P_Sources_seen : List Str := ["self", "row"]
abbrev G_Sources_seen : List Str := ["_wall"]
theorem sc_Sources_seen : FnScope N_Sources_seen P_Sources_seen (defScope s_Sources_seen) := ⟨rfl, rfl, rfl, by decide +kernel, rfl, by decide +kernel, by decide +kernel⟩
theorem v_Sources_seen : visC (defScope s_Sources_seen) M_Sources_seen = true := by decide +kernel
theorem l_Sources_seen : locC (defScope s_Sources_seen) M_Sources_seen = true := by decide +kernel
abbrev D_Sources_seen : List Str := ["_wall"]
theorem g_Sources_seen : glC (defScope s_Sources_seen) D_Sources_seen = true := by decide +kernel

/-! Sources.shown -/
abbrev s_Sources_shown : Stmt := inClass (top 16) 11
abbrev N_Sources_shown : List Str := ["self", "record"]
abbrev M_Sources_shown : List Str := ["self", "record"]
abbrev P_Sources_shown : List Str := ["self", "record"]
abbrev G_Sources_shown : List Str := ["_wall"]
theorem sc_Sources_shown : FnScope N_Sources_shown P_Sources_shown (defScope s_Sources_shown) := ⟨rfl, rfl, rfl, by decide +kernel, rfl, by decide +kernel, by decide +kernel⟩
theorem v_Sources_shown : visC (defScope s_Sources_shown) M_Sources_shown = true := by decide +kernel
theorem l_Sources_shown : locC (defScope s_Sources_shown) M_Sources_shown = true := by decide +kernel
abbrev D_Sources_shown : List Str := ["_wall"]
theorem g_Sources_shown : glC (defScope s_Sources_shown) D_Sources_shown = true := by decide +kernel

/-! _law_source -/
abbrev s_source : Stmt := top 18
abbrev N_source : List Str := ["_law_script", "_law_place", "_law_cell", "_law_large", "_law_mixed"]
abbrev M_source : List Str := ["_law_script", "_law_place", "_law_cell", "_law_large", "_law_mixed"]
abbrev P_source : List Str := ["_law_script", "_law_place"]
abbrev G_source : List Str := ["abs", "len"]
theorem sc_source : FnScope N_source P_source (defScope s_source) := ⟨rfl, rfl, rfl, by decide +kernel, rfl, by decide +kernel, by decide +kernel⟩
theorem v_source : visC (defScope s_source) M_source = true := by decide +kernel
theorem l_source : locC (defScope s_source) M_source = true := by decide +kernel
abbrev D_source : List Str := ["abs", "len"]
theorem g_source : glC (defScope s_source) D_source = true := by decide +kernel

/-! _law_draw -/
abbrev s_draw : Stmt := top 19
abbrev N_draw : List Str := ["_law_source_here", "_law_many", "_law_turn", "_law_digit"]
abbrev M_draw : List Str := ["_law_source_here", "_law_many", "_law_turn", "_law_digit"]
abbrev P_draw : List Str := ["_law_source_here", "_law_many"]
abbrev G_draw : List Str := []
theorem sc_draw : FnScope N_draw P_draw (defScope s_draw) := ⟨rfl, rfl, rfl, by decide +kernel, rfl, by decide +kernel, by decide +kernel⟩
theorem v_draw : visC (defScope s_draw) M_draw = true := by decide +kernel
theorem l_draw : locC (defScope s_draw) M_draw = true := by decide +kernel
abbrev D_draw : List Str := []
theorem g_draw : glC (defScope s_draw) D_draw = true := by decide +kernel

/-! _law_names -/
abbrev s_names : Stmt := top 20
abbrev N_names : List Str := ["_law_source_here", "_law_many", "_law_letters", "_law_stem", "_law_turn", "_law_spot", "_law_found", "_law_size", "_law_first", "_law_k", "_law_name"]
abbrev M_names : List Str := ["_law_source_here", "_law_many", "_law_letters", "_law_stem", "_law_turn", "_law_spot", "_law_found", "_law_size", "_law_first"]
abbrev P_names : List Str := ["_law_source_here", "_law_many"]
abbrev G_names : List Str := ["range", "_law_draw", "any"]
theorem sc_names : FnScope N_names P_names (defScope s_names) := ⟨rfl, rfl, rfl, by decide +kernel, rfl, by decide +kernel, by decide +kernel⟩
theorem v_names : visC (defScope s_names) M_names = true := by decide +kernel
theorem l_names : locC (defScope s_names) M_names = true := by decide +kernel
abbrev D_names : List Str := ["range", "_law_draw", "any"]
theorem g_names : glC (defScope s_names) D_names = true := by decide +kernel
-- comprehension at 117: own ["_law_k"] reads ["_law_stem", "_law_many", "_law_letters", "_law_spot", "_law_first", "_law_k"] globals ["range"]
-- comprehension at 118: own ["_law_name"] reads ["_law_name", "_law_found"] globals []
-- comprehension at 119: own ["_law_name"] reads ["_law_name", "_law_found"] globals []

/-! _law_text -/
abbrev s_text : Stmt := top 21
abbrev N_text : List Str := ["_law_source_here", "_law_size", "_law_signs", "_law_found", "_law_turn"]
abbrev M_text : List Str := ["_law_source_here", "_law_size", "_law_signs", "_law_found", "_law_turn"]
abbrev P_text : List Str := ["_law_source_here", "_law_size"]
abbrev G_text : List Str := ["range", "_law_draw", "len"]
theorem sc_text : FnScope N_text P_text (defScope s_text) := ⟨rfl, rfl, rfl, by decide +kernel, rfl, by decide +kernel, by decide +kernel⟩
theorem v_text : visC (defScope s_text) M_text = true := by decide +kernel
theorem l_text : locC (defScope s_text) M_text = true := by decide +kernel
abbrev D_text : List Str := ["range", "_law_draw", "len"]
theorem g_text : glC (defScope s_text) D_text = true := by decide +kernel

/-! _law_lines -/
abbrev s_lines : Stmt := top 22
abbrev N_lines : List Str := ["_law_source_here", "_law_found", "_law_turn"]
abbrev M_lines : List Str := ["_law_source_here", "_law_found", "_law_turn"]
abbrev P_lines : List Str := ["_law_source_here"]
abbrev G_lines : List Str := ["range", "_law_draw", "_law_text"]
theorem sc_lines : FnScope N_lines P_lines (defScope s_lines) := ⟨rfl, rfl, rfl, by decide +kernel, rfl, by decide +kernel, by decide +kernel⟩
theorem v_lines : visC (defScope s_lines) M_lines = true := by decide +kernel
theorem l_lines : locC (defScope s_lines) M_lines = true := by decide +kernel
abbrev D_lines : List Str := ["range", "_law_draw", "_law_text"]
theorem g_lines : glC (defScope s_lines) D_lines = true := by decide +kernel

/-! _law_right -/
abbrev s_right : Stmt := top 23
abbrev N_right : List Str := ["_law_sources", "_law_names_here", "_law_there", "_law_counts", "_law_name"]
abbrev M_right : List Str := ["_law_sources", "_law_names_here", "_law_there", "_law_counts", "_law_name"]
abbrev P_right : List Str := ["_law_sources", "_law_names_here", "_law_there", "_law_counts"]
abbrev G_right : List Str := ["sorted", "len"]
theorem sc_right : FnScope N_right P_right (defScope s_right) := ⟨rfl, rfl, rfl, by decide +kernel, rfl, by decide +kernel, by decide +kernel⟩
theorem v_right : visC (defScope s_right) M_right = true := by decide +kernel
theorem l_right : locC (defScope s_right) M_right = true := by decide +kernel
abbrev D_right : List Str := ["sorted", "len"]
theorem g_right : glC (defScope s_right) D_right = true := by decide +kernel

/-! law -/
abbrev s_law : Stmt := top 24
abbrev N_law : List Str := ["_law_script", "_law_place", "_law_source_here", "_law_counts", "_law_turn", "_law_names_here", "_law_sources", "_law_there", "_law_name", "_law_lines_here", "_law_passed"]
abbrev M_law : List Str := ["_law_script", "_law_place", "_law_source_here", "_law_counts", "_law_turn", "_law_names_here", "_law_sources", "_law_there", "_law_name", "_law_lines_here", "_law_passed"]
abbrev P_law : List Str := ["_law_script"]
abbrev G_law : List Str := ["range", "max", "_law_source", "dict", "min", "_law_names", "Sources", "len", "_law_lines", "list", "_law_right", "_law_draw", "tuple"]
theorem sc_law : FnScope N_law P_law (defScope s_law) := ⟨rfl, rfl, rfl, by decide +kernel, rfl, by decide +kernel, by decide +kernel⟩
theorem v_law : visC (defScope s_law) M_law = true := by decide +kernel
theorem l_law : locC (defScope s_law) M_law = true := by decide +kernel
abbrev D_law : List Str := ["range", "max", "_law_source", "dict", "min", "_law_names", "Sources", "len", "_law_lines", "list", "_law_right", "_law_draw", "tuple"]
theorem g_law : glC (defScope s_law) D_law = true := by decide +kernel
-- comprehension at 145: own ["_law_name"] reads ["_law_name", "_law_names_here"] globals []
end K31
set_option maxHeartbeats 4000000
open PySem L2 DL
local macro_rules | `(tactic| walk_at "nmG") => `(tactic| first | with_reducible exact Get.here _ _ _ _ | ((with_reducible apply Get.there); walk_at "nmG"))
local macro_rules | `(tactic| walk_at "nmP") => `(tactic| first | with_reducible exact Put.here _ _ _ _ | ((with_reducible apply Put.there); walk_at "nmP"))
local macro_rules | `(tactic| walk_at "nmM") => `(tactic| first | with_reducible exact Mem.here _ _ | ((with_reducible apply Mem.there); walk_at "nmM"))
local macro_rules | `(tactic| walk_at "nm") => `(tactic| first | walk_at "nmM" | walk_at "nmG" | walk_at "nmP")
local macro_rules | `(tactic| walk_at "gl") => `(tactic| (refine Gls.at (by assumption) ?_; walk_at "nm"))
local macro_rules | `(tactic| walk_at "kd") => `(tactic| first | rfl | assumption | exact kind_of_py (by assumption))
local macro_rules | `(tactic| walk_at "ct") => `(tactic| first | trivial | assumption | omega | exact Or.inl ⟨by omega, by omega⟩ | exact Or.inr ⟨by omega, by omega⟩ | decide)
local macro_rules | `(tactic| walk_at "py1") => `(tactic| first
  | ((with_reducible refine' x_ifWge ?kb ?k0 ?kp ?_); (case kb => assumption); (case k0 => walk_at "nm"); (case kp => walk_at "nm"))
  | with_reducible refine wss_cons ?_
  | with_reducible refine wss_nil ?_
  | with_reducible refine ws_ret ?_
  | with_reducible refine ws_retN ?_
  | with_reducible refine ws_if ?_
  | with_reducible refine ws_pass ?_
  | with_reducible refine ws_break ?_
  | with_reducible refine ws_continue ?_
  | with_reducible refine we_and ?_
  | with_reducible refine we_or ?_
  | with_reducible refine we_one ?_
  | with_reducible refine we_not ?_
  | with_reducible refine we_if ?_
  | with_reducible refine we_int ?_
  | with_reducible refine we_bl ?_
  | with_reducible refine we_non ?_
  | with_reducible refine we_str ?_
  | with_reducible refine we_tup ?_
  | with_reducible refine wa_nil ?_
  | ((with_reducible refine' wa_cons ?_ ?k1); (case k1 => rfl))
  | ((with_reducible refine' we_nm ?k1 ?k0 ?k2 ?_); (case k1 => assumption); (case k0 => walk_at "nm"); (case k2 => walk_at "nm"))
  | with_reducible refine we_add ?_
  | with_reducible refine we_sub' ?_
  | with_reducible refine we_mul ?_
  | with_reducible refine we_mod ?_
  | with_reducible refine we_fdiv ?_
  | with_reducible refine we_pow ?_
  | with_reducible refine we_neg ?_
  | with_reducible refine we_lt ?_
  | with_reducible refine we_le ?_
  | with_reducible refine we_gt ?_
  | with_reducible refine we_ge ?_
  | with_reducible refine we_is ?_
  | with_reducible refine we_isnot ?_
  | ((with_reducible refine' x_eq ?k1 ?_); (case k1 => assumption))
  | ((with_reducible refine' xt_eq ?k1 ?_); (case k1 => assumption))
  | ((with_reducible refine' x_ne ?k1 ?_); (case k1 => assumption))
  | ((with_reducible refine' xt_ne ?k1 ?_); (case k1 => assumption))
  | ((with_reducible refine' x_in ?k1 ?_ ?k2); (case k1 => assumption); (case k2 => rfl))
  | ((with_reducible refine' xt_in ?k1 ?_ ?k2); (case k1 => assumption); (case k2 => rfl))
  | ((with_reducible refine' x_nin ?k1 ?_ ?k2); (case k1 => assumption); (case k2 => rfl))
  | ((with_reducible refine' xt_nin ?k1 ?_ ?k2); (case k1 => assumption); (case k2 => rfl))
  | with_reducible refine wt_lt ?_
  | with_reducible refine wt_le ?_
  | with_reducible refine wt_gt ?_
  | with_reducible refine wt_ge ?_
  | with_reducible refine wt_is ?_
  | with_reducible refine wt_isnot ?_
  | with_reducible refine wt_not ?_
  | with_reducible refine wt_bo ?_
  | with_reducible refine ww_and ?_
  | with_reducible refine ww_or ?_
  | with_reducible refine ww_and1 ?_
  | with_reducible refine ww_or1 ?_
  | ((with_reducible refine' x_ixL ?_ ?k1); (case k1 => (intro _ _; rfl)))
  | ((with_reducible refine' we_ix ?_ ?k1); (case k1 => (intro _ _; rfl)))
  | with_reducible refine we_slice ?_
  | ((with_reducible refine' x_isiT ?kx ?kz ?kg ?_ ?k1 ?k2); (case kx => assumption); (case kz => assumption); (case kg => walk_at "gl"); (case k1 => rfl); (case k2 => rfl))
  | ((with_reducible refine' x_isi ?kx ?kz ?kg ?_ ?k1 ?k2); (case kx => assumption); (case kz => assumption); (case kg => walk_at "gl"); (case k1 => rfl); (case k2 => rfl))
  | ((with_reducible refine' x_len ?kx ?kz ?kg ?_ ?k1 ?k2); (case kx => assumption); (case kz => assumption); (case kg => walk_at "gl"); (case k1 => rfl); (case k2 => rfl))
  | ((with_reducible refine' x_abs ?kx ?kz ?kg ?_ ?k1 ?k2); (case kx => assumption); (case kz => assumption); (case kg => walk_at "gl"); (case k1 => rfl); (case k2 => rfl))
  | ((with_reducible refine' x_max2 ?kx ?kz ?kg ?_ ?k1 ?k2); (case kx => assumption); (case kz => assumption); (case kg => walk_at "gl"); (case k1 => rfl); (case k2 => rfl))
  | ((with_reducible refine' x_min2 ?kx ?kz ?kg ?_ ?k1 ?k2); (case kx => assumption); (case kz => assumption); (case kg => walk_at "gl"); (case k1 => rfl); (case k2 => rfl))
  | ((with_reducible refine' x_minL ?kx ?kz ?kg ?_ ?k1 ?k2); (case kx => assumption); (case kz => assumption); (case kg => walk_at "gl"); (case k1 => rfl); (case k2 => rfl))
  | ((with_reducible refine' x_any ?kx ?kz ?kg ?_ ?k1 ?k2); (case kx => assumption); (case kz => assumption); (case kg => walk_at "gl"); (case k1 => rfl); (case k2 => rfl))
  | ((with_reducible refine' x_all ?kx ?kz ?kg ?_ ?k1 ?k2); (case kx => assumption); (case kz => assumption); (case kg => walk_at "gl"); (case k1 => rfl); (case k2 => rfl))
  | ((with_reducible refine' x_sum ?kx ?kz ?kg ?_ ?k1 ?k2); (case kx => assumption); (case kz => assumption); (case kg => walk_at "gl"); (case k1 => rfl); (case k2 => rfl))
  | ((with_reducible refine' x_intC ?kx ?kz ?kg ?_ ?k1 ?k2); (case kx => assumption); (case kz => assumption); (case kg => walk_at "gl"); (case k1 => rfl); (case k2 => rfl))
  | ((with_reducible refine' x_strC ?kx ?kz ?kg ?_ ?k1 ?k2); (case kx => assumption); (case kz => assumption); (case kg => walk_at "gl"); (case k1 => rfl); (case k2 => rfl))
  | ((with_reducible refine' x_tupleC ?kx ?kz ?kg ?_ ?k1 ?k2); (case kx => assumption); (case kz => assumption); (case kg => walk_at "gl"); (case k1 => rfl); (case k2 => rfl))
  | ((with_reducible refine' x_listC ?kx ?kz ?kg ?_ ?k1 ?k2); (case kx => assumption); (case kz => assumption); (case kg => walk_at "gl"); (case k1 => rfl); (case k2 => rfl))
  | ((with_reducible refine' x_tyInt ?kx ?kz ?kg ?_); (case kx => assumption); (case kz => assumption); (case kg => walk_at "gl"))
  | ((with_reducible refine' x_tyBool ?kx ?kz ?kg ?_); (case kx => assumption); (case kz => assumption); (case kg => walk_at "gl"))
  | ((with_reducible refine' x_tyStr ?kx ?kz ?kg ?_); (case kx => assumption); (case kz => assumption); (case kg => walk_at "gl"))
  | ((with_reducible refine' x_tyList ?kx ?kz ?kg ?_); (case kx => assumption); (case kz => assumption); (case kg => walk_at "gl"))
  | ((with_reducible refine' x_tyTuple ?kx ?kz ?kg ?_); (case kx => assumption); (case kz => assumption); (case kg => walk_at "gl"))
  | ((with_reducible refine' x_call ?kx ?kh ?kg ?_ ?kl ?kd ?k1 ?k2); (case kh => assumption); (case kx => assumption); (case kg => walk_at "gl"); (case kl => first | decide | omega); (case kd => decide); (case k1 => rfl); (case k2 => rfl))
  | ((with_reducible refine' x_glob ?kx ?kh ?kg ?_ ?kd); (case kh => assumption); (case kx => assumption); (case kg => walk_at "gl"); (case kd => decide))
  | ((with_reducible refine' ws_nm ?kb ?k0 ?kp ?_ ?k1); (case kb => assumption); (case k0 => walk_at "nm"); (case kp => walk_at "nm"); (case k1 => rfl))
  | ((with_reducible refine' wg_nm ?kb ?k0 ?kp ?_); (case kb => assumption); (case k0 => walk_at "nm"); (case kp => walk_at "nm"))
  | ((with_reducible refine' ws_augAdd ?kb ?k0 ?kg ?kp ?_); (case kb => assumption); (case k0 => walk_at "nm"); (case kg => walk_at "nm"); (case kp => walk_at "nm"))
  | ((with_reducible refine' x_par2 ?kd ?k1 ?k2 ?k3 ?k4 ?k5 ?k6 ?_ ?k7); (case kd => assumption); (case k1 => walk_at "nm"); (case k2 => (intro _; walk_at "nm")); (case k3 => decide +kernel); (case k4 => decide +kernel); (case k5 => decide +kernel); (case k6 => rfl); (case k7 => rfl))
  | ((with_reducible refine' x_par3 ?kd ?k1 ?k2 ?k3 ?k4 ?k5 ?k6 ?k7 ?_ ?k8); (case kd => assumption); (case k1 => walk_at "nm"); (case k2 => (intro _; walk_at "nm")); (case k3 => (intro _ _; walk_at "nm")); (case k4 => decide +kernel); (case k5 => decide +kernel); (case k6 => decide +kernel); (case k7 => rfl); (case k8 => rfl))
  | ((with_reducible refine' ws_asg ?_ ?k1 ?k2 ?k3); (case k1 => rfl); (case k2 => rfl); (case k3 => rfl))
  | ((with_reducible refine' ws_asgD ?kd ?_ ?k1 ?k2 ?k3); (case kd => assumption); (case k1 => rfl); (case k2 => rfl); (case k3 => rfl))
  | ((with_reducible refine' x_gtup ?kx ?kl ?_ ?k1); (case kx => assumption); (case kl => rfl); (case k1 => rfl))
  | ((with_reducible refine' wg_setL ?_ ?k1); (case k1 => (intro _; rfl)))
  | ((with_reducible refine' wgs_cons ?_ ?k1); (case k1 => rfl))
  | with_reducible refine wgs_nil ?_
  | ((with_reducible refine' x_join ?_ ?k1 ?k2 ?k3 ?k4 ?k5); (case k1 => rfl); (case k2 => rfl); (case k3 => rfl); (case k4 => rfl); (case k5 => rfl))
  | ((with_reducible refine' x_sindex ?_ ?k1 ?k2 ?k3 ?k4 ?k5); (case k1 => rfl); (case k2 => rfl); (case k3 => rfl); (case k4 => rfl); (case k5 => rfl))
  | ((with_reducible refine' x_insert ?_ ?k1 ?k2 ?k3 ?k4 ?k5); (case k1 => rfl); (case k2 => rfl); (case k3 => rfl); (case k4 => rfl); (case k5 => rfl))
  | ((with_reducible refine' x_popAt ?_ ?k1 ?k2 ?k3 ?k4 ?k5); (case k1 => rfl); (case k2 => rfl); (case k3 => rfl); (case k4 => rfl); (case k5 => rfl))
  | ((with_reducible refine' x_append ?_ ?k1 ?k2 ?k3 ?k4 ?k5); (case k1 => rfl); (case k2 => rfl); (case k3 => rfl); (case k4 => rfl); (case k5 => rfl))
  | ((with_reducible refine' ws_expr ?_ ?k1); (case k1 => rfl))
  | ((with_reducible refine' wt_val ?_ ?k1); (case k1 => (intro _; rfl))))
local macro_rules | `(tactic| walk_at "d1") => `(tactic| first
  | with_reducible refine tb_ok ?_
  | with_reducible refine ex_bl ?_
  | with_reducible refine ex_int ?_
  | with_reducible refine and_T ?_
  | with_reducible refine and_F ?_
  | ((with_reducible refine and_S ?_ ?_) <;> intro _)
  | ((with_reducible refine' isi_int ?k1 ?_); (case k1 => walk_at "kd"))
  | ((with_reducible refine' isi_bool ?k1 ?_); (case k1 => walk_at "kd"))
  | ((with_reducible refine' isi_str ?k1 ?_); (case k1 => walk_at "kd"))
  | ((with_reducible refine' isi_list ?k1 ?_); (case k1 => walk_at "kd"))
  | ((with_reducible refine' isi_tuple ?k1 ?_); (case k1 => walk_at "kd"))
  | ((with_reducible refine' isi_ltT ?k1 ?k2 ?_); (case k1 => rfl); (case k2 => rfl))
  | ((with_reducible refine' isi_ltF ?k1 ?k2 ?_); (case k1 => rfl); (case k2 => rfl))
  | ((with_reducible refine' isi_lt ?k1 ?_); (case k1 => walk_at "kd"))
  | ((with_reducible refine' isi_ls ?k1 ?_); (case k1 => assumption))
  | ((with_reducible refine' isi_lsT ?k1 ?_); (case k1 => assumption))
  | ((with_reducible refine' isiT_ls ?k1 ?_); (case k1 => assumption))
  | ((with_reducible refine' len_ls ?k1 ?_); (case k1 => assumption))
  | with_reducible refine eq_bb ?_
  | with_reducible refine ne_bb ?_
  | ((with_reducible refine' i2_ok ?k1 ?_); (case k1 => walk_at "ct"))
  | with_reducible refine b2_ok ?_
  | with_reducible refine add_ii ?_
  | ((with_reducible refine' add_ss ?k1 ?_); (case k1 => walk_at "ct"))
  | ((with_reducible refine' add_tt ?k1 ?_); (case k1 => walk_at "ct"))
  | ((with_reducible refine' mul_ii ?k1 ?_); (case k1 => walk_at "ct"))
  | ((with_reducible refine' len_str ?k1 ?_); (case k1 => walk_at "ct"))
  | with_reducible refine len_tup ?_
  | with_reducible refine len_fr ?_
  | with_reducible refine len_sl ?_
  | with_reducible refine sl_t ?_
  | with_reducible refine sl_f ?_
  | with_reducible refine int1_ok ?_
  | with_reducible refine int2_ok ?_
  | with_reducible refine int_i ?_
  | with_reducible refine int_b ?_
  | with_reducible refine ins_c ?_
  | with_reducible refine tup_t ?_
  | with_reducible refine tup_f ?_
  | with_reducible refine eq_ii ?_
  | with_reducible refine ne_ii ?_
  | with_reducible refine wo_n ?_
  | with_reducible refine wo_s ?_
  | with_reducible refine ex_2 ?_
  | with_reducible refine ex_3 ?_
  | ((with_reducible refine' len_own ?k1 ?_); (case k1 => assumption))
  | ((with_reducible refine' ix_t ?k1 ?_); (case k1 => rfl))
  | ((with_reducible refine' ix_f ?k1 ?_); (case k1 => rfl))
  | ((with_reducible refine' ix_s ?k1 ?_); (case k1 => rfl))
  | ((with_reducible refine' isn_k ?k1 ?_); (case k1 => walk_at "kd"))
  | ((with_reducible refine' nisn_k ?k1 ?_); (case k1 => walk_at "kd"))
  | with_reducible refine ty_str ?_
  | with_reducible refine ty_put ?_
  | with_reducible refine len_put ?_
  | ((with_reducible refine' ix_p ?k1 ?_); (case k1 => rfl))
  | ((with_reducible refine' ix_o ?k0 ?k1 ?_); (case k0 => assumption); (case k1 => rfl))
  | ((with_reducible refine' setL_p ?k1 ?_); (case k1 => rfl))
  | ((with_reducible refine' setL_o ?k0 ?k1 ?_); (case k0 => assumption); (case k1 => rfl))
  | ((with_reducible refine' ty_own ?k1 ?_); (case k1 => assumption))
  | ((with_reducible refine' sz_ok ?k1 ?_); (case k1 => rfl))
  | ((with_reducible refine' sz_as ?k1 ?_); (case k1 => assumption)))
local macro_rules | `(tactic| walk_at "py") => `(tactic| repeat' (first | walk_at "py1" | walk_at "d1"))
local macro_rules | `(tactic| walk_at "sz") => `(tactic| first | (exact ⟨by omega, by omega, Nat.le_of_ble_eq_true rfl⟩) | (refine Nat.le_trans (Nat.le_of_ble_eq_true (m := 1000) rfl) (by decide)) | (refine Nat.lt_of_le_of_lt (Nat.le_of_ble_eq_true (m := 1000) rfl) (by decide)) | (simp only [rep_len, List.length_append, List.length_cons, List.length_nil]; refine Nat.le_trans (m := 1000) (by omega) (by decide)))
local macro_rules | `(tactic| walk_at "fz1") => `(tactic| first
  | with_reducible refine x_mulS ?_
  | with_reducible refine x_mulF ?_
  | with_reducible refine x_addF ?_
  | with_reducible refine x_addF2 ?_
  | with_reducible refine x_addF3 ?_
  | with_reducible refine we_lstF ?_
  | ((with_reducible refine' mul_lf ?k1 ?_); (case k1 => walk_at "sz"))
  | ((with_reducible refine' add_lf ?k1 ?_); (case k1 => walk_at "sz"))
  | ((with_reducible refine' mul_s ?k1 ?_); (case k1 => decide +kernel))
  | ((with_reducible refine' app_put ?k1 ?_); (case k1 => walk_at "sz")))
local macro_rules | `(tactic| walk_at "pyF") => `(tactic| repeat' (first | walk_at "fz1" | walk_at "py1" | walk_at "d1"))
local macro_rules | `(tactic| walk_at "r1") => `(tactic| first
  | ((with_reducible refine' x_repr ?kx ?kz ?kg ?_ ?k1 ?k2); (case kx => assumption); (case kz => assumption); (case kg => walk_at "gl"); (case k1 => rfl); (case k2 => rfl)))
local macro_rules | `(tactic| walk_at "fz2") => `(tactic| first
  | with_reducible refine x_mulS ?_
  | with_reducible refine x_addA ?_
  | with_reducible refine x_mulA ?_
  | with_reducible refine x_sliceA ?_
  | with_reducible refine we_lstF ?_
  | ((with_reducible refine' x_listA ?kx ?kz ?kg ?_ ?k1 ?k2); (case kx => assumption); (case kz => assumption); (case kg => walk_at "gl"); (case k1 => rfl); (case k2 => rfl))
  | with_reducible refine fa_int ?_
  | with_reducible refine fa_str ?_
  | with_reducible refine fa_bl ?_
  | with_reducible refine fa_non ?_
  | with_reducible refine fa_tup ?_
  | with_reducible refine fa_lst ?_
  | with_reducible refine slA_f ?_
  | with_reducible refine slA_t ?_
  | with_reducible refine slA_p ?_
  | with_reducible refine addA_ii ?_
  | with_reducible refine listA_l ?_
  | with_reducible refine listA_t ?_
  | with_reducible refine listA_p ?_
  | ((with_reducible refine' fa_put ?k1 ?_); (case k1 => assumption))
  | ((with_reducible refine' slA_o ?k1 ?_); (case k1 => assumption))
  | ((with_reducible refine' listA_o ?k1 ?_); (case k1 => assumption))
  | ((with_reducible refine' slA_z ?k1 ?_); (case k1 => walk_at "ct"))
  | ((with_reducible refine' addA_ss ?k1 ?_); (case k1 => walk_at "ct"))
  | ((with_reducible refine' addA_tt ?k1 ?_); (case k1 => walk_at "ct"))
  | ((with_reducible refine' mulA_ii ?k1 ?_); (case k1 => walk_at "ct"))
  | ((with_reducible refine' addA_ll ?k1 ?_); (case k1 => walk_at "sz"))
  | ((with_reducible refine' addA_pl ?k1 ?_); (case k1 => walk_at "sz"))
  | ((with_reducible refine' mul_s ?k1 ?_); (case k1 => decide +kernel))
  | ((with_reducible refine' app_put ?k1 ?_); (case k1 => walk_at "sz")))
local macro_rules | `(tactic| walk_at "u1") => `(tactic| first
  | ((with_reducible refine' we_lele ?_ ?k1); (case k1 => with_unfolding_all rfl))
  | ((with_reducible refine' wt_lele ?_ ?k1); (case k1 => with_unfolding_all rfl))
  | with_reducible refine we_revT ?_
  | ((with_reducible refine' x_upper ?_ ?k1 ?k2); (case k1 => rfl); (case k2 => rfl)))
local macro_rules | `(tactic| walk_at "pyA") => `(tactic| repeat' (first | walk_at "u1" | walk_at "fz2" | walk_at "r1" | walk_at "py1" | walk_at "d1"))
local macro_rules | `(tactic| walk_at "pyR") => `(tactic| repeat' (first | walk_at "u1" | walk_at "r1" | walk_at "py1" | walk_at "d1"))
local macro_rules | `(tactic| walk_at "bad") => `(tactic| first
  | (rename_i q; exact Bool.noConfusion (show false = true from q))
  | (rename_i q; exact Bool.noConfusion (show true = false from q))
  | (rename_i q _; exact Bool.noConfusion (show false = true from q))
  | (rename_i q _; exact Bool.noConfusion (show true = false from q))
  | (rename_i q _ _; exact Bool.noConfusion (show false = true from q))
  | (rename_i q _ _; exact Bool.noConfusion (show true = false from q))
  | (rename_i q _ _ _; exact Bool.noConfusion (show false = true from q))
  | (rename_i q _ _ _; exact Bool.noConfusion (show true = false from q))
  | (rename_i q _ _ _ _; exact Bool.noConfusion (show false = true from q))
  | (rename_i q _ _ _ _; exact Bool.noConfusion (show true = false from q)))
local macro_rules | `(tactic| walk_at "fg") => `(tactic| first
  | exact FGet.here _ _ _ _
  | exact FGet.there (by decide +kernel) (FGet.here _ _ _ _)
  | exact FGet.there (by decide +kernel) (FGet.there (by decide +kernel) (FGet.here _ _ _ _))
  | exact FGet.there (by decide +kernel) (FGet.there (by decide +kernel) (FGet.there (by decide +kernel) (FGet.here _ _ _ _)))
  | exact FGet.there (by decide +kernel) (FGet.there (by decide +kernel) (FGet.there (by decide +kernel) (FGet.there (by decide +kernel) (FGet.here _ _ _ _))))
  | exact FGet.there (by decide +kernel) (FGet.there (by decide +kernel) (FGet.there (by decide +kernel) (FGet.there (by decide +kernel) (FGet.there (by decide +kernel) (FGet.here _ _ _ _)))))
  | exact FGet.there (by decide +kernel) (FGet.there (by decide +kernel) (FGet.there (by decide +kernel) (FGet.there (by decide +kernel) (FGet.there (by decide +kernel) (FGet.there (by decide +kernel) (FGet.here _ _ _ _))))))
  | exact FGet.there (by decide +kernel) (FGet.there (by decide +kernel) (FGet.there (by decide +kernel) (FGet.there (by decide +kernel) (FGet.there (by decide +kernel) (FGet.there (by decide +kernel) (FGet.there (by decide +kernel) (FGet.here _ _ _ _)))))))
  | exact FGet.there (by decide +kernel) (FGet.there (by decide +kernel) (FGet.there (by decide +kernel) (FGet.there (by decide +kernel) (FGet.there (by decide +kernel) (FGet.there (by decide +kernel) (FGet.there (by decide +kernel) (FGet.there (by decide +kernel) (FGet.here _ _ _ _))))))))
  | exact FGet.there (by decide +kernel) (FGet.there (by decide +kernel) (FGet.there (by decide +kernel) (FGet.there (by decide +kernel) (FGet.there (by decide +kernel) (FGet.there (by decide +kernel) (FGet.there (by decide +kernel) (FGet.there (by decide +kernel) (FGet.there (by decide +kernel) (FGet.here _ _ _ _))))))))))
local macro_rules | `(tactic| walk_at "c1") => `(tactic| first
  | ((with_reducible refine' x_ixD ?kx ?_ ?k1); (case kx => assumption); (case k1 => (intro _ _; rfl)))
  | ((with_reducible refine' x_inX ?kx ?_ ?k1); (case kx => assumption); (case k1 => rfl))
  | ((with_reducible refine' xt_inX ?kx ?_ ?k1); (case kx => assumption); (case k1 => rfl))
  | ((with_reducible refine' x_ninX ?kx ?_ ?k1); (case kx => assumption); (case k1 => rfl))
  | ((with_reducible refine' xt_ninX ?kx ?_ ?k1); (case kx => assumption); (case k1 => rfl))
  | ((with_reducible refine' x_lenX ?kx ?kz ?kg ?_ ?k1 ?k2); (case kx => assumption); (case kz => assumption); (case kg => walk_at "gl"); (case k1 => rfl); (case k2 => rfl))
  | ((with_reducible refine' x_setX ?kx ?_ ?k1); (case kx => assumption); (case k1 => (intro _; rfl)))
  | ((with_reducible refine' x_fld ?kx ?_ ?k1); (case kx => assumption); (case k1 => rfl))
  | ((with_reducible refine' x_setFld ?kx ?_ ?k1); (case kx => assumption); (case k1 => rfl))
  | with_reducible refine x_dnew ?_
  | ((with_reducible refine' x_ddel ?_))
  | ((with_reducible refine' x_stripC ?_ ?k1 ?k2 ?k3 ?k4 ?k5); (case k1 => rfl); (case k2 => rfl); (case k3 => rfl); (case k4 => rfl); (case k5 => rfl))
  | ((with_reducible refine' x_dictP ?kx ?kz ?kg ?_ ?k1 ?k2); (case kx => assumption); (case kz => assumption); (case kg => walk_at "gl"); (case k1 => rfl); (case k2 => rfl))
  | ((with_reducible refine' x_dget2 ?kx ?_ ?km); (case kx => assumption); (case km => exact ⟨rfl, rfl, rfl, rfl⟩))
  | ((with_reducible refine' x_dpop1 ?_ ?km); (case km => exact ⟨rfl, rfl, rfl, rfl⟩))
  | ((with_reducible refine' x_sortedK ?kx ?kz ?kg ?_ ?k1 ?k2); (case kx => assumption); (case kz => assumption); (case kg => walk_at "gl"); (case k1 => rfl); (case k2 => rfl)))
local macro_rules | `(tactic| walk_at "c2") => `(tactic| first
  | ((refine' fld_ok ?h1 ?h2 ?h3 ?_); (case h1 => assumption); (case h2 => assumption); (case h3 => walk_at "fg"))
  | ((with_reducible refine' ixD_ok ?h1 ?h2 ?_); (case h1 => assumption); (case h2 => assumption))
  | ((with_reducible show dIxD (D.own _) (D.int _) _ _); refine Or.inl ?_)
  | ((with_reducible show dIxD (D.lst _) _ _ _); refine Or.inl ?_)
  | ((with_reducible show dIxD (D.tup _) _ _ _); refine Or.inl ?_)
  | ((with_reducible show dIxD (D.str _) _ _ _); refine Or.inl ?_)
  | ((with_reducible refine' inX_ok ?h1 ?_); (case h1 => assumption))
  | ((with_reducible refine' ninX_ok ?h1 ?_); (case h1 => assumption))
  | ((with_reducible refine' lenX_ok ?h1 ?_); (case h1 => assumption))
  | ((with_reducible show dLenX [D.lst _] _ _); refine Or.inl ?_)
  | ((with_reducible show dLenX [D.tup _] _ _); refine Or.inl ?_)
  | ((with_reducible show dLenX [D.str _] _ _); refine Or.inl ?_))
local macro_rules | `(tactic| walk_at "pyC") => `(tactic| repeat' (first | walk_at "c2" | walk_at "c1" | walk_at "u1" | walk_at "r1" | walk_at "py1" | walk_at "d1"))
local macro_rules | `(tactic| walk_at "pm1") => `(tactic| first
  | ((with_reducible refine' x_ifWge ?kb ?k0 ?kp ?_); (case kb => assumption); (case k0 => walk_at "nm"); (case kp => walk_at "nm"))
  | with_reducible refine wss_cons ?_
  | with_reducible refine wss_nil ?_
  | with_reducible refine ws_ret ?_
  | with_reducible refine ws_retN ?_
  | with_reducible refine ws_if ?_
  | with_reducible refine ws_pass ?_
  | with_reducible refine ws_break ?_
  | with_reducible refine ws_continue ?_
  | with_reducible refine we_and ?_
  | with_reducible refine we_or ?_
  | with_reducible refine we_one ?_
  | with_reducible refine we_not ?_
  | with_reducible refine we_if ?_
  | with_reducible refine we_int ?_
  | with_reducible refine we_bl ?_
  | with_reducible refine we_non ?_
  | with_reducible refine we_str ?_
  | with_reducible refine we_tup ?_
  | with_reducible refine wa_nil ?_
  | ((with_reducible refine' wa_cons ?_ ?k1); (case k1 => rfl))
  | ((with_reducible refine' we_nm ?k1 ?k0 ?k2 ?_); (case k1 => assumption); (case k0 => walk_at "nm"); (case k2 => walk_at "nm"))
  | with_reducible refine we_add ?_
  | with_reducible refine we_sub' ?_
  | with_reducible refine we_mul ?_
  | with_reducible refine we_mod ?_
  | with_reducible refine we_fdiv ?_
  | with_reducible refine we_pow ?_
  | with_reducible refine we_neg ?_
  | with_reducible refine we_lt ?_
  | with_reducible refine we_le ?_
  | with_reducible refine we_gt ?_
  | with_reducible refine we_ge ?_
  | with_reducible refine we_is ?_
  | with_reducible refine we_isnot ?_
  | ((with_reducible refine' x_eq ?k1 ?_); (case k1 => assumption))
  | ((with_reducible refine' xt_eq ?k1 ?_); (case k1 => assumption))
  | ((with_reducible refine' x_ne ?k1 ?_); (case k1 => assumption))
  | ((with_reducible refine' xt_ne ?k1 ?_); (case k1 => assumption))
  | with_reducible refine wt_lt ?_
  | with_reducible refine wt_le ?_
  | with_reducible refine wt_gt ?_
  | with_reducible refine wt_ge ?_
  | with_reducible refine wt_is ?_
  | with_reducible refine wt_isnot ?_
  | with_reducible refine wt_not ?_
  | with_reducible refine wt_bo ?_
  | with_reducible refine ww_and ?_
  | with_reducible refine ww_or ?_
  | with_reducible refine ww_and1 ?_
  | with_reducible refine ww_or1 ?_
  | ((with_reducible refine' x_ixL ?_ ?k1); (case k1 => (intro _ _; rfl)))
  | ((with_reducible refine' we_ix ?_ ?k1); (case k1 => (intro _ _; rfl)))
  | with_reducible refine we_slice ?_
  | ((with_reducible refine' x_isiT ?kx ?kz ?kg ?_ ?k1 ?k2); (case kx => assumption); (case kz => assumption); (case kg => walk_at "gl"); (case k1 => rfl); (case k2 => rfl))
  | ((with_reducible refine' x_isi ?kx ?kz ?kg ?_ ?k1 ?k2); (case kx => assumption); (case kz => assumption); (case kg => walk_at "gl"); (case k1 => rfl); (case k2 => rfl))
  | ((with_reducible refine' x_abs ?kx ?kz ?kg ?_ ?k1 ?k2); (case kx => assumption); (case kz => assumption); (case kg => walk_at "gl"); (case k1 => rfl); (case k2 => rfl))
  | ((with_reducible refine' x_max2 ?kx ?kz ?kg ?_ ?k1 ?k2); (case kx => assumption); (case kz => assumption); (case kg => walk_at "gl"); (case k1 => rfl); (case k2 => rfl))
  | ((with_reducible refine' x_min2 ?kx ?kz ?kg ?_ ?k1 ?k2); (case kx => assumption); (case kz => assumption); (case kg => walk_at "gl"); (case k1 => rfl); (case k2 => rfl))
  | ((with_reducible refine' x_minL ?kx ?kz ?kg ?_ ?k1 ?k2); (case kx => assumption); (case kz => assumption); (case kg => walk_at "gl"); (case k1 => rfl); (case k2 => rfl))
  | ((with_reducible refine' x_any ?kx ?kz ?kg ?_ ?k1 ?k2); (case kx => assumption); (case kz => assumption); (case kg => walk_at "gl"); (case k1 => rfl); (case k2 => rfl))
  | ((with_reducible refine' x_all ?kx ?kz ?kg ?_ ?k1 ?k2); (case kx => assumption); (case kz => assumption); (case kg => walk_at "gl"); (case k1 => rfl); (case k2 => rfl))
  | ((with_reducible refine' x_sum ?kx ?kz ?kg ?_ ?k1 ?k2); (case kx => assumption); (case kz => assumption); (case kg => walk_at "gl"); (case k1 => rfl); (case k2 => rfl))
  | ((with_reducible refine' x_intC ?kx ?kz ?kg ?_ ?k1 ?k2); (case kx => assumption); (case kz => assumption); (case kg => walk_at "gl"); (case k1 => rfl); (case k2 => rfl))
  | ((with_reducible refine' x_strC ?kx ?kz ?kg ?_ ?k1 ?k2); (case kx => assumption); (case kz => assumption); (case kg => walk_at "gl"); (case k1 => rfl); (case k2 => rfl))
  | ((with_reducible refine' x_tupleC ?kx ?kz ?kg ?_ ?k1 ?k2); (case kx => assumption); (case kz => assumption); (case kg => walk_at "gl"); (case k1 => rfl); (case k2 => rfl))
  | ((with_reducible refine' x_listC ?kx ?kz ?kg ?_ ?k1 ?k2); (case kx => assumption); (case kz => assumption); (case kg => walk_at "gl"); (case k1 => rfl); (case k2 => rfl))
  | ((with_reducible refine' x_tyInt ?kx ?kz ?kg ?_); (case kx => assumption); (case kz => assumption); (case kg => walk_at "gl"))
  | ((with_reducible refine' x_tyBool ?kx ?kz ?kg ?_); (case kx => assumption); (case kz => assumption); (case kg => walk_at "gl"))
  | ((with_reducible refine' x_tyStr ?kx ?kz ?kg ?_); (case kx => assumption); (case kz => assumption); (case kg => walk_at "gl"))
  | ((with_reducible refine' x_tyList ?kx ?kz ?kg ?_); (case kx => assumption); (case kz => assumption); (case kg => walk_at "gl"))
  | ((with_reducible refine' x_tyTuple ?kx ?kz ?kg ?_); (case kx => assumption); (case kz => assumption); (case kg => walk_at "gl"))
  | ((with_reducible refine' x_call ?kx ?kh ?kg ?_ ?kl ?kd ?k1 ?k2); (case kh => assumption); (case kx => assumption); (case kg => walk_at "gl"); (case kl => first | decide | omega); (case kd => decide); (case k1 => rfl); (case k2 => rfl))
  | ((with_reducible refine' x_glob ?kx ?kh ?kg ?_ ?kd); (case kh => assumption); (case kx => assumption); (case kg => walk_at "gl"); (case kd => decide))
  | ((with_reducible refine' ws_nm ?kb ?k0 ?kp ?_ ?k1); (case kb => assumption); (case k0 => walk_at "nm"); (case kp => walk_at "nm"); (case k1 => rfl))
  | ((with_reducible refine' wg_nm ?kb ?k0 ?kp ?_); (case kb => assumption); (case k0 => walk_at "nm"); (case kp => walk_at "nm"))
  | ((with_reducible refine' ws_augAdd ?kb ?k0 ?kg ?kp ?_); (case kb => assumption); (case k0 => walk_at "nm"); (case kg => walk_at "nm"); (case kp => walk_at "nm"))
  | ((with_reducible refine' x_par2 ?kd ?k1 ?k2 ?k3 ?k4 ?k5 ?k6 ?_ ?k7); (case kd => assumption); (case k1 => walk_at "nm"); (case k2 => (intro _; walk_at "nm")); (case k3 => decide +kernel); (case k4 => decide +kernel); (case k5 => decide +kernel); (case k6 => rfl); (case k7 => rfl))
  | ((with_reducible refine' x_par3 ?kd ?k1 ?k2 ?k3 ?k4 ?k5 ?k6 ?k7 ?_ ?k8); (case kd => assumption); (case k1 => walk_at "nm"); (case k2 => (intro _; walk_at "nm")); (case k3 => (intro _ _; walk_at "nm")); (case k4 => decide +kernel); (case k5 => decide +kernel); (case k6 => decide +kernel); (case k7 => rfl); (case k8 => rfl))
  | ((with_reducible refine' ws_asg ?_ ?k1 ?k2 ?k3); (case k1 => rfl); (case k2 => rfl); (case k3 => rfl))
  | ((with_reducible refine' ws_asgD ?kd ?_ ?k1 ?k2 ?k3); (case kd => assumption); (case k1 => rfl); (case k2 => rfl); (case k3 => rfl))
  | ((with_reducible refine' x_gtup ?kx ?kl ?_ ?k1); (case kx => assumption); (case kl => rfl); (case k1 => rfl))
  | ((with_reducible refine' wg_setL ?_ ?k1); (case k1 => (intro _; rfl)))
  | ((with_reducible refine' wgs_cons ?_ ?k1); (case k1 => rfl))
  | with_reducible refine wgs_nil ?_
  | ((with_reducible refine' x_join ?_ ?k1 ?k2 ?k3 ?k4 ?k5); (case k1 => rfl); (case k2 => rfl); (case k3 => rfl); (case k4 => rfl); (case k5 => rfl))
  | ((with_reducible refine' x_sindex ?_ ?k1 ?k2 ?k3 ?k4 ?k5); (case k1 => rfl); (case k2 => rfl); (case k3 => rfl); (case k4 => rfl); (case k5 => rfl))
  | ((with_reducible refine' x_insert ?_ ?k1 ?k2 ?k3 ?k4 ?k5); (case k1 => rfl); (case k2 => rfl); (case k3 => rfl); (case k4 => rfl); (case k5 => rfl))
  | ((with_reducible refine' x_popAt ?_ ?k1 ?k2 ?k3 ?k4 ?k5); (case k1 => rfl); (case k2 => rfl); (case k3 => rfl); (case k4 => rfl); (case k5 => rfl))
  | ((with_reducible refine' x_append ?_ ?k1 ?k2 ?k3 ?k4 ?k5); (case k1 => rfl); (case k2 => rfl); (case k3 => rfl); (case k4 => rfl); (case k5 => rfl))
  | ((with_reducible refine' ws_expr ?_ ?k1); (case k1 => rfl))
  | ((with_reducible refine' wt_val ?_ ?k1); (case k1 => (intro _; rfl))))
local macro_rules | `(tactic| walk_at "pyM") => `(tactic| repeat' (first | walk_at "c2" | walk_at "u1" | walk_at "r1" | walk_at "pm1" | walk_at "d1"))
local macro_rules | `(tactic| walk_at "pyCA") => `(tactic| repeat' (first | walk_at "c2" | walk_at "c1" | walk_at "u1" | walk_at "fz2" | walk_at "r1" | walk_at "py1" | walk_at "d1"))
namespace K31
section
variable {P : Program} {w : World} {K : PySem.W.Frag} {mg : Str → Option Value} {base : Heap}
/-- the bag of draws at b: at most n were mixed -/
def Bag (C : CS) (b : Addr) (n : Nat) : Prop := ∃ x y c : Int, C b = some (.lst [.int x, .int y, .int c]) ∧ 0 ≤ x ∧ 0 ≤ y ∧ y < 4611686018427387904 ∧ 0 ≤ c ∧ c ≤ n
theorem Bag.mono {C : CS} {b : Addr} {n m : Nat} (h : Bag C b n) (hm : n ≤ m) : Bag C b m := by
  obtain ⟨x, y, c, h1, h2, h3, h4, h5, h6⟩ := h
  exact ⟨x, y, c, h1, h2, h3, h4, h5, by omega⟩
theorem Bag.some {C : CS} {b : Addr} {n : Nat} (h : Bag C b n) : ∃ l, C b = some (.lst l) := by
  obtain ⟨x, y, c, h1, _⟩ := h
  exact ⟨_, h1⟩
theorem Bag.put {C : CS} {b p : Addr} {n : Nat} {c : Cell} (h : Bag C b n) (hp : b ≠ p) : Bag (DL.put C p c) b n := by
  obtain ⟨x, y, c, h1, h2⟩ := h
  exact ⟨x, y, c, by rw [put_ne hp]; exact h1, h2⟩
theorem Bag.ne {C : CS} {b p : Addr} {n : Nat} (h : Bag C b n) (hp : C p = none) : b ≠ p := by
  obtain ⟨l, h⟩ := h.some
  exact cell_ne h hp
theorem Bag.of {C C1 : CS} {b : Addr} {n m : Nat} (h : Bag C b n) (e : C1 b = C b) (hm : n ≤ m) : Bag C1 b m := by
  obtain ⟨x, y, c, q1, q2⟩ := Bag.mono h hm
  exact ⟨x, y, c, e.trans q1, q2⟩
/-- any item -/
theorem at_any {xs : List D} {r : Int} (h0 : 0 ≤ r) (h1 : r < (xs.length : Nat)) : ∃ d ∈ xs, atI xs r = some d := by
  have hl : r.toNat < xs.length := by omega
  refine ⟨xs[r.toNat], List.getElem_mem hl, ?_⟩
  unfold atI ixN
  rw [if_pos h0, if_pos h1]
  exact List.getElem?_eq_getElem hl
theorem ix_any {C : CS} {k : KD} {xs : List D} {r : Int} (h0 : 0 ≤ r) (h1 : r < (xs.length : Nat)) (q : ∀ d ∈ xs, k d C) : dIx (.lst xs) (.int r) C k := by
  obtain ⟨d, hm, he⟩ := at_any h0 h1
  exact ix_f he (q d hm)
theorem ix_anyT {C : CS} {k : KD} {xs : List D} {r : Int} (h0 : 0 ≤ r) (h1 : r < (xs.length : Nat)) (q : ∀ d ∈ xs, k d C) : dIx (.tup xs) (.int r) C k := by
  obtain ⟨d, hm, he⟩ := at_any h0 h1
  exact ix_t he (q d hm)
theorem ix_anyO {C : CS} {k : KD} {p : Addr} {xs : List D} {r : Int} (hp : C p = some (.lst xs)) (h0 : 0 ≤ r) (h1 : r < (xs.length : Nat)) (q : ∀ d ∈ xs, k d C) : dIx (.own p) (.int r) C k := by
  obtain ⟨d, hm, he⟩ := at_any h0 h1
  exact ix_o hp he (q d hm)
/-- texts of one to eight letters -/
def Nm (z : Str) : Prop := 1 ≤ z.length ∧ z.length ≤ 8 ∧ ∀ c ∈ z.cps.toList, 97 ≤ c ∧ c ≤ 122
abbrev abc : Str := "abcdefghijklmnopqrstuvwxyz"
theorem abc_at : ∀ j : Nat, j < 26 → abc.cps.toList[j]? = some (97 + j) := by decide +kernel
theorem abc_len : abc.length = 26 := by decide +kernel
theorem abc_ix {i : Int} (h0 : 0 ≤ i) (h1 : i < 26) : atI abc.cps.toList i = some (97 + i.toNat) := by
  unfold atI ixN
  have hl : abc.cps.toList.length = 26 := by decide +kernel
  rw [hl, if_pos h0, if_pos (by omega)]
  exact abc_at i.toNat (by omega)
theorem nm_strOk {z : Str} (h : Nm z) : PyData.strOk z = true := by
  unfold PyData.strOk
  rw [← Array.all_toList, List.all_eq_true]
  exact fun c hc => decide_eq_true (by have := h.2.2 c hc; omega)
def abcB (z : Str) : Bool := z.cps.toList.all fun c => decide (c ∈ abc.cps.toList)
def sgB (d : D) : Bool := match d with | .str s => s.cps.toList.all fun c => decide (c ∈ abc.cps.toList) | _ => false
theorem signs_all (z : Str) : (signsOf z).all sgB = abcB z := by
  unfold signsOf abcB
  rw [List.all_map]
  congr 1
  funext c
  simp [sgB]
theorem mem_signs {z : Str} {d : D} (h : d ∈ signsOf z) : ∃ c, d = .str ⟨#[c]⟩ := by
  obtain ⟨c, _, rfl⟩ := List.mem_map.mp h
  exact ⟨c, rfl⟩
theorem signs_len (z : Str) : (signsOf z).length = z.length := by
  unfold signsOf
  rw [List.length_map, Array.length_toList]; rfl
theorem abcB_nm {z : Str} (h : Nm z) : abcB z = true := by
  unfold abcB
  rw [List.all_eq_true]
  intro c hc
  obtain ⟨h1, h2⟩ := h.2.2 c hc
  refine decide_eq_true (List.mem_of_getElem? (i := c - 97) ?_)
  rw [abc_at (c - 97) (by omega)]
  congr 1; omega
def spIsNm : DSp := fun ds C k => ∃ z, ds = [.str z] ∧ Nm z ∧ k (.bl true) C
theorem nm_size {z : Str} (h : Nm z) : z.length ≤ sizeLine := Nat.le_trans h.2.1 (by decide)
theorem ok_isName {f : Addr} {fd : FuncData} (F : Fun K "is_name" "is_name" s_is_name f fd) (Z : Zs mg) (g1 : MgK K mg "LETTERS" (.str abc)) (g2 : MgK K mg "MOST_LETTERS" (.int 8)) : FnG P w K mg base CX0 1 f fd P_is_name (toSp K spIsNm) := by
  refine fnX F sc_is_name v_is_name l_is_name g_is_name (fun ds C k h => by obtain ⟨x, rfl, _⟩ := h; rfl) fun X hB ds C k h => ?_
  obtain ⟨z, rfl, hO, h⟩ := h
  obtain ⟨hx, hn, hs, hg, hd, hnox⟩ := hB
  change WSs X _ [some (.str z), none] C _
  have hz := nm_size hO
  refine wss_cons ?_
  walk_at "pyR"
  all_goals try walk_at "bad"
  · rename_i h3 h4
    have h4 := dec_f (by simpa using h4 : decide (((z.length : Nat) : Int) ≤ 8) = false)
    have := hO.2.1
    omega
  · rename_i h3 h4
    refine we_fa (lc1 ["sign"] ["LETTERS"] hd (by walk_at "nm") (by decide +kernel) (by decide +kernel) (by decide +kernel) (by decide +kernel) (wi_str ?_))
    walk_at "pyR"
    refine ⟨z, rfl, LcB.map (fun d => .bl (sgB d)) trivial (by rw [signs_len]; exact hz) ?_ fun p hp => fa_put hp ?_⟩
    · intro d hdm X' hX hn' hg'
      have hx' := hx.blk hX
      obtain ⟨c, rfl⟩ := mem_signs hdm
      walk_at "pyR"
      exact ⟨by simp [sgB], rfl⟩
    · walk_at "pyR"
      refine all_map (f := sgB) ?_
      rw [signs_all, abcB_nm hO]; exact h
  · rename_i h3 h4
    have h3 := dec_f h3
    have := hO.1
    omega
theorem nin_feed {C : CS} {k : KD} {z : Str} (q : k (.bl (!decide (10 ∈ z.cps.toList))) C) : dIn true (.str "\n") (.str z) C k := ⟨10, z, congrArg D.str (show (("\n" : Str)) = ⟨#[10]⟩ by decide +kernel), rfl, q⟩
/-- a text of signs below 128, no line feed, that is not long -/
def Ln (z : Str) : Prop := z.length ≤ 1000 ∧ ∀ c ∈ z.cps.toList, c < 128 ∧ c ≠ 10
def spIsLn : DSp := fun ds C k => ∃ z, ds = [.str z] ∧ Ln z ∧ k (.bl true) C
theorem ok_isLine {f : Addr} {fd : FuncData} (F : Fun K "is_line" "is_line" s_is_line f fd) (Z : Zs mg) (g1 : MgK K mg "FEED" (.str "\n")) : FnG P w K mg base CX0 1 f fd P_is_line (toSp K spIsLn) := by
  refine fnX F sc_is_line v_is_line l_is_line g_is_line (fun ds C k h => by obtain ⟨x, rfl, _⟩ := h; rfl) fun X hB ds C k h => ?_
  obtain ⟨z, rfl, hL, h⟩ := h
  obtain ⟨hx, hn, hs, hg, hd, hnox⟩ := hB
  change WSs X _ [some (.str z)] C _
  refine wss_cons ?_
  walk_at "pyR"
  all_goals try walk_at "bad"
  refine nin_feed ?_
  rw [decide_eq_false (fun hm => (hL.2 10 hm).2 rfl)]
  exact h
def spLookLines : DSp := fun ds C k => ∃ (d : D) (zs : List Str), ds = [d] ∧ (d = .tup (zs.map D.str) ∨ ∃ p, d = .own p ∧ C p = some (.lst (zs.map D.str))) ∧ (∀ z ∈ zs, Ln z) ∧ zs.length ≤ 1000 ∧ k .non C
theorem ok_lookLines {f : Addr} {fd : FuncData} (F : Fun K "look_lines" "look_lines" s_look_lines f fd) (Z : Zs mg) (h1 : FnC P w K mg base "is_line" 1 spIsLn) : FnG P w K mg base CX0 2 f fd P_look_lines (toSp K spLookLines) := by
  refine fnX F sc_look_lines v_look_lines l_look_lines g_look_lines (fun ds C k h => by obtain ⟨x, _, rfl, _⟩ := h; rfl) fun X hB ds C k h => ?_
  obtain ⟨d, zs, rfl, hd0, hL, hl, h⟩ := h
  obtain ⟨hx, hn, hs, hg, hd, hnox⟩ := hB
  change WSs X _ [some d, none, none] C _
  have turn : ∀ (i : Nat) (e : D), (enumD (zs.map D.str))[i]? = some e → ∃ z, e = .tup [.int i, .str z] ∧ Ln z := fun i e he => by
    obtain ⟨y, h1, rfl⟩ := enumD_get he
    rw [List.getElem?_map] at h1
    cases hz : zs[i]? with
    | none => rw [hz] at h1; cases h1
    | some z => rw [hz] at h1; cases h1; exact ⟨z, rfl, hL z (List.mem_of_getElem? hz)⟩
  have body : ∀ {Pc : CS → Prop}, Pc C → ∃ Iv : Nat → DEnv → CS → Prop, Iv 0 [some d, none, none] C ∧ (∀ i env C, Iv i env C → Pc C) ∧ (∀ i env C', Iv i env C' → C' = C ∧ ∃ o1 o2, env = [some d, o1, o2]) ∧ ∀ i o1 o2, Iv i [some d, o1, o2] C :=
    fun hp => ⟨fun _ env C' => C' = C ∧ ∃ o1 o2, env = [some d, o1, o2], ⟨rfl, _, _, rfl⟩, fun _ _ _ h => h.1 ▸ hp, fun _ _ _ h => h, fun _ _ _ => ⟨rfl, _, _, rfl⟩⟩
  rcases hd0 with rfl | ⟨p, rfl, hp⟩
  · refine wss_cons ?_
    walk_at "pyR"
    all_goals try walk_at "bad"
    refine x_for hx hnox (wi_enum (hx.zs Z).enum (by walk_at "gl") ?_)
    walk_at "pyR"
    refine ⟨_, _, rfl, .inr ⟨rfl, ?_⟩⟩
    obtain ⟨Iv, i0, ip, ie, is⟩ := body (Pc := fun _ => True) trivial
    refine ⟨Iv, i0, ip, ?_, ?_⟩
    · intro i e env C' he hi
      obtain ⟨rfl, o1, o2, rfl⟩ := ie _ _ _ hi
      obtain ⟨z, rfl, hLz⟩ := turn _ _ he
      walk_at "pyR"
      refine ⟨z, rfl, hLz, ?_⟩
      walk_at "pyR"
      all_goals try walk_at "bad"
      exact is _ _ _
    · intro env C' hi
      obtain ⟨rfl, o1, o2, rfl⟩ := ie _ _ _ hi
      walk_at "pyR"
      exact h
  · refine wss_cons ?_
    walk_at "pyR"
    refine isi_ownLT hp ?_
    walk_at "pyR"
    all_goals try walk_at "bad"
    refine x_for hx hnox (wi_enum (hx.zs Z).enum (by walk_at "gl") ?_)
    walk_at "pyR"
    refine ⟨_, _, rfl, .inl ⟨by simp only [seqR, hp]; rfl, ?_⟩⟩
    obtain ⟨Iv, i0, ip, ie, is⟩ := body (Pc := ownP (.own p) (zs.map D.str)) (fun _ e => by cases e; exact hp)
    refine ⟨Iv, i0, ip, ?_, ?_⟩
    · intro i e env C' he hi
      obtain ⟨rfl, o1, o2, rfl⟩ := ie _ _ _ hi
      obtain ⟨z, rfl, hLz⟩ := turn _ _ he
      walk_at "pyR"
      refine ⟨z, rfl, hLz, ?_⟩
      walk_at "pyR"
      all_goals try walk_at "bad"
      exact is _ _ _
    · intro env C' hi
      obtain ⟨rfl, o1, o2, rfl⟩ := ie _ _ _ hi
      walk_at "pyR"
      exact h
end
end K31
namespace K31
section
variable {P : Program} {w : World} {K : PySem.W.Frag} {mg : Str → Option Value} {base : Heap}
def spDraw : DSp := fun ds C k => ∃ (b : Addr) (n : Nat) (m : Int), ds = [.own b, .int m] ∧ Bag C b n ∧ n ≤ 1000000 ∧ 1 ≤ m ∧ m < 1000000 ∧ ∀ r l, 0 ≤ r → r < m → Bag (DL.put C b (.lst l)) b (n + 1) → k (.int r) (DL.put C b (.lst l))
theorem ok_draw {f : Addr} {fd : FuncData} (F : Fun K "_law_draw" "_law_draw" s_draw f fd) : FnG P w K mg base CX0 1 f fd P_draw (toSp K spDraw) := by
  refine fnX F sc_draw v_draw l_draw g_draw (fun ds C k h => by obtain ⟨_, _, _, rfl, _⟩ := h; rfl) fun X hB ds C k h => ?_
  obtain ⟨b, n, m, rfl, ⟨x, y, c, hC, x0, y0, y1, c0, c1⟩, hn30, m1, m2, h⟩ := h
  obtain ⟨hx, hn, hs, hg, hd, hnox⟩ := hB
  change WSs X _ [some (.own b), some (.int m), none, none] C _
  have mz : 0 < m := by omega
  have cd : CDiv x m := ⟨by omega, by omega⟩
  have q1 := Int.emod_nonneg (y * 62089 + 30011 * (c + 1) * (c + 1) + 13) (show (2147483587 : Int) ≠ 0 by decide)
  have q2 := Int.emod_lt_of_pos (y * 62089 + 30011 * (c + 1) * (c + 1) + 13) (show (0 : Int) < 2147483587 by decide)
  obtain ⟨y', hyy⟩ : ∃ y', y' = (y * 62089 + 30011 * (c + 1) * (c + 1) + 13) % 2147483587 := ⟨_, rfl⟩
  rw [← hyy] at q1 q2
  have d1 := Int.ediv_nonneg q1 (show (0 : Int) ≤ 64 by decide)
  have d2 : y' / 64 ≤ y' := Int.ediv_le_self _ q1
  have pw : CPowW (y' / 64) 3 := ⟨by omega, by omega, Nat.lt_trans (by omega : (y' / 64).natAbs < 2 ^ 100) (Nat.pow_lt_pow_right (by decide) (by decide))⟩
  refine wss_cons ?_
  rw [hyy] at pw
  walk_at "pyR"
  · exact h (x % m) [.int (x / m), .int y, .int c] (Int.emod_nonneg _ (by omega)) (Int.emod_lt_of_pos _ mz) ⟨x / m, y, c, put_same, Int.ediv_nonneg x0 (by omega), y0, y1, c0, by omega⟩
  · have h1 := Int.emod_nonneg (((y * 62089 + 30011 * (c + 1) * (c + 1) + 13) % 2147483587 / 64) ^ Int.toNat 3) (show (2147483563 : Int) ≠ 0 by decide)
    have h2 := Int.emod_lt_of_pos (((y * 62089 + 30011 * (c + 1) * (c + 1) + 13) % 2147483587 / 64) ^ Int.toNat 3) (show (0 : Int) < 2147483563 by decide)
    trace_state
    rw [← hyy]
    exact h _ [.int x, .int y', .int (c + 1)] (Int.emod_nonneg _ (by omega)) (Int.emod_lt_of_pos _ mz) ⟨x, y', c + 1, put_same, x0, q1, by omega, by omega, by omega⟩
def spSource : DSp := fun ds C k => ∃ (ns : List Int) (a : Nat), ds = [.slst (ns.map D.int), .int (a : Nat)] ∧ a ≤ 100 ∧ ∀ p l, C p = none → Bag (DL.put C p (.lst l)) p 0 → k (.own p) (DL.put C p (.lst l))
theorem at_map {ns : List Int} {a : Nat} (h : a < ns.length) : atI (ns.map D.int) (a : Int) = some (.int ns[a]) := by
  unfold atI ixN
  rw [if_pos (by omega), if_pos (by rw [List.length_map]; omega)]
  simp [h]
theorem ok_source {f : Addr} {fd : FuncData} (F : Fun K "_law_source" "_law_source" s_source f fd) (Z : Zs mg) : FnG P w K mg base CX0 1 f fd P_source (toSp K spSource) := by
  refine fnX F sc_source v_source l_source g_source (fun ds C k h => by obtain ⟨_, _, rfl, _⟩ := h; rfl) fun X hB ds C k h => ?_
  obtain ⟨ns, a, rfl, ha, h⟩ := h
  obtain ⟨hx, hn, hs, hg, hd, hnox⟩ := hB
  change WSs X _ [some (.slst (ns.map D.int)), some (.int a), none, none, none] C _
  have pw : CPowW 10 18 := ⟨by decide, by decide, Nat.lt_of_lt_of_le (by decide : (10 : Int).natAbs < 2 ^ 10) (Nat.pow_le_pow_right (by decide) (by decide))⟩
  have e18 : (10 : Int) ^ Int.toNat 18 = 1000000000000000000 := by decide
  have ab : (0 : Int) ≤ 7331 * a * a := Int.mul_nonneg (by omega) (by omega)
  have ac : (7331 : Int) * a * a ≤ 7331 * 100 * 100 := Int.mul_le_mul (by omega) (by omega) (by omega) (by omega)
  refine wss_cons ?_
  have pw3 : ∀ x : Int, CPowW (x % 2147483587 + 7331 * a * a + 211 * a + 5) 3 := fun x => by
    have h1 := Int.emod_nonneg x (show (2147483587 : Int) ≠ 0 by decide)
    have h2 := Int.emod_lt_of_pos x (show (0 : Int) < 2147483587 by decide)
    exact ⟨by omega, by omega, Nat.lt_trans (by omega : (x % 2147483587 + 7331 * a * a + 211 * a + 5).natAbs < 2 ^ 100) (Nat.pow_lt_pow_right (by decide) (by decide))⟩
  have last : ∀ (i : Int) (x : Int) (p : Addr), 0 ≤ i → C p = none → k (.own p) (DL.put C p (.lst [.int i, .int (x % 2147483549), .int 0])) := fun i x p hi hp => by
    have h1 := Int.emod_nonneg x (show (2147483549 : Int) ≠ 0 by decide)
    have h2 := Int.emod_lt_of_pos x (show (0 : Int) < 2147483549 by decide)
    exact h p _ hp ⟨_, _, _, put_same, hi, h1, by omega, by decide, by decide⟩
  walk_at "pyR"
  · rename_i hlt
    have hlt : a < ns.length := by have := dec_t hlt; rw [List.length_map] at this; omega
    refine ix_s (at_map hlt) ?_
    have hp3 := pw3 ns[a]
    walk_at "pyR"
    all_goals refine we_lst ?_
    all_goals walk_at "pyR"
    all_goals intro p hp
    · exact last _ _ p (by split <;> omega) hp
    · exact last _ _ p (by decide) hp
  all_goals have hp3 := pw3 0
  all_goals refine we_lst ?_
  all_goals walk_at "pyR"
  all_goals intro p hp
  · exact last _ _ p (by split <;> omega) hp
  · exact last _ _ p (by decide) hp
end
end K31
namespace K31
section
variable {P : Program} {w : World} {K : PySem.W.Frag} {mg : Str → Option Value} {base : Heap}
theorem cut_list (z : Str) (lo hi : Option Int) : (cutS z lo hi).cps.toList = (z.cps.toList.drop (HT.sIx z.length 0 lo)).take (HT.sIx z.length z.length hi - HT.sIx z.length 0 lo) := rfl
theorem cut_mem {z : Str} {lo hi : Option Int} {c : Nat} (h : c ∈ (cutS z lo hi).cps.toList) : c ∈ z.cps.toList := by
  rw [cut_list] at h
  exact List.mem_of_mem_drop (List.mem_of_mem_take h)
theorem cut_two {z : Str} {i : Int} (h0 : 0 ≤ i) (h1 : i ≤ z.length) : (cutS z none (some i)).length + (cutS z (some i) none).length = z.length := by
  rw [str_len (cutS _ _ _), str_len (cutS _ _ _), cut_list, cut_list]
  have e1 : HT.sIx z.length 0 none = 0 := rfl
  have e2 : HT.sIx z.length z.length none = z.length := rfl
  have e3 : ∀ d, HT.sIx z.length d (some i) = i.toNat := fun d => by
    show (if i < 0 then (i + (z.length : Int)).toNat else min i.toNat z.length) = i.toNat
    rw [if_neg (by omega)]; omega
  rw [e1, e2, e3, e3]
  simp only [List.length_take, List.length_drop, ← str_len]
  omega
theorem app_mem {x y : Str} {c : Nat} (h : c ∈ (x ++ y).cps.toList) : c ∈ x.cps.toList ∨ c ∈ y.cps.toList := by
  rw [str_app] at h
  exact List.mem_append.mp h
theorem app_len (x y : Str) : (x ++ y).length = x.length + y.length := by
  rw [str_len, str_app, List.length_append, ← str_len, ← str_len]
def Lw (z : Str) : Prop := ∀ c ∈ z.cps.toList, 97 ≤ c ∧ c ≤ 122
theorem Lw.app {x y : Str} (h1 : Lw x) (h2 : Lw y) : Lw (x ++ y) := fun c hc => (app_mem hc).elim (h1 c) (h2 c)
theorem Lw.cut {z : Str} (h : Lw z) (lo hi : Option Int) : Lw (cutS z lo hi) := fun c hc => h c (cut_mem hc)
theorem lw_one {j : Nat} (h : j < 26) : Lw ⟨#[97 + j]⟩ := fun c hc => by
  have : c = 97 + j := by simpa using hc
  omega
theorem one_len (c : Nat) : Str.length ⟨#[c]⟩ = 1 := rfl
def nameF (z : Str) (sp fi : Int) : D → D
  | .int j => .str (cutS z none (some sp) ++ ⟨#[97 + ((fi + 3 * j) % 26).toNat]⟩ ++ cutS z (some sp) none)
  | _ => .non
abbrev words : List Str := ["or", "of", "to", "by", "as", "try", "def", "any"]
def wordB : D → Bool
  | .str z => decide (z ∈ words)
  | _ => false
def quF : D → D
  | .str z => .str (z ++ "q")
  | _ => .non
def spNames : DSp := fun ds C k => ∃ (b : Addr) (n : Nat), ds = [.own b, .int 4] ∧ Bag C b n ∧ n + 20 ≤ 1000000 ∧ ∀ l (zs : List Str), zs.length = 4 → (∀ z ∈ zs, Nm z) → Bag (DL.put C b (.lst l)) b (n + 20) → k (.lst (zs.map D.str)) (DL.put C b (.lst l))
theorem ok_names {f : Addr} {fd : FuncData} (F : Fun K "_law_names" "_law_names" s_names f fd) (Z : Zs mg) (h1 : FnC P w K mg base "_law_draw" 1 spDraw) : FnG P w K mg base CX0 2 f fd P_names (toSp K spNames) := by
  refine fnX F sc_names v_names l_names g_names (fun ds C k h => by obtain ⟨_, _, rfl, _⟩ := h; rfl) fun X hB ds C k h => ?_
  obtain ⟨b, n, rfl, hBag, hn6, h⟩ := h
  obtain ⟨hx, hn, hs, hg, hd, hnox⟩ := hB
  change WSs X _ [some (.own b), some (.int 4), none, none, none, none, none, none, none, none, none] C _
  obtain ⟨l0, hl0⟩ := hBag.some
  obtain ⟨S, hS⟩ : ∃ S : List D → CS, S = fun l => DL.put C b (.lst l) := ⟨_, rfl⟩
  have S0 : C = S l0 := by rw [hS]; simp only; rw [put_self hl0]
  have S2 : ∀ l l', DL.put (S l) b (.lst l') = S l' := fun l l' => by rw [hS]; simp only; rw [put_put]
  have hk : ∀ l (zs : List Str), zs.length = 4 → (∀ z ∈ zs, Nm z) → Bag (S l) b (n + 20) → k (.lst (zs.map D.str)) (S l) := by rw [hS]; exact h
  have draw : ∀ {l : List D} {n' : Nat} {mm : Int} {kk : KD}, Bag (S l) b n' → n' ≤ 1000000 → 1 ≤ mm → mm < 1000000 → (∀ r l', 0 ≤ r → r < mm → Bag (S l') b (n' + 1) → kk (.int r) (S l')) → spDraw [.own b, .int mm] (S l) kk :=
    fun {l n' mm kk} hB h1 h2 h3 hk => ⟨b, n', mm, rfl, hB, h1, h2, h3, fun r l' r0 r1 hB' => by rw [S2] at hB' ⊢; exact hk r l' r0 r1 hB'⟩
  have B0 : Bag (S l0) b n := by rw [← S0]; exact hBag
  rw [S0]
  clear h hS S0
  refine wss_cons ?_
  walk_at "pyA"
  refine draw B0 (by omega) (by omega) (by omega) fun r l1 r0 r1 hB1 => ?_
  have hz : ∃ sz : Nat, atI [D.int 0, .int 0, .int 1, .int 2, .int 7] r = some (.int sz) ∧ sz ≤ 7 := by
    rcases (by omega : r = 0 ∨ r = 1 ∨ r = 2 ∨ r = 3 ∨ r = 4) with rfl | rfl | rfl | rfl | rfl
    · exact ⟨0, rfl, by decide⟩
    · exact ⟨0, rfl, by decide⟩
    · exact ⟨1, rfl, by decide⟩
    · exact ⟨2, rfl, by decide⟩
    · exact ⟨7, rfl, by decide⟩
  obtain ⟨sz, hz, z7⟩ := hz
  refine ix_f hz ?_
  walk_at "pyA"
  refine draw hB1 (by omega) (by omega) (by omega) fun fi l2 f0 f1 hB2 => ?_
  walk_at "pyA"
  refine x_for hx hnox (x_range1 hx Z (by walk_at "gl") ?_)
  walk_at "pyA"
  refine ⟨sz, rfl, by omega, by omega, ?_⟩
  refine ⟨fun i env C' => ∃ (l : List D) (z : Str) (o1 : Option D), C' = S l ∧ Bag (S l) b (n + 2 + i) ∧ env = [some (.own b), some (.int 4), some (.str abc), some (.str z), o1, none, none, some (.int sz), some (.int fi), none, none] ∧ Lw z ∧ z.length = i,
    ⟨l2, "", none, rfl, hB2.mono (by omega), rfl, fun c hc => absurd hc (by rw [show ("" : Str).cps.toList = [] by decide +kernel]; simp), rfl⟩, fun _ _ _ _ => trivial, ?_, ?_⟩
  · rintro i d env C1 hd' ⟨l, z, o1, rfl, hB3, rfl, hLw, hlz⟩
    obtain ⟨hi, rfl⟩ := intsFrom_get hd'
    have hi : i < sz := by simpa using hi
    walk_at "pyA"
    refine draw hB3 (by omega) (by omega) (by omega) fun r' l3 r0' r1' hB4 => ?_
    refine ix_z (by rw [abc_len]; decide) (abc_ix r0' r1') ?_
    walk_at "pyA"
    refine add_ss (by rw [one_len]; exact Nat.le_trans (by omega : z.length + 1 ≤ 100) (by decide)) ?_
    walk_at "pyA"
    exact ⟨l3, _, _, rfl, hB4.mono (by omega), rfl, hLw.app (lw_one (by omega)), by rw [app_len, one_len, hlz]⟩
  · rintro env C1 ⟨l, z, o1, rfl, hB3, rfl, hLw, hlz⟩
    rw [intsFrom_length] at hB3 hlz
    have hlz : z.length = sz := by simpa using hlz
    have hB3 : Bag (S l) b (n + 2 + sz) := by simpa using hB3
    walk_at "pyA"
    refine draw hB3 (by omega) (by omega) (by omega) fun sp l4 s0 s1 hB4 => ?_
    walk_at "pyA"
    refine ws_lc1 (M0 := []) ["_law_k", "_law_stem", "_law_letters", "_law_spot", "_law_first"] [] hd (by walk_at "nm") (by decide +kernel) (by walk_at "nm") (by decide +kernel) (by decide +kernel) (by decide +kernel) (by decide +kernel) ((sww_env hd.sc _ _ _).trans (by rfl)) (x_range1 hx Z (by walk_at "gl") ?_)
    walk_at "pyA"
    refine ⟨4, rfl, by omega, by omega, ?_⟩
    refine LcB.map (nameF z sp fi) trivial (by rw [intsFrom_length]; decide) ?_ fun p hp => ?_
    · intro d hdm X' hX hn' hg'
      have hx' := hx.blk hX
      obtain ⟨i, hi⟩ := List.getElem?_of_mem hdm
      obtain ⟨hi, rfl⟩ := intsFrom_get hi
      have l1 : z.length ≤ sizeLine := Nat.le_trans (by omega : z.length ≤ 1000) (by decide)
      have c2 := cut_two (z := z) s0 (by omega)
      have e0 := Int.emod_nonneg (fi + 3 * (0 + (i : Int))) (show (26 : Int) ≠ 0 by decide)
      have e1 := Int.emod_lt_of_pos (fi + 3 * (0 + (i : Int))) (show (0 : Int) < 26 by decide)
      walk_at "pyA"
      refine ix_z (by rw [abc_len]; decide) (abc_ix e0 e1) ?_
      refine addA_ss (by rw [one_len]; exact Nat.le_trans (by omega) (by decide : 1000 ≤ sizeLine)) ?_
      walk_at "pyA"
      refine addA_ss (by rw [app_len, one_len]; exact Nat.le_trans (by omega) (by decide : 1000 ≤ sizeLine)) ?_
      exact ⟨rfl, rfl⟩
    · refine wss_frzI 6 (p := p) rfl put_same ?_
      dsimp only [List.set]
      rw [del_put hp]
      obtain ⟨zs, ezs, hzl, hzN, hzlen⟩ : ∃ zs : List Str, (intsFrom 0 (4 : Int).toNat).map (nameF z sp fi) = zs.map D.str ∧ zs.length = 4 ∧ (∀ y ∈ zs, Lw y) ∧ ∀ y ∈ zs, y.length = sz + 1 := by
        refine ⟨(List.range 4).map fun i => cutS z none (some sp) ++ ⟨#[97 + ((fi + 3 * (0 + ((i : Nat) : Int))) % 26).toNat]⟩ ++ cutS z (some sp) none, ?_, by rw [List.length_map, List.length_range], fun y hy => ?_, fun y hy => ?_⟩
        · unfold DL.intsFrom
          rw [List.map_map, List.map_map]
          rfl
        · obtain ⟨i, _, rfl⟩ := List.mem_map.mp hy
          have e0 := Int.emod_nonneg (fi + 3 * (0 + (i : Int))) (show (26 : Int) ≠ 0 by decide)
          have e1 := Int.emod_lt_of_pos (fi + 3 * (0 + (i : Int))) (show (0 : Int) < 26 by decide)
          exact ((hLw.cut _ _).app (lw_one (by omega))).app (hLw.cut _ _)
        · obtain ⟨i, _, rfl⟩ := List.mem_map.mp hy
          have c2 := cut_two (z := z) s0 (by omega)
          rw [app_len, app_len, one_len]
          omega
      rw [ezs]
      have hz1000 : (zs.map D.str).length ≤ sizeLine := by rw [List.length_map, hzl]; decide
      walk_at "pyA"
      refine we_fa (lc1 ["_law_name"] [] hd (by walk_at "nm") (by decide +kernel) (by decide +kernel) (by decide +kernel) (by decide +kernel) (wi_list ?_))
      walk_at "pyA"
      refine ⟨_, rfl, LcB.map (fun d => .bl (wordB d)) trivial hz1000 ?_ fun p hp => fa_put hp ?_⟩
      · intro d hdm X' hX hn' hg'
        have hx' := hx.blk hX
        obtain ⟨y, hy, rfl⟩ := List.mem_map.mp hdm
        walk_at "pyA"
        refine in_tup (zs := words) rfl ?_
        exact ⟨rfl, rfl⟩
      · walk_at "pyA"
        refine any_map (f := wordB) ?_
        walk_at "pyA"
        · rename_i hany
          refine ws_lc1 (M0 := []) ["_law_name"] [] hd (by walk_at "nm") (by decide +kernel) (by walk_at "nm") (by decide +kernel) (by decide +kernel) (by decide +kernel) (by decide +kernel) ((sww_env hd.sc _ _ _).trans (by rfl)) (wi_list ?_)
          walk_at "pyA"
          refine ⟨_, rfl, LcB.map quF trivial hz1000 ?_ fun p2 hp2 => ?_⟩
          · intro d hdm X' hX hn' hg'
            have hx' := hx.blk hX
            obtain ⟨y, hy, rfl⟩ := List.mem_map.mp hdm
            have := hzlen y hy
            walk_at "pyA"
            refine addA_ss (Nat.le_trans (by rw [show ("q" : Str).length = 1 by decide +kernel]; omega : y.length + ("q" : Str).length ≤ 1000) (by decide)) ?_
            exact ⟨rfl, rfl⟩
          · refine wss_frzI 6 (p := p2) rfl put_same ?_
            dsimp only [List.set]
            rw [del_put hp2]
            walk_at "pyA"
            have h3 : sz + 1 ≤ 3 := by
              obtain ⟨d, hd1, hd2⟩ := List.any_eq_true.mp hany
              obtain ⟨y, hy, rfl⟩ := List.mem_map.mp hd1
              have hy2 : y ∈ words := of_decide_eq_true hd2
              have : ∀ y ∈ words, Str.length y ≤ 3 := by decide +kernel
              have := this y hy2
              have := hzlen y hy
              omega
            have := hk l4 (zs.map fun y => y ++ "q") (by rw [List.length_map, hzl]) (fun y hy => ?_) (hB4.mono (by omega))
            · rw [List.map_map] at this ⊢
              exact this
            · obtain ⟨y', hy', rfl⟩ := List.mem_map.mp hy
              have e1 : ("q" : Str).length = 1 := by decide +kernel
              refine ⟨by rw [app_len, e1]; omega, by rw [app_len, e1, hzlen y' hy']; omega, (hzN y' hy').app fun c hc => ?_⟩
              rw [show ("q" : Str).cps.toList = [113] by decide +kernel] at hc
              rw [List.mem_singleton.mp hc]; omega
        · exact hk l4 zs hzl (fun y hy => ⟨by rw [hzlen y hy]; omega, by rw [hzlen y hy]; omega, hzN y hy⟩) (hB4.mono (by omega))
/-! texts -/
theorem stripped_cases (x y : Str) : Txt.stripChars x y = x ∨ ∃ i j, Txt.stripChars x y = Builtin.Str.strSub x i j := by
  unfold Txt.stripChars Txt.stripBy
  split
  · exact .inl rfl
  · exact .inr ⟨_, _, rfl⟩
theorem stripped_mem {x y : Str} {c : Nat} (h : c ∈ (Txt.stripChars x y).cps.toList) : c ∈ x.cps.toList := by
  rcases stripped_cases x y with e | ⟨i, j, e⟩
  · rw [e] at h; exact h
  · rw [e, StrLaws.strSub_toList] at h
    exact List.mem_of_mem_drop (List.mem_of_mem_take h)
theorem stripped_len (x y : Str) : (Txt.stripChars x y).length ≤ x.length := by
  rcases stripped_cases x y with e | ⟨i, j, e⟩
  · rw [e]; exact Nat.le_refl _
  · rw [e, str_len, StrLaws.strSub_toList, str_len, List.length_take, List.length_drop]
    omega
theorem at_anyN {xs : List Nat} {r : Int} (h0 : 0 ≤ r) (h1 : r < (xs.length : Nat)) : ∃ d ∈ xs, atI xs r = some d := by
  have hl : r.toNat < xs.length := by omega
  refine ⟨xs[r.toNat], List.getElem_mem hl, ?_⟩
  unfold atI ixN
  rw [if_pos h0, if_pos h1]
  exact List.getElem?_eq_getElem hl
/-- signs of a line -/
def Sg (z : Str) : Prop := ∀ c ∈ z.cps.toList, c < 128 ∧ c ≠ 10
theorem Sg.app {x y : Str} (h1 : Sg x) (h2 : Sg y) : Sg (x ++ y) := fun c hc => (app_mem hc).elim (h1 c) (h2 c)
abbrev sgs : Str := "ab:#> +=|.'\"([{x0"
theorem sgs_len : sgs.length = 17 := by decide +kernel
theorem sgs_ok : ∀ c ∈ sgs.cps.toList, c < 128 ∧ c ≠ 10 := by decide +kernel
theorem sg_nil : Sg "" := fun c hc => absurd hc (by rw [show ("" : Str).cps.toList = [] by decide +kernel]; simp)
def spText : DSp := fun ds C k => ∃ (b : Addr) (n : Nat), ds = [.own b, .int 6] ∧ Bag C b n ∧ n + 20 ≤ 1000000 ∧ ∀ l z, Sg z → z.length ≤ 6 → Bag (DL.put C b (.lst l)) b (n + 7) → k (.str z) (DL.put C b (.lst l))
theorem ok_text {f : Addr} {fd : FuncData} (F : Fun K "_law_text" "_law_text" s_text f fd) (Z : Zs mg) (h1 : FnC P w K mg base "_law_draw" 1 spDraw) : FnG P w K mg base CX0 2 f fd P_text (toSp K spText) := by
  refine fnX F sc_text v_text l_text g_text (fun ds C k h => by obtain ⟨_, _, rfl, _⟩ := h; rfl) fun X hB ds C k h => ?_
  obtain ⟨b, n, rfl, hBag, hn6, h⟩ := h
  obtain ⟨hx, hn, hs, hg, hd, hnox⟩ := hB
  change WSs X _ [some (.own b), some (.int 6), none, none, none] C _
  obtain ⟨l0, hl0⟩ := hBag.some
  obtain ⟨S, hS⟩ : ∃ S : List D → CS, S = fun l => DL.put C b (.lst l) := ⟨_, rfl⟩
  have S0 : C = S l0 := by rw [hS]; simp only; rw [put_self hl0]
  have S2 : ∀ l l', DL.put (S l) b (.lst l') = S l' := fun l l' => by rw [hS]; simp only; rw [put_put]
  have hk : ∀ l z, Sg z → z.length ≤ 6 → Bag (S l) b (n + 7) → k (.str z) (S l) := by rw [hS]; exact h
  have draw : ∀ {l : List D} {n' : Nat} {mm : Int} {kk : KD}, Bag (S l) b n' → n' ≤ 1000000 → 1 ≤ mm → mm < 1000000 → (∀ r l', 0 ≤ r → r < mm → Bag (S l') b (n' + 1) → kk (.int r) (S l')) → spDraw [.own b, .int mm] (S l) kk :=
    fun {l n' mm kk} hB h1 h2 h3 hk => ⟨b, n', mm, rfl, hB, h1, h2, h3, fun r l' r0 r1 hB' => by rw [S2] at hB' ⊢; exact hk r l' r0 r1 hB'⟩
  have B0 : Bag (S l0) b n := by rw [← S0]; exact hBag
  rw [S0]
  clear h hS S0
  refine wss_cons ?_
  walk_at "pyA"
  refine x_for hx hnox (x_range1 hx Z (by walk_at "gl") ?_)
  walk_at "pyA"
  refine draw B0 (by omega) (by omega) (by omega) fun m l1 m0 m1 hB1 => ?_
  walk_at "pyA"
  refine ⟨m, rfl, by omega, by omega, ?_⟩
  refine ⟨fun i env C' => ∃ (l : List D) (z : Str) (o1 : Option D), C' = S l ∧ Bag (S l) b (n + 1 + i) ∧ env = [some (.own b), some (.int 6), some (.str sgs), some (.str z), o1] ∧ Sg z ∧ z.length = i,
    ⟨l1, "", none, rfl, hB1, rfl, sg_nil, rfl⟩, fun _ _ _ _ => trivial, ?_, ?_⟩
  · rintro i d env C1 hd' ⟨l, z, o1, rfl, hB3, rfl, hLw, hlz⟩
    obtain ⟨hi, rfl⟩ := intsFrom_get hd'
    walk_at "pyA"
    have e17 : (sgs.length : Int) = 17 := by rw [sgs_len]; rfl
    refine draw hB3 (by omega) (by rw [e17]; decide) (by rw [e17]; decide) fun r' l3 r0' r1' hB4 => ?_
    obtain ⟨c, hcm, hc⟩ := at_anyN (xs := sgs.cps.toList) r0' (by rw [← str_len]; exact r1')
    refine ix_z (by rw [sgs_len]; decide) hc ?_
    refine addA_ss (by rw [one_len]; exact Nat.le_trans (by omega : z.length + 1 ≤ 1000) (by decide)) ?_
    walk_at "pyA"
    refine ⟨l3, _, _, rfl, hB4.mono (by omega), rfl, hLw.app fun c' hc' => ?_, by rw [app_len, one_len, hlz]⟩
    have : c' = c := by simpa using hc'
    rw [this]
    exact sgs_ok c hcm
  · rintro env C1 ⟨l, z, o1, rfl, hB3, rfl, hLw, hlz⟩
    rw [intsFrom_length] at hB3 hlz
    have z1000 : z.length ≤ sizeLine := Nat.le_trans (by omega : z.length ≤ 1000) (by decide)
    walk_at "pyA"
    refine x_stripC ?_
    walk_at "pyA"
    refine ⟨z, _, rfl, rfl, z1000, ?_⟩
    exact hk l _ (fun c hc => hLw c (stripped_mem hc)) (Nat.le_trans (stripped_len _ _) (by omega)) (hB3.mono (by omega))
theorem sp_ok : ∀ r : Int, 0 ≤ r → r < 3 → MulOk " " r ∧ (Txt.mul " " r).length ≤ 2 ∧ ∀ c ∈ (Txt.mul " " r).cps.toList, c < 128 ∧ c ≠ 10 := by
  intro r h0 h1
  rcases (by omega : r = 0 ∨ r = 1 ∨ r = 2) with rfl | rfl | rfl <;> (unfold MulOk; decide +kernel)
def spLines : DSp := fun ds C k => ∃ (b : Addr) (n : Nat), ds = [.own b] ∧ Bag C b n ∧ n + 100 ≤ 1000000 ∧ ∀ l p (zs : List Str), zs.length ≤ 5 → (∀ z ∈ zs, Ln z) → DL.put C b (.lst l) p = none → Bag (DL.put C b (.lst l)) b (n + 60) → k (.own p) (DL.put (DL.put C b (.lst l)) p (.lst (zs.map D.str)))
theorem ok_lines {f : Addr} {fd : FuncData} (F : Fun K "_law_lines" "_law_lines" s_lines f fd) (Z : Zs mg) (h1 : FnC P w K mg base "_law_draw" 1 spDraw) (h2 : FnC P w K mg base "_law_text" 2 spText) : FnG P w K mg base CX0 3 f fd P_lines (toSp K spLines) := by
  refine fnX F sc_lines v_lines l_lines g_lines (fun ds C k h => by obtain ⟨_, _, rfl, _⟩ := h; rfl) fun X hB ds C k h => ?_
  obtain ⟨b, n, rfl, hBag, hn6, h⟩ := h
  obtain ⟨hx, hn, hs, hg, hd, hnox⟩ := hB
  change WSs X _ [some (.own b), none, none] C _
  refine wss_cons ?_
  walk_at "py"
  refine we_nil fun p hp => ?_
  walk_at "py"
  have hbp : b ≠ p := hBag.ne hp
  obtain ⟨l0, hl0⟩ := hBag.some
  obtain ⟨S, hS⟩ : ∃ S : List D → List D → CS, S = fun l zs => DL.put (DL.put C b (.lst l)) p (.lst zs) := ⟨_, rfl⟩
  have S0 : DL.put C p (.lst []) = S l0 [] := by rw [hS]; simp only; rw [put_self hl0]
  have S1 : ∀ l zs, S l zs p = some (.lst zs) := fun l zs => by rw [hS]; exact put_same
  have S2 : ∀ l l' zs, DL.put (S l zs) b (.lst l') = S l' zs := fun l l' zs => by rw [hS]; simp only; rw [put_comm hbp.symm, put_put]
  have S3 : ∀ l zs zs', DL.put (S l zs) p (.lst zs') = S l zs' := fun l zs zs' => by rw [hS]; exact put_put
  have SB : ∀ l zs zs', S l zs b = S l zs' b := fun l zs zs' => by rw [hS]; simp only; rw [put_ne hbp, put_ne hbp]
  have hk : ∀ l (zs : List Str), zs.length ≤ 5 → (∀ z ∈ zs, Ln z) → Bag (S l (zs.map D.str)) b (n + 60) → k (.own p) (S l (zs.map D.str)) := by
    rw [hS]
    intro l zs z1 z2 z3
    have e1 : DL.put C b (.lst l) p = none := by rw [put_ne hbp.symm]; exact hp
    exact h l p zs z1 z2 e1 (z3.of (by show _ = DL.put (DL.put C b (.lst l)) p (.lst _) b; rw [put_ne hbp]) (Nat.le_refl _))
  have draw : ∀ {l zs : List D} {n' : Nat} {mm : Int} {kk : KD}, Bag (S l zs) b n' → n' ≤ 1000000 → 1 ≤ mm → mm < 1000000 → (∀ r l', 0 ≤ r → r < mm → Bag (S l' zs) b (n' + 1) → kk (.int r) (S l' zs)) → spDraw [.own b, .int mm] (S l zs) kk :=
    fun {l zs n' mm kk} hB h1 h2 h3 hk => ⟨b, n', mm, rfl, hB, h1, h2, h3, fun r l' r0 r1 hB' => by rw [S2] at hB' ⊢; exact hk r l' r0 r1 hB'⟩
  have text : ∀ {l zs : List D} {n' : Nat} {kk : KD}, Bag (S l zs) b n' → n' + 20 ≤ 1000000 → (∀ l' z, Sg z → z.length ≤ 6 → Bag (S l' zs) b (n' + 7) → kk (.str z) (S l' zs)) → spText [.own b, .int 6] (S l zs) kk :=
    fun {l zs n' kk} hB h1 hk => ⟨b, n', rfl, hB, h1, fun l' z z1 z2 hB' => by rw [S2] at hB' ⊢; exact hk l' z z1 z2 hB'⟩
  have B0 : Bag (S l0 []) b n := by rw [← S0]; exact hBag.put hbp
  rw [S0]
  clear h hS S0
  refine x_for hx hnox (x_range1 hx Z (by walk_at "gl") ?_)
  walk_at "py"
  refine draw B0 (by omega) (by omega) (by omega) fun m l1 m0 m1 hB1 => ?_
  walk_at "py"
  refine ⟨m, rfl, by omega, by omega, ?_⟩
  refine ⟨fun i env C' => ∃ (l : List D) (zs : List Str) (o1 : Option D), C' = S l (zs.map D.str) ∧ Bag C' b (n + 1 + 9 * i) ∧ env = [some (.own b), some (.own p), o1] ∧ zs.length = i ∧ ∀ z ∈ zs, Ln z,
    ⟨l1, [], none, rfl, hB1, rfl, rfl, fun z hz => by simp at hz⟩, fun _ _ _ _ => trivial, ?_, ?_⟩
  · rintro i d env C1 hd' ⟨l, zs, o1, rfl, hB3, rfl, hzl, hzs⟩
    obtain ⟨hi, rfl⟩ := intsFrom_get hd'
    have h5 : zs.length < 5 := by omega
    walk_at "py"
    refine ty_own (S1 _ _) ?_
    walk_at "pyA"
    refine draw hB3 (by omega) (by omega) (by omega) fun r1' l3 r10 r11 hB4 => ?_
    obtain ⟨u1, u2, u3⟩ := sp_ok r1' r10 r11
    refine mul_s u1 ?_
    walk_at "pyA"
    refine text hB4 (by omega) fun l4 z zs1 z6 hB5 => ?_
    refine addA_ss (Nat.le_trans (by omega : _ ≤ 1000) (by decide)) ?_
    walk_at "pyA"
    refine draw hB5 (by omega) (by omega) (by omega) fun r2' l5 r20 r21 hB6 => ?_
    obtain ⟨v1, v2, v3⟩ := sp_ok r2' r20 (by omega)
    refine mul_s v1 ?_
    refine addA_ss (by rw [app_len]; exact Nat.le_trans (by omega : _ ≤ 1000) (by decide)) ?_
    refine app_ok (S1 _ _) (by rw [List.length_map]; exact Nat.lt_of_lt_of_le (by omega : zs.length < 100) (by decide)) ?_
    rw [S3]
    walk_at "pyA"
    refine ⟨l5, zs ++ [_], _, by rw [List.map_append]; rfl, ?_, rfl, by rw [List.length_append, hzl]; rfl, fun y hy => ?_⟩
    · have : S l5 (zs.map D.str ++ [D.str (Txt.mul " " r1' ++ z ++ Txt.mul " " r2')]) b = S l5 (zs.map D.str) b := SB _ _ _
      exact hB6.of this (by omega)
    · rcases List.mem_append.mp hy with hy | hy
      · exact hzs y hy
      · rw [List.mem_singleton.mp hy]
        refine ⟨by rw [app_len, app_len]; omega, ?_⟩
        exact (Sg.app (x := Txt.mul " " r1') u3 zs1).app v3
  · rintro env C1 ⟨l, zs, o1, rfl, hB3, rfl, hzl, hzs⟩
    rw [intsFrom_length] at hB3 hzl
    walk_at "pyA"
    exact hk l zs (by omega) hzs (hB3.mono (by omega))
end
end K31
namespace K31
section
variable {P : Program} {w : World} {K : PySem.W.Frag} {mg : Str → Option Value} {base : Heap} {Cl : Addr}
/-- files with what is told of each -/
def getM {α : Type} (m : List (Str × α)) (s : Str) : Option α := (m.find? fun e => decide (e.1 = s)).map (·.2)
def putM {α : Type} (m : List (Str × α)) (s : Str) (x : α) : List (Str × α) := if (m.any fun e => decide (e.1 = s)) = true then m.map (fun e => if e.1 = s then (e.1, x) else e) else m ++ [(s, x)]
def dropM {α : Type} (m : List (Str × α)) (s : Str) : List (Str × α) := m.filter fun e => decide (e.1 ≠ s)
def mkD {α : Type} (f : α → D) (m : List (Str × α)) : List (Key × D) := m.map fun e => (Sum.inr e.1, f e.2)
theorem valD_mk {α : Type} {f : α → D} (s : Str) : ∀ m : List (Str × α), valD (mkD f m) (Sum.inr s) = (getM m s).map f
  | [] => rfl
  | (t, x) :: m => by
    have ih := valD_mk (f := f) s m
    unfold valD getM mkD at *
    rw [List.map_cons, List.find?_cons, List.find?_cons]
    by_cases h : t = s
    · subst h; simp
    · have h' : ¬ ((Sum.inr t : Key) = Sum.inr s) := fun e => h (Sum.inr.inj e)
      simp only [h, h', decide_false]
      exact ih
theorem any_mk {α : Type} {f : α → D} (s : Str) : ∀ m : List (Str × α), ((mkD f m).any fun kv => decide (kv.1 = Sum.inr s)) = m.any fun e => decide (e.1 = s)
  | [] => rfl
  | (t, x) :: m => by
    have ih := any_mk (f := f) s m
    unfold mkD at *
    rw [List.map_cons, List.any_cons, List.any_cons, ih]
    congr 1
    by_cases h : t = s
    · subst h; simp
    · have h' : ¬ ((Sum.inr t : Key) = Sum.inr s) := fun e => h (Sum.inr.inj e)
      simp [h, h']
theorem putD_mk {α : Type} {f : α → D} (s : Str) (x : α) (m : List (Str × α)) : putD (mkD f m) (Sum.inr s) (f x) = mkD f (putM m s x) := by
  unfold putD putM
  rw [any_mk]
  split
  · unfold mkD
    rw [List.map_map, List.map_map]
    refine List.map_congr_left fun e _ => ?_
    by_cases h : e.1 = s
    · simp [h]
    · have h' : ¬ ((Sum.inr e.1 : Key) = Sum.inr s) := fun e' => h (Sum.inr.inj e')
      simp [h, h']
  · unfold mkD
    rw [List.map_append]
    rfl
theorem dropD_mk {α : Type} {f : α → D} (s : Str) : ∀ m : List (Str × α), dropD (mkD f m) (Sum.inr s) = mkD f (dropM m s)
  | [] => rfl
  | (t, x) :: m => by
    have ih := dropD_mk (f := f) s m
    unfold dropD dropM mkD at *
    rw [List.map_cons]
    by_cases h : t = s
    · rw [List.filter_cons_of_neg (by simp [h]), List.filter_cons_of_neg (by simp [h])]; exact ih
    · have h' : ¬ ((Sum.inr t : Key) = Sum.inr s) := fun e => h (Sum.inr.inj e)
      rw [List.filter_cons_of_pos (by simpa using h'), List.filter_cons_of_pos (by simpa using h), List.map_cons, ih]
theorem keys_mk {α : Type} {f : α → D} (m : List (Str × α)) : (mkD f m).map (·.1) = (m.map (·.1)).map Sum.inr := by
  unfold mkD
  rw [List.map_map, List.map_map]
  rfl
theorem len_mk {α : Type} {f : α → D} (m : List (Str × α)) : (mkD f m).length = m.length := by simp [mkD]
theorem getM_put {α : Type} {s : Str} {x : α} : ∀ {m : List (Str × α)}, getM (putM m s x) s = some x := by
  intro m
  unfold putM
  split
  · rename_i h
    induction m with
    | nil => simp at h
    | cons e m ih =>
      unfold getM at *
      rw [List.map_cons, List.find?_cons]
      by_cases he : e.1 = s
      · simp [he]
      · simp only [he, if_false, decide_false]
        exact ih (by rw [List.any_cons] at h; simpa [he] using h)
  · rename_i h
    unfold getM
    rw [List.find?_append]
    have : m.find? (fun e => decide (e.1 = s)) = none := by
      rw [List.find?_eq_none]
      intro e he hd
      exact h (List.any_eq_true.mpr ⟨e, he, hd⟩)
    rw [this]
    simp
theorem getM_put_ne {α : Type} {s t : Str} {x : α} (ht : t ≠ s) : ∀ {m : List (Str × α)}, getM (putM m s x) t = getM m t := by
  intro m
  unfold putM
  split <;> rename_i h
  · clear h
    induction m with
    | nil => rfl
    | cons e m ih =>
      unfold getM at *
      rw [List.map_cons, List.find?_cons, List.find?_cons]
      by_cases he : e.1 = s
      · have : ¬ e.1 = t := fun z => ht (z.symm.trans he)
        simp only [he, if_true, this, decide_false]
        have h2 : ¬ s = t := fun z => ht z.symm
        simp only [h2, decide_false]
        exact ih
      · simp only [he, if_false]
        by_cases h2 : e.1 = t
        · simp [h2]
        · simp only [h2, decide_false]
          exact ih
  · unfold getM
    rw [List.find?_append]
    have h2 : ¬ s = t := fun z => ht z.symm
    simp [h2]
theorem getM_drop {α : Type} {s t : Str} : ∀ {m : List (Str × α)}, getM (dropM m s) t = if t = s then none else getM m t := by
  intro m
  induction m with
  | nil => simp [getM, dropM]
  | cons e m ih =>
    unfold getM dropM at *
    by_cases he : e.1 = s
    · rw [List.filter_cons_of_neg (by simp [he]), ih, List.find?_cons]
      by_cases ht : t = s
      · simp [ht]
      · have : ¬ e.1 = t := fun z => ht (z.symm.trans he)
        simp [ht, this]
    · rw [List.filter_cons_of_pos (by simpa using he), List.find?_cons, List.find?_cons]
      by_cases h2 : e.1 = t
      · have : ¬ t = s := fun z => he (h2.trans z)
        simp [h2, this]
      · simp only [h2, decide_false]
        exact ih
theorem keys_put {α : Type} {s : Str} {x : α} {m : List (Str × α)} : (putM m s x).map (·.1) = if s ∈ m.map (·.1) then m.map (·.1) else m.map (·.1) ++ [s] := by
  have e : (m.any fun e => decide (e.1 = s)) = decide (s ∈ m.map (·.1)) := by
    rw [Bool.eq_iff_iff, List.any_eq_true, decide_eq_true_iff, List.mem_map]
    exact ⟨fun ⟨y, h1, h2⟩ => ⟨y, h1, of_decide_eq_true h2⟩, fun ⟨y, h1, h2⟩ => ⟨y, h1, decide_eq_true h2⟩⟩
  unfold putM
  rw [e]
  by_cases h : s ∈ m.map (·.1)
  · rw [if_pos (decide_eq_true h), if_pos h, List.map_map]
    refine List.map_congr_left fun y _ => ?_
    show (if y.1 = s then (y.1, x) else y).1 = y.1
    split <;> rfl
  · rw [if_neg (by simpa using h), if_neg h, List.map_append]; rfl
theorem keys_drop {α : Type} {s : Str} : ∀ {m : List (Str × α)}, (dropM m s).map (·.1) = (m.map (·.1)).filter fun t => decide (t ≠ s)
  | [] => rfl
  | e :: m => by
    have ih := keys_drop (s := s) (m := m)
    unfold dropM at *
    rw [List.map_cons]
    by_cases he : e.1 = s
    · rw [List.filter_cons_of_neg (by simp [he]), List.filter_cons_of_neg (by simp [he]), ih]
    · rw [List.filter_cons_of_pos (by simpa using he), List.filter_cons_of_pos (by simpa using he), List.map_cons, ih]
/-- what the machine knows of sources: the files with their lines, the counts -/
def tupF (zs : List Str) : D := .tup (zs.map D.str)
def lstF (zs : List Str) : D := .lst (zs.map D.str)
structure Src (Cl p a b : Addr) (m : List (Str × List Str)) (cs : List (Str × Int)) (C : CS) : Prop where
  ho : C p = some (.ins Cl ["present", "counts"] [.own a, .own b])
  ha : C a = some (.dic (mkD tupF m))
  hb : C b = some (.dic (mkD D.int cs))
  ab : a ≠ b
theorem Src.pa {p a b : Addr} {m : List (Str × List Str)} {cs : List (Str × Int)} {C : CS} (h : Src Cl p a b m cs C) : p ≠ a := fun e => by have := h.ho; rw [e, h.ha] at this; cases this
theorem Src.pb {p a b : Addr} {m : List (Str × List Str)} {cs : List (Str × Int)} {C : CS} (h : Src Cl p a b m cs C) : p ≠ b := fun e => by have := h.ho; rw [e, h.hb] at this; cases this
theorem Src.ins {p a b : Addr} {m : List (Str × List Str)} {cs : List (Str × Int)} {C : CS} (h : Src Cl p a b m cs C) : insD C (.own p) = some (Cl, (["present", "counts"] : List Str), ([.own a, .own b] : List D)) := insD_own h.ho
theorem Src.put {p a b q : Addr} {m : List (Str × List Str)} {cs : List (Str × Int)} {C : CS} {c : Cell} (h : Src Cl p a b m cs C) (h1 : p ≠ q) (h2 : a ≠ q) (h3 : b ≠ q) : Src Cl p a b m cs (DL.put C q c) :=
  ⟨by rw [put_ne h1]; exact h.ho, by rw [put_ne h2]; exact h.ha, by rw [put_ne h3]; exact h.hb, h.ab⟩
theorem Src.ne {p a b q : Addr} {m : List (Str × List Str)} {cs : List (Str × Int)} {C : CS} (h : Src Cl p a b m cs C) (hq : C q = none) : p ≠ q ∧ a ≠ q ∧ b ≠ q := ⟨cell_ne h.ho hq, cell_ne h.ha hq, cell_ne h.hb hq⟩
/-- what the text says of the class -/
structure Txc (K : PySem.W.Frag) (Cl : Addr) : Prop where
  f1 : FldC K Cl "present"
  f2 : FldC K Cl "counts"
theorem fg1 {a b : D} : FGet ["present", "counts"] [a, b] "present" a := .here _ _ _ _
theorem fg2 {a b : D} : FGet ["present", "counts"] [a, b] "counts" b := .there (by decide +kernel) (.here _ _ _ _)
def spInit (Cl : Addr) : DSp := fun ds C k => ∃ p, ds = [.own p] ∧ C p = some (.ins Cl [] []) ∧ ∀ C' a b, Src Cl p a b [] [] C' → C a = none → C b = none → (∀ q, q ≠ p → C q ≠ none → C' q = C q) → k .non C'
theorem ok_init {f : Addr} {fd : FuncData} (F : Fun K "__init__" "Sources.__init__" s_Sources___init__ f fd) (T : Txc K Cl) : FnG P w K mg base CX0 1 f fd P_Sources___init__ (toSp K (spInit Cl)) := by
  refine fnX F sc_Sources___init__ v_Sources___init__ l_Sources___init__ g_Sources___init__ (fun ds C k h => by obtain ⟨_, rfl, _⟩ := h; rfl) fun X hB ds C k h => ?_
  obtain ⟨p, rfl, hp, h⟩ := h
  obtain ⟨hx, hn, hs, hg, hd, hnox⟩ := hB
  change WSs X _ [some (.own p)] C _
  refine wss_cons ?_
  walk_at "pyC"
  intro a ha
  have hpa : p ≠ a := cell_ne hp ha
  walk_at "pyC"
  refine ⟨p, Cl, [], [], ["present"], [.own a], rfl, by rw [put_ne hpa]; exact hp, T.f1, by decide, .nil, ?_⟩
  walk_at "pyC"
  intro b hb
  have hpb : p ≠ b := fun e => by subst e; rw [put_same] at hb; cases hb
  rw [put_ne hpb.symm] at hb
  have hab : a ≠ b := fun e => by subst e; rw [put_same] at hb; cases hb
  rw [put_ne hab.symm] at hb
  walk_at "pyC"
  refine ⟨p, Cl, ["present"], [.own a], ["present", "counts"], [.own a, .own b], rfl, by rw [put_ne hpb]; exact put_same, T.f2, by decide, .there (by decide +kernel) .nil, ?_⟩
  walk_at "pyC"
  refine h _ a b ⟨put_same, ?_, ?_, hab⟩ ha hb fun q h1 h2 => ?_
  · rw [put_ne hpa.symm, put_ne hab, put_ne hpa.symm]; exact put_same
  · rw [put_ne hpb.symm]; exact put_same
  · have qa : q ≠ a := fun e => h2 (e ▸ ha)
    have qb : q ≠ b := fun e => h2 (e ▸ hb)
    rw [put_ne h1, put_ne qb, put_ne h1, put_ne qa]
def spFiles (Cl : Addr) : DSp := fun ds C k => ∃ p a b m cs, ds = [.own p] ∧ Src Cl p a b m cs C ∧ m.length < 64 ∧ ∀ ys q, ys.Perm (m.map (·.1)) → PyProof.Rows.sortedS ys = true → C q = none → k (.own q) (DL.put C q (.lst (ys.map D.str)))
theorem ok_files {f : Addr} {fd : FuncData} (F : Fun K "files" "Sources.files" s_Sources_files f fd) (T : Txc K Cl) (Z : Zs mg) : FnG P w K mg base CX0 1 f fd P_Sources_files (toSp K (spFiles Cl)) := by
  refine fnX F sc_Sources_files v_Sources_files l_Sources_files g_Sources_files (fun ds C k h => by obtain ⟨_, _, _, _, _, rfl, _⟩ := h; rfl) fun X hB ds C k h => ?_
  obtain ⟨p, a, b, m, cs, rfl, hS, hm, h⟩ := h
  obtain ⟨hx, hn, hs, hg, hd, hnox⟩ := hB
  change WSs X _ [some (.own p)] C _
  have hI := hS.ins
  have tf1 := T.f1
  refine wss_cons ?_
  walk_at "pyC"
  refine ⟨a, _, m.map (·.1), rfl, hS.ha, keys_mk m, by rw [List.length_map]; exact hm, fun ys q h1 h2 h3 => ?_⟩
  exact h ys q h1 h2 h3
def spLen (Cl : Addr) : DSp := fun ds C k => ∃ p a b m cs, ds = [.own p] ∧ Src Cl p a b m cs C ∧ k (.int (m.length : Nat)) C
theorem ok_len {f : Addr} {fd : FuncData} (F : Fun K "__len__" "Sources.__len__" s_Sources___len__ f fd) (T : Txc K Cl) (Z : Zs mg) : FnG P w K mg base CX0 1 f fd P_Sources___len__ (toSp K (spLen Cl)) := by
  refine fnX F sc_Sources___len__ v_Sources___len__ l_Sources___len__ g_Sources___len__ (fun ds C k h => by obtain ⟨_, _, _, _, _, rfl, _⟩ := h; rfl) fun X hB ds C k h => ?_
  obtain ⟨p, a, b, m, cs, rfl, hS, h⟩ := h
  obtain ⟨hx, hn, hs, hg, hd, hnox⟩ := hB
  change WSs X _ [some (.own p)] C _
  have hI := hS.ins
  have tf1 := T.f1
  have hA := hS.ha
  refine wss_cons ?_
  walk_at "pyC"
  rw [len_mk]; exact h
/-- in: texts are looked up, other plain things are not there -/
def inF (m : List (Str × List Str)) : D → Bool
  | .str s => (getM m s).isSome
  | _ => false
def spCont (Cl : Addr) : DSp := fun ds C k => ∃ p a b m cs x, ds = [.own p, x] ∧ Src Cl p a b m cs C ∧ x.kind = true ∧ k (.bl (inF m x)) C
theorem inF_no {m : List (Str × List Str)} {x : D} (h : x.isStr = false) : inF m x = false := by cases x <;> first | rfl | (simp [D.isStr] at h; done)
theorem isStr_eq {x : D} (h : x.isStr = true) : ∃ z, x = .str z := by cases x <;> first | exact ⟨_, rfl⟩ | (simp [D.isStr] at h; done)
theorem val_is {m : List (Str × List Str)} {s : Str} : (valD (mkD tupF m) (Sum.inr s)).isSome = (getM m s).isSome := by rw [valD_mk, Option.isSome_map]
theorem ok_cont {f : Addr} {fd : FuncData} (F : Fun K "__contains__" "Sources.__contains__" s_Sources___contains__ f fd) (T : Txc K Cl) (Z : Zs mg) : FnG P w K mg base CX0 1 f fd P_Sources___contains__ (toSp K (spCont Cl)) := by
  refine fnX F sc_Sources___contains__ v_Sources___contains__ l_Sources___contains__ g_Sources___contains__ (fun ds C k h => by obtain ⟨_, _, _, _, _, _, rfl, _⟩ := h; rfl) fun X hB ds C k h => ?_
  obtain ⟨p, a, b, m, cs, x, rfl, hS, hk, h⟩ := h
  obtain ⟨hx, hn, hs, hg, hd, hnox⟩ := hB
  change WSs X _ [some (.own p), some x] C _
  have hI := hS.ins
  have tf1 := T.f1
  have hA := hS.ha
  refine wss_cons ?_
  walk_at "pyC"
  · rename_i h1
    obtain ⟨z, rfl⟩ := isStr_eq h1
    walk_at "pyC"
    rw [val_is]; exact h
  · rename_i h1
    rw [inF_no h1] at h; exact h
def spLook (Cl : Addr) : DSp := fun ds C k => ∃ p a b m cs s, ds = [.own p, .str s] ∧ Src Cl p a b m cs C ∧ (getM m s).isSome = true ∧ k .non C
theorem ok_look {f : Addr} {fd : FuncData} (F : Fun K "look_file" "Sources.look_file" s_Sources_look_file f fd) (T : Txc K Cl) (Z : Zs mg) : FnG P w K mg base CX0 1 f fd P_Sources_look_file (toSp K (spLook Cl)) := by
  refine fnX F sc_Sources_look_file v_Sources_look_file l_Sources_look_file g_Sources_look_file (fun ds C k h => by obtain ⟨_, _, _, _, _, _, rfl, _⟩ := h; rfl) fun X hB ds C k h => ?_
  obtain ⟨p, a, b, m, cs, s, rfl, hS, hk, h⟩ := h
  obtain ⟨hx, hn, hs, hg, hd, hnox⟩ := hB
  change WSs X _ [some (.own p), some (.str s)] C _
  have hI := hS.ins
  have tf1 := T.f1
  have hA := hS.ha
  have hv : (valD (mkD tupF m) (Sum.inr s)).isSome = true := by rw [val_is]; exact hk
  refine wss_cons ?_
  walk_at "pyC"
  all_goals try walk_at "bad"
  · rename_i q; rw [hv] at q; exact absurd q (by decide)
  · exact h
def spEdition (Cl : Addr) : DSp := fun ds C k => ∃ p a b m cs x, ds = [.own p, x] ∧ Src Cl p a b m cs C ∧ x.kind = true ∧ (∀ s, (getM m s).isSome = true → (getM cs s).isSome = true) ∧
  ((∃ s n, x = .str s ∧ (getM m s).isSome = true ∧ getM cs s = some n ∧ k (.int n) C) ∨ (inF m x = false ∧ k .non C))
theorem ok_edition {f : Addr} {fd : FuncData} (F : Fun K "edition" "Sources.edition" s_Sources_edition f fd) (T : Txc K Cl) (Z : Zs mg) : FnG P w K mg base CX0 1 f fd P_Sources_edition (toSp K (spEdition Cl)) := by
  refine fnX F sc_Sources_edition v_Sources_edition l_Sources_edition g_Sources_edition (fun ds C k h => by obtain ⟨_, _, _, _, _, _, rfl, _⟩ := h; rfl) fun X hB ds C k h => ?_
  obtain ⟨p, a, b, m, cs, x, rfl, hS, hk, hmc, h⟩ := h
  obtain ⟨hx, hn, hs, hg, hd, hnox⟩ := hB
  change WSs X _ [some (.own p), some x] C _
  have hI := hS.ins
  have tf1 := T.f1
  have tf2 := T.f2
  have hA := hS.ha
  have hB := hS.hb
  rcases h with ⟨s, n, rfl, h1, h2, h⟩ | ⟨h1, h⟩
  · have hv1 : (valD (mkD tupF m) (Sum.inr s)).isSome = true := by rw [val_is]; exact h1
    have hv2 : valD (mkD D.int cs) (Sum.inr s) = some (.int n) := by rw [valD_mk, h2]; rfl
    refine wss_cons ?_
    walk_at "pyC"
    all_goals try walk_at "bad"
    · exact h
    · rename_i q; rw [hv1] at q; exact absurd q (by decide)
  · refine wss_cons ?_
    walk_at "pyC"
    · rename_i q
      obtain ⟨z, rfl⟩ := isStr_eq q
      walk_at "pyC"
      · rename_i q2
        rw [val_is] at q2
        rw [show inF m (.str z) = (getM m z).isSome from rfl, q2] at h1
        exact absurd h1 (by decide)
      · exact h
    · exact h
def spLinesOf (Cl : Addr) : DSp := fun ds C k => ∃ p a b m cs s zs, ds = [.own p, .str s] ∧ Src Cl p a b m cs C ∧ getM m s = some zs ∧ ∀ q, C q = none → k (.own q) (DL.put C q (.lst (zs.map D.str)))
theorem ok_linesOf {f : Addr} {fd : FuncData} (F : Fun K "lines" "Sources.lines" s_Sources_lines f fd) (T : Txc K Cl) (Z : Zs mg) (h1 : MthC P w K mg base Cl "look_file" 1 [] (spLook Cl)) : FnG P w K mg base CX0 2 f fd P_Sources_lines (toSp K (spLinesOf Cl)) := by
  refine fnX F sc_Sources_lines v_Sources_lines l_Sources_lines g_Sources_lines (fun ds C k h => by obtain ⟨_, _, _, _, _, _, _, rfl, _⟩ := h; rfl) fun X hB ds C k h => ?_
  obtain ⟨p, a, b, m, cs, s, zs, rfl, hS, hk, h⟩ := h
  obtain ⟨hx, hn, hs, hg, hd, hnox⟩ := hB
  change WSs X _ [some (.own p), some (.str s)] C _
  have hI := hS.ins
  have tf1 := T.f1
  have hA := hS.ha
  have hv : valD (mkD tupF m) (Sum.inr s) = some (tupF zs) := by rw [valD_mk, hk]; rfl
  refine wss_cons ?_
  walk_at "pyC"
  refine x_meth hx h1 ?_
  walk_at "pyC"
  refine ⟨⟨_, _, hI, by decide +kernel⟩, ?_⟩
  walk_at "pyC"
  refine ⟨p, a, b, m, cs, s, rfl, hS, by rw [hk]; rfl, ?_⟩
  walk_at "pyC"
  exact ⟨D.tup (zs.map D.str), zs.map D.str, rfl, rfl, h⟩
def spRemove (Cl : Addr) : DSp := fun ds C k => ∃ p a b m cs s, ds = [.own p, .str s] ∧ Src Cl p a b m cs C ∧ (getM m s).isSome = true ∧ (∀ C', Src Cl p a b (dropM m s) cs C' → (∀ q, q ≠ a → C' q = C q) → k .non C')
theorem ok_remove {f : Addr} {fd : FuncData} (F : Fun K "remove" "Sources.remove" s_Sources_remove f fd) (T : Txc K Cl) (h1 : MthC P w K mg base Cl "look_file" 1 [] (spLook Cl)) : FnG P w K mg base CX0 2 f fd P_Sources_remove (toSp K (spRemove Cl)) := by
  refine fnX F sc_Sources_remove v_Sources_remove l_Sources_remove g_Sources_remove (fun ds C k h => by obtain ⟨_, _, _, _, _, _, rfl, _⟩ := h; rfl) fun X hB ds C k h => ?_
  obtain ⟨p, a, b, m, cs, s, rfl, hS, hk, h⟩ := h
  obtain ⟨hx, hn, hs, hg, hd, hnox⟩ := hB
  change WSs X _ [some (.own p), some (.str s)] C _
  have hI := hS.ins
  have tf1 := T.f1
  have hA := hS.ha
  have hv : (valD (mkD tupF m) (Sum.inr s)).isSome = true := by rw [val_is]; exact hk
  refine wss_cons ?_
  walk_at "pyC"
  refine x_meth hx h1 ?_
  walk_at "pyC"
  refine ⟨⟨_, _, hI, by decide +kernel⟩, ?_⟩
  walk_at "pyC"
  refine ⟨p, a, b, m, cs, s, rfl, hS, hk, ?_⟩
  walk_at "pyC"
  refine ⟨a, _, Sum.inr s, rfl, rfl, hA, hv, ?_⟩
  walk_at "pyC"
  rw [dropD_mk]
  refine h _ ⟨?_, put_same, ?_, hS.ab⟩ fun q hq => put_ne hq
  · rw [put_ne hS.pa]; exact hS.ho
  · rw [put_ne hS.ab.symm]; exact hS.hb
theorem put_tup {C : CS} {d : D} {zs : List Str} {kk : KD} (h : d = .tup (zs.map D.str) ∨ ∃ q, d = .own q ∧ C q = some (.lst (zs.map D.str))) (hk : kk (.tup (zs.map D.str)) C) : dTuple [d] C kk := by
  rcases h with rfl | ⟨q, rfl, hq⟩
  · exact tup_t hk
  · exact tup_o hq hk
def spPut (Cl : Addr) : DSp := fun ds C k => ∃ p a b m cs s d zs, ∃ n : Int, ds = [.own p, .str s, d] ∧ Src Cl p a b m cs C ∧ Nm s ∧ (d = .tup (zs.map D.str) ∨ ∃ q, d = .own q ∧ C q = some (.lst (zs.map D.str))) ∧ (∀ z ∈ zs, Ln z) ∧ zs.length ≤ 100 ∧ m.length < 20 ∧ cs.length < 100 ∧ (getM cs s).getD 0 = n ∧ 0 ≤ n ∧ n ≤ 1000 ∧
  ∀ C', Src Cl p a b (putM m s zs) (putM cs s (n + 1)) C' → (∀ q, q ≠ a → q ≠ b → C' q = C q) → k (.int (n + 1)) C'
theorem ok_put {f : Addr} {fd : FuncData} (F : Fun K "put" "Sources.put" s_Sources_put f fd) (T : Txc K Cl) (Z : Zs mg) (h1 : FnC P w K mg base "is_name" 1 spIsNm) (h2 : FnC P w K mg base "look_lines" 2 spLookLines) (g1 : MgK K mg "MOST_LINES" (.int 300)) (g2 : MgK K mg "MOST_FILES" (.int 20)) : FnG P w K mg base CX0 3 f fd P_Sources_put (toSp K (spPut Cl)) := by
  refine fnX F sc_Sources_put v_Sources_put l_Sources_put g_Sources_put (fun ds C k h => by obtain ⟨_, _, _, _, _, _, _, _, _, rfl, _⟩ := h; rfl) fun X hB ds C k h => ?_
  obtain ⟨p, a, b, m, cs, s, d, zs, n, rfl, hS, hN, hd0, hL, hzl, hm20, hcs, hgn, n0, n1, h⟩ := h
  obtain ⟨hx, hn, hs, hg, hd, hnox⟩ := hB
  change WSs X _ [some (.own p), some (.str s), some d] C _
  have hI := hS.ins
  have tf1 := T.f1
  have tf2 := T.f2
  have hA := hS.ha
  have hB := hS.hb
  have hlm : (mkD tupF m).length = m.length := len_mk m
  have hgd : (valD (mkD D.int cs) (Sum.inr s)).getD (.int 0) = .int n := by
    rw [valD_mk, ← hgn]
    cases getM cs s <;> rfl
  refine wss_cons ?_
  walk_at "pyC"
  refine ⟨s, rfl, hN, ?_⟩
  walk_at "pyC"
  all_goals try walk_at "bad"
  refine ⟨d, zs, rfl, hd0, hL, by omega, ?_⟩
  walk_at "pyC"
  have hlen : ∀ {kk : KD}, kk (.int (zs.length : Nat)) C → dLenX [d] C kk := fun {kk} hk => by
    rcases hd0 with rfl | ⟨q, rfl, hq⟩
    · refine .inl ?_
      walk_at "pyC"
      · rw [List.length_map]; exact hk
    · refine .inl ?_
      walk_at "pyC"
      · rw [List.length_map]; exact hk
  refine hlen ?_
  walk_at "pyC"
  · rename_i q; have := dec_t q; omega
  · rename_i q; rw [hlm] at q; have := eq_of_beq q; omega
  all_goals refine ⟨b, _, rfl, hB, ?_⟩
  all_goals walk_at "pyC"
  all_goals refine ⟨_, Sum.inr s, rfl, hB, ?_⟩
  all_goals rw [hgd]
  all_goals walk_at "pyC"
  all_goals refine setX_ok hB (by rw [len_mk]; exact Nat.lt_trans hcs (by decide)) ?_
  all_goals rw [putD_mk (f := D.int)]
  all_goals obtain ⟨C1, hC1⟩ : ∃ C1, C1 = DL.put C b (.dic (mkD D.int (putM cs s (n + 1)))) := ⟨_, rfl⟩
  all_goals rw [← hC1]
  all_goals have hba : b ≠ a := hS.ab.symm
  all_goals have B1 : C1 b = some (.dic (mkD D.int (putM cs s (n + 1)))) := by rw [hC1]; exact put_same
  all_goals have A1 : C1 a = some (.dic (mkD tupF m)) := by rw [hC1, put_ne hS.ab]; exact hA
  all_goals have P1 : C1 p = some (.ins Cl ["present", "counts"] [.own a, .own b]) := by rw [hC1, put_ne hS.pb]; exact hS.ho
  all_goals have I1 := insD_own P1
  all_goals clear hI hA hB
  all_goals have hd1 : d = .tup (zs.map D.str) ∨ ∃ q, d = .own q ∧ C1 q = some (.lst (zs.map D.str)) := hd0.imp id fun ⟨q, e, hq⟩ => ⟨q, e, by rw [hC1, put_ne (fun e => by rw [e, hS.hb] at hq; cases hq)]; exact hq⟩
  all_goals walk_at "pyC"
  all_goals refine put_tup hd1 ?_
  all_goals walk_at "pyC"
  all_goals refine setX_ok A1 (by rw [len_mk]; exact Nat.lt_trans hm20 (by decide)) ?_
  all_goals rw [show D.tup (zs.map D.str) = tupF zs from rfl, putD_mk (f := tupF)]
  all_goals obtain ⟨C2, hC2⟩ : ∃ C2, C2 = DL.put C1 a (.dic (mkD tupF (putM m s zs))) := ⟨_, rfl⟩
  all_goals rw [← hC2]
  all_goals have B2 : C2 b = some (.dic (mkD D.int (putM cs s (n + 1)))) := by rw [hC2, put_ne hba]; exact B1
  all_goals have A2 : C2 a = some (.dic (mkD tupF (putM m s zs))) := by rw [hC2]; exact put_same
  all_goals have P2 : C2 p = some (.ins Cl ["present", "counts"] [.own a, .own b]) := by rw [hC2, put_ne hS.pa]; exact P1
  all_goals have I2 := insD_own P2
  all_goals clear I1 A1 B1
  all_goals have V2 : valD (mkD D.int (putM cs s (n + 1))) (Sum.inr s) = some (.int (n + 1)) := by rw [valD_mk, getM_put]; rfl
  all_goals walk_at "pyC"
  all_goals exact h C2 ⟨P2, A2, B2, hS.ab⟩ fun q h1 h2 => by rw [hC2, put_ne h1, hC1, put_ne h2]
end
end K31
namespace K31
section
variable {P : Program} {w : World} {K : PySem.W.Frag} {mg : Str → Option Value} {base : Heap} {Cl : Addr}
open PyProof.Rows in
theorem rising_pair : ∀ (l : List Str) (p : Str), risingS p l = true → (∀ x ∈ l, ¬ x.cps.toList < p.cps.toList) ∧ l.Pairwise fun a b => ¬ b.cps.toList < a.cps.toList
  | [], _, _ => ⟨fun _ h => by simp at h, .nil⟩
  | x :: r, p, h => by
    unfold risingS at h
    rw [Bool.and_eq_true] at h
    obtain ⟨h1, h2⟩ := h
    rw [Bool.not_eq_true', PyProof.Rows.ltCps_eq] at h1
    have h1 := of_decide_eq_false h1
    obtain ⟨g1, g2⟩ := rising_pair r x h2
    refine ⟨fun y hy => ?_, List.Pairwise.cons g1 g2⟩
    rcases List.mem_cons.mp hy with rfl | hy
    · exact h1
    · exact List.le_trans (show p.cps.toList ≤ x.cps.toList from h1) (show x.cps.toList ≤ y.cps.toList from g1 y hy)
open PyProof.Rows in
theorem sorted_pair {l : List Str} (h : sortedS l = true) : l.Pairwise fun a b => ¬ b.cps.toList < a.cps.toList := by
  cases l with
  | nil => exact .nil
  | cons x r =>
    obtain ⟨g1, g2⟩ := rising_pair r x h
    exact .cons g1 g2
open PyProof.Rows in
theorem sorted_uniq {l m ks : List Str} (h1 : l.Perm ks) (h2 : m.Perm ks) (s1 : sortedS l = true) (s2 : sortedS m = true) : l = m := by
  refine List.Perm.eq_of_pairwise (le := fun a b : Str => ¬ b.cps.toList < a.cps.toList) (fun a b _ _ x y => ?_) (sorted_pair s1) (sorted_pair s2) (h1.trans h2.symm)
  have : a.cps.toList = b.cps.toList := List.le_antisymm x y
  cases a; cases b; simp at this; rw [this]
theorem dec_str {s : Str} (h : Nm s) : (D.str s).fit 0 = true := nm_strOk h
/-- what the machine and the law know alike -/
structure Alike (ns : List Str) (m : List (Str × List Str)) (cs cl : List (Str × Int)) : Prop where
  nm : ∀ s ∈ ns, Nm s
  keys : ∀ s ∈ m.map (·.1), s ∈ ns
  nd : (m.map (·.1)).Nodup
  few : ns.length ≤ 4
  cnt : ∀ s ∈ ns, ∃ v : Int, getM cl s = some v ∧ (getM cs s).getD 0 = v ∧ 0 ≤ v
  has : ∀ s, (getM m s).isSome = true → (getM cs s).isSome = true
  ln : ∀ s zs, getM m s = some zs → (∀ z ∈ zs, Ln z) ∧ zs.length ≤ 5
theorem nodup_sub' : ∀ (l m : List Str), l.Nodup → (∀ x ∈ l, x ∈ m) → l.length ≤ m.length
  | [], _, _, _ => Nat.zero_le _
  | x :: l, m, nd, h => by
    rw [List.nodup_cons] at nd
    have hx := h x (by simp)
    have := nodup_sub' l (m.erase x) nd.2 fun y hy => (List.mem_erase_of_ne (fun e : y = x => nd.1 (by rw [← e]; exact hy))).mpr (h y (by simp [hy]))
    rw [List.length_erase_of_mem hx] at this
    have := List.length_pos_of_mem hx
    simp only [List.length_cons]
    omega
theorem Alike.short {ns : List Str} {m : List (Str × List Str)} {cs cl : List (Str × Int)} (h : Alike ns m cs cl) : m.length ≤ 4 := by
  have := nodup_sub' _ _ h.nd h.keys
  rw [List.length_map] at this
  exact Nat.le_trans this h.few
theorem getM_mem {α : Type} {m : List (Str × α)} {s : Str} (h : (getM m s).isSome = true) : s ∈ m.map (·.1) := by
  unfold getM at h
  cases e : m.find? fun e => decide (e.1 = s) with
  | none => rw [e] at h; cases h
  | some y =>
    have h1 := List.mem_of_find?_eq_some e
    have h2 := List.find?_some e
    exact List.mem_map.mpr ⟨y, h1, of_decide_eq_true h2⟩
theorem ne_self {C : CS} {k : KD} {x : D} {n : Nat} (hx : x.ok = true) (hf : x.fit n = true) (q : k (.bl false) C) : dEq true x x C k := ne_ok hx hx (by rw [eqv_fit hf]; exact q)
theorem ne_lists {C : CS} {k : KD} {a b : Addr} {zs : List Str} (ha : C a = some (.lst (zs.map D.str))) (hb : C b = some (.lst (zs.map D.str))) (hz : ∀ z ∈ zs, PyData.strOk z = true) (q : k (.bl false) C) : dEq true (.own a) (.own b) C k := by
  have hf : ∀ d ∈ zs.map D.str, D.fit 0 d = true := fun d hd => by
    obtain ⟨z, hz', rfl⟩ := List.mem_map.mp hd
    exact hz z hz'
  refine .inl ⟨_, _, pyC_own ha hf, pyC_own hb hf, shaped_lst hf (by decide), shaped_lst hf (by decide), ?_⟩
  show k (.bl (!eqL (zs.map D.str) (zs.map D.str))) C
  rw [eqL_refl hf]
  exact q
theorem ne_listF {C : CS} {k : KD} {a : Addr} {zs : List Str} (ha : C a = some (.lst (zs.map D.str))) (hz : ∀ z ∈ zs, PyData.strOk z = true) (q : k (.bl false) C) : dEq true (.own a) (.lst (zs.map D.str)) C k := by
  have hf : ∀ d ∈ zs.map D.str, D.fit 0 d = true := fun d hd => by
    obtain ⟨z, hz', rfl⟩ := List.mem_map.mp hd
    exact hz z hz'
  refine .inl ⟨_, .list (pyL (zs.map D.str)), pyC_own ha hf, ?_, shaped_lst hf (by decide), shaped_lst hf (by decide), ?_⟩
  · unfold pyC
    simp only [D.isPy, fitL_py (zs.map D.str) (fitL_all.mpr hf), if_true, D.py]
  · show k (.bl (!eqL (zs.map D.str) (zs.map D.str))) C
    rw [eqL_refl hf]
    exact q
theorem ln_ok {z : Str} (h : Ln z) : PyData.strOk z = true := by
  unfold PyData.strOk
  rw [← Array.all_toList, List.all_eq_true]
  exact fun c hc => decide_eq_true (by have := h.2 c hc; omega)
theorem Src.sub {p a b : Addr} {m : List (Str × List Str)} {cs : List (Str × Int)} {C C2 : CS} (h : Src Cl p a b m cs C) (hs : Sub C C2) : Src Cl p a b m cs C2 := ⟨hs _ _ h.ho, hs _ _ h.ha, hs _ _ h.hb, h.ab⟩
theorem sub_put {C C1 : CS} {q : Addr} {c : Cell} (h : Sub C C1) (hq : C1 q = none) : Sub C (DL.put C1 q c) := fun x d e => by
  have := h x d e
  rw [put_ne (cell_ne this hq)]; exact this
def spRight (Cl : Addr) : DSp := fun ds C k => ∃ p a b t c ns m cs cl, ds = [.own p, .lst (ns.map D.str), .own t, .own c] ∧ Src Cl p a b m cs C ∧ C t = some (.dic (mkD lstF m)) ∧ C c = some (.dic (mkD D.int cl)) ∧ Alike ns m cs cl ∧ k (.bl true) C
theorem ok_right {f : Addr} {fd : FuncData} (F : Fun K "_law_right" "_law_right" s_right f fd) (Z : Zs mg) (h1 : PrpC P w K mg base Cl "files" 1 (spFiles Cl)) (h2 : MthC P w K mg base Cl "__len__" 1 [] (spLen Cl)) (h3 : MthC P w K mg base Cl "__contains__" 1 [] (spCont Cl)) (h4 : MthC P w K mg base Cl "edition" 1 [] (spEdition Cl)) (h5 : MthC P w K mg base Cl "lines" 2 [] (spLinesOf Cl)) : FnG P w K mg base CX0 3 f fd P_right (toSp K (spRight Cl)) := by
  refine fnS F sc_right v_right l_right g_right (fun ds C k h => by obtain ⟨_, _, _, _, _, _, _, _, _, rfl, _⟩ := h; rfl) fun X hB ds C k h => ?_
  obtain ⟨p, a, b, t, c, ns, m, cs, cl, rfl, hS, hT, hC, hA, h⟩ := h
  obtain ⟨hx, hn, hs, hg, hd, hnox⟩ := hB
  change WSs X _ [some (.own p), some (.lst (ns.map D.str)), some (.own t), some (.own c), none] C _
  have hm4 := hA.short
  refine wss_cons ?_
  refine ws_if ?_
  refine wt_ww (ww_or ?_)
  walk_at "py"
  refine x_prop hx hnox h1 ?_
  walk_at "py"
  refine ⟨⟨_, _, hS.ins⟩, ?_⟩
  refine ⟨p, a, b, m, cs, rfl, hS, by omega, fun ys1 q1 y1 y2 y3 => ?_⟩
  refine x_sortedK hx Z (by walk_at "gl") ?_
  walk_at "py"
  refine ⟨t, _, m.map (·.1), rfl, by rw [put_ne (cell_ne hT y3)]; exact hT, keys_mk m, by rw [List.length_map]; omega, fun ys2 q2 z1 z2 z3 => ?_⟩
  have ey : ys2 = ys1 := sorted_uniq z1 y1 z2 y2
  subst ey
  have q12 : q1 ≠ q2 := fun e => by rw [← e, put_same] at z3; cases z3
  have hys : ∀ z ∈ ys2, PyData.strOk z = true := fun z hz => nm_strOk (hA.nm z (hA.keys z (y1.mem_iff.mp hz)))
  refine ne_lists (by rw [put_ne q12]; exact put_same) put_same hys ?_
  have hsub : Sub C (DL.put (DL.put C q1 (.lst (ys2.map D.str))) q2 (.lst (ys2.map D.str))) := sub_put (sub_put (Sub.refl _) y3) z3
  generalize DL.put (DL.put C q1 (.lst (ys2.map D.str))) q2 (.lst (ys2.map D.str)) = C2 at hsub
  refine ⟨_, rfl, fun q => Bool.noConfusion q, fun _ => ?_⟩
  refine ww_or1 (xt_ne hx ?_)
  refine x_lenO hx Z h2 (by walk_at "gl") ?_
  walk_at "py"
  refine ⟨_, _, _, rfl, (hS.sub hsub).ins, p, a, b, m, cs, rfl, hS.sub hsub, _, rfl, by omega, by omega, ?_⟩
  have T2 := hsub _ _ hT
  refine x_lenX hx Z (by walk_at "gl") ?_
  walk_at "pyC"
  all_goals try walk_at "bad"
  · rename_i q; rw [len_mk] at q; simp at q
  refine x_for hx hnox (wi_list ?_)
  walk_at "py"
  refine ⟨_, rfl, ?_⟩
  refine ⟨fun i env C' => Sub C C' ∧ ∃ o1, env = [some (.own p), some (.lst (ns.map D.str)), some (.own t), some (.own c), o1], ⟨hsub, _, rfl⟩, fun _ _ _ _ => trivial, ?_, ?_⟩
  · rintro i d env C3 hd' ⟨hsub3, o1, rfl⟩
    obtain ⟨s, hs', rfl⟩ := List.mem_map.mp (List.mem_of_getElem? hd')
    have S3 := hS.sub hsub3
    have T3 := hsub3 _ _ hT
    have K3 := hsub3 _ _ hC
    obtain ⟨v, v1, v2, v3⟩ := hA.cnt s hs'
    walk_at "pyM"
    refine x_inO hx h3 ?_
    walk_at "pyM"
    refine ⟨_, _, S3.ins, p, a, b, m, cs, .str s, rfl, S3, rfl, _, rfl, ?_⟩
    walk_at "pyM"
    refine x_inX hx ?_
    have e1 : (valD (mkD lstF m) (Sum.inr s)).isSome = inF m (.str s) := by rw [valD_mk, Option.isSome_map]; rfl
    walk_at "pyM"
    · rename_i q; rw [e1] at q; simp at q
    refine x_meth hx h4 ?_
    walk_at "pyM"
    refine ⟨⟨_, _, S3.ins, by decide +kernel⟩, ?_⟩
    walk_at "pyM"
    have V : valD (mkD D.int cl) (Sum.inr s) = some (.int v) := by rw [valD_mk, v1]; rfl
    refine ⟨p, a, b, m, cs, .str s, rfl, S3, rfl, hA.has, ?_⟩
    cases hin : getM m s with
    | some zs =>
      have hin' : (getM m s).isSome = true := by rw [hin]; rfl
      have hcs : getM cs s = some v := by
        have := hA.has s hin'
        cases hg : getM cs s with
        | none => rw [hg] at this; cases this
        | some x => rw [hg] at v2; exact congrArg some v2
      have W1 : (valD (mkD lstF m) (Sum.inr s)).isSome = true := by rw [e1]; exact hin'
      have W2 : valD (mkD lstF m) (Sum.inr s) = some (lstF zs) := by rw [valD_mk, hin]; rfl
      refine .inl ⟨s, v, rfl, hin', hcs, ?_⟩
      walk_at "pyC"
      all_goals try (rename_i q; rw [W1] at q; exact Bool.noConfusion q)
      all_goals try (rename_i q; simp at q; done)
      refine x_meth hx h5 ?_
      walk_at "pyC"
      refine ⟨⟨_, _, S3.ins, by decide +kernel⟩, ?_⟩
      walk_at "pyC"
      refine ⟨p, a, b, m, cs, s, zs, rfl, S3, hin, fun q hq => ?_⟩
      have T4 : (DL.put C3 q (.lst (zs.map D.str))) t = some (.dic (mkD lstF m)) := by rw [put_ne (cell_ne T3 hq)]; exact T3
      walk_at "pyC"
      refine ne_listF (zs := zs) put_same (fun z hz => ln_ok ((hA.ln s zs hin).1 z hz)) ?_
      refine ⟨_, rfl, fun q => Bool.noConfusion q, fun _ => ?_⟩
      walk_at "pyC"
      exact ⟨sub_put hsub3 hq, _, rfl⟩
    | none =>
      have W1 : (valD (mkD lstF m) (Sum.inr s)).isSome = false := by rw [e1]; show (getM m s).isSome = false; rw [hin]; rfl
      refine .inr ⟨by show (getM m s).isSome = false; rw [hin]; rfl, ?_⟩
      walk_at "pyC"
      all_goals try (rename_i q; rw [W1] at q; exact Bool.noConfusion q)
      refine ne_self (n := 0) rfl rfl ?_
      refine ⟨_, rfl, fun q => Bool.noConfusion q, fun _ => ?_⟩
      walk_at "pyC"
      all_goals try (rename_i q; rw [W1] at q; exact Bool.noConfusion q)
      exact ⟨hsub3, _, rfl⟩
  · rintro env C3 ⟨hsub3, o1, rfl⟩
    have S3 := hS.sub hsub3
    walk_at "pyM"
    refine x_ninO hx h3 ?_
    walk_at "pyM"
    refine ⟨_, _, S3.ins, p, a, b, m, cs, .non, rfl, S3, rfl, _, rfl, ?_⟩
    refine ⟨_, rfl, fun _ => ?_, fun q => Bool.noConfusion q⟩
    refine we_and ?_
    refine x_ninO hx h3 ?_
    walk_at "pyM"
    refine ⟨_, _, S3.ins, p, a, b, m, cs, .int 7, rfl, S3, rfl, _, rfl, ?_⟩
    refine ⟨_, rfl, fun _ => ?_, fun q => Bool.noConfusion q⟩
    walk_at "pyM"
    refine x_meth hx h4 ?_
    walk_at "pyM"
    refine ⟨⟨_, _, S3.ins, by decide +kernel⟩, ?_⟩
    walk_at "pyM"
    refine ⟨p, a, b, m, cs, .non, rfl, S3, rfl, hA.has, .inr ⟨rfl, ?_⟩⟩
    walk_at "pyM"
    all_goals try (rename_i q; exact Bool.noConfusion (show true = false from q))
    refine x_meth hx h4 ?_
    walk_at "pyM"
    refine ⟨⟨_, _, S3.ins, by decide +kernel⟩, ?_⟩
    walk_at "pyM"
    refine ⟨p, a, b, m, cs, .str "", rfl, S3, rfl, hA.has, .inr ⟨?_, ?_⟩⟩
    · show (getM m "").isSome = false
      cases hq : (getM m "").isSome with
      | false => rfl
      | true =>
        have := (hA.nm _ (hA.keys _ (getM_mem hq))).1
        exact absurd this (by decide +kernel)
    · walk_at "pyM"
      all_goals try (rename_i q; exact Bool.noConfusion (show true = false from q))
      exact ⟨C, hsub3, h⟩
end
end K31
namespace K31
section
variable {P : Program} {w : World} {K : PySem.W.Frag} {mg : Str → Option Value} {base : Heap} {Cl : Addr}
theorem merge_mk {α : Type} {f : α → D} : ∀ (xs m : List (Str × α)), mergeD (mkD f m) (mkD f xs) = mkD f (xs.foldl (fun acc e => putM acc e.1 e.2) m)
  | [], _ => rfl
  | (s, x) :: xs, m => by
    show mergeD (putD (mkD f m) (Sum.inr s) (f x)) (mkD f xs) = _
    rw [putD_mk, merge_mk xs]
    rfl
def zeroM (ns : List Str) : List (Str × Int) := (ns.map fun s => (s, (0 : Int))).foldl (fun acc e => putM acc e.1 e.2) []
theorem zero_get {s : Str} : ∀ (ns : List Str) (m : List (Str × Int)), (s ∈ ns ∨ getM m s = some 0) → getM ((ns.map fun s => (s, (0 : Int))).foldl (fun acc e => putM acc e.1 e.2) m) s = some 0
  | [], m, h => h.elim (fun h => by simp at h) id
  | t :: ns, m, h => by
    rw [List.map_cons, List.foldl_cons]
    refine zero_get ns _ ?_
    by_cases ht : s = t
    · subst ht; exact .inr getM_put
    · rcases h with h | h
      · rcases List.mem_cons.mp h with h | h
        · exact absurd h ht
        · exact .inl h
      · exact .inr (by rw [getM_put_ne ht]; exact h)
theorem zero_is {s : Str} {ns : List Str} (h : s ∈ ns) : getM (zeroM ns) s = some 0 := zero_get ns [] (.inl h)
theorem keys_mem_put {α : Type} {s t : Str} {x : α} {m : List (Str × α)} (h : t ∈ (putM m s x).map (·.1)) : t = s ∨ t ∈ m.map (·.1) := by
  rw [keys_put] at h
  split at h
  · exact .inr h
  · rcases List.mem_append.mp h with h | h
    · exact .inr h
    · exact .inl (List.mem_singleton.mp h)
theorem keys_nd_put {α : Type} {s : Str} {x : α} {m : List (Str × α)} (h : (m.map (·.1)).Nodup) : ((putM m s x).map (·.1)).Nodup := by
  rw [keys_put]
  split
  · exact h
  · rename_i hs
    rw [List.nodup_append]
    exact ⟨h, by simp, fun a ha b hb e => hs (by rw [List.mem_singleton] at hb; rw [← hb, ← e]; exact ha)⟩
theorem Alike.put {ns : List Str} {m : List (Str × List Str)} {cs cl : List (Str × Int)} (h : Alike ns m cs cl) {s : Str} {v : Int} {zs : List Str} (hs : s ∈ ns) (hv : getM cl s = some v) (hL : ∀ z ∈ zs, Ln z) (hl : zs.length ≤ 5) :
    Alike ns (putM m s zs) (putM cs s (v + 1)) (putM cl s (v + 1)) := by
  refine ⟨h.nm, fun t ht => ?_, keys_nd_put h.nd, h.few, fun t ht => ?_, fun t ht => ?_, fun t ys ht => ?_⟩
  · rcases keys_mem_put ht with rfl | ht
    · exact hs
    · exact h.keys t ht
  · by_cases e : t = s
    · subst e
      obtain ⟨v', g1, g2, g3⟩ := h.cnt t ht
      rw [hv] at g1; cases g1
      exact ⟨v + 1, getM_put, by rw [getM_put]; rfl, by omega⟩
    · rw [getM_put_ne e, getM_put_ne e]
      exact h.cnt t ht
  · by_cases e : t = s
    · subst e; rw [getM_put]; rfl
    · rw [getM_put_ne e] at ht ⊢
      exact h.has t ht
  · by_cases e : t = s
    · subst e
      rw [getM_put] at ht; cases ht
      exact ⟨hL, hl⟩
    · rw [getM_put_ne e] at ht
      exact h.ln t ys ht
theorem Alike.drop {ns : List Str} {m : List (Str × List Str)} {cs cl : List (Str × Int)} (h : Alike ns m cs cl) (s : Str) : Alike ns (dropM m s) cs cl := by
  refine ⟨h.nm, fun t ht => ?_, ?_, h.few, h.cnt, fun t ht => ?_, fun t ys ht => ?_⟩
  · rw [keys_drop] at ht
    exact h.keys t (List.mem_filter.mp ht).1
  · rw [keys_drop]
    exact h.nd.sublist List.filter_sublist
  · rw [getM_drop] at ht
    split at ht
    · cases ht
    · exact h.has t ht
  · rw [getM_drop] at ht
    split at ht
    · cases ht
    · exact h.ln t ys ht
/-- cells that are no lists are kept -/
def Kn (C C' : CS) : Prop := ∀ x d, C x = some d → (∀ l, d ≠ .lst l) → C' x = some d
theorem Kn.refl (C : CS) : Kn C C := fun _ _ h _ => h
theorem Kn.trans {A B C : CS} (h1 : Kn A B) (h2 : Kn B C) : Kn A C := fun x d h n => h2 x d (h1 x d h n) n
theorem kn_fresh {C : CS} {q : Addr} {c : Cell} (h : C q = none) : Kn C (DL.put C q c) := fun x d e _ => by rw [put_ne (cell_ne e h)]; exact e
theorem kn_lst {C : CS} {q : Addr} {c : Cell} {l : List D} (h : C q = some (.lst l)) : Kn C (DL.put C q c) := fun x d e n => by
  rw [put_ne (fun z => by subst z; rw [h] at e; cases e; exact n l rfl)]; exact e
/-- the cells between two turns -/
structure Sta (Cl p a b t c : Addr) (ns : List Str) (i : Nat) (m : List (Str × List Str)) (cs cl : List (Str × Int)) (C : CS) : Prop where
  src : Src Cl p a b m cs C
  th : C t = some (.dic (mkD lstF m))
  ct : C c = some (.dic (mkD D.int cl))
  al : Alike ns m cs cl
  ck : ∀ s ∈ cs.map (·.1), s ∈ ns
  cn : (cs.map (·.1)).Nodup
  bd : ∀ s v, getM cl s = some v → v ≤ i
  lk : ∀ s ∈ cl.map (·.1), s ∈ ns
  ln : (cl.map (·.1)).Nodup
  ta : t ≠ a
  tb : t ≠ b
  ca : c ≠ a
  cb : c ≠ b
  tc : t ≠ c
theorem Sta.kn {p a b t c : Addr} {ns : List Str} {i : Nat} {m : List (Str × List Str)} {cs cl : List (Str × Int)} {C C' : CS} (h : Sta Cl p a b t c ns i m cs cl C) (k : Kn C C') : Sta Cl p a b t c ns i m cs cl C' :=
  { h with
    src := ⟨k _ _ h.src.ho (fun _ e => by cases e), k _ _ h.src.ha (fun _ e => by cases e), k _ _ h.src.hb (fun _ e => by cases e), h.src.ab⟩
    th := k _ _ h.th (fun _ e => by cases e)
    ct := k _ _ h.ct (fun _ e => by cases e) }
theorem Sta.few {p a b t c : Addr} {ns : List Str} {i : Nat} {m : List (Str × List Str)} {cs cl : List (Str × Int)} {C : CS} (h : Sta Cl p a b t c ns i m cs cl C) : m.length ≤ 4 ∧ cs.length ≤ 4 ∧ cl.length ≤ 4 := by
  refine ⟨h.al.short, ?_, ?_⟩
  · have := nodup_sub' _ _ h.cn h.ck
    rw [List.length_map] at this
    exact Nat.le_trans this h.al.few
  · have := nodup_sub' _ _ h.ln h.lk
    rw [List.length_map] at this
    exact Nat.le_trans this h.al.few
theorem zero_keys : ∀ (ns : List Str) (m : List (Str × Int)) (s : Str), s ∈ ((ns.map fun s => (s, (0 : Int))).foldl (fun acc e => putM acc e.1 e.2) m).map (·.1) → s ∈ ns ∨ s ∈ m.map (·.1)
  | [], m, s, h => .inr h
  | t :: ns, m, s, h => by
    rw [List.map_cons, List.foldl_cons] at h
    rcases zero_keys ns _ s h with h | h
    · exact .inl (List.mem_cons_of_mem _ h)
    · rcases keys_mem_put h with h | h
      · exact .inl (by rw [h]; exact List.mem_cons_self ..)
      · exact .inr h
theorem zero_nd : ∀ (ns : List Str) (m : List (Str × Int)), (m.map (·.1)).Nodup → (((ns.map fun s => (s, (0 : Int))).foldl (fun acc e => putM acc e.1 e.2) m).map (·.1)).Nodup
  | [], _, h => h
  | t :: ns, m, h => by
    rw [List.map_cons, List.foldl_cons]
    exact zero_nd ns _ (keys_nd_put h)
theorem zero_bd {s : Str} {v : Int} : ∀ (ns : List Str) (m : List (Str × Int)), (∀ v, getM m s = some v → v = 0) → getM ((ns.map fun s => (s, (0 : Int))).foldl (fun acc e => putM acc e.1 e.2) m) s = some v → v = 0
  | [], m, h, e => h v e
  | t :: ns, m, h, e => by
    rw [List.map_cons, List.foldl_cons] at e
    refine zero_bd ns _ (fun v hv => ?_) e
    by_cases ht : s = t
    · subst ht; rw [getM_put] at hv; cases hv; rfl
    · rw [getM_put_ne ht] at hv; exact h v hv
theorem sta0 {p a b t c : Addr} {ns : List Str} {C : CS} (h1 : Src Cl p a b [] [] C) (h2 : C t = some (.dic (mkD lstF []))) (h3 : C c = some (.dic (mkD D.int (zeroM ns)))) (hn : ∀ s ∈ ns, Nm s) (h4 : ns.length ≤ 4) (d1 : t ≠ a) (d2 : t ≠ b) (d3 : c ≠ a) (d4 : c ≠ b) (d5 : t ≠ c) :
    Sta Cl p a b t c ns 0 [] [] (zeroM ns) C :=
  ⟨h1, h2, h3, ⟨hn, fun s h => by simp at h, by simp, h4, fun s hs => ⟨0, zero_is hs, rfl, by decide⟩, fun s h => by simp [getM] at h, fun s zs h => by simp [getM] at h⟩, fun s h => by simp at h, by simp,
   fun s v h => by have := zero_bd ns [] (fun v hv => by simp [getM] at hv) h; omega, fun s h => (zero_keys ns [] s h).elim id (fun h => by simp at h), zero_nd ns [] (by simp), d1, d2, d3, d4, d5⟩
theorem Sta.mono {p a b t c : Addr} {ns : List Str} {i j : Nat} {m : List (Str × List Str)} {cs cl : List (Str × Int)} {C : CS} (h : Sta Cl p a b t c ns i m cs cl C) (hij : i ≤ j) : Sta Cl p a b t c ns j m cs cl C :=
  { h with bd := fun s v e => by have := h.bd s v e; omega }
theorem bag_nd {C : CS} {bg x : Addr} {n : Nat} {kvs : List (Key × D)} (h : Bag C bg n) (hx : C x = some (.dic kvs)) : bg ≠ x := fun e => by
  obtain ⟨l, hl⟩ := h.some
  rw [e, hx] at hl; cases hl
theorem lst_nd {C : CS} {q x : Addr} {l : List D} {kvs : List (Key × D)} (h : C q = some (.lst l)) (hx : C x = some (.dic kvs)) : q ≠ x := fun e => by rw [e, hx] at h; cases h
theorem Sta.put {p a b t c : Addr} {ns : List Str} {i : Nat} {m : List (Str × List Str)} {cs cl : List (Str × Int)} {C C' : CS} {s : Str} {v : Int} {zs : List Str} (h : Sta Cl p a b t c ns i m cs cl C) (hs : s ∈ ns) (hv : getM cl s = Option.some v) (hL : ∀ z ∈ zs, Ln z) (hl : zs.length ≤ 5)
    (h1 : Src Cl p a b (putM m s zs) (putM cs s (v + 1)) C') (h2 : C' t = Option.some (.dic (mkD lstF (putM m s zs)))) (h3 : C' c = Option.some (.dic (mkD D.int (putM cl s (v + 1))))) : Sta Cl p a b t c ns (i + 1) (putM m s zs) (putM cs s (v + 1)) (putM cl s (v + 1)) C' :=
  { h with
    src := h1, th := h2, ct := h3, al := h.al.put hs hv hL hl
    ck := fun x hx => (keys_mem_put hx).elim (fun e => by rw [e]; exact hs) (h.ck x)
    cn := keys_nd_put h.cn
    lk := fun x hx => (keys_mem_put hx).elim (fun e => by rw [e]; exact hs) (h.lk x)
    ln := keys_nd_put h.ln
    bd := fun x y e => by
      by_cases hx : x = s
      · subst hx
        rw [getM_put] at e
        have := h.bd x v hv
        have := Option.some.inj e
        omega
      · rw [getM_put_ne hx] at e
        have := h.bd x y e
        omega }
def spLaw : DSp := fun ds C k => ∃ ns : List Int, ds = [.slst (ns.map D.int)] ∧ ns.length ≤ 63 ∧ (∀ a, C a = none) ∧ k (.bl true) C
theorem ok_law {f : Addr} {fd : FuncData} (F : Fun K "law" "law" s_law f fd) (Z : Zs mg) (h1 : FnC P w K mg base "_law_source" 1 spSource) (h2 : FnC P w K mg base "_law_draw" 1 spDraw) (h3 : FnC P w K mg base "_law_names" 2 spNames) (h4 : FnC P w K mg base "_law_lines" 3 spLines) (h5 : FnC P w K mg base "_law_right" 3 (spRight Cl))
    (c1 : MakC P w K mg base "Sources" Cl 1 [] (spInit Cl)) (c2 : MthC P w K mg base Cl "put" 3 [] (spPut Cl)) (c3 : MthC P w K mg base Cl "remove" 2 [] (spRemove Cl)) (c4 : MthC P w K mg base Cl "lines" 2 [] (spLinesOf Cl)) (c5 : PrpC P w K mg base Cl "files" 1 (spFiles Cl)) : FnG P w K mg base CX0 4 f fd P_law (toSp K spLaw) := by
  refine fnS F sc_law v_law l_law g_law (fun ds C k h => by obtain ⟨_, rfl, _⟩ := h; rfl) fun X hB ds C k h => ?_
  obtain ⟨ns0, rfl, hl63, hC0, h⟩ := h
  have hsub : ∀ C', Sub C C' := fun C' x d e => by rw [hC0] at e; cases e
  obtain ⟨hx, hn, hs, hg, hd, hnox⟩ := hB
  change WSs X _ [some (.slst (ns0.map D.int)), none, none, none, none, none, none, none, none, none, none] C _
  refine wss_cons ?_
  refine x_for hx hnox (x_range1 hx Z (by walk_at "gl") ?_)
  walk_at "pyA"
  refine ⟨_, rfl, by split <;> (try split) <;> omega, by split <;> (try split) <;> omega, ?_⟩
  refine ⟨fun i env C' => ∃ o1 o2 o3 o4 o5 o6 o7 o8 o9 o10 : Option D, env = [some (.slst (ns0.map D.int)), o1, o2, o3, o4, o5, o6, o7, o8, o9, o10], ⟨_, _, _, _, _, _, _, _, _, _, rfl⟩, fun _ _ _ _ => trivial, ?_, ?_⟩
  · rintro i d env C1 hd' ⟨o1, o2, o3, o4, o5, o6, o7, o8, o9, o10, rfl⟩
    obtain ⟨hi, rfl⟩ := intsFrom_get hd'
    have hi6 : i < 6 := by
      have : ∀ j : Int, j ≤ 6 → i < j.toNat → i < 6 := fun j h1 h2 => by omega
      refine this _ ?_ hi
      split <;> (try split) <;> omega
    walk_at "pyCA"
    refine ⟨ns0, i, by rw [Int.zero_add], by omega, fun bg l hbg hB0 => ?_⟩
    walk_at "pyCA"
    refine ⟨bg, 0, rfl, hB0, by omega, fun l1 zs z4 zN hB1 => ?_⟩
    rw [put_put] at hB1 ⊢
    walk_at "pyCA"
    refine x_make0 hx c1 (by walk_at "gl") ?_
    intro p hp
    obtain ⟨C2, hC2⟩ : ∃ C2, C2 = DL.put C1 bg (.lst l1) := ⟨_, rfl⟩
    rw [← hC2] at hp hB1 ⊢
    have hbp : bg ≠ p := hB1.ne hp
    refine ⟨p, rfl, put_same, fun C3 a b hS ha hb hkeep => ⟨rfl, ?_⟩⟩
    have hB3 : Bag C3 bg 20 := by
      obtain ⟨lb, hlb⟩ := hB1.some
      refine hB1.of ?_ (by omega)
      rw [hkeep bg hbp (by rw [put_ne hbp, hlb]; simp), put_ne hbp]
    walk_at "pyCA"
    intro t ht
    obtain ⟨tp, ta, tb⟩ := hS.ne ht
    walk_at "pyCA"
    refine we_fa (lc1 ["_law_name"] [] hd (by walk_at "nm") (by decide +kernel) (by decide +kernel) (by decide +kernel) (by decide +kernel) (wi_list ?_))
    walk_at "pyCA"
    refine ⟨_, rfl, LcB.map (fun d => .tup [d, .int 0]) trivial (by rw [List.length_map, z4]; decide) ?_ fun q hq => fa_put hq ?_⟩
    · intro d hdm X' hX hn' hg'
      have hx' := hx.blk hX
      walk_at "pyCA"
      exact ⟨rfl, rfl⟩
    walk_at "pyCA"
    refine ⟨_, mkD D.int (zs.map fun s => (s, (0 : Int))), rfl, ?_, fun c hc => ?_⟩
    · simp only [seqR, mkD, List.map_map]; rfl
    rw [show mergeD [] (mkD D.int (zs.map fun s => (s, (0 : Int)))) = mkD D.int (zeroM zs) from merge_mk _ []]
    have hct : c ≠ t := fun e => by rw [e, put_same] at hc; cases hc
    rw [put_ne hct] at hc
    obtain ⟨cp, ca, cb⟩ := hS.ne hc
    have hSta : Sta Cl p a b t c zs 0 [] [] (zeroM zs) (DL.put (DL.put C3 t (.dic [])) c (.dic (mkD D.int (zeroM zs)))) :=
      sta0 ((hS.put tp ta tb).put cp ca cb) (by rw [put_ne hct.symm]; exact put_same) put_same zN (by omega) (Ne.symm ta) (Ne.symm tb) (Ne.symm ca) (Ne.symm cb) hct.symm
    have hB4 : Bag (DL.put (DL.put C3 t (.dic [])) c (.dic (mkD D.int (zeroM zs)))) bg 20 := (hB3.put (hB3.ne ht)).put (hB3.ne hc)
    generalize DL.put (DL.put C3 t (.dic [])) c (.dic (mkD D.int (zeroM zs))) = C4 at hSta hB4
    walk_at "pyCA"
    refine x_for hx hnox (x_range1 hx Z (by walk_at "gl") ?_)
    walk_at "pyCA"
    refine ⟨30, rfl, by omega, by omega, ?_⟩
    refine ⟨fun j env C' => ∃ (o4 o8 o9 o10 : Option D) (m : List (Str × List Str)) (cs cl : List (Str × Int)), env = [some (.slst (ns0.map D.int)), some (.int (0 + (i : Nat))), some (.own bg), some (.own c), o4, some (.lst (zs.map D.str)), some (.own p), some (.own t), o8, o9, o10] ∧ Sta Cl p a b t c zs j m cs cl C' ∧ Bag C' bg (20 + 100 * j),
      ⟨o4, o8, o9, o10, [], [], zeroM zs, rfl, hSta, hB4⟩, fun _ _ _ _ => trivial, ?_, ?_⟩
    · clear hSta hB4 hB3 hS ha hb hkeep hp hC2 hB1 ht hc
      rintro j d env C5 hd' ⟨o4, o8, o9, o10, m, cs, cl, rfl, hSta, hB⟩
      obtain ⟨hj, rfl⟩ := intsFrom_get hd'
      have hj : j < 30 := by simpa using hj
      walk_at "pyCA"
      obtain ⟨lb, hlb⟩ := hB.some
      refine ⟨bg, _, 4, rfl, hB, by omega, by decide, by decide, fun r l5 r0 r1 hB6 => ?_⟩
      have hSta6 := hSta.kn (kn_lst (c := .lst l5) hlb)
      generalize DL.put C5 bg (.lst l5) = C6 at hB6 hSta6
      refine Or.inl (ix_any (xs := zs.map D.str) r0 (by rw [List.length_map, z4]; omega) fun d hdm => ?_)
      obtain ⟨s, hs', rfl⟩ := List.mem_map.mp hdm
      walk_at "pyCA"
      obtain ⟨lb6, hlb6⟩ := hB6.some
      refine ⟨bg, _, rfl, hB6, by omega, fun l6 q ys y5 yL hq hB7' => ?_⟩
      have hbq : bg ≠ q := hB7'.ne hq
      have hB7 := hB7'.put (c := .lst (ys.map D.str)) hbq
      have hSta7 := hSta6.kn ((kn_lst (c := .lst l6) hlb6).trans (kn_fresh (c := .lst (ys.map D.str)) hq))
      have Q7 : DL.put (DL.put C6 bg (.lst l6)) q (.lst (ys.map D.str)) q = some (.lst (ys.map D.str)) := put_same
      generalize DL.put (DL.put C6 bg (.lst l6)) q (.lst (ys.map D.str)) = C7 at hB7 hSta7 Q7
      walk_at "pyCA"
      obtain ⟨lb7, hlb7⟩ := hB7.some
      refine ⟨bg, _, 4, rfl, hB7, by omega, by decide, by decide, fun r' l7 r0' r1' hB8 => ?_⟩
      have hSta8 := hSta7.kn (kn_lst (c := .lst l7) hlb7)
      have Q8 : DL.put C7 bg (.lst l7) q = some (.lst (ys.map D.str)) := by rw [put_ne hbq.symm]; exact Q7
      generalize DL.put C7 bg (.lst l7) = C8 at hB8 hSta8 Q8
      clear hSta hSta6 hSta7 hB hB6 hB7 hB7' hlb hlb6 hlb7 Q7 hq
      obtain ⟨f1, f2, f3⟩ := hSta8.few
      have T8 := hSta8.th
      have K8 := hSta8.ct
      obtain ⟨v, v1, v2, v3⟩ := hSta8.al.cnt s hs'
      have v30 := hSta8.bd s v v1
      have V8 : valD (mkD D.int cl) (Sum.inr s) = some (.int v) := by rw [valD_mk, v1]; rfl
      walk_at "pyCA"
      · rename_i hr hin0
        have hin : (getM m s).isSome = true := by rw [valD_mk, Option.isSome_map] at hin0; exact hin0
        obtain ⟨ys', hys'⟩ : ∃ y, getM m s = some y := Option.isSome_iff_exists.mp hin
        refine ⟨t, _, rfl, T8, ?_⟩
        walk_at "pyCA"
        refine ⟨_, Sum.inr s, lstF ys', rfl, T8, by rw [valD_mk, hys']; rfl, ?_⟩
        rw [dropD_mk]
        have S9 : Src Cl p a b m cs (DL.put C8 t (.dic (mkD lstF (dropM m s)))) := hSta8.src.put (Ne.symm fun e => by have := hSta8.src.ho; rw [← e, T8] at this; cases this) hSta8.ta.symm hSta8.tb.symm
        have T9 : DL.put C8 t (.dic (mkD lstF (dropM m s))) t = some (.dic (mkD lstF (dropM m s))) := put_same
        have K9 : DL.put C8 t (.dic (mkD lstF (dropM m s))) c = some (.dic (mkD D.int cl)) := by rw [put_ne hSta8.tc.symm]; exact K8
        have hB9 : Bag (DL.put C8 t (.dic (mkD lstF (dropM m s)))) bg _ := hB8.put (bag_nd hB8 T8)
        generalize DL.put C8 t (.dic (mkD lstF (dropM m s))) = C9 at S9 T9 K9 hB9
        walk_at "pyCA"
        refine x_meth hx c3 ?_
        walk_at "pyCA"
        refine ⟨⟨_, _, S9.ins, by decide +kernel⟩, ?_⟩
        walk_at "pyCA"
        refine ⟨p, a, b, m, cs, s, rfl, S9, hin, fun C10 hS10 hkeep => ?_⟩
        have hSta10 : Sta Cl p a b t c zs j (dropM m s) cs cl C10 :=
          { hSta8 with src := hS10, th := (hkeep t hSta8.ta).trans T9, ct := (hkeep c hSta8.ca).trans K9, al := hSta8.al.drop s }
        have hB10 : Bag C10 bg (20 + 100 * (j + 1)) := hB9.of (hkeep bg (bag_nd hB9 S9.ha)) (by omega)
        walk_at "pyCA"
        all_goals try walk_at "bad"
        refine ⟨p, a, b, t, c, zs, dropM m s, cs, cl, rfl, hSta10.src, hSta10.th, hSta10.ct, hSta10.al, ?_⟩
        walk_at "pyCA"
        all_goals try walk_at "bad"
        exact ⟨_, _, _, _, _, _, _, rfl, hSta10.mono (by omega), hB10⟩
      all_goals refine setX_ok K8 (by rw [len_mk]; exact Nat.lt_of_le_of_lt f3 (by decide)) ?_
      all_goals rw [putD_mk (f := D.int)]
      all_goals have K9 : DL.put C8 c (.dic (mkD D.int (putM cl s (v + 1)))) c = some (.dic (mkD D.int (putM cl s (v + 1)))) := put_same
      all_goals have T9 : DL.put C8 c (.dic (mkD D.int (putM cl s (v + 1)))) t = some (.dic (mkD lstF m)) := by rw [put_ne hSta8.tc]; exact T8
      all_goals have Q9 : DL.put C8 c (.dic (mkD D.int (putM cl s (v + 1)))) q = some (.lst (ys.map D.str)) := by rw [put_ne (lst_nd Q8 K8)]; exact Q8
      all_goals have S9 : Src Cl p a b m cs (DL.put C8 c (.dic (mkD D.int (putM cl s (v + 1))))) := hSta8.src.put (Ne.symm fun e => by have := hSta8.src.ho; rw [← e, K8] at this; cases this) hSta8.ca.symm hSta8.cb.symm
      all_goals have hB9 : Bag (DL.put C8 c (.dic (mkD D.int (putM cl s (v + 1))))) bg _ := hB8.put (bag_nd hB8 K8)
      all_goals generalize DL.put C8 c (.dic (mkD D.int (putM cl s (v + 1)))) = C9 at S9 T9 K9 Q9 hB9
      all_goals walk_at "pyCA"
      all_goals refine setX_ok T9 (by rw [len_mk]; exact Nat.lt_of_le_of_lt f1 (by decide)) ?_
      all_goals rw [show D.lst (ys.map D.str) = lstF ys from rfl, putD_mk (f := lstF)]
      all_goals have T10 : DL.put C9 t (.dic (mkD lstF (putM m s ys))) t = some (.dic (mkD lstF (putM m s ys))) := put_same
      all_goals have K10 : DL.put C9 t (.dic (mkD lstF (putM m s ys))) c = some (.dic (mkD D.int (putM cl s (v + 1)))) := by rw [put_ne hSta8.tc.symm]; exact K9
      all_goals have Q10 : DL.put C9 t (.dic (mkD lstF (putM m s ys))) q = some (.lst (ys.map D.str)) := by rw [put_ne (lst_nd Q9 T9)]; exact Q9
      all_goals have S10 : Src Cl p a b m cs (DL.put C9 t (.dic (mkD lstF (putM m s ys)))) := S9.put (Ne.symm fun e => by have := S9.ho; rw [← e, T9] at this; cases this) hSta8.ta.symm hSta8.tb.symm
      all_goals have hB10 : Bag (DL.put C9 t (.dic (mkD lstF (putM m s ys)))) bg _ := hB9.put (bag_nd hB9 T9)
      all_goals generalize DL.put C9 t (.dic (mkD lstF (putM m s ys))) = C10 at S10 T10 K10 Q10 hB10
      all_goals walk_at "pyCA"
      all_goals try refine tup_o Q10 ?_
      all_goals walk_at "pyCA"
      all_goals refine x_meth hx c2 ?_
      all_goals walk_at "pyCA"
      all_goals refine ⟨⟨_, _, S10.ins, by decide +kernel⟩, ?_⟩
      all_goals walk_at "pyCA"
      all_goals refine ⟨p, a, b, m, cs, s, _, ys, v, rfl, S10, hSta8.al.nm s hs', by first | exact .inl rfl | exact .inr ⟨q, rfl, Q10⟩, yL, by omega, by omega, by omega, v2, v3, by omega, fun C11 hS11 hkeep => ?_⟩
      all_goals have K11 : C11 c = some (.dic (mkD D.int (putM cl s (v + 1)))) := (hkeep c hSta8.ca hSta8.cb).trans K10
      all_goals have T11 : C11 t = some (.dic (mkD lstF (putM m s ys))) := (hkeep t hSta8.ta hSta8.tb).trans T10
      all_goals have Q11 : C11 q = some (.lst (ys.map D.str)) := (hkeep q (lst_nd Q10 S10.ha) (lst_nd Q10 S10.hb)).trans Q10
      all_goals have hB11 : Bag C11 bg (20 + 100 * (j + 1)) := hB10.of (hkeep bg (bag_nd hB10 S10.ha) (bag_nd hB10 S10.hb)) (by omega)
      all_goals have V11 : valD (mkD D.int (putM cl s (v + 1))) (Sum.inr s) = some (.int (v + 1)) := by rw [valD_mk, getM_put]; rfl
      all_goals have hSta11 := hSta8.put hs' v1 yL y5 hS11 T11 K11
      all_goals walk_at "pyCA"
      all_goals try (rename_i q; simp at q; done)
      all_goals refine app_ok Q11 (by rw [List.length_map]; exact Nat.lt_of_le_of_lt y5 (by decide)) ?_
      all_goals have hB12 := hB11.put (c := .lst (ys.map D.str ++ [D.str "later"])) hbq
      all_goals have hSta12 := hSta11.kn (kn_lst (c := .lst (ys.map D.str ++ [D.str "later"])) Q11)
      all_goals generalize DL.put C11 q (.lst (ys.map D.str ++ [D.str "later"])) = C12 at hB12 hSta12
      all_goals walk_at "pyM"
      all_goals refine x_meth hx c4 ?_
      all_goals walk_at "pyM"
      all_goals refine ⟨⟨_, _, hSta12.src.ins, by decide +kernel⟩, ?_⟩
      all_goals walk_at "pyM"
      all_goals refine ⟨p, a, b, putM m s ys, putM cs s (v + 1), s, ys, rfl, hSta12.src, getM_put, fun q3 hq3 => ?_⟩
      all_goals walk_at "pyM"
      all_goals refine app_put (by rw [List.length_map]; exact Nat.lt_of_le_of_lt y5 (by decide)) ?_
      all_goals have hB13 := hB12.put (c := .lst (ys.map D.str ++ [D.str "later"])) (hB12.ne hq3)
      all_goals have hSta13 := hSta12.kn (kn_fresh (c := .lst (ys.map D.str ++ [D.str "later"])) hq3)
      all_goals generalize DL.put C12 q3 (.lst (ys.map D.str ++ [D.str "later"])) = C13 at hB13 hSta13
      all_goals walk_at "pyM"
      all_goals refine x_prop hx hnox c5 ?_
      all_goals walk_at "pyM"
      all_goals refine ⟨⟨_, _, hSta13.src.ins⟩, p, a, b, _, _, rfl, hSta13.src, Nat.lt_of_le_of_lt hSta13.few.1 (by decide), fun ys4 q4 w1 _ hq4 => ?_⟩
      all_goals walk_at "pyM"
      all_goals refine app_put (by rw [List.length_map, w1.length_eq, List.length_map]; exact Nat.lt_of_le_of_lt hSta13.few.1 (by decide)) ?_
      all_goals have hB14 := hB13.put (c := .lst (ys4.map D.str ++ [D.str "later"])) (hB13.ne hq4)
      all_goals have hSta14 := hSta13.kn (kn_fresh (c := .lst (ys4.map D.str ++ [D.str "later"])) hq4)
      all_goals generalize DL.put C13 q4 (.lst (ys4.map D.str ++ [D.str "later"])) = C14 at hB14 hSta14
      all_goals walk_at "pyCA"
      all_goals refine ⟨p, a, b, t, c, zs, _, _, _, rfl, hSta14.src, hSta14.th, hSta14.ct, hSta14.al, ?_⟩
      all_goals walk_at "pyCA"
      all_goals try walk_at "bad"
      all_goals exact ⟨_, _, _, _, _, _, _, rfl, hSta14, hB14⟩
    · rintro env C5 ⟨o4, o8, o9, o10, m, cs, cl, rfl, hSta5, hB5⟩
      walk_at "pyCA"
      exact ⟨_, _, _, _, _, _, _, _, _, _, rfl⟩
  · rintro env C1 ⟨o1, o2, o3, o4, o5, o6, o7, o8, o9, o10, rfl⟩
    walk_at "pyCA"
    exact ⟨C, hsub _, h⟩
end
end K31
namespace K31
section
theorem dat_ints {K : PySem.W.Frag} {G : Hp} : ∀ ns : List Int, DatAll K G (ns.map V.int) (ns.map D.int)
  | [] => .nil
  | _ :: ns => .cons (.int _) (dat_ints ns)
theorem wld0 {K : PySem.W.Frag} {H : Hp} : Wld K H (fun _ => none) H := ⟨fun _ _ h => h, fun _ _ e => by cases e⟩

theorem all_mk {l : PySem.W.OpenLaw} {w : World} {K : PySem.W.Frag} {h : Heap} {mg : Str → Option Value} {fa : Addr} (X : K.In h) (G : h.Ns mainGlobals mg) (hfa : mg "law" = some (.ref fa))
    {C1 : Addr}
    {f1 : Addr} {od1 an1 : Option Addr} {sl1 : Array (Option Value)} {oc1 kV1 dc1 pm1 cd1 ct1 : Value}
    {f2 : Addr} {od2 an2 : Option Addr} {sl2 : Array (Option Value)} {oc2 kV2 dc2 pm2 cd2 ct2 : Value}
    {f3 : Addr} {od3 an3 : Option Addr} {sl3 : Array (Option Value)} {oc3 kV3 dc3 pm3 cd3 ct3 : Value}
    {f4 : Addr} {od4 an4 : Option Addr} {sl4 : Array (Option Value)} {oc4 kV4 dc4 pm4 cd4 ct4 : Value}
    {f5 : Addr} {od5 an5 : Option Addr} {sl5 : Array (Option Value)} {oc5 kV5 dc5 pm5 cd5 ct5 : Value}
    {f6 : Addr} {od6 an6 : Option Addr} {sl6 : Array (Option Value)} {oc6 kV6 dc6 pm6 cd6 ct6 : Value}
    {f7 : Addr} {od7 an7 : Option Addr} {sl7 : Array (Option Value)} {oc7 kV7 dc7 pm7 cd7 ct7 : Value}
    {f8 : Addr} {od8 an8 : Option Addr} {sl8 : Array (Option Value)} {oc8 kV8 dc8 pm8 cd8 ct8 : Value}
    {f9 : Addr} {od9 an9 : Option Addr} {sl9 : Array (Option Value)} {oc9 kV9 dc9 pm9 cd9 ct9 : Value}
    {f10 : Addr} {od10 an10 : Option Addr} {sl10 : Array (Option Value)} {oc10 kV10 dc10 pm10 cd10 ct10 : Value}
    {pp10 : Addr}
    {f11 : Addr} {od11 an11 : Option Addr} {sl11 : Array (Option Value)} {oc11 kV11 dc11 pm11 cd11 ct11 : Value}
    {f12 : Addr} {od12 an12 : Option Addr} {sl12 : Array (Option Value)} {oc12 kV12 dc12 pm12 cd12 ct12 : Value}
    {f13 : Addr} {od13 an13 : Option Addr} {sl13 : Array (Option Value)} {oc13 kV13 dc13 pm13 cd13 ct13 : Value}
    {f14 : Addr} {od14 an14 : Option Addr} {sl14 : Array (Option Value)} {oc14 kV14 dc14 pm14 cd14 ct14 : Value}
    {f15 : Addr} {od15 an15 : Option Addr} {sl15 : Array (Option Value)} {oc15 kV15 dc15 pm15 cd15 ct15 : Value}
    {f16 : Addr} {od16 an16 : Option Addr} {sl16 : Array (Option Value)} {oc16 kV16 dc16 pm16 cd16 ct16 : Value}
    {f17 : Addr} {od17 an17 : Option Addr} {sl17 : Array (Option Value)} {oc17 kV17 dc17 pm17 cd17 ct17 : Value}
    {f18 : Addr} {od18 an18 : Option Addr} {sl18 : Array (Option Value)} {oc18 kV18 dc18 pm18 cd18 ct18 : Value}
    {f19 : Addr} {od19 an19 : Option Addr} {sl19 : Array (Option Value)} {oc19 kV19 dc19 pm19 cd19 ct19 : Value}
    {tk0 : Tok}
    {tk1 : Tok}
    {tk2 : Tok}
    {tk3 : Tok}
    {tk4 : Tok}
    (aC1 : PySem.W.nsIn K mainGlobals "Sources" = some (some (.ref C1))) (cg1 : PySem.W.plainGet K C1 Str.empty = true) (ch1 : PySem.W.hasDictIn K C1 = true) (co1 : PySem.W.plainOver K C1 = true) (cx1 : PySem.W.findIn K (.ref C1) "__setattr__" = some (some (.builtin "object.__setattr__"))) (cm1 : PySem.W.makesIn K C1 = true) (ck1 : PySem.W.keepIn K (.ref C1) = true) (n1_0 : PySem.W.findIn K (.ref C1) "present" = some none) (n1_1 : PySem.W.findIn K (.ref C1) "counts" = some none)
    (a1 : PySem.W.nsIn K mainGlobals "is_name" = some (some (.ref f1))) (l1 : K.lookup f1 = some ⟨oc1, od1, .func (PySem.W.fnOf "is_name" "is_name" (defArgs s_is_name) (defBody s_is_name) (defScope s_is_name) .none kV1 dc1 pm1 an1 cd1 ct1), sl1⟩) (c1 : PySem.W.codeIn K cd1 "is_name" = true) (k1 : PySem.W.keepIn K (.ref f1) = true)
    (a2 : PySem.W.nsIn K mainGlobals "is_line" = some (some (.ref f2))) (l2 : K.lookup f2 = some ⟨oc2, od2, .func (PySem.W.fnOf "is_line" "is_line" (defArgs s_is_line) (defBody s_is_line) (defScope s_is_line) .none kV2 dc2 pm2 an2 cd2 ct2), sl2⟩) (c2 : PySem.W.codeIn K cd2 "is_line" = true) (k2 : PySem.W.keepIn K (.ref f2) = true)
    (a3 : PySem.W.nsIn K mainGlobals "look_lines" = some (some (.ref f3))) (l3 : K.lookup f3 = some ⟨oc3, od3, .func (PySem.W.fnOf "look_lines" "look_lines" (defArgs s_look_lines) (defBody s_look_lines) (defScope s_look_lines) .none kV3 dc3 pm3 an3 cd3 ct3), sl3⟩) (c3 : PySem.W.codeIn K cd3 "look_lines" = true) (k3 : PySem.W.keepIn K (.ref f3) = true)
    (a4 : PySem.W.nsIn K mainGlobals "_law_source" = some (some (.ref f4))) (l4 : K.lookup f4 = some ⟨oc4, od4, .func (PySem.W.fnOf "_law_source" "_law_source" (defArgs s_source) (defBody s_source) (defScope s_source) .none kV4 dc4 pm4 an4 cd4 ct4), sl4⟩) (c4 : PySem.W.codeIn K cd4 "_law_source" = true) (k4 : PySem.W.keepIn K (.ref f4) = true)
    (a5 : PySem.W.nsIn K mainGlobals "_law_draw" = some (some (.ref f5))) (l5 : K.lookup f5 = some ⟨oc5, od5, .func (PySem.W.fnOf "_law_draw" "_law_draw" (defArgs s_draw) (defBody s_draw) (defScope s_draw) .none kV5 dc5 pm5 an5 cd5 ct5), sl5⟩) (c5 : PySem.W.codeIn K cd5 "_law_draw" = true) (k5 : PySem.W.keepIn K (.ref f5) = true)
    (a6 : PySem.W.nsIn K mainGlobals "_law_names" = some (some (.ref f6))) (l6 : K.lookup f6 = some ⟨oc6, od6, .func (PySem.W.fnOf "_law_names" "_law_names" (defArgs s_names) (defBody s_names) (defScope s_names) .none kV6 dc6 pm6 an6 cd6 ct6), sl6⟩) (c6 : PySem.W.codeIn K cd6 "_law_names" = true) (k6 : PySem.W.keepIn K (.ref f6) = true)
    (a7 : PySem.W.nsIn K mainGlobals "_law_text" = some (some (.ref f7))) (l7 : K.lookup f7 = some ⟨oc7, od7, .func (PySem.W.fnOf "_law_text" "_law_text" (defArgs s_text) (defBody s_text) (defScope s_text) .none kV7 dc7 pm7 an7 cd7 ct7), sl7⟩) (c7 : PySem.W.codeIn K cd7 "_law_text" = true) (k7 : PySem.W.keepIn K (.ref f7) = true)
    (a8 : PySem.W.nsIn K mainGlobals "_law_lines" = some (some (.ref f8))) (l8 : K.lookup f8 = some ⟨oc8, od8, .func (PySem.W.fnOf "_law_lines" "_law_lines" (defArgs s_lines) (defBody s_lines) (defScope s_lines) .none kV8 dc8 pm8 an8 cd8 ct8), sl8⟩) (c8 : PySem.W.codeIn K cd8 "_law_lines" = true) (k8 : PySem.W.keepIn K (.ref f8) = true)
    (a9 : PySem.W.findIn K (.ref C1) "__init__" = some (some (.ref f9))) (i9 : PySem.W.isFn K (.ref f9) = true) (l9 : K.lookup f9 = some ⟨oc9, od9, .func (PySem.W.fnOf "__init__" "Sources.__init__" (defArgs s_Sources___init__) (defBody s_Sources___init__) (defScope s_Sources___init__) .none kV9 dc9 pm9 an9 cd9 ct9), sl9⟩) (c9 : PySem.W.codeIn K cd9 "Sources.__init__" = true) (k9 : PySem.W.keepIn K (.ref f9) = true)
    (a10 : PySem.W.findIn K (.ref C1) "files" = some (some (.ref pp10))) (pg10 : PySem.W.specialIn K (.ref pp10) "__get__" = some (some (.builtin "property.__get__"))) (pt10 : PySem.W.takesIn K (.ref pp10) = some true) (pr10 : ∃ rest, PySem.W.recIn K pp10 "property" = some (.ref f10 :: rest)) (l10 : K.lookup f10 = some ⟨oc10, od10, .func (PySem.W.fnOf "files" "Sources.files" (defArgs s_Sources_files) (defBody s_Sources_files) (defScope s_Sources_files) .none kV10 dc10 pm10 an10 cd10 ct10), sl10⟩) (c10 : PySem.W.codeIn K cd10 "Sources.files" = true) (k10 : PySem.W.keepIn K (.ref f10) = true)
    (a11 : PySem.W.findIn K (.ref C1) "__len__" = some (some (.ref f11))) (i11 : PySem.W.isFn K (.ref f11) = true) (l11 : K.lookup f11 = some ⟨oc11, od11, .func (PySem.W.fnOf "__len__" "Sources.__len__" (defArgs s_Sources___len__) (defBody s_Sources___len__) (defScope s_Sources___len__) .none kV11 dc11 pm11 an11 cd11 ct11), sl11⟩) (c11 : PySem.W.codeIn K cd11 "Sources.__len__" = true) (k11 : PySem.W.keepIn K (.ref f11) = true)
    (a12 : PySem.W.findIn K (.ref C1) "__contains__" = some (some (.ref f12))) (i12 : PySem.W.isFn K (.ref f12) = true) (l12 : K.lookup f12 = some ⟨oc12, od12, .func (PySem.W.fnOf "__contains__" "Sources.__contains__" (defArgs s_Sources___contains__) (defBody s_Sources___contains__) (defScope s_Sources___contains__) .none kV12 dc12 pm12 an12 cd12 ct12), sl12⟩) (c12 : PySem.W.codeIn K cd12 "Sources.__contains__" = true) (k12 : PySem.W.keepIn K (.ref f12) = true)
    (a13 : PySem.W.findIn K (.ref C1) "look_file" = some (some (.ref f13))) (i13 : PySem.W.isFn K (.ref f13) = true) (l13 : K.lookup f13 = some ⟨oc13, od13, .func (PySem.W.fnOf "look_file" "Sources.look_file" (defArgs s_Sources_look_file) (defBody s_Sources_look_file) (defScope s_Sources_look_file) .none kV13 dc13 pm13 an13 cd13 ct13), sl13⟩) (c13 : PySem.W.codeIn K cd13 "Sources.look_file" = true) (k13 : PySem.W.keepIn K (.ref f13) = true)
    (a14 : PySem.W.findIn K (.ref C1) "put" = some (some (.ref f14))) (i14 : PySem.W.isFn K (.ref f14) = true) (l14 : K.lookup f14 = some ⟨oc14, od14, .func (PySem.W.fnOf "put" "Sources.put" (defArgs s_Sources_put) (defBody s_Sources_put) (defScope s_Sources_put) .none kV14 dc14 pm14 an14 cd14 ct14), sl14⟩) (c14 : PySem.W.codeIn K cd14 "Sources.put" = true) (k14 : PySem.W.keepIn K (.ref f14) = true)
    (a15 : PySem.W.findIn K (.ref C1) "remove" = some (some (.ref f15))) (i15 : PySem.W.isFn K (.ref f15) = true) (l15 : K.lookup f15 = some ⟨oc15, od15, .func (PySem.W.fnOf "remove" "Sources.remove" (defArgs s_Sources_remove) (defBody s_Sources_remove) (defScope s_Sources_remove) .none kV15 dc15 pm15 an15 cd15 ct15), sl15⟩) (c15 : PySem.W.codeIn K cd15 "Sources.remove" = true) (k15 : PySem.W.keepIn K (.ref f15) = true)
    (a16 : PySem.W.findIn K (.ref C1) "edition" = some (some (.ref f16))) (i16 : PySem.W.isFn K (.ref f16) = true) (l16 : K.lookup f16 = some ⟨oc16, od16, .func (PySem.W.fnOf "edition" "Sources.edition" (defArgs s_Sources_edition) (defBody s_Sources_edition) (defScope s_Sources_edition) .none kV16 dc16 pm16 an16 cd16 ct16), sl16⟩) (c16 : PySem.W.codeIn K cd16 "Sources.edition" = true) (k16 : PySem.W.keepIn K (.ref f16) = true)
    (a17 : PySem.W.findIn K (.ref C1) "lines" = some (some (.ref f17))) (i17 : PySem.W.isFn K (.ref f17) = true) (l17 : K.lookup f17 = some ⟨oc17, od17, .func (PySem.W.fnOf "lines" "Sources.lines" (defArgs s_Sources_lines) (defBody s_Sources_lines) (defScope s_Sources_lines) .none kV17 dc17 pm17 an17 cd17 ct17), sl17⟩) (c17 : PySem.W.codeIn K cd17 "Sources.lines" = true) (k17 : PySem.W.keepIn K (.ref f17) = true)
    (a18 : PySem.W.nsIn K mainGlobals "_law_right" = some (some (.ref f18))) (l18 : K.lookup f18 = some ⟨oc18, od18, .func (PySem.W.fnOf "_law_right" "_law_right" (defArgs s_right) (defBody s_right) (defScope s_right) .none kV18 dc18 pm18 an18 cd18 ct18), sl18⟩) (c18 : PySem.W.codeIn K cd18 "_law_right" = true) (k18 : PySem.W.keepIn K (.ref f18) = true)
    (a19 : PySem.W.nsIn K mainGlobals "law" = some (some (.ref f19))) (l19 : K.lookup f19 = some ⟨oc19, od19, .func (PySem.W.fnOf "law" "law" (defArgs s_law) (defBody s_law) (defScope s_law) .none kV19 dc19 pm19 an19 cd19 ct19), sl19⟩) (c19 : PySem.W.codeIn K cd19 "law" = true) (k19 : PySem.W.keepIn K (.ref f19) = true)
    (m0 : PySem.W.nsIn K mainGlobals "LETTERS" = some (some (.str "abcdefghijklmnopqrstuvwxyz" tk0)))
    (m1 : PySem.W.nsIn K mainGlobals "MOST_LETTERS" = some (some (.int 8 tk1)))
    (m2 : PySem.W.nsIn K mainGlobals "FEED" = some (some (.str "\n" tk2)))
    (m3 : PySem.W.nsIn K mainGlobals "MOST_LINES" = some (some (.int 300 tk3)))
    (m4 : PySem.W.nsIn K mainGlobals "MOST_FILES" = some (some (.int 20 tk4)))
    (z0 : PySem.W.nsIn K mainGlobals "int" = some none)
    (z1 : PySem.W.nsIn K mainGlobals "bool" = some none)
    (z2 : PySem.W.nsIn K mainGlobals "str" = some none)
    (z3 : PySem.W.nsIn K mainGlobals "list" = some none)
    (z4 : PySem.W.nsIn K mainGlobals "tuple" = some none)
    (z5 : PySem.W.nsIn K mainGlobals "len" = some none)
    (z6 : PySem.W.nsIn K mainGlobals "isinstance" = some none)
    (z7 : PySem.W.nsIn K mainGlobals "abs" = some none)
    (z8 : PySem.W.nsIn K mainGlobals "min" = some none)
    (z9 : PySem.W.nsIn K mainGlobals "max" = some none)
    (z10 : PySem.W.nsIn K mainGlobals "any" = some none)
    (z11 : PySem.W.nsIn K mainGlobals "all" = some none)
    (z12 : PySem.W.nsIn K mainGlobals "sum" = some none)
    (z13 : PySem.W.nsIn K mainGlobals "range" = some none)
    (z14 : PySem.W.nsIn K mainGlobals "zip" = some none)
    (z15 : PySem.W.nsIn K mainGlobals "enumerate" = some none)
    (z16 : PySem.W.nsIn K mainGlobals "repr" = some none)
    (z17 : PySem.W.nsIn K mainGlobals "sorted" = some none)
    (z18 : PySem.W.nsIn K mainGlobals "dict" = some none) :
    ∃ fd : FuncData, (∀ (s : Shared) (v : Value), BindsTo s fd ⟨[v], []⟩ [("_law_script", v)]) ∧ ∀ base : Heap, K.In base → base.Ns mainGlobals mg → FnG l.prog w K mg base CX0 4 fa fd ["_law_script"] (toSp K spLaw) := by
  have e := hfa.symm.trans (PySem.W.mg_of X G a19)
  cases e
  have Z : Zs mg := ⟨PySem.W.mg_none_of X G z0, PySem.W.mg_none_of X G z1, PySem.W.mg_none_of X G z2, PySem.W.mg_none_of X G z3, PySem.W.mg_none_of X G z4, PySem.W.mg_none_of X G z5, PySem.W.mg_none_of X G z6, PySem.W.mg_none_of X G z7, PySem.W.mg_none_of X G z8, PySem.W.mg_none_of X G z9, PySem.W.mg_none_of X G z10, PySem.W.mg_none_of X G z11, PySem.W.mg_none_of X G z12, PySem.W.mg_none_of X G z13, PySem.W.mg_none_of X G z14, PySem.W.mg_none_of X G z15, PySem.W.mg_none_of X G z16, PySem.W.mg_none_of X G z17, PySem.W.mg_none_of X G z18⟩
  have g0 : MgK K mg "LETTERS" (.str "abcdefghijklmnopqrstuvwxyz") := mgk_str (PySem.W.mg_of X G m0)
  have g1 : MgK K mg "MOST_LETTERS" (.int 8) := mgk_int (PySem.W.mg_of X G m1)
  have g2 : MgK K mg "FEED" (.str "\n") := mgk_str (PySem.W.mg_of X G m2)
  have g3 : MgK K mg "MOST_LINES" (.int 300) := mgk_int (PySem.W.mg_of X G m3)
  have g4 : MgK K mg "MOST_FILES" (.int 20) := mgk_int (PySem.W.mg_of X G m4)
  have cls1 : Cls K C1 := ⟨cg1, ch1, co1, cx1⟩
  have T1 := (⟨⟨cls1, n1_0⟩, ⟨cls1, n1_1⟩⟩ : Txc K C1)
  have F1 := fun_mk (st := s_is_name) l1 c1 k1
  have b1 := F1.binds (ps := ["thing"]) fun _ _ _ _ _ _ us hl => match us, hl with | [_], _ => rfl
  have F2 := fun_mk (st := s_is_line) l2 c2 k2
  have b2 := F2.binds (ps := ["thing"]) fun _ _ _ _ _ _ us hl => match us, hl with | [_], _ => rfl
  have F3 := fun_mk (st := s_look_lines) l3 c3 k3
  have b3 := F3.binds (ps := ["lines"]) fun _ _ _ _ _ _ us hl => match us, hl with | [_], _ => rfl
  have F4 := fun_mk (st := s_source) l4 c4 k4
  have b4 := F4.binds (ps := ["_law_script", "_law_place"]) fun _ _ _ _ _ _ us hl => match us, hl with | [_, _], _ => rfl
  have F5 := fun_mk (st := s_draw) l5 c5 k5
  have b5 := F5.binds (ps := ["_law_source_here", "_law_many"]) fun _ _ _ _ _ _ us hl => match us, hl with | [_, _], _ => rfl
  have F6 := fun_mk (st := s_names) l6 c6 k6
  have b6 := F6.binds (ps := ["_law_source_here", "_law_many"]) fun _ _ _ _ _ _ us hl => match us, hl with | [_, _], _ => rfl
  have F7 := fun_mk (st := s_text) l7 c7 k7
  have b7 := F7.binds (ps := ["_law_source_here", "_law_size"]) fun _ _ _ _ _ _ us hl => match us, hl with | [_, _], _ => rfl
  have F8 := fun_mk (st := s_lines) l8 c8 k8
  have b8 := F8.binds (ps := ["_law_source_here"]) fun _ _ _ _ _ _ us hl => match us, hl with | [_], _ => rfl
  have F9 := fun_mk (st := s_Sources___init__) l9 c9 k9
  have b9 := F9.binds (ps := ["self"]) fun _ _ _ _ _ _ us hl => match us, hl with | [_], _ => rfl
  have F10 := fun_mk (st := s_Sources_files) l10 c10 k10
  have b10 := F10.binds (ps := ["self"]) fun _ _ _ _ _ _ us hl => match us, hl with | [_], _ => rfl
  have F11 := fun_mk (st := s_Sources___len__) l11 c11 k11
  have b11 := F11.binds (ps := ["self"]) fun _ _ _ _ _ _ us hl => match us, hl with | [_], _ => rfl
  have F12 := fun_mk (st := s_Sources___contains__) l12 c12 k12
  have b12 := F12.binds (ps := ["self", "file"]) fun _ _ _ _ _ _ us hl => match us, hl with | [_, _], _ => rfl
  have F13 := fun_mk (st := s_Sources_look_file) l13 c13 k13
  have b13 := F13.binds (ps := ["self", "file"]) fun _ _ _ _ _ _ us hl => match us, hl with | [_, _], _ => rfl
  have F14 := fun_mk (st := s_Sources_put) l14 c14 k14
  have b14 := F14.binds (ps := ["self", "file", "lines"]) fun _ _ _ _ _ _ us hl => match us, hl with | [_, _, _], _ => rfl
  have F15 := fun_mk (st := s_Sources_remove) l15 c15 k15
  have b15 := F15.binds (ps := ["self", "file"]) fun _ _ _ _ _ _ us hl => match us, hl with | [_, _], _ => rfl
  have F16 := fun_mk (st := s_Sources_edition) l16 c16 k16
  have b16 := F16.binds (ps := ["self", "file"]) fun _ _ _ _ _ _ us hl => match us, hl with | [_, _], _ => rfl
  have F17 := fun_mk (st := s_Sources_lines) l17 c17 k17
  have b17 := F17.binds (ps := ["self", "file"]) fun _ _ _ _ _ _ us hl => match us, hl with | [_, _], _ => rfl
  have F18 := fun_mk (st := s_right) l18 c18 k18
  have b18 := F18.binds (ps := ["_law_sources", "_law_names_here", "_law_there", "_law_counts"]) fun _ _ _ _ _ _ us hl => match us, hl with | [_, _, _, _], _ => rfl
  refine ⟨PySem.W.fnOf "law" "law" (defArgs s_law) (defBody s_law) (defScope s_law) .none kV19 dc19 pm19 an19 cd19 ct19, fun s v => .of_eq rfl, fun base _ _ => ?_⟩
  have h1 : FnC l.prog w K mg base "is_name" 1 spIsNm := ⟨_, _, _, ok_isName F1 Z g0 g1, PySem.W.mg_of X G a1, k1, b1⟩
  have h2 : FnC l.prog w K mg base "is_line" 1 spIsLn := ⟨_, _, _, ok_isLine F2 Z g2, PySem.W.mg_of X G a2, k2, b2⟩
  have h3 : FnC l.prog w K mg base "look_lines" 2 spLookLines := ⟨_, _, _, ok_lookLines F3 Z h2, PySem.W.mg_of X G a3, k3, b3⟩
  have h4 : FnC l.prog w K mg base "_law_source" 1 spSource := ⟨_, _, _, ok_source F4 Z, PySem.W.mg_of X G a4, k4, b4⟩
  have h5 : FnC l.prog w K mg base "_law_draw" 1 spDraw := ⟨_, _, _, ok_draw F5 , PySem.W.mg_of X G a5, k5, b5⟩
  have h6 : FnC l.prog w K mg base "_law_names" 2 spNames := ⟨_, _, _, ok_names F6 Z h5, PySem.W.mg_of X G a6, k6, b6⟩
  have h7 : FnC l.prog w K mg base "_law_text" 2 spText := ⟨_, _, _, ok_text F7 Z h5, PySem.W.mg_of X G a7, k7, b7⟩
  have h8 : FnC l.prog w K mg base "_law_lines" 3 spLines := ⟨_, _, _, ok_lines F8 Z h5 h7, PySem.W.mg_of X G a8, k8, b8⟩
  have h9 : MakC l.prog w K mg base "Sources" C1 1 [] (spInit C1) := ⟨PySem.W.mg_of X G aC1, _, ⟨cm1, a9, i9, ck1⟩, ⟨_, _, _, _, ok_init F9 T1, b9, .nil, fun _ => .nil⟩⟩
  have h10 : PrpC l.prog w K mg base C1 "files" 1 (spFiles C1) := ⟨cls1, _, _, ⟨a10, pg10, pt10, pr10⟩, ⟨_, _, _, _, ok_files F10 T1 Z, b10, .nil, fun _ => .nil⟩⟩
  have h11 : MthC l.prog w K mg base C1 "__len__" 1 [] (spLen C1) := ⟨cls1, _, ⟨a11, i11, k11⟩, ⟨_, _, _, _, ok_len F11 T1 Z, b11, .nil, fun _ => .nil⟩⟩
  have h12 : MthC l.prog w K mg base C1 "__contains__" 1 [] (spCont C1) := ⟨cls1, _, ⟨a12, i12, k12⟩, ⟨_, _, _, _, ok_cont F12 T1 Z, b12, .nil, fun _ => .nil⟩⟩
  have h13 : MthC l.prog w K mg base C1 "look_file" 1 [] (spLook C1) := ⟨cls1, _, ⟨a13, i13, k13⟩, ⟨_, _, _, _, ok_look F13 T1 Z, b13, .nil, fun _ => .nil⟩⟩
  have h14 : MthC l.prog w K mg base C1 "put" 3 [] (spPut C1) := ⟨cls1, _, ⟨a14, i14, k14⟩, ⟨_, _, _, _, ok_put F14 T1 Z h1 h3 g3 g4, b14, .nil, fun _ => .nil⟩⟩
  have h15 : MthC l.prog w K mg base C1 "remove" 2 [] (spRemove C1) := ⟨cls1, _, ⟨a15, i15, k15⟩, ⟨_, _, _, _, ok_remove F15 T1 h13, b15, .nil, fun _ => .nil⟩⟩
  have h16 : MthC l.prog w K mg base C1 "edition" 1 [] (spEdition C1) := ⟨cls1, _, ⟨a16, i16, k16⟩, ⟨_, _, _, _, ok_edition F16 T1 Z, b16, .nil, fun _ => .nil⟩⟩
  have h17 : MthC l.prog w K mg base C1 "lines" 2 [] (spLinesOf C1) := ⟨cls1, _, ⟨a17, i17, k17⟩, ⟨_, _, _, _, ok_linesOf F17 T1 Z h13, b17, .nil, fun _ => .nil⟩⟩
  have h18 : FnC l.prog w K mg base "_law_right" 3 (spRight C1) := ⟨_, _, _, ok_right F18 Z h10 h11 h12 h16 h17, PySem.W.mg_of X G a18, k18, b18⟩
  exact ok_law (fun_mk (st := s_law) l19 c19 k19) Z h4 h5 h6 h8 h18 h9 h14 h15 h17 h10
theorem walk {l : PySem.W.OpenLaw} {q : Program} {loose : List Str} {XP : (Str → Option Value) → Heap → Prop} {YP : World → Heap → Prop} {d : DefRec} {K : Params → PySem.W.Frag} (hn : l.most = some 63) (hdf : d.params.defaults = [])
    (hY : ∀ (w : World) (h : Heap), YP w h → (K w.params).In h)
    (F : ∀ (w : World) (mg : Str → Option Value) (fa : Addr) (h : Heap), (K w.params).In h → h.Ns mainGlobals mg → mg d.name = some (.ref fa) →
      ∃ fd : FuncData, (∀ (s : Shared) (u : Value), BindsTo s fd ⟨[u], []⟩ [("_law_script", u)]) ∧ ∀ base : Heap, (K w.params).In base → base.Ns mainGlobals mg → FnG l.prog w (K w.params) mg base CX0 4 fa fd ["_law_script"] (toSp (K w.params) spLaw)) :
    PySem.W.WalkO q loose XP YP l.row.toRowW d [] (fun f vs => PySem.call f vs) :=
  walk_ofG (z := 63) (n := 4) (x := "_law_script") (CT := fun _ => CX0) (sp := fun w => toSp (K w.params) spLaw) hn (by decide) hdf ⟨rfl, by decide, by decide⟩ hY F
    (fun w H a ns hl hbits _ hS => ⟨H, fun _ => none, [.slst (ns.map D.int)], fun d _ => d = .bl true, wld0, .cons (.slst hS (dat_ints ns)) .nil, ⟨ns, rfl, hl, fun _ => rfl, rfl⟩, fun v G' C' H' d f w' r z => by subst z; cases r; rfl⟩) fun _ _ _ _ _ z => z
end
end K31

open PySem PySem.W PyProof.Rows in
set_option maxRecDepth 100000 in
set_option maxHeartbeats 0 in
theorem PySem.Challenge.cw_chainedreports_k56_files_put_holds : PySem.Challenge.rw_chainedreports_k56_files_put.Holds := by
  w_on; o_law; k_head; (case hw => w_witness2)
  k_fill
  refine K31.walk (l := PySem.Challenge.rw_chainedreports_k56_files_put) rfl rfl (fun w h Y => PySem.W.kIn_of Y) ?F
  case F =>
    intro w mg fa h KX G hmg
    refine' K31.all_mk KX G hmg ?aC1 ?cg1 ?ch1 ?co1 ?cx1 ?cm1 ?ck1 ?n1_0 ?n1_1 ?a1 ?l1 ?c1 ?k1 ?a2 ?l2 ?c2 ?k2 ?a3 ?l3 ?c3 ?k3 ?a4 ?l4 ?c4 ?k4 ?a5 ?l5 ?c5 ?k5 ?a6 ?l6 ?c6 ?k6 ?a7 ?l7 ?c7 ?k7 ?a8 ?l8 ?c8 ?k8 ?a9 ?i9 ?l9 ?c9 ?k9 ?a10 ?pg10 ?pt10 ?pr10 ?l10 ?c10 ?k10 ?a11 ?i11 ?l11 ?c11 ?k11 ?a12 ?i12 ?l12 ?c12 ?k12 ?a13 ?i13 ?l13 ?c13 ?k13 ?a14 ?i14 ?l14 ?c14 ?k14 ?a15 ?i15 ?l15 ?c15 ?k15 ?a16 ?i16 ?l16 ?c16 ?k16 ?a17 ?i17 ?l17 ?c17 ?k17 ?a18 ?l18 ?c18 ?k18 ?a19 ?l19 ?c19 ?k19 ?m0 ?m1 ?m2 ?m3 ?m4 ?z0 ?z1 ?z2 ?z3 ?z4 ?z5 ?z6 ?z7 ?z8 ?z9 ?z10 ?z11 ?z12 ?z13 ?z14 ?z15 ?z16 ?z17 ?z18
    (case aC1 => k_is)
    (case cg1 => k_is)
    (case ch1 => k_is)
    (case co1 => k_is)
    (case cx1 => k_is)
    (case cm1 => k_is)
    (case ck1 => k_is)
    (case n1_0 => k_is)
    (case n1_1 => k_is)
    (case a1 => k_is)
    (case l1 => k_is)
    (case c1 => k_is)
    (case k1 => k_is)
    (case a2 => k_is)
    (case l2 => k_is)
    (case c2 => k_is)
    (case k2 => k_is)
    (case a3 => k_is)
    (case l3 => k_is)
    (case c3 => k_is)
    (case k3 => k_is)
    (case a4 => k_is)
    (case l4 => k_is)
    (case c4 => k_is)
    (case k4 => k_is)
    (case a5 => k_is)
    (case l5 => k_is)
    (case c5 => k_is)
    (case k5 => k_is)
    (case a6 => k_is)
    (case l6 => k_is)
    (case c6 => k_is)
    (case k6 => k_is)
    (case a7 => k_is)
    (case l7 => k_is)
    (case c7 => k_is)
    (case k7 => k_is)
    (case a8 => k_is)
    (case l8 => k_is)
    (case c8 => k_is)
    (case k8 => k_is)
    (case a9 => k_is)
    (case i9 => k_is)
    (case l9 => k_is)
    (case c9 => k_is)
    (case k9 => k_is)
    (case a10 => k_is)
    (case pg10 => k_is)
    (case pt10 => k_is)
    (case pr10 => exact ⟨_, by k_is⟩)
    (case l10 => k_is)
    (case c10 => k_is)
    (case k10 => k_is)
    (case a11 => k_is)
    (case i11 => k_is)
    (case l11 => k_is)
    (case c11 => k_is)
    (case k11 => k_is)
    (case a12 => k_is)
    (case i12 => k_is)
    (case l12 => k_is)
    (case c12 => k_is)
    (case k12 => k_is)
    (case a13 => k_is)
    (case i13 => k_is)
    (case l13 => k_is)
    (case c13 => k_is)
    (case k13 => k_is)
    (case a14 => k_is)
    (case i14 => k_is)
    (case l14 => k_is)
    (case c14 => k_is)
    (case k14 => k_is)
    (case a15 => k_is)
    (case i15 => k_is)
    (case l15 => k_is)
    (case c15 => k_is)
    (case k15 => k_is)
    (case a16 => k_is)
    (case i16 => k_is)
    (case l16 => k_is)
    (case c16 => k_is)
    (case k16 => k_is)
    (case a17 => k_is)
    (case i17 => k_is)
    (case l17 => k_is)
    (case c17 => k_is)
    (case k17 => k_is)
    (case a18 => k_is)
    (case l18 => k_is)
    (case c18 => k_is)
    (case k18 => k_is)
    (case a19 => k_is)
    (case l19 => k_is)
    (case c19 => k_is)
    (case k19 => k_is)
    (case m0 => k_is)
    (case m1 => k_is)
    (case m2 => k_is)
    (case m3 => k_is)
    (case m4 => k_is)
    (case z0 => k_is)
    (case z1 => k_is)
    (case z2 => k_is)
    (case z3 => k_is)
    (case z4 => k_is)
    (case z5 => k_is)
    (case z6 => k_is)
    (case z7 => k_is)
    (case z8 => k_is)
    (case z9 => k_is)
    (case z10 => k_is)
    (case z11 => k_is)
    (case z12 => k_is)
    (case z13 => k_is)
    (case z14 => k_is)
    (case z15 => k_is)
    (case z16 => k_is)
    (case z17 => k_is)
    (case z18 => k_is)
