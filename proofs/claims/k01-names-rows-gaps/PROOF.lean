import PyProof.Rows.All
import Wide.All
import OpenK.AllK
import Wide.FinOn
import HandS.ForMost
import HandS.Property
import HandS.EndBits
import HandS.IsInst
import HandS.Zip
import HandS.Flow
import HandS.Wide
import HandS.Deep
import HandS.TupAny
import HandS.TupMul
import HandS.WideBits
import HandS.Replace
import HandS.StrMore
import HandS.More
import HandS.TryOnly
import PyProof.ReprRoads
import PyProof.ReprLen
import PyProof.Rows.StrBoot
import HandS.Comp
import PyProof.P3Eq
import HandS.Style
import PySem.Challenge.RW_chainedreports_k01_names_rows_gaps
import KE.KStrBytes
set_option Elab.async false
set_option linter.all false
set_option maxRecDepth 100000
/-! DG0: promises of defs that are called where no text of a list is being made (no guard stands around). -/
namespace DL
open PySem PySem.Spec PyProof.Rows L2
/-- FnOk, where no guard stands around -/
structure FnG (P : Program) (w : World) (K : PySem.W.Frag) (mg : Str → Option Value) (base : Heap) (CT : CXT) (n : Nat) (fa : Addr) (fd : FuncData) (ps : List Str) (sp : Sp) : Prop where
  len : ∀ as H Q E, sp as H Q E → as.length = ps.length
  run : ∀ {A : Around} {out : List Env} {s : Shared} {H : Hp} {ar : Args} {us : List Value} {as : List V} {Q : VK} {E : XK}, A.guards = some [] → Room n A → Env0 P w K mg base A out s H →
    BindsTo s fd ar (ps.zip us) → Vals as us → sp as H Q E → codeAny (model P w) A (.call (.ref fa) ar) (CR CT out P w H s Q E) s
section
variable {P : Program} {w : World} {K : PySem.W.Frag} {mg : Str → Option Value} {base : Heap} {CT : CXT} {n m : Nat} {fa : Addr} {fd : FuncData} {ps : List Str} {sp : Sp}
theorem FnG.mono (F : FnG P w K mg base CT n fa fd ps sp) (h : n ≤ m) : FnG P w K mg base CT m fa fd ps sp := ⟨F.len, fun g r => F.run g (r.mono h)⟩
/-- from the body -/
theorem fnG_of {x qual : Str} {st : Stmt} {N : List Str} (F : Fun K x qual st fa fd) (S : FnScope N ps (defScope st)) (len : ∀ as H Q E, sp as H Q E → as.length = ps.length)
    (hb : ∀ (cdv : Value) (A : Around) (out : List Env) (s : Shared) (H : Hp) (as : List V) (Q : VK) (E : XK), A.guards = some [] → Room n (A.deeper (envOfC qual (defScope st) s.heap.objs.size fa cdv)) → sp as H Q E →
      ∃ t, PSs (cxOf CT P w K mg base N qual (defScope st) fa cdv A out s H E) (defBody st) t ∧ t { nx := fun _ H1 => Q .non H1, rt := Q } (start N as) H) : FnG P w K mg base CT (n + 1) fa fd ps sp := by
  obtain ⟨oc, od, kV, doc, pm, an, cdv, ct, osl, rfl, hlook, hcode⟩ := F.ex
  refine ⟨len, ?_⟩
  intro A out s H ar us as Q E hguard hroom env0 hbind hvals hsp
  have inK : K.In s.heap := env0.mod.kin.keeps fun a o q => (env0.bs a o q).1
  have noLim : s.heap.NoLimit := env0.mod.nolimit.keeps fun a o q => (env0.bs a o q).1
  refine codeAny_call_function hroom.depth (inK _ _ hlook) rfl S.co S.gen rfl (PySem.W.codeRec_of inK hcode) (hbind _ _ _ _ ?_)
  refine wpAny_newFunctionEnv_cells S.kind ?_ ?_
  · rintro ⟨nm, v⟩ hin
    rcases S.par nm (List.of_mem_zip hin).1 with q | q
    · exact .inl q
    · exact .inr ⟨q, PySem.W.cellsFrom_some _ _ _ (.inl q)⟩
  · intro env henv s1 inc
    subst henv
    refine ⟨noLim.keeps inc.toInCall.keep, codeAny_func ?_⟩
    obtain ⟨t, pt, qt⟩ := hb cdv A out s H as Q E hguard (hroom.deeper _) hsp
    have inv := inv_start (E := E) (CX := CT) S hroom.hd env0 (len _ _ _ _ hsp) hvals inc
    refine wpAny_mono (pt.run [] s1 (start N as) H _ inv qt) ?_ fun e s' z => z
    intro fl s' z
    cases fl with
    | ret u =>
      obtain ⟨v, _, H1, J, rv, q⟩ := z
      exact ⟨v, H1, J.os, J.bare, J.base, J.hok, rv, q⟩
    | next =>
      obtain ⟨_, H1, J, q⟩ := z
      exact ⟨V.non, H1, J.os, J.bare, J.base, J.hok, rfl, q⟩
    | brk => exact z.elim fun _ z => z.elim fun _ z => z.2.elim
    | cont => exact z.elim fun _ z => z.elim fun _ z => z.2.elim
end
section
variable {X : Cx} {CT : CXT} {n : Nat} {fa Ca : Addr} {fd : FuncData} {ps : List Str} {sp : Sp} {E : XK} {x m : Str} {p pos apos : Pos} {e o : Expr} {es : List Expr} {ta : TE} {t : TA}
theorem goG {pins : List (Addr × Obj)} {σ : L2.St} {H : Hp} {s : Shared} {Q : VK} {us : List Value} {as : List V} (F : FnG X.prog X.w X.K X.mg X.base CT n fa fd ps sp) (hgd : X.A.guards = some []) (hr : Room n X.A) (hb : Binds X.K fd ps []) (hx : Passes CT X E)
    (I : Inv X pins σ H s) (r : Vals as us) (h : sp as H Q E) : wpAny (model X.prog X.w) X.A (call (.ref fa) us) (EP X pins σ Q) X.xe s := by
  have hlen : (us ++ ([] : List Value)).length = ps.length := by
    rw [List.append_nil, ← r.length]
    exact F.len _ _ _ _ h
  have hbind := hb s us I.kIn hlen
  rw [List.append_nil] at hbind
  refine wpAny_call (codeAny_mono (F.run hgd hr I.env0 hbind r h) ?_)
  intro res s' z
  match res, z with
  | .error e, z => exact hx pins σ H s e s' I z
  | .ok (.ret u), z => exact I.after z
theorem pe_callG (F : FnG X.prog X.w X.K X.mg X.base CT n fa fd ps sp) (hgd : X.A.guards = some []) (hr : Room n X.A) (hg : Gl X x) (hm : X.mg x = some (.ref fa)) (hk : PySem.W.keepIn X.K (.ref fa) = true) (hb : Binds X.K fd ps []) (hx : Passes CT X E)
    (ha : PA X (e :: es) t) (hdb : (x == ("__debug__" : Str)) = false := by decide) (he : starEach (e :: es) X.env = (false, eval e X.env) :: starEach es X.env := by rfl) (hpl : (backTo pos (starEach es X.env)).any (·.1) = false := by rfl) :
    PE X (.Call (.Name x p) (e :: es) [] pos) (tCall sp [] E t) := ⟨fun pins s σ H Q I h => wpAny_Call_Name_kw (ld_glob I hg hm (PySem.W.callWith_K (h₀ := X.base) I.ok.mod.kin hk (thn (ha.run pos pins s σ H _ I h) fun us s1 z => by
      obtain ⟨as, H1, I1, r, q⟩ := z
      refine ⟨I1.kIn, goG F hgd hr hb hx I1 r ?_⟩
      rwa [List.append_nil] at q) he hpl) hdb)⟩
theorem pe_callG0 (F : FnG X.prog X.w X.K X.mg X.base CT n fa fd ps sp) (hgd : X.A.guards = some []) (hr : Room n X.A) (hg : Gl X x) (hm : X.mg x = some (.ref fa)) (hk : PySem.W.keepIn X.K (.ref fa) = true) (hb : Binds X.K fd ps []) (hx : Passes CT X E)
    (hdb : (x == ("__debug__" : Str)) = false := by decide) : PE X (.Call (.Name x p) [] [] pos) (tCall sp [] E tNil) :=
  ⟨fun pins s σ H Q I h => wpAny_Call_Name_kw (ld_glob I hg hm (PySem.W.callWith_K0 I.kIn hk (goG (us := []) F hgd hr hb hx I .nil h)) hdb)⟩
end
/-! ### the law's own call -/
section
variable {P : Program} {w : World} {K : PySem.W.Frag} {mg mb : Str → Option Value} {CT : CXT} {n : Nat} {fa a : Addr} {fd : FuncData} {x : Str} {sp : Sp} {s : Shared} {vs : List Value} {ns : List Int}
def EndT (s : Shared) (r : Result) (s' : Shared) : Prop := r = .ok (.ret (.bool true)) ∧ OldK s.heap s'.heap ∧ s'.os = s.os ∧ AllBare s'.gens
theorem law_at (KX : K.In s.heap) (hns : s.heap.Ns mainGlobals mg) (hb : s.heap.Ns builtinsNs mb) (hbb : ∀ y : Str, y ≠ "__name__" → mb y = bootBuiltins y) (hlim : s.heap.NoLimit) (hgen : s.gens = #[])
    (ha : s.heap.get? a = some { cls := .type "list", data := .seq vs.toArray }) (hr : Room n callerA)
    (F : ∀ base : Heap, K.In base → base.Ns mainGlobals mg → FnG P w K mg base CT n fa fd [x] sp) (hbind : ∀ (s : Shared) (u : Value), BindsTo s fd ⟨[u], []⟩ [(x, u)])
    (hCT : ∀ H e s', CT [] H s (fun _ _ _ => False) e s' → False) {H : Hp} (hO : Only H) (hsp : sp [.ref a] H (fun v _ => v = .bl true) fun _ _ _ => False) (hok : HOk P w H s.heap) (hone : ∀ b, b ≠ a → H b = none) (hK : H a ≠ none → K.lookup a = none) :
    codeAny (model P w) callerA (.call (.ref fa) ⟨[.ref a], []⟩) (EndT s) s := by
  have hid : ∀ {b : Addr} {ob : Obj}, s.heap.get? b = some ob → (b = a → H a = none) → (hidT s.heap H).get? b = some ob := fun {b ob} q z => hidT_get q (by
    by_cases e : b = a
    · rw [e]; exact z e
    · exact hone b e)
  have nsT : ∀ {b : Addr} {f : Str → Option Value}, s.heap.Ns b f → (hidT s.heap H).Ns b f := by
    rintro b f ⟨ob, es, ep, q, d, rest⟩
    refine ⟨ob, es, ep, hid q fun e => ?_, d, rest⟩
    rw [e, ha] at q
    cases q
    cases (d : Data.seq vs.toArray _ = Data.dict es ep)
  have kinT : K.In (hidT s.heap H) := fun b ob q => hid (KX b ob q) fun e => by
    cases z : H a with
    | none => rfl
    | some u =>
      rw [e, hK (by rw [z]; exact nofun)] at q
      cases q
  obtain ⟨mc, l1, l2⟩ := hlim
  have env0 : Env0 P w K mg (hidT s.heap H) callerA [] s H :=
    { frames := rfl, mod := ⟨kinT, nsT hns, ⟨mb, nsT hb, hbb⟩, ⟨mc, nsT l1, l2⟩⟩, bs := fun _ _ q => of_hidT q, bsz := Nat.le_of_eq (hidT_size _ _), funs := trivial, frf := (fun b z => (nomatch z)), hok := hok, bare := .of_eq hgen }
  refine codeAny_mono ((F _ kinT (nsT hns)).run (us := [.ref a]) (as := [.ref a]) rfl hr env0 (hbind s (.ref a)) (.cons rfl .nil) hsp) ?_
  intro res s' z
  match res, z with
  | .error e, z => exact (hCT H e s' z).elim
  | .ok (.ret u), z =>
    obtain ⟨v, H1, os, bare, un, hok1, ru, hv⟩ := z
    obtain rfl : v = .bl true := hv
    obtain rfl : u = Value.bool true := ru
    refine ⟨rfl, OldK.of_keep fun b ob q => ?_, os, bare⟩
    rcases hO b with c | ⟨oc, xs, c⟩
    · exact un.keep b ob q c (fun z => nomatch z) (by simp)
    · obtain ⟨c1, _⟩ := hok b _ c
      obtain ⟨c2, _⟩ := hok1 b _ (un.frzs b oc _ c)
      rw [q] at c1
      cases c1
      exact c2
theorem law_callG (KX : K.In s.heap) (hns : s.heap.Ns mainGlobals mg) (hb : s.heap.Ns builtinsNs mb) (hbb : ∀ y : Str, y ≠ "__name__" → mb y = bootBuiltins y) (hlim : s.heap.NoLimit) (hgen : s.gens = #[])
    (ha : s.heap.get? a = some { cls := .type "list", data := .seq vs.toArray }) (hi : IntsAre vs ns) (hl : ns.length ≤ sizeLine) (hr : Room n callerA)
    (F : ∀ base : Heap, K.In base → base.Ns mainGlobals mg → FnG P w K mg base CT n fa fd [x] sp) (hbind : ∀ (s : Shared) (u : Value), BindsTo s fd ⟨[u], []⟩ [(x, u)])
    (hsp : ∀ H : Hp, Only H → SqL K H a (ns.map V.int) → sp [.ref a] H (fun v _ => v = .bl true) fun _ _ _ => False) (hCT : ∀ H e s', CT [] H s (fun _ _ _ => False) e s' → False) :
    codeAny (model P w) callerA (.call (.ref fa) ⟨[.ref a], []⟩) (EndT s) s := by
  have rv : Vals (ns.map V.int) vs := vals_ints hi
  have hsz : (ns.map V.int).length ≤ sizeLine := by rwa [List.length_map]
  by_cases hk : ∃ ob, K.lookup a = some ob
  · obtain ⟨ob, hk⟩ := hk
    have q := KX a ob hk
    rw [ha] at q
    cases q
    have hO : Only fun _ => none := fun _ => .inl rfl
    exact law_at KX hns hb hbb hlim hgen ha hr F hbind hCT hO (hsp _ hO (.inr ⟨_, vs.toArray, _, hk, rfl, rfl, rfl, by rw [List.size_toArray, ← rv.length]; exact hsz, by simpa using rv⟩)) (fun b u z => nomatch z) (fun _ _ => rfl) fun z => absurd rfl z
  · let H : Hp := upd (fun _ => none) a (.frz { cls := .type "list", data := .seq vs.toArray } (.lst (ns.map V.int)))
    have e1 : H a = some (.frz { cls := .type "list", data := .seq vs.toArray } (.lst (ns.map V.int))) := upd_same
    have e2 : ∀ b, b ≠ a → H b = none := fun b z => upd_ne z
    have hO : Only H := fun b => by
      by_cases z : b = a
      · rw [z]; exact .inr ⟨_, _, e1⟩
      · exact .inl (e2 b z)
    refine law_at KX hns hb hbb hlim hgen ha hr F hbind hCT hO (hsp H hO (.inl (.inr ⟨_, e1⟩))) ?_ e2 fun _ => ?_
    · intro b u z
      by_cases zb : b = a
      · subst zb
        rw [e1] at z
        cases z
        exact ⟨ha, hsz, vs, _, rv, ha⟩
      · rw [e2 b zb] at z; cases z
    · cases z : K.lookup a with
      | none => rfl
      | some ob => exact absurd ⟨ob, z⟩ hk
end
theorem walk_ofG {l : PySem.W.OpenLaw} {z n : Nat} {q : Program} {loose : List Str} {XP : (Str → Option Value) → Heap → Prop} {YP : World → Heap → Prop} {d : DefRec} {K : Params → PySem.W.Frag} {CT : World → CXT} {sp : World → Sp} {x : Str}
    (hz : l.most = some z) (hz2 : z ≤ sizeLine) (hdf : d.params.defaults = []) (hr : Room n callerA) (hY : ∀ (w : World) (h : Heap), YP w h → (K w.params).In h)
    (F : ∀ (w : World) (mg : Str → Option Value) (fa : Addr) (h : Heap), (K w.params).In h → h.Ns mainGlobals mg → mg d.name = some (.ref fa) →
      ∃ fd : FuncData, (∀ (s : Shared) (u : Value), BindsTo s fd ⟨[u], []⟩ [(x, u)]) ∧ ∀ base : Heap, (K w.params).In base → base.Ns mainGlobals mg → FnG l.prog w (K w.params) mg base (CT w) n fa fd [x] (sp w))
    (hsp : ∀ (w : World) (H : Hp) (a : Addr) (ns : List Int), ns.length ≤ z → (∀ i ∈ ns, Builtin.Int.intBits i ≤ 1048576) → Only H → SqL (K w.params) H a (ns.map V.int) → sp w [.ref a] H (fun v _ => v = .bl true) fun _ _ _ => False)
    (hCT : ∀ (w : World) (H : Hp) (s : Shared) (e : Value) (s' : Shared), CT w [] H s (fun _ _ _ => False) e s' → False) : PySem.W.WalkO q loose XP YP l.row.toRowW d [] (fun f vs => PySem.call f vs) := by
  refine Att.attach_callB hz hdf ?_
  intro w s₀ s mg mb fa o pm cd doc a vs ns G Y ho hd hcd hmg hobj hints hlen hbits hgen
  have inK := hY w _ Y
  obtain ⟨fd, hbind, hF⟩ := F w mg fa _ inK G.T.g hmg
  exact law_callG inK G.T.g G.T.b G.T.builtins G.T.nolimit hgen hobj hints (Nat.le_trans hlen hz2) hr hF hbind (fun H hO hS => hsp w H a ns hlen hbits hO hS) fun H e s' => hCT w H s e s'
end DL
/-! DLa: a layer of data over the hand layer: data as trees, cells that change, readings by data. -/
namespace DL
open PySem PySem.Spec PyProof.Rows L2

/-- data: trees of what does not change; slst: a list of the module or the script; own: a cell that may change; opq: anything else -/
inductive D where
  | non | bl (b : Bool) | int (i : Int) | str (x : Str)
  | lst (xs : List D) | tup (xs : List D) | slst (xs : List D)
  | obj (C : Addr) (ks : List Str) (xs : List D)
  | own (a : Addr)
  | opq (v : V)

/-- what stands in a cell -/
inductive Cell where
  | lst (xs : List D)
  | dic (kvs : List (Key × D))
  | ins (C : Addr) (ks : List Str) (xs : List D)

abbrev CS := Addr → Option Cell
def put (C : CS) (a : Addr) (c : Cell) : CS := fun b => if b = a then some c else C b
def del (C : CS) (a : Addr) : CS := fun b => if b = a then none else C b
theorem put_same {C : CS} {a : Addr} {c : Cell} : put C a c a = some c := by unfold put; rw [if_pos rfl]
theorem put_ne {C : CS} {a b : Addr} {c : Cell} (h : b ≠ a) : put C a c b = C b := by unfold put; rw [if_neg h]
theorem put_put {C : CS} {a : Addr} {c d : Cell} : put (put C a c) a d = put C a d := by
  funext b; unfold put; split <;> rfl
theorem del_same {C : CS} {a : Addr} : del C a a = none := by unfold del; rw [if_pos rfl]
theorem del_ne {C : CS} {a b : Addr} (h : b ≠ a) : del C a b = C b := by unfold del; rw [if_neg h]
theorem del_put {C : CS} {a : Addr} {c : Cell} (h : C a = none) : del (put C a c) a = C := by
  funext b; unfold del put; split
  · rename_i e; rw [e, h]
  · rfl
theorem cell_ne {C : CS} {a b : Addr} {c : Cell} (h : C a = some c) (h' : C b = none) : a ≠ b := by
  intro e; subst e; rw [h] at h'; cases h'

mutual
inductive Dat (K : PySem.W.Frag) (G : Hp) : V → D → Prop
  | non : Dat K G .non .non
  | bl (b : Bool) : Dat K G (.bl b) (.bl b)
  | int (i : Int) : Dat K G (.int i) (.int i)
  | str (x : Str) : Dat K G (.str x) (.str x)
  | lst {a : Addr} {xs : List V} {ds : List D} : G a = some (.lst xs) → DatAll K G xs ds → Dat K G (.ref a) (.lst ds)
  | slst {a : Addr} {xs : List V} {ds : List D} : SqL K G a xs → DatAll K G xs ds → Dat K G (.ref a) (.slst ds)
  | tup {a : Addr} {xs : List V} {ds : List D} : SqT K G a xs → DatAll K G xs ds → Dat K G (.ref a) (.tup ds)
  | obj {a C dx : Addr} {fs : List (Str × V)} {ks : List Str} {ds : List D} : G a = some (.ins C dx fs) → fs.map (·.1) = ks → DatAll K G (fs.map (·.2)) ds → Dat K G (.ref a) (.obj C ks ds)
  | own (a : Addr) : Dat K G (.ref a) (.own a)
  | opq (v : V) : Dat K G v (.opq v)
inductive DatAll (K : PySem.W.Frag) (G : Hp) : List V → List D → Prop
  | nil : DatAll K G [] []
  | cons {v : V} {vs : List V} {d : D} {ds : List D} : Dat K G v d → DatAll K G vs ds → DatAll K G (v :: vs) (d :: ds)
end

theorem Same.sqT {K : PySem.W.Frag} {H H' : Hp} {a : Addr} {xs : List V} (e : Same H H') (h : SqT K H a xs) : SqT K H' a xs := by
  rcases h with (h | ⟨o, h⟩) | h
  · exact .inl (.inl (e _ _ h))
  · exact .inl (.inr ⟨o, e _ _ h⟩)
  · exact .inr h

section
variable {K : PySem.W.Frag} {G G' : Hp}
mutual
theorem Dat.mono (e : Same G G') : ∀ (d : D) {v : V}, Dat K G v d → Dat K G' v d
  | .non, _, h => by cases h; exact .non
  | .bl _, _, h => by cases h; exact .bl _
  | .int _, _, h => by cases h; exact .int _
  | .str _, _, h => by cases h; exact .str _
  | .lst ds, _, h => by
    cases h with
    | lst a b => exact .lst (e _ _ a) (DatAll.mono e ds b)
  | .slst ds, _, h => by
    cases h with
    | slst a b => exact .slst (e.seq a) (DatAll.mono e ds b)
  | .tup ds, _, h => by
    cases h with
    | tup a b => exact .tup (Same.sqT e a) (DatAll.mono e ds b)
  | .obj _ _ ds, _, h => by
    cases h with
    | obj a b c => exact .obj (e _ _ a) b (DatAll.mono e ds c)
  | .own _, _, h => by cases h; exact .own _
  | .opq _, _, h => by cases h; exact .opq _
theorem DatAll.mono (e : Same G G') : ∀ (ds : List D) {vs : List V}, DatAll K G vs ds → DatAll K G' vs ds
  | [], _, h => by cases h; exact .nil
  | d :: ds, _, h => by
    cases h with
    | cons a b => exact .cons (Dat.mono e d a) (DatAll.mono e ds b)
end
theorem DatAll.length : ∀ {vs : List V} {ds : List D}, DatAll K G vs ds → vs.length = ds.length
  | _, [], h => by cases h; rfl
  | _, d :: ds, h => by
    cases h with
    | cons a b => simp [DatAll.length b]
theorem DatAll.get : ∀ {vs : List V} {ds : List D} {i : Nat} {d : D}, DatAll K G vs ds → ds[i]? = some d → ∃ v, vs[i]? = some v ∧ Dat K G v d
  | _, [], i, d, h, e => by simp at e
  | _, x :: ds, i, d, h, e => by
    cases h with
    | cons a b =>
      cases i with
      | zero => simp at e; subst e; exact ⟨_, rfl, a⟩
      | succ i =>
        obtain ⟨v, h1, h2⟩ := DatAll.get (i := i) b (by simpa using e)
        exact ⟨v, by simpa using h1, h2⟩
theorem DatAll.get' : ∀ {vs : List V} {ds : List D} {i : Nat} {v : V}, DatAll K G vs ds → vs[i]? = some v → ∃ d, ds[i]? = some d ∧ Dat K G v d
  | _, [], i, v, h, e => by cases h; simp at e
  | _, x :: ds, i, v, h, e => by
    cases h with
    | cons a b =>
      cases i with
      | zero => simp at e; subst e; exact ⟨_, rfl, a⟩
      | succ i =>
        obtain ⟨d, h1, h2⟩ := DatAll.get' (i := i) b (by simpa using e)
        exact ⟨d, by simpa using h1, h2⟩
theorem DatAll.append : ∀ {vs ws : List V} {ds es : List D}, DatAll K G vs ds → DatAll K G ws es → DatAll K G (vs ++ ws) (ds ++ es)
  | _, _, [], _, h, k => by cases h; exact k
  | _, _, d :: ds, _, h, k => by
    cases h with
    | cons a b => exact .cons a (DatAll.append b k)
theorem DatAll.take : ∀ {vs : List V} {ds : List D} (n : Nat), DatAll K G vs ds → DatAll K G (vs.take n) (ds.take n)
  | _, [], n, h => by cases h; simp; exact .nil
  | _, d :: ds, 0, h => by simp; exact .nil
  | _, d :: ds, n + 1, h => by
    cases h with
    | cons a b => exact .cons a (DatAll.take n b)
theorem DatAll.drop : ∀ {vs : List V} {ds : List D} (n : Nat), DatAll K G vs ds → DatAll K G (vs.drop n) (ds.drop n)
  | _, [], n, h => by cases h; simp; exact .nil
  | _, d :: ds, 0, h => h
  | _, d :: ds, n + 1, h => by
    cases h with
    | cons a b => exact DatAll.drop n b
theorem DatAll.set : ∀ {vs : List V} {ds : List D} {v : V} {d : D} (i : Nat), DatAll K G vs ds → Dat K G v d → DatAll K G (vs.set i v) (ds.set i d)
  | _, [], _, _, i, h, k => by cases h; simp; exact .nil
  | _, x :: ds, _, _, 0, h, k => by
    cases h with
    | cons a b => exact .cons k b
  | _, x :: ds, _, _, i + 1, h, k => by
    cases h with
    | cons a b => exact .cons a (DatAll.set i b k)
theorem DatAll.rev {vs : List V} {ds : List D} (h : DatAll K G vs ds) : DatAll K G vs.reverse ds.reverse := by
  induction ds generalizing vs with
  | nil => cases h; exact .nil
  | cons d ds ih =>
    cases h with
    | cons a b => simpa using DatAll.append (ih b) (.cons a .nil)
end

/-! ### the world -/
def CellR (K : PySem.W.Frag) (G H : Hp) (a : Addr) : Cell → Prop
  | .lst ds => ∃ vs, H a = some (.lst vs) ∧ DatAll K G vs ds
  | .dic kvs => ∃ kw : List (Key × V), H a = some (.dK kw) ∧ kw.map (·.1) = kvs.map (·.1) ∧ DatAll K G (kw.map (·.2)) (kvs.map (·.2))
  | .ins C ks ds => ∃ (dx : Addr) (fs : List (Str × V)), H a = some (.ins C dx fs) ∧ fs.map (·.1) = ks ∧ DatAll K G (fs.map (·.2)) ds
theorem CellR.mono {K : PySem.W.Frag} {G G' H H' : Hp} {a : Addr} {c : Cell} (e : Same G G') (h : H' a = H a) (r : CellR K G H a c) : CellR K G' H' a c := by
  cases c with
  | lst ds => obtain ⟨vs, h1, h2⟩ := r; exact ⟨vs, h.trans h1, h2.mono e⟩
  | dic kvs => obtain ⟨vs, h1, h2, h3⟩ := r; exact ⟨vs, h.trans h1, h2, h3.mono e⟩
  | ins C ks ds => obtain ⟨dx, fs, h1, h2, h3⟩ := r; exact ⟨dx, fs, h.trans h1, h2, h3.mono e⟩
theorem CellR.some {K : PySem.W.Frag} {G H : Hp} {a : Addr} {c : Cell} (r : CellR K G H a c) : ∃ o, H a = some o := by
  cases c with
  | lst ds => obtain ⟨vs, h1, h2⟩ := r; exact ⟨_, h1⟩
  | dic kvs => obtain ⟨vs, h1, h2, h3⟩ := r; exact ⟨_, h1⟩
  | ins C ks ds => obtain ⟨dx, fs, h1, h2, h3⟩ := r; exact ⟨_, h1⟩

structure Wld (K : PySem.W.Frag) (G : Hp) (C : CS) (H : Hp) : Prop where
  ex : Same G H
  cell : ∀ a c, C a = some c → G a = none ∧ CellR K G H a c

/-- what a piece of code leaves as it was -/
structure Fr (G : Hp) (C : CS) (H G' : Hp) (C' : CS) (H' : Hp) : Prop where
  exG : Same G G'
  keep : ∀ a o, H a = some o → C a = none → H' a = some o
  dom : ∀ a, H a ≠ none → H' a ≠ none
  newC : ∀ a, H a ≠ none → C' a ≠ none → C a ≠ none
  newG : ∀ a, H a ≠ none → G' a ≠ none → G a ≠ none ∨ C a ≠ none

section
variable {K : PySem.W.Frag} {G G1 G2 H H1 H2 : Hp} {C C1 C2 : CS} {a : Addr}
theorem Fr.refl (G : Hp) (C : CS) (H : Hp) : Fr G C H G C H := ⟨fun _ _ h => h, fun _ _ h _ => h, fun _ h => h, fun _ _ h => h, fun _ _ h => .inl h⟩
theorem Fr.trans (x : Fr G C H G1 C1 H1) (y : Fr G1 C1 H1 G2 C2 H2) : Fr G C H G2 C2 H2 where
  exG := x.exG.trans y.exG
  keep := fun a o h1 h2 => y.keep a o (x.keep a o h1 h2) (by
    cases q : C1 a with
    | none => rfl
    | some c => exact absurd h2 (x.newC a (by rw [h1]; simp) (by rw [q]; simp)))
  dom := fun a h => y.dom a (x.dom a h)
  newC := fun a h k => x.newC a h (y.newC a (x.dom a h) k)
  newG := fun a h k => (y.newG a (x.dom a h) k).elim (x.newG a h) fun k => .inr (x.newC a h k)
theorem Wld.ne (w : Wld K G C H) {a : Addr} (h : H a = none) : G a = none ∧ C a = none := by
  refine ⟨w.ex.free h, ?_⟩
  cases q : C a with
  | none => rfl
  | some c =>
    obtain ⟨o, e⟩ := (w.cell a c q).2.some
    rw [h] at e; cases e
/-- a new object that will not change -/
theorem Wld.newG (w : Wld K G C H) {p : Addr} (h : H p = none) (o : HO) : Wld K (upd G p o) C (upd H p o) ∧ Fr G C H (upd G p o) C (upd H p o) ∧ Same G (upd G p o) := by
  obtain ⟨g, c⟩ := w.ne h
  have sG : Same G (upd G p o) := fun b u e => by rw [upd_ne (ne_of_none e g)]; exact e
  refine ⟨⟨fun b u e => ?_, fun b c' e => ?_⟩, ⟨sG, fun b u e _ => by rw [upd_ne (ne_of_none e h)]; exact e, fun b e => ?_, fun _ _ k => k, fun b hb k => ?_⟩, sG⟩
  · by_cases q : b = p
    · subst q; rw [upd_same] at e ⊢; exact e
    · rw [upd_ne q] at e ⊢; exact w.ex b u e
  · have ne : b ≠ p := cell_ne e c
    obtain ⟨h1, h2⟩ := w.cell b c' e
    exact ⟨by rw [upd_ne ne]; exact h1, h2.mono sG (upd_ne ne)⟩
  · by_cases q : b = p
    · subst q; exact absurd h e
    · rw [upd_ne q]; exact e
  · by_cases q : b = p
    · subst q; exact absurd h hb
    · rw [upd_ne q] at k; exact .inl k
/-- a new cell -/
theorem Wld.newC (w : Wld K G C H) {p : Addr} (h : H p = none) {o : HO} {c : Cell} (r : ∀ H', H' p = some o → CellR K G H' p c) : Wld K G (put C p c) (upd H p o) ∧ Fr G C H G (put C p c) (upd H p o) := by
  obtain ⟨g, c0⟩ := w.ne h
  refine ⟨⟨fun b u e => ?_, fun b c' e => ?_⟩, ⟨fun _ _ h => h, fun b u e _ => by rw [upd_ne (ne_of_none e h)]; exact e, fun b e => ?_, fun b hb k => ?_, fun b _ k => .inl k⟩⟩
  · rw [upd_ne (ne_of_none e g)]; exact w.ex b u e
  · by_cases q : b = p
    · subst q; rw [put_same] at e; cases e; exact ⟨g, r _ upd_same⟩
    · rw [put_ne q] at e
      obtain ⟨h1, h2⟩ := w.cell b c' e
      exact ⟨h1, h2.mono (fun _ _ h => h) (upd_ne q)⟩
  · by_cases q : b = p
    · subst q; exact absurd h e
    · rw [upd_ne q]; exact e
  · by_cases q : b = p
    · subst q; exact absurd h hb
    · rw [put_ne q] at k; exact k
/-- a cell is changed -/
theorem Wld.write (w : Wld K G C H) {p : Addr} {c c' : Cell} (h : C p = some c) {o : HO} (r : ∀ H', H' p = some o → CellR K G H' p c') : Wld K G (put C p c') (upd H p o) ∧ Fr G C H G (put C p c') (upd H p o) := by
  obtain ⟨g, r0⟩ := w.cell p c h
  refine ⟨⟨fun b u e => ?_, fun b d e => ?_⟩, ⟨fun _ _ h => h, fun b u e k => ?_, fun b e => ?_, fun b hb k => ?_, fun b _ k => .inl k⟩⟩
  · rw [upd_ne (ne_of_none e g)]; exact w.ex b u e
  · by_cases q : b = p
    · subst q; rw [put_same] at e; cases e; exact ⟨g, r _ upd_same⟩
    · rw [put_ne q] at e
      obtain ⟨h1, h2⟩ := w.cell b d e
      exact ⟨h1, h2.mono (fun _ _ h => h) (upd_ne q)⟩
  · have : b ≠ p := fun q => by subst q; rw [h] at k; cases k
    rw [upd_ne this]; exact e
  · by_cases q : b = p
    · subst q; rw [upd_same]; simp
    · rw [upd_ne q]; exact e
  · by_cases q : b = p
    · subst q; rw [h]; simp
    · rw [put_ne q] at k; exact k
/-- cells are forgotten -/
theorem Wld.sub (w : Wld K G C H) (h : ∀ a c, C1 a = some c → C a = some c) : Wld K G C1 H ∧ Fr G C H G C1 H :=
  ⟨⟨w.ex, fun a c e => w.cell a c (h a c e)⟩, ⟨fun _ _ h => h, fun _ _ h _ => h, fun _ h => h, fun a _ k => by
    cases q : C1 a with
    | none => exact absurd q k
    | some c => rw [h a c q]; simp, fun _ _ h => .inl h⟩⟩
/-- a list's cell is frozen -/
theorem Wld.freeze (w : Wld K G C H) {p : Addr} {ds : List D} (h : C p = some (.lst ds)) : ∃ G', Wld K G' (del C p) H ∧ Fr G C H G' (del C p) H ∧ Dat K G' (.ref p) (.lst ds) := by
  obtain ⟨g, vs, e, r⟩ := w.cell p _ h
  have sG : Same G (upd G p (.lst vs)) := fun b u e => by rw [upd_ne (ne_of_none e g)]; exact e
  refine ⟨upd G p (.lst vs), ⟨fun b u q => ?_, fun b c q => ?_⟩, ⟨sG, fun _ _ h _ => h, fun _ h => h, fun b _ k => ?_, fun b _ k => ?_⟩, .lst upd_same (r.mono sG)⟩
  · by_cases z : b = p
    · subst z; rw [upd_same] at q; rw [e]; exact q
    · rw [upd_ne z] at q; exact w.ex b u q
  · have ne : b ≠ p := fun z => by subst z; rw [del_same] at q; cases q
    rw [del_ne ne] at q
    obtain ⟨h1, h2⟩ := w.cell b c q
    exact ⟨by rw [upd_ne ne]; exact h1, h2.mono sG rfl⟩
  · by_cases z : b = p
    · subst z; rw [h]; simp
    · rw [del_ne z] at k; exact k
  · by_cases z : b = p
    · subst z; right; rw [h]; simp
    · rw [upd_ne z] at k; exact .inl k
end
end DL
/-! DLb: judgements by data: expressions, tests, arguments, statements. -/
namespace DL
open PySem PySem.Spec PyProof.Rows L2

abbrev DEnv := List (Option D)
def EnvR (K : PySem.W.Frag) (G : Hp) (env : DEnv) (σ : L2.St) : Prop := env.length = σ.length ∧ ∀ (i : Nat) (d : D), env[i]? = some (some d) → ∃ v, σ[i]? = some (some v) ∧ Dat K G v d
abbrev KD := D → CS → Prop
def Kont (K : PySem.W.Frag) (G : Hp) (C : CS) (H : Hp) (k : KD) (Q : VK) : Prop :=
  ∀ v G' C' H' d, Fr G C H G' C' H' → Wld K G' C' H' → Dat K G' v d → k d C' → Q v H'
def KontB (K : PySem.W.Frag) (G : Hp) (C : CS) (H : Hp) (k : Bool → CS → Prop) (Q : Bool → Hp → Prop) : Prop :=
  ∀ b G' C' H', Fr G C H G' C' H' → Wld K G' C' H' → k b C' → Q b H'
def KontA (K : PySem.W.Frag) (G : Hp) (C : CS) (H : Hp) (k : List D → CS → Prop) (Q : List V → Hp → Prop) : Prop :=
  ∀ vs G' C' H' ds, Fr G C H G' C' H' → Wld K G' C' H' → DatAll K G' vs ds → k ds C' → Q vs H'
def Ev (K : PySem.W.Frag) (te : TE) (env : DEnv) (C : CS) (k : KD) : Prop := ∀ G σ H Q, Wld K G C H → EnvR K G env σ → Kont K G C H k Q → te σ H Q
def EvB (K : PySem.W.Frag) (te : TT) (env : DEnv) (C : CS) (k : Bool → CS → Prop) : Prop := ∀ G σ H Q, Wld K G C H → EnvR K G env σ → KontB K G C H k Q → te σ H Q
def EvA (K : PySem.W.Frag) (te : TA) (env : DEnv) (C : CS) (k : List D → CS → Prop) : Prop := ∀ G σ H Q, Wld K G C H → EnvR K G env σ → KontA K G C H k Q → te σ H Q

/-- the widest readings -/
def tS (X : Cx) (e : Expr) : TE := fun σ H Q => ∀ pins s, Inv X pins σ H s → wpAny (model X.prog X.w) X.A (eval e X.env) (EP X pins σ Q) X.xe s
def tT (X : Cx) (e : Expr) : TT := fun σ H Q => ∀ pins s, Inv X pins σ H s → wpAny (model X.prog X.w) X.A (isTrue e X.env (eval e X.env)) (TP X pins σ Q) X.xe s
def tW (X : Cx) (e : Expr) : TT := fun σ H Q => ∀ whole pins s, Inv X pins σ H s → wpAny (model X.prog X.w) X.A (isTrue e X.env whole) (TP X pins σ Q) X.xe s
def tAr (X : Cx) (es : List Expr) : TA := fun σ H Q => ∀ (pos : Pos) pins s, Inv X pins σ H s → wpAny (model X.prog X.w) X.A (spliced (backTo pos (starEach es X.env))) (AP X pins σ Q) X.xe s
def tX (X : Cx) (st : Stmt) : TS := fun D σ H => ∀ pins s, Inv X pins σ H s → wpAny (model X.prog X.w) X.A (exec st X.env) (SP X pins D) X.xe s
def tXs (X : Cx) (st : List Stmt) : TS := fun D σ H => ∀ pins s, Inv X pins σ H s → wpAny (model X.prog X.w) X.A (execs st X.env) (SP X pins D) X.xe s
section
variable {X : Cx} {e : Expr} {es : List Expr} {st : Stmt} {sts : List Stmt}
theorem pe_tS : PE X e (tS X e) := ⟨fun pins s σ H Q I h => h pins s I⟩
theorem pt_tT : PT X e (tT X e) := ⟨fun pins s σ H Q I h => h pins s I⟩
theorem pw_tW : PW X e (tW X e) := ⟨fun wh pins s σ H Q I h => h wh pins s I⟩
theorem pa_tAr : PA X es (tAr X es) := ⟨fun pos pins s σ H Q I h => h pos pins s I⟩
theorem ps_tX : PS X st (tX X st) := ⟨fun pins s σ H D I h => h pins s I⟩
theorem pss_tXs : PSs X sts (tXs X sts) := ⟨fun pins s σ H D I h => h pins s I⟩
end
def WE (X : Cx) (e : Expr) (env : DEnv) (C : CS) (k : KD) : Prop := Ev X.K (tS X e) env C k
def WT (X : Cx) (e : Expr) (env : DEnv) (C : CS) (k : Bool → CS → Prop) : Prop := EvB X.K (tT X e) env C k
def WW (X : Cx) (e : Expr) (env : DEnv) (C : CS) (k : Bool → CS → Prop) : Prop := EvB X.K (tW X e) env C k
def WA (X : Cx) (es : List Expr) (env : DEnv) (C : CS) (k : List D → CS → Prop) : Prop := EvA X.K (tAr X es) env C k

structure DEnds where
  nx : DEnv → CS → Prop
  rt : KD
  bk : DEnv → CS → Prop := fun _ _ => False
  ct : DEnv → CS → Prop := fun _ _ => False
def KontE (K : PySem.W.Frag) (G : Hp) (C : CS) (H : Hp) (k : DEnv → CS → Prop) (Q : L2.St → Hp → Prop) : Prop :=
  ∀ G' C' H' σ env, Fr G C H G' C' H' → Wld K G' C' H' → EnvR K G' env σ → k env C' → Q σ H'
structure KontS (K : PySem.W.Frag) (G : Hp) (C : CS) (H : Hp) (E : DEnds) (D : Ends) : Prop where
  nx : KontE K G C H E.nx D.nx
  rt : Kont K G C H E.rt D.rt
  bk : KontE K G C H E.bk D.bk
  ct : KontE K G C H E.ct D.ct
def EvS (K : PySem.W.Frag) (ts : TS) (env : DEnv) (C : CS) (E : DEnds) : Prop := ∀ G σ H D, Wld K G C H → EnvR K G env σ → KontS K G C H E D → ts D σ H
def WS (X : Cx) (st : Stmt) (env : DEnv) (C : CS) (E : DEnds) : Prop := EvS X.K (tX X st) env C E
def WSs (X : Cx) (sts : List Stmt) (env : DEnv) (C : CS) (E : DEnds) : Prop := EvS X.K (tXs X sts) env C E

section
variable {K : PySem.W.Frag} {G G1 H H1 : Hp} {C C1 : CS} {env : DEnv} {σ : L2.St}
theorem EnvR.mono (h : EnvR K G env σ) (e : Same G G1) : EnvR K G1 env σ := ⟨h.1, fun i d q => let ⟨v, a, b⟩ := h.2 i d q; ⟨v, a, b.mono e⟩⟩
theorem Kont.after {k : KD} {Q : VK} (q : Kont K G C H k Q) (f : Fr G C H G1 C1 H1) : Kont K G1 C1 H1 k Q := fun v G' C' H' d f' => q v G' C' H' d (f.trans f')
theorem KontB.after {k : Bool → CS → Prop} {Q : Bool → Hp → Prop} (q : KontB K G C H k Q) (f : Fr G C H G1 C1 H1) : KontB K G1 C1 H1 k Q := fun v G' C' H' f' => q v G' C' H' (f.trans f')
theorem KontA.after {k : List D → CS → Prop} {Q : List V → Hp → Prop} (q : KontA K G C H k Q) (f : Fr G C H G1 C1 H1) : KontA K G1 C1 H1 k Q := fun v G' C' H' d f' => q v G' C' H' d (f.trans f')
theorem KontE.after {k : DEnv → CS → Prop} {Q : L2.St → Hp → Prop} (q : KontE K G C H k Q) (f : Fr G C H G1 C1 H1) : KontE K G1 C1 H1 k Q := fun G' C' H' s d f' => q G' C' H' s d (f.trans f')
theorem KontS.after {E : DEnds} {D : Ends} (q : KontS K G C H E D) (f : Fr G C H G1 C1 H1) : KontS K G1 C1 H1 E D := ⟨q.nx.after f, q.rt.after f, q.bk.after f, q.ct.after f⟩
theorem EnvR.set (h : EnvR K G env σ) {v : V} {d : D} (i : Nat) (r : Dat K G v d) : EnvR K G (env.set i (some d)) (σ.set i (some v)) := by
  refine ⟨by simp [h.1], fun j d' q => ?_⟩
  by_cases e : i = j
  · subst e
    by_cases l : i < env.length
    · rw [List.getElem?_set_self l] at q
      cases q
      exact ⟨v, by rw [List.getElem?_set_self (by rw [← h.1]; exact l)], r⟩
    · rw [List.getElem?_eq_none (by simp; omega)] at q; cases q
  · rw [List.getElem?_set_ne e] at q ⊢
    exact h.2 j d' q
end

/-! ### from a rule of the hand layer -/
section
variable {X : Cx} {e : Expr} {es : List Expr} {st : Stmt} {sts : List Stmt} {env : DEnv} {C : CS}
theorem WE.of {te : TE} {k : KD} (h : PE X e te) (hv : Ev X.K te env C k) : WE X e env C k := fun G σ H Q w er q pins s I => h.run pins s σ H Q I (hv G σ H Q w er q)
theorem WT.of {te : TT} {k : Bool → CS → Prop} (h : PT X e te) (hv : EvB X.K te env C k) : WT X e env C k := fun G σ H Q w er q pins s I => h.run pins s σ H Q I (hv G σ H Q w er q)
theorem WW.of {te : TT} {k : Bool → CS → Prop} (h : PW X e te) (hv : EvB X.K te env C k) : WW X e env C k := fun G σ H Q w er q wh pins s I => h.run wh pins s σ H Q I (hv G σ H Q w er q)
theorem WA.of {te : TA} {k : List D → CS → Prop} (h : PA X es te) (hv : EvA X.K te env C k) : WA X es env C k := fun G σ H Q w er q pos pins s I => h.run pos pins s σ H Q I (hv G σ H Q w er q)
theorem WS.of {te : TS} {E : DEnds} (h : PS X st te) (hv : EvS X.K te env C E) : WS X st env C E := fun G σ H D w er q pins s I => h.run pins s σ H D I (hv G σ H D w er q)
theorem WSs.of {te : TS} {E : DEnds} (h : PSs X sts te) (hv : EvS X.K te env C E) : WSs X sts env C E := fun G σ H D w er q pins s I => h.run pins s σ H D I (hv G σ H D w er q)
theorem WE.imp {k k' : KD} (h : WE X e env C k) (hk : ∀ d C', k d C' → k' d C') : WE X e env C k' := fun G σ H Q w er q => h G σ H Q w er fun v G' C' H' d f w' r z => q v G' C' H' d f w' r (hk d C' z)
theorem WT.imp {k k' : Bool → CS → Prop} (h : WT X e env C k) (hk : ∀ d C', k d C' → k' d C') : WT X e env C k' := fun G σ H Q w er q => h G σ H Q w er fun v G' C' H' f w' z => q v G' C' H' f w' (hk v C' z)
theorem WA.imp {k k' : List D → CS → Prop} (h : WA X es env C k) (hk : ∀ d C', k d C' → k' d C') : WA X es env C k' := fun G σ H Q w er q => h G σ H Q w er fun v G' C' H' d f w' r z => q v G' C' H' d f w' r (hk d C' z)
end

/-! ### readings by data, compositionally -/
abbrev OpD := D → D → CS → KD → Prop
/-- a two-place operation on values is one on data -/
def R2D (K : PySem.W.Frag) (r : R2) (p : OpD) : Prop := ∀ (x y : V) (a b : D) (G : Hp) (C : CS) (H : Hp) (k : KD) (Q : VK), Wld K G C H → Dat K G x a → Dat K G y b → p a b C k → Kont K G C H k Q → r x y H Q
def R1D (K : PySem.W.Frag) (r : V → Hp → VK → Prop) (p : D → CS → KD → Prop) : Prop := ∀ (x : V) (a : D) (G : Hp) (C : CS) (H : Hp) (k : KD) (Q : VK), Wld K G C H → Dat K G x a → p a C k → Kont K G C H k Q → r x H Q
def RLD (K : PySem.W.Frag) (r : List V → Hp → VK → Prop) (p : List D → CS → KD → Prop) : Prop := ∀ (xs : List V) (ds : List D) (G : Hp) (C : CS) (H : Hp) (k : KD) (Q : VK), Wld K G C H → DatAll K G xs ds → p ds C k → Kont K G C H k Q → r xs H Q
def RMD (K : PySem.W.Frag) (r : V → List V → Hp → VK → Prop) (p : D → List D → CS → KD → Prop) : Prop := ∀ (x : V) (a : D) (xs : List V) (ds : List D) (G : Hp) (C : CS) (H : Hp) (k : KD) (Q : VK), Wld K G C H → Dat K G x a → DatAll K G xs ds → p a ds C k → Kont K G C H k Q → r x xs H Q
section
variable {K : PySem.W.Frag} {env : DEnv} {C : CS} {ta tb te : TE} {k : KD} {r : R2} {p : OpD} {t u : TT} {kb : Bool → CS → Prop} {tr : TA}
theorem ev_op (hr : R2D K r p) (h : Ev K ta env C fun x C1 => Ev K tb env C1 fun y C2 => p x y C2 k) : Ev K (tOp r ta tb) env C k := fun G σ H Q w er q =>
  h G σ H _ w er fun v G1 C1 H1 x f1 w1 d1 hb => hb G1 σ H1 _ w1 (er.mono f1.exG) fun y' G2 C2 H2 y f2 w2 d2 hp => hr v y' x y G2 C2 H2 k Q w2 (d1.mono f2.exG) d2 hp (q.after (f1.trans f2))
theorem ev_un {r : V → Hp → VK → Prop} {p : D → CS → KD → Prop} (hr : R1D K r p) (h : Ev K ta env C fun x C1 => p x C1 k) : Ev K (tUn r ta) env C k := fun G σ H Q w er q =>
  h G σ H _ w er fun v G1 C1 H1 x f1 w1 d1 hb => hr v x G1 C1 H1 k Q w1 d1 hb (q.after f1)
theorem ev_cb {r : List V → Hp → VK → Prop} {p : List D → CS → KD → Prop} (hr : RLD K r p) (h : EvA K tr env C fun ds C1 => p ds C1 k) : Ev K (tCB r tr) env C k := fun G σ H Q w er q =>
  h G σ H _ w er fun vs G1 C1 H1 ds f1 w1 d1 hb => hr vs ds G1 C1 H1 k Q w1 d1 hb (q.after f1)
theorem eb_test (h : Ev K te env C fun x C1 => ∃ b, x = .bl b ∧ kb b C1) : EvB K (tTest te) env C kb := fun G σ H Q w er q =>
  h G σ H _ w er fun v G1 C1 H1 x f1 w1 d1 hb => by
    obtain ⟨b, rfl, hb⟩ := hb
    cases d1
    exact ⟨b, rfl, q b G1 C1 H1 f1 w1 hb⟩
theorem eb_B (h : Ev K te env C fun x C1 => ∃ b, x = .bl b ∧ kb b C1) : EvB K (tB te) env C kb := eb_test h
theorem eb_not (h : EvB K t env C fun b C1 => kb (!b) C1) : EvB K (tNot t) env C kb := fun G σ H Q w er q => h G σ H _ w er fun b G1 C1 H1 f1 w1 hb => q _ G1 C1 H1 f1 w1 hb
theorem eb_and (h : EvB K t env C fun b C1 => if b = true then EvB K u env C1 kb else kb false C1) : EvB K (tAnd t u) env C kb := fun G σ H Q w er q => h G σ H _ w er fun b G1 C1 H1 f1 w1 hb => by
  cases b with
  | true => exact iteT ((iteT_ hb) G1 σ H1 Q w1 (er.mono f1.exG) (q.after f1))
  | false => exact iteF (q _ G1 C1 H1 f1 w1 (iteF_ hb))
where
  iteT_ {A B : Prop} (h : if true = true then A else B) : A := by rw [if_pos rfl] at h; exact h
  iteF_ {A B : Prop} (h : if false = true then A else B) : B := by rw [if_neg Bool.false_ne_true] at h; exact h
end
end DL
/-! DLc: the rules by data: names, operators, comparisons, displays, subscripts, tests. -/
namespace DL
open PySem PySem.Spec PyProof.Rows L2

/-! ### views of data -/
def seqL (C : CS) : D → Option (List D)
  | .lst xs => some xs
  | .own a => match C a with
    | some (.lst xs) => some xs
    | _ => none
  | _ => none
def seqR (C : CS) : D → Option (List D)
  | .slst xs => some xs
  | .lst xs => some xs
  | .own a => match C a with
    | some (.lst xs) => some xs
    | _ => none
  | _ => none
theorem seqL_own {C : CS} {a : Addr} {xs : List D} (h : C a = some (.lst xs)) : seqL C (.own a) = some xs := by unfold seqL; simp only [h]
theorem seqR_own {C : CS} {a : Addr} {xs : List D} (h : C a = some (.lst xs)) : seqR C (.own a) = some xs := by unfold seqR; simp only [h]
theorem own_seqL {C : CS} {a : Addr} {xs : List D} (h : seqL C (.own a) = some xs) : C a = some (.lst xs) := by
  unfold seqL at h
  cases q : C a with
  | none => simp [q] at h
  | some c => cases c <;> simp [q] at h; subst h; rfl
theorem own_seqR {C : CS} {a : Addr} {xs : List D} (h : seqR C (.own a) = some xs) : C a = some (.lst xs) := by
  unfold seqR at h
  cases q : C a with
  | none => simp [q] at h
  | some c => cases c <;> simp [q] at h; subst h; rfl
section
variable {K : PySem.W.Frag} {G H : Hp} {C : CS} {v : V} {d : D} {ds : List D}
theorem Wld.lst (w : Wld K G C H) (r : Dat K G v d) (e : seqL C d = some ds) : ∃ a xs, v = .ref a ∧ H a = some (.lst xs) ∧ DatAll K G xs ds := by
  cases r with
  | lst a b => simp [seqL] at e; subst e; exact ⟨_, _, rfl, w.ex _ _ a, b⟩
  | own a =>
    obtain ⟨_, vs, h1, h2⟩ := w.cell a _ (own_seqL e)
    exact ⟨a, vs, rfl, h1, h2⟩
  | _ => simp [seqL] at e
theorem Wld.seq (w : Wld K G C H) (r : Dat K G v d) (e : seqR C d = some ds) : ∃ a xs, v = .ref a ∧ SqL K H a xs ∧ DatAll K G xs ds := by
  cases r with
  | lst a b => simp [seqR] at e; subst e; exact ⟨_, _, rfl, SqL.of (w.ex _ _ a), b⟩
  | slst a b => simp [seqR] at e; subst e; exact ⟨_, _, rfl, w.ex.seq a, b⟩
  | own a =>
    obtain ⟨_, vs, h1, h2⟩ := w.cell a _ (own_seqR e)
    exact ⟨a, vs, rfl, SqL.of h1, h2⟩
  | _ => simp [seqR] at e
theorem Wld.tup (w : Wld K G C H) (r : Dat K G v (.tup ds)) : ∃ a xs, v = .ref a ∧ SqT K H a xs ∧ DatAll K G xs ds := by
  cases r with
  | tup a b => exact ⟨_, _, rfl, Same.sqT w.ex a, b⟩
end

mutual
def D.py : D → PyData
  | .non => .none
  | .bl b => .bool b
  | .int i => .int i
  | .str x => .str x
  | .lst xs => .list (pyL xs)
  | .slst xs => .list (pyL xs)
  | .tup xs => .tuple (pyL xs)
  | _ => .none
def pyL : List D → List PyData
  | [] => []
  | d :: ds => d.py :: pyL ds
end
mutual
def D.isPy : D → Bool
  | .non | .bl _ | .int _ | .str _ => true
  | .lst xs => allPy xs
  | .slst xs => allPy xs
  | .tup xs => allPy xs
  | _ => false
def allPy : List D → Bool
  | [] => true
  | d :: ds => d.isPy && allPy ds
end
section
variable {K : PySem.W.Frag} {G H : Hp}
mutual
theorem Dat.dp (e : Same G H) : ∀ (d : D) {v : V}, Dat K G v d → d.isPy = true → Dp K H v d.py
  | .non, _, h, _ => by cases h; exact .non
  | .bl _, _, h, _ => by cases h; exact .bl _
  | .int _, _, h, _ => by cases h; exact .int _
  | .str _, _, h, _ => by cases h; exact .str _
  | .lst ds, _, h, p => by
    cases h with
    | lst a b => exact .lst (SqL.of (e _ _ a)) (DatAll.dp e ds b (by simpa [D.isPy] using p))
  | .slst ds, _, h, p => by
    cases h with
    | slst a b => exact .lst (e.seq a) (DatAll.dp e ds b (by simpa [D.isPy] using p))
  | .tup ds, _, h, p => by
    cases h with
    | tup a b => exact .tup (Same.sqT e a) (DatAll.dp e ds b (by simpa [D.isPy] using p))
  | .obj _ _ ds, _, h, p => by simp [D.isPy] at p
  | .own _, _, h, p => by simp [D.isPy] at p
  | .opq _, _, h, p => by simp [D.isPy] at p
theorem DatAll.dp (e : Same G H) : ∀ (ds : List D) {vs : List V}, DatAll K G vs ds → allPy ds = true → DpAll K H vs (pyL ds)
  | [], _, h, _ => by cases h; exact .nil
  | d :: ds, _, h, p => by
    rw [allPy, Bool.and_eq_true] at p
    cases h with
    | cons a b => exact .cons (Dat.dp e d a p.1) (DatAll.dp e ds b p.2)
end
end
/-- the data that an operand stands for -/
def pyC (C : CS) : D → Option PyData
  | .own a => match C a with
    | some (.lst ds) => if allPy ds = true then some (.list (pyL ds)) else none
    | _ => none
  | d => if d.isPy = true then some d.py else none
theorem Wld.dp {K : PySem.W.Frag} {G H : Hp} {C : CS} {v : V} {d : D} {y : PyData} (w : Wld K G C H) (r : Dat K G v d) (e : pyC C d = some y) : Dp K H v y := by
  cases d with
  | own a =>
    cases r
    unfold pyC at e
    cases q : C a with
    | none => simp [q] at e
    | some c =>
      cases c with
      | lst ds =>
        simp [q] at e
        obtain ⟨p, rfl⟩ := e
        obtain ⟨_, vs, h1, h2⟩ := w.cell a _ q
        exact .lst (SqL.of h1) (h2.dp w.ex _ p)
      | _ => simp [q] at e
  | _ =>
    unfold pyC at e
    simp only [Option.ite_none_right_eq_some, Option.some.injEq] at e
    obtain ⟨p, rfl⟩ := e
    exact r.dp w.ex _ p

/-! ### more readings -/
section
variable {K : PySem.W.Frag} {env : DEnv} {C : CS} {ta tb te : TE} {k : KD} {t u : TT} {kb : Bool → CS → Prop} {tr : TA} {ka : List D → CS → Prop}
theorem eb_and2 (h : EvB K t env C fun b C1 => (b = true → EvB K u env C1 kb) ∧ (b = false → kb false C1)) : EvB K (tAnd t u) env C kb := fun G σ H Q w er q => h G σ H _ w er fun b G1 C1 H1 f1 w1 hb => by
  cases b with
  | true => exact iteT (hb.1 rfl G1 σ H1 Q w1 (er.mono f1.exG) (q.after f1))
  | false => exact iteF (q _ G1 C1 H1 f1 w1 (hb.2 rfl))
theorem eb_or2 (h : EvB K t env C fun b C1 => (b = true → kb true C1) ∧ (b = false → EvB K u env C1 kb)) : EvB K (tOr t u) env C kb := fun G σ H Q w er q => h G σ H _ w er fun b G1 C1 H1 f1 w1 hb => by
  cases b with
  | true => exact iteT (q _ G1 C1 H1 f1 w1 (hb.1 rfl))
  | false => exact iteF (hb.2 rfl G1 σ H1 Q w1 (er.mono f1.exG) (q.after f1))
theorem ev_andV (h : Ev K ta env C fun x C1 => ∃ b, x = .bl b ∧ (b = true → Ev K tb env C1 k) ∧ (b = false → k (.bl false) C1)) : Ev K (tAndV ta tb) env C k := fun G σ H Q w er q => h G σ H _ w er fun v G1 C1 H1 x f1 w1 d1 hb => by
  obtain ⟨b, rfl, h1, h2⟩ := hb
  cases d1
  refine ⟨b, rfl, ?_⟩
  cases b with
  | true => exact iteT (h1 rfl G1 σ H1 Q w1 (er.mono f1.exG) (q.after f1))
  | false => exact iteF (q _ G1 C1 H1 _ f1 w1 (.bl false) (h2 rfl))
theorem ev_orV (h : Ev K ta env C fun x C1 => ∃ b, x = .bl b ∧ (b = true → k (.bl true) C1) ∧ (b = false → Ev K tb env C1 k)) : Ev K (tOrV ta tb) env C k := fun G σ H Q w er q => h G σ H _ w er fun v G1 C1 H1 x f1 w1 d1 hb => by
  obtain ⟨b, rfl, h1, h2⟩ := hb
  cases d1
  refine ⟨b, rfl, ?_⟩
  cases b with
  | true => exact iteT (q _ G1 C1 H1 _ f1 w1 (.bl true) (h1 rfl))
  | false => exact iteF (h2 rfl G1 σ H1 Q w1 (er.mono f1.exG) (q.after f1))
theorem ev_notV (h : Ev K ta env C fun x C1 => ∃ b, x = .bl b ∧ k (.bl (!b)) C1) : Ev K (tNotV ta) env C k := fun G σ H Q w er q => h G σ H _ w er fun v G1 C1 H1 x f1 w1 d1 hb => by
  obtain ⟨b, rfl, h1⟩ := hb
  cases d1
  exact ⟨b, rfl, q _ G1 C1 H1 _ f1 w1 (.bl _) h1⟩
theorem ev_if (h : EvB K t env C fun b C1 => (b = true → Ev K ta env C1 k) ∧ (b = false → Ev K tb env C1 k)) : Ev K (tIf t ta tb) env C k := fun G σ H Q w er q => h G σ H _ w er fun b G1 C1 H1 f1 w1 hb => by
  cases b with
  | true => exact iteT (hb.1 rfl G1 σ H1 Q w1 (er.mono f1.exG) (q.after f1))
  | false => exact iteF (hb.2 rfl G1 σ H1 Q w1 (er.mono f1.exG) (q.after f1))
theorem ea_nil (h : ka [] C) : EvA K tNil env C ka := fun G σ H Q w er q => q [] G C H [] (Fr.refl ..) w .nil h
theorem ea_cons (h : Ev K ta env C fun x C1 => EvA K tr env C1 fun ds C2 => ka (x :: ds) C2) : EvA K (tCons ta tr) env C ka := fun G σ H Q w er q =>
  h G σ H _ w er fun v G1 C1 H1 x f1 w1 d1 hb => hb G1 σ H1 _ w1 (er.mono f1.exG) fun vs G2 C2 H2 ds f2 w2 d2 hp => q (v :: vs) G2 C2 H2 (x :: ds) (f1.trans f2) w2 (.cons (d1.mono f2.exG) d2) hp
theorem ev_tup (h : EvA K tr env C fun ds C1 => ds.length ≤ sizeLine ∧ k (.tup ds) C1) : Ev K (tTup tr) env C k := fun G σ H Q w er q =>
  h G σ H _ w er fun vs G1 C1 H1 ds f1 w1 d1 hb => ⟨by rw [d1.length]; exact hb.1, fun p hp => by
    obtain ⟨w2, f2, s2⟩ := w1.newG hp (.tup vs)
    exact q _ _ _ _ _ (f1.trans f2) w2 (.tup (SqT.of upd_same) (d1.mono s2)) hb.2⟩
theorem ev_lst (h : EvA K tr env C fun ds C1 => ds.length ≤ sizeLine ∧ ∀ p, C1 p = none → k (.own p) (put C1 p (.lst ds))) : Ev K (tLst tr) env C k := fun G σ H Q w er q =>
  h G σ H _ w er fun vs G1 C1 H1 ds f1 w1 d1 hb => ⟨by rw [d1.length]; exact hb.1, fun p hp => by
    obtain ⟨w2, f2⟩ := w1.newC hp (o := .lst vs) (c := .lst ds) fun H' e => ⟨vs, e, d1⟩
    exact q _ _ _ _ _ (f1.trans f2) w2 (.own p) (hb.2 p (w1.ne hp).2)⟩
theorem ev_lstF (h : EvA K tr env C fun ds C1 => ds.length ≤ sizeLine ∧ k (.lst ds) C1) : Ev K (tLst tr) env C k := fun G σ H Q w er q =>
  h G σ H _ w er fun vs G1 C1 H1 ds f1 w1 d1 hb => ⟨by rw [d1.length]; exact hb.1, fun p hp => by
    obtain ⟨w2, f2, s2⟩ := w1.newG hp (.lst vs)
    exact q _ _ _ _ _ (f1.trans f2) w2 (.lst upd_same (d1.mono s2)) hb.2⟩
/-- a list that an expression gives is frozen -/
theorem ev_frz (h : Ev K te env C fun d C1 => ∃ ds, seqL C1 d = some ds ∧ ((∃ a, d = .own a ∧ k (.lst ds) (del C1 a)) ∨ (d = .lst ds ∧ k (.lst ds) C1))) : Ev K te env C k := fun G σ H Q w er q =>
  h G σ H _ w er fun v G1 C1 H1 d f1 w1 d1 hb => by
    obtain ⟨ds, e, h2⟩ := hb
    rcases h2 with ⟨a, rfl, h2⟩ | ⟨rfl, h2⟩
    · cases d1
      obtain ⟨G2, w2, f2, r2⟩ := w1.freeze (own_seqL e)
      exact q _ _ _ _ _ (f1.trans f2) w2 r2 h2
    · exact q _ _ _ _ _ f1 w1 d1 h2
end

/-! ### names, constants -/
section
variable {X : Cx} {e a b : Expr} {es : List Expr} {env : DEnv} {C : CS} {k : KD} {kb : Bool → CS → Prop} {ka : List D → CS → Prop} {pos : Pos}
theorem we_var {i : Nat} {x : Str} {d : D} (hN : X.N[i]? = some x) (hv : Vis X.env.scope x) (he : env[i]? = some (some d)) (h : k d C) (hd : (x == ("__debug__" : Str)) = false := by decide) (hcd : (x == ("__classdict__" : Str)) = false := by decide) : WE X (.Name x pos) env C k :=
  .of (pe_var hN hv hd hcd) fun G σ H Q w er q => by
    obtain ⟨v, h1, h2⟩ := er.2 i d he
    exact ⟨v, h1, q v G C H d (Fr.refl ..) w h2 h⟩
theorem we_int {i j} (h : k (.int i) C) : WE X (.Constant (.int i) j pos) env C k := .of pe_int fun G σ H Q w er q => q _ G C H _ (Fr.refl ..) w (.int i) h
theorem we_bl {b j} (h : k (.bl b) C) : WE X (.Constant (.bool b) j pos) env C k := .of pe_bl fun G σ H Q w er q => q _ G C H _ (Fr.refl ..) w (.bl b) h
theorem we_non {j} (h : k .non C) : WE X (.Constant .none j pos) env C k := .of pe_non fun G σ H Q w er q => q _ G C H _ (Fr.refl ..) w .non h
theorem we_str {x j} (h : k (.str x) C) : WE X (.Constant (.str x) j pos) env C k := .of pe_str fun G σ H Q w er q => q _ G C H _ (Fr.refl ..) w (.str x) h
/-- a constant of the module -/
def MgD (X : Cx) (x : Str) (d : D) : Prop := ∃ u v, X.mg x = some u ∧ RelV v u ∧ ∀ G, Dat X.K G v d
theorem we_glob {x : Str} {d : D} (hm : MgD X x d) (hg : Gl X x) (h : k d C) (hd : (x == ("__debug__" : Str)) = false := by decide) : WE X (.Name x pos) env C k := by
  obtain ⟨u, v, h1, h2, h3⟩ := hm
  exact .of (pe_glob hg h1 h2 hd) fun G σ H Q w er q => q _ G C H _ (Fr.refl ..) w (h3 G) h
/-- the name of a built-in class -/
theorem we_bty {x : Str} {T : String} (hm : X.mg x = none) (hg : Gl X x) (hv : bootBuiltins x = some (.type T)) (h : k (.opq (.ty T)) C) (hn : x ≠ "__name__" := by decide) (hd : (x == ("__debug__" : Str)) = false := by decide) : WE X (.Name x pos) env C k :=
  .of (pe_bltn hg hm hv (v := .ty T) rfl hn hd) fun G σ H Q w er q => q _ G C H _ (Fr.refl ..) w (.opq _) h

theorem we_op {op : Operator} {r : R2} {p : OpD} (ho : OpR X (binaryOp op) r) (hr : R2D X.K r p) (h : WE X a env C fun x C1 => WE X b env C1 fun y C2 => p x y C2 k) : WE X (.BinOp a op b pos) env C k := .of (pe_op ho pe_tS pe_tS) (ev_op hr h)
theorem we_un {op : UnaryOp} {r : V → Hp → VK → Prop} {p : D → CS → KD → Prop} (ho : UnR X (unaryOp op) r) (hr : R1D X.K r p) (h : WE X a env C fun x C1 => p x C1 k) : WE X (.UnaryOp op a pos) env C k := .of (pe_un ho pe_tS) (ev_un hr h)
theorem we_cmp {op : CmpOp} {r : R2} {p : OpD} (ho : OpR X (compareOp op) r) (hr : R2D X.K r p) (h : WE X a env C fun x C1 => WE X b env C1 fun y C2 => p x y C2 k) (hm : behindInMarks op b = false) : WE X (.Compare a [op] [b] pos) env C k := .of (pe_cmpR ho pe_tS pe_tS hm) (ev_op hr h)
theorem wt_cmp {op : CmpOp} {r : R2} {p : OpD} (ho : OpR X (compareOp op) r) (hr : R2D X.K r p) (h : WE X a env C fun x C1 => WE X b env C1 fun y C2 => p x y C2 fun d C3 => ∃ t, d = .bl t ∧ kb t C3) (hm : behindInMarks op b = false) : WT X (.Compare a [op] [b] pos) env C kb := .of (pt_cmpR ho pe_tS pe_tS hm) (eb_test (ev_op hr h))
theorem wt_val (h : WE X e env C fun d C1 => ∃ t, d = .bl t ∧ kb t C1) (he : ∀ whole, isTrue e X.env whole = (do let v ← whole; standAt e.pos; holding [v] (truthy v)) := by intro _; rfl) : WT X e env C kb := .of (pt_val pe_tS he) (eb_B h)
theorem wt_not (h : WT X a env C fun t C1 => kb (!t) C1) : WT X (.UnaryOp .Not a pos) env C kb := .of (pt_not pt_tT) (eb_not h)
theorem wt_ww (h : WW X e env C kb) : WT X e env C kb := .of (PW.pt pw_tW) h
theorem ww_and1 (h : WT X a env C kb) : WW X (.BoolOp .And [a] pos) env C kb := .of (pw_and1 pt_tT) h
theorem ww_or1 (h : WT X a env C kb) : WW X (.BoolOp .Or [a] pos) env C kb := .of (pw_or1 pt_tT) h
theorem ww_and {rest : List Expr} (h : WT X a env C fun t C1 => (t = true → WW X (.BoolOp .And (b :: rest) pos) env C1 kb) ∧ (t = false → kb false C1)) : WW X (.BoolOp .And (a :: b :: rest) pos) env C kb := .of (pw_and pt_tT pw_tW) (eb_and2 h)
theorem ww_or {rest : List Expr} (h : WT X a env C fun t C1 => (t = true → kb true C1) ∧ (t = false → WW X (.BoolOp .Or (b :: rest) pos) env C1 kb)) : WW X (.BoolOp .Or (a :: b :: rest) pos) env C kb := .of (pw_or pt_tT pw_tW) (eb_or2 h)
theorem we_one {op} (h : WE X a env C k) : WE X (.BoolOp op [a] pos) env C k := .of (pe_one pe_tS) h
theorem we_and {rest : List Expr} (h : WE X a env C fun x C1 => ∃ t, x = .bl t ∧ (t = true → WE X (.BoolOp .And (b :: rest) pos) env C1 k) ∧ (t = false → k (.bl false) C1)) : WE X (.BoolOp .And (a :: b :: rest) pos) env C k := .of (pe_and pe_tS pe_tS) (ev_andV h)
theorem we_or {rest : List Expr} (h : WE X a env C fun x C1 => ∃ t, x = .bl t ∧ (t = true → k (.bl true) C1) ∧ (t = false → WE X (.BoolOp .Or (b :: rest) pos) env C1 k)) : WE X (.BoolOp .Or (a :: b :: rest) pos) env C k := .of (pe_or pe_tS pe_tS) (ev_orV h)
theorem we_not (h : WE X a env C fun x C1 => ∃ t, x = .bl t ∧ k (.bl (!t)) C1) : WE X (.UnaryOp .Not a pos) env C k := .of (pe_not pe_tS) (ev_notV h)
theorem we_if {c : Expr} (h : WT X c env C fun t C1 => (t = true → WE X a env C1 k) ∧ (t = false → WE X b env C1 k)) : WE X (.IfExp c a b pos) env C k := .of (pe_ifExp pt_tT pe_tS pe_tS) (ev_if h)
theorem wa_nil (h : ka [] C) : WA X [] env C ka := .of pa_nil (ea_nil h)
theorem we_tup {x1} (h : WA X es env C fun ds C1 => ds.length ≤ sizeLine ∧ k (.tup ds) C1) : WE X (.Tuple es x1 pos) env C k := .of (pe_tup pa_tAr) (ev_tup h)
theorem we_lst (h : WA X es env C fun ds C1 => ds.length ≤ sizeLine ∧ ∀ p, C1 p = none → k (.own p) (put C1 p (.lst ds))) : WE X (.List es pos) env C k := .of (pe_lst pa_tAr) (ev_lst h)
theorem we_lstF (h : WA X es env C fun ds C1 => ds.length ≤ sizeLine ∧ k (.lst ds) C1) : WE X (.List es pos) env C k := .of (pe_lst pa_tAr) (ev_lstF h)
theorem we_frz (h : WE X e env C fun d C1 => ∃ ds, seqL C1 d = some ds ∧ ((∃ a, d = .own a ∧ k (.lst ds) (del C1 a)) ∨ (d = .lst ds ∧ k (.lst ds) C1))) : WE X e env C k := ev_frz h
end
end DL
/-! DLd: operators, subscripts, built-in calls and methods by data; statements; loops; calls of defs. -/
namespace DL
open PySem PySem.Spec PyProof.Rows L2

section
variable {K : PySem.W.Frag}
/-! ### operators -/
def dI2 (f : Int → Int → Int) (P : Int → Int → Prop) : OpD := fun x y C k => ∃ i j, x = .int i ∧ y = .int j ∧ P i j ∧ k (.int (f i j)) C
theorem r2_I {f : Int → Int → Int} {P : Int → Int → Prop} : R2D K (rI P fun i j => .int (f i j)) (dI2 f P) := by
  rintro x y a b G C H k Q w da db ⟨i, j, rfl, rfl, hp, hk⟩ q
  cases da; cases db
  exact ⟨i, j, rfl, rfl, hp, q _ _ _ _ _ (Fr.refl ..) w (.int _) hk⟩
theorem r2_I0 {f : Int → Int → Int} : R2D K (rI0 fun i j => .int (f i j)) (dI2 f fun _ _ => True) := by
  rintro x y a b G C H k Q w da db ⟨i, j, rfl, rfl, hp, hk⟩ q
  cases da; cases db
  exact ⟨i, j, rfl, rfl, q _ _ _ _ _ (Fr.refl ..) w (.int _) hk⟩
def dB2 (f : Int → Int → Bool) : OpD := fun x y C k => ∃ i j, x = .int i ∧ y = .int j ∧ k (.bl (f i j)) C
theorem r2_B {f : Int → Int → Bool} : R2D K (rI0 fun i j => .bl (f i j)) (dB2 f) := by
  rintro x y a b G C H k Q w da db ⟨i, j, rfl, rfl, hk⟩ q
  cases da; cases db
  exact ⟨i, j, rfl, rfl, q _ _ _ _ _ (Fr.refl ..) w (.bl _) hk⟩
/-- + of ints, texts, tuples, lists -/
def dAdd : OpD := fun x y C k => match x, y with
  | .int i, .int j => k (.int (i + j)) C
  | .str a, .str b => a.length + b.length ≤ sizeLine ∧ k (.str (a ++ b)) C
  | .tup xs, .tup ys => xs.length + ys.length ≤ sizeLine ∧ k (.tup (xs ++ ys)) C
  | x, y => ∃ xs ys, seqL C x = some xs ∧ seqL C y = some ys ∧ xs.length + ys.length ≤ sizeLine ∧ ∀ p, C p = none → k (.own p) (put C p (.lst (xs ++ ys)))
def rAddA (K : PySem.W.Frag) : R2 := fun x y H Q => (∃ i j, x = .int i ∧ y = .int j ∧ Q (.int (i + j)) H) ∨ (∃ i j, x = .str i ∧ y = .str j ∧ i.length + j.length ≤ sizeLine ∧ Q (.str (i ++ j)) H) ∨ rCatA K x y H Q ∨ rCat x y H Q
theorem op_addA {X : Cx} : OpR X (binaryOp .Add) (rAddA X.K) := OpR.or op_add (OpR.or op_add_str (OpR.or op_catA op_cat))
theorem seqL_ints {C : CS} {x : D} {xs : List D} (h : seqL C x = some xs) : (∀ i, x ≠ .int i) ∧ (∀ s, x ≠ .str s) ∧ ∀ ts, x ≠ .tup ts := by
  refine ⟨fun i e => ?_, fun i e => ?_, fun i e => ?_⟩ <;> (subst e; simp [seqL] at h)
theorem catL {x y : V} {a b : D} {xs ys : List D} {G : Hp} {C : CS} {H : Hp} {k : KD} {Q : VK} (w : Wld K G C H) (da : Dat K G x a) (db : Dat K G y b) (e1 : seqL C a = some xs) (e2 : seqL C b = some ys) (hl : xs.length + ys.length ≤ sizeLine)
    (hk : ∀ p, C p = none → k (.own p) (put C p (.lst (xs ++ ys)))) (q : Kont K G C H k Q) : rCat x y H Q := by
  obtain ⟨l, vs, rfl, h1, r1⟩ := w.lst da e1
  obtain ⟨m, us, rfl, h2, r2⟩ := w.lst db e2
  refine ⟨l, m, vs, us, rfl, rfl, h1, h2, by rw [r1.length, r2.length]; exact hl, fun p hp => ?_⟩
  obtain ⟨w2, f2⟩ := w.newC hp (o := .lst (vs ++ us)) (c := .lst (xs ++ ys)) fun H' e => ⟨_, e, r1.append r2⟩
  exact q _ _ _ _ _ f2 w2 (.own p) (hk p (w.ne hp).2)
theorem r2_add : R2D K (rAddA K) dAdd := by
  intro x y a b G C H k Q w da db h q
  unfold dAdd at h
  split at h
  · cases da; cases db
    exact .inl ⟨_, _, rfl, rfl, q _ _ _ _ _ (Fr.refl ..) w (.int _) h⟩
  · cases da; cases db
    exact .inr (.inl ⟨_, _, rfl, rfl, h.1, q _ _ _ _ _ (Fr.refl ..) w (.str _) h.2⟩)
  · rename_i xs ys
    obtain ⟨l, vs, rfl, h1, r1⟩ := w.tup da
    obtain ⟨m, us, rfl, h2, r2⟩ := w.tup db
    refine .inr (.inr (.inl ⟨l, m, vs, us, rfl, rfl, h1, h2, by rw [r1.length, r2.length]; exact h.1, fun e => ?_, fun _ e => ?_, fun _ _ p hp => ?_⟩))
    · subst e; cases xs with
      | nil => exact q _ _ _ _ _ (Fr.refl ..) w db h.2
      | cons _ _ => cases r1
    · subst e; cases ys with
      | nil => exact q _ _ _ _ _ (Fr.refl ..) w da (by simpa using h.2)
      | cons _ _ => cases r2
    · obtain ⟨w2, f2, s2⟩ := w.newG hp (.tup (vs ++ us))
      exact q _ _ _ _ _ f2 w2 (.tup (SqT.of upd_same) ((r1.append r2).mono s2)) h.2
  · obtain ⟨xs, ys, e1, e2, hl, hk⟩ := h
    exact .inr (.inr (.inr (catL w da db e1 e2 hl hk q)))
theorem add_lst {x y : D} {C : CS} {k : KD} {xs ys : List D} (e1 : seqL C x = some xs) (e2 : seqL C y = some ys) (hl : xs.length + ys.length ≤ sizeLine) (h : ∀ p, C p = none → k (.own p) (put C p (.lst (xs ++ ys)))) : dAdd x y C k := by
  obtain ⟨n1, n2, n3⟩ := seqL_ints e1
  unfold dAdd
  split
  · exact absurd rfl (n1 _)
  · exact absurd rfl (n2 _)
  · exact absurd rfl (n3 _)
  · exact ⟨xs, ys, e1, e2, hl, h⟩
/-- * of ints; a list by an int -/
def dMul : OpD := fun x y C k => match x, y with
  | .int i, .int j => CMul i j ∧ k (.int (i * j)) C
  | x, .int n => ∃ xs, seqL C x = some xs ∧ -(2 ^ 63) ≤ n ∧ n < 2 ^ 63 ∧ xs.length * n.toNat ≤ sizeLine ∧ ∀ p, C p = none → k (.own p) (put C p (.lst (List.replicate n.toNat xs).flatten))
  | _, _ => False
theorem datAll_rep {G : Hp} {vs : List V} {ds : List D} (r : DatAll K G vs ds) : ∀ n : Nat, DatAll K G (List.replicate n vs).flatten (List.replicate n ds).flatten
  | 0 => .nil
  | n + 1 => by
    rw [List.replicate_succ, List.replicate_succ, List.flatten_cons, List.flatten_cons]
    exact r.append (datAll_rep r n)
def rMulA : R2 := fun x y H Q => rI CMul (fun i j => .int (i * j)) x y H Q ∨ rRep x y H Q
theorem op_mulA {X : Cx} : OpR X (binaryOp .Mult) rMulA := OpR.or op_mul op_rep
theorem r2_mul : R2D K rMulA dMul := by
  intro x y a b G C H k Q w da db h q
  unfold dMul at h
  split at h
  · cases da; cases db
    exact .inl ⟨_, _, rfl, rfl, h.1, q _ _ _ _ _ (Fr.refl ..) w (.int _) h.2⟩
  · obtain ⟨xs, e, h1, h2, h3, h4⟩ := h
    obtain ⟨l, vs, rfl, hH, r1⟩ := w.lst da e
    cases db
    refine .inr ⟨l, _, vs, rfl, rfl, hH, h1, h2, by rw [r1.length]; exact h3, fun p hp => ?_⟩
    obtain ⟨w2, f2⟩ := w.newC hp (o := .lst _) (c := .lst _) fun H' e => ⟨_, e, datAll_rep r1 _⟩
    exact q _ _ _ _ _ f2 w2 (.own p) (h4 p (w.ne hp).2)
  · exact h.elim

/-! ### comparisons -/
def dEq0 (neg : Bool) : OpD := fun x y C k => ∃ a b, pyC C x = some a ∧ pyC C y = some b ∧ SeqAt.shaped a = true ∧ SeqAt.shaped b = true ∧ k (.bl (if neg = true then !PyData.eqv a b else PyData.eqv a b)) C
theorem r2_eq0 : R2D K (rEqD K) (dEq0 false) := by
  rintro x y a b G C H k Q w da db ⟨d, e, h1, h2, h3, h4, h5⟩ q
  exact ⟨d, e, w.dp da h1, w.dp db h2, h3, h4, q _ _ _ _ _ (Fr.refl ..) w (.bl _) h5⟩
theorem r2_ne0 : R2D K (rNeD K) (dEq0 true) := by
  rintro x y a b G C H k Q w da db ⟨d, e, h1, h2, h3, h4, h5⟩ q
  exact ⟨d, e, w.dp da h1, w.dp db h2, h3, h4, q _ _ _ _ _ (Fr.refl ..) w (.bl _) h5⟩
/-- .. of texts, whatever their signs -/
def dEqS (neg : Bool) : OpD := fun x y C k => ∃ s t, x = .str s ∧ y = .str t ∧ k (.bl (if neg = true then !(s == t) else s == t)) C
def dEq (neg : Bool) : OpD := fun x y C k => dEq0 neg x y C k ∨ dEqS neg x y C k
theorem dec_st {s t : Str} : decide (V.str s = V.str t) = (s == t) := by
  by_cases h : s = t
  · subst h; simp
  · simp [h]
theorem r2_eq : R2D K (fun x y H Q => rEqD K x y H Q ∨ rEq x y H Q) (dEq false) := by
  rintro x y a b G C H k Q w da db (h | ⟨s, t, rfl, rfl, h⟩) q
  · exact .inl (r2_eq0 x y a b G C H k Q w da db h q)
  · cases da; cases db
    refine .inr ⟨rfl, ?_⟩
    rw [dec_st]
    exact q _ _ _ _ _ (Fr.refl ..) w (.bl _) h
theorem r2_ne : R2D K (fun x y H Q => rNeD K x y H Q ∨ rNe x y H Q) (dEq true) := by
  rintro x y a b G C H k Q w da db (h | ⟨s, t, rfl, rfl, h⟩) q
  · exact .inl (r2_ne0 x y a b G C H k Q w da db h q)
  · cases da; cases db
    refine .inr ⟨rfl, ?_⟩
    rw [dec_st]
    exact q _ _ _ _ _ (Fr.refl ..) w (.bl _) h
/-- is None -/
def dIsN (neg : Bool) : OpD := fun x y C k => y = .non ∧ match x with
  | .opq _ => False
  | .non => k (.bl (!neg)) C
  | _ => k (.bl neg) C
theorem r2_isN : R2D K (fun x y H Q => y = .non ∧ Q (.bl (decide (x = .non))) H) (dIsN false) := by
  rintro x y a b G C H k Q w da db ⟨rfl, h⟩ q
  cases db
  refine ⟨rfl, ?_⟩
  cases da <;> first | exact h.elim | exact q _ _ _ _ _ (Fr.refl ..) w (.bl _) h
theorem r2_notN : R2D K (fun x y H Q => y = .non ∧ Q (.bl (!decide (x = .non))) H) (dIsN true) := by
  rintro x y a b G C H k Q w da db ⟨rfl, h⟩ q
  cases db
  refine ⟨rfl, ?_⟩
  cases da <;> first | exact h.elim | exact q _ _ _ _ _ (Fr.refl ..) w (.bl _) h
/-- in, not in: a list of data; one sign in a text -/
def dInL (neg : Bool) : OpD := fun x y C k => ∃ a ds, pyC C x = some a ∧ pyC C y = some (.list ds) ∧ SeqAt.shaped a = true ∧ SeqAt.shaped (.list ds) = true ∧ k (.bl (if neg = true then !ds.any fun z => PyData.eqv z a else ds.any fun z => PyData.eqv z a)) C
theorem r2_inL : R2D K (rInD K) (dInL false) := by
  rintro x y a b G C H k Q w da db ⟨d, e, h1, h2, h3, h4, h5⟩ q
  exact ⟨d, e, w.dp da h1, w.dp db h2, h3, h4, q _ _ _ _ _ (Fr.refl ..) w (.bl _) h5⟩
theorem r2_ninL : R2D K (rNotInD K) (dInL true) := by
  rintro x y a b G C H k Q w da db ⟨d, e, h1, h2, h3, h4, h5⟩ q
  exact ⟨d, e, w.dp da h1, w.dp db h2, h3, h4, q _ _ _ _ _ (Fr.refl ..) w (.bl _) h5⟩
def dInS (neg : Bool) : OpD := fun x y C k => ∃ (c : Nat) (z : Str), x = .str ⟨#[c]⟩ ∧ y = .str z ∧ k (.bl (if neg = true then !decide (c ∈ z.cps.toList) else decide (c ∈ z.cps.toList))) C
theorem r2_inS : R2D K (fun x y H Q => ∃ (c : Nat) (z : Str), x = .str ⟨#[c]⟩ ∧ y = .str z ∧ Q (.bl (decide (c ∈ z.cps.toList))) H) (dInS false) := by
  rintro x y a b G C H k Q w da db ⟨c, z, rfl, rfl, h⟩ q
  cases da; cases db
  exact ⟨c, z, rfl, rfl, q _ _ _ _ _ (Fr.refl ..) w (.bl _) h⟩
theorem r2_ninS : R2D K (fun x y H Q => ∃ (c : Nat) (z : Str), x = .str ⟨#[c]⟩ ∧ y = .str z ∧ Q (.bl (!decide (c ∈ z.cps.toList))) H) (dInS true) := by
  rintro x y a b G C H k Q w da db ⟨c, z, rfl, rfl, h⟩ q
  cases da; cases db
  exact ⟨c, z, rfl, rfl, q _ _ _ _ _ (Fr.refl ..) w (.bl _) h⟩

/-! ### subscripts -/
def dIx : OpD := fun x y C k => match x, y with
  | .tup xs, .int i => ∃ d, atI xs i = some d ∧ k d C
  | .str z, .int i => z.length ≤ sizeLine ∧ ∃ c, atI z.cps.toList i = some c ∧ k (.str ⟨#[c]⟩) C
  | x, .int i => ∃ xs d, seqR C x = some xs ∧ atI xs i = some d ∧ k d C
  | _, _ => False
theorem datAll_at {G : Hp} {vs : List V} {ds : List D} {i : Int} {d : D} (r : DatAll K G vs ds) (h : atI ds i = some d) : ∃ v, atI vs i = some v ∧ Dat K G v d := by
  unfold atI at h ⊢
  rw [r.length]
  cases q : ixN ds.length i with
  | none => rw [q] at h; cases h
  | some j =>
    rw [q] at h
    exact r.get (show ds[j]? = some d from h)
theorem r2_ix : R2D K (rIx K) dIx := by
  intro x y a b G C H k Q w da db h q
  unfold dIx at h
  split at h
  · obtain ⟨d, h1, h2⟩ := h
    obtain ⟨l, vs, rfl, h3, r1⟩ := w.tup da
    cases db
    obtain ⟨v, h4, h5⟩ := datAll_at r1 h1
    exact .inr (.inl ⟨l, vs, _, v, rfl, rfl, h3, h4, q _ _ _ _ _ (Fr.refl ..) w h5 h2⟩)
  · obtain ⟨hz, c, h1, h2⟩ := h
    cases da; cases db
    exact .inr (.inr ⟨_, _, c, rfl, rfl, hz, h1, q _ _ _ _ _ (Fr.refl ..) w (.str _) h2⟩)
  · obtain ⟨xs, d, e, h1, h2⟩ := h
    obtain ⟨l, vs, rfl, h3, r1⟩ := w.seq da e
    cases db
    obtain ⟨v, h4, h5⟩ := datAll_at r1 h1
    exact .inl ⟨l, vs, _, v, rfl, rfl, h3, h4, q _ _ _ _ _ (Fr.refl ..) w h5 h2⟩
  · exact h.elim
theorem ix_lst {x : D} {i : Int} {C : CS} {k : KD} {xs : List D} {d : D} (e : seqR C x = some xs) (h : atI xs i = some d) (hk : k d C) : dIx x (.int i) C k := by
  cases x <;> first | exact ⟨xs, d, e, h, hk⟩ | (simp [seqR] at e)

def cutD (xs : List D) (lo hi : Option Int) : List D := (xs.drop (HT.sIx xs.length 0 lo)).take (HT.sIx xs.length xs.length hi - HT.sIx xs.length 0 lo)
theorem cut_datAll {G : Hp} {vs : List V} {ds : List D} (r : DatAll K G vs ds) (lo hi : Option Int) : DatAll K G (cutV vs lo hi) (cutD ds lo hi) := by
  unfold cutV cutD
  rw [r.length]
  exact (r.drop _).take _
def dSl (x : D) (lo hi : Option Int) (C : CS) (k : KD) : Prop := match x with
  | .tup xs => k (.tup (cutD xs lo hi)) C
  | .str z => z.length ≤ sizeLine ∧ k (.str (cutS z lo hi)) C
  | x => ∃ xs, seqR C x = some xs ∧ ∀ p, C p = none → k (.own p) (put C p (.lst (cutD xs lo hi)))
theorem sl_lst {x : D} {lo hi : Option Int} {C : CS} {k : KD} {xs : List D} (e : seqR C x = some xs) (h : ∀ p, C p = none → k (.own p) (put C p (.lst (cutD xs lo hi)))) : dSl x lo hi C k := by
  unfold dSl
  split
  · simp [seqR] at e
  · simp [seqR] at e
  · exact ⟨xs, e, h⟩
def rSlAll (K : PySem.W.Frag) : V → Option Int → Option Int → Hp → VK → Prop := fun x lo hi H Q => rSlL K x lo hi H Q ∨ (rSlS x lo hi H Q ∨ rSlA K x lo hi H Q)
theorem sl_all {X : Cx} : SlR X (rSlAll X.K) := SlR.or sl_list (SlR.or sl_str sl_tupA)
theorem sl_ok {x : V} {a : D} {lo hi : Option Int} {G : Hp} {C : CS} {H : Hp} {k : KD} {Q : VK} (w : Wld K G C H) (da : Dat K G x a) (h : dSl a lo hi C k) (q : Kont K G C H k Q) : rSlAll K x lo hi H Q := by
  unfold dSl at h
  split at h
  · rename_i xs
    obtain ⟨l, vs, rfl, h3, r1⟩ := w.tup da
    refine .inr (.inr ⟨l, vs, rfl, h3, fun e => ?_, fun _ p hp => ?_⟩)
    · rw [r1.length] at e
      have : cutD xs lo hi = xs := by
        unfold cutD
        rw [e.1, e.2]
        simp
      rw [this] at h
      exact q _ _ _ _ _ (Fr.refl ..) w da h
    · obtain ⟨w2, f2, s2⟩ := w.newG hp (.tup (cutV vs lo hi))
      exact q _ _ _ _ _ f2 w2 (.tup (SqT.of upd_same) ((cut_datAll r1 lo hi).mono s2)) h
  · cases da
    exact .inr (.inl ⟨_, rfl, h.1, q _ _ _ _ _ (Fr.refl ..) w (.str _) h.2⟩)
  · obtain ⟨xs, e, h⟩ := h
    obtain ⟨l, vs, rfl, h3, r1⟩ := w.seq da e
    refine .inl ⟨l, vs, rfl, h3, fun p hp => ?_⟩
    obtain ⟨w2, f2⟩ := w.newC hp (o := .lst (cutV vs lo hi)) (c := .lst (cutD xs lo hi)) fun H' e => ⟨_, e, cut_datAll r1 lo hi⟩
    exact q _ _ _ _ _ f2 w2 (.own p) (h p (w.ne hp).2)
end
section
variable {X : Cx} {e a b : Expr} {es : List Expr} {env : DEnv} {C : CS} {k : KD} {kb : Bool → CS → Prop} {ka : List D → CS → Prop} {pos : Pos}
theorem we_ix (h : WE X a env C fun x C1 => WE X b env C1 fun y C2 => dIx x y C2 k) (hs : PlainIx b := by intro _ _; rfl) : WE X (.Subscript a b pos) env C k := .of (pe_ix ix_seq pe_tS pe_tS hs) (ev_op r2_ix h)
/-- a part of a slice -/
def WO (X : Cx) (e : Option Expr) (env : DEnv) (C : CS) (k : Option Int → CS → Prop) : Prop := match e with
  | none => k none C
  | some e => WE X e env C fun d C1 => ∃ i, d = .int i ∧ k (some i) C1
def tO (X : Cx) (e : Option Expr) : TO := match e with
  | none => tNoPart
  | some e => tPart (tS X e)
theorem po_tO {o : Option Expr} : PO X o (tO X o) := by
  cases o with
  | none => exact po_none
  | some e => exact po_some pe_tS
theorem wo_use {o : Option Expr} {ko : Option Int → CS → Prop} (h : WO X o env C ko) {G : Hp} {σ : L2.St} {H : Hp} {Q : Option Int → Hp → Prop} (w : Wld X.K G C H) (er : EnvR X.K G env σ) (q : ∀ i G' C' H', Fr G C H G' C' H' → Wld X.K G' C' H' → ko i C' → Q i H') : tO X o σ H Q := by
  cases o with
  | none => exact q none G C H (Fr.refl ..) w h
  | some e =>
    refine h G σ H _ w er fun v G' C' H' d f w' r z => ?_
    obtain ⟨i, rfl, z⟩ := z
    cases r
    exact ⟨i, rfl, q _ _ _ _ f w' z⟩
theorem we_slice {lo hi : Option Expr} {p2 : Pos} (h : WE X a env C fun x C1 => WO X lo env C1 fun l C2 => WO X hi env C2 fun u C3 => dSl x l u C3 k) : WE X (.Subscript a (.Slice lo hi none p2) pos) env C k :=
  .of (pe_slice sl_all pe_tS po_tO po_tO) fun G σ H Q w er q => h G σ H _ w er fun v G1 C1 H1 x f1 w1 d1 h1 =>
    wo_use h1 w1 (er.mono f1.exG) fun l G2 C2 H2 f2 w2 h2 => wo_use h2 w2 (er.mono (f1.trans f2).exG) fun u G3 C3 H3 f3 w3 h3 =>
      sl_ok w3 (d1.mono (f2.trans f3).exG) h3 (q.after ((f1.trans f2).trans f3))
theorem wa_cons (h : WE X e env C fun x C1 => WA X es env C1 fun ds C2 => ka (x :: ds) C2) (hs : starEach (e :: es) X.env = (false, eval e X.env) :: starEach es X.env := by rfl) : WA X (e :: es) env C ka := .of (pa_cons pe_tS pa_tAr hs) (ea_cons h)

/-! ### built-in calls -/
theorem we_cb {x : Str} {id : String} {p0 : Pos} {r : List V → Hp → VK → Prop} {p : List D → CS → KD → Prop} (hm : X.mg x = none) (hc : CallR X (.builtin id) r) (hr : RLD X.K r p) (hg : Gl X x) (hv : bootBuiltins x = some (.builtin id)) (h : WA X (e :: es) env C fun ds C1 => p ds C1 k)
    (hn : x ≠ "__name__" := by decide) (hdb : (x == ("__debug__" : Str)) = false := by decide)
    (he : starEach (e :: es) X.env = (false, eval e X.env) :: starEach es X.env := by rfl) (hpl : (backTo pos (starEach es X.env)).any (·.1) = false := by rfl) : WE X (.Call (.Name x p0) (e :: es) [] pos) env C k :=
  .of (pe_callB hc hg hm hv pa_tAr hn hdb he hpl) (ev_cb hr h)
theorem we_ct {x : Str} {T : String} {p0 : Pos} {r : List V → Hp → VK → Prop} {p : List D → CS → KD → Prop} (hm : X.mg x = none) (hc : CallR X (.type T) r) (hr : RLD X.K r p) (hg : Gl X x) (hv : bootBuiltins x = some (.type T)) (h : WA X (e :: es) env C fun ds C1 => p ds C1 k)
    (hn : x ≠ "__name__" := by decide) (hdb : (x == ("__debug__" : Str)) = false := by decide)
    (he : starEach (e :: es) X.env = (false, eval e X.env) :: starEach es X.env := by rfl) (hpl : (backTo pos (starEach es X.env)).any (·.1) = false := by rfl) : WE X (.Call (.Name x p0) (e :: es) [] pos) env C k :=
  .of (pe_callTy hc hg hm hv pa_tAr hn hdb he hpl) (ev_cb hr h)
end
end DL
/-! DLe: statements, loops, comprehensions, calls of defs. -/
namespace DL
open PySem PySem.Spec PyProof.Rows L2

section
variable {X : Cx} {e a b : Expr} {es : List Expr} {st : Stmt} {sts rest : List Stmt} {env : DEnv} {C : CS} {k : KD} {kb : Bool → CS → Prop} {ka : List D → CS → Prop} {pos : Pos} {E : DEnds}

/-! ### statements -/
theorem wss_nil (h : E.nx env C) : WSs X [] env C E := .of pss_nil fun G σ H D w er q => q.nx G C H σ env (Fr.refl ..) w er h
theorem wss_cons (h : WS X st env C { E with nx := fun env' C' => WSs X rest env' C' E }) : WSs X (st :: rest) env C E :=
  .of (pss_cons ps_tX pss_tXs) fun G σ H D w er q => h G σ H { D with nx := tXs X rest D } w er
    ⟨fun G1 C1 H1 σ1 env1 f1 w1 er1 h1 => h1 G1 σ1 H1 D w1 er1 (q.after f1), q.rt, q.bk, q.ct⟩
theorem ws_pass (h : E.nx env C) : WS X (.Pass pos) env C E := .of ps_pass fun G σ H D w er q => q.nx G C H σ env (Fr.refl ..) w er h
theorem ws_break (h : E.bk env C) : WS X (.Break pos) env C E := .of ps_break fun G σ H D w er q => q.bk G C H σ env (Fr.refl ..) w er h
theorem ws_continue (h : E.ct env C) : WS X (.Continue pos) env C E := .of ps_continue fun G σ H D w er q => q.ct G C H σ env (Fr.refl ..) w er h
theorem ws_expr (h : WE X e env C fun _ C1 => E.nx env C1) (hs : swapsWith e none pos.line X.env = pure false := by rfl) : WS X (.Expr e pos) env C E :=
  .of (ps_expr pe_tS hs) fun G σ H D w er q => h G σ H _ w er fun v G1 C1 H1 d f1 w1 r1 z => q.nx G1 C1 H1 σ env f1 w1 (er.mono f1.exG) z
theorem ws_ret (h : WE X e env C E.rt) : WS X (.Return (some e) pos) env C E := .of (ps_ret pe_tS) fun G σ H D w er q => h G σ H _ w er q.rt
theorem ws_retN (h : E.rt .non C) : WS X (.Return none pos) env C E := .of ps_retN fun G σ H D w er q => q.rt .non G C H .non (Fr.refl ..) w .non h
theorem ws_if {c : Expr} {s1 s2 : List Stmt} (h : WT X c env C fun t C1 => (t = true → WSs X s1 env C1 E) ∧ (t = false → WSs X s2 env C1 E)) : WS X (.If c s1 s2 pos) env C E :=
  .of (ps_if pt_tT pss_tXs pss_tXs) fun G σ H D w er q => h G σ H _ w er fun b G1 C1 H1 f1 w1 hb => by
    cases b with
    | true => exact iteT (hb.1 rfl G1 σ H1 D w1 (er.mono f1.exG) (q.after f1))
    | false => exact iteF (hb.2 rfl G1 σ H1 D w1 (er.mono f1.exG) (q.after f1))
/-- cells are forgotten, a list is frozen, ahead of a block -/
theorem wss_sub {C1 : CS} (hs : ∀ a c, C1 a = some c → C a = some c) (h : WSs X sts env C1 E) : WSs X sts env C E := fun G σ H D w er q =>
  let ⟨w1, f1⟩ := w.sub hs
  h G σ H D w1 er (q.after f1)
theorem we_sub {C1 : CS} (hs : ∀ a c, C1 a = some c → C a = some c) (h : WE X e env C1 k) : WE X e env C k := fun G σ H D w er q =>
  let ⟨w1, f1⟩ := w.sub hs
  h G σ H D w1 er (q.after f1)
/-- forgetting at the end -/
theorem we_post {C' : CS → CS} (hs : ∀ C1 a c, C' C1 a = some c → C1 a = some c) (h : WE X e env C fun d C1 => k d (C' C1)) : WE X e env C k := fun G σ H D w er q =>
  h G σ H D w er fun v G1 C1 H1 d f1 w1 r1 z => let ⟨w2, f2⟩ := w1.sub (hs C1); q v G1 (C' C1) H1 d (f1.trans f2) w2 r1 z

/-! ### targets -/
def EvG (K : PySem.W.Frag) (g : TG) (d : D) (env : DEnv) (C : CS) (k : DEnv → CS → Prop) : Prop := ∀ G σ H v Q, Wld K G C H → EnvR K G env σ → Dat K G v d → KontE K G C H k Q → g v σ H Q
def tGt (X : Cx) (target : Expr) : TG := fun v σ H Q => ∀ pins s u, Inv X pins σ H s → RelV v u → wpAny (model X.prog X.w) X.A (assign target X.env u) (fun _ s' => ∃ σ' H', Inv X pins σ' H' s' ∧ Q σ' H') X.xe s
theorem pg_tGt {tg : Expr} : PG X tg (tGt X tg) := ⟨fun pins s σ H v u Q I r h => h pins s u I r⟩
def tGts (X : Cx) (ts : List Expr) : TGs := fun vs σ H Q => ∀ pins s us, Inv X pins σ H s → Vals vs us → wpAny (model X.prog X.w) X.A (assignInOrder ((assignEach ts X.env).map (·.2)) us) (fun _ s' => ∃ σ' H', Inv X pins σ' H' s' ∧ Q σ' H') X.xe s
theorem pgs_tGts {ts : List Expr} : PGs X ts (tGts X ts) := ⟨fun pins s σ H vs us Q I r h => h pins s us I r⟩
def WG (X : Cx) (tg : Expr) (d : D) (env : DEnv) (C : CS) (k : DEnv → CS → Prop) : Prop := EvG X.K (tGt X tg) d env C k
def WGs (X : Cx) (ts : List Expr) (ds : List D) (env : DEnv) (C : CS) (k : DEnv → CS → Prop) : Prop := ∀ G σ H vs Q, Wld X.K G C H → EnvR X.K G env σ → DatAll X.K G vs ds → KontE X.K G C H k Q → tGts X ts vs σ H Q
theorem WG.of {tg : Expr} {g : TG} {d : D} {kE : DEnv → CS → Prop} (h : PG X tg g) (hv : EvG X.K g d env C kE) : WG X tg d env C kE := fun G σ H v Q w er r q pins s u I ru => h.run pins s σ H v u Q I ru (hv G σ H v Q w er r q)
theorem wg_name {i : Nat} {x : Str} {d : D} {kE : DEnv → CS → Prop} (hN : X.N.Nodup) (hi : X.N[i]? = some x) (hx : Loc X.env.scope x) (h : kE (env.set i (some d)) C) (hf : X.fn x = true ∨ X.env.scope.names.lookup x = some .local := by first | exact .inl rfl | exact .inr rfl | assumption) : WG X (.Name x pos) d env C kE :=
  .of (pg_name hN hi hx hf) fun G σ H v Q w er r q => q G C H _ _ (Fr.refl ..) w (er.set i r) h
theorem wgs_nil {kE : DEnv → CS → Prop} (h : kE env C) : WGs X [] [] env C kE := fun G σ H vs Q w er r q pins s us I ru => by
  cases r; cases ru
  exact (pgs_nil (X := X)).run pins s σ H [] [] Q I .nil ⟨rfl, q G C H σ env (Fr.refl ..) w er h⟩
theorem wgs_cons {t : Expr} {ts : List Expr} {d : D} {ds : List D} {kE : DEnv → CS → Prop} (h : WG X t d env C fun env1 C1 => WGs X ts ds env1 C1 kE) (hs : (assignEach (t :: ts) X.env).map (·.2) = assign t X.env :: (assignEach ts X.env).map (·.2) := by rfl) : WGs X (t :: ts) (d :: ds) env C kE := fun G σ H vs Q w er r q pins s us I ru => by
  cases r with
  | @cons v vr _ _ r1 r2 =>
    refine (pgs_cons (X := X) pg_tGt pgs_tGts hs).run pins s σ H (v :: vr) us Q I ru ⟨v, vr, rfl, ?_⟩
    exact h G σ H v _ w er r1 fun G1 C1 H1 σ1 env1 f1 w1 er1 h1 => h1 G1 σ1 H1 vr Q w1 er1 (r2.mono f1.exG) (q.after f1)
theorem wg_tup {ts : List Expr} {n : Nat} {ds : List D} {kE : DEnv → CS → Prop} (hc : X.calm = true) (hl : ds.length = (assignEach ts X.env).length) (h : WGs X ts ds env C kE) (hst : (assignEach ts X.env).findIdx? (·.1) = none := by rfl) : WG X (.Tuple ts n pos) (.tup ds) env C kE :=
  .of (pg_tup hc pgs_tGts rfl hst) fun G σ H v Q w er r q => by
    cases r with
    | tup h1 h2 => exact ⟨_, _, rfl, Same.sqT w.ex h1, by rw [h2.length]; exact hl, h G σ H _ Q w er h2 q⟩
theorem ws_asg {tg : Expr} (h : WE X e env C fun d C1 => WG X tg d env C1 E.nx) (hs : swapsWithSole [tg] e pos.line X.env = pure false := by rfl) (hw : swappedStores [tg] e X.env = pure none := by rfl)
    (h1 : (assignEach [tg] X.env).map (·.2) = [assign tg X.env] := by rfl) : WS X (.Assign [tg] e pos) env C E :=
  .of (ps_asg pe_tS pg_tGt hs hw h1) fun G σ H D w er q => h G σ H _ w er fun v G1 C1 H1 d f1 w1 r1 z => z G1 σ H1 v _ w1 (er.mono f1.exG) r1 (q.nx.after f1)
/-- name = value -/
theorem ws_set {i : Nat} {x : Str} {pos' : Pos} (hN : X.N.Nodup) (hi : X.N[i]? = some x) (hx : Loc X.env.scope x) (h : WE X e env C fun d C1 => E.nx (env.set i (some d)) C1) (hs : swapsWith e (some (.Name x pos')) pos.line X.env = pure false := by rfl) (hf : X.fn x = true ∨ X.env.scope.names.lookup x = some .local := by first | exact .inl rfl | exact .inr rfl | assumption) :
    WS X (.Assign [.Name x pos'] e pos) env C E :=
  .of (ps_set hN hi hx pe_tS hs hf) fun G σ H D w er q => h G σ H _ w er fun v G1 C1 H1 d f1 w1 r1 z => q.nx G1 C1 H1 _ _ f1 w1 ((er.mono f1.exG).set i r1) z
/-- a, b = x, y: two plain local names -/
theorem ws_par {i j : Nat} {x y : Str} {px py pt : Pos} {kt k2 : Nat} {pt2 : Pos} (hc : X.calm = true) (hN : X.N.Nodup) (hi : X.N[i]? = some x) (hj : X.N[j]? = some y) (hij : i ≠ j)
    (hx : X.env.scope.names.lookup x = some .local) (hy : X.env.scope.names.lookup y = some .local) (h : WA X [a, b] env C fun ds C1 => ∃ u v, ds = [u, v] ∧ E.nx ((env.set i (some u)).set j (some v)) C1)
    (hw : swappedStores [.Tuple [.Name x px, .Name y py] kt pt] (.Tuple [a, b] k2 pt2) X.env = pure (some [x, y]))
    (hs : swapsWithSole [.Tuple [.Name x px, .Name y py] kt pt] (.Tuple [a, b] k2 pt2) pos.line X.env = pure false := by rfl) :
    WS X (.Assign [.Tuple [.Name x px, .Name y py] kt pt] (.Tuple [a, b] k2 pt2) pos) env C E :=
  .of (ps_par hc hN hi hj hij hx hy pa_tAr hw hs) fun G σ H D w er q => h G σ H _ w er fun vs G1 C1 H1 ds f1 w1 r1 z => by
    obtain ⟨u, v, rfl, z⟩ := z
    cases r1 with
    | @cons u' _ _ _ r1 r2 =>
      cases r2 with
      | @cons v' _ _ _ r2 r3 =>
        cases r3
        exact ⟨u', v', rfl, q.nx G1 C1 H1 _ _ f1 w1 (((er.mono f1.exG).set i r1).set j r2) z⟩
/-- name op= value -/
def RID (K : PySem.W.Frag) (r : TIp) (p : OpD) : Prop := R2D K r p
theorem ws_aug {i : Nat} {x : Str} {op : Operator} {ti : TIp} {p : OpD} {d : D} {pos' : Pos} (hN : X.N.Nodup) (hi : X.N[i]? = some x) (hx : Loc X.env.scope x) (ho : PIp X op ti) (hr : RID X.K ti p) (he : env[i]? = some (some d)) (h : WE X e env C fun y C1 => p d y C1 fun z C2 => E.nx (env.set i (some z)) C2)
    (hf : X.fn x = true ∨ X.env.scope.names.lookup x = some .local := by first | exact .inl rfl | exact .inr rfl | assumption) : WS X (.AugAssign (.Name x pos') op e pos) env C E :=
  .of (ps_aug hN hi hx pe_tS ho hf) fun G σ H D w er q => by
    obtain ⟨v, h1, h2⟩ := er.2 i d he
    refine ⟨v, h1, ?_⟩
    exact h G σ H _ w er fun y' G1 C1 H1 y f1 w1 r1 z => hr v y' d y G1 C1 H1 _ _ w1 (h2.mono f1.exG) r1 z fun z' G2 C2 H2 z f2 w2 r2 hz => q.nx G2 C2 H2 _ _ (f1.trans f2) w2 ((er.mono (f1.trans f2).exG).set i r2) hz
/-- o[i] = value, a list -/
theorem set_ok {p : Addr} {xs : List D} {G : Hp} {H : Hp} {n : Int} {j : Nat} {x i v : V} {d : D} {Q : Hp → Prop} {K : PySem.W.Frag} (w : Wld K G C H) (hp : C p = some (.lst xs)) (hx : Dat K G x (.own p)) (hi : Dat K G i (.int n)) (hv : Dat K G v d) (hj : ixN xs.length n = some j)
    (q : ∀ H', Fr G C H G (put C p (.lst (xs.set j d))) H' → Wld K G (put C p (.lst (xs.set j d))) H' → Q H') : rSetL x i v H Q := by
  cases hx; cases hi
  obtain ⟨_, vs, h1, h2⟩ := w.cell p _ hp
  refine ⟨p, vs, n, j, rfl, rfl, h1, by rw [h2.length]; exact hj, ?_⟩
  obtain ⟨w2, f2⟩ := w.write hp (o := .lst (vs.set j v)) (c' := .lst (xs.set j d)) fun H' e => ⟨_, e, h2.set j hv⟩
  exact q _ f2 w2
theorem wg_setL {o i : Expr} {d : D} {kE : DEnv → CS → Prop} (h : WE X o env C fun x C1 => WE X i env C1 fun y C2 => ∃ p n xs j, x = .own p ∧ y = .int n ∧ C2 p = some (.lst xs) ∧ ixN xs.length n = some j ∧ kE env (put C2 p (.lst (xs.set j d))))
    (ha : ∀ v, assign (.Subscript o i pos) X.env v = (do
      let ov ← holding [v] (eval o X.env)
      let iv ← holding [v, ov] (eval i X.env)
      standAt pos
      holding [v, ov, iv] (setItem ov iv v)
      release [v, ov, iv] []) := by intro _; rfl) : WG X (.Subscript o i pos) d env C kE :=
  .of (pg_sub pe_tS pe_tS set_list ha) fun G σ H v Q w er r q => h G σ H _ w er fun x' G1 C1 H1 x f1 w1 r1 h1 => h1 G1 σ H1 _ w1 (er.mono f1.exG) fun y' G2 C2 H2 y f2 w2 r2 h2 => by
    obtain ⟨p, n, xs, j, rfl, rfl, hp, hj, hk⟩ := h2
    exact set_ok w2 hp (r1.mono f2.exG) r2 (r.mono (f1.trans f2).exG) hj fun H' f3 w3 => q _ _ _ _ _ ((f1.trans f2).trans f3) w3 (er.mono (f1.trans f2).exG) hk

/-! ### while -/
theorem ws_while {c : Expr} {body : List Stmt} (hp : PassesOwn (model X.prog X.w) X.A X.env X.xe) (Iv : Nat → DEnv → CS → Prop) (h0 : ∃ m, Iv m env C)
    (h : ∀ m env C, Iv m env C → WT X c env C fun t C1 => (t = true → WSs X body env C1 { nx := fun env' C' => ∃ m', m' < m ∧ Iv m' env' C', rt := E.rt, bk := E.nx, ct := fun env' C' => ∃ m', m' < m ∧ Iv m' env' C' }) ∧ (t = false → E.nx env C1)) : WS X (.While c body [] pos) env C E :=
  .of (ps_while hp pt_tT pss_tXs) fun G σ H D w er q => by
    obtain ⟨m0, i0⟩ := h0
    refine ⟨fun m σ1 H1 => ∃ G1 C1 env1, Fr G C H G1 C1 H1 ∧ Wld X.K G1 C1 H1 ∧ EnvR X.K G1 env1 σ1 ∧ Iv m env1 C1, ⟨m0, G, C, env, Fr.refl .., w, er, i0⟩, ?_⟩
    rintro m σ1 H1 ⟨G1, C1, env1, f1, w1, er1, i1⟩
    refine h m env1 C1 i1 G1 σ1 H1 _ w1 er1 fun b G2 C2 H2 f2 w2 hb => ?_
    cases b with
    | false => exact iteF (q.nx G2 C2 H2 σ1 env1 (f1.trans f2) w2 (er1.mono f2.exG) (hb.2 rfl))
    | true =>
      refine iteT ⟨fun σ' H' => ∃ m', m' < m ∧ ∃ G1 C1 env1, Fr G C H G1 C1 H' ∧ Wld X.K G1 C1 H' ∧ EnvR X.K G1 env1 σ' ∧ Iv m' env1 C1, fun σ' H' h => h, ?_⟩
      have fin : KontE X.K G2 C2 H2 (fun env' C' => ∃ m', m' < m ∧ Iv m' env' C') (fun σ' H' => ∃ m', m' < m ∧ ∃ G1 C1 env1, Fr G C H G1 C1 H' ∧ Wld X.K G1 C1 H' ∧ EnvR X.K G1 env1 σ' ∧ Iv m' env1 C1) := fun G3 C3 H3 σ3 env3 f3 w3 er3 ⟨m', hm, i3⟩ => ⟨m', hm, G3, C3, env3, (f1.trans f2).trans f3, w3, er3, i3⟩
      exact hb.1 rfl G2 σ1 H2 _ w2 (er1.mono f2.exG) ⟨fin, q.rt.after (f1.trans f2), q.nx.after (f1.trans f2), fin⟩
end

/-! ### what is walked -/
/-- while Pc holds of the cells, the walk J gives these data -/
def IterD (K : PySem.W.Frag) (J : It) (xs : List D) (Pc : CS → Prop) (G : Hp) : Prop := ∀ G' C' H', Same G G' → Wld K G' C' H' → Pc C' →
  (∀ i d, xs[i]? = some d → J.go i H' ∧ ∀ x H2, J.yld i H' x H2 → ∃ G2, Fr G' C' H' G2 C' H2 ∧ Wld K G2 C' H2 ∧ Dat K G2 x d) ∧ (∀ i, xs.length ≤ i → J.stop i H')
abbrev KI := List D → (CS → Prop) → CS → Prop
def EvI (K : PySem.W.Frag) (wi : TI) (env : DEnv) (C : CS) (kI : KI) : Prop := ∀ G σ H R, Wld K G C H → EnvR K G env σ → (∀ J G' C' H' xs Pc, Fr G C H G' C' H' → Wld K G' C' H' → IterD K J xs Pc G' → kI xs Pc C' → R J H') → wi σ H R
def WI (X : Cx) (tg iter : Expr) (env : DEnv) (C : CS) (kI : KI) : Prop := ∃ wi, PI X tg iter wi ∧ EvI X.K wi env C kI
theorem iterD_list {K : PySem.W.Frag} {G : Hp} {a : Addr} {vs : List V} {ds : List D} (h : SqL K G a vs) (r : DatAll K G vs ds) : IterD K (Itl K a) ds (fun _ => True) G := by
  intro G' C' H' e w _
  have hq : SqL K H' a vs := w.ex.seq (e.seq h)
  refine ⟨fun i d hd => ?_, fun i hi => ⟨vs, hq, by rw [r.length]; exact hi⟩⟩
  obtain ⟨v, h1, h2⟩ := r.get hd
  refine ⟨⟨vs, v, hq, h1⟩, ?_⟩
  rintro x H2 ⟨rfl, hx⟩
  have e1 := hx vs hq
  rw [h1] at e1; cases e1
  exact ⟨G', Fr.refl .., w, h2.mono e⟩
theorem iterD_own {K : PySem.W.Frag} {G : Hp} {a : Addr} {ds : List D} : IterD K (Itl K a) ds (fun C => C a = some (.lst ds)) G := by
  intro G' C' H' e w p
  obtain ⟨_, vs, h1, r⟩ := w.cell a _ p
  have hq : SqL K H' a vs := SqL.of h1
  refine ⟨fun i d hd => ?_, fun i hi => ⟨vs, hq, by rw [r.length]; exact hi⟩⟩
  obtain ⟨v, g1, h2⟩ := r.get hd
  refine ⟨⟨vs, v, hq, g1⟩, ?_⟩
  rintro x H2 ⟨rfl, hx⟩
  have e1 := hx vs hq
  rw [g1] at e1; cases e1
  exact ⟨G', Fr.refl .., w, h2⟩
theorem iterD_tup {K : PySem.W.Frag} {G : Hp} {a : Addr} {vs : List V} {ds : List D} (h : SqT K G a vs) (r : DatAll K G vs ds) : IterD K (Itt K a) ds (fun _ => True) G := by
  intro G' C' H' e w _
  have hq : SqT K H' a vs := Same.sqT w.ex (Same.sqT e h)
  refine ⟨fun i d hd => ?_, fun i hi => ⟨vs, hq, by rw [r.length]; exact hi⟩⟩
  obtain ⟨v, h1, h2⟩ := r.get hd
  refine ⟨⟨vs, v, hq, h1⟩, ?_⟩
  rintro x H2 ⟨rfl, hx⟩
  have e1 := hx vs hq
  rw [h1] at e1; cases e1
  exact ⟨G', Fr.refl .., w, h2.mono e⟩
def intsFrom (lo : Int) (n : Nat) : List D := (List.range n).map fun i => D.int (lo + (i : Nat))
theorem intsFrom_get {lo : Int} {n i : Nat} {d : D} (h : (intsFrom lo n)[i]? = some d) : i < n ∧ d = .int (lo + (i : Nat)) := by
  unfold intsFrom at h
  rw [List.getElem?_map] at h
  by_cases hi : i < n
  · rw [List.getElem?_range hi] at h; exact ⟨hi, (Option.some.inj h).symm⟩
  · rw [List.getElem?_eq_none (by simpa using hi)] at h; cases h
theorem intsFrom_length {lo : Int} {n : Nat} : (intsFrom lo n).length = n := by unfold intsFrom; simp
theorem iterD_rng {K : PySem.W.Frag} {G : Hp} {lo : Int} {n : Nat} : IterD K (Itr lo n) (intsFrom lo n) (fun _ => True) G := by
  intro G' C' H' e w _
  refine ⟨fun i d hd => ?_, fun i hi => by rw [intsFrom_length] at hi; exact hi⟩
  obtain ⟨h1, rfl⟩ := intsFrom_get hd
  refine ⟨h1, ?_⟩
  rintro x H2 ⟨rfl, rfl⟩
  exact ⟨G', Fr.refl .., w, .int _⟩
def signsOf (x : Str) : List D := x.cps.toList.map fun c => D.str ⟨#[c]⟩
theorem iterD_str {K : PySem.W.Frag} {G : Hp} {x : Str} : IterD K (Its x) (signsOf x) (fun _ => True) G := by
  intro G' C' H' e w _
  refine ⟨fun i d hd => ?_, fun i hi => show x.cps.size ≤ i by simpa [signsOf] using hi⟩
  unfold signsOf at hd
  rw [List.getElem?_map] at hd
  cases q : x.cps.toList[i]? with
  | none => rw [q] at hd; cases hd
  | some c =>
    rw [q] at hd
    obtain rfl := Option.some.inj hd
    have hc : x.cps[i]? = some c := by simpa using q
    refine ⟨(Array.getElem?_eq_some_iff.mp hc).1, ?_⟩
    rintro v H2 ⟨rfl, c', h1, rfl⟩
    rw [hc] at h1; cases h1
    exact ⟨G', Fr.refl .., w, .str _⟩
section
variable {X : Cx} {e a b : Expr} {es : List Expr} {tg iter : Expr} {body : List Stmt} {env : DEnv} {C : CS} {k : KD} {pos : Pos} {E : DEnds} {kI : KI}
theorem wi_list (h : WE X e env C fun d C1 => (∃ xs, seqR C1 d = some xs ∧ match d with
    | .own a => kI xs (fun C => C a = some (.lst xs)) C1
    | _ => kI xs (fun _ => True) C1)) : WI X tg e env C kI := by
  refine ⟨_, pi_list pe_tS, fun G σ H R w er q => h G σ H _ w er fun v G1 C1 H1 d f1 w1 r1 z => ?_⟩
  obtain ⟨xs, hs, z⟩ := z
  cases r1 with
  | lst x1 x2 =>
    simp [seqR] at hs; subst hs
    exact ⟨_, rfl, ⟨_, w1.ex.seq (SqL.of x1)⟩, q _ _ _ _ _ _ f1 w1 (iterD_list (SqL.of x1) x2) z⟩
  | slst x1 x2 =>
    simp [seqR] at hs; subst hs
    exact ⟨_, rfl, ⟨_, w1.ex.seq x1⟩, q _ _ _ _ _ _ f1 w1 (iterD_list x1 x2) z⟩
  | own a =>
    have hc := own_seqR hs
    obtain ⟨_, vs, y1, y2⟩ := w1.cell a _ hc
    exact ⟨_, rfl, ⟨_, SqL.of y1⟩, q _ _ _ _ _ _ f1 w1 iterD_own z⟩
  | _ => simp [seqR] at hs
theorem wi_tup (h : WE X e env C fun d C1 => ∃ xs, d = .tup xs ∧ kI xs (fun _ => True) C1) : WI X tg e env C kI := by
  refine ⟨_, pi_tup pe_tS, fun G σ H R w er q => h G σ H _ w er fun v G1 C1 H1 d f1 w1 r1 z => ?_⟩
  obtain ⟨xs, rfl, z⟩ := z
  cases r1 with
  | tup x1 x2 => exact ⟨_, rfl, ⟨_, Same.sqT w1.ex x1⟩, q _ _ _ _ _ _ f1 w1 (iterD_tup x1 x2) z⟩
theorem wi_str (h : WE X e env C fun d C1 => ∃ x, d = .str x ∧ kI (signsOf x) (fun _ => True) C1) : WI X tg e env C kI := by
  refine ⟨_, pi_str pe_tS, fun G σ H R w er q => h G σ H _ w er fun v G1 C1 H1 d f1 w1 r1 z => ?_⟩
  obtain ⟨x, rfl, z⟩ := z
  cases r1
  exact ⟨_, rfl, q _ _ _ _ _ _ f1 w1 iterD_str z⟩
theorem wi_range1 {p : Pos} (hm : X.mg "range" = none) (hg : Gl X "range") (h : WA X [a] env C fun ds C1 => ∃ j : Int, ds = [.int j] ∧ -(2 ^ 62) ≤ j ∧ j < 2 ^ 62 ∧ kI (intsFrom 0 j.toNat) (fun _ => True) C1) (hs : starEach [a] X.env = [(false, eval a X.env)] := by rfl) :
    WI X tg (.Call (.Name "range" p) [a] [] pos) env C kI := by
  refine ⟨_, pi_range1 hg hm pa_tAr hs, fun G σ H R w er q => h G σ H _ w er fun v G1 C1 H1 d f1 w1 r1 z => ?_⟩
  obtain ⟨j, rfl, z1, z2, z⟩ := z
  cases r1 with
  | cons r1 r2 => cases r1; cases r2; exact ⟨j, rfl, z1, z2, q _ _ _ _ _ _ f1 w1 iterD_rng z⟩
theorem wi_range2 {p : Pos} (hm : X.mg "range" = none) (hg : Gl X "range") (h : WA X [a, b] env C fun ds C1 => ∃ i j : Int, ds = [.int i, .int j] ∧ (-(2 ^ 62) ≤ i ∧ i < 2 ^ 62 ∧ -(2 ^ 62) ≤ j ∧ j < 2 ^ 62) ∧ kI (intsFrom i (j - i).toNat) (fun _ => True) C1)
    (hs : starEach [a, b] X.env = [(false, eval a X.env), (false, eval b X.env)] := by rfl) (hs2 : starEach [b] X.env = [(false, eval b X.env)] := by rfl) :
    WI X tg (.Call (.Name "range" p) [a, b] [] pos) env C kI := by
  refine ⟨_, pi_range2 hg hm pa_tAr hs hs2, fun G σ H R w er q => h G σ H _ w er fun v G1 C1 H1 d f1 w1 r1 z => ?_⟩
  obtain ⟨i, j, rfl, z1, z⟩ := z
  cases r1 with
  | cons r1 r2 =>
    cases r2 with
    | cons r2 r3 => cases r1; cases r2; cases r3; exact ⟨i, j, rfl, z1, q _ _ _ _ _ _ f1 w1 iterD_rng z⟩

/-- for: an invariant over the turn -/
theorem ws_for (hp : PassesOwn (model X.prog X.w) X.A X.env X.xe) (hc : X.calm = true)
    (h : WI X tg iter env C fun xs Pc C1 => ∃ Iv : Nat → DEnv → CS → Prop, Iv 0 env C1 ∧ (∀ i env C, Iv i env C → Pc C) ∧
      (∀ i d env C, xs[i]? = some d → Iv i env C → WG X tg d env C fun env' C' => WSs X body env' C' { nx := Iv (i + 1), rt := E.rt, bk := E.nx, ct := Iv (i + 1) }) ∧ (∀ env C, Iv xs.length env C → E.nx env C))
    (hs : ∀ x, foldedSetIterable iter X.env x = pure x := by intro _; rfl) : WS X (.For tg iter body [] pos) env C E := by
  obtain ⟨wi, hi, h⟩ := h
  refine .of (ps_for hp hc hi pg_tGt pss_tXs hs) fun G σ H D w er q => h G σ H _ w er fun J G1 C1 H1 xs Pc f1 w1 it z => ?_
  obtain ⟨Iv, i0, hP, turn, done⟩ := z
  let Wn : Nat → L2.St → Hp → Prop := fun i σ2 H2 => i ≤ xs.length ∧ ∃ G2 C2 env2, Fr G C H G2 C2 H2 ∧ Same G1 G2 ∧ Wld X.K G2 C2 H2 ∧ EnvR X.K G2 env2 σ2 ∧ Iv i env2 C2
  refine ⟨fun i m σ2 H2 => m = xs.length - i ∧ Wn i σ2 H2, ⟨xs.length, rfl, Nat.zero_le _, G1, C1, env, f1, fun _ _ h => h, w1, er.mono f1.exG, i0⟩, ?_⟩
  rintro i m σ2 H2 ⟨rfl, hi2, G2, C2, env2, f2, s2, w2, er2, i2⟩
  obtain ⟨go, stop⟩ := it G2 C2 H2 s2 w2 (hP _ _ _ i2)
  by_cases hlt : i < xs.length
  · obtain ⟨hgo, hy⟩ := go i xs[i] (by simp [hlt])
    refine .inr ⟨hgo, Wn (i + 1), fun σ' H' h' => ⟨xs.length - (i + 1), by omega, rfl, h'⟩, fun x H3 hx => ?_⟩
    obtain ⟨G3, f3, w3, r3⟩ := hy x H3 hx
    refine turn i xs[i] env2 C2 (by simp [hlt]) i2 G3 σ2 H3 x _ w3 (er2.mono f3.exG) r3 fun G4 C4 H4 σ4 env4 f4 w4 er4 h4 => ?_
    have nx : KontE X.K G4 C4 H4 (Iv (i + 1)) (Wn (i + 1)) := fun G5 C5 H5 σ5 env5 f5 w5 er5 h5 => ⟨hlt, G5, C5, env5, ((f2.trans f3).trans f4).trans f5, ((s2.trans f3.exG).trans f4.exG).trans f5.exG, w5, er5, h5⟩
    exact h4 G4 σ4 H4 _ w4 er4 ⟨nx, q.rt.after ((f2.trans f3).trans f4), q.nx.after ((f2.trans f3).trans f4), nx⟩
  · have e : i = xs.length := by omega
    subst e
    exact .inl ⟨stop _ (Nat.le_refl _), q.nx G2 C2 H2 σ2 env2 f2 w2 er2 (done _ _ i2)⟩
end
end DL
/-! DLf: comprehensions, defs and their calls, built-in calls and methods. -/
namespace DL
open PySem PySem.Spec PyProof.Rows L2

/-! ### comprehensions -/
theorem wipe_get (σ : L2.St) (j : Nat) : ∀ vs : List Nat, (wipe σ vs)[j]? = if j ∈ vs then (if j < σ.length then some none else none) else σ[j]?
  | [] => by simp [wipe]
  | v :: vs => by
    unfold wipe
    by_cases e : v = j
    · subst e
      simp only [List.mem_cons, true_or, if_true]
      by_cases l : v < σ.length
      · rw [List.getElem?_set_self (by rw [wipe_length]; exact l), if_pos l]
      · rw [List.getElem?_eq_none (by rw [List.length_set, wipe_length]; omega), if_neg l]
    · rw [List.getElem?_set_ne e, wipe_get σ j vs]
      have : (j ∈ v :: vs) = (j ∈ vs) := by simp [List.mem_cons, Ne.symm e]
      simp only [this]
theorem wipe_ext {σ σ' : L2.St} {vs : List Nat} (hl : σ'.length = σ.length) (h : ∀ j, j ∉ vs → σ'[j]? = σ[j]?) : wipe σ' vs = wipe σ vs := by
  apply List.ext_getElem?
  intro j
  rw [wipe_get, wipe_get, hl]
  by_cases e : j ∈ vs
  · rw [if_pos e, if_pos e]
  · rw [if_neg e, if_neg e, h j e]
theorem wipe_wipe_set {σ : L2.St} {vs : List Nat} {i : Nat} {x : Option V} (hi : i ∈ vs) : wipe ((wipe σ vs).set i x) vs = wipe σ vs := by
  apply wipe_ext
  · rw [List.length_set, wipe_length]
  · intro j hj
    have : i ≠ j := fun e => hj (e ▸ hi)
    rw [List.getElem?_set_ne this, wipe_get, if_neg hj]
def wipeD (env : DEnv) : List Nat → DEnv
  | [] => env
  | v :: vs => (wipeD env vs).set v none
theorem EnvR.wipe {K : PySem.W.Frag} {G : Hp} {env : DEnv} {σ : L2.St} (h : EnvR K G env σ) : ∀ vs : List Nat, EnvR K G (wipeD env vs) (L2.wipe σ vs)
  | [] => h
  | v :: vs => by
    have ih := EnvR.wipe h vs
    refine ⟨by simp [wipeD, L2.wipe, ih.1], fun i d q => ?_⟩
    unfold wipeD at q
    unfold L2.wipe
    by_cases e : v = i
    · subst e
      by_cases l : v < (wipeD env vs).length
      · rw [List.getElem?_set_self l] at q; cases q
      · rw [List.getElem?_eq_none (by simpa using l)] at q; cases q
    · rw [List.getElem?_set_ne e] at q ⊢
      exact ih.2 i d q

/-- the contexts of a comprehension's block -/
def Blk (X : Cx) (scope : Scope) (X' : Cx) : Prop := ∃ (s : Shared) (H : Hp) (C : Addr) (cl : List (Str × Addr)) (fp : List Addr), X' = X.blk s H scope (compEnvC scope cl C X.env) fp
/-- a target of a comprehension -/
def EvGW (K : PySem.W.Frag) (g : TG) (vs : List Nat) (d : D) (env : DEnv) (C : CS) (kE : DEnv → CS → Prop) : Prop :=
  ∀ G σ H v Q, Wld K G C H → EnvR K G env σ → Dat K G v d → KontE K G C H kE Q → g v (wipe σ vs) H fun σ2 H2 => wipe σ2 vs = wipe σ vs ∧ Q σ2 H2
theorem gw_name {K : PySem.W.Frag} {i : Nat} {vs : List Nat} {d : D} {env : DEnv} {C : CS} {kE : DEnv → CS → Prop} (hi : i ∈ vs) (h : kE ((wipeD env vs).set i (some d)) C) : EvGW K (gName i) vs d env C kE := fun G σ H v Q w er r q =>
  ⟨wipe_wipe_set hi, q G C H _ _ (Fr.refl ..) w ((er.wipe vs).set i r) h⟩
theorem gw_tup2 {K : PySem.W.Frag} {i j : Nat} {vs : List Nat} {d1 d2 : D} {env : DEnv} {C : CS} {kE : DEnv → CS → Prop} (hi : i ∈ vs) (hj : j ∈ vs) (h : kE (((wipeD env vs).set i (some d1)).set j (some d2)) C) : EvGW K (gTup K 2 (gCons (gName i) (gCons (gName j) gNil))) vs (.tup [d1, d2]) env C kE := fun G σ H v Q w er r q => by
  cases r with
  | tup h1 h2 =>
    cases h2 with
    | @cons v1 _ _ _ r1 h2 =>
      cases h2 with
      | @cons v2 _ _ _ r2 h2 =>
        cases h2
        refine ⟨_, _, rfl, Same.sqT w.ex h1, rfl, v1, [v2], rfl, v2, [], rfl, rfl, ?_, q G C H _ _ (Fr.refl ..) w (((er.wipe vs).set i r1).set j r2) h⟩
        apply wipe_ext
        · rw [List.length_set, List.length_set, wipe_length]
        · intro n hn
          have n1 : j ≠ n := fun e => hn (e ▸ hj)
          have n2 : i ≠ n := fun e => hn (e ▸ hi)
          rw [List.getElem?_set_ne n1, List.getElem?_set_ne n2, wipe_get, if_neg hn]
def tPIf (X : Cx) (ifs : List Expr) : TT := fun σ H Q => ∀ pins s, Inv X pins σ H s → wpAny (model X.prog X.w) X.A (forIn ifs true fun c r => if r = true then do let ok ← isTrue c X.env (eval c X.env); pure (ForInStep.yield ok) else pure (ForInStep.yield r)) (TP X pins σ Q) X.xe s
def WIf (X : Cx) (ifs : List Expr) (env : DEnv) (C : CS) (k : Bool → CS → Prop) : Prop := EvB X.K (tPIf X ifs) env C k
theorem wif_nil {X : Cx} {env : DEnv} {C : CS} {k : Bool → CS → Prop} (h : k true C) : WIf X [] env C k := fun G σ H Q w er q pins s I => pts_nil.run pins s σ H Q I (q true G C H (Fr.refl ..) w h)
theorem WIf.imp {X : Cx} {ifs : List Expr} {env : DEnv} {C : CS} {k k' : Bool → CS → Prop} (h : WIf X ifs env C k) (hk : ∀ t C', k t C' → k' t C') : WIf X ifs env C k' := fun G σ H Q w er q => h G σ H Q w er fun b G' C' H' f w z => q b G' C' H' f w (hk b C' z)
theorem wif_one {X : Cx} {c : Expr} {env : DEnv} {C : CS} {k : Bool → CS → Prop} (h : WT X c env C k) : WIf X [c] env C k := fun G σ H Q w er q pins s I => (pts_one pt_tT).run pins s σ H Q I (h G σ H Q w er q)
section
variable {X : Cx} {elt tg iter : Expr} {ifs : List Expr} {scope : Scope} {own : List (Str × Nat)} {env : DEnv} {C : CS} {k : KD} {pos : Pos} {g : TG}
/-- an invariant over the turn and what is made so far -/
def LcI (X : Cx) (elt : Expr) (ifs : List Expr) (scope : Scope) (vs : List Nat) (g : TG) (env : DEnv) (xs : List D) (Pc : CS → Prop) (C1 : CS) (k : KD) : Prop := ∃ Iv : Nat → List D → CS → Prop, Iv 0 [] C1 ∧ (∀ j acc C, Iv j acc C → Pc C) ∧
  (∀ j d acc C, xs[j]? = some d → Iv j acc C → EvGW X.K g vs d env C fun env2 C2 => ∀ X', Blk X scope X' → WIf X' ifs env2 C2 fun t C3 => (t = true → ∀ X', Blk X scope X' → WE X' elt env2 C3 fun y C4 => acc.length < sizeLine ∧ Iv (j + 1) (acc ++ [y]) C4) ∧ (t = false → Iv (j + 1) acc C3)) ∧
  (∀ acc C, Iv xs.length acc C → ∀ p, C p = none → k (.own p) (put C p (.lst acc)))
theorem Fr.fresh {G H : Hp} {C : CS} {p : Addr} {o : HO} (h : H p = none) : Fr G C H G C (upd H p o) :=
  ⟨fun _ _ h => h, fun b u e _ => by rw [upd_ne (ne_of_none e h)]; exact e, fun b e => by
    by_cases q : b = p
    · subst q; exact absurd h e
    · rw [upd_ne q]; exact e, fun _ _ k => k, fun _ _ k => .inl k⟩
/-- a fresh list becomes a cell -/
theorem Wld.claim {K : PySem.W.Frag} {G G1 H H1 : Hp} {C C1 : CS} {p : Addr} {vs : List V} {ds : List D} (f : Fr G C H G1 C1 H1) (w : Wld K G1 C1 H1) (h0 : H p = none) (h1 : H1 p = some (.lst vs)) (r : DatAll K G1 vs ds) (c : C1 p = none) (g : G1 p = none) :
    Fr G C H G1 (put C1 p (.lst ds)) H1 ∧ Wld K G1 (put C1 p (.lst ds)) H1 := by
  refine ⟨⟨f.exG, f.keep, f.dom, fun a ha k => ?_, f.newG⟩, ⟨w.ex, fun a c' e => ?_⟩⟩
  · by_cases q : a = p
    · subst q; exact absurd h0 ha
    · rw [put_ne q] at k; exact f.newC a ha k
  · by_cases q : a = p
    · subst q; rw [put_same] at e; cases e; exact ⟨g, vs, h1, r⟩
    · rw [put_ne q] at e; exact w.cell a c' e
theorem ev_lc {wi : TI} (hwi : EvI X.K wi env C fun xs Pc C1 => LcI X elt ifs scope (own.map (·.2)) g env xs Pc C1 k) :
    Ev X.K (tLc wi g (fun σ H Q => ∀ X', Blk X scope X' → tPIf X' ifs σ H Q) (fun σ H Q => ∀ X', Blk X scope X' → tS X' elt σ H Q) (own.map (·.2))) env C k := fun G σ H Q w er q => by
  refine hwi G σ H _ w er fun J G1 C1 H1 xs Pc f1 w1 it z Da hD => ?_
  obtain ⟨Iv, i0, hP, turn, done⟩ := z
  have hn := w1.ne hD
  let Wn : Nat → Hp → Prop := fun i H2 => i ≤ xs.length ∧ ∃ G2 C2 acc vs, Fr G1 C1 H1 G2 C2 H2 ∧ Wld X.K G2 C2 H2 ∧ H2 Da = some (.lst vs) ∧ DatAll X.K G2 vs acc ∧ Iv i acc C2 ∧ C2 Da = none ∧ G2 Da = none
  have wD : Wld X.K G1 C1 (upd H1 Da (.lst [])) := ⟨fun a o e => by rw [upd_ne (ne_of_none e hn.1)]; exact w1.ex a o e, fun a c e => by
    obtain ⟨h1, h2⟩ := w1.cell a c e
    exact ⟨h1, h2.mono (fun _ _ h => h) (upd_ne (cell_ne e hn.2))⟩⟩
  refine ⟨fun i m H2 => m = xs.length - i ∧ Wn i H2, ⟨xs.length, rfl, Nat.zero_le _, G1, C1, [], [], Fr.fresh hD, wD, upd_same, .nil, i0, hn.2, hn.1⟩, ?_⟩
  rintro i m H2 ⟨rfl, hi2, G2, C2, acc, vs, f2, w2, hd2, r2, i2, c2, g2⟩
  obtain ⟨go, stop⟩ := it G2 C2 H2 f2.exG w2 (hP _ _ _ i2)
  have keepD : ∀ {G3 C3 H3}, Fr G2 C2 H2 G3 C3 H3 → H3 Da = some (.lst vs) ∧ C3 Da = none ∧ G3 Da = none := fun {G3 C3 H3} f => by
    refine ⟨f.keep _ _ hd2 c2, ?_, ?_⟩
    · cases e : C3 Da with
      | none => rfl
      | some c => exact absurd c2 (f.newC Da (by rw [hd2]; simp) (by rw [e]; simp))
    · cases e : G3 Da with
      | none => rfl
      | some c => exact ((f.newG Da (by rw [hd2]; simp) (by rw [e]; simp)).elim (fun z => z g2) fun z => z c2).elim
  by_cases hlt : i < xs.length
  · obtain ⟨hgo, hy⟩ := go i xs[i] (by simp [hlt])
    refine .inr ⟨hgo, Wn (i + 1), fun H' h' => ⟨xs.length - (i + 1), by omega, rfl, h'⟩, fun x H3 hx => ?_⟩
    obtain ⟨G3, f3, w3, r3⟩ := hy x H3 hx
    refine turn i xs[i] acc C2 (by simp [hlt]) i2 G3 σ H3 x _ w3 (er.mono (f1.exG.trans (f2.exG.trans f3.exG))) r3 fun G4 C4 H4 σ4 env4 f4 w4 er4 h4 X' hX => ?_
    have h5 := h4 X' hX
    obtain ⟨s0, H0, Ca, cl, fp, rfl⟩ := hX
    refine h5 G4 σ4 H4 _ w4 er4 fun t G5 C5 H5 f5 w5 ht => ?_
    have f35 := (f3.trans f4).trans f5
    cases t with
    | true =>
      refine iteT fun X' hX => ?_
      have h6 := ht.1 rfl X' hX
      obtain ⟨s1, H01, Ca1, cl1, fp1, rfl⟩ := hX
      refine h6 G5 σ4 H5 _ w5 (er4.mono f5.exG) fun y G6 C6 H6 d6 f6 w6 r6 h7 => ?_
      obtain ⟨hd6, c6, g6⟩ := keepD (f35.trans f6)
      have rr := r2.mono (f35.trans f6).exG
      refine ⟨vs, hd6, by rw [rr.length]; exact h7.1, hlt, G6, C6, acc ++ [d6], vs ++ [y], ?_, ?_, upd_same, rr.append (.cons r6 .nil), h7.2, c6, g6⟩
      · have F := f2.trans (f35.trans f6)
        refine ⟨F.exG, fun a o e c => ?_, fun a e => ?_, F.newC, F.newG⟩
        · by_cases q : a = Da
          · subst q; rw [hD] at e; cases e
          · rw [upd_ne q]; exact F.keep a o e c
        · by_cases q : a = Da
          · subst q; rw [upd_same]; simp
          · rw [upd_ne q]; exact F.dom a e
      · exact ⟨fun a o e => by rw [upd_ne (ne_of_none e g6)]; exact w6.ex a o e, fun a c e => by
          obtain ⟨h1, h2⟩ := w6.cell a c e
          exact ⟨h1, h2.mono (fun _ _ h => h) (upd_ne (cell_ne e c6))⟩⟩
    | false =>
      obtain ⟨hd5, c5, g5⟩ := keepD f35
      exact iteF ⟨hlt, G5, C5, acc, vs, f2.trans f35, w5, hd5, r2.mono f35.exG, ht.2 rfl, c5, g5⟩
  · have e : i = xs.length := by omega
    subst e
    have h0 : H Da = none := by
      cases e : H Da with
      | none => rfl
      | some o => exact absurd hD (f1.dom Da (by rw [e]; simp))
    obtain ⟨F, w3⟩ := w2.claim (f1.trans f2) h0 hd2 r2 c2 g2
    exact .inl ⟨stop _ (Nat.le_refl _), q _ _ _ _ _ F w3 (.own Da) (done acc C2 i2 Da c2)⟩
end
end DL
/-! DLg: comprehensions as expressions, defs and their calls, built-in calls and methods. -/
namespace DL
open PySem PySem.Spec PyProof.Rows L2

section
variable {X : Cx} {elt tg iter : Expr} {ifs : List Expr} {scope : Scope} {own : List (Str × Nat)} {env : DEnv} {C : CS} {k : KD} {pos : Pos} {g : TG} {E : DEnds}
theorem we_lc (own : List (Str × Nat)) (hc : X.calm = true) (hN : X.N.Nodup) (ok : BlkOk X.N X.env.scope scope own) (hg : ∀ (s : Shared) (H : Hp) (C : Addr) (cl : List (Str × Addr)) (fp : List Addr), PG (X.blk s H scope (compEnvC scope cl C X.env) fp) tg g)
    (h : WI X tg iter env C fun xs Pc C1 => LcI X elt ifs scope (own.map (·.2)) g env xs Pc C1 k) (hs : ∀ x, foldedSetIterable iter X.env x = pure x := by intro _; rfl) : WE X (.ListComp elt [⟨tg, iter, ifs, 0⟩] scope pos) env C k := by
  obtain ⟨wi, hi, hw⟩ := h
  refine .of (pe_lc (own := own) (g := g) (tt := fun σ H Q => ∀ X', Blk X scope X' → tPIf X' ifs σ H Q) (te := fun σ H Q => ∀ X', Blk X scope X' → tS X' elt σ H Q) hc hN hi ok hg ?_ ?_ hs) (ev_lc hw)
  · exact fun s H C cl fp => ⟨fun pins s' σ H Q I h => h _ ⟨_, _, _, _, _, rfl⟩ pins s' I⟩
  · exact fun s H C cl fp => ⟨fun pins s' σ H Q I h => h _ ⟨_, _, _, _, _, rfl⟩ pins s' I⟩
theorem ws_setLc (own : List (Str × Nat)) {i : Nat} {y : Str} {py spos : Pos} (hc : X.calm = true) (hN : X.N.Nodup) (hy : X.N[i]? = some y) (hyl : X.env.scope.names.lookup y = some .local)
    (hsw : swapsWith (.ListComp elt [⟨tg, iter, ifs, 0⟩] scope pos) (some (.Name y py)) spos.line X.env = pure true) (ok : BlkOk X.N X.env.scope scope own) (hg : ∀ (s : Shared) (H : Hp) (C : Addr) (cl : List (Str × Addr)) (fp : List Addr), PG (X.blk s H scope (compEnvC scope cl C X.env) fp) tg g)
    (h : WI X tg iter env C fun xs Pc C1 => LcI X elt ifs scope (own.map (·.2)) g env xs Pc C1 fun d C2 => E.nx (env.set i (some d)) C2) (hs : ∀ x, foldedSetIterable iter X.env x = pure x := by intro _; rfl) :
    WS X (.Assign [.Name y py] (.ListComp elt [⟨tg, iter, ifs, 0⟩] scope pos) spos) env C E := by
  obtain ⟨wi, hi, hw⟩ := h
  refine .of (ps_setLc (i := i) (own := own) (g := g) (tt := fun σ H Q => ∀ X', Blk X scope X' → tPIf X' ifs σ H Q) (te := fun σ H Q => ∀ X', Blk X scope X' → tS X' elt σ H Q) hc hN hy hyl hsw hi ok hg ?_ ?_ hs) ?_
  · exact fun s H C cl fp => ⟨fun pins s' σ H Q I h => h _ ⟨_, _, _, _, _, rfl⟩ pins s' I⟩
  · exact fun s H C cl fp => ⟨fun pins s' σ H Q I h => h _ ⟨_, _, _, _, _, rfl⟩ pins s' I⟩
  · exact fun G σ H D w er q => ev_lc hw G σ H _ w er fun v G1 C1 H1 d f1 w1 r1 z => q.nx G1 C1 H1 _ _ f1 w1 ((er.mono f1.exG).set i r1) z
end

/-! ### defs -/
abbrev DSp := List D → CS → KD → Prop
def toSp (K : PySem.W.Frag) (S : DSp) : Sp := fun vs H Q _ => ∃ G C ds k, Wld K G C H ∧ DatAll K G vs ds ∧ S ds C k ∧ Kont K G C H k Q
def startD (N : List Str) (ds : List D) : DEnv := ds.map some ++ List.replicate (N.length - ds.length) none
theorem envR_start {K : PySem.W.Frag} {G : Hp} {N : List Str} {vs : List V} {ds : List D} (r : DatAll K G vs ds) : EnvR K G (startD N ds) (L2.start N vs) := by
  refine ⟨by unfold startD L2.start; simp [r.length], fun i d h => ?_⟩
  unfold startD at h
  unfold L2.start
  have hl := r.length
  by_cases hi : i < ds.length
  · rw [List.getElem?_append_left (by simpa using hi), List.getElem?_map] at h
    rw [List.getElem?_append_left (by simpa [hl] using hi), List.getElem?_map]
    cases q : ds[i]? with
    | none => rw [q] at h; cases h
    | some d' =>
      rw [q] at h
      obtain rfl := Option.some.inj (Option.some.inj h)
      obtain ⟨v, h1, h2⟩ := r.get q
      exact ⟨v, by rw [h1]; rfl, h2⟩
  · rw [List.getElem?_append_right (by simpa using hi)] at h
    rw [List.getElem?_replicate] at h
    split at h <;> cases h
section
variable {P : Program} {w : World} {K : PySem.W.Frag} {mg : Str → Option Value} {base : Heap}
theorem fnD {x qual : Str} {st : Stmt} {f : Addr} {fd : FuncData} {N ps : List Str} {n : Nat} {S : DSp} (F : Fun K x qual st f fd) (sc : FnScope N ps (defScope st)) (hl : ∀ ds C k, S ds C k → ds.length = ps.length)
    (hb : ∀ (cdv : Value) (A : Around) (outer : List Env) (s : Shared) (H : Hp) (E : XK) (ds : List D) (C : CS) (k : KD), A.guards = some [] → Room n (A.deeper (envOfC qual (defScope st) s.heap.objs.size f cdv)) → S ds C k →
      WSs (cxOf CX0 P w K mg base N qual (defScope st) f cdv A outer s H E).nox (defBody st) (startD N ds) C { nx := fun _ C' => k .non C', rt := k }) : FnG P w K mg base CX0 (n + 1) f fd ps (toSp K S) := by
  refine fnG_of F sc (fun vs H Q E h => ?_) (fun cdv A outer s H vs Q E hgd hr h => ?_)
  · obtain ⟨G, C, ds, k, _, r, hS, _⟩ := h
    rw [r.length]
    exact hl _ _ _ hS
  · obtain ⟨G, C, ds, k, wl, r, hS, q⟩ := h
    refine ⟨_, PSs.nox pss_tXs, ?_⟩
    refine hb cdv A outer s H E ds C k hgd hr hS G _ H _ wl (envR_start r) ⟨?_, q, ?_, ?_⟩
    · exact fun G' C' H' σ env f w' er z => q .non G' C' H' .non f w' .non z
    · exact fun G' C' H' σ env f w' er z => z.elim
    · exact fun G' C' H' σ env f w' er z => z.elim
/-- a def that keeps a promise by data -/
def FnC (P : Program) (w : World) (K : PySem.W.Frag) (mg : Str → Option Value) (base : Heap) (x : Str) (n : Nat) (S : DSp) : Prop :=
  ∃ (f : Addr) (fd : FuncData) (ps : List Str), FnG P w K mg base CX0 n f fd ps (toSp K S) ∧ mg x = some (.ref f) ∧ PySem.W.keepIn K (.ref f) = true ∧ Binds K fd ps []
end
section
variable {X : Cx} {e a b o : Expr} {es : List Expr} {env : DEnv} {C : CS} {k : KD} {pos : Pos}
theorem call_ok {n : Nat} {f : Addr} {fd : FuncData} {ps : List Str} {S : DSp} {ta : TA} (h : EvA X.K ta env C fun ds C1 => S ds C1 k) : Ev X.K (tCall (toSp X.K S) [] E0 ta) env C k := fun G σ H Q w er q =>
  h G σ H _ w er fun vs G1 C1 H1 ds f1 w1 r1 z => ⟨G1, C1, ds, k, w1, by rw [List.append_nil]; exact r1, z, q.after f1⟩
theorem we_call {x : Str} {n m : Nat} {S : DSp} {p : Pos} (h : FnC X.prog X.w X.K X.mg X.base x n S) (hgd : X.A.guards = some []) (hr : Room m X.A) (hg : Gl X x) (ha : WA X (e :: es) env C fun ds C1 => S ds C1 k) (hle : n ≤ m := by decide)
    (hdb : (x == ("__debug__" : Str)) = false := by decide) (he : starEach (e :: es) X.env = (false, eval e X.env) :: starEach es X.env := by rfl) (hpl : (backTo pos (starEach es X.env)).any (·.1) = false := by rfl) : WE X (.Call (.Name x p) (e :: es) [] pos) env C k := by
  obtain ⟨f, fd, ps, F, hm, hk, hb⟩ := h
  exact .of (pe_callG F hgd (hr.mono hle) hg hm hk hb pass0 pa_tAr hdb he hpl) (call_ok (n := n) (f := f) (fd := fd) (ps := ps) ha)
theorem we_call0 {x : Str} {n m : Nat} {S : DSp} {p : Pos} (h : FnC X.prog X.w X.K X.mg X.base x n S) (hgd : X.A.guards = some []) (hr : Room m X.A) (hg : Gl X x) (ha : S [] C k) (hle : n ≤ m := by decide)
    (hdb : (x == ("__debug__" : Str)) = false := by decide) : WE X (.Call (.Name x p) [] [] pos) env C k := by
  obtain ⟨f, fd, ps, F, hm, hk, hb⟩ := h
  exact .of (pe_callG0 F hgd (hr.mono hle) hg hm hk hb pass0 hdb) (call_ok (n := n) (f := f) (fd := fd) (ps := ps) (ea_nil ha))

/-! ### methods of built-in types -/
def tyD (T : String) (C : CS) (x : D) : Prop := match x with
  | .str _ => T = "str"
  | .lst _ => T = "list"
  | .own a => (T = "list" ∧ ∃ xs, C a = some (.lst xs)) ∨ (T = "dict" ∧ ∃ kvs, C a = some (.dic kvs))
  | _ => False
theorem tyD_ok {K : PySem.W.Frag} {T : String} {G H : Hp} {x : V} {d : D} (w : Wld K G C H) (r : Dat K G x d) (h : tyD T C d) : tyV K T x H := by
  cases r with
  | str x => exact h
  | lst h1 h2 => exact .inl ⟨h, _, SqL.of (w.ex _ _ h1)⟩
  | own a =>
    rcases h with ⟨h, xs, hx⟩ | ⟨h, kvs, hx⟩
    · obtain ⟨_, vs, h1, _⟩ := w.cell a _ hx
      exact .inl ⟨h, vs, SqL.of h1⟩
    · obtain ⟨_, vs, h1, _⟩ := w.cell a _ hx
      exact .inr (.inr (.inl ⟨h, .inl ⟨vs, h1⟩⟩))
  | _ => exact h.elim
theorem we_bm {T : String} {name : Str} {id : String} {apos cpos : Pos} {r : V → List V → Hp → VK → Prop} {p : D → List D → CS → KD → Prop} (pa : PlainAttrs T) (slot : Slot T name id) (hty : typeOf (.builtin id) = pure (.type "method_descriptor")) (hm : MtR X id r) (hr : RMD X.K r p)
    (h : WE X o env C fun x C1 => tyD T C1 x ∧ WA X (e :: es) env C1 fun ds C2 => p x ds C2 k)
    (hbase : attributeBase o name X.env (eval o X.env) = eval o X.env := by rfl)
    (hfew : ((backTo cpos (starEach (e :: es) X.env)).all (fun x => !x.1) && (backToKw cpos (keywordEach [] X.env)).all (fun x => x.1.isSome)
      && decide ((e :: es).length + ([] : List Keyword).length + (if ([] : List Keyword).isEmpty then 0 else 1) < 30)) = true := by rfl)
    (hline : (apos.endLine == cpos.line) = true := by rfl) (hs : starEach (e :: es) X.env = (false, eval e X.env) :: starEach es X.env := by rfl) (hplain : (backTo cpos (starEach es X.env)).any (·.1) = false := by rfl) :
    WE X (.Call (.Attribute o name apos) (e :: es) [] cpos) env C k :=
  .of (pe_bm pa slot hty hm pe_tS pa_tAr hbase hfew hline hs hplain) fun G σ H Q w er q => h G σ H _ w er fun v G1 C1 H1 d f1 w1 r1 z => ⟨tyD_ok w1 r1 z.1, z.2 G1 σ H1 _ w1 (er.mono f1.exG) fun vs G2 C2 H2 ds f2 w2 r2 hp => hr v d vs ds G2 C2 H2 k Q w2 (r1.mono f2.exG) r2 hp (q.after (f1.trans f2))⟩
theorem we_bm0 {T : String} {name : Str} {id : String} {apos cpos : Pos} {r : V → List V → Hp → VK → Prop} {p : D → List D → CS → KD → Prop} (pa : PlainAttrs T) (slot : Slot T name id) (hty : typeOf (.builtin id) = pure (.type "method_descriptor")) (hm : MtR X id r) (hr : RMD X.K r p)
    (h : WE X o env C fun x C1 => tyD T C1 x ∧ p x [] C1 k) (hbase : attributeBase o name X.env (eval o X.env) = eval o X.env := by rfl) (hline : (apos.endLine == cpos.line) = true := by rfl) : WE X (.Call (.Attribute o name apos) [] [] cpos) env C k :=
  .of (pe_bm0 pa slot hty hm pe_tS hbase hline) fun G σ H Q w er q => h G σ H _ w er fun v G1 C1 H1 d f1 w1 r1 z => ⟨tyD_ok w1 r1 z.1, hr v d [] [] G1 C1 H1 k Q w1 r1 .nil z.2 (q.after f1)⟩
end

/-! ### what built-ins and methods give -/
section
variable {K : PySem.W.Frag}
def dAppend : D → List D → CS → KD → Prop := fun x ds C k => ∃ a xs y, x = .own a ∧ ds = [y] ∧ C a = some (.lst xs) ∧ xs.length < sizeLine ∧ k .non (put C a (.lst (xs ++ [y])))
theorem rm_append : RMD K rAppend dAppend := by
  rintro x a xs ds G C H k Q w r rs ⟨p, ys, y, rfl, rfl, hp, hl, hk⟩ q
  cases r
  cases rs with
  | cons r1 r2 =>
    cases r2
    obtain ⟨_, vs, h1, h2⟩ := w.cell p _ hp
    refine ⟨p, vs, _, rfl, rfl, h1, by rw [h2.length]; exact hl, ?_⟩
    obtain ⟨w2, f2⟩ := w.write hp (o := .lst _) (c' := .lst _) fun H' e => ⟨_, e, h2.append (.cons r1 .nil)⟩
    exact q _ _ _ _ _ f2 w2 .non hk
def dInsert : D → List D → CS → KD → Prop := fun x ds C k => ∃ a xs y i, x = .own a ∧ ds = [.int i, y] ∧ C a = some (.lst xs) ∧ xs.length < sizeLine ∧ 0 ≤ i ∧ i < 2 ^ 63 ∧ k .non (put C a (.lst (xs.take i.toNat ++ [y] ++ xs.drop i.toNat)))
theorem rm_insert : RMD K (fun x vs H Q => ∃ (l : Addr) (xs : List V) (i : Int) (y : V), x = .ref l ∧ vs = [.int i, y] ∧ H l = some (.lst xs) ∧ xs.length < sizeLine ∧ 0 ≤ i ∧ i < 2 ^ 63 ∧ Q .non (upd H l (.lst (xs.take i.toNat ++ [y] ++ xs.drop i.toNat)))) dInsert := by
  rintro x a xs ds G C H k Q w r rs ⟨p, ys, y, i, rfl, rfl, hp, hl, h0, h63, hk⟩ q
  cases r
  cases rs with
  | cons r1 r2 =>
    cases r2 with
    | cons r2 r3 =>
      cases r3; cases r1
      obtain ⟨_, vs, h1, h2⟩ := w.cell p _ hp
      refine ⟨p, vs, i, _, rfl, rfl, h1, by rw [h2.length]; exact hl, h0, h63, ?_⟩
      obtain ⟨w2, f2⟩ := w.write hp (o := .lst _) (c' := .lst _) fun H' e => ⟨_, e, ((h2.take i.toNat).append (.cons r2 .nil)).append (h2.drop i.toNat)⟩
      exact q _ _ _ _ _ f2 w2 .non hk
def dPopAt : D → List D → CS → KD → Prop := fun x ds C k => ∃ a xs i j y, x = .own a ∧ ds = [.int i] ∧ C a = some (.lst xs) ∧ -(2 ^ 63) ≤ i ∧ i < 2 ^ 63 ∧ seqIndex? i xs.length = some j ∧ xs[j]? = some y ∧ k y (put C a (.lst (xs.eraseIdx j)))
theorem datAll_erase {G : Hp} : ∀ {vs : List V} {ds : List D} (i : Nat), DatAll K G vs ds → DatAll K G (vs.eraseIdx i) (ds.eraseIdx i)
  | _, [], i, h => by cases h; simp; exact .nil
  | _, d :: ds, 0, h => by
    cases h with
    | cons a b => exact b
  | _, d :: ds, i + 1, h => by
    cases h with
    | cons a b => exact .cons a (datAll_erase i b)
theorem rm_popAt : RMD K rPopAt dPopAt := by
  rintro x a xs ds G C H k Q w r rs ⟨p, ys, i, j, y, rfl, rfl, hp, h0, h63, hj, hy, hk⟩ q
  cases r
  cases rs with
  | cons r1 r2 =>
    cases r2; cases r1
    obtain ⟨_, vs, h1, h2⟩ := w.cell p _ hp
    obtain ⟨v, g1, g2⟩ := h2.get hy
    refine ⟨p, vs, i, j, v, rfl, rfl, h1, h0, h63, by rw [h2.length]; exact hj, g1, ?_⟩
    obtain ⟨w2, f2⟩ := w.write hp (o := .lst _) (c' := .lst _) fun H' e => ⟨_, e, datAll_erase j h2⟩
    exact q _ _ _ _ _ f2 w2 g2 hk
theorem datAll_strs {G : Hp} : ∀ {vs : List V} {ys : List Str}, DatAll K G vs (ys.map D.str) → vs = ys.map V.str
  | _, [], h => by cases h; rfl
  | _, y :: ys, h => by
    cases h with
    | cons a b => cases a; rw [datAll_strs b]; rfl
theorem datAll_ints {G : Hp} : ∀ {vs : List V} {ys : List Int}, DatAll K G vs (ys.map D.int) → vs = ys.map V.int
  | _, [], h => by cases h; rfl
  | _, y :: ys, h => by
    cases h with
    | cons a b => cases a; rw [datAll_ints b]; rfl
theorem datAll_bls {G : Hp} : ∀ {vs : List V} {ys : List Bool}, DatAll K G vs (ys.map D.bl) → vs = ys.map V.bl
  | _, [], h => by cases h; rfl
  | _, y :: ys, h => by
    cases h with
    | cons a b => cases a; rw [datAll_bls b]; rfl
def dJoin : D → List D → CS → KD → Prop := fun x ds C k => ∃ a y, ∃ ys : List Str, x = .str a ∧ ds = [y] ∧ seqR C y = some (ys.map D.str) ∧ (ys.map (·.length)).sum + ys.length * a.length ≤ 16777216 ∧ k (.str (Txt.join a ys)) C
theorem rm_join : RMD K (fun x xs H Q => ∃ a p, ∃ ys : List Str, x = .str a ∧ xs = [.ref p] ∧ (SqL K H p (ys.map V.str) ∨ SqT K H p (ys.map V.str)) ∧ (ys.map (·.length)).sum + ys.length * a.length ≤ 16777216 ∧ Q (.str (Txt.join a ys)) H) dJoin := by
  rintro x a xs ds G C H k Q w r rs ⟨b, y, ys, rfl, rfl, hs, hl, hk⟩ q
  cases r
  cases rs with
  | cons r1 r2 =>
    cases r2
    obtain ⟨p, vs, rfl, h1, h2⟩ := w.seq r1 hs
    have := datAll_strs h2
    subst this
    exact ⟨b, p, ys, rfl, rfl, .inl h1, hl, q _ _ _ _ _ (Fr.refl ..) w (.str _) hk⟩
def dSIndex : D → List D → CS → KD → Prop := fun x ds C k => ∃ a b i rest, x = .str a ∧ ds = [.str b] ∧ Builtin.Str.occurrences a b 0 a.length 1 = i :: rest ∧ k (.int (i : Nat)) C
theorem rm_sindex : RMD K (fun x xs H Q => ∃ a b i rest, x = .str a ∧ xs = [.str b] ∧ Builtin.Str.occurrences a b 0 a.length 1 = i :: rest ∧ Q (.int (i : Nat)) H) dSIndex := by
  rintro x a xs ds G C H k Q w r rs ⟨b, c, i, rest, rfl, rfl, ho, hk⟩ q
  cases r
  cases rs with
  | cons r1 r2 => cases r2; cases r1; exact ⟨b, c, i, rest, rfl, rfl, ho, q _ _ _ _ _ (Fr.refl ..) w (.int _) hk⟩

def lenD (C : CS) (x : D) (n : Nat) : Prop := match x with
  | .str y => y.length ≤ sizeLine ∧ n = y.length
  | .tup xs => n = xs.length
  | x => ∃ xs, seqR C x = some xs ∧ n = xs.length
def dLen : List D → CS → KD → Prop := fun ds C k => ∃ x n, ds = [x] ∧ lenD C x n ∧ k (.int (n : Nat)) C
theorem rl_len : RLD K (fun xs H Q => ∃ x n, xs = [x] ∧ LenV K x H n ∧ Q (.int n) H) dLen := by
  rintro xs ds G C H k Q w rs ⟨x, n, rfl, hl, hk⟩ q
  cases rs with
  | @cons v _ _ _ r1 r2 =>
    cases r2
    refine ⟨v, n, rfl, ?_, q _ _ _ _ _ (Fr.refl ..) w (.int _) hk⟩
    unfold lenD at hl
    split at hl
    · cases r1; exact hl
    · obtain ⟨a, vs, rfl, h1, h2⟩ := w.tup r1
      exact .inr ⟨vs, h1, by rw [h2.length]; exact hl⟩
    · obtain ⟨ys, h0, h3⟩ := hl
      obtain ⟨a, vs, rfl, h1, h2⟩ := w.seq r1 h0
      exact .inl ⟨vs, h1, by rw [h2.length]; exact h3⟩
theorem len_lst {C : CS} {x : D} {xs : List D} (h : seqR C x = some xs) : lenD C x xs.length := by
  unfold lenD
  split
  · simp [seqR] at h
  · simp [seqR] at h
  · exact ⟨xs, h, rfl⟩
def dInt1 (f : Int → Int) : List D → CS → KD → Prop := fun ds C k => ∃ i, ds = [.int i] ∧ k (.int (f i)) C
theorem rl_int1 {f : Int → Int} : RLD K (fun xs H Q => ∃ i, xs = [.int i] ∧ Q (.int (f i)) H) (dInt1 f) := by
  rintro xs ds G C H k Q w rs ⟨i, rfl, hk⟩ q
  cases rs with
  | cons r1 r2 => cases r2; cases r1; exact ⟨i, rfl, q _ _ _ _ _ (Fr.refl ..) w (.int _) hk⟩
def dInt2 (f : Int → Int → Int) : List D → CS → KD → Prop := fun ds C k => ∃ i j, ds = [.int i, .int j] ∧ k (.int (f i j)) C
theorem rl_int2 {f : Int → Int → Int} : RLD K (fun xs H Q => ∃ i j, xs = [.int i, .int j] ∧ Q (.int (f i j)) H) (dInt2 f) := by
  rintro xs ds G C H k Q w rs ⟨i, j, rfl, hk⟩ q
  cases rs with
  | cons r1 r2 =>
    cases r2 with
    | cons r2 r3 => cases r3; cases r1; cases r2; exact ⟨i, j, rfl, q _ _ _ _ _ (Fr.refl ..) w (.int _) hk⟩
/-- int(n), int(flag) -/
def dInt : List D → CS → KD → Prop := fun ds C k => (∃ i, ds = [.int i] ∧ k (.int i) C) ∨ ∃ b : Bool, ds = [.bl b] ∧ k (.int (if b then 1 else 0)) C
theorem rl_int : RLD K (fun xs H Q => (∃ i, xs = [.int i] ∧ Q (.int i) H) ∨ ∃ k, xs = [.bl k] ∧ Q (.int (if k then 1 else 0)) H) dInt := by
  rintro xs ds G C H k Q w rs (⟨i, rfl, hk⟩ | ⟨i, rfl, hk⟩) q
  · cases rs with
    | cons r1 r2 => cases r2; cases r1; exact .inl ⟨i, rfl, q _ _ _ _ _ (Fr.refl ..) w (.int _) hk⟩
  · cases rs with
    | cons r1 r2 => cases r2; cases r1; exact .inr ⟨i, rfl, q _ _ _ _ _ (Fr.refl ..) w (.int _) hk⟩
def dStrInt : List D → CS → KD → Prop := fun ds C k => ∃ i : Int, ds = [.int i] ∧ i.natAbs.log2 < 1920 ∧ k (.str (toString i)) C
theorem rl_str : RLD K (fun xs H Q => ∃ i : Int, xs = [.int i] ∧ i.natAbs.log2 < 1920 ∧ Q (.str (toString i)) H) dStrInt := by
  rintro xs ds G C H k Q w rs ⟨i, rfl, h, hk⟩ q
  cases rs with
  | cons r1 r2 => cases r2; cases r1; exact ⟨i, rfl, h, q _ _ _ _ _ (Fr.refl ..) w (.str _) hk⟩
/-- tuple(xs) -/
def dTuple : List D → CS → KD → Prop := fun ds C k => ∃ x, ds = [x] ∧ match x with
  | .tup xs => k (.tup xs) C
  | x => ∃ xs, seqR C x = some xs ∧ k (.tup xs) C
theorem rl_tuple : RLD K (fun xs H Q => ∃ p ys, xs = [.ref p] ∧ ((SqL K H p ys ∧ ∀ l, H l = none → Q (.ref l) (upd H l (.tup ys))) ∨ (SqT K H p ys ∧ Q (.ref p) H))) dTuple := by
  rintro xs ds G C H k Q w rs ⟨x, rfl, hk⟩ q
  cases rs with
  | cons r1 r2 =>
    cases r2
    split at hk
    · obtain ⟨a, vs, rfl, h1, h2⟩ := w.tup r1
      exact ⟨a, vs, rfl, .inr ⟨h1, q _ _ _ _ _ (Fr.refl ..) w r1 hk⟩⟩
    · obtain ⟨ys, h0, hk⟩ := hk
      obtain ⟨a, vs, rfl, h1, h2⟩ := w.seq r1 h0
      refine ⟨a, vs, rfl, .inl ⟨h1, fun p hp => ?_⟩⟩
      obtain ⟨w2, f2, s2⟩ := w.newG hp (.tup vs)
      exact q _ _ _ _ _ f2 w2 (.tup (SqT.of upd_same) (h2.mono s2)) hk
/-- list(xs) -/
def seqA (C : CS) : D → Option (List D)
  | .tup xs => some xs
  | d => seqR C d
theorem Wld.seqA {G H : Hp} {C : CS} {v : V} {d : D} {ds : List D} (w : Wld K G C H) (r : Dat K G v d) (e : seqA C d = some ds) : ∃ a xs, v = .ref a ∧ (SqL K H a xs ∨ SqT K H a xs) ∧ DatAll K G xs ds := by
  unfold DL.seqA at e
  split at e
  · cases e
    obtain ⟨a, vs, rfl, h1, h2⟩ := w.tup r
    exact ⟨a, vs, rfl, .inr h1, h2⟩
  · obtain ⟨a, vs, rfl, h1, h2⟩ := w.seq r e
    exact ⟨a, vs, rfl, .inl h1, h2⟩
def dList : List D → CS → KD → Prop := fun ds C k => ∃ x xs, ds = [x] ∧ seqA C x = some xs ∧ ∀ p, C p = none → k (.own p) (put C p (.lst xs))
theorem rl_list : RLD K (fun xs H Q => ∃ p ys, xs = [.ref p] ∧ (SqL K H p ys ∨ SqT K H p ys) ∧ ∀ l, H l = none → Q (.ref l) (upd H l (.lst ys))) dList := by
  rintro xs ds G C H k Q w rs ⟨x, ys, rfl, hs, hk⟩ q
  cases rs with
  | cons r1 r2 =>
    cases r2
    obtain ⟨a, vs, rfl, h1, h2⟩ := w.seqA r1 hs
    refine ⟨a, vs, rfl, h1, fun p hp => ?_⟩
    obtain ⟨w2, f2⟩ := w.newC hp (o := .lst vs) (c := .lst ys) fun H' e => ⟨vs, e, h2⟩
    exact q _ _ _ _ _ f2 w2 (.own p) (hk p (w.ne hp).2)
def dAny : List D → CS → KD → Prop := fun ds C k => ∃ x, ∃ bs : List Bool, ds = [x] ∧ seqR C x = some (bs.map D.bl) ∧ k (.bl (bs.any id)) C
theorem rl_any : RLD K (rAny K) dAny := by
  rintro xs ds G C H k Q w rs ⟨x, bs, rfl, hs, hk⟩ q
  cases rs with
  | cons r1 r2 =>
    cases r2
    obtain ⟨a, vs, rfl, h1, h2⟩ := w.seq r1 hs
    have := datAll_bls h2
    subst this
    exact ⟨a, bs, rfl, h1, q _ _ _ _ _ (Fr.refl ..) w (.bl _) hk⟩
def dAll : List D → CS → KD → Prop := fun ds C k => ∃ x, ∃ bs : List Bool, ds = [x] ∧ seqR C x = some (bs.map D.bl) ∧ k (.bl (bs.all id)) C
theorem rl_all : RLD K (rAll K) dAll := by
  rintro xs ds G C H k Q w rs ⟨x, bs, rfl, hs, hk⟩ q
  cases rs with
  | cons r1 r2 =>
    cases r2
    obtain ⟨a, vs, rfl, h1, h2⟩ := w.seq r1 hs
    have := datAll_bls h2
    subst this
    exact ⟨a, bs, rfl, h1, q _ _ _ _ _ (Fr.refl ..) w (.bl _) hk⟩
def dSum : List D → CS → KD → Prop := fun ds C k => ∃ x, ∃ ns : List Int, ds = [x] ∧ seqR C x = some (ns.map D.int) ∧ k (.int ns.sum) C
theorem rl_sum : RLD K (rSum K) dSum := by
  rintro xs ds G C H k Q w rs ⟨x, ns, rfl, hs, hk⟩ q
  cases rs with
  | cons r1 r2 =>
    cases r2
    obtain ⟨a, vs, rfl, h1, h2⟩ := w.seq r1 hs
    have := datAll_ints h2
    subst this
    exact ⟨a, ns, rfl, h1, q _ _ _ _ _ (Fr.refl ..) w (.int _) hk⟩
def dMinL : List D → CS → KD → Prop := fun ds C k => ∃ x, ∃ ns : List Int, ds = [x] ∧ seqR C x = some (ns.map D.int) ∧ 0 < ns.length ∧ ∀ m, m ∈ ns → (∀ y, y ∈ ns → m ≤ y) → k (.int m) C
theorem rl_minL : RLD K (rMin K) dMinL := by
  rintro xs ds G C H k Q w rs ⟨x, ns, rfl, hs, h0, hk⟩ q
  cases rs with
  | cons r1 r2 =>
    cases r2
    obtain ⟨a, vs, rfl, h1, h2⟩ := w.seq r1 hs
    have := datAll_ints h2
    subst this
    exact ⟨a, ns, rfl, h1, h0, fun m hm hy => q _ _ _ _ _ (Fr.refl ..) w (.int _) (hk m hm hy)⟩
/-- isinstance -/
def tyN (C : CS) : D → Option String
  | .non => some "NoneType"
  | .bl _ => some "bool"
  | .int _ => some "int"
  | .str _ => some "str"
  | .lst _ => some "list"
  | .slst _ => some "list"
  | .tup _ => some "tuple"
  | .own a => match C a with
    | some (.lst _) => some "list"
    | some (.dic _) => some "dict"
    | _ => none
  | _ => none
theorem sqL_ty {H : Hp} {a : Addr} {vs : List V} (h : SqL K H a vs) : TyX K H (.ref a) (.type "list") := by
  rcases h with (h | ⟨o, h⟩) | ⟨o, its, n, h, h1, _⟩
  · exact .base (.lst h)
  · exact .base (.frz h)
  · exact .kList h h1
theorem sqT_ty {H : Hp} {a : Addr} {vs : List V} (h : SqT K H a vs) : TyX K H (.ref a) (.type "tuple") := by
  rcases h with (h | ⟨o, h⟩) | ⟨o, its, n, h, h1, _⟩
  · exact .base (.tup h)
  · exact .fTuple h
  · exact .kTuple h h1
theorem tyN_ok {G H : Hp} {C : CS} {v : V} {d : D} {T : String} (w : Wld K G C H) (r : Dat K G v d) (e : tyN C d = some T) : TyX K H v (.type T) := by
  cases r with
  | non => simp [tyN] at e; subst e; exact .base .non
  | bl b => simp [tyN] at e; subst e; exact .base (.bl b)
  | int b => simp [tyN] at e; subst e; exact .base (.int b)
  | str b => simp [tyN] at e; subst e; exact .base (.str b)
  | lst a b => simp [tyN] at e; subst e; exact .base (.lst (w.ex _ _ a))
  | slst a b => simp [tyN] at e; subst e; exact sqL_ty (w.ex.seq a)
  | tup a b => simp [tyN] at e; subst e; exact sqT_ty (Same.sqT w.ex a)
  | own a =>
    unfold tyN at e
    cases q : C a with
    | none => simp [q] at e
    | some c =>
      obtain ⟨_, hc⟩ := w.cell a c q
      cases c with
      | lst ds => simp [q] at e; subst e; obtain ⟨vs, h1, _⟩ := hc; exact .base (.lst h1)
      | dic ds => simp [q] at e; subst e; obtain ⟨vs, h1, _⟩ := hc; exact .base (.dK h1)
      | ins _ _ _ => simp [q] at e
  | _ => simp [tyN] at e
def dIsi : List D → CS → KD → Prop := fun ds C k => ∃ x T U b, ds = [x, .opq (.ty U)] ∧ tyN C x = some T ∧ kitB T U = some b ∧ k (.bl b) C
theorem rl_isi : RLD K (rIsi K) dIsi := by
  rintro xs ds G C H k Q w rs ⟨x, T, U, b, rfl, ht, hb, hk⟩ q
  cases rs with
  | cons r1 r2 =>
    cases r2 with
    | cons r2 r3 =>
      cases r3; cases r2
      exact ⟨_, _, .type T, .type U, b, rfl, .ty U, tyN_ok w r1 ht, kit_ty hb, q _ _ _ _ _ (Fr.refl ..) w (.bl _) hk⟩
end
end DL
/-! DLh: the rules in the forms that a walk by syntax applies. -/
namespace DL
open PySem PySem.Spec PyProof.Rows L2

/-- the module leaves these built-in names alone -/
structure Zs (mg : Str → Option Value) : Prop where
  int : mg "int" = none
  bool : mg "bool" = none
  str : mg "str" = none
  list : mg "list" = none
  tuple : mg "tuple" = none
  len : mg "len" = none
  isi : mg "isinstance" = none
  abs : mg "abs" = none
  min : mg "min" = none
  max : mg "max" = none
  any : mg "any" = none
  all : mg "all" = none
  sum : mg "sum" = none
  range : mg "range" = none
  zip : mg "zip" = none
  enum : mg "enumerate" = none
  repr : mg "repr" = none
  sorted : mg "sorted" = none
  dict : mg "dict" = none
theorem bt_int : bootBuiltins "int" = some (.type "int") := by first | exact boot_int | exact PyProof.Rows.boot_int | decide +kernel
theorem bt_bool : bootBuiltins "bool" = some (.type "bool") := boot_bool
theorem bt_str : bootBuiltins "str" = some (.type "str") := boot_str
theorem bt_list : bootBuiltins "list" = some (.type "list") := boot_list
theorem bt_tuple : bootBuiltins "tuple" = some (.type "tuple") := by first | exact boot_tuple | exact PyProof.Rows.boot_tuple | decide +kernel
theorem bt_len : bootBuiltins "len" = some (.builtin "len") := PySem.boot_len
theorem bt_isi : bootBuiltins "isinstance" = some (.builtin "isinstance") := PyProof.Rows.boot_isinstance
theorem bt_abs : bootBuiltins "abs" = some (.builtin "abs") := boot_abs
theorem bt_min : bootBuiltins "min" = some (.builtin "min") := boot_min
theorem bt_max : bootBuiltins "max" = some (.builtin "max") := boot_max
theorem bt_any : bootBuiltins "any" = some (.builtin "any") := boot_any
theorem bt_all : bootBuiltins "all" = some (.builtin "all") := boot_all
theorem bt_sum : bootBuiltins "sum" = some (.builtin "sum") := boot_sum

/-- ** of ints of at most a thousand bits -/
def CPowW (i j : Int) : Prop := 0 ≤ j ∧ j ≤ 100 ∧ i.natAbs < 2 ^ 1000
theorem op_powW {X : Cx} : OpR X (binaryOp .Pow) (rI CPowW fun i j => .int (i ^ j.toNat)) := opI fun i j _ _ _ _ _ hc q => pow_int hc.1 (by
  obtain ⟨h0, h1, h2⟩ := hc
  have b : Builtin.Int.intBits i ≤ 1000 := by
    unfold Builtin.Int.intBits
    split
    · exact Nat.zero_le _
    · rename_i h
      have := (Nat.log2_lt (n := i.natAbs) (k := 1000) (by simpa using h)).mpr h2
      omega
  have : (Builtin.Int.intBits i : Int) * j ≤ 1000 * 100 := Int.mul_le_mul (by omega) h1 h0 (by decide)
  exact Int.le_trans this (by decide)) q
section
variable {X : Cx} {e a b : Expr} {es : List Expr} {env : DEnv} {C : CS} {k : KD} {pos p p1 p2 : Pos} {kb : Bool → CS → Prop}
theorem we_len (Z : Zs X.mg) (hg : Gl X "len") (h : WA X (e :: es) env C fun ds C1 => dLen ds C1 k) (he : starEach (e :: es) X.env = (false, eval e X.env) :: starEach es X.env := by rfl) (hpl : (backTo pos (starEach es X.env)).any (·.1) = false := by rfl) : WE X (.Call (.Name "len" p) (e :: es) [] pos) env C k := we_cb Z.len call_len rl_len hg bt_len h (he := he) (hpl := hpl)
theorem we_isi (Z : Zs X.mg) (hg : Gl X "isinstance") (h : WA X (e :: es) env C fun ds C1 => dIsi ds C1 k) (he : starEach (e :: es) X.env = (false, eval e X.env) :: starEach es X.env := by rfl) (hpl : (backTo pos (starEach es X.env)).any (·.1) = false := by rfl) : WE X (.Call (.Name "isinstance" p) (e :: es) [] pos) env C k := we_cb Z.isi call_isi rl_isi hg bt_isi h (he := he) (hpl := hpl)
theorem we_abs (Z : Zs X.mg) (hg : Gl X "abs") (h : WA X (e :: es) env C fun ds C1 => dInt1 (fun i => if i < 0 then -i else i) ds C1 k) (he : starEach (e :: es) X.env = (false, eval e X.env) :: starEach es X.env := by rfl) (hpl : (backTo pos (starEach es X.env)).any (·.1) = false := by rfl) : WE X (.Call (.Name "abs" p) (e :: es) [] pos) env C k := we_cb Z.abs call_abs rl_int1 hg bt_abs h (he := he) (hpl := hpl)
theorem we_max2 (hc : X.calm = true) (Z : Zs X.mg) (hg : Gl X "max") (h : WA X [a, b] env C fun ds C1 => dInt2 (fun i j => if j > i then j else i) ds C1 k) (he : starEach [a, b] X.env = (false, eval a X.env) :: starEach [b] X.env := by rfl) (hpl : (backTo pos (starEach [b] X.env)).any (·.1) = false := by rfl) : WE X (.Call (.Name "max" p) [a, b] [] pos) env C k := we_cb Z.max (call_max2 hc) rl_int2 hg bt_max h (he := he) (hpl := hpl)
theorem we_min2 (hc : X.calm = true) (Z : Zs X.mg) (hg : Gl X "min") (h : WA X [a, b] env C fun ds C1 => dInt2 (fun i j => if j < i then j else i) ds C1 k) (he : starEach [a, b] X.env = (false, eval a X.env) :: starEach [b] X.env := by rfl) (hpl : (backTo pos (starEach [b] X.env)).any (·.1) = false := by rfl) : WE X (.Call (.Name "min" p) [a, b] [] pos) env C k := we_cb Z.min (call_min2 hc) rl_int2 hg bt_min h (he := he) (hpl := hpl)
theorem we_minL (hc : X.calm = true) (Z : Zs X.mg) (hg : Gl X "min") (h : WA X [a] env C fun ds C1 => dMinL ds C1 k) (he : starEach [a] X.env = (false, eval a X.env) :: starEach [] X.env := by rfl) (hpl : (backTo pos (starEach [] X.env)).any (·.1) = false := by rfl) : WE X (.Call (.Name "min" p) [a] [] pos) env C k := we_cb Z.min (cr_min hc) rl_minL hg bt_min h (he := he) (hpl := hpl)
theorem we_any (hc : X.calm = true) (Z : Zs X.mg) (hg : Gl X "any") (h : WA X (e :: es) env C fun ds C1 => dAny ds C1 k) (he : starEach (e :: es) X.env = (false, eval e X.env) :: starEach es X.env := by rfl) (hpl : (backTo pos (starEach es X.env)).any (·.1) = false := by rfl) : WE X (.Call (.Name "any" p) (e :: es) [] pos) env C k := we_cb Z.any (cr_any hc) rl_any hg bt_any h (he := he) (hpl := hpl)
theorem we_all (hc : X.calm = true) (Z : Zs X.mg) (hg : Gl X "all") (h : WA X (e :: es) env C fun ds C1 => dAll ds C1 k) (he : starEach (e :: es) X.env = (false, eval e X.env) :: starEach es X.env := by rfl) (hpl : (backTo pos (starEach es X.env)).any (·.1) = false := by rfl) : WE X (.Call (.Name "all" p) (e :: es) [] pos) env C k := we_cb Z.all (cr_all hc) rl_all hg bt_all h (he := he) (hpl := hpl)
theorem we_sum (hc : X.calm = true) (Z : Zs X.mg) (hg : Gl X "sum") (h : WA X (e :: es) env C fun ds C1 => dSum ds C1 k) (he : starEach (e :: es) X.env = (false, eval e X.env) :: starEach es X.env := by rfl) (hpl : (backTo pos (starEach es X.env)).any (·.1) = false := by rfl) : WE X (.Call (.Name "sum" p) (e :: es) [] pos) env C k := we_cb Z.sum (cr_sum hc) rl_sum hg bt_sum h (he := he) (hpl := hpl)
theorem we_intC (Z : Zs X.mg) (hg : Gl X "int") (h : WA X (e :: es) env C fun ds C1 => dInt ds C1 k) (he : starEach (e :: es) X.env = (false, eval e X.env) :: starEach es X.env := by rfl) (hpl : (backTo pos (starEach es X.env)).any (·.1) = false := by rfl) : WE X (.Call (.Name "int" p) (e :: es) [] pos) env C k := we_ct Z.int call_int1 rl_int hg bt_int h (he := he) (hpl := hpl)
theorem we_strC (Z : Zs X.mg) (hg : Gl X "str") (h : WA X (e :: es) env C fun ds C1 => dStrInt ds C1 k) (he : starEach (e :: es) X.env = (false, eval e X.env) :: starEach es X.env := by rfl) (hpl : (backTo pos (starEach es X.env)).any (·.1) = false := by rfl) : WE X (.Call (.Name "str" p) (e :: es) [] pos) env C k := we_ct Z.str call_str_int rl_str hg bt_str h (he := he) (hpl := hpl)
theorem we_tupleC (Z : Zs X.mg) (hg : Gl X "tuple") (h : WA X (e :: es) env C fun ds C1 => dTuple ds C1 k) (he : starEach (e :: es) X.env = (false, eval e X.env) :: starEach es X.env := by rfl) (hpl : (backTo pos (starEach es X.env)).any (·.1) = false := by rfl) : WE X (.Call (.Name "tuple" p) (e :: es) [] pos) env C k := we_ct Z.tuple call_tuple_of rl_tuple hg bt_tuple h (he := he) (hpl := hpl)
theorem we_listC (Z : Zs X.mg) (hg : Gl X "list") (h : WA X (e :: es) env C fun ds C1 => dList ds C1 k) (he : starEach (e :: es) X.env = (false, eval e X.env) :: starEach es X.env := by rfl) (hpl : (backTo pos (starEach es X.env)).any (·.1) = false := by rfl) : WE X (.Call (.Name "list" p) (e :: es) [] pos) env C k := we_ct Z.list call_list_of rl_list hg bt_list h (he := he) (hpl := hpl)
theorem we_tyInt (Z : Zs X.mg) (hg : Gl X "int") (h : k (.opq (.ty "int")) C) : WE X (.Name "int" pos) env C k := we_bty Z.int hg bt_int h
theorem we_tyBool (Z : Zs X.mg) (hg : Gl X "bool") (h : k (.opq (.ty "bool")) C) : WE X (.Name "bool" pos) env C k := we_bty Z.bool hg bt_bool h
theorem we_tyStr (Z : Zs X.mg) (hg : Gl X "str") (h : k (.opq (.ty "str")) C) : WE X (.Name "str" pos) env C k := we_bty Z.str hg bt_str h
theorem we_tyList (Z : Zs X.mg) (hg : Gl X "list") (h : k (.opq (.ty "list")) C) : WE X (.Name "list" pos) env C k := we_bty Z.list hg bt_list h
theorem we_tyTuple (Z : Zs X.mg) (hg : Gl X "tuple") (h : k (.opq (.ty "tuple")) C) : WE X (.Name "tuple" pos) env C k := we_bty Z.tuple hg bt_tuple h

/-! operators by their sign -/
theorem we_add (h : WE X a env C fun x C1 => WE X b env C1 fun y C2 => dAdd x y C2 k) : WE X (.BinOp a .Add b pos) env C k := we_op op_addA r2_add h
theorem we_sub' (h : WE X a env C fun x C1 => WE X b env C1 fun y C2 => dI2 (fun i j => i - j) (fun _ _ => True) x y C2 k) : WE X (.BinOp a .Sub b pos) env C k := we_op op_sub r2_I0 h
theorem we_mul (h : WE X a env C fun x C1 => WE X b env C1 fun y C2 => dMul x y C2 k) : WE X (.BinOp a .Mult b pos) env C k := we_op op_mulA r2_mul h
theorem we_mod (h : WE X a env C fun x C1 => WE X b env C1 fun y C2 => dI2 (fun i j => i % j) (fun _ j => 0 < j) x y C2 k) : WE X (.BinOp a .Mod b pos) env C k := we_op op_mod r2_I h
theorem we_fdiv (h : WE X a env C fun x C1 => WE X b env C1 fun y C2 => dI2 (fun i j => i / j) CDiv x y C2 k) : WE X (.BinOp a .FloorDiv b pos) env C k := we_op op_fdiv r2_I h
theorem we_pow (h : WE X a env C fun x C1 => WE X b env C1 fun y C2 => dI2 (fun i j => i ^ j.toNat) CPowW x y C2 k) : WE X (.BinOp a .Pow b pos) env C k := we_op op_powW r2_I h
theorem we_neg (h : WE X a env C fun x C1 => ∃ i, x = .int i ∧ k (.int (-i)) C1) : WE X (.UnaryOp .USub a pos) env C k := we_un (p := fun x C k => ∃ i, x = .int i ∧ k (.int (-i)) C) un_neg (by
  rintro x d G C H k Q w r ⟨i, rfl, hk⟩ q
  cases r
  exact ⟨i, rfl, q _ _ _ _ _ (Fr.refl ..) w (.int _) hk⟩) h
theorem we_lt (h : WE X a env C fun x C1 => WE X b env C1 fun y C2 => dB2 (fun i j => decide (i < j)) x y C2 k) : WE X (.Compare a [.Lt] [b] pos) env C k := we_cmp op_lt r2_B h (nomark _)
theorem we_le (h : WE X a env C fun x C1 => WE X b env C1 fun y C2 => dB2 (fun i j => decide (i ≤ j)) x y C2 k) : WE X (.Compare a [.LtE] [b] pos) env C k := we_cmp op_le r2_B h (nomark _)
theorem we_gt (h : WE X a env C fun x C1 => WE X b env C1 fun y C2 => dB2 (fun i j => decide (j < i)) x y C2 k) : WE X (.Compare a [.Gt] [b] pos) env C k := we_cmp op_gt r2_B h (nomark _)
theorem we_ge (h : WE X a env C fun x C1 => WE X b env C1 fun y C2 => dB2 (fun i j => decide (j ≤ i)) x y C2 k) : WE X (.Compare a [.GtE] [b] pos) env C k := we_cmp op_ge r2_B h (nomark _)
theorem we_eq {m : Nat} (hr : Room m X.A) (h : WE X a env C fun x C1 => WE X b env C1 fun y C2 => dEq false x y C2 k) : WE X (.Compare a [.Eq] [b] pos) env C k := we_cmp (OpR.or (op_eqD hr.units) op_eq) r2_eq h (nomark _)
theorem we_ne {m : Nat} (hr : Room m X.A) (h : WE X a env C fun x C1 => WE X b env C1 fun y C2 => dEq true x y C2 k) : WE X (.Compare a [.NotEq] [b] pos) env C k := we_cmp (OpR.or (op_neD hr.units) op_ne) r2_ne h (nomark _)
theorem we_is (h : WE X a env C fun x C1 => WE X b env C1 fun y C2 => dIsN false x y C2 k) : WE X (.Compare a [.Is] [b] pos) env C k := we_cmp op_isN r2_isN h (nomark _)
theorem we_isnot (h : WE X a env C fun x C1 => WE X b env C1 fun y C2 => dIsN true x y C2 k) : WE X (.Compare a [.IsNot] [b] pos) env C k := we_cmp op_notN r2_notN h (nomark _)
theorem Room.u65 {m : Nat} {A : Around} (r : Room m A) : A.units + 65 < cLine := by have := r.un; omega
/-! ### a text in a tuple of texts -/
def dInT (neg : Bool) : OpD := fun x y C k => ∃ (z : Str) (zs : List Str), x = .str z ∧ y = .tup (zs.map D.str) ∧ k (.bl (if neg = true then !decide (z ∈ zs) else decide (z ∈ zs))) C
theorem inV_strs (z : Str) : ∀ zs : List Str, inV (.str z) (zs.map V.str) = decide (z ∈ zs)
  | [] => rfl
  | y :: zs => by
    unfold inV
    rw [List.map_cons, List.any_cons]
    have ih := inV_strs z zs
    unfold inV at ih
    rw [ih]
    by_cases h : y = z
    · subst h; simp [eqV]
    · have h' : ¬ z = y := fun e => h e.symm
      simp [eqV, h, h']
theorem flat_strs : ∀ zs : List Str, (zs.map V.str).all flatV = true
  | [] => rfl
  | y :: zs => by rw [List.map_cons, List.all_cons, flat_strs zs]; rfl
theorem r2_inT {K : PySem.W.Frag} : R2D K (rIn K false) (dInT false) := by
  rintro x y a b G C H k Q w da db ⟨z, zs, rfl, rfl, h⟩ q
  cases da
  obtain ⟨l, vs, rfl, h1, h2⟩ := w.tup db
  have := datAll_strs h2
  subst this
  refine ⟨l, _, rfl, .inr h1, rfl, flat_strs zs, ?_⟩
  rw [if_neg (by decide), inV_strs]
  exact q _ _ _ _ _ (Fr.refl ..) w (.bl _) h
theorem r2_ninT {K : PySem.W.Frag} : R2D K (rIn K true) (dInT true) := by
  rintro x y a b G C H k Q w da db ⟨z, zs, rfl, rfl, h⟩ q
  cases da
  obtain ⟨l, vs, rfl, h1, h2⟩ := w.tup db
  have := datAll_strs h2
  subst this
  refine ⟨l, _, rfl, .inr h1, rfl, flat_strs zs, ?_⟩
  rw [if_pos rfl, inV_strs]
  exact q _ _ _ _ _ (Fr.refl ..) w (.bl _) h
def dIn (neg : Bool) : OpD := fun x y C k => match y with
  | .str _ => dInS neg x y C k
  | .tup _ => dInT neg x y C k
  | _ => dInL neg x y C k
theorem OpR.iff {X : Cx} {f : Value → Value → Sem Value} {r : R2} (h : OpR X f r) : OpR X f r := h
theorem r2_in {K : PySem.W.Frag} : R2D K (fun x y H Q => rInD K x y H Q ∨ (∃ (c : Nat) (z : Str), x = .str ⟨#[c]⟩ ∧ y = .str z ∧ Q (.bl (decide (c ∈ z.cps.toList))) H) ∨ rIn K false x y H Q) (dIn false) := by
  intro x y a b G C H k Q w da db h q
  unfold dIn at h
  split at h
  · exact .inr (.inl (r2_inS (K := K) x y a _ G C H k Q w da db h q))
  · exact .inr (.inr (r2_inT x y a _ G C H k Q w da db h q))
  · exact .inl (r2_inL x y a _ G C H k Q w da db h q)
theorem r2_nin {K : PySem.W.Frag} : R2D K (fun x y H Q => rNotInD K x y H Q ∨ (∃ (c : Nat) (z : Str), x = .str ⟨#[c]⟩ ∧ y = .str z ∧ Q (.bl (!decide (c ∈ z.cps.toList))) H) ∨ rIn K true x y H Q) (dIn true) := by
  intro x y a b G C H k Q w da db h q
  unfold dIn at h
  split at h
  · exact .inr (.inl (r2_ninS (K := K) x y a _ G C H k Q w da db h q))
  · exact .inr (.inr (r2_ninT x y a _ G C H k Q w da db h q))
  · exact .inl (r2_ninL x y a _ G C H k Q w da db h q)
theorem we_in {m : Nat} (hr : Room m X.A) (h : WE X a env C fun x C1 => WE X b env C1 fun y C2 => dIn false x y C2 k) (hm : behindInMarks .In b = false := by rfl) : WE X (.Compare a [.In] [b] pos) env C k := we_cmp (OpR.or (op_inD (Room.u65 hr)) (OpR.or op_in_sign op_in_seq)) r2_in h hm
theorem we_nin {m : Nat} (hr : Room m X.A) (h : WE X a env C fun x C1 => WE X b env C1 fun y C2 => dIn true x y C2 k) (hm : behindInMarks .NotIn b = false := by rfl) : WE X (.Compare a [.NotIn] [b] pos) env C k := we_cmp (OpR.or (op_notInD (Room.u65 hr)) (OpR.or op_notIn_sign op_notIn_seq)) r2_nin h hm
abbrev tb (kb : Bool → CS → Prop) : KD := fun d C => ∃ t, d = .bl t ∧ kb t C
theorem wt_lt (h : WE X a env C fun x C1 => WE X b env C1 fun y C2 => dB2 (fun i j => decide (i < j)) x y C2 (tb kb)) : WT X (.Compare a [.Lt] [b] pos) env C kb := wt_cmp op_lt r2_B h (nomark _)
theorem wt_le (h : WE X a env C fun x C1 => WE X b env C1 fun y C2 => dB2 (fun i j => decide (i ≤ j)) x y C2 (tb kb)) : WT X (.Compare a [.LtE] [b] pos) env C kb := wt_cmp op_le r2_B h (nomark _)
theorem wt_gt (h : WE X a env C fun x C1 => WE X b env C1 fun y C2 => dB2 (fun i j => decide (j < i)) x y C2 (tb kb)) : WT X (.Compare a [.Gt] [b] pos) env C kb := wt_cmp op_gt r2_B h (nomark _)
theorem wt_ge (h : WE X a env C fun x C1 => WE X b env C1 fun y C2 => dB2 (fun i j => decide (j ≤ i)) x y C2 (tb kb)) : WT X (.Compare a [.GtE] [b] pos) env C kb := wt_cmp op_ge r2_B h (nomark _)
theorem wt_eq {m : Nat} (hr : Room m X.A) (h : WE X a env C fun x C1 => WE X b env C1 fun y C2 => dEq false x y C2 (tb kb)) : WT X (.Compare a [.Eq] [b] pos) env C kb := wt_cmp (OpR.or (op_eqD hr.units) op_eq) r2_eq h (nomark _)
theorem wt_ne {m : Nat} (hr : Room m X.A) (h : WE X a env C fun x C1 => WE X b env C1 fun y C2 => dEq true x y C2 (tb kb)) : WT X (.Compare a [.NotEq] [b] pos) env C kb := wt_cmp (OpR.or (op_neD hr.units) op_ne) r2_ne h (nomark _)
theorem wt_is (h : WE X a env C fun x C1 => WE X b env C1 fun y C2 => dIsN false x y C2 (tb kb)) : WT X (.Compare a [.Is] [b] pos) env C kb := wt_cmp op_isN r2_isN h (nomark _)
theorem wt_isnot (h : WE X a env C fun x C1 => WE X b env C1 fun y C2 => dIsN true x y C2 (tb kb)) : WT X (.Compare a [.IsNot] [b] pos) env C kb := wt_cmp op_notN r2_notN h (nomark _)
theorem wt_in {m : Nat} (hr : Room m X.A) (h : WE X a env C fun x C1 => WE X b env C1 fun y C2 => dIn false x y C2 (tb kb)) (hm : behindInMarks .In b = false := by rfl) : WT X (.Compare a [.In] [b] pos) env C kb := wt_cmp (OpR.or (op_inD (Room.u65 hr)) (OpR.or op_in_sign op_in_seq)) r2_in h hm
theorem wt_nin {m : Nat} (hr : Room m X.A) (h : WE X a env C fun x C1 => WE X b env C1 fun y C2 => dIn true x y C2 (tb kb)) (hm : behindInMarks .NotIn b = false := by rfl) : WT X (.Compare a [.NotIn] [b] pos) env C kb := wt_cmp (OpR.or (op_notInD (Room.u65 hr)) (OpR.or op_notIn_sign op_notIn_seq)) r2_nin h hm
end

/-! ### names by place -/
/-- a name's value, found by syntax -/
inductive Get : List Str → Str → DEnv → D → Prop where
  | here (x : Str) (N : List Str) (d : D) (l : DEnv) : Get (x :: N) x (some d :: l) d
  | there (y : Str) (o : Option D) {x : Str} {N : List Str} {l : DEnv} {d : D} (h : Get N x l d) : Get (y :: N) x (o :: l) d
/-- the places behind a store -/
inductive Put : List Str → Str → DEnv → (D → DEnv) → Prop where
  | here (x : Str) (N : List Str) (o : Option D) (l : DEnv) : Put (x :: N) x (o :: l) fun d => some d :: l
  | there (y : Str) (o : Option D) {x : Str} {N : List Str} {l : DEnv} {f : D → DEnv} (h : Put N x l f) : Put (y :: N) x (o :: l) fun d => o :: f d
theorem Get.get {N : List Str} {x : Str} {env : DEnv} {d : D} (h : Get N x env d) : ∃ i : Nat, N[i]? = some x ∧ env[i]? = some (some d) := by
  induction h with
  | here => exact ⟨0, rfl, rfl⟩
  | there y o _ ih => obtain ⟨i, h1, h2⟩ := ih; exact ⟨i + 1, by simpa using h1, by simpa using h2⟩
theorem Put.set {N : List Str} {x : Str} {env : DEnv} {f : D → DEnv} (h : Put N x env f) : ∃ i : Nat, N[i]? = some x ∧ (∀ d, env.set i (some d) = f d) ∧ ∀ d, (wipeD env [i]).set i (some d) = f d := by
  induction h with
  | here => exact ⟨0, rfl, fun _ => rfl, fun _ => rfl⟩
  | there y o _ ih =>
    obtain ⟨i, h1, h2, h3⟩ := ih
    refine ⟨i + 1, by simpa using h1, fun d => by simpa using h2 d, fun d => ?_⟩
    have := h3 d
    simp only [wipeD] at this ⊢
    simpa using this
/-- x stands in a written list -/
inductive Mem : Str → List Str → Prop where
  | here (x : Str) (l : List Str) : Mem x (x :: l)
  | there (y : Str) {x : Str} {l : List Str} (h : Mem x l) : Mem x (y :: l)
theorem Mem.mem {x : Str} {l : List Str} (h : Mem x l) : x ∈ l := by
  induction h with
  | here => exact List.mem_cons_self
  | there y _ ih => exact List.mem_cons_of_mem _ ih
/-- a context's own names: by place; those that are read -/
structure Nms (X : Cx) (N M : List Str) : Prop where
  n : X.N = N
  nd : X.N.Nodup
  vis : ∀ y ∈ M, Vis X.env.scope y
  ndb : ∀ y ∈ M, (y == ("__debug__" : Str)) = false
  ncd : ∀ y ∈ M, (y == ("__classdict__" : Str)) = false
/-- .. those that may be stored -/
structure Sts (X : Cx) (N M : List Str) : Prop where
  n : X.N = N
  nd : X.N.Nodup
  loc : ∀ y ∈ M, Loc X.env.scope y
  fn : ∀ y ∈ M, X.fn y = true ∨ X.env.scope.names.lookup y = some .local
section
variable {X : Cx} {e : Expr} {env : DEnv} {C : CS} {k : KD} {pos pos' : Pos} {E : DEnds} {N M : List Str} {i : Nat} {x : Str} {d : D} {f : D → DEnv}
theorem we_nm (B : Nms X N M) (hm' : Mem x M) (hi : Get N x env d) (h : k d C) : WE X (.Name x pos) env C k := by
  obtain ⟨i, h1, h2⟩ := hi.get
  have hm : x ∈ M := hm'.mem
  exact we_var (by rw [B.n]; exact h1) (B.vis x hm) h2 h (B.ndb x hm) (B.ncd x hm)
theorem ws_nm (B : Sts X N M) (hm' : Mem x M) (hi : Put N x env f) (h : WE X e env C fun d C1 => E.nx (f d) C1) (hs : swapsWith e (some (.Name x pos')) pos.line X.env = pure false := by rfl) : WS X (.Assign [.Name x pos'] e pos) env C E := by
  obtain ⟨i, h1, h2, _⟩ := hi.set
  have hm : x ∈ M := hm'.mem
  exact ws_set (i := i) B.nd (by rw [B.n]; exact h1) (B.loc x hm) (h.imp fun d C' z => by rw [h2]; exact z) hs (B.fn x hm)
theorem wg_nm {kE : DEnv → CS → Prop} (B : Sts X N M) (hm' : Mem x M) (hi : Put N x env f) (h : kE (f d) C) : WG X (.Name x pos) d env C kE := by
  obtain ⟨i, h1, h2, _⟩ := hi.set
  have hm : x ∈ M := hm'.mem
  exact wg_name (i := i) B.nd (by rw [B.n]; exact h1) (B.loc x hm) (by rw [h2]; exact h) (B.fn x hm)
theorem ws_augNm {op : Operator} {ti : TIp} {p : OpD} (B : Sts X N M) (hm' : Mem x M) (hg : Get N x env d) (hi : Put N x env f) (ho : PIp X op ti) (hr : RID X.K ti p) (h : WE X e env C fun y C1 => p d y C1 fun z C2 => E.nx (f z) C2) : WS X (.AugAssign (.Name x pos') op e pos) env C E := by
  obtain ⟨i, h1, h2, _⟩ := hi.set
  obtain ⟨j, h3, h4⟩ := hg.get
  have hm : x ∈ M := hm'.mem
  have nd := B.nd
  rw [B.n] at nd
  have hij : i = j := nodup_ix nd h1 h3
  subst hij
  exact ws_aug (i := i) B.nd (by rw [B.n]; exact h1) (B.loc x hm) ho hr h4 (by simpa only [h2] using h) (B.fn x hm)
theorem ws_augAdd (B : Sts X N M) (hm' : Mem x M) (hg : Get N x env d) (hi : Put N x env f) (h : WE X e env C fun y C1 => dI2 (fun i j => i + j) (fun _ _ => True) d y C1 fun z C2 => E.nx (f z) C2) : WS X (.AugAssign (.Name x pos') .Add e pos) env C E :=
  ws_augNm B hm' hg hi ip_add (p := dI2 (fun i j => i + j) fun _ _ => True) (by
    rintro x y a b G C H k Q w da db ⟨i, j, rfl, rfl, _, hk⟩ q
    cases da; cases db
    exact ⟨i, j, rfl, rfl, q _ _ _ _ _ (Fr.refl ..) w (.int _) hk⟩) h
/-- the globals that a context reads -/
structure Gls (X : Cx) (gs : List Str) : Prop where
  gl : ∀ y ∈ gs, Gl X y
end
theorem Gls.at {X : Cx} {gs : List Str} {x : Str} (B : Gls X gs) (h : Mem x gs) : Gl X x := B.gl x h.mem

/-- looks at a scope, by computation -/
def locC (sc : Scope) (N : List Str) : Bool := N.all fun y => (sc.names.lookup y == some .local || sc.names.lookup y == some .cell) && !(y == ("__debug__" : Str)) && !(y == ("__classdict__" : Str))
def visC (sc : Scope) (N : List Str) : Bool := N.all fun y => (sc.names.lookup y == some .local || sc.names.lookup y == some .cell || sc.names.lookup y == some .free) && !(y == ("__debug__" : Str)) && !(y == ("__classdict__" : Str))
def onlyC (sc : Scope) (N : List Str) : Bool := N.all fun y => sc.names.lookup y == some .local
def glC (sc : Scope) (gs : List Str) : Bool := gs.all fun y => sc.names.lookup y == some .globalImplicit
theorem nk_eq {a b : Option NameKind} (h : (a == b) = true) : a = b := by
  cases a <;> cases b <;> first | rfl | (rename_i x y; cases x <;> cases y <;> first | rfl | (exact absurd h (by decide))) | (exact absurd h (by decide)) | (rename_i x; cases x <;> exact absurd h (by decide))
theorem nms_of {X : Cx} {N M : List Str} {sc : Scope} (hn : X.N = N) (hs : X.env.scope = sc) (nd : X.N.Nodup) (h : visC sc M = true) : Nms X N M := by
  unfold visC at h
  rw [List.all_eq_true] at h
  refine ⟨hn, nd, fun y hy => ?_, fun y hy => ?_, fun y hy => ?_⟩
  · have q := h y hy
    simp only [Bool.and_eq_true, Bool.or_eq_true] at q
    rw [hs]
    rcases q.1.1 with (q | q) | q
    · exact .inl (nk_eq q)
    · exact .inr (.inl (nk_eq q))
    · exact .inr (.inr (nk_eq q))
  · have q := h y hy
    simp only [Bool.and_eq_true, Bool.not_eq_true'] at q
    exact q.1.2
  · have q := h y hy
    simp only [Bool.and_eq_true, Bool.not_eq_true'] at q
    exact q.2
theorem sts_of {X : Cx} {N M : List Str} {sc : Scope} (hn : X.N = N) (hs : X.env.scope = sc) (nd : X.N.Nodup) (h : locC sc M = true) (hf : ∀ y, X.fn y = true) : Sts X N M := by
  unfold locC at h
  rw [List.all_eq_true] at h
  refine ⟨hn, nd, fun y hy => ?_, fun y _ => .inl (hf y)⟩
  have q := h y hy
  simp only [Bool.and_eq_true, Bool.or_eq_true] at q
  rw [hs]
  rcases q.1.1 with q | q
  · exact .inl (nk_eq q)
  · exact .inr (nk_eq q)
theorem gls_of {X : Cx} {gs : List Str} {sc : Scope} (hs : X.env.scope = sc) (h : glC sc gs = true) : Gls X gs := by
  unfold glC at h
  rw [List.all_eq_true] at h
  refine ⟨fun y hy => ?_⟩
  show X.env.kindOf y = some .globalImplicit
  unfold Env.kindOf
  rw [hs]
  exact nk_eq (h y hy)
end DL
/-! DLi: small steps by data. -/
namespace DL
open PySem PySem.Spec PyProof.Rows L2

def D.isIntB : D → Bool
  | .int _ => true
  | .bl _ => true
  | _ => false
def D.isBl : D → Bool
  | .bl _ => true
  | _ => false
def D.isStr : D → Bool
  | .str _ => true
  | _ => false
def D.isLst : D → Bool
  | .lst _ => true
  | .slst _ => true
  | _ => false
def D.isTup : D → Bool
  | .tup _ => true
  | _ => false
def D.isNon : D → Bool
  | .non => true
  | _ => false
/-- data whose kind shows -/
def D.kind : D → Bool
  | .non | .bl _ | .int _ | .str _ | .lst _ | .slst _ | .tup _ => true
  | _ => false
theorem kind_of_py {x : D} (h : x.isPy = true) : x.kind = true := by cases x <;> first | rfl | (simp [D.isPy] at h)
section
variable {C : CS} {k : KD} {kb : Bool → CS → Prop} {x y : D} {i j : Int} {b : Bool} {xs ys : List D} {s t : Str} {a : Addr}
theorem isi_int (h : x.kind = true) (q : k (.bl x.isIntB) C) : dIsi [x, .opq (.ty "int")] C k := by
  cases x <;> first | exact ⟨_, _, _, true, rfl, rfl, by decide +kernel, q⟩ | exact ⟨_, _, _, false, rfl, rfl, by decide +kernel, q⟩ | (simp [D.kind] at h; done)
theorem isi_bool (h : x.kind = true) (q : k (.bl x.isBl) C) : dIsi [x, .opq (.ty "bool")] C k := by
  cases x <;> first | exact ⟨_, _, _, true, rfl, rfl, by decide +kernel, q⟩ | exact ⟨_, _, _, false, rfl, rfl, by decide +kernel, q⟩ | (simp [D.kind] at h; done)
theorem isi_str (h : x.kind = true) (q : k (.bl x.isStr) C) : dIsi [x, .opq (.ty "str")] C k := by
  cases x <;> first | exact ⟨_, _, _, true, rfl, rfl, by decide +kernel, q⟩ | exact ⟨_, _, _, false, rfl, rfl, by decide +kernel, q⟩ | (simp [D.kind] at h; done)
theorem isi_list (h : x.kind = true) (q : k (.bl x.isLst) C) : dIsi [x, .opq (.ty "list")] C k := by
  cases x <;> first | exact ⟨_, _, _, true, rfl, rfl, by decide +kernel, q⟩ | exact ⟨_, _, _, false, rfl, rfl, by decide +kernel, q⟩ | (simp [D.kind] at h; done)
theorem isi_tuple (h : x.kind = true) (q : k (.bl x.isTup) C) : dIsi [x, .opq (.ty "tuple")] C k := by
  cases x <;> first | exact ⟨_, _, _, true, rfl, rfl, by decide +kernel, q⟩ | exact ⟨_, _, _, false, rfl, rfl, by decide +kernel, q⟩ | (simp [D.kind] at h; done)
theorem isi_ownL (h : C a = some (.lst xs)) {U : String} (hb : kitB "list" U = some b) (q : k (.bl b) C) : dIsi [.own a, .opq (.ty U)] C k := ⟨_, _, _, _, rfl, by simp [tyN, h], hb, q⟩
theorem i2_ok {f : Int → Int → Int} {P : Int → Int → Prop} (h : P i j) (q : k (.int (f i j)) C) : dI2 f P (.int i) (.int j) C k := ⟨i, j, rfl, rfl, h, q⟩
theorem b2_ok {f : Int → Int → Bool} (q : k (.bl (f i j)) C) : dB2 f (.int i) (.int j) C k := ⟨i, j, rfl, rfl, q⟩
theorem add_ii (q : k (.int (i + j)) C) : dAdd (.int i) (.int j) C k := q
theorem add_ss (h : s.length + t.length ≤ sizeLine) (q : k (.str (s ++ t)) C) : dAdd (.str s) (.str t) C k := ⟨h, q⟩
theorem add_tt (h : xs.length + ys.length ≤ sizeLine) (q : k (.tup (xs ++ ys)) C) : dAdd (.tup xs) (.tup ys) C k := ⟨h, q⟩
theorem mul_ii (h : CMul i j) (q : k (.int (i * j)) C) : dMul (.int i) (.int j) C k := ⟨h, q⟩
theorem tb_ok (q : kb b C) : tb kb (.bl b) C := ⟨b, rfl, q⟩
theorem len_tup (q : k (.int (xs.length : Nat)) C) : dLen [.tup xs] C k := ⟨_, _, rfl, rfl, q⟩
theorem len_str (h : s.length ≤ sizeLine) (q : k (.int (s.length : Nat)) C) : dLen [.str s] C k := ⟨_, _, rfl, ⟨h, rfl⟩, q⟩
theorem len_fr (q : k (.int (xs.length : Nat)) C) : dLen [.lst xs] C k := ⟨_, _, rfl, ⟨xs, rfl, rfl⟩, q⟩
theorem len_sl (q : k (.int (xs.length : Nat)) C) : dLen [.slst xs] C k := ⟨_, _, rfl, ⟨xs, rfl, rfl⟩, q⟩
theorem len_own (h : C a = some (.lst xs)) (q : k (.int (xs.length : Nat)) C) : dLen [.own a] C k := ⟨_, _, rfl, ⟨xs, seqR_own h, rfl⟩, q⟩
theorem ix_t {d : D} (h : atI xs i = some d) (q : k d C) : dIx (.tup xs) (.int i) C k := ⟨d, h, q⟩
theorem ix_f {d : D} (h : atI xs i = some d) (q : k d C) : dIx (.lst xs) (.int i) C k := ⟨xs, d, rfl, h, q⟩
theorem ix_s {d : D} (h : atI xs i = some d) (q : k d C) : dIx (.slst xs) (.int i) C k := ⟨xs, d, rfl, h, q⟩
theorem ix_o {d : D} (hc : C a = some (.lst xs)) (h : atI xs i = some d) (q : k d C) : dIx (.own a) (.int i) C k := ⟨xs, d, seqR_own hc, h, q⟩
theorem ix_z {c : Nat} (hl : s.length ≤ sizeLine) (h : atI s.cps.toList i = some c) (q : k (.str ⟨#[c]⟩) C) : dIx (.str s) (.int i) C k := ⟨hl, c, h, q⟩
theorem sl_t {lo hi : Option Int} (q : k (.tup (cutD xs lo hi)) C) : dSl (.tup xs) lo hi C k := q
theorem sl_z {lo hi : Option Int} (hl : s.length ≤ sizeLine) (q : k (.str (cutS s lo hi)) C) : dSl (.str s) lo hi C k := ⟨hl, q⟩
theorem sl_f {lo hi : Option Int} (q : ∀ p, C p = none → k (.own p) (put C p (.lst (cutD xs lo hi)))) : dSl (.lst xs) lo hi C k := ⟨xs, rfl, q⟩
theorem sl_o {lo hi : Option Int} (hc : C a = some (.lst xs)) (q : ∀ p, C p = none → k (.own p) (put C p (.lst (cutD xs lo hi)))) : dSl (.own a) lo hi C k := ⟨xs, seqR_own hc, q⟩
theorem isn_k (h : x.kind = true) (q : k (.bl x.isNon) C) : dIsN false x .non C k := by
  refine ⟨rfl, ?_⟩
  cases x <;> first | exact q | (simp [D.kind] at h)
theorem nisn_k (h : x.kind = true) (q : k (.bl (!x.isNon)) C) : dIsN true x .non C k := by
  refine ⟨rfl, ?_⟩
  cases x <;> first | exact q | (simp [D.kind] at h)
theorem int1_ok {f : Int → Int} (q : k (.int (f i)) C) : dInt1 f [.int i] C k := ⟨i, rfl, q⟩
theorem int2_ok {f : Int → Int → Int} (q : k (.int (f i j)) C) : dInt2 f [.int i, .int j] C k := ⟨i, j, rfl, q⟩
theorem int_i (q : k (.int i) C) : dInt [.int i] C k := .inl ⟨i, rfl, q⟩
theorem int_b (q : k (.int (if b then 1 else 0)) C) : dInt [.bl b] C k := .inr ⟨b, rfl, q⟩
theorem ins_c {c : Nat} (q : k (.bl (decide (c ∈ s.cps.toList))) C) : dIn false (.str ⟨#[c]⟩) (.str s) C k := ⟨c, s, rfl, rfl, q⟩
theorem tup_t (q : k (.tup xs) C) : dTuple [.tup xs] C k := ⟨_, rfl, q⟩
theorem tup_f (q : k (.tup xs) C) : dTuple [.lst xs] C k := ⟨_, rfl, xs, rfl, q⟩
theorem tup_o (hc : C a = some (.lst xs)) (q : k (.tup xs) C) : dTuple [.own a] C k := ⟨_, rfl, xs, seqR_own hc, q⟩
/-- equality of data -/
def D.ok (x : D) : Bool := x.isPy && SeqAt.shaped x.py
theorem eq_ok (hx : x.ok = true) (hy : y.ok = true) (q : k (.bl (PyData.eqv x.py y.py)) C) : dEq false x y C k := by
  unfold D.ok at hx hy
  rw [Bool.and_eq_true] at hx hy
  refine .inl ⟨x.py, y.py, ?_, ?_, hx.2, hy.2, q⟩
  · cases x <;> first | (unfold pyC; simp only [hx.1]; rfl) | (simp [D.isPy] at hx)
  · cases y <;> first | (unfold pyC; simp only [hy.1]; rfl) | (simp [D.isPy] at hy)
theorem ne_ok (hx : x.ok = true) (hy : y.ok = true) (q : k (.bl (!PyData.eqv x.py y.py)) C) : dEq true x y C k := by
  unfold D.ok at hx hy
  rw [Bool.and_eq_true] at hx hy
  refine .inl ⟨x.py, y.py, ?_, ?_, hx.2, hy.2, q⟩
  · cases x <;> first | (unfold pyC; simp only [hx.1]; rfl) | (simp [D.isPy] at hx)
  · cases y <;> first | (unfold pyC; simp only [hy.1]; rfl) | (simp [D.isPy] at hy)
theorem eq_sS (q : k (.bl (s == t)) C) : dEq false (.str s) (.str t) C k := .inr ⟨s, t, rfl, rfl, q⟩
theorem ne_sS (q : k (.bl (!(s == t))) C) : dEq true (.str s) (.str t) C k := .inr ⟨s, t, rfl, rfl, q⟩
theorem eq_ii (q : k (.bl (i == j)) C) : dEq false (.int i) (.int j) C k := .inl ⟨.int i, .int j, rfl, rfl, rfl, rfl, by simpa [PyData.eqv] using q⟩
theorem ne_ii (q : k (.bl (!(i == j))) C) : dEq true (.int i) (.int j) C k := .inl ⟨.int i, .int j, rfl, rfl, rfl, rfl, by simpa [PyData.eqv] using q⟩
end
end DL
namespace DL
theorem and_T {A B : Prop} (a : A) : (true = true → A) ∧ (true = false → B) := ⟨fun _ => a, fun h => Bool.noConfusion h⟩
theorem and_F {A B : Prop} (b : B) : (false = true → A) ∧ (false = false → B) := ⟨fun h => Bool.noConfusion h, fun _ => b⟩
theorem and_S {b : Bool} {A B : Prop} (h1 : b = true → A) (h2 : b = false → B) : (b = true → A) ∧ (b = false → B) := ⟨h1, h2⟩
theorem ex_bl {b : Bool} {A : Bool → Prop} (h : A b) : ∃ t, D.bl b = D.bl t ∧ A t := ⟨b, rfl, h⟩
theorem ex_int {i : Int} {A : Int → Prop} (h : A i) : ∃ t, D.int i = D.int t ∧ A t := ⟨i, rfl, h⟩
end DL
/-! DLj: comprehensions by names. -/
namespace DL
open PySem PySem.Spec PyProof.Rows L2

/-- a def's context -/
structure Dfc (X : Cx) (N : List Str) (dsc : Scope) : Prop where
  n : X.N = N
  nd : X.N.Nodup
  sc : X.env.scope = dsc
  calm : X.calm = true
def LcB (X : Cx) (elt : Expr) (ifs : List Expr) (scope : Scope) (N M gs : List Str) (f : D → DEnv) (xs : List D) (Pc : CS → Prop) (C1 : CS) (k : KD) : Prop := ∃ Iv : Nat → List D → CS → Prop, Iv 0 [] C1 ∧ (∀ j acc C, Iv j acc C → Pc C) ∧
  (∀ j d acc C, xs[j]? = some d → Iv j acc C → ∀ X', Blk X scope X' → Nms X' N M → Gls X' gs → WIf X' ifs (f d) C fun t C3 => (t = true → ∀ X', Blk X scope X' → Nms X' N M → Gls X' gs → WE X' elt (f d) C3 fun y C4 => acc.length < sizeLine ∧ Iv (j + 1) (acc ++ [y]) C4) ∧ (t = false → Iv (j + 1) acc C3)) ∧
  (∀ acc C, Iv xs.length acc C → ∀ p, C p = none → k (.own p) (put C p (.lst acc)))
section
variable {X : Cx} {elt iter : Expr} {ifs : List Expr} {scope dsc : Scope} {env : DEnv} {C C1 : CS} {k : KD} {pos px : Pos} {E : DEnds} {N M gs : List Str} {x : Str} {f : D → DEnv} {xs : List D} {Pc : CS → Prop}
theorem blk_nms (D0 : Dfc X N dsc) (hv : visC (relS scope dsc) M = true) : ∀ X', Blk X scope X' → Nms X' N M := by
  rintro X' ⟨s, H, Ca, cl, fp, rfl⟩
  exact nms_of (sc := relS scope dsc) D0.n (by rw [← D0.sc]; rfl) D0.nd hv
theorem blk_gls (D0 : Dfc X N dsc) (hg : glC (relS scope dsc) gs = true) : ∀ X', Blk X scope X' → Gls X' gs := by
  rintro X' ⟨s, H, Ca, cl, fp, rfl⟩
  exact gls_of (sc := relS scope dsc) (by rw [← D0.sc]; rfl) hg
theorem lcB_I (D0 : Dfc X N dsc) (hP : Put N x env f) (hv : visC (relS scope dsc) M = true) (hg : glC (relS scope dsc) gs = true) (h : LcB X elt ifs scope N M gs f xs Pc C1 k) : ∃ i, N[i]? = some x ∧ LcI X elt ifs scope [i] (gName i) env xs Pc C1 k := by
  obtain ⟨i, h1, h2, h3⟩ := hP.set
  refine ⟨i, h1, ?_⟩
  obtain ⟨Iv, i0, hp, turn, done⟩ := h
  refine ⟨Iv, i0, hp, fun j d acc C hd hi => gw_name (List.mem_singleton.mpr rfl) ?_, done⟩
  rw [h3]
  exact fun X' hX => WIf.imp (turn j d acc C hd hi X' hX (blk_nms D0 hv X' hX) (blk_gls D0 hg X' hX)) fun t C3 z => ⟨fun ht X'' hX'' => z.1 ht X'' hX'' (blk_nms D0 hv X'' hX'') (blk_gls D0 hg X'' hX''), z.2⟩
theorem idxOf_of {α : Type} [BEq α] [LawfulBEq α] {l : List α} (nd : l.Nodup) {i : Nat} {x : α} (h : l[i]? = some x) : l.idxOf x = i := by
  obtain ⟨hi, rfl⟩ := List.getElem?_eq_some_iff.mp h
  exact nd.idxOf_getElem i hi
theorem lc_own (D0 : Dfc X N dsc) {i : Nat} (h1 : N[i]? = some x) (ok : blkC N dsc scope [(x, N.idxOf x)] = true) : BlkOk X.N X.env.scope scope [(x, i)] := by
  have nd : N.Nodup := by rw [← D0.n]; exact D0.nd
  rw [idxOf_of nd h1] at ok
  rw [D0.n, D0.sc]
  exact blkOk_by ok
theorem lc_pg (D0 : Dfc X N dsc) {i : Nat} (h1 : N[i]? = some x) (hx : onlyC (relS scope dsc) [x] = true) (s : Shared) (H : Hp) (Ca : Addr) (cl : List (Str × Addr)) (fp : List Addr) : PG (X.blk s H scope (compEnvC scope cl Ca X.env) fp) (.Name x px) (gName i) := by
  have e : (relS scope dsc).names.lookup x = some .local := by
    unfold onlyC at hx
    simp only [List.all_cons, List.all_nil, Bool.and_true] at hx
    exact nk_eq hx
  have e2 : (X.blk s H scope (compEnvC scope cl Ca X.env) fp).env.scope.names.lookup x = some .local := by
    have : (X.blk s H scope (compEnvC scope cl Ca X.env) fp).env.scope = relS scope dsc := by rw [← D0.sc]; rfl
    rw [this]; exact e
  exact pg_name D0.nd (by rw [show (X.blk s H scope (compEnvC scope cl Ca X.env) fp).N = N from D0.n]; exact h1) (.inl e2) (.inr e2)
theorem lc1 (M gs : List Str) (D0 : Dfc X N dsc) (hP : Put N x env f) (ok : blkC N dsc scope [(x, N.idxOf x)] = true) (hv : visC (relS scope dsc) M = true) (hg : glC (relS scope dsc) gs = true) (hx : onlyC (relS scope dsc) [x] = true)
    (h : WI X (.Name x px) iter env C fun xs Pc C1 => LcB X elt ifs scope N M gs f xs Pc C1 k) (hs : ∀ x, foldedSetIterable iter X.env x = pure x := by intro _; rfl) : WE X (.ListComp elt [⟨.Name x px, iter, ifs, 0⟩] scope pos) env C k := by
  obtain ⟨i, h1, _⟩ := hP.set
  have nd : N.Nodup := by rw [← D0.n]; exact D0.nd
  refine we_lc [(x, i)] D0.calm D0.nd (lc_own D0 h1 ok) (lc_pg D0 h1 hx) ?_ hs
  obtain ⟨wi, hi, hw⟩ := h
  refine ⟨wi, hi, fun G σ H R w er q => hw G σ H R w er fun J G' C' H' xs Pc f1 w1 it z => ?_⟩
  obtain ⟨j, h2, h3⟩ := lcB_I D0 hP hv hg z
  have : i = j := nodup_ix nd h1 h2
  subst this
  exact q J G' C' H' xs Pc f1 w1 it h3
/-- y = [..] -/
theorem ws_lc1 (M gs : List Str) {M0 : List Str} {y : Str} {py spos : Pos} {fy : D → DEnv} (D0 : Dfc X N dsc) (hy : Put N y env fy) (hyl : onlyC dsc [y] = true)
    (hP : Put N x env f) (ok : blkC N dsc scope [(x, N.idxOf x)] = true) (hv : visC (relS scope dsc) M = true) (hg : glC (relS scope dsc) gs = true) (hx : onlyC (relS scope dsc) [x] = true)
    (hsw : swapsWith (.ListComp elt [⟨.Name x px, iter, ifs, 0⟩] scope pos) (some (.Name y py)) spos.line X.env = pure true)
    (h : WI X (.Name x px) iter env C fun xs Pc C1 => LcB X elt ifs scope N M gs f xs Pc C1 fun d C2 => E.nx (fy d) C2) (hs : ∀ x, foldedSetIterable iter X.env x = pure x := by intro _; rfl) :
    WS X (.Assign [.Name y py] (.ListComp elt [⟨.Name x px, iter, ifs, 0⟩] scope pos) spos) env C E := by
  obtain ⟨i, h1, _⟩ := hP.set
  obtain ⟨iy, g1, g2, _⟩ := hy.set
  have nd : N.Nodup := by rw [← D0.n]; exact D0.nd
  have e : X.env.scope.names.lookup y = some .local := by
    unfold onlyC at hyl
    simp only [List.all_cons, List.all_nil, Bool.and_true] at hyl
    rw [D0.sc]; exact nk_eq hyl
  refine ws_setLc [(x, i)] (i := iy) D0.calm D0.nd (by rw [D0.n]; exact g1) e hsw (lc_own D0 h1 ok) (lc_pg D0 h1 hx) ?_ hs
  obtain ⟨wi, hi, hw⟩ := h
  refine ⟨wi, hi, fun G σ H R w er q => hw G σ H R w er fun J G' C' H' xs Pc f1 w1 it z => ?_⟩
  obtain ⟨j, h2, h3⟩ := lcB_I D0 hP hv hg z
  have : i = j := nodup_ix nd h1 h2
  subst this
  refine q J G' C' H' xs Pc f1 w1 it ?_
  show LcI X elt ifs scope [i] (gName i) env xs Pc C' fun d C2 => E.nx (env.set iy (some d)) C2
  rw [show (fun (d : D) (C2 : CS) => E.nx (env.set iy (some d)) C2) = fun d C2 => E.nx (fy d) C2 from by funext d C2; rw [g2]]
  exact h3
/-- each item gives a value, nothing changes -/
theorem LcB.map (g : D → D) (hP : Pc C1) (hl : xs.length ≤ sizeLine) (hx : ∀ d ∈ xs, ∀ X', Blk X scope X' → Nms X' N M → Gls X' gs → WE X' elt (f d) C1 fun y C' => y = g d ∧ C' = C1)
    (hk : ∀ p, C1 p = none → k (.own p) (put C1 p (.lst (xs.map g)))) : LcB X elt [] scope N M gs f xs Pc C1 k := by
  refine ⟨fun j acc C => C = C1 ∧ acc = (xs.take j).map g, ⟨rfl, rfl⟩, fun j acc C h => by rw [h.1]; exact hP, ?_, ?_⟩
  · rintro j d acc C hd ⟨rfl, rfl⟩ X' hX B G
    refine wif_nil ⟨fun _ X' hX B G => (hx d (List.mem_of_getElem? hd) X' hX B G).imp fun y C' z => ?_, fun h => Bool.noConfusion h⟩
    obtain ⟨rfl, rfl⟩ := z
    have hj : j < xs.length := (List.getElem?_eq_some_iff.mp hd).1
    refine ⟨by simp; omega, rfl, ?_⟩
    rw [List.take_add_one, hd, List.map_append]
    rfl
  · rintro acc C ⟨rfl, rfl⟩ p hp
    rw [List.take_length]
    exact hk p hp
/-- .. with a test -/
theorem LcB.filter {c : Expr} (t : D → Bool) (g : D → D) (hP : Pc C1) (hl : xs.length ≤ sizeLine) (ht : ∀ d ∈ xs, ∀ X', Blk X scope X' → Nms X' N M → Gls X' gs → WT X' c (f d) C1 fun b C' => b = t d ∧ C' = C1)
    (hx : ∀ d ∈ xs, t d = true → ∀ X', Blk X scope X' → Nms X' N M → Gls X' gs → WE X' elt (f d) C1 fun y C' => y = g d ∧ C' = C1)
    (hk : ∀ p, C1 p = none → k (.own p) (put C1 p (.lst ((xs.filter t).map g)))) : LcB X elt [c] scope N M gs f xs Pc C1 k := by
  refine ⟨fun j acc C => C = C1 ∧ acc = ((xs.take j).filter t).map g, ⟨rfl, rfl⟩, fun j acc C h => by rw [h.1]; exact hP, ?_, ?_⟩
  · rintro j d acc C hd ⟨rfl, rfl⟩ X' hX B G
    have hj : j < xs.length := (List.getElem?_eq_some_iff.mp hd).1
    refine wif_one ((ht d (List.mem_of_getElem? hd) X' hX B G).imp fun b C' z => ?_)
    obtain ⟨rfl, rfl⟩ := z
    refine ⟨fun hb X' hX B G => (hx d (List.mem_of_getElem? hd) hb X' hX B G).imp fun y C' z => ?_, fun hb => ⟨rfl, ?_⟩⟩
    · obtain ⟨rfl, rfl⟩ := z
      refine ⟨?_, rfl, ?_⟩
      · have h1 := List.length_filter_le t (xs.take j)
        rw [List.length_take] at h1
        rw [List.length_map]
        omega
      · rw [List.take_add_one, hd, List.filter_append, List.map_append]
        simp [hb]
    · rw [List.take_add_one, hd, List.filter_append]
      simp [hb]
  · rintro acc C ⟨rfl, rfl⟩ p hp
    rw [List.take_length]
    exact hk p hp
/-- frozen where it stands -/
def Frz (k : KD) : KD := fun d C1 => ∃ ds, seqL C1 d = some ds ∧ ((∃ a, d = .own a ∧ k (.lst ds) (del C1 a)) ∨ (d = .lst ds ∧ k (.lst ds) C1))
theorem we_fz {e : Expr} (h : WE X e env C (Frz k)) : WE X e env C k := we_frz h
theorem frz_ok {ds : List D} {p : Addr} (h : C p = none) (q : k (.lst ds) C) : Frz k (.own p) (put C p (.lst ds)) :=
  ⟨ds, seqL_own put_same, .inl ⟨p, rfl, by rw [del_put h]; exact q⟩⟩
theorem frz_lst {ds : List D} (q : k (.lst ds) C) : Frz k (.lst ds) C := ⟨ds, rfl, .inr ⟨rfl, q⟩⟩
end
end DL
/-! DLk: the context of a body as one fact; the rules over it; defs. -/
namespace DL
open PySem PySem.Spec PyProof.Rows L2

/-- a body runs: the module's facts, room for m calls -/
structure Ctx (P : Program) (w : World) (K : PySem.W.Frag) (mg : Str → Option Value) (base : Heap) (m : Nat) (X : Cx) : Prop where
  prog : X.prog = P
  w : X.w = w
  K : X.K = K
  mg : X.mg = mg
  base : X.base = base
  room : Room m X.A
  guards : X.A.guards = some []
  calm : X.calm = true
section
variable {P : Program} {w : World} {K : PySem.W.Frag} {mg : Str → Option Value} {base : Heap} {m n : Nat} {X X' : Cx} {scope : Scope} {x : Str} {S : DSp} {d : D}
theorem Ctx.blk (h : Ctx P w K mg base m X) (hX : Blk X scope X') : Ctx P w K mg base m X' := by
  obtain ⟨s, H, Ca, cl, fp, rfl⟩ := hX
  exact ⟨h.prog, h.w, h.K, h.mg, h.base, h.room, h.guards, h.calm⟩
theorem Ctx.zs (h : Ctx P w K mg base m X) (Z : Zs mg) : Zs X.mg := by rw [h.mg]; exact Z
theorem Ctx.fn (h : Ctx P w K mg base m X) (F : FnC P w K mg base x n S) : FnC X.prog X.w X.K X.mg X.base x n S := by rw [h.prog, h.w, h.K, h.mg, h.base]; exact F
/-- a constant of the module -/
def MgK (K : PySem.W.Frag) (mg : Str → Option Value) (x : Str) (d : D) : Prop := ∃ u v, mg x = some u ∧ RelV v u ∧ ∀ G, Dat K G v d
theorem Ctx.mgd (h : Ctx P w K mg base m X) (F : MgK K mg x d) : MgD X x d := by unfold MgD; rw [h.mg, h.K]; exact F
theorem mgk_int {i : Int} {t : Tok} (h : mg x = some (.int i t)) : MgK K mg x (.int i) := ⟨_, .int i, h, ⟨t, rfl⟩, fun _ => .int i⟩
theorem mgk_str {z : Str} {t : Tok} (h : mg x = some (.str z t)) : MgK K mg x (.str z) := ⟨_, .str z, h, ⟨t, rfl⟩, fun _ => .str z⟩
end
section
variable {P : Program} {w : World} {K : PySem.W.Frag} {mg : Str → Option Value} {base : Heap} {m n : Nat} {X : Cx} {e a b o : Expr} {es : List Expr} {env : DEnv} {C : CS} {k : KD} {pos p p1 p2 : Pos} {kb : Bool → CS → Prop} {E : DEnds}
theorem x_len (hx : Ctx P w K mg base m X) (Z : Zs mg) (hg : Gl X "len") (h : WA X (e :: es) env C fun ds C1 => dLen ds C1 k) (he : starEach (e :: es) X.env = (false, eval e X.env) :: starEach es X.env := by rfl) (hpl : (backTo pos (starEach es X.env)).any (·.1) = false := by rfl) : WE X (.Call (.Name "len" p) (e :: es) [] pos) env C k := we_len (hx.zs Z) hg h he hpl
theorem x_isi (hx : Ctx P w K mg base m X) (Z : Zs mg) (hg : Gl X "isinstance") (h : WA X (e :: es) env C fun ds C1 => dIsi ds C1 k) (he : starEach (e :: es) X.env = (false, eval e X.env) :: starEach es X.env := by rfl) (hpl : (backTo pos (starEach es X.env)).any (·.1) = false := by rfl) : WE X (.Call (.Name "isinstance" p) (e :: es) [] pos) env C k := we_isi (hx.zs Z) hg h he hpl
theorem x_abs (hx : Ctx P w K mg base m X) (Z : Zs mg) (hg : Gl X "abs") (h : WA X (e :: es) env C fun ds C1 => dInt1 (fun i => if i < 0 then -i else i) ds C1 k) (he : starEach (e :: es) X.env = (false, eval e X.env) :: starEach es X.env := by rfl) (hpl : (backTo pos (starEach es X.env)).any (·.1) = false := by rfl) : WE X (.Call (.Name "abs" p) (e :: es) [] pos) env C k := we_abs (hx.zs Z) hg h he hpl
theorem x_any (hx : Ctx P w K mg base m X) (Z : Zs mg) (hg : Gl X "any") (h : WA X (e :: es) env C fun ds C1 => dAny ds C1 k) (he : starEach (e :: es) X.env = (false, eval e X.env) :: starEach es X.env := by rfl) (hpl : (backTo pos (starEach es X.env)).any (·.1) = false := by rfl) : WE X (.Call (.Name "any" p) (e :: es) [] pos) env C k := we_any hx.calm (hx.zs Z) hg h he hpl
theorem x_all (hx : Ctx P w K mg base m X) (Z : Zs mg) (hg : Gl X "all") (h : WA X (e :: es) env C fun ds C1 => dAll ds C1 k) (he : starEach (e :: es) X.env = (false, eval e X.env) :: starEach es X.env := by rfl) (hpl : (backTo pos (starEach es X.env)).any (·.1) = false := by rfl) : WE X (.Call (.Name "all" p) (e :: es) [] pos) env C k := we_all hx.calm (hx.zs Z) hg h he hpl
theorem x_sum (hx : Ctx P w K mg base m X) (Z : Zs mg) (hg : Gl X "sum") (h : WA X (e :: es) env C fun ds C1 => dSum ds C1 k) (he : starEach (e :: es) X.env = (false, eval e X.env) :: starEach es X.env := by rfl) (hpl : (backTo pos (starEach es X.env)).any (·.1) = false := by rfl) : WE X (.Call (.Name "sum" p) (e :: es) [] pos) env C k := we_sum hx.calm (hx.zs Z) hg h he hpl
theorem x_intC (hx : Ctx P w K mg base m X) (Z : Zs mg) (hg : Gl X "int") (h : WA X (e :: es) env C fun ds C1 => dInt ds C1 k) (he : starEach (e :: es) X.env = (false, eval e X.env) :: starEach es X.env := by rfl) (hpl : (backTo pos (starEach es X.env)).any (·.1) = false := by rfl) : WE X (.Call (.Name "int" p) (e :: es) [] pos) env C k := we_intC (hx.zs Z) hg h he hpl
theorem x_strC (hx : Ctx P w K mg base m X) (Z : Zs mg) (hg : Gl X "str") (h : WA X (e :: es) env C fun ds C1 => dStrInt ds C1 k) (he : starEach (e :: es) X.env = (false, eval e X.env) :: starEach es X.env := by rfl) (hpl : (backTo pos (starEach es X.env)).any (·.1) = false := by rfl) : WE X (.Call (.Name "str" p) (e :: es) [] pos) env C k := we_strC (hx.zs Z) hg h he hpl
theorem x_tupleC (hx : Ctx P w K mg base m X) (Z : Zs mg) (hg : Gl X "tuple") (h : WA X (e :: es) env C fun ds C1 => dTuple ds C1 k) (he : starEach (e :: es) X.env = (false, eval e X.env) :: starEach es X.env := by rfl) (hpl : (backTo pos (starEach es X.env)).any (·.1) = false := by rfl) : WE X (.Call (.Name "tuple" p) (e :: es) [] pos) env C k := we_tupleC (hx.zs Z) hg h he hpl
theorem x_listC (hx : Ctx P w K mg base m X) (Z : Zs mg) (hg : Gl X "list") (h : WA X (e :: es) env C fun ds C1 => dList ds C1 k) (he : starEach (e :: es) X.env = (false, eval e X.env) :: starEach es X.env := by rfl) (hpl : (backTo pos (starEach es X.env)).any (·.1) = false := by rfl) : WE X (.Call (.Name "list" p) (e :: es) [] pos) env C k := we_listC (hx.zs Z) hg h he hpl
theorem x_max2 (hx : Ctx P w K mg base m X) (Z : Zs mg) (hg : Gl X "max") (h : WA X [a, b] env C fun ds C1 => dInt2 (fun i j => if j > i then j else i) ds C1 k) (he : starEach [a, b] X.env = (false, eval a X.env) :: starEach [b] X.env := by rfl) (hpl : (backTo pos (starEach [b] X.env)).any (·.1) = false := by rfl) : WE X (.Call (.Name "max" p) [a, b] [] pos) env C k := we_max2 hx.calm (hx.zs Z) hg h he hpl
theorem x_min2 (hx : Ctx P w K mg base m X) (Z : Zs mg) (hg : Gl X "min") (h : WA X [a, b] env C fun ds C1 => dInt2 (fun i j => if j < i then j else i) ds C1 k) (he : starEach [a, b] X.env = (false, eval a X.env) :: starEach [b] X.env := by rfl) (hpl : (backTo pos (starEach [b] X.env)).any (·.1) = false := by rfl) : WE X (.Call (.Name "min" p) [a, b] [] pos) env C k := we_min2 hx.calm (hx.zs Z) hg h he hpl
theorem x_minL (hx : Ctx P w K mg base m X) (Z : Zs mg) (hg : Gl X "min") (h : WA X [a] env C fun ds C1 => dMinL ds C1 k) (he : starEach [a] X.env = (false, eval a X.env) :: starEach [] X.env := by rfl) (hpl : (backTo pos (starEach [] X.env)).any (·.1) = false := by rfl) : WE X (.Call (.Name "min" p) [a] [] pos) env C k := we_minL hx.calm (hx.zs Z) hg h he hpl
theorem x_tyInt (hx : Ctx P w K mg base m X) (Z : Zs mg) (hg : Gl X "int") (h : k (.opq (.ty "int")) C) : WE X (.Name "int" pos) env C k := we_tyInt (hx.zs Z) hg h
theorem x_tyBool (hx : Ctx P w K mg base m X) (Z : Zs mg) (hg : Gl X "bool") (h : k (.opq (.ty "bool")) C) : WE X (.Name "bool" pos) env C k := we_tyBool (hx.zs Z) hg h
theorem x_tyStr (hx : Ctx P w K mg base m X) (Z : Zs mg) (hg : Gl X "str") (h : k (.opq (.ty "str")) C) : WE X (.Name "str" pos) env C k := we_tyStr (hx.zs Z) hg h
theorem x_tyList (hx : Ctx P w K mg base m X) (Z : Zs mg) (hg : Gl X "list") (h : k (.opq (.ty "list")) C) : WE X (.Name "list" pos) env C k := we_tyList (hx.zs Z) hg h
theorem x_tyTuple (hx : Ctx P w K mg base m X) (Z : Zs mg) (hg : Gl X "tuple") (h : k (.opq (.ty "tuple")) C) : WE X (.Name "tuple" pos) env C k := we_tyTuple (hx.zs Z) hg h
theorem x_eq (hx : Ctx P w K mg base m X) (h : WE X a env C fun x C1 => WE X b env C1 fun y C2 => dEq false x y C2 k) : WE X (.Compare a [.Eq] [b] pos) env C k := we_eq hx.room h
theorem xt_eq (hx : Ctx P w K mg base m X) (h : WE X a env C fun x C1 => WE X b env C1 fun y C2 => dEq false x y C2 (tb kb)) : WT X (.Compare a [.Eq] [b] pos) env C kb := wt_eq hx.room h
theorem x_ne (hx : Ctx P w K mg base m X) (h : WE X a env C fun x C1 => WE X b env C1 fun y C2 => dEq true x y C2 k) : WE X (.Compare a [.NotEq] [b] pos) env C k := we_ne hx.room h
theorem xt_ne (hx : Ctx P w K mg base m X) (h : WE X a env C fun x C1 => WE X b env C1 fun y C2 => dEq true x y C2 (tb kb)) : WT X (.Compare a [.NotEq] [b] pos) env C kb := wt_ne hx.room h
theorem x_in (hx : Ctx P w K mg base m X) (h : WE X a env C fun x C1 => WE X b env C1 fun y C2 => dIn false x y C2 k) (hm : behindInMarks .In b = false := by rfl) : WE X (.Compare a [.In] [b] pos) env C k := we_in hx.room h hm
theorem xt_in (hx : Ctx P w K mg base m X) (h : WE X a env C fun x C1 => WE X b env C1 fun y C2 => dIn false x y C2 (tb kb)) (hm : behindInMarks .In b = false := by rfl) : WT X (.Compare a [.In] [b] pos) env C kb := wt_in hx.room h hm
theorem x_nin (hx : Ctx P w K mg base m X) (h : WE X a env C fun x C1 => WE X b env C1 fun y C2 => dIn true x y C2 k) (hm : behindInMarks .NotIn b = false := by rfl) : WE X (.Compare a [.NotIn] [b] pos) env C k := we_nin hx.room h hm
theorem xt_nin (hx : Ctx P w K mg base m X) (h : WE X a env C fun x C1 => WE X b env C1 fun y C2 => dIn true x y C2 (tb kb)) (hm : behindInMarks .NotIn b = false := by rfl) : WT X (.Compare a [.NotIn] [b] pos) env C kb := wt_nin hx.room h hm
theorem x_call {x : Str} {S : DSp} (hx : Ctx P w K mg base m X) (h : FnC P w K mg base x n S) (hg : Gl X x) (ha : WA X (e :: es) env C fun ds C1 => S ds C1 k) (hle : n ≤ m := by decide)
    (hdb : (x == ("__debug__" : Str)) = false := by decide) (he : starEach (e :: es) X.env = (false, eval e X.env) :: starEach es X.env := by rfl) (hpl : (backTo pos (starEach es X.env)).any (·.1) = false := by rfl) : WE X (.Call (.Name x p) (e :: es) [] pos) env C k := we_call (hx.fn h) hx.guards hx.room hg ha hle hdb he hpl
theorem x_call0 {x : Str} {S : DSp} (hx : Ctx P w K mg base m X) (h : FnC P w K mg base x n S) (hg : Gl X x) (ha : S [] C k) (hle : n ≤ m := by decide)
    (hdb : (x == ("__debug__" : Str)) = false := by decide) : WE X (.Call (.Name x p) [] [] pos) env C k := we_call0 (hx.fn h) hx.guards hx.room hg ha hle hdb
theorem x_glob {x : Str} {d : D} (hx : Ctx P w K mg base m X) (hm : MgK K mg x d) (hg : Gl X x) (h : k d C) (hd : (x == ("__debug__" : Str)) = false := by decide) : WE X (.Name x pos) env C k := we_glob (hx.mgd hm) hg h hd

/-! walks -/
variable {tg iter : Expr} {body : List Stmt} {kI : KI}
theorem x_range1 (hx : Ctx P w K mg base m X) (Z : Zs mg) (hg : Gl X "range") (h : WA X [a] env C fun ds C1 => ∃ j : Int, ds = [.int j] ∧ -(2 ^ 62) ≤ j ∧ j < 2 ^ 62 ∧ kI (intsFrom 0 j.toNat) (fun _ => True) C1) (hs : starEach [a] X.env = [(false, eval a X.env)] := by rfl) :
    WI X tg (.Call (.Name "range" p) [a] [] pos) env C kI := wi_range1 (hx.zs Z).range hg h hs
theorem x_range2 (hx : Ctx P w K mg base m X) (Z : Zs mg) (hg : Gl X "range") (h : WA X [a, b] env C fun ds C1 => ∃ i j : Int, ds = [.int i, .int j] ∧ (-(2 ^ 62) ≤ i ∧ i < 2 ^ 62 ∧ -(2 ^ 62) ≤ j ∧ j < 2 ^ 62) ∧ kI (intsFrom i (j - i).toNat) (fun _ => True) C1)
    (hs : starEach [a, b] X.env = [(false, eval a X.env), (false, eval b X.env)] := by rfl) (hs2 : starEach [b] X.env = [(false, eval b X.env)] := by rfl) :
    WI X tg (.Call (.Name "range" p) [a, b] [] pos) env C kI := wi_range2 (hx.zs Z).range hg h hs hs2
/-- no exception leaves -/
structure Nox (X : Cx) : Prop where
  xe : X.xe = fun _ _ => False
theorem Nox.passes (h : Nox X) : PassesOwn (model X.prog X.w) X.A X.env X.xe := by rw [h.xe]; exact PassesOwn.never
theorem x_for (hx : Ctx P w K mg base m X) (hn : Nox X)
    (h : WI X tg iter env C fun xs Pc C1 => ∃ Iv : Nat → DEnv → CS → Prop, Iv 0 env C1 ∧ (∀ i env C, Iv i env C → Pc C) ∧
      (∀ i d env C, xs[i]? = some d → Iv i env C → WG X tg d env C fun env' C' => WSs X body env' C' { nx := Iv (i + 1), rt := E.rt, bk := E.nx, ct := Iv (i + 1) }) ∧ (∀ env C, Iv xs.length env C → E.nx env C))
    (hs : ∀ x, foldedSetIterable iter X.env x = pure x := by intro _; rfl) : WS X (.For tg iter body [] pos) env C E := ws_for hn.passes hx.calm h hs
theorem x_while {c : Expr} (hn : Nox X) (Iv : Nat → DEnv → CS → Prop) (h0 : ∃ m, Iv m env C)
    (h : ∀ m env C, Iv m env C → WT X c env C fun t C1 => (t = true → WSs X body env C1 { nx := fun env' C' => ∃ m', m' < m ∧ Iv m' env' C', rt := E.rt, bk := E.nx, ct := fun env' C' => ∃ m', m' < m ∧ Iv m' env' C' }) ∧ (t = false → E.nx env C1)) : WS X (.While c body [] pos) env C E := ws_while hn.passes Iv h0 h
end

/-! ### stores of two or three names at once -/
def envOf (sc : Scope) : Env := { scope := sc, locals := 0, globals := 0, cells := [], qual := "", func := none, code := .none, frame := none, builtins := 0 }
theorem sst_env {env : Env} {sc : Scope} (h : env.scope = sc) (ts : List Expr) (v : Expr) : swappedStores ts v env = swappedStores ts v (envOf sc) := by
  have e1 : env.blockKind = (envOf sc).blockKind := by unfold Env.blockKind; rw [h]; rfl
  have e2 : env.kindOf = (envOf sc).kindOf := by funext x; unfold Env.kindOf; rw [h]; rfl
  unfold swappedStores
  rw [e1, e2]
theorem sww_env {env : Env} {sc : Scope} (h : env.scope = sc) (v : Expr) (t : Option Expr) (l : Nat) : swapsWith v t l env = swapsWith v t l (envOf sc) := by
  have e1 : env.blockKind = (envOf sc).blockKind := by unfold Env.blockKind; rw [h]; rfl
  have e2 : env.kindOf = (envOf sc).kindOf := by funext x; unfold Env.kindOf; rw [h]; rfl
  have e3 : env.scope = (envOf sc).scope := h
  unfold swapsWith
  rw [e1, e2, e3]
end DL
/-! DLl: stores of several names; defs by an opaque context. -/
namespace DL
open PySem PySem.Spec PyProof.Rows L2

/-- a, b, c = x, y, z with plain local names: stored from the right -/
theorem ps_par3 {X : Cx} {pos : Pos} {i j l : Nat} {x y z : Str} {a b c : Expr} {ta : TA} {px py pz pt : Pos} {kt k2 pt2} (hc : X.calm = true) (hN : X.N.Nodup) (hi : X.N[i]? = some x) (hj : X.N[j]? = some y) (hl : X.N[l]? = some z)
    (hx : X.env.scope.names.lookup x = some .local) (hy : X.env.scope.names.lookup y = some .local) (hz : X.env.scope.names.lookup z = some .local) (ha : PA X [a, b, c] ta)
    (hw : swappedStores [.Tuple [.Name x px, .Name y py, .Name z pz] kt pt] (.Tuple [a, b, c] k2 pt2) X.env = pure (some [x, y, z]))
    (hs : swapsWithSole [.Tuple [.Name x px, .Name y py, .Name z pz] kt pt] (.Tuple [a, b, c] k2 pt2) pos.line X.env = pure false := by rfl) :
    PS X (.Assign [.Tuple [.Name x px, .Name y py, .Name z pz] kt pt] (.Tuple [a, b, c] k2 pt2) pos) (fun D σ H => ta σ H fun vs H1 => ∃ v w u, vs = [v, w, u] ∧ D.nx (((σ.set l (some u)).set j (some w)).set i (some v)) H1) := by
  refine ⟨fun pins s σ H D I h => ?_⟩
  rw [exec_Assign_arm]
  refine wpAny_bind (wpAny_standAt ?_)
  rw [hs]
  refine wpAny_bind (wpAny_pure ?_)
  rw [if_neg (by decide)]
  refine wpAny_bind (Tuple_ (L2.thn (ha.run _ pins s σ H _ I h) fun us s1 ⟨vs, H1, I1, r1, q1⟩ => ?_))
  obtain ⟨v, w, u, e1, q1⟩ := q1
  subst e1
  obtain ⟨u1, u2, u3, rfl, rv, rw', ru⟩ : ∃ u1 u2 u3, us = [u1, u2, u3] ∧ RelV v u1 ∧ RelV w u2 ∧ RelV u u3 := by
    cases r1 with
    | cons p q =>
      cases q with
      | cons p' q' =>
        cases q' with
        | cons p'' q'' =>
          cases q''
          exact ⟨_, _, _, rfl, p, p', p''⟩
  refine wpAny_newObj_type ?_ (by show 3 ≤ sizeLine; decide)
  have I2 : Inv X pins σ H1 { s1 with heap := s1.heap.push { cls := .type "tuple", data := .seq [u1, u2, u3].toArray } } := I1.kept (t' := s1.toks) fun b o e => Heap.get?_push_of_some _ e
  rw [hw]
  refine wpAny_bind (wpAny_pure ?_)
  show wpAny (model X.prog X.w) X.A (do rule "assign.swapped-stores"; let items ← unpackItems (.ref s1.heap.objs.size) 3 none; assignInOrder [fun v => bindName X.env z v, fun v => bindName X.env y v, fun v => bindName X.env x v] items.reverse; pure Flow.next) _ _ _
  refine wpAny_bind (wpAny_rule (wpAny_bind (unpackItems_tuple (items := #[u1, u2, u3]) (I.ok.hd hc) (IsTup.new s1.heap _) fun h' hx' => ?_)))
  have I3 := I2.kept (h' := h') (t' := s1.toks) fun b o e => hx' b o (Nat.ne_of_lt (Heap.lt_size e)) e
  show wpAny _ _ (assignInOrder [fun v => bindName X.env z v, fun v => bindName X.env y v, fun v => bindName X.env x v] [u3, u2, u1] >>= fun _ => pure Flow.next) _ _ _
  refine wpAny_bind (assignInOrder_cons (wpAny_bindName (store_ok I3 hN hl (.inl hz) ru (fun s2 I4 => ?_) (.inr hz))))
  refine assignInOrder_cons (wpAny_bindName (store_ok I4 hN hj (.inl hy) rw' (fun s3 I5 => ?_) (.inr hy)))
  refine assignInOrder_cons (wpAny_bindName (store_ok I5 hN hi (.inl hx) rv (fun s4 I6 => assignInOrder_nil (wpAny_pure ?_)) (.inr hx)))
  exact ⟨_, H1, I6, q1⟩

section
variable {X : Cx} {e a b c : Expr} {env : DEnv} {C : CS} {k : KD} {pos : Pos} {E : DEnds} {N : List Str} {dsc : Scope}
theorem only_loc {y : Str} (D0 : Dfc X N dsc) (h : onlyC dsc [y] = true) : X.env.scope.names.lookup y = some .local := by
  unfold onlyC at h
  simp only [List.all_cons, List.all_nil, Bool.and_true] at h
  rw [D0.sc]; exact nk_eq h
theorem x_par2 {x y : Str} {px py pt : Pos} {kt k2 : Nat} {pt2 : Pos} {f : D → DEnv} {g : D → D → DEnv} (D0 : Dfc X N dsc) (h1 : Put N y env f) (h2 : ∀ v, Put N x (f v) fun u => g u v) (hx : onlyC dsc [x] = true) (hy : onlyC dsc [y] = true) (hne : (x == y) = false)
    (hw : swappedStores [.Tuple [.Name x px, .Name y py] kt pt] (.Tuple [a, b] k2 pt2) (envOf dsc) = pure (some [x, y]))
    (h : WA X [a, b] env C fun ds C1 => ∃ u v, ds = [u, v] ∧ E.nx (g u v) C1)
    (hs : swapsWithSole [.Tuple [.Name x px, .Name y py] kt pt] (.Tuple [a, b] k2 pt2) pos.line X.env = pure false := by rfl) :
    WS X (.Assign [.Tuple [.Name x px, .Name y py] kt pt] (.Tuple [a, b] k2 pt2) pos) env C E := by
  obtain ⟨j, n1, s1, _⟩ := h1.set
  have ne : x ≠ y := fun e => by rw [e] at hne; simp at hne
  have hi : ∃ i : Nat, N[i]? = some x ∧ ∀ u v, (env.set j (some v)).set i (some u) = g u v := by
    obtain ⟨i, n2, _, _⟩ := (h2 .non).set
    refine ⟨i, n2, fun u v => ?_⟩
    obtain ⟨i', n3, s3, _⟩ := (h2 v).set
    have nd : N.Nodup := by rw [← D0.n]; exact D0.nd
    have : i = i' := nodup_ix nd n2 n3
    subst this
    rw [s1, s3]
  obtain ⟨i, n2, s2⟩ := hi
  have hij : i ≠ j := fun e => ne (by rw [e, n1] at n2; exact (Option.some.inj n2).symm)
  refine ws_par (i := i) (j := j) D0.calm D0.nd (by rw [D0.n]; exact n2) (by rw [D0.n]; exact n1) hij (only_loc D0 hx) (only_loc D0 hy) (h.imp fun ds C' z => ?_) (by rw [sst_env D0.sc]; exact hw) hs
  obtain ⟨u, v, e1, z⟩ := z
  exact ⟨u, v, e1, by rw [List.set_comm _ _ hij, s2]; exact z⟩
theorem x_par3 {x y z : Str} {px py pz pt : Pos} {kt k2 : Nat} {pt2 : Pos} {f : D → DEnv} {g : D → D → DEnv} {g3 : D → D → D → DEnv} (D0 : Dfc X N dsc) (h1 : Put N z env f) (h2 : ∀ v, Put N y (f v) fun u => g u v) (h3 : ∀ u v, Put N x (g u v) fun t => g3 t u v)
    (hx : onlyC dsc [x] = true) (hy : onlyC dsc [y] = true) (hz : onlyC dsc [z] = true)
    (hw : swappedStores [.Tuple [.Name x px, .Name y py, .Name z pz] kt pt] (.Tuple [a, b, c] k2 pt2) (envOf dsc) = pure (some [x, y, z]))
    (h : WA X [a, b, c] env C fun ds C1 => ∃ t u v, ds = [t, u, v] ∧ E.nx (g3 t u v) C1)
    (hs : swapsWithSole [.Tuple [.Name x px, .Name y py, .Name z pz] kt pt] (.Tuple [a, b, c] k2 pt2) pos.line X.env = pure false := by rfl) :
    WS X (.Assign [.Tuple [.Name x px, .Name y py, .Name z pz] kt pt] (.Tuple [a, b, c] k2 pt2) pos) env C E := by
  have nd : N.Nodup := by rw [← D0.n]; exact D0.nd
  obtain ⟨l, n1, s1, _⟩ := h1.set
  obtain ⟨j, n2, _, _⟩ := (h2 .non).set
  obtain ⟨i, n3, _, _⟩ := (h3 .non .non).set
  have all : ∀ t u v, ((env.set l (some v)).set j (some u)).set i (some t) = g3 t u v := fun t u v => by
    obtain ⟨j', m2, r2, _⟩ := (h2 v).set
    obtain ⟨i', m3, r3, _⟩ := (h3 u v).set
    have e1 : j = j' := nodup_ix nd n2 m2
    have e2 : i = i' := nodup_ix nd n3 m3
    subst e1; subst e2
    rw [s1, r2, r3]
  refine .of (ps_par3 (i := i) (j := j) (l := l) D0.calm D0.nd (by rw [D0.n]; exact n3) (by rw [D0.n]; exact n2) (by rw [D0.n]; exact n1) (only_loc D0 hx) (only_loc D0 hy) (only_loc D0 hz) pa_tAr (by rw [sst_env D0.sc]; exact hw) hs) fun G σ H D w er q => h G σ H _ w er fun vs G1 C1 H1 ds f1 w1 r1 zz => ?_
  obtain ⟨t, u, v, rfl, zz⟩ := zz
  cases r1 with
  | @cons t' _ _ _ r1 r2 =>
    cases r2 with
    | @cons u' _ _ _ r2 r3 =>
      cases r3 with
      | @cons v' _ _ _ r3 r4 =>
        cases r4
        exact ⟨t', u', v', rfl, q.nx G1 C1 H1 _ _ f1 w1 ((((er.mono f1.exG).set l r3).set j r2).set i r1) (by rw [all]; exact zz)⟩
end

/-! ### defs by an opaque context -/
section
variable {P : Program} {w : World} {K : PySem.W.Frag} {mg : Str → Option Value} {base : Heap}
structure Bdy (P : Program) (w : World) (K : PySem.W.Frag) (mg : Str → Option Value) (base : Heap) (n : Nat) (N M Ds : List Str) (dsc : Scope) (X : Cx) : Prop where
  x : Ctx P w K mg base n X
  b : Nms X N M
  s : Sts X N M
  g : Gls X Ds
  d : Dfc X N dsc
  nox : Nox X
theorem fnX {x qual : Str} {st : Stmt} {f : Addr} {fd : FuncData} {N M Ds ps : List Str} {n : Nat} {S : DSp} (F : Fun K x qual st f fd) (sc : FnScope N ps (defScope st)) (hv : visC (defScope st) M = true) (hlc : locC (defScope st) M = true) (hg : glC (defScope st) Ds = true)
    (hl : ∀ ds C k, S ds C k → ds.length = ps.length)
    (hb : ∀ (X : Cx), Bdy P w K mg base n N M Ds (defScope st) X → ∀ (ds : List D) (C : CS) (k : KD), S ds C k → WSs X (defBody st) (startD N ds) C { nx := fun _ C' => k .non C', rt := k }) : FnG P w K mg base CX0 (n + 1) f fd ps (toSp K S) :=
  fnD F sc hl fun cdv A outer s H E ds C k hgd hr h => hb _ ⟨⟨rfl, rfl, rfl, rfl, rfl, hr, hgd, rfl⟩, nms_of rfl (sc := defScope st) rfl sc.nd hv, sts_of rfl (sc := defScope st) rfl sc.nd hlc (fun _ => rfl), gls_of (sc := defScope st) rfl hg, ⟨rfl, sc.nd, rfl, rfl⟩, ⟨rfl⟩⟩ ds C k h
end
end DL
namespace DL
open PySem L2
theorem wo_n {X : Cx} {env : DEnv} {C : CS} {k : Option Int → CS → Prop} (h : k none C) : WO X none env C k := h
theorem wo_s {X : Cx} {e : Expr} {env : DEnv} {C : CS} {k : Option Int → CS → Prop} (h : WE X e env C fun d C1 => ∃ i, d = .int i ∧ k (some i) C1) : WO X (some e) env C k := h
theorem ex_2 {a b : D} {A : D → D → Prop} (h : A a b) : ∃ u v, [a, b] = [u, v] ∧ A u v := ⟨a, b, rfl, h⟩
theorem ex_3 {a b c : D} {A : D → D → D → Prop} (h : A a b c) : ∃ t u v, [a, b, c] = [t, u, v] ∧ A t u v := ⟨a, b, c, rfl, h⟩
end DL
/-! DLm: a test that stores; data that is fit for ==. -/
namespace DL
open PySem PySem.Spec PyProof.Rows L2
section
variable {X : Cx} {e a b c : Expr} {env : DEnv} {C : CS} {k : KD} {pos p1 p2 py pc : Pos} {E : DEnds} {N M : List Str} {s1 s2 : List Stmt}
/-- if (y := e) op b: .. -/
theorem x_ifW {y : Str} {op : CmpOp} {r : R2} {p : OpD} {f : D → DEnv} (B : Sts X N M) (hm' : Mem y M) (hP : Put N y env f) (ho : OpR X (compareOp op) r) (hr : R2D X.K r p)
    (h : WE X e env C fun d C1 => WE X b (f d) C1 fun z C2 => p d z C2 fun t' C3 => ∃ t, t' = .bl t ∧ (t = true → WSs X s1 (f d) C3 E) ∧ (t = false → WSs X s2 (f d) C3 E)) (hm : behindInMarks op b = false) :
    WS X (.If (.Compare (.NamedExpr (.Name y py) e p1) [op] [b] pc) s1 s2 pos) env C E := by
  obtain ⟨i, h1, h2, _⟩ := hP.set
  refine .of (ps_ifW (ptw_cmp ho (pew_named (i := i) B.nd (by rw [B.n]; exact h1) (B.loc y hm'.mem) (pew_of pe_tS) (B.fn y hm'.mem)) pe_tS hm) pss_tXs pss_tXs) fun G σ H D w er q => ?_
  refine h G σ H _ w er fun v G1 C1 H1 d f1 w1 r1 z => ?_
  have er1 : EnvR X.K G1 (f d) (σ.set i (some v)) := by rw [← h2]; exact (er.mono f1.exG).set i r1
  refine z G1 _ H1 _ w1 er1 fun u G2 C2 H2 y2 f2 w2 r2 z2 => ?_
  refine hr v u d y2 G2 C2 H2 _ _ w2 (r1.mono f2.exG) r2 z2 fun t' G3 C3 H3 d3 f3 w3 r3 z3 => ?_
  obtain ⟨t, rfl, z3⟩ := z3
  cases r3
  have F := (f1.trans f2).trans f3
  refine ⟨t, rfl, ?_⟩
  cases t with
  | true => exact iteT (z3.1 rfl G3 _ H3 D w3 (er1.mono (f2.trans f3).exG) (q.after F))
  | false => exact iteF (z3.2 rfl G3 _ H3 D w3 (er1.mono (f2.trans f3).exG) (q.after F))
theorem x_ifWge {y : Str} {f : D → DEnv} (B : Sts X N M) (hm' : Mem y M) (hP : Put N y env f)
    (h : WE X e env C fun d C1 => WE X b (f d) C1 fun z C2 => dB2 (fun i j => decide (j ≤ i)) d z C2 fun t' C3 => ∃ t, t' = .bl t ∧ (t = true → WSs X s1 (f d) C3 E) ∧ (t = false → WSs X s2 (f d) C3 E)) :
    WS X (.If (.Compare (.NamedExpr (.Name y py) e p1) [.GtE] [b] pc) s1 s2 pos) env C E := x_ifW B hm' hP op_ge r2_B h (nomark _)
end

/-! ### data fit for == -/
mutual
/-- built of what == compares, at most so deep -/
def D.fit : Nat → D → Bool
  | _, .non | _, .bl _ | _, .int _ => true
  | _, .str x => PyData.strOk x
  | 0, .lst _ | 0, .slst _ | 0, .tup _ => false
  | n + 1, .lst xs => fitL n xs
  | n + 1, .slst xs => fitL n xs
  | n + 1, .tup xs => fitL n xs
  | _, _ => false
def fitL : Nat → List D → Bool
  | _, [] => true
  | n, d :: ds => d.fit n && fitL n ds
end
theorem fitL_all {n : Nat} : ∀ {ds : List D}, fitL n ds = true ↔ ∀ d ∈ ds, d.fit n = true
  | [] => by simp [fitL]
  | d :: ds => by simp [fitL, fitL_all (ds := ds)]
mutual
theorem fit_py : ∀ (d : D) {n : Nat}, d.fit n = true → d.isPy = true
  | .non, _, _ | .bl _, _, _ | .int _, _, _ | .str _, _, _ => rfl
  | .lst xs, 0, h | .slst xs, 0, h | .tup xs, 0, h => by simp [D.fit] at h
  | .lst xs, n + 1, h => by unfold D.isPy; exact fitL_py xs (n := n) (by simpa [D.fit] using h)
  | .slst xs, n + 1, h => by unfold D.isPy; exact fitL_py xs (n := n) (by simpa [D.fit] using h)
  | .tup xs, n + 1, h => by unfold D.isPy; exact fitL_py xs (n := n) (by simpa [D.fit] using h)
  | .obj _ _ _, n, h => by cases n <;> simp [D.fit] at h
  | .own _, n, h => by cases n <;> simp [D.fit] at h
  | .opq _, n, h => by cases n <;> simp [D.fit] at h
theorem fitL_py : ∀ (ds : List D) {n : Nat}, fitL n ds = true → allPy ds = true
  | [], _, _ => rfl
  | d :: ds, n, h => by
    simp only [fitL, Bool.and_eq_true] at h
    simp only [allPy, Bool.and_eq_true]
    exact ⟨fit_py d h.1, fitL_py ds h.2⟩
end
mutual
theorem fit_lay : ∀ (d : D) {n : Nat}, d.fit n = true → d.py.canLay0 = true
  | .non, _, _ | .bl _, _, _ | .int _, _, _ => rfl
  | .str x, n, h => by cases n <;> exact h
  | .lst xs, 0, h | .slst xs, 0, h | .tup xs, 0, h => by simp [D.fit] at h
  | .lst xs, n + 1, h => by simp only [D.py, PyData.canLay0]; exact fitL_lay xs (n := n) (by simpa [D.fit] using h)
  | .slst xs, n + 1, h => by simp only [D.py, PyData.canLay0]; exact fitL_lay xs (n := n) (by simpa [D.fit] using h)
  | .tup xs, n + 1, h => by simp only [D.py, PyData.canLay0]; exact fitL_lay xs (n := n) (by simpa [D.fit] using h)
  | .obj _ _ _, n, h => by cases n <;> simp [D.fit] at h
  | .own _, n, h => by cases n <;> simp [D.fit] at h
  | .opq _, n, h => by cases n <;> simp [D.fit] at h
theorem fitL_lay : ∀ (ds : List D) {n : Nat}, fitL n ds = true → PyData.canLayAll0 (pyL ds) = true
  | [], _, _ => rfl
  | d :: ds, n, h => by
    simp only [fitL, Bool.and_eq_true] at h
    simp only [pyL, PyData.canLayAll0, Bool.and_eq_true]
    exact ⟨fit_lay d h.1, fitL_lay ds h.2⟩
end
mutual
theorem fit_depth : ∀ (d : D) {n : Nat}, d.fit n = true → d.py.depth ≤ n
  | .non, _, _ | .bl _, _, _ | .int _, _, _ | .str _, _, _ => Nat.zero_le _
  | .lst xs, 0, h | .slst xs, 0, h | .tup xs, 0, h => by simp [D.fit] at h
  | .lst xs, n + 1, h => Nat.succ_le_succ (fitL_depth xs (n := n) (by simpa [D.fit] using h))
  | .slst xs, n + 1, h => Nat.succ_le_succ (fitL_depth xs (n := n) (by simpa [D.fit] using h))
  | .tup xs, n + 1, h => Nat.succ_le_succ (fitL_depth xs (n := n) (by simpa [D.fit] using h))
  | .obj _ _ _, n, h => by cases n <;> simp [D.fit] at h
  | .own _, n, h => by cases n <;> simp [D.fit] at h
  | .opq _, n, h => by cases n <;> simp [D.fit] at h
theorem fitL_depth : ∀ (ds : List D) {n : Nat}, fitL n ds = true → PyData.depthAll (pyL ds) ≤ n
  | [], _, _ => Nat.zero_le _
  | d :: ds, n, h => by
    simp only [fitL, Bool.and_eq_true] at h
    exact Nat.max_le.mpr ⟨fit_depth d h.1, fitL_depth ds h.2⟩
end
theorem fit_ok {d : D} {n : Nat} (h : d.fit n = true) (hn : n ≤ 64 := by decide) : d.ok = true := by
  unfold D.ok SeqAt.shaped
  simp only [Bool.and_eq_true, decide_eq_true_eq]
  exact ⟨fit_py d h, fit_lay d h, Nat.le_trans (fit_depth d h) hn⟩
mutual
theorem fit_mono : ∀ (d : D) {n m : Nat}, d.fit n = true → n ≤ m → d.fit m = true
  | .non, _, _, _, _ | .bl _, _, _, _, _ | .int _, _, _, _, _ => by simp [D.fit]
  | .str x, n, m, h, _ => by
    have : PyData.strOk x = true := by cases n <;> exact h
    cases m <;> exact this
  | .lst xs, 0, _, h, _ | .slst xs, 0, _, h, _ | .tup xs, 0, _, h, _ => by simp [D.fit] at h
  | .lst xs, n + 1, 0, h, l | .slst xs, n + 1, 0, h, l | .tup xs, n + 1, 0, h, l => absurd l (by omega)
  | .lst xs, n + 1, m + 1, h, l => by simp only [D.fit] at h ⊢; exact fitL_mono xs h (by omega)
  | .slst xs, n + 1, m + 1, h, l => by simp only [D.fit] at h ⊢; exact fitL_mono xs h (by omega)
  | .tup xs, n + 1, m + 1, h, l => by simp only [D.fit] at h ⊢; exact fitL_mono xs h (by omega)
  | .obj _ _ _, n, _, h, _ => by cases n <;> simp [D.fit] at h
  | .own _, n, _, h, _ => by cases n <;> simp [D.fit] at h
  | .opq _, n, _, h, _ => by cases n <;> simp [D.fit] at h
theorem fitL_mono : ∀ (ds : List D) {n m : Nat}, fitL n ds = true → n ≤ m → fitL m ds = true
  | [], _, _, _, _ => rfl
  | d :: ds, n, m, h, l => by
    simp only [fitL, Bool.and_eq_true] at h ⊢
    exact ⟨fit_mono d h.1 l, fitL_mono ds h.2 l⟩
end
/-- == of frozen data, of a list's cell -/
def dataOf (C : CS) : D → D
  | .own a => match C a with
    | some (.lst ds) => .lst ds
    | _ => .own a
  | d => d
theorem eq_fit {C : CS} {k : KD} {x y : D} {n m : Nat} (hx : x.fit n = true) (hy : y.fit m = true) (q : k (.bl (PyData.eqv x.py y.py)) C) (hn : n ≤ 64 := by decide) (hm : m ≤ 64 := by decide) : dEq false x y C k := eq_ok (fit_ok hx hn) (fit_ok hy hm) q
theorem ne_fit {C : CS} {k : KD} {x y : D} {n m : Nat} (hx : x.fit n = true) (hy : y.fit m = true) (q : k (.bl (!PyData.eqv x.py y.py)) C) (hn : n ≤ 64 := by decide) (hm : m ≤ 64 := by decide) : dEq true x y C k := ne_ok (fit_ok hx hn) (fit_ok hy hm) q
end DL
namespace DL
open PySem L2
theorem wt_bo {X : Cx} {op : PySem.BoolOp} {es : List Expr} {env : DEnv} {C : CS} {kb : Bool → CS → Prop} {pos : Pos} (h : WW X (.BoolOp op es pos) env C kb) : WT X (.BoolOp op es pos) env C kb := wt_ww h
end DL
namespace DL
open PySem L2
theorem isTup_eq {x : D} (h : x.isTup = true) : ∃ xs, x = .tup xs := by cases x <;> first | exact ⟨_, rfl⟩ | (simp [D.isTup] at h; done)
theorem isStr_eq {x : D} (h : x.isStr = true) : ∃ s, x = .str s := by cases x <;> first | exact ⟨_, rfl⟩ | (simp [D.isStr] at h; done)
theorem two_of {α : Type} {xs : List α} (h : xs.length = 2) : ∃ a b, xs = [a, b] := by
  match xs, h with
  | [a, b], _ => exact ⟨a, b, rfl⟩
theorem fit_tup {xs : List D} {n : Nat} (h : (D.tup xs).fit n = true) : ∃ m, n = m + 1 ∧ ∀ d ∈ xs, d.fit m = true := by
  cases n with
  | zero => simp [D.fit] at h
  | succ m => exact ⟨m, rfl, fitL_all.mp (by simpa [D.fit] using h)⟩
theorem fit_lst {xs : List D} {n : Nat} (h : (D.lst xs).fit n = true) : ∃ m, n = m + 1 ∧ ∀ d ∈ xs, d.fit m = true := by
  cases n with
  | zero => simp [D.fit] at h
  | succ m => exact ⟨m, rfl, fitL_all.mp (by simpa [D.fit] using h)⟩
theorem len_ne2 {n : Nat} (h : (!((n : Int) == 2)) = false) : n = 2 := by
  have : ((n : Int) == 2) = true := by simpa using h
  have := beq_iff_eq.mp this
  omega
end DL
namespace DL
open PySem L2
theorem sIx_nat' (n d k : Nat) : HT.sIx n d (some (k : Int)) = min k n := HT.sIx_nat n d k
theorem cut_nat (xs : List D) (a b : Nat) : cutD xs (some (a : Int)) (some (b : Int)) = (xs.drop a).take (b - a) := by
  unfold cutD
  rw [sIx_nat', sIx_nat']
  by_cases h : a ≤ xs.length
  · rw [Nat.min_eq_left h]
    by_cases h2 : b ≤ xs.length
    · rw [Nat.min_eq_left h2]
    · have h3 : b > xs.length := by omega
      have e1 : (xs.drop a).take (xs.length - a) = xs.drop a := List.take_of_length_le (by simp)
      have e2 : (xs.drop a).take (b - a) = xs.drop a := List.take_of_length_le (by rw [List.length_drop]; omega)
      rw [Nat.min_eq_right (Nat.le_of_lt h3), e1, e2]
  · have h3 : xs.length ≤ a := by omega
    rw [Nat.min_eq_right h3, List.drop_of_length_le (Nat.le_refl _), List.drop_of_length_le h3]
    simp
def eqL (xs ys : List D) : Bool := PyData.eqvAll (pyL xs) (pyL ys)
theorem pyL_length : ∀ xs : List D, (pyL xs).length = xs.length
  | [] => rfl
  | _ :: xs => by simp [pyL, pyL_length xs]
theorem eqvAll_length : ∀ (xs ys : List PyData), PyData.eqvAll xs ys = true → xs.length = ys.length
  | [], [], _ => rfl
  | x :: xs, y :: ys, h => by
    simp only [PyData.eqvAll, Bool.and_eq_true] at h
    simp [eqvAll_length xs ys h.2]
  | [], _ :: _, h => by simp [PyData.eqvAll] at h
  | _ :: _, [], h => by simp [PyData.eqvAll] at h
theorem eqL_length {xs ys : List D} (h : eqL xs ys = true) : xs.length = ys.length := by
  have := eqvAll_length _ _ h
  rwa [pyL_length, pyL_length] at this
theorem fit_cut {xs : List D} {n : Nat} {lo hi : Option Int} (h : ∀ d ∈ xs, d.fit n = true) : (D.tup (cutD xs lo hi)).fit (n + 1) = true := by
  simp only [D.fit]
  exact fitL_all.mpr fun d hd => h d (List.mem_of_mem_drop (List.mem_of_mem_take hd))
theorem fit_cutL {xs : List D} {n : Nat} {lo hi : Option Int} (h : ∀ d ∈ xs, d.fit n = true) : (D.lst (cutD xs lo hi)).fit (n + 1) = true := by
  simp only [D.fit]
  exact fitL_all.mpr fun d hd => h d (List.mem_of_mem_drop (List.mem_of_mem_take hd))
theorem fit_tupI {xs : List D} {n : Nat} (h : ∀ d ∈ xs, d.fit n = true) : (D.tup xs).fit (n + 1) = true := by simp only [D.fit]; exact fitL_all.mpr h
theorem fit_lstI {xs : List D} {n : Nat} (h : ∀ d ∈ xs, d.fit n = true) : (D.lst xs).fit (n + 1) = true := by simp only [D.fit]; exact fitL_all.mpr h
end DL
namespace DL
open PySem L2
theorem any_map {C : CS} {k : KD} {xs : List D} {f : D → Bool} (q : k (.bl (xs.any f)) C) : dAny [.lst (xs.map fun d => .bl (f d))] C k :=
  ⟨_, xs.map f, rfl, by simp only [seqR, List.map_map]; rfl, by rw [List.any_map]; exact q⟩
theorem all_map {C : CS} {k : KD} {xs : List D} {f : D → Bool} (q : k (.bl (xs.all f)) C) : dAll [.lst (xs.map fun d => .bl (f d))] C k :=
  ⟨_, xs.map f, rfl, by simp only [seqR, List.map_map]; rfl, by rw [List.all_map]; exact q⟩
end DL
namespace DL
open PySem L2
theorem sz_ok {n : Nat} {B : Prop} (h : Nat.ble n 1000 = true) (q : B) : n ≤ sizeLine ∧ B := ⟨Nat.le_trans (Nat.le_of_ble_eq_true h) (by decide), q⟩
theorem sz_as {n : Nat} {B : Prop} (h : n ≤ sizeLine) (q : B) : n ≤ sizeLine ∧ B := ⟨h, q⟩
theorem dec_t {p : Prop} [Decidable p] (h : decide p = true) : p := of_decide_eq_true h
theorem dec_f {p : Prop} [Decidable p] (h : decide p = false) : ¬ p := of_decide_eq_false h
end DL
namespace DL
open PySem PySem.Spec PyProof.Rows L2
section
variable {X : Cx} {e a b o : Expr} {es : List Expr} {env : DEnv} {C : CS} {k : KD} {pos apos cpos : Pos} {kb : Bool → CS → Prop}
theorem we_nil (h : ∀ p, C p = none → k (.own p) (put C p (.lst []))) : WE X (.List [] pos) env C k := we_lst (wa_nil ⟨Nat.zero_le _, h⟩)
abbrev H1 (X : Cx) (o e : Expr) (name : Str) (apos cpos : Pos) : Prop := attributeBase o name X.env (eval o X.env) = eval o X.env
theorem x_append (h : WE X o env C fun x C1 => tyD "list" C1 x ∧ WE X e env C1 fun y C2 => dAppend x [y] C2 k)
    (hbase : attributeBase o "append" X.env (eval o X.env) = eval o X.env := by rfl)
    (hfew : ((backTo cpos (starEach (e :: []) X.env)).all (fun x => !x.1) && (backToKw cpos (keywordEach [] X.env)).all (fun x => x.1.isSome)
      && decide ((e :: []).length + ([] : List Keyword).length + (if ([] : List Keyword).isEmpty then 0 else 1) < 30)) = true := by rfl)
    (hline : (apos.endLine == cpos.line) = true := by rfl) (hs : starEach (e :: []) X.env = (false, eval e X.env) :: starEach [] X.env := by rfl) (hplain : (backTo cpos (starEach [] X.env)).any (·.1) = false := by rfl) :
    WE X (.Call (.Attribute o "append" apos) [e] [] cpos) env C k :=
  we_bm PySem.F.plainAttrs_list PySem.F.slot_list_append PySem.F.type_list_append mt_append rm_append (h.imp fun x C1 z => ⟨z.1, wa_cons (z.2.imp fun y C2 q => wa_nil q) hs⟩) hbase hfew hline hs hplain
theorem app_ok {p : Addr} {xs : List D} {y : D} (hc : C p = some (.lst xs)) (hl : xs.length < sizeLine) (q : k .non (put C p (.lst (xs ++ [y])))) : dAppend (.own p) [y] C k := ⟨p, xs, y, rfl, rfl, hc, hl, q⟩
theorem app_put {p : Addr} {xs : List D} {y : D} (hl : xs.length < sizeLine) (q : k .non (put C p (.lst (xs ++ [y])))) : dAppend (.own p) [y] (put C p (.lst xs)) k := ⟨p, xs, y, rfl, rfl, put_same, hl, by rw [put_put]; exact q⟩
theorem ty_own {p : Addr} {xs : List D} {B : Prop} (hc : C p = some (.lst xs)) (q : B) : tyD "list" C (.own p) ∧ B := ⟨.inl ⟨rfl, xs, hc⟩, q⟩
theorem ty_put {p : Addr} {xs : List D} {B : Prop} (q : B) : tyD "list" (put C p (.lst xs)) (.own p) ∧ B := ⟨.inl ⟨rfl, xs, put_same⟩, q⟩
theorem tuple_A {x : D} {rs : List D} (h : seqA C x = some rs) (q : k (.tup rs) C) : dTuple [x] C k := by
  refine ⟨x, rfl, ?_⟩
  cases x <;> simp only [seqA, Option.some.injEq] at h ⊢ <;> first | (subst h; exact q) | exact ⟨rs, h, q⟩
end
end DL
namespace DL
open PySem PySem.Spec PyProof.Rows L2
theorem x_gtup {P : Program} {w : World} {K : PySem.W.Frag} {mg : Str → Option Value} {base : Heap} {m : Nat} {X : Cx} {env : DEnv} {C : CS} {pos : Pos} {ts : List Expr} {n : Nat} {ds : List D} {kE : DEnv → CS → Prop} (hx : Ctx P w K mg base m X) (hl : ds.length = (assignEach ts X.env).length) (h : WGs X ts ds env C kE) (hst : (assignEach ts X.env).findIdx? (·.1) = none := by rfl) : WG X (.Tuple ts n pos) (.tup ds) env C kE := wg_tup hx.calm hl h hst
end DL
namespace DL
open PySem L2
theorem ix_p {C : CS} {k : KD} {p : Addr} {xs : List D} {i : Int} {d : D} (h : atI xs i = some d) (q : k d (put C p (.lst xs))) : dIx (.own p) (.int i) (put C p (.lst xs)) k := ix_o put_same h q
theorem setL_p {C : CS} {p : Addr} {xs : List D} {n : Int} {j : Nat} {d : D} {env : DEnv} {kE : DEnv → CS → Prop} (hj : ixN xs.length n = some j) (q : kE env (put C p (.lst (xs.set j d)))) : ∃ p' n' ys j', D.own p = .own p' ∧ D.int n = .int n' ∧ (put C p (.lst xs)) p' = some (.lst ys) ∧ ixN ys.length n' = some j' ∧ kE env (put (put C p (.lst xs)) p' (.lst (ys.set j' d))) :=
  ⟨p, n, xs, j, rfl, rfl, put_same, hj, by rw [put_put]; exact q⟩
theorem setL_o {C : CS} {p : Addr} {xs : List D} {n : Int} {j : Nat} {d : D} {env : DEnv} {kE : DEnv → CS → Prop} (hc : C p = some (.lst xs)) (hj : ixN xs.length n = some j) (q : kE env (put C p (.lst (xs.set j d)))) : ∃ p' n' ys j', D.own p = .own p' ∧ D.int n = .int n' ∧ C p' = some (.lst ys) ∧ ixN ys.length n' = some j' ∧ kE env (put C p' (.lst (ys.set j' d))) :=
  ⟨p, n, xs, j, rfl, rfl, hc, hj, q⟩
theorem len_put {C : CS} {k : KD} {p : Addr} {xs : List D} (q : k (.int (xs.length : Nat)) (put C p (.lst xs))) : dLen [.own p] (put C p (.lst xs)) k := len_own put_same q
end DL
namespace DL
open PySem PySem.Spec PyProof.Rows L2
theorem ws_asgD {X : Cx} {N : List Str} {dsc : Scope} {e tg : Expr} {env : DEnv} {C : CS} {pos : Pos} {E : DEnds} (D0 : Dfc X N dsc) (h : WE X e env C fun d C1 => WG X tg d env C1 E.nx) (hw : swappedStores [tg] e (envOf dsc) = pure none) (hs : swapsWithSole [tg] e pos.line X.env = pure false := by rfl)
    (h1 : (assignEach [tg] X.env).map (·.2) = [assign tg X.env] := by rfl) : WS X (.Assign [tg] e pos) env C E := ws_asg h hs (by rw [sst_env D0.sc]; exact hw) h1
theorem put_self {C : CS} {a : Addr} {c : Cell} (h : C a = some c) : put C a c = C := by
  funext b; unfold put; split
  · rename_i e; rw [e, h]
  · rfl
theorem put_comm {C : CS} {a b : Addr} {c d : Cell} (h : a ≠ b) : put (put C a c) b d = put (put C b d) a c := by
  funext x; unfold put
  by_cases e : x = a
  · subst e; rw [if_neg h, if_pos rfl]
    simp
  · by_cases e2 : x = b
    · subst e2; simp [e]
    · simp [e, e2]
end DL
/-! DLn: methods by their names; texts. -/
namespace DL
open PySem PySem.Spec PyProof.Rows L2
section
variable {X : Cx} {e a b o : Expr} {es : List Expr} {env : DEnv} {C : CS} {k : KD} {pos apos cpos : Pos} {kb : Bool → CS → Prop}
theorem x_join (h : WE X o env C fun x C1 => tyD "str" C1 x ∧ WA X (e :: es) env C1 fun ds C2 => dJoin x ds C2 k)
    (hbase : attributeBase o "join" X.env (eval o X.env) = eval o X.env := by rfl)
    (hfew : ((backTo cpos (starEach (e :: es) X.env)).all (fun x => !x.1) && (backToKw cpos (keywordEach [] X.env)).all (fun x => x.1.isSome)
      && decide ((e :: es).length + ([] : List Keyword).length + (if ([] : List Keyword).isEmpty then 0 else 1) < 30)) = true := by rfl)
    (hline : (apos.endLine == cpos.line) = true := by rfl) (hs : starEach (e :: es) X.env = (false, eval e X.env) :: starEach es X.env := by rfl) (hplain : (backTo cpos (starEach es X.env)).any (·.1) = false := by rfl) :
    WE X (.Call (.Attribute o "join" apos) (e :: es) [] cpos) env C k :=
  we_bm PySem.F.plainAttrs_str PySem.F.slot_str_join PySem.F.type_str_join mt_join rm_join h hbase hfew hline hs hplain
theorem x_sindex (h : WE X o env C fun x C1 => tyD "str" C1 x ∧ WA X (e :: es) env C1 fun ds C2 => dSIndex x ds C2 k)
    (hbase : attributeBase o "index" X.env (eval o X.env) = eval o X.env := by rfl)
    (hfew : ((backTo cpos (starEach (e :: es) X.env)).all (fun x => !x.1) && (backToKw cpos (keywordEach [] X.env)).all (fun x => x.1.isSome)
      && decide ((e :: es).length + ([] : List Keyword).length + (if ([] : List Keyword).isEmpty then 0 else 1) < 30)) = true := by rfl)
    (hline : (apos.endLine == cpos.line) = true := by rfl) (hs : starEach (e :: es) X.env = (false, eval e X.env) :: starEach es X.env := by rfl) (hplain : (backTo cpos (starEach es X.env)).any (·.1) = false := by rfl) :
    WE X (.Call (.Attribute o "index" apos) (e :: es) [] cpos) env C k :=
  we_bm PySem.F.plainAttrs_str PySem.F.slot_str_index PySem.F.type_str_index mt_sindex rm_sindex h hbase hfew hline hs hplain
theorem x_insert (h : WE X o env C fun x C1 => tyD "list" C1 x ∧ WA X (e :: es) env C1 fun ds C2 => dInsert x ds C2 k)
    (hbase : attributeBase o "insert" X.env (eval o X.env) = eval o X.env := by rfl)
    (hfew : ((backTo cpos (starEach (e :: es) X.env)).all (fun x => !x.1) && (backToKw cpos (keywordEach [] X.env)).all (fun x => x.1.isSome)
      && decide ((e :: es).length + ([] : List Keyword).length + (if ([] : List Keyword).isEmpty then 0 else 1) < 30)) = true := by rfl)
    (hline : (apos.endLine == cpos.line) = true := by rfl) (hs : starEach (e :: es) X.env = (false, eval e X.env) :: starEach es X.env := by rfl) (hplain : (backTo cpos (starEach es X.env)).any (·.1) = false := by rfl) :
    WE X (.Call (.Attribute o "insert" apos) (e :: es) [] cpos) env C k :=
  we_bm PySem.F.plainAttrs_list PySem.F.slot_list_insert PySem.F.type_list_insert mt_insert rm_insert h hbase hfew hline hs hplain
theorem x_popAt (h : WE X o env C fun x C1 => tyD "list" C1 x ∧ WA X (e :: es) env C1 fun ds C2 => dPopAt x ds C2 k)
    (hbase : attributeBase o "pop" X.env (eval o X.env) = eval o X.env := by rfl)
    (hfew : ((backTo cpos (starEach (e :: es) X.env)).all (fun x => !x.1) && (backToKw cpos (keywordEach [] X.env)).all (fun x => x.1.isSome)
      && decide ((e :: es).length + ([] : List Keyword).length + (if ([] : List Keyword).isEmpty then 0 else 1) < 30)) = true := by rfl)
    (hline : (apos.endLine == cpos.line) = true := by rfl) (hs : starEach (e :: es) X.env = (false, eval e X.env) :: starEach es X.env := by rfl) (hplain : (backTo cpos (starEach es X.env)).any (·.1) = false := by rfl) :
    WE X (.Call (.Attribute o "pop" apos) (e :: es) [] cpos) env C k :=
  we_bm PySem.F.plainAttrs_list PySem.F.slot_list_pop PySem.F.type_list_pop mt_popAt rm_popAt h hbase hfew hline hs hplain
end
theorem x_ixL {X : Cx} {es : List Expr} {b : Expr} {env : DEnv} {C : CS} {k : KD} {pos p1 : Pos} (h : WA X es env C fun ds C1 => ds.length ≤ sizeLine ∧ WE X b env C1 fun y C2 => dIx (.lst ds) y C2 k) (hs : PlainIx b := by intro _ _; rfl) : WE X (.Subscript (.List es p1) b pos) env C k := we_ix (we_lstF h) hs
theorem ty_str {C : CS} {z : Str} {B : Prop} (q : B) : tyD "str" C (.str z) ∧ B := ⟨rfl, q⟩
/-- a text of signs -/
def sg (c : Nat) : Str := ⟨#[c]⟩
theorem joinL_sg : ∀ cs : List Nat, TL.joinL [] (cs.map fun c => [c]) = cs
  | [] => rfl
  | [c] => rfl
  | c :: d :: r => by
    show [c] ++ ([] ++ TL.joinL [] ((d :: r).map fun c => [c])) = _
    rw [joinL_sg (d :: r)]
    rfl
theorem join_sg (cs : List Nat) : (Txt.join "" (cs.map sg)).cps.toList = cs := by
  refine (congrArg TL.tl (TL.join_eq "" (cs.map sg))).trans ?_
  rw [TL.tl_join, List.map_map]
  have e : TL.tl ("" : Str) = [] := by decide +kernel
  rw [e]
  exact joinL_sg cs
theorem join_ok {C : CS} {k : KD} {x : D} {cs : List Nat} (hs : seqR C x = some (cs.map fun c => D.str (sg c))) (hl : cs.length ≤ 1000000) (q : ∀ z : Str, z.cps.toList = cs → k (.str z) C) : dJoin (.str "") [x] C k := by
  refine ⟨"", x, cs.map sg, rfl, rfl, by rw [hs, List.map_map]; rfl, ?_, q _ (join_sg cs)⟩
  have e : ("" : Str).length = 0 := by decide +kernel
  rw [e, Nat.mul_zero, Nat.add_zero, List.map_map]
  have : ∀ cs : List Nat, (cs.map ((fun x : Str => x.length) ∘ sg)).sum = cs.length := by
    intro cs
    induction cs with
    | nil => rfl
    | cons c cs ih => rw [List.map_cons, List.sum_cons, ih, List.length_cons]; show 1 + _ = _; omega
  rw [this]
  omega
theorem str_ext {x y : Str} (h : x.cps.toList = y.cps.toList) : x = y := by
  cases x with
  | mk a => cases y with
    | mk b => exact congrArg Str.mk (Array.toList_inj.mp h)
theorem str_app (x y : Str) : (x ++ y).cps.toList = x.cps.toList ++ y.cps.toList := by
  show (x.cps ++ y.cps).toList = _
  rw [Array.toList_append]
theorem str_len (x : Str) : x.length = x.cps.toList.length := by
  show x.cps.size = _
  rw [Array.length_toList]
/-- cells forgotten -/
def Sub (C2 C1 : CS) : Prop := ∀ a c, C2 a = some c → C1 a = some c
theorem Sub.refl (C : CS) : Sub C C := fun _ _ h => h
theorem Sub.trans {C1 C2 C3 : CS} (a : Sub C1 C2) (b : Sub C2 C3) : Sub C1 C3 := fun x c h => b x c (a x c h)
theorem Sub.put {C C1 : CS} (h : Sub C C1) (a : Addr) (c : Cell) : Sub (put C a c) (put C1 a c) := fun x d e => by
  by_cases q : x = a
  · subst q; rw [put_same] at e ⊢; exact e
  · rw [put_ne q] at e ⊢; exact h x d e
theorem Sub.new {C C1 : CS} {a : Addr} {c : Cell} (h : Sub C C1) (ha : C a = none) : Sub C (DL.put C1 a c) := fun x d e => by
  have : x ≠ a := fun q => by subst q; rw [ha] at e; cases e
  rw [put_ne this]; exact h x d e
theorem fnS {P : Program} {w : World} {K : PySem.W.Frag} {mg : Str → Option Value} {base : Heap} {x qual : Str} {st : Stmt} {f : Addr} {fd : FuncData} {N M Ds ps : List Str} {n : Nat} {S : DSp} (F : Fun K x qual st f fd) (sc : FnScope N ps (defScope st)) (hv : visC (defScope st) M = true) (hlc : locC (defScope st) M = true) (hg : glC (defScope st) Ds = true)
    (hl : ∀ ds C k, S ds C k → ds.length = ps.length)
    (hb : ∀ (X : Cx), Bdy P w K mg base n N M Ds (defScope st) X → ∀ (ds : List D) (C : CS) (k : KD), S ds C k → WSs X (defBody st) (startD N ds) C { nx := fun _ C1 => ∃ C2, Sub C2 C1 ∧ k .non C2, rt := fun d C1 => ∃ C2, Sub C2 C1 ∧ k d C2 }) : FnG P w K mg base CX0 (n + 1) f fd ps (toSp K S) :=
  fnX F sc hv hlc hg hl fun X hB ds C k hS G σ H D0 wl er q => hb X hB ds C k hS G σ H D0 wl er
    ⟨fun G' C' H' σ' env f' w' er' ⟨C2, hs, z⟩ => let ⟨w2, f2⟩ := w'.sub hs; q.nx G' C2 H' σ' env (f'.trans f2) w2 er' z,
     fun v G' C' H' d f' w' r ⟨C2, hs, z⟩ => let ⟨w2, f2⟩ := w'.sub hs; q.rt v G' C2 H' d (f'.trans f2) w2 r z, fun G' C' H' σ' env f' w' er' z => z.elim, fun G' C' H' σ' env f' w' er' z => z.elim⟩
theorem pyL_strs : ∀ zs : List Str, pyL (zs.map D.str) = zs.map PyData.str
  | [] => rfl
  | z :: zs => by rw [List.map_cons, pyL, pyL_strs zs]; rfl
theorem allPy_strs : ∀ zs : List Str, allPy (zs.map D.str) = true
  | [] => rfl
  | z :: zs => by rw [List.map_cons, allPy, allPy_strs zs]; rfl
theorem strs_lay : ∀ zs : List Str, (∀ y ∈ zs, PyData.strOk y = true) → PyData.canLayAll0 (zs.map PyData.str) = true ∧ PyData.depthAll (zs.map PyData.str) = 0
  | [], _ => ⟨rfl, rfl⟩
  | z :: zs, h => by
    obtain ⟨h1, h2⟩ := strs_lay zs fun y hy => h y (List.mem_cons_of_mem _ hy)
    refine ⟨?_, ?_⟩
    · rw [List.map_cons, PyData.canLayAll0, h1, Bool.and_true]
      exact h z List.mem_cons_self
    · rw [List.map_cons, PyData.depthAll, h2]; rfl
theorem any_strs (z : Str) : ∀ zs : List Str, ((zs.map PyData.str).any fun w => PyData.eqv w (.str z)) = decide (z ∈ zs)
  | [] => rfl
  | y :: zs => by
    rw [List.map_cons, List.any_cons, any_strs z zs]
    by_cases h : y = z
    · subst h; simp [PyData.eqv]
    · have h' : ¬ z = y := fun e => h e.symm
      simp [PyData.eqv, h, h']
theorem shaped_str {z : Str} (h : PyData.strOk z = true) : SeqAt.shaped (.str z) = true := by
  unfold SeqAt.shaped
  rw [Bool.and_eq_true]
  exact ⟨h, rfl⟩
theorem shaped_strs {zs : List Str} (h : ∀ y ∈ zs, PyData.strOk y = true) : SeqAt.shaped (.list (zs.map PyData.str)) = true := by
  obtain ⟨h1, h2⟩ := strs_lay zs h
  unfold SeqAt.shaped
  rw [Bool.and_eq_true]
  refine ⟨h1, decide_eq_true ?_⟩
  show PyData.depthAll (zs.map PyData.str) + 1 ≤ 64
  omega
/-- a text in a list of texts -/
theorem in_strs {C : CS} {k : KD} {x : D} {zs : List Str} {z : Str} (hx : x.isStr = false) (hc : pyC C x = some (.list (zs.map PyData.str))) (hz : PyData.strOk z = true) (hzs : ∀ y ∈ zs, PyData.strOk y = true) (q : k (.bl (decide (z ∈ zs))) C) : dIn false (.str z) x C k := by
  have : dInL false (.str z) x C k := ⟨.str z, zs.map PyData.str, rfl, hc, shaped_str hz, shaped_strs hzs, by
    show k (.bl ((zs.map PyData.str).any fun w => PyData.eqv w (.str z))) C
    rw [any_strs]; exact q⟩
  cases x <;> first | exact this | (simp [D.isStr] at hx; done) | (simp [pyC, D.py] at hc; done)
theorem nin_strs {C : CS} {k : KD} {x : D} {zs : List Str} {z : Str} (hx : x.isStr = false) (hc : pyC C x = some (.list (zs.map PyData.str))) (hz : PyData.strOk z = true) (hzs : ∀ y ∈ zs, PyData.strOk y = true) (q : k (.bl (!decide (z ∈ zs))) C) : dIn true (.str z) x C k := by
  have : dInL true (.str z) x C k := ⟨.str z, zs.map PyData.str, rfl, hc, shaped_str hz, shaped_strs hzs, by
    show k (.bl (!(zs.map PyData.str).any fun w => PyData.eqv w (.str z))) C
    rw [any_strs]; exact q⟩
  cases x <;> first | exact this | (simp [D.isStr] at hx; done) | (simp [pyC, D.py] at hc; done)
theorem pyC_strs {C : CS} {p : Addr} {zs : List Str} (h : C p = some (.lst (zs.map D.str))) : pyC C (.own p) = some (.list (zs.map PyData.str)) := by
  unfold pyC
  simp only [h]
  rw [if_pos (allPy_strs zs), pyL_strs]
theorem pyF_strs {C : CS} {zs : List Str} : pyC C (.lst (zs.map D.str)) = some (.list (zs.map PyData.str)) := by
  unfold pyC
  simp only [D.isPy, allPy_strs, D.py, pyL_strs, if_true]
theorem nodup_sub {α : Type} [DecidableEq α] : ∀ (xs ys : List α), xs.Nodup → (∀ x ∈ xs, x ∈ ys) → xs.length ≤ ys.length
  | [], _, _, _ => Nat.zero_le _
  | x :: xs, ys, nd, h => by
    have hx := h x List.mem_cons_self
    have nd' := List.nodup_cons.mp nd
    have := nodup_sub xs (ys.erase x) nd'.2 fun y hy => (List.mem_erase_of_ne (fun e => by subst e; exact nd'.1 hy)).mpr (h y (List.mem_cons_of_mem _ hy))
    rw [List.length_erase_of_mem hx] at this
    have hp : 0 < ys.length := List.length_pos_of_mem hx
    rw [List.length_cons]
    omega
end DL
/-! DLo: classes in a tuple; zip; two names in a comprehension. -/
namespace DL
open PySem PySem.Spec PyProof.Rows L2 RZ
/-- isinstance with a tuple of classes, wherever the tuple stands -/
def rIsiU (K : PySem.W.Frag) : List V → Hp → VK → Prop := fun xs H Q => ∃ (x : V) (tp : Addr) (cs : List V) (t : Value) (us : List Value) (b : Bool), xs = [x, .ref tp] ∧ SqT K H tp cs ∧ Paired ClsV cs us ∧ TyX K H x t ∧ PySem.W.kitAny K t us = some b ∧ Q (.bl b) H
theorem call_isiU {X : Cx} : CallR X (.builtin "isinstance") (rIsiU X.K) := by
  rintro pins s σ H xs us Q I r ⟨x, tp, cs, t, ws, b, rfl, hT, hcs, ty, e, q⟩
  obtain ⟨u1, u2, rfl, r1, r2⟩ := vals2 r
  obtain rfl : u2 = Value.ref tp := r2
  obtain ⟨P, hZ, hp, hne⟩ := kit_of I r1 ty
  obtain ⟨its, rv, ⟨⟨oc, od, dt, sl⟩, g1, g2, n, g3⟩, _⟩ := I.tuple hT
  obtain rfl := ClsV.all hcs rv
  simp only at g2 g3
  subst g2
  subst g3
  refine PySem.W.kia_tup hZ I.kIn hp g1 e hne ?_
  intro tk
  exact ⟨V.bl b, H, I.tok tk, rfl, q⟩
def kitL (T : String) : List String → Option Bool
  | [] => some false
  | U :: Us => match kitB T U with
    | some true => some true
    | some false => kitL T Us
    | none => none
theorem kitL_ok {K : PySem.W.Frag} {T : String} {b : Bool} : ∀ {Us : List String}, kitL T Us = some b → PySem.W.kitAny K (.type T) (Us.map fun U => .type U) = some b
  | [], h => by cases h; exact kitAny_nil
  | U :: Us, h => by
    unfold kitL at h
    cases e : kitB T U with
    | none => rw [e] at h; cases h
    | some t =>
      rw [e] at h
      cases t with
      | true => exact kitAny_cons (kit_ty e) (fun z => by cases z) fun _ => by cases h; rfl
      | false => exact kitAny_cons (kit_ty e) (fun _ => kitL_ok h) fun z => by cases z
def tysD (Us : List String) : List D := Us.map fun U => .opq (.ty U)
def dIsiT : List D → CS → KD → Prop := fun ds C k => ∃ x T Us b, ds = [x, .tup (tysD Us)] ∧ tyN C x = some T ∧ kitL T Us = some b ∧ k (.bl b) C
theorem dat_tys {K : PySem.W.Frag} {G : Hp} : ∀ {Us : List String} {vs : List V}, DatAll K G vs (tysD Us) → Paired ClsV vs (Us.map fun U => .type U)
  | [], _, h => by cases h; exact .nil
  | U :: Us, _, h => by
    cases h with
    | cons h1 h2 => cases h1; exact .cons (.ty U) (dat_tys h2)
theorem rl_isiT {K : PySem.W.Frag} : RLD K (rIsiU K) dIsiT := by
  rintro xs ds G C H k Q w rs ⟨x, T, Us, b, rfl, ht, hb, hk⟩ q
  cases rs with
  | cons r1 r2 =>
    cases r2 with
    | cons r2 r3 =>
      cases r3
      obtain ⟨a, vs, rfl, h1, h2⟩ := w.tup r2
      exact ⟨_, a, vs, .type T, _, b, rfl, h1, dat_tys h2, tyN_ok w r1 ht, kitL_ok hb, q _ _ _ _ _ (Fr.refl ..) w (.bl _) hk⟩
section
variable {X : Cx} {a e e2 elt iter : Expr} {ts es : List Expr} {env : DEnv} {C C1 : CS} {k : KD} {pos p p2 : Pos} {n m : Nat} {P : Program} {w : World} {K : PySem.W.Frag} {mg : Str → Option Value} {base : Heap}
theorem x_isiT (hx : Ctx P w K mg base m X) (Z : Zs mg) (hg : Gl X "isinstance") (h : WA X [a, .Tuple ts n p2] env C fun ds C1 => dIsiT ds C1 k) (he : starEach [a, .Tuple ts n p2] X.env = (false, eval a X.env) :: starEach [.Tuple ts n p2] X.env := by rfl)
    (hpl : (backTo pos (starEach [.Tuple ts n p2] X.env)).any (·.1) = false := by rfl) : WE X (.Call (.Name "isinstance" p) [a, .Tuple ts n p2] [] pos) env C k :=
  we_cb (hx.zs Z).isi call_isiU rl_isiT hg bt_isi h (he := he) (hpl := hpl)
end
section
variable {C : CS} {k : KD} {x : D}
theorem isi_lt (h : x.kind = true) (q : k (.bl (x.isLst || x.isTup)) C) : dIsiT [x, .tup [.opq (.ty "list"), .opq (.ty "tuple")]] C k := by
  cases x <;> first | exact ⟨_, _, ["list", "tuple"], true, rfl, rfl, by decide +kernel, q⟩ | exact ⟨_, _, ["list", "tuple"], false, rfl, rfl, by decide +kernel, q⟩ | (simp [D.kind] at h; done)
theorem isi_ownLT {a : Addr} {xs : List D} (h : C a = some (.lst xs)) (q : k (.bl true) C) : dIsiT [.own a, .tup [.opq (.ty "list"), .opq (.ty "tuple")]] C k :=
  ⟨_, "list", ["list", "tuple"], true, rfl, by simp [tyN, h], by decide +kernel, q⟩
end
/-! ### zip -/
def zipD : List D → List D → List D
  | x :: xs, y :: ys => .tup [x, y] :: zipD xs ys
  | _, _ => []
theorem zipD_get : ∀ {xs ys : List D} {i : Nat} {d : D}, (zipD xs ys)[i]? = some d → ∃ x y, d = .tup [x, y] ∧ xs[i]? = some x ∧ ys[i]? = some y
  | [], _, i, d, h => by simp [zipD] at h
  | _ :: _, [], i, d, h => by simp [zipD] at h
  | x :: xs, y :: ys, 0, d, h => by
    simp [zipD] at h
    exact ⟨x, y, h.symm, rfl, rfl⟩
  | x :: xs, y :: ys, i + 1, d, h => by
    simp [zipD] at h
    obtain ⟨x', y', h1, h2, h3⟩ := zipD_get h
    exact ⟨x', y', h1, by simpa using h2, by simpa using h3⟩
theorem zipD_len : ∀ {xs ys : List D}, xs.length = ys.length → (zipD xs ys).length = xs.length
  | [], _, _ => rfl
  | _ :: _, [], h => by cases h
  | x :: xs, y :: ys, h => by
    simp only [zipD, List.length_cons]
    rw [zipD_len (by simpa using h)]
/-- while P holds of the cells, a is the list of these data -/
def SeqOf (K : PySem.W.Frag) (a : Addr) (xs : List D) (Pc : CS → Prop) (G : Hp) : Prop := ∀ G' C' H', Same G G' → Wld K G' C' H' → Pc C' → ∃ vs, SqL K H' a vs ∧ DatAll K G' vs xs
/-- what a list's name says of the cells -/
def ownP (d : D) (xs : List D) : CS → Prop := fun C => ∀ a, d = .own a → C a = some (.lst xs)
theorem seqOf_dat {K : PySem.W.Frag} {G H : Hp} {C : CS} {v : V} {d : D} {xs : List D} (w : Wld K G C H) (r : Dat K G v d) (h : seqR C d = some xs) : ∃ a, v = .ref a ∧ SeqOf K a xs (ownP d xs) G ∧ ∃ vs, SqL K H a vs := by
  cases r with
  | lst x1 x2 =>
    simp [seqR] at h; subst h
    exact ⟨_, rfl, fun G' C' H' e w' _ => ⟨_, w'.ex.seq (e.seq (SqL.of x1)), x2.mono e⟩, _, w.ex.seq (SqL.of x1)⟩
  | slst x1 x2 =>
    simp [seqR] at h; subst h
    exact ⟨_, rfl, fun G' C' H' e w' _ => ⟨_, w'.ex.seq (e.seq x1), x2.mono e⟩, _, w.ex.seq x1⟩
  | own a =>
    obtain ⟨_, vs, y1, y2⟩ := w.cell a _ (own_seqR h)
    refine ⟨a, rfl, fun G' C' H' e w' p => ?_, _, SqL.of y1⟩
    obtain ⟨_, vs, z1, z2⟩ := w'.cell a _ (p a rfl)
    exact ⟨vs, SqL.of z1, z2⟩
  | _ => simp [seqR] at h
theorem iterD_zip {K : PySem.W.Frag} {G : Hp} {a b : Addr} {xs ys : List D} {P1 P2 : CS → Prop} (hl : xs.length = ys.length) (h1 : SeqOf K a xs P1 G) (h2 : SeqOf K b ys P2 G) : IterD K (Itz K a b) (zipD xs ys) (fun C => P1 C ∧ P2 C) G := by
  rintro G' C' H' e w ⟨p1, p2⟩
  obtain ⟨vs, q1, r1⟩ := h1 G' C' H' e w p1
  obtain ⟨us, q2, r2⟩ := h2 G' C' H' e w p2
  refine ⟨fun i d hd => ?_, fun i hi => ⟨vs, us, q1, q2, .inl (by rw [r1.length]; rwa [zipD_len hl] at hi)⟩⟩
  obtain ⟨x, y, rfl, gx, gy⟩ := zipD_get hd
  obtain ⟨v1, t1, d1⟩ := r1.get gx
  obtain ⟨v2, t2, d2⟩ := r2.get gy
  refine ⟨⟨vs, us, v1, v2, q1, q2, t1, t2⟩, ?_⟩
  rintro v H2 ⟨T, x', y', rfl, hT, rfl, f1, f2⟩
  have e1 := f1 vs q1
  rw [t1] at e1; cases e1
  have e2 := f2 us q2
  rw [t2] at e2; cases e2
  obtain ⟨w2, f2, s2⟩ := w.newG hT (.tup [v1, v2])
  exact ⟨_, f2, w2, .tup (SqT.of upd_same) (.cons (d1.mono s2) (.cons (d2.mono s2) .nil))⟩
theorem iterD_zipT {K : PySem.W.Frag} {G : Hp} {a b : Addr} {vs us : List V} {xs ys : List D} (hl : xs.length = ys.length) (h1 : SqT K G a vs) (r1 : DatAll K G vs xs) (h2 : SqT K G b us) (r2 : DatAll K G us ys) : IterD K (ItzT K a b) (zipD xs ys) (fun _ => True) G := by
  rintro G' C' H' e w _
  have q1 : SqT K H' a vs := Same.sqT w.ex (Same.sqT e h1)
  have q2 : SqT K H' b us := Same.sqT w.ex (Same.sqT e h2)
  refine ⟨fun i d hd => ?_, fun i hi => ⟨vs, us, q1, q2, .inl (by rw [r1.length]; rwa [zipD_len hl] at hi)⟩⟩
  obtain ⟨x, y, rfl, gx, gy⟩ := zipD_get hd
  obtain ⟨v1, t1, d1⟩ := r1.get gx
  obtain ⟨v2, t2, d2⟩ := r2.get gy
  refine ⟨⟨vs, us, v1, v2, q1, q2, t1, t2⟩, ?_⟩
  rintro v H2 ⟨T, x', y', rfl, hT, rfl, f1, f2⟩
  have e1 := f1 vs q1
  rw [t1] at e1; cases e1
  have e2 := f2 us q2
  rw [t2] at e2; cases e2
  obtain ⟨w2, f2, s2⟩ := w.newG hT (.tup [v1, v2])
  exact ⟨_, f2, w2, .tup (SqT.of upd_same) (.cons ((d1.mono e).mono s2) (.cons ((d2.mono e).mono s2) .nil))⟩
section
variable {X : Cx} {a b e e2 elt iter : Expr} {ts es : List Expr} {env : DEnv} {C C1 : CS} {k : KD} {kI : KI} {pos p p2 tpos : Pos} {n m : Nat} {P : Program} {w : World} {K : PySem.W.Frag} {mg : Str → Option Value} {base : Heap}
theorem wi_zip (hx : Ctx P w K mg base m X) (Z : Zs mg) (hg : Gl X "zip") (h : WA X [a, b] env C fun ds C1 => ∃ x y xs ys, ds = [x, y] ∧ xs.length = ys.length ∧ ((seqR C1 x = some xs ∧ seqR C1 y = some ys ∧ kI (zipD xs ys) (fun C => ownP x xs C ∧ ownP y ys C) C1) ∨ (x = .tup xs ∧ y = .tup ys ∧ kI (zipD xs ys) (fun _ => True) C1)))
    (hs : starEach [a, b] X.env = (false, eval a X.env) :: starEach [b] X.env := by rfl) (hpl : (backTo pos (starEach [b] X.env)).any (·.1) = false := by rfl) : WI X (.Tuple ts n tpos) (.Call (.Name "zip" p) [a, b] [] pos) env C kI := by
  refine ⟨_, pi_zipA hg (hx.zs Z).zip pa_tAr hs hpl, fun G σ H R w er q => h G σ H _ w er fun v G1 C1 H1 ds f1 w1 r1 z => ?_⟩
  obtain ⟨x, y, xs, ys, rfl, hl, z⟩ := z
  cases r1 with
  | cons r1 r2 =>
    cases r2 with
    | cons r2 r3 =>
      cases r3
      rcases z with ⟨s1, s2, z⟩ | ⟨rfl, rfl, z⟩
      · obtain ⟨a1, rfl, g1, vs, t1⟩ := seqOf_dat w1 r1 s1
        obtain ⟨a2, rfl, g2, us, t2⟩ := seqOf_dat w1 r2 s2
        exact ⟨a1, a2, vs, us, rfl, .inl ⟨t1, t2, q _ _ _ _ _ _ f1 w1 (iterD_zip hl g1 g2) z⟩⟩
      · cases r1 with
        | tup x1 x2 =>
          cases r2 with
          | tup y1 y2 => exact ⟨_, _, _, _, rfl, .inr ⟨Same.sqT w1.ex x1, Same.sqT w1.ex y1, q _ _ _ _ _ _ f1 w1 (iterD_zipT hl x1 x2 y1 y2) z⟩⟩
end
/-! ### a comprehension with two names -/
def pairF (env : DEnv) (f : D → D → DEnv) : D → DEnv
  | .tup [a, b] => f a b
  | _ => env
theorem set_two {env : DEnv} {i j : Nat} (h : i ≠ j) (a b : D) : ((wipeD env [i, j]).set i (some a)).set j (some b) = (env.set i (some a)).set j (some b) := by
  show ((((env.set j none).set i none).set i (some a)).set j (some b)) = _
  rw [List.set_set, List.set_comm _ _ h.symm, List.set_set]
section
variable {X : Cx} {elt iter : Expr} {ifs : List Expr} {scope dsc : Scope} {env : DEnv} {C C1 : CS} {k : KD} {pos px py pt : Pos} {n : Nat} {E : DEnds} {N M gs : List Str} {x y : Str} {f1 : D → DEnv} {f2 : D → D → DEnv} {xs : List D} {Pc : CS → Prop}
theorem lcB_I2 (D0 : Dfc X N dsc) (hP : Put N x env f1) (hQ : ∀ d, Put N y (f1 d) (f2 d)) (hxy : x ≠ y) (hv : visC (relS scope dsc) M = true) (hg : glC (relS scope dsc) gs = true) (hp2 : ∀ d ∈ xs, ∃ a b, d = .tup [a, b])
    (h : LcB X elt ifs scope N M gs (pairF env f2) xs Pc C1 k) : ∃ i j, N[i]? = some x ∧ N[j]? = some y ∧ LcI X elt ifs scope [i, j] (gTup X.K 2 (gCons (gName i) (gCons (gName j) gNil))) env xs Pc C1 k := by
  obtain ⟨i, h1, h2, _⟩ := hP.set
  obtain ⟨j, g1, _⟩ := (hQ .non).set
  have hij : i ≠ j := fun e => by subst e; rw [h1] at g1; exact hxy (Option.some.inj g1)
  have nd : N.Nodup := by rw [← D0.n]; exact D0.nd
  have e2 : ∀ a b, (env.set i (some a)).set j (some b) = f2 a b := by
    intro a b
    obtain ⟨j', k1, k2, _⟩ := (hQ a).set
    obtain rfl := nodup_ix nd k1 g1
    rw [h2, k2]
  refine ⟨i, j, h1, g1, ?_⟩
  obtain ⟨Iv, i0, hp, turn, done⟩ := h
  refine ⟨Iv, i0, hp, fun m d acc C hd hi => ?_, done⟩
  obtain ⟨a, b, rfl⟩ := hp2 d (List.mem_of_getElem? hd)
  refine gw_tup2 (by simp) (by simp) ?_
  rw [set_two hij, e2]
  exact fun X' hX => WIf.imp (turn m _ acc C hd hi X' hX (blk_nms D0 hv X' hX) (blk_gls D0 hg X' hX)) fun t C3 z => ⟨fun ht X'' hX'' => z.1 ht X'' hX'' (blk_nms D0 hv X'' hX'') (blk_gls D0 hg X'' hX''), z.2⟩
theorem lc2 (M gs : List Str) (D0 : Dfc X N dsc) (hP : Put N x env f1) (hQ : ∀ d, Put N y (f1 d) (f2 d)) (hxy : x ≠ y) (ok : blkC N dsc scope [(x, N.idxOf x), (y, N.idxOf y)] = true) (hv : visC (relS scope dsc) M = true) (hg : glC (relS scope dsc) gs = true)
    (hx : onlyC (relS scope dsc) [x] = true) (hy : onlyC (relS scope dsc) [y] = true)
    (h : WI X (.Tuple [.Name x px, .Name y py] n pt) iter env C fun xs Pc C1 => (∀ d ∈ xs, ∃ a b, d = .tup [a, b]) ∧ LcB X elt ifs scope N M gs (pairF env f2) xs Pc C1 k) (hs : ∀ x, foldedSetIterable iter X.env x = pure x := by intro _; rfl) :
    WE X (.ListComp elt [⟨.Tuple [.Name x px, .Name y py] n pt, iter, ifs, 0⟩] scope pos) env C k := by
  obtain ⟨i, h1, _⟩ := hP.set
  obtain ⟨j, g1, _⟩ := (hQ .non).set
  have nd : N.Nodup := by rw [← D0.n]; exact D0.nd
  have ok' : BlkOk X.N X.env.scope scope [(x, i), (y, j)] := by
    rw [idxOf_of nd h1, idxOf_of nd g1] at ok
    rw [D0.n, D0.sc]
    exact blkOk_by ok
  refine we_lc [(x, i), (y, j)] (g := gTup X.K 2 (gCons (gName i) (gCons (gName j) gNil))) D0.calm D0.nd ok' (fun s H Ca cl fp => ?_) ?_ hs
  · exact pg_tup (show X.calm = true from D0.calm) (pgs_cons (lc_pg D0 h1 hx s H Ca cl fp) (pgs_cons (lc_pg D0 g1 hy s H Ca cl fp) pgs_nil))
  · obtain ⟨wi, hi, hw⟩ := h
    refine ⟨wi, hi, fun G σ H R w er q => hw G σ H R w er fun J G' C' H' xs Pc f w1 it z => ?_⟩
    obtain ⟨i', j', a1, a2, h3⟩ := lcB_I2 D0 hP hQ hxy hv hg z.1 z.2
    obtain rfl := nodup_ix nd a1 h1
    obtain rfl := nodup_ix nd a2 g1
    exact q J G' C' H' xs Pc f w1 it h3
end
section
variable {C : CS} {k : KD} {x : D} {xs : List D}
theorem isi_ltT (h : x.kind = true) (h2 : (x.isLst || x.isTup) = true) (q : k (.bl true) C) : dIsiT [x, .tup [.opq (.ty "list"), .opq (.ty "tuple")]] C k := isi_lt h (by rw [h2]; exact q)
theorem isi_ltF (h : x.kind = true) (h2 : (x.isLst || x.isTup) = false) (q : k (.bl false) C) : dIsiT [x, .tup [.opq (.ty "list"), .opq (.ty "tuple")]] C k := isi_lt h (by rw [h2]; exact q)
theorem isi_c1 {T U : String} (h : tyN C x = some T) {b : Bool} (h2 : kitB T U = some b) (q : k (.bl b) C) : dIsi [x, .opq (.ty U)] C k := ⟨x, T, U, b, rfl, h, h2, q⟩
theorem isi_ls (h : seqR C x = some xs) (q : k (.bl true) C) : dIsi [x, .opq (.ty "list")] C k := by
  cases x with
  | lst xs => exact ⟨_, "list", _, true, rfl, rfl, by decide +kernel, q⟩
  | slst xs => exact ⟨_, "list", _, true, rfl, rfl, by decide +kernel, q⟩
  | own a =>
    have h' := own_seqR h
    exact ⟨_, "list", _, true, rfl, by simp [tyN, h'], by decide +kernel, q⟩
  | _ => simp [seqR] at h
theorem isi_lsT (h : seqR C x = some xs) (q : k (.bl false) C) : dIsi [x, .opq (.ty "tuple")] C k := by
  cases x with
  | lst xs => exact ⟨_, "list", _, false, rfl, rfl, by decide +kernel, q⟩
  | slst xs => exact ⟨_, "list", _, false, rfl, rfl, by decide +kernel, q⟩
  | own a =>
    have h' := own_seqR h
    exact ⟨_, "list", _, false, rfl, by simp [tyN, h'], by decide +kernel, q⟩
  | _ => simp [seqR] at h
theorem isiT_ls (h : seqR C x = some xs) (q : k (.bl true) C) : dIsiT [x, .tup [.opq (.ty "list"), .opq (.ty "tuple")]] C k := by
  cases x with
  | lst xs => exact isi_lt rfl q
  | slst xs => exact isi_lt rfl q
  | own a =>
    have h' := own_seqR h
    exact isi_ownLT h' q
  | _ => simp [seqR] at h
theorem len_ls (h : seqR C x = some xs) (q : k (.int (xs.length : Nat)) C) : dLen [x] C k := by
  cases x with
  | lst xs => exact ⟨_, _, rfl, ⟨_, h, rfl⟩, q⟩
  | slst xs => exact ⟨_, _, rfl, ⟨_, h, rfl⟩, q⟩
  | own a =>
    have h' := own_seqR h
    exact ⟨_, _, rfl, ⟨_, h, rfl⟩, q⟩
  | _ => simp [seqR] at h
theorem eq_bb {a b : Bool} (q : k (.bl (a == b)) C) : dEq false (.bl a) (.bl b) C k := eq_ok (by cases a <;> rfl) (by cases b <;> rfl) (by cases a <;> cases b <;> exact q)
theorem ne_bb {a b : Bool} (q : k (.bl (a != b)) C) : dEq true (.bl a) (.bl b) C k := ne_ok (by cases a <;> rfl) (by cases b <;> rfl) (by cases a <;> cases b <;> exact q)
end
/-! ### the same data -/
def Sm (C : CS) : Nat → D → D → Prop
  | 0, x, y => x = y ∧ x.fit 0 = true
  | n + 1, x, y => (x = y ∧ x.fit 0 = true) ∨ ∃ xs ys, xs.length = ys.length ∧ xs.length ≤ sizeLine ∧ ((seqR C x = some xs ∧ seqR C y = some ys) ∨ (x = .tup xs ∧ y = .tup ys)) ∧ ∀ (i : Nat) (a b : D), xs[i]? = some a → ys[i]? = some b → Sm C n a b
/-- trees of lists that are not too long -/
def Sz : Nat → D → Prop
  | 0, x => x.fit 0 = true
  | n + 1, x => x.fit 0 = true ∨ ∃ xs : List D, xs.length ≤ sizeLine ∧ (x = .lst xs ∨ x = .slst xs ∨ x = .tup xs) ∧ ∀ a ∈ xs, Sz n a
theorem Sm.of {C : CS} : ∀ {n : Nat} {x : D}, Sz n x → Sm C n x x
  | 0, _, h => ⟨rfl, h⟩
  | n + 1, x, h => by
    rcases h with h | ⟨xs, h1, h2, h3⟩
    · exact .inl ⟨rfl, h⟩
    · refine .inr ⟨xs, xs, rfl, h1, ?_, fun i a b ha hb => ?_⟩
      · rcases h2 with rfl | rfl | rfl
        · exact .inl ⟨rfl, rfl⟩
        · exact .inl ⟨rfl, rfl⟩
        · exact .inr ⟨rfl, rfl⟩
      · rw [ha] at hb; cases hb
        exact Sm.of (h3 a (List.mem_of_getElem? ha))
end DL
/-! DLp: lists unpacked; lists made and frozen by * and +. -/
namespace DL
open PySem PySem.Spec PyProof.Rows L2
section
variable {X : Cx} {a b e : Expr} {es ts : List Expr} {env : DEnv} {C : CS} {k : KD} {pos p1 p2 p3 : Pos} {n m : Nat} {P : Program} {w : World} {K : PySem.W.Frag} {mg : Str → Option Value} {base : Heap} {op : Operator}
theorem wg_lst {d : D} {ds : List D} {kE : DEnv → CS → Prop} (hs : seqR C d = some ds) (hc : X.calm = true) (hl : ds.length = (assignEach ts X.env).length) (h : WGs X ts ds env C kE) (hst : (assignEach ts X.env).findIdx? (·.1) = none := by rfl) : WG X (.Tuple ts n pos) d env C kE :=
  .of (pg_lst hc pgs_tGts rfl hst) fun G σ H v Q w er r q => by
    obtain ⟨a, vs, rfl, h1, h2⟩ := w.seq r hs
    exact ⟨_, _, rfl, h1, by rw [h2.length]; exact hl, h G σ H _ Q w er h2 q⟩
theorem x_glst {d : D} {ds : List D} {kE : DEnv → CS → Prop} (hx : Ctx P w K mg base m X) (hs : seqR C d = some ds) (hl : ds.length = (assignEach ts X.env).length) (h : WGs X ts ds env C kE) (hst : (assignEach ts X.env).findIdx? (·.1) = none := by rfl) : WG X (.Tuple ts n pos) d env C kE := wg_lst hs hx.calm hl h hst
theorem x_mulF (h : WA X es env C fun ds C1 => ds.length ≤ sizeLine ∧ WE X b env C1 fun y C2 => dMul (.lst ds) y C2 (Frz k)) : WE X (.BinOp (.List es p1) .Mult b pos) env C k := we_fz (we_mul (we_lstF h))
theorem x_addF (h : WE X (.List es p1) env C fun x C1 => WE X b env C1 fun y C2 => dAdd x y C2 (Frz k)) : WE X (.BinOp (.List es p1) .Add b pos) env C k := we_fz (we_add h)
theorem x_addF2 (h : WE X (.BinOp (.List es p1) op a p2) env C fun x C1 => WE X b env C1 fun y C2 => dAdd x y C2 (Frz k)) : WE X (.BinOp (.BinOp (.List es p1) op a p2) .Add b pos) env C k := we_fz (we_add h)
theorem x_addF3 (h : WE X (.BinOp (.BinOp (.List es p1) op a p2) .Add e p3) env C fun x C1 => WE X b env C1 fun y C2 => dAdd x y C2 (Frz k)) : WE X (.BinOp (.BinOp (.BinOp (.List es p1) op a p2) .Add e p3) .Add b pos) env C k := we_fz (we_add h)
end
section
variable {C : CS} {k : KD} {xs ys : List D} {i : Int} {p : Addr} {d : D}
theorem mul_lf (h : 0 ≤ i ∧ i ≤ 1000 ∧ xs.length ≤ 100) (q : k (.lst (List.replicate i.toNat xs).flatten) C) : dMul (.lst xs) (.int i) C (Frz k) := by
  refine ⟨xs, rfl, by omega, by omega, ?_, fun p hp => frz_ok hp q⟩
  have : xs.length * i.toNat ≤ 100 * 1000 := Nat.mul_le_mul h.2.2 (by omega)
  exact Nat.le_trans this (by decide)
theorem add_lf (h : xs.length + ys.length ≤ sizeLine) (q : k (.lst (xs ++ ys)) C) : dAdd (.lst xs) (.lst ys) C (Frz k) := add_lst rfl rfl h fun _ hp => frz_ok hp q
theorem rep_len (n : Nat) (xs : List D) : (List.replicate n xs).flatten.length = n * xs.length := by simp
end
/-! ### a text times an int -/
theorem op_mulS {X : Cx} : OpR X (binaryOp .Mult) (fun x y H Q => ∃ z n, x = .str z ∧ y = .int n ∧ MulOk z n ∧ Q (.str (Txt.mul z n)) H) := by
  rintro pins s σ H x y v u Q I rx ry ⟨z, n, rfl, rfl, hok, q⟩
  obtain ⟨t, rfl⟩ := rx
  obtain ⟨t', rfl⟩ := ry
  exact SB.mul hok fun t' k => ⟨.str (Txt.mul z n), H, I.tok _, ⟨_, rfl⟩, q⟩
def dMulS : OpD := fun x y C k => ∃ z n, x = .str z ∧ y = .int n ∧ MulOk z n ∧ k (.str (Txt.mul z n)) C
theorem r2_mulS {K : PySem.W.Frag} : R2D K (fun x y H Q => ∃ z n, x = .str z ∧ y = .int n ∧ MulOk z n ∧ Q (.str (Txt.mul z n)) H) dMulS := by
  rintro x y a b G C H k Q w da db ⟨z, n, rfl, rfl, h1, h2⟩ q
  cases da
  cases db
  exact ⟨z, n, rfl, rfl, h1, q _ _ _ _ _ (Fr.refl ..) w (.str _) h2⟩
theorem x_mulS {X : Cx} {b : Expr} {env : DEnv} {C : CS} {k : KD} {pos p1 : Pos} {z : Str} {j : Nat} (h : WE X b env C fun y C1 => dMulS (.str z) y C1 k) : WE X (.BinOp (.Constant (.str z) j p1) .Mult b pos) env C k := we_op op_mulS r2_mulS (we_str h)
theorem mul_s {C : CS} {k : KD} {z : Str} {n : Int} (h : MulOk z n) (q : k (.str (Txt.mul z n)) C) : dMulS (.str z) (.int n) C k := ⟨z, n, rfl, rfl, h, q⟩
end DL
/-! DLq: repr of data. -/
namespace DL
open PySem PySem.Spec PyProof.Rows L2 RZ
/-- repr of a list or a tuple of data -/
def rRepr (K : PySem.W.Frag) : List V → Hp → VK → Prop := fun xs H Q => ∃ (v : V) (d : PyData), xs = [v] ∧ Dp K H v d ∧ isDisplay d = true ∧ d.showable = true ∧ d.hasDict = false ∧ d.depth ≤ 60 ∧ d.shown.length ≤ sizeLine ∧ Q (.str d.shown) H
theorem call_reprD {X : Cx} (hgd : X.A.guards = some []) (hu : X.A.units + 65 < cLine) : CallR X (.builtin "repr") (rRepr X.K) := by
  rintro pins s σ H xs us Q I r ⟨v, d, rfl, hd, hdis, hs, hnd, hdp, hsz, q⟩
  cases r with
  | cons r1 r2 =>
    cases r2
    obtain ⟨as, rd⟩ := Dp.reads I d v _ hd r1
    obtain ⟨a, rfl⟩ := isRef_of_reads rd hdis
    refine repr_of_reads' rd hs (PyData.noDict_hsm hnd) hgd (by omega) (fun _ _ e => e) ?_ hsz
    intro h' u tk hk
    exact ⟨.str d.shown, H, I.kept (t' := tk) hk, ⟨u, rfl⟩, q⟩
/-- repr of data -/
def rReprA (K : PySem.W.Frag) : List V → Hp → VK → Prop := fun xs H Q => ∃ (v : V) (d : PyData), xs = [v] ∧ Dp K H v d ∧ d.showable = true ∧ d.hasDict = false ∧ d.depth ≤ 60 ∧ d.shown.length ≤ sizeLine ∧ Q (.str d.shown) H
theorem call_reprA {X : Cx} (hgd : X.A.guards = some []) (hu : X.A.units + 65 < cLine) : CallR X (.builtin "repr") (rReprA X.K) := by
  rintro pins s σ H xs us Q I r ⟨v, d, rfl, hd, hs, hnd, hdp, hsz, q⟩
  by_cases hdis : isDisplay d = true
  · exact call_reprD hgd hu pins s σ H [v] us Q I r ⟨v, d, rfl, hd, hdis, hs, hnd, hdp, hsz, q⟩
  · cases r with
    | cons r1 r2 =>
      cases r2
      have fin : EP X pins σ Q (.str d.shown s.toks) { s with toks := s.toks + 1 } := ⟨.str d.shown, H, I.tok _, ⟨_, rfl⟩, q⟩
      cases hd with
      | non =>
        obtain rfl : _ = Value.none := r1
        exact P.repr_of_none fin
      | bl b =>
        obtain rfl : _ = Value.bool b := r1
        exact P.repr_of_bool fin
      | int i =>
        obtain ⟨t, rfl⟩ := r1
        exact P.repr_of_int (by simpa [PyData.showable] using hs) fin
      | str z =>
        obtain ⟨t, rfl⟩ := r1
        exact P.repr_of_str fin hsz
      | _ => exact absurd rfl hdis
def dRepr : List D → CS → KD → Prop := fun ds C k => ∃ x d, ds = [x] ∧ pyC C x = some d ∧ d.showable = true ∧ d.hasDict = false ∧ d.depth ≤ 60 ∧ d.shown.length ≤ sizeLine ∧ k (.str d.shown) C
theorem rl_repr {K : PySem.W.Frag} : RLD K (rReprA K) dRepr := by
  rintro xs ds G C H k Q w rs ⟨x, d, rfl, hd, h1, h2, h3, h4, hk⟩ q
  cases rs with
  | cons r1 r2 =>
    cases r2
    exact ⟨_, d, rfl, w.dp r1 hd, h1, h2, h3, h4, q _ _ _ _ _ (Fr.refl ..) w (.str _) hk⟩
section
variable {X : Cx} {e : Expr} {es : List Expr} {env : DEnv} {C : CS} {k : KD} {pos p : Pos} {m : Nat} {P : Program} {w : World} {K : PySem.W.Frag} {mg : Str → Option Value} {base : Heap}
theorem x_repr (hx : Ctx P w K mg base m X) (Z : Zs mg) (hg : Gl X "repr") (h : WA X (e :: es) env C fun ds C1 => dRepr ds C1 k) (he : starEach (e :: es) X.env = (false, eval e X.env) :: starEach es X.env := by rfl) (hpl : (backTo pos (starEach es X.env)).any (·.1) = false := by rfl) :
    WE X (.Call (.Name "repr" p) (e :: es) [] pos) env C k := we_cb (hx.zs Z).repr (call_reprA hx.guards (by have := hx.room.units; have := hx.room.un; omega)) rl_repr hg bootS_repr h (he := he) (hpl := hpl)
end
end DL
/-! DLr: comprehensions with any number of fors. -/
namespace DL
open PySem PySem.Spec PyProof.Rows L2
section
variable {elt t0 i0 t1 i1 : Expr} {ifs0 ifs1 : List Expr} {gens : List Comprehension} {scope : Scope} {pos : Pos} {it acc : Value} {env : Env} {i : Nat}
theorem turn_mid (h0 : gens[i]? = some ⟨t0, i0, ifs0, 0⟩) (h1 : gens[i + 1]? = some ⟨t1, i1, ifs1, 0⟩) : compTurn (.ListComp elt gens scope pos) i it acc env = (do
    standAt i0.pos
    match ← pyNext it with
    | none => pure (.done .next)
    | some v =>
      letOwnedTupleGo t0 it v
      assign t0 env v
      let mut ok := true
      for c in ifs0 do
        if ok then ok ← isTrue c env (eval c env)
      if ok then
        let x ← eval i1 env
        standAt i1.pos
        let x ← foldedSetIterable i1 env x
        let _ ← runOwn (.compStart (.ListComp elt gens scope pos) (i + 1) (← holding [x] (pyIter x)) acc env) env
      again (.compLoop (.ListComp elt gens scope pos) i it acc env)) := by
  unfold compTurn
  simp only [h0, h1]
  rfl
theorem turn_last (h0 : gens[i]? = some ⟨t0, i0, ifs0, 0⟩) (h1 : gens[i + 1]? = none) : compTurn (.ListComp elt gens scope pos) i it acc env = (do
    standAt i0.pos
    match ← pyNext it with
    | none => pure (.done .next)
    | some v =>
      letOwnedTupleGo t0 it v
      assign t0 env v
      let mut ok := true
      for c in ifs0 do
        if ok then ok ← isTrue c env (eval c env)
      if ok then
        (do let _ ← call (.builtin "list.append") [acc, ← eval elt env])
      again (.compLoop (.ListComp elt gens scope pos) i it acc env)) := by
  unfold compTurn
  simp only [h0, h1]
  rfl
end
section
variable {prog : Program} {w : World} {A : Around} {R : Result → Shared → Prop} {s : Shared} {elt t0 i0 t1 i1 : Expr} {ifs0 ifs1 : List Expr} {gens : List Comprehension} {scope : Scope} {pos : Pos} {it acc : Value} {env : Env} {i : Nat}
/-- what is raised in a comprehension's turn -/
def Nb (prog : Program) (w : World) (A : Around) (env : Env) (R : Result → Shared → Prop) : Value → Shared → Prop := notedBy (model prog w) A env fun e s' => R (.error e) s'
/-- the tests of a clause -/
def tests (env : Env) (ifs : List Expr) : Sem Bool := forIn ifs true fun c r => if r = true then do let ok ← isTrue c env (eval c env); pure (ForInStep.yield ok) else pure (ForInStep.yield r)
/-- a turn up to the tests -/
def TurnW (prog : Program) (w : World) (A : Around) (env : Env) (R : Result → Shared → Prop) (t : Expr) (ifs : List Expr) (it : Value) (B N : Shared → Prop) (s : Shared) : Prop :=
  wpAny (model prog w) A (pyNext it) (fun r s1 => match r with
    | none => R (.ok .next) s1
    | some v => wpAny (model prog w) A (letOwnedTupleGo t it v) (fun _ s2 => wpAny (model prog w) A (assign t env v) (fun _ s3 =>
        wpAny (model prog w) A (tests env ifs) (fun ok s4 => if ok = true then B s4 else N s4) (Nb prog w A env R) s3) (Nb prog w A env R) s2) (Nb prog w A env R) s1) (Nb prog w A env R) s
theorem loop_mid (h0 : gens[i]? = some ⟨t0, i0, ifs0, 0⟩) (h1 : gens[i + 1]? = some ⟨t1, i1, ifs1, 0⟩) (hs : ∀ x, foldedSetIterable i1 env x = pure x) (I : Nat → Shared → Prop)
    (turn : ∀ n s, I n s → TurnW prog w A env R t0 ifs0 it (fun s4 => wpAny (model prog w) A (eval i1 env) (fun x s5 => wpAny (model prog w) A (pyIter x) (fun it1 s6 =>
      codeAny (model prog w) A (.compStart (.ListComp elt gens scope pos) (i + 1) it1 acc env) (fun r s' => match r with
        | .ok _ => ∃ m, m < n ∧ I m s'
        | .error _ => False) s6) (Nb prog w A env R) s5) (Nb prog w A env R) s4) (fun s4 => ∃ m, m < n ∧ I m s4) s) (n : Nat) (h : I n s) :
    codeAny (model prog w) A (.compLoop (.ListComp elt gens scope pos) i it acc env) R s := by
  refine codeAny_loop rfl I ?_ n h
  intro n s hI
  show wpAny _ A ((compTurn (.ListComp elt gens scope pos) i it acc env).onRaise (fun x => do noteFrame x env; theTreesLotGoes x)) _ _ s
  refine wpAny_noted ?_
  rw [turn_mid h0 h1]
  have go := turn n s hI
  refine wpAny_bind (wpAny_standAt (wpAny_bind (wpAny_mono go ?_ fun _ _ z => z)))
  intro r s1 g1
  match r, g1 with
  | none, g1 => exact wpAny_pure g1
  | some v, g1 =>
    refine wpAny_bind (wpAny_mono g1 (fun _ s2 g2 => wpAny_bind (wpAny_mono g2 (fun _ s3 g3 => wpAny_bind (wpAny_mono g3 ?_ fun _ _ z => z)) fun _ _ z => z)) fun _ _ z => z)
    intro ok s4 g4
    match ok, g4 with
    | false, g4 => exact wpAny_pure ⟨rfl, g4⟩
    | true, g4 =>
      refine wpAny_bind (wpAny_mono g4 ?_ fun _ _ z => z)
      intro x s5 g5
      refine wpAny_bind (wpAny_standAt (wpAny_bind (wpAny_of_eq (hs x) (wpAny_bind (wpAny_holding (wpAny_mono g5 ?_ fun _ _ z => z))))))
      intro it1 s6 g6
      refine wpAny_bind (wpAny_runOwn ?_)
      rw [Around.mark_none]
      refine codeAny_mono g6 ?_
      intro r s' z
      match r, z with
      | .ok f, z => first | exact wpAny_pure ⟨rfl, z⟩ | exact wpAny_bind (wpAny_pure (wpAny_pure ⟨rfl, z⟩))
theorem loop_last (h0 : gens[i]? = some ⟨t0, i0, ifs0, 0⟩) (h1 : gens[i + 1]? = none) (I : Nat → Shared → Prop)
    (turn : ∀ n s, I n s → TurnW prog w A env R t0 ifs0 it (fun s4 => wpAny (model prog w) A (eval elt env) (fun x s5 => wpAny (model prog w) A (call (.builtin "list.append") [acc, x]) (fun _ s6 => ∃ m, m < n ∧ I m s6) (Nb prog w A env R) s5) (Nb prog w A env R) s4)
      (fun s4 => ∃ m, m < n ∧ I m s4) s) (n : Nat) (h : I n s) : codeAny (model prog w) A (.compLoop (.ListComp elt gens scope pos) i it acc env) R s := by
  refine codeAny_loop rfl I ?_ n h
  intro n s hI
  show wpAny _ A ((compTurn (.ListComp elt gens scope pos) i it acc env).onRaise (fun x => do noteFrame x env; theTreesLotGoes x)) _ _ s
  refine wpAny_noted ?_
  rw [turn_last h0 h1]
  have go := turn n s hI
  refine wpAny_bind (wpAny_standAt (wpAny_bind (wpAny_mono go ?_ fun _ _ z => z)))
  intro r s1 g1
  match r, g1 with
  | none, g1 => exact wpAny_pure g1
  | some v, g1 =>
    refine wpAny_bind (wpAny_mono g1 (fun _ s2 g2 => wpAny_bind (wpAny_mono g2 (fun _ s3 g3 => wpAny_bind (wpAny_mono g3 ?_ fun _ _ z => z)) fun _ _ z => z)) fun _ _ z => z)
    intro ok s4 g4
    match ok, g4 with
    | false, g4 => exact wpAny_pure ⟨rfl, g4⟩
    | true, g4 => exact wpAny_bind (wpAny_bind (wpAny_mono g4 (fun x s5 g5 => wpAny_bind (wpAny_mono g5 (fun _ s6 g6 => wpAny_pure (wpAny_pure ⟨rfl, g6⟩)) fun _ _ z => z)) fun _ _ z => z))
/-- an inner clause's start -/
theorem start_in (h0 : gens[i]? = some ⟨t0, i0, ifs0, 0⟩) (hl : codeAny (model prog w) A (.compLoop (.ListComp elt gens scope pos) i it acc env) R s)
    (hi : wpAny (model prog w) A (pyIter it) (fun it' s' => codeAny (model prog w) A (.compLoop (.ListComp elt gens scope pos) i it' acc env) R s') (Nb prog w A env R) s) : codeAny (model prog w) A (.compStart (.ListComp elt gens scope pos) i it acc env) R s := by
  have hc : (clausesOf (.ListComp elt gens scope pos))[i]? = some ⟨t0, i0, ifs0, 0⟩ := h0
  refine codeAny_of_tree ?_
  show wpAny _ _ ((compStart (.ListComp elt gens scope pos) i it acc env).onRaise (fun x => do noteFrame x env; standAt theWindowsPlace)) _ _ s
  refine wpAny_notedAt ?_
  unfold compStart
  simp only [hc, Option.elim_some]
  show wpAny _ _ (ask >>= _) _ _ s
  refine wpAny_bind (wpAny_askSetting (wpAny_ite ?_))
  split
  · first | exact wpAny_bind (wpAny_pure (wpAny_pure (And.intro rfl hl))) | exact wpAny_pure (And.intro rfl hl)
  · refine wpAny_bind (wpAny_rule ?_)
    show wpAny _ _ (standAt i0.pos >>= _) _ _ s
    exact wpAny_bind (wpAny_standAt (wpAny_bind (wpAny_mono hi (fun it' s' z => wpAny_pure (And.intro rfl z)) fun _ _ z => z)))
end
/-! ### the inner clauses -/
/-- a clause and its readings -/
structure Lv where
  tg : Expr
  iter : Expr
  ifs : List Expr
  wi : TI
  g : TG
  tt : TT
  vs : List Nat
def Lv.c (l : Lv) : Comprehension := ⟨l.tg, l.iter, l.ifs, 0⟩
structure LvOk (Y : Cx) (l : Lv) : Prop where
  pi : PI Y l.tg l.iter l.wi
  pg : PG Y l.tg l.g
  pt : PTs Y l.ifs l.tt
  fs : ∀ x, foldedSetIterable l.iter Y.env x = pure x
def restV : List Lv → List Nat
  | [] => []
  | l :: ls => l.vs ++ restV ls
theorem wipe_app (σ : L2.St) (us : List Nat) : ∀ vs : List Nat, wipe σ (vs ++ us) = wipe (wipe σ us) vs
  | [] => rfl
  | v :: vs => by
    show (wipe σ (vs ++ us)).set v none = (wipe (wipe σ us) vs).set v none
    rw [wipe_app σ us vs]
theorem wipe_two (σ : L2.St) (vs : List Nat) : wipe (wipe σ vs) vs = wipe σ vs := by
  apply wipe_ext
  · rw [wipe_length]
  · intro j hj
    rw [wipe_get, if_neg hj]
def tIn (D : Addr) (te : TE) : List Lv → L2.St → Hp → (Hp → Prop) → Prop
  | [], σ, H, Nx => te σ H fun y H1 => ∃ acc, H1 D = some (.lst acc) ∧ acc.length < sizeLine ∧ Nx (upd H1 D (.lst (acc ++ [y])))
  | l :: ls, σ, H, Nx => l.wi σ H fun J H1 => ∃ W : Nat → Nat → Hp → Prop, (∃ m, W 0 m H1) ∧ ∀ j k H, W j k H → (J.stop j H ∧ Nx H) ∨ (J.go j H ∧ ∃ N1 : Hp → Prop, (∀ H', N1 H' → ∃ k', k' < k ∧ W (j + 1) k' H') ∧
      ∀ x H', J.yld j H x H' → l.g x (wipe σ (restV (l :: ls))) H' fun σ2 H2 => wipe σ2 (restV (l :: ls)) = wipe σ (restV (l :: ls)) ∧ l.tt σ2 H2 fun b H3 => if b = true then tIn D te ls σ2 H3 N1 else N1 H3)
section
variable {Y : Cx} {elt : Expr} {te : TE} {scope : Scope} {pos : Pos} {gens : List Comprehension} {D : Addr}
/-- behind an inner clause -/
def Beh (Y : Cx) (pins : List (Addr × Obj)) (V : List Nat) (σ : L2.St) (Nx : Hp → Prop) (s' : Shared) : Prop := ∃ σ' H', Inv Y pins σ' H' s' ∧ wipe σ' V = wipe σ V ∧ Nx H'
/-- what a turn goes on with -/
def Body (Y : Cx) (elt : Expr) (scope : Scope) (pos : Pos) (gens : List Comprehension) (D : Addr) (R : Result → Shared → Prop) (P : Shared → Prop) (i : Nat) : List Lv → Shared → Prop
  | [], s => wpAny (model Y.prog Y.w) Y.A (eval elt Y.env) (fun x s1 => wpAny (model Y.prog Y.w) Y.A (call (.builtin "list.append") [.ref D, x]) (fun _ s2 => P s2) (Nb Y.prog Y.w Y.A Y.env R) s1) (Nb Y.prog Y.w Y.A Y.env R) s
  | l :: _, s => wpAny (model Y.prog Y.w) Y.A (eval l.iter Y.env) (fun x s1 => wpAny (model Y.prog Y.w) Y.A (pyIter x) (fun it s2 => codeAny (model Y.prog Y.w) Y.A (.compStart (.ListComp elt gens scope pos) i it (.ref D) Y.env) (fun r s' => match r with
      | .ok _ => P s'
      | .error _ => False) s2) (Nb Y.prog Y.w Y.A Y.env R) s1) (Nb Y.prog Y.w Y.A Y.env R) s
/-- the loop of a clause, from what the clauses behind it do -/
theorem loopLv {l : Lv} {ls : List Lv} {i : Nat} (hxe : Y.xe = fun _ _ => False) (hc : Y.calm = true) (hd : gens.drop i = (l :: ls).map Lv.c) (hfs : ∀ l' ∈ ls, ∀ x, foldedSetIterable l'.iter Y.env x = pure x) (opg : PG Y l.tg l.g) (opt : PTs Y l.ifs l.tt)
    (ih : ∀ (pins : List (Addr × Obj)) (σ : L2.St) (H : Hp) (s : Shared) (Nx : Hp → Prop) (R : Result → Shared → Prop) (P : Shared → Prop), Inv Y pins σ H s → tIn D te ls σ H Nx → (∀ s', Beh Y pins (restV ls) σ Nx s' → P s') → Body Y elt scope pos gens D R P (i + 1) ls s)
    {pins : List (Addr × Obj)} {σ : L2.St} {V : List Nat} (hV : restV (l :: ls) = V) {it : Addr} {fp : List Addr} {tn : Nat → Heap → Prop} {J : It} (T : Turn Y.prog Y.w Y.K l.tg J fp it tn) {Nx : Hp → Prop} {R : Result → Shared → Prop}
    (fin : ∀ s', Beh Y pins V σ Nx s' → R (.ok .next) s') {W : Nat → Nat → Hp → Prop} (stat : ∀ {H' : Hp} {s' : Shared} {σ' : L2.St}, Inv Y pins σ' H' s' → (∀ b ∈ fp, H' b = none) → ∀ b ∈ fp, FpOk Y pins H' b)
    (turn : ∀ j k H, W j k H → (J.stop j H ∧ Nx H) ∨ (J.go j H ∧ ∃ N1 : Hp → Prop, (∀ H', N1 H' → ∃ k', k' < k ∧ W (j + 1) k' H') ∧
      ∀ x H', J.yld j H x H' → l.g x (wipe σ V) H' fun σ2 H2 => wipe σ2 V = wipe σ V ∧ l.tt σ2 H2 fun b H3 => if b = true then tIn D te ls σ2 H3 N1 else N1 H3))
    {m0 : Nat} {H2 : Hp} {s2 : Shared} (I2 : Inv Y pins (wipe σ V) H2 s2) (st2 : tn 0 s2.heap) (n2 : ∀ b ∈ fp, H2 b = none) (w0 : W 0 m0 H2) :
    codeAny (model Y.prog Y.w) Y.A (.compLoop (.ListComp elt gens scope pos) i (.ref it) (.ref D) Y.env) R s2 := by
  have h0 : gens[i]? = some l.c := by
    have := congrArg (fun x : List Comprehension => x[0]?) hd
    simpa [List.getElem?_drop] using this
  have hd1 : gens.drop (i + 1) = ls.map Lv.c := by
    have := congrArg List.tail hd
    simpa [List.tail_drop] using this
  have hV' : V = l.vs ++ restV ls := hV.symm
  let Iv : Nat → Shared → Prop := fun k s' => ∃ j H', Inv Y pins (wipe σ V) H' s' ∧ tn j s'.heap ∧ (∀ b ∈ fp, H' b = none) ∧ W j k H'
  have turnW : ∀ n s, Iv n s → TurnW Y.prog Y.w Y.A Y.env R l.tg l.ifs (.ref it) (fun s4 => Body Y elt scope pos gens D R (fun s' => ∃ m, m < n ∧ Iv m s') (i + 1) ls s4) (fun s4 => ∃ m, m < n ∧ Iv m s4) s := by
    intro n s ⟨j, H3, I3, st3, n3, w3⟩
    rcases turn j n H3 w3 with ⟨stop, nx⟩ | ⟨go, N1, hN1, step⟩
    · refine thnF (T.done Y rfl rfl rfl hc j pins s (wipe σ V) H3 (fun _ _ => False) I3 (stat I3 n3) st3 stop) fun r s4 z => ?_
      obtain ⟨rfl, I4⟩ := z
      exact fin s4 ⟨_, _, I4, wipe_two σ V, nx⟩
    · refine thnF (T.item Y rfl rfl rfl hc j pins s (wipe σ V) H3 (fun _ _ => False) I3 (stat I3 n3) st3 go) fun r s4 z => ?_
      obtain ⟨u, rfl, z⟩ := z
      refine thnF z fun _ s5 ⟨x, H5, I5, r5, y5, st5, n5⟩ => ?_
      have I6 := I5.pinned (stat I5 n5) (T.obj _ _ st5)
      have pg := opg.run _ s5 (wipe σ V) H5 x u _ I6 r5 (step x H5 y5)
      rw [hxe] at pg
      refine thnF pg fun _ s6 ⟨σ6, H6, I7, hw6, q6⟩ => ?_
      have pt := opt.run _ s6 σ6 H6 _ I7 q6
      rw [hxe] at pt
      refine thnF pt fun b s7 ⟨H7, I8, q8⟩ => ?_
      have back : ∀ {s' : Shared} {σ' : L2.St} {H' : Hp}, Inv Y (pins ++ pinsAt fp s5.heap) σ' H' s' → wipe σ' (restV ls) = wipe σ6 (restV ls) → N1 H' → ∃ m, m < n ∧ Iv m s' := by
        intro s' σ' H' I' hw' nx
        obtain ⟨m', hm, w'⟩ := hN1 H' nx
        have hw2 : wipe σ' V = wipe σ V := by
          rw [hV', wipe_app, hw', ← wipe_app, ← hV']; exact hw6
        have pin' : ∀ b ∈ fp, ∀ ob, s5.heap.get? b = some ob → s'.heap.get? b = some ob ∧ H' b = none := fun b hb ob e =>
          let z := I'.pin (b, ob) (List.mem_append_right _ (List.mem_append_right _ (mem_pinsAt hb e)))
          ⟨z.1, z.2.1⟩
        refine ⟨m', hm, j + 1, H', I'.unpinned.weak ?_ ?_, T.keep _ _ _ st5 fun b hb ob e => (pin' b hb ob e).1, fun b hb => ?_, w'⟩
        · rw [← hw2, wipe_length]
        · intro k v e
          rw [← hw2] at e
          exact (wipe_some e).1
        · obtain ⟨ob, e, _⟩ := T.obj _ _ st5 b hb
          exact (pin' b hb ob e).2
      match b, q8 with
      | false, q8 => exact back I8 rfl q8
      | true, q8 => exact ih _ σ6 H7 s7 N1 R _ I8 q8 fun s' ⟨σ', H', I', hw', nx⟩ => back I' hw' nx
  match ls, hd1, turnW, hfs with
  | [], hd1, turnW, _ =>
    have h1 : gens[i + 1]? = none := by
      have := congrArg (fun x : List Comprehension => x[0]?) hd1
      simpa [List.getElem?_drop] using this
    exact loop_last h0 h1 Iv turnW m0 ⟨0, H2, I2, st2, n2, w0⟩
  | l' :: ls', hd1, turnW, hfs =>
    have h1 : gens[i + 1]? = some l'.c := by
      have := congrArg (fun x : List Comprehension => x[0]?) hd1
      simpa [List.getElem?_drop] using this
    exact loop_mid h0 h1 (hfs l' (by simp)) Iv turnW m0 ⟨0, H2, I2, st2, n2, w0⟩
theorem inner (hxe : Y.xe = fun _ _ => False) (hc : Y.calm = true) (he : PE Y elt te) : ∀ (ls : List Lv) (i : Nat), gens.drop i = ls.map Lv.c → (∀ l ∈ ls, LvOk Y l) → ∀ (pins : List (Addr × Obj)) (σ : L2.St) (H : Hp) (s : Shared) (Nx : Hp → Prop) (R : Result → Shared → Prop) (P : Shared → Prop),
    Inv Y pins σ H s → tIn D te ls σ H Nx → (∀ s', Beh Y pins (restV ls) σ Nx s' → P s') → Body Y elt scope pos gens D R P i ls s
  | [], i, hd, ok, pins, σ, H, s, Nx, R, P, I, q, fin => by
    have run := he.run pins s σ H _ I q
    rw [hxe] at run
    refine thnF run fun x s1 z => ?_
    obtain ⟨y, H1, I1, r1, acc, h1, h2, h3⟩ := z
    exact L2.app_ok (X := Y) I1 h1 h2 r1 fun s2 I2 => fin s2 ⟨σ, _, I2, rfl, h3⟩
  | l :: ls, i, hd, ok, pins, σ, H, s, Nx, R, P, I, q, fin => by
    have o := ok l List.mem_cons_self
    have h0 : gens[i]? = some l.c := by
      have := congrArg (fun x : List Comprehension => x[0]?) hd
      simpa [List.getElem?_drop] using this
    have hd1 : gens.drop (i + 1) = ls.map Lv.c := by
      have := congrArg List.tail hd
      simpa [List.tail_drop] using this
    have run := o.pi.run pins s σ H _ I q
    rw [hxe] at run
    refine thnF run fun xv s1 hx => thnF hx fun itv s2 h2 => ?_
    obtain ⟨it, fp, tn, J, H2, e, I2, T, st2, f2, W, ⟨m0, w0⟩, turn⟩ := h2
    subst e
    have loop := loopLv (D := D) (te := te) (elt := elt) (scope := scope) (pos := pos) (R := fun r s' => match r with
        | .ok _ => P s'
        | .error _ => False) hxe hc hd (fun l' hl' => (ok l' (List.mem_cons_of_mem _ hl')).fs) o.pg o.pt (inner hxe hc he ls (i + 1) hd1 fun l' hl' => ok l' (List.mem_cons_of_mem _ hl')) rfl T (fun s' z => fin s' z)
        (fun _ hn b hb => ⟨hn b hb, (f2 b hb).2⟩) turn (I2.weak (wipe_length _ _) (fun j v e => (wipe_some e).1)) st2 (fun b hb => (f2 b hb).1) w0
    exact start_in h0 loop (T.self Y.A 0 _ _ _ st2 loop)
end
/-! ### the whole -/
def tLcN (wi : TI) (l : Lv) (ls : List Lv) (te : TE) : TE := fun σ H Q => wi σ H fun J H1 => ∀ D, H1 D = none → ∃ W : Nat → Nat → Hp → Prop, (∃ m, W 0 m (upd H1 D (.lst []))) ∧ ∀ j k H, W j k H →
  (J.stop j H ∧ Q (.ref D) H) ∨ (J.go j H ∧ ∃ N1 : Hp → Prop, (∀ H', N1 H' → ∃ k', k' < k ∧ W (j + 1) k' H') ∧
    ∀ x H', J.yld j H x H' → l.g x (wipe σ (restV (l :: ls))) H' fun σ2 H2 => wipe σ2 (restV (l :: ls)) = wipe σ (restV (l :: ls)) ∧ l.tt σ2 H2 fun b H3 => if b = true then tIn D te ls σ2 H3 N1 else N1 H3)
section
variable {X : Cx} {elt : Expr} {te : TE} {scope : Scope} {pos : Pos} {own : List (Str × Nat)} {l : Lv} {ls : List Lv} {wi : TI}
theorem pe_lcN (hc : X.calm = true) (hN : X.N.Nodup) (hi : PI X l.tg l.iter wi) (hs : ∀ x, foldedSetIterable l.iter X.env x = pure x) (ok : BlkOk X.N X.env.scope scope own) (hV : restV (l :: ls) = own.map (·.2))
    (hl : ∀ (s : Shared) (H : Hp) (C : Addr) (cl : List (Str × Addr)) (fp : List Addr), let Y := X.blk s H scope (compEnvC scope cl C X.env) fp; PG Y l.tg l.g ∧ PTs Y l.ifs l.tt ∧ PE Y elt te ∧ ∀ l' ∈ ls, LvOk Y l') :
    PE X (.ListComp elt (l.c :: ls.map Lv.c) scope pos) (tLcN wi l ls te) := by
  refine ⟨fun pins s σ H Q I h => ?_⟩
  rw [eval_ListComp]
  have hfree : ∀ y ∈ scope.names, y.2 = .free → ∃ c, X.env.cells.lookup y.1 = some c := fun y hy e => (ok.free y hy e).elim (fun k => I.ok.has _ (.inl k)) fun k => I.ok.has _ (.inr k)
  refine wpAny_comprehension_free (g := l.c) (gs := ls.map Lv.c) rfl hs (closure_ok hfree) ok.kind (fun y hy e => by rw [ok.uniq y hy, e]) (thn (hi.run pins s σ H _ I h) fun xv s1 hx => thn hx fun itv s2 h2 => ?_)
  obtain ⟨it, fp, tn, J, H2, e, I2, T, st2, f2, q⟩ := h2
  subst e
  refine wpAny_newObj_type (newEnv_comp ?_) (by show 0 ≤ sizeLine; decide)
  generalize hD : s2.heap.objs.size = D
  have hDn : H2 D = none := I2.hok.fresh (Nat.le_of_eq hD)
  obtain ⟨W, ⟨m0, w0⟩, turn⟩ := q D hDn
  generalize hs3 : ({ s2 with heap := s2.heap.push { cls := .type "list", data := .seq ([] : List Value).toArray } } : Shared) = s3
  have h3 : s3.heap = s2.heap.push { cls := .type "list", data := .seq ([] : List Value).toArray } := by rw [← hs3]
  have I3 : Inv X pins σ (upd H2 D (.lst [])) s3 := by
    rw [← hs3]
    refine I2.laid (t' := s2.toks) (fun b o e => Heap.get?_push_of_some _ e) (Nat.le_of_eq hD) ⟨Nat.zero_le _, [], 0, .nil, ?_⟩
    rw [← hD]
    exact Heap.get?_push_size _ rfl
  have lt2 : ∀ b ∈ fp, b < s2.heap.objs.size := fun b hb => let ⟨o, e, _⟩ := T.obj _ _ st2 b hb; Heap.lt_size e
  have f3 : ∀ b ∈ fp, FpOk X pins (upd H2 D (.lst [])) b ∧ b < s3.heap.objs.size := fun b hb => by
    have hlt := lt2 b hb
    refine ⟨⟨?_, (f2 b hb).2⟩, by rw [h3, Heap.size_push]; exact Nat.lt_succ_of_lt hlt⟩
    rw [upd_ne (by rw [← hD]; exact Nat.ne_of_lt hlt)]
    exact (f2 b hb).1
  have st3 : tn 0 s3.heap := T.keep _ _ _ st2 fun b _ o e => by rw [h3]; exact Heap.get?_push_of_some _ e
  have I4 := block_start I3 ok hN f3
  have hY := hl s3 (upd H2 D (.lst [])) s3.heap.objs.size (cellsFrom (s3.heap.objs.size + 1) scope.names (cloFrom X.env.cells scope.names [])) fp
  show codeAny _ _ (.compStart (.ListComp elt (l.c :: ls.map Lv.c) scope pos) 0 (.ref it) (.ref D) (compEnvC scope (cellsFrom (s3.heap.objs.size + 1) scope.names (cloFrom X.env.cells scope.names [])) s3.heap.objs.size X.env)) (compPost (model X.prog X.w) X.A X.xe none _ (.ref D) s3.heap.objs.size) { s3 with heap := pushCells (s3.heap.push { cls := .type "dict", data := .dict #[] }) scope.names }
  have nfp : ∀ b ∈ fp, (upd H2 D (.lst [])) b = none := fun b hb => (f3 b hb).1.1
  generalize hce : compEnvC scope (cellsFrom (s3.heap.objs.size + 1) scope.names (cloFrom X.env.cells scope.names [])) s3.heap.objs.size X.env = ce at I4 hY ⊢
  have cL : ce.locals = s3.heap.objs.size := by subst hce; rfl
  generalize hs4 : ({ s3 with heap := pushCells (s3.heap.push { cls := .type "dict", data := .dict #[] }) scope.names } : Shared) = s4 at I4 ⊢
  have st4 : tn 0 s4.heap := T.keep _ _ _ st3 fun b _ o e => by rw [← hs4]; exact pushCells_keeps _ _ _ _ (Heap.get?_push_of_some _ e)
  obtain ⟨y1, y2, y3, y4⟩ := hY
  have loop := loopLv (Y := X.blk s3 (upd H2 D (.lst [])) scope ce fp) (l := l) (ls := ls) (i := 0) (D := D) (te := te) (elt := elt) (scope := scope) (pos := pos) (gens := l.c :: ls.map Lv.c) (pins := []) (σ := σ) (V := own.map (·.2)) (fp := fp) (tn := tn) (J := J) (it := it)
    (Nx := fun H' => Q (.ref D) H') (R := compPost (model X.prog X.w) X.A X.xe none (EP X pins σ Q) (.ref D) s3.heap.objs.size) (W := W) (m0 := m0) (H2 := upd H2 D (.lst [])) (s2 := s4)
    rfl hc rfl (fun l' hl' => (y4 l' hl').fs) y1 y2 (inner (Y := X.blk s3 (upd H2 D (.lst [])) scope ce fp) rfl hc y3 ls 1 rfl y4) hV T ?fin ?stat (by rw [← hV]; exact turn) I4 st4 nfp w0
  case fin =>
    rintro s6 ⟨σ', H5, I6, hw, qq⟩
    have I7 : Inv X pins σ H5 s6 := I3.call' (ch := fp) I6.os I6.base I6.hok I6.bare fun b hb => ⟨(f3 b hb).1.2.2.2.1, (f3 b hb).1.2.1, (f3 b hb).1.2.2.2.2.1, (f3 b hb).1.2.2.2.2.2⟩
    have nC : H5 s3.heap.objs.size = none := by
      have z : H5 ce.locals = none := I6.free
      rwa [cL] at z
    obtain ⟨m, hn, _⟩ := I6.loc
    have hn : s6.heap.Ns ce.locals m := hn
    rw [cL] at hn
    obtain ⟨g0, g1, g2, g3, g4, g5⟩ := I3.fpOk (Nat.le_refl _) nC
    exact ⟨m, hn, fun h'' sb => ⟨.ref D, H5, I7.turned (t' := s6.toks) (fun b o hb e => (sb.2 b hb).trans e) nC g1 g3 g4 g5, rfl, qq⟩⟩
  case stat =>
    intro H' s' σ' I' hn b hb
    exact ⟨hn b hb, (I'.ok.exf b hb).1, I'.ok.exfs b hb, .inl hb, fun x c e => (I'.ok.exf b hb).2 x c e, fun p hp => absurd (show p ∈ ([] : List (Addr × Obj)) ++ [] from hp) (by simp)⟩
  exact codeAny_compStart_list loop (T.self X.A 0 _ _ _ st4 loop)
end
end DL
/-! DLs: comprehensions with any number of fors, by data. -/
namespace DL
open PySem PySem.Spec PyProof.Rows L2
/-- a source as it runs -/
def tI (X : Cx) (tg iter : Expr) : TI := fun σ H R => ∀ pins s, Inv X pins σ H s → wpAny (model X.prog X.w) X.A (eval iter X.env) (fun v s1 => wpAny (model X.prog X.w) X.A (pyIter v) (PIE X pins σ tg R) X.xe s1) X.xe s
theorem pi_tI {X : Cx} {tg iter : Expr} : PI X tg iter (tI X tg iter) := ⟨fun pins s σ H R I h => h pins s I⟩
theorem WI.ev {X : Cx} {tg iter : Expr} {env : DEnv} {C : CS} {kI : KI} (h : WI X tg iter env C kI) : EvI X.K (tI X tg iter) env C kI := fun G σ H R w er q pins s I => by
  obtain ⟨wi, hi, hw⟩ := h
  exact hi.run pins s σ H R I (hw G σ H R w er q)
/-- a clause by syntax: its target's reading and its names -/
structure Cl where
  tg : Expr
  iter : Expr
  ifs : List Expr
  g : TG
  vs : List Nat
def Cl.lv (X : Cx) (scope : Scope) (c : Cl) : Lv := ⟨c.tg, c.iter, c.ifs, fun σ H R => ∀ X', Blk X scope X' → tI X' c.tg c.iter σ H R, c.g, fun σ H Q => ∀ X', Blk X scope X' → tPIf X' c.ifs σ H Q, c.vs⟩
def restC (cs : List Cl) : List Nat := (cs.map (·.vs)).flatten
theorem restV_lv {X : Cx} {scope : Scope} : ∀ cs : List Cl, restV (cs.map (Cl.lv X scope)) = restC cs
  | [] => rfl
  | c :: cs => by
    show c.vs ++ restV (cs.map (Cl.lv X scope)) = _
    rw [restV_lv cs]; rfl
def DIn (X : Cx) (scope : Scope) (elt : Expr) : List Cl → DEnv → List D → CS → (List D → CS → Prop) → Prop
  | [], env, acc, C, k => ∀ X', Blk X scope X' → WE X' elt env C fun y C1 => acc.length < sizeLine ∧ k (acc ++ [y]) C1
  | c :: cs, env, acc, C, k => ∀ X', Blk X scope X' → WI X' c.tg c.iter env C fun xs Pc C1 => ∃ Iv : Nat → List D → CS → Prop, Iv 0 acc C1 ∧ (∀ j acc C, Iv j acc C → Pc C) ∧
      (∀ j d acc C, xs[j]? = some d → Iv j acc C → EvGW X.K c.g (restC (c :: cs)) d env C fun env2 C2 => ∀ X', Blk X scope X' → WIf X' c.ifs env2 C2 fun t C3 => (t = true → DIn X scope elt cs env2 acc C3 (Iv (j + 1))) ∧ (t = false → Iv (j + 1) acc C3)) ∧
      (∀ acc C, Iv xs.length acc C → k acc C)
/-- the world with the hidden list -/
structure Hd (K : PySem.W.Frag) (G0 : Hp) (C0 : CS) (H0 : Hp) (Da : Addr) (G : Hp) (C : CS) (H : Hp) (acc : List D) : Prop where
  f : Fr G0 C0 H0 G C H
  w : Wld K G C H
  l : ∃ vs, H Da = some (.lst vs) ∧ DatAll K G vs acc
  c : C Da = none
  g : G Da = none
section
variable {K : PySem.W.Frag} {G0 H0 : Hp} {C0 : CS} {Da : Addr} {G H G' H' : Hp} {C C' : CS} {acc : List D}
theorem Hd.step (h : Hd K G0 C0 H0 Da G C H acc) (f : Fr G C H G' C' H') (w : Wld K G' C' H') : Hd K G0 C0 H0 Da G' C' H' acc := by
  obtain ⟨vs, h1, h2⟩ := h.l
  refine ⟨h.f.trans f, w, ⟨vs, f.keep _ _ h1 h.c, h2.mono f.exG⟩, ?_, ?_⟩
  · cases e : C' Da with
    | none => rfl
    | some c => exact absurd h.c (f.newC Da (by rw [h1]; simp) (by rw [e]; simp))
  · cases e : G' Da with
    | none => rfl
    | some c => exact ((f.newG Da (by rw [h1]; simp) (by rw [e]; simp)).elim (fun z => z h.g) fun z => z h.c).elim
theorem Hd.add (hD : H0 Da = none) (h : Hd K G0 C0 H0 Da G C H acc) {v : V} {y : D} {vs : List V} (hv : H Da = some (.lst vs)) (r : DatAll K G vs acc) (ry : Dat K G v y) : Hd K G0 C0 H0 Da G C (upd H Da (.lst (vs ++ [v]))) (acc ++ [y]) := by
  refine ⟨⟨h.f.exG, fun a o e c => ?_, fun a e => ?_, h.f.newC, h.f.newG⟩, ⟨fun a o e => by rw [upd_ne (ne_of_none e h.g)]; exact h.w.ex a o e, fun a c e => ?_⟩, ⟨_, upd_same, r.append (.cons ry .nil)⟩, h.c, h.g⟩
  · by_cases q : a = Da
    · subst q; rw [hD] at e; cases e
    · rw [upd_ne q]; exact h.f.keep a o e c
  · by_cases q : a = Da
    · subst q; rw [upd_same]; simp
    · rw [upd_ne q]; exact h.f.dom a e
  · obtain ⟨h1, h2⟩ := h.w.cell a c e
    exact ⟨h1, h2.mono (fun _ _ h => h) (upd_ne (cell_ne e h.c))⟩
end
section
variable {X : Cx} {scope : Scope} {elt : Expr} {G0 H0 : Hp} {C0 : CS} {Da : Addr}
theorem inD (hD : H0 Da = none) : ∀ (cs : List Cl) (env : DEnv) (acc : List D) (C : CS) (k : List D → CS → Prop) (σ : L2.St) (G H : Hp) (Nx : Hp → Prop), Hd X.K G0 C0 H0 Da G C H acc → EnvR X.K G env σ → DIn X scope elt cs env acc C k →
    (∀ G' C' H' acc', Same G G' → Hd X.K G0 C0 H0 Da G' C' H' acc' → k acc' C' → Nx H') → tIn Da (fun σ H Q => ∀ X', Blk X scope X' → tS X' elt σ H Q) (cs.map (Cl.lv X scope)) σ H Nx
  | [], env, acc, C, k, σ, G, H, Nx, hd, er, h, fin => fun X' hX => by
    have h1 := h X' hX
    obtain ⟨s, H1, Ca, cl, fp, rfl⟩ := hX
    refine h1 G σ H _ hd.w er fun y G6 C6 H6 d6 f6 w6 r6 z => ?_
    have hd6 := hd.step f6 w6
    obtain ⟨vs, hv, hr⟩ := hd6.l
    exact ⟨vs, hv, by rw [hr.length]; exact z.1, fin _ _ _ _ f6.exG (hd6.add hD hv hr r6) z.2⟩
  | c :: cs, env, acc, C, k, σ, G, H, Nx, hd, er, h, fin => fun X' hX => by
    have h1 := (h X' hX).ev
    obtain ⟨s, H1, Ca, cl, fp, rfl⟩ := hX
    refine h1 G σ H _ hd.w er fun J G1 C1 H1 xs Pc f1 w1 it z => ?_
    obtain ⟨Iv, i0, hP, turn, done⟩ := z
    have hd1 := hd.step f1 w1
    refine ⟨fun i m H2 => m = xs.length - i ∧ i ≤ xs.length ∧ ∃ G2 C2 acc2, Same G1 G2 ∧ Hd X.K G0 C0 H0 Da G2 C2 H2 acc2 ∧ Iv i acc2 C2, ⟨xs.length, rfl, Nat.zero_le _, G1, C1, acc, fun _ _ h => h, hd1, i0⟩, ?_⟩
    rintro i m H2 ⟨rfl, hi2, G2, C2, acc2, s2, hd2, i2⟩
    obtain ⟨go, stop⟩ := it G2 C2 H2 s2 hd2.w (hP _ _ _ i2)
    by_cases hlt : i < xs.length
    · obtain ⟨hgo, hy⟩ := go i xs[i] (by simp [hlt])
      refine .inr ⟨hgo, fun H' => i + 1 ≤ xs.length ∧ ∃ G2 C2 acc2, Same G1 G2 ∧ Hd X.K G0 C0 H0 Da G2 C2 H' acc2 ∧ Iv (i + 1) acc2 C2, fun H' z => ⟨xs.length - (i + 1), by omega, rfl, z⟩, fun x H3 hx => ?_⟩
      obtain ⟨G3, f3, w3, r3⟩ := hy x H3 hx
      have hd3 := hd2.step f3 w3
      have t1 := turn i xs[i] acc2 C2 (by simp [hlt]) i2 G3 σ H3 x
      change c.g x (wipe σ (restV (Cl.lv X scope c :: cs.map (Cl.lv X scope)))) H3 _
      rw [show restV (Cl.lv X scope c :: cs.map (Cl.lv X scope)) = restC (c :: cs) from restV_lv (c :: cs)]
      refine t1 _ w3 (er.mono (f1.exG.trans (s2.trans f3.exG))) r3 ?_
      intro G4 C4 H4 σ4 env4 f4 w4 er4 h4 X' hX
      have h5 := h4 X' hX
      have hd4 := hd3.step f4 w4
      obtain ⟨s0, H00, Ca, cl, fp, rfl⟩ := hX
      refine h5 G4 σ4 H4 _ w4 er4 fun t G5 C5 H5 f5 w5 ht => ?_
      have hd5 := hd4.step f5 w5
      have s5 : Same G1 G5 := s2.trans (f3.exG.trans (f4.exG.trans f5.exG))
      cases t with
      | true => exact iteT (inD hD cs env4 acc2 C5 (Iv (i + 1)) σ4 G5 H5 _ hd5 (er4.mono f5.exG) (ht.1 rfl) fun G' C' H' acc' ss hh kk => ⟨hlt, G', C', acc', s5.trans ss, hh, kk⟩)
      | false => exact iteF ⟨hlt, G5, C5, acc2, s5, hd5, ht.2 rfl⟩
    · have e : i = xs.length := by omega
      subst e
      exact .inl ⟨stop _ (Nat.le_refl _), fin _ _ _ _ (f1.exG.trans s2) hd2 (done acc2 C2 i2)⟩
/-- the whole, by data -/
def WIn (X : Cx) (scope : Scope) (elt : Expr) (c : Cl) (cs : List Cl) (env : DEnv) (C : CS) (k : KD) : Prop := WI X c.tg c.iter env C fun xs Pc C1 => ∃ Iv : Nat → List D → CS → Prop, Iv 0 [] C1 ∧ (∀ j acc C, Iv j acc C → Pc C) ∧
  (∀ j d acc C, xs[j]? = some d → Iv j acc C → EvGW X.K c.g (restC (c :: cs)) d env C fun env2 C2 => ∀ X', Blk X scope X' → WIf X' c.ifs env2 C2 fun t C3 => (t = true → DIn X scope elt cs env2 acc C3 (Iv (j + 1))) ∧ (t = false → Iv (j + 1) acc C3)) ∧
  (∀ acc C, Iv xs.length acc C → ∀ p, C p = none → k (.own p) (put C p (.lst acc)))
theorem ev_lcN {c : Cl} {cs : List Cl} {env : DEnv} {C : CS} {k : KD} (h : WIn X scope elt c cs env C k) :
    Ev X.K (tLcN (tI X c.tg c.iter) (c.lv X scope) (cs.map (Cl.lv X scope)) (fun σ H Q => ∀ X', Blk X scope X' → tS X' elt σ H Q)) env C k := fun G σ H Q w er q => by
  refine WI.ev h G σ H _ w er fun J G1 C1 H1 xs Pc f1 w1 it z Da hD => ?_
  obtain ⟨Iv, i0, hP, turn, done⟩ := z
  have hn := w1.ne hD
  have h0 : H Da = none := by
    cases e : H Da with
    | none => rfl
    | some o => exact absurd hD (f1.dom Da (by rw [e]; simp))
  have hd1 : Hd X.K G C H Da G1 C1 (upd H1 Da (.lst [])) [] := ⟨f1.trans (Fr.fresh hD), ⟨fun a o e => by rw [upd_ne (ne_of_none e hn.1)]; exact w1.ex a o e, fun a c e => by
    obtain ⟨h1, h2⟩ := w1.cell a c e
    exact ⟨h1, h2.mono (fun _ _ h => h) (upd_ne (cell_ne e hn.2))⟩⟩, ⟨[], upd_same, .nil⟩, hn.2, hn.1⟩
  refine ⟨fun i m H2 => m = xs.length - i ∧ i ≤ xs.length ∧ ∃ G2 C2 acc2, Same G1 G2 ∧ Hd X.K G C H Da G2 C2 H2 acc2 ∧ Iv i acc2 C2, ⟨xs.length, rfl, Nat.zero_le _, G1, C1, [], fun _ _ h => h, hd1, i0⟩, ?_⟩
  rintro i m H2 ⟨rfl, hi2, G2, C2, acc2, s2, hd2, i2⟩
  obtain ⟨go, stop⟩ := it G2 C2 H2 s2 hd2.w (hP _ _ _ i2)
  by_cases hlt : i < xs.length
  · obtain ⟨hgo, hy⟩ := go i xs[i] (by simp [hlt])
    refine .inr ⟨hgo, fun H' => i + 1 ≤ xs.length ∧ ∃ G2 C2 acc2, Same G1 G2 ∧ Hd X.K G C H Da G2 C2 H' acc2 ∧ Iv (i + 1) acc2 C2, fun H' z => ⟨xs.length - (i + 1), by omega, rfl, z⟩, fun x H3 hx => ?_⟩
    obtain ⟨G3, f3, w3, r3⟩ := hy x H3 hx
    have hd3 := hd2.step f3 w3
    have t1 := turn i xs[i] acc2 C2 (by simp [hlt]) i2 G3 σ H3 x
    change c.g x (wipe σ (restV (Cl.lv X scope c :: cs.map (Cl.lv X scope)))) H3 _
    rw [show restV (Cl.lv X scope c :: cs.map (Cl.lv X scope)) = restC (c :: cs) from restV_lv (c :: cs)]
    refine t1 _ w3 (er.mono (f1.exG.trans (s2.trans f3.exG))) r3 ?_
    intro G4 C4 H4 σ4 env4 f4 w4 er4 h4 X' hX
    have h5 := h4 X' hX
    have hd4 := hd3.step f4 w4
    obtain ⟨s0, H00, Ca, cl, fp, rfl⟩ := hX
    refine h5 G4 σ4 H4 _ w4 er4 fun t G5 C5 H5 f5 w5 ht => ?_
    have hd5 := hd4.step f5 w5
    have s5 : Same G1 G5 := s2.trans (f3.exG.trans (f4.exG.trans f5.exG))
    cases t with
    | true => exact iteT (inD h0 cs env4 acc2 C5 (Iv (i + 1)) σ4 G5 H5 _ hd5 (er4.mono f5.exG) (ht.1 rfl) fun G' C' H' acc' ss hh kk => ⟨hlt, G', C', acc', s5.trans ss, hh, kk⟩)
    | false => exact iteF ⟨hlt, G5, C5, acc2, s5, hd5, ht.2 rfl⟩
  · have e : i = xs.length := by omega
    subst e
    obtain ⟨vs, hv, hr⟩ := hd2.l
    obtain ⟨F, w3⟩ := hd2.w.claim hd2.f h0 hv hr hd2.c hd2.g
    exact .inl ⟨stop _ (Nat.le_refl _), q _ _ _ _ _ F w3 (.own Da) (done acc2 C2 i2 Da hd2.c)⟩
theorem we_lcN {own : List (Str × Nat)} {c : Cl} {cs : List Cl} {env : DEnv} {C : CS} {k : KD} {pos : Pos} (hc : X.calm = true) (hN : X.N.Nodup) (ok : BlkOk X.N X.env.scope scope own) (hV : restC (c :: cs) = own.map (·.2))
    (hg : ∀ Y, Blk X scope Y → PG Y c.tg c.g ∧ ∀ c' ∈ cs, PG Y c'.tg c'.g) (hfs : ∀ Y, Blk X scope Y → ∀ c' ∈ cs, ∀ x, foldedSetIterable c'.iter Y.env x = pure x) (hs : ∀ x, foldedSetIterable c.iter X.env x = pure x)
    (h : WIn X scope elt c cs env C k) : WE X (.ListComp elt (⟨c.tg, c.iter, c.ifs, 0⟩ :: cs.map fun c' => ⟨c'.tg, c'.iter, c'.ifs, 0⟩) scope pos) env C k := by
  have p := pe_lcN (X := X) (elt := elt) (te := fun σ H Q => ∀ X', Blk X scope X' → tS X' elt σ H Q) (pos := pos) (l := c.lv X scope) (ls := cs.map (Cl.lv X scope)) hc hN pi_tI hs ok (by rw [← hV]; exact restV_lv (c :: cs)) (fun s H Ca cl fp => by
    have hb : Blk X scope (X.blk s H scope (compEnvC scope cl Ca X.env) fp) := ⟨s, H, Ca, cl, fp, rfl⟩
    obtain ⟨g1, g2⟩ := hg _ hb
    refine ⟨g1, ⟨fun pins s' σ H Q I z => z _ hb pins s' I⟩, ⟨fun pins s' σ H Q I z => z _ hb pins s' I⟩, fun l' hl' => ?_⟩
    obtain ⟨c', hc', rfl⟩ := List.mem_map.mp hl'
    exact ⟨⟨fun pins s' σ H R I z => z _ hb pins s' I⟩, g2 c' hc', ⟨fun pins s' σ H Q I z => z _ hb pins s' I⟩, hfs _ hb c' hc'⟩)
  have e : (c.lv X scope).c :: (cs.map (Cl.lv X scope)).map Lv.c = (⟨c.tg, c.iter, c.ifs, 0⟩ : Comprehension) :: cs.map fun c' => ⟨c'.tg, c'.iter, c'.ifs, 0⟩ := by rw [List.map_map]; rfl
  rw [← e]
  exact .of p (ev_lcN h)
end
theorem wi_ls {X : Cx} {tg e : Expr} {env : DEnv} {C : CS} {kI : KI} (h : WE X e env C fun d C1 => ∃ xs, seqR C1 d = some xs ∧ kI xs (ownP d xs) C1) : WI X tg e env C kI := by
  refine wi_list (h.imp ?_)
  rintro d C1 ⟨xs, hs, hk⟩
  refine ⟨xs, hs, ?_⟩
  have e1 : (∀ a, d ≠ .own a) → ownP d xs = fun _ => True := fun hn => by
    funext C2
    exact propext ⟨fun _ => trivial, fun _ a z => absurd z (hn a)⟩
  cases d with
  | own a =>
    have : ownP (.own a) xs = fun C2 => C2 a = some (.lst xs) := by
      funext C2
      exact propext ⟨fun z => z a rfl, fun z b e => by cases e; exact z⟩
    rw [this] at hk
    exact hk
  | lst ys => rw [e1 (fun _ => by simp)] at hk; exact hk
  | slst ys => rw [e1 (fun _ => by simp)] at hk; exact hk
  | _ => simp [seqR] at hs
end DL
/-! DLt: what is made and then stands still: lists frozen wherever they are made; == of lists' cells; repr's bound. -/
namespace DL
open PySem PySem.Spec PyProof.Rows L2 RZ
/-- a value is taken on, a list's cell frozen -/
def FrzA (k : KD) : KD := fun d C1 => (∃ a ds, d = .own a ∧ C1 a = some (.lst ds) ∧ k (.lst ds) (del C1 a)) ∨ ((∀ a, d ≠ .own a) ∧ k d C1)
theorem ev_frzA {K : PySem.W.Frag} {te : TE} {env : DEnv} {C : CS} {k : KD} (h : Ev K te env C (FrzA k)) : Ev K te env C k := fun G σ H Q w er q =>
  h G σ H _ w er fun v G1 C1 H1 d f1 w1 d1 hb => by
    rcases hb with ⟨a, ds, rfl, hc, h2⟩ | ⟨_, h2⟩
    · cases d1
      obtain ⟨G2, w2, f2, r2⟩ := w1.freeze hc
      exact q _ _ _ _ _ (f1.trans f2) w2 r2 h2
    · exact q _ _ _ _ _ f1 w1 d1 h2
section
variable {X : Cx} {e a b : Expr} {es : List Expr} {env : DEnv} {C : CS} {k : KD} {pos p p1 p2 : Pos} {P : Program} {w : World} {K : PySem.W.Frag} {mg : Str → Option Value} {base : Heap} {m : Nat}
theorem we_fa (h : WE X e env C (FrzA k)) : WE X e env C k := ev_frzA h
theorem x_addA (h : WE X a env C fun x C1 => WE X b env C1 fun y C2 => dAdd x y C2 (FrzA k)) : WE X (.BinOp a .Add b pos) env C k := we_fa (we_add h)
theorem x_mulA (h : WE X a env C fun x C1 => WE X b env C1 fun y C2 => dMul x y C2 (FrzA k)) : WE X (.BinOp a .Mult b pos) env C k := we_fa (we_mul h)
theorem x_sliceA {lo hi : Option Expr} {p2 : Pos} (h : WE X a env C fun x C1 => WO X lo env C1 fun l C2 => WO X hi env C2 fun u C3 => dSl x l u C3 (FrzA k)) : WE X (.Subscript a (.Slice lo hi none p2) pos) env C k := we_fa (we_slice h)
theorem x_listA (hx : Ctx P w K mg base m X) (Z : Zs mg) (hg : Gl X "list") (h : WA X (e :: es) env C fun ds C1 => dList ds C1 (FrzA k)) (he : starEach (e :: es) X.env = (false, eval e X.env) :: starEach es X.env := by rfl) (hpl : (backTo pos (starEach es X.env)).any (·.1) = false := by rfl) : WE X (.Call (.Name "list" p) (e :: es) [] pos) env C k := we_fa (x_listC hx Z hg h he hpl)
end
section
variable {C : CS} {k : KD} {x : D} {xs ys : List D} {i j : Int} {p : Addr} {s t : Str} {lo hi : Option Int} {b : Bool}
theorem fa_int (q : k (.int i) C) : FrzA k (.int i) C := .inr ⟨fun _ z => (by cases z), q⟩
theorem fa_str (q : k (.str s) C) : FrzA k (.str s) C := .inr ⟨fun _ z => (by cases z), q⟩
theorem fa_bl (q : k (.bl b) C) : FrzA k (.bl b) C := .inr ⟨fun _ z => (by cases z), q⟩
theorem fa_non (q : k .non C) : FrzA k .non C := .inr ⟨fun _ z => (by cases z), q⟩
theorem fa_tup (q : k (.tup xs) C) : FrzA k (.tup xs) C := .inr ⟨fun _ z => (by cases z), q⟩
theorem fa_lst (q : k (.lst xs) C) : FrzA k (.lst xs) C := .inr ⟨fun _ z => (by cases z), q⟩
theorem fa_put (h : C p = none) (q : k (.lst xs) C) : FrzA k (.own p) (put C p (.lst xs)) := .inl ⟨p, xs, rfl, put_same, by rw [del_put h]; exact q⟩
theorem slA_o {a : Addr} (hc : C a = some (.lst xs)) (q : k (.lst (cutD xs lo hi)) C) : dSl (.own a) lo hi C (FrzA k) := sl_o hc fun _ hp => fa_put hp q
theorem slA_p (q : k (.lst (cutD xs lo hi)) (put C p (.lst xs))) : dSl (.own p) lo hi (put C p (.lst xs)) (FrzA k) := slA_o put_same q
theorem slA_f (q : k (.lst (cutD xs lo hi)) C) : dSl (.lst xs) lo hi C (FrzA k) := sl_f fun _ hp => fa_put hp q
theorem slA_t (q : k (.tup (cutD xs lo hi)) C) : dSl (.tup xs) lo hi C (FrzA k) := sl_t (fa_tup q)
theorem slA_z (hl : s.length ≤ sizeLine) (q : k (.str (cutS s lo hi)) C) : dSl (.str s) lo hi C (FrzA k) := sl_z hl (fa_str q)
theorem addA_ll (h : xs.length + ys.length ≤ sizeLine) (q : k (.lst (xs ++ ys)) C) : dAdd (.lst xs) (.lst ys) C (FrzA k) := add_lst rfl rfl h fun _ hp => fa_put hp q
theorem addA_ol {a : Addr} (hc : C a = some (.lst xs)) (h : xs.length + ys.length ≤ sizeLine) (q : k (.lst (xs ++ ys)) C) : dAdd (.own a) (.lst ys) C (FrzA k) := add_lst (seqL_own hc) rfl h fun _ hp => fa_put hp q
theorem addA_pl (h : xs.length + ys.length ≤ sizeLine) (q : k (.lst (xs ++ ys)) (put C p (.lst xs))) : dAdd (.own p) (.lst ys) (put C p (.lst xs)) (FrzA k) := addA_ol put_same h q
theorem addA_lo {a : Addr} (hc : C a = some (.lst ys)) (h : xs.length + ys.length ≤ sizeLine) (q : k (.lst (xs ++ ys)) C) : dAdd (.lst xs) (.own a) C (FrzA k) := add_lst rfl (seqL_own hc) h fun _ hp => fa_put hp q
theorem addA_ii (q : k (.int (i + j)) C) : dAdd (.int i) (.int j) C (FrzA k) := add_ii (fa_int q)
theorem addA_ss (h : s.length + t.length ≤ sizeLine) (q : k (.str (s ++ t)) C) : dAdd (.str s) (.str t) C (FrzA k) := add_ss h (fa_str q)
theorem addA_tt (h : xs.length + ys.length ≤ sizeLine) (q : k (.tup (xs ++ ys)) C) : dAdd (.tup xs) (.tup ys) C (FrzA k) := add_tt h (fa_tup q)
theorem mulA_ii (h : CMul i j) (q : k (.int (i * j)) C) : dMul (.int i) (.int j) C (FrzA k) := mul_ii h (fa_int q)
theorem mulA_li (h : 0 ≤ i ∧ i ≤ 1000 ∧ xs.length ≤ 100) (q : k (.lst (List.replicate i.toNat xs).flatten) C) : dMul (.lst xs) (.int i) C (FrzA k) := by
  refine ⟨xs, rfl, by omega, by omega, ?_, fun p hp => fa_put hp q⟩
  have : xs.length * i.toNat ≤ 100 * 1000 := Nat.mul_le_mul h.2.2 (by omega)
  exact Nat.le_trans this (by decide)
theorem listA_o {a : Addr} (hc : C a = some (.lst xs)) (q : k (.lst xs) C) : dList [.own a] C (FrzA k) := ⟨_, _, rfl, seqR_own hc, fun _ hp => fa_put hp q⟩
theorem listA_p (q : k (.lst xs) (put C p (.lst xs))) : dList [.own p] (put C p (.lst xs)) (FrzA k) := listA_o put_same q
theorem listA_l (q : k (.lst xs) C) : dList [.lst xs] C (FrzA k) := ⟨_, _, rfl, rfl, fun _ hp => fa_put hp q⟩
theorem listA_t (q : k (.lst xs) C) : dList [.tup xs] C (FrzA k) := ⟨_, _, rfl, rfl, fun _ hp => fa_put hp q⟩
end
/-! ### == of lists' cells -/
theorem eqL_refl {xs : List D} {n : Nat} (h : ∀ d ∈ xs, d.fit n = true) : eqL xs xs = true := SeqAt.eqvAll_refl _ (fitL_lay xs (fitL_all.mpr h))
theorem eqv_fit {d : D} {n : Nat} (h : d.fit n = true) : PyData.eqv d.py d.py = true := SeqAt.eqv_refl _ (fit_lay d h)
theorem pyC_own {C : CS} {a : Addr} {xs : List D} {n : Nat} (hc : C a = some (.lst xs)) (h : ∀ d ∈ xs, d.fit n = true) : pyC C (.own a) = some (.list (pyL xs)) := by
  unfold pyC
  simp only [hc]
  rw [if_pos (fitL_py xs (fitL_all.mpr h))]
theorem shaped_lst {xs : List D} {n : Nat} (h : ∀ d ∈ xs, d.fit n = true) (hn : n < 64) : SeqAt.shaped (.list (pyL xs)) = true := by
  have := fit_ok (d := .lst xs) (n := n + 1) (fit_lstI h) (by omega)
  unfold D.ok at this
  rw [Bool.and_eq_true] at this
  exact this.2
section
variable {C : CS} {k : KD} {a b : Addr} {xs ys : List D} {n m : Nat}
theorem eq_oo (ha : C a = some (.lst xs)) (hb : C b = some (.lst ys)) (hx : ∀ d ∈ xs, d.fit n = true) (hy : ∀ d ∈ ys, d.fit m = true) (hn : n < 64) (hm : m < 64) (q : k (.bl (eqL xs ys)) C) : dEq false (.own a) (.own b) C k :=
  .inl ⟨_, _, pyC_own ha hx, pyC_own hb hy, shaped_lst hx hn, shaped_lst hy hm, q⟩
theorem eq_ol (ha : C a = some (.lst xs)) (hx : ∀ d ∈ xs, d.fit n = true) (hy : ∀ d ∈ ys, d.fit m = true) (hn : n < 64) (hm : m < 64) (q : k (.bl (eqL xs ys)) C) : dEq false (.own a) (.lst ys) C k := by
  refine .inl ⟨_, .list (pyL ys), pyC_own ha hx, ?_, shaped_lst hx hn, shaped_lst hy hm, q⟩
  unfold pyC
  simp only [D.isPy, fitL_py ys (fitL_all.mpr hy), if_true, D.py]
theorem eq_lo (hb : C b = some (.lst ys)) (hx : ∀ d ∈ xs, d.fit n = true) (hy : ∀ d ∈ ys, d.fit m = true) (hn : n < 64) (hm : m < 64) (q : k (.bl (eqL xs ys)) C) : dEq false (.lst xs) (.own b) C k := by
  refine .inl ⟨.list (pyL xs), _, ?_, pyC_own hb hy, shaped_lst hx hn, shaped_lst hy hm, q⟩
  unfold pyC
  simp only [D.isPy, fitL_py xs (fitL_all.mpr hx), if_true, D.py]
theorem eq_ll (hx : ∀ d ∈ xs, d.fit n = true) (hy : ∀ d ∈ ys, d.fit m = true) (hn : n < 64) (hm : m < 64) (q : k (.bl (eqL xs ys)) C) : dEq false (.lst xs) (.lst ys) C k := eq_fit (fit_lstI hx) (fit_lstI hy) q (by omega) (by omega)
end
/-! ### repr: data whose text is short -/
mutual
/-- how many parts it has (signs of texts among them) -/
def D.wt : D → Nat
  | .int _ => 200
  | .str x => x.cps.size
  | .lst xs | .slst xs | .tup xs => wtL xs
  | _ => 0
def wtL : List D → Nat
  | [] => 0
  | d :: ds => d.wt + 1 + wtL ds
end
mutual
/-- its ints have at most sixty figures -/
def D.shI : D → Bool
  | .int i => decide (i.natAbs < 10 ^ 60)
  | .lst xs | .slst xs | .tup xs => shL xs
  | _ => true
def shL : List D → Bool
  | [] => true
  | d :: ds => d.shI && shL ds
end
theorem shL_all : ∀ {ds : List D}, shL ds = true ↔ ∀ d ∈ ds, d.shI = true
  | [] => by simp [shL]
  | d :: ds => by simp [shL, shL_all (ds := ds)]
theorem wtL_le {W : Nat} : ∀ {ds : List D}, (∀ d ∈ ds, d.wt ≤ W) → wtL ds ≤ ds.length * (W + 1)
  | [], _ => Nat.zero_le _
  | d :: ds, h => by
    have h1 := h d List.mem_cons_self
    have h2 := wtL_le (ds := ds) fun x hx => h x (List.mem_cons_of_mem _ hx)
    simp only [wtL, List.length_cons]
    rw [Nat.add_mul, Nat.one_mul]
    omega
theorem int_log {i : Int} (h : i.natAbs < 10 ^ 60) : (if (i == 0) = true then 0 else i.natAbs.log2 + 1) ≤ 200 := by
  split
  · omega
  · rename_i z
    have z : i.natAbs ≠ 0 := by simpa using z
    have := (Nat.log2_lt (n := i.natAbs) (k := 200) z).mpr (Nat.lt_trans h (by decide +kernel))
    omega
mutual
theorem wt_py : ∀ (d : D) {n : Nat}, d.fit n = true → d.shI = true → d.py.weight ≤ d.wt ∧ d.py.leavesShort 61 = true ∧ d.py.showable = true ∧ d.py.hasDict = false
  | .non, _, _, _ | .bl _, _, _, _ => ⟨Nat.le_refl _, rfl, rfl, rfl⟩
  | .int i, _, _, h => by
    have h : i.natAbs < 10 ^ 60 := by simpa [D.shI] using h
    refine ⟨int_log h, ?_, ?_, rfl⟩
    · simp only [D.py, PyData.leavesShort, decide_eq_true_eq]
      have e := int_text_length_le10 (k := 60) (by decide) h
      show (Str.ofString (toString i)).length ≤ 61
      rw [PySem.ofString_length]; exact e
    · simp only [D.py, PyData.showable, decide_eq_true_eq]
      by_cases z : i.natAbs = 0
      · rw [z]; decide
      · exact (Nat.log2_lt z).mpr (Nat.lt_trans h (by decide +kernel))
  | .str x, n, h, _ => by
    have hx : PyData.strOk x = true := by cases n <;> exact h
    exact ⟨Nat.le_refl _, PyData.leavesShort_of_canLay0 61 (.str x) hx rfl, rfl, rfl⟩
  | .lst xs, 0, h, _ | .slst xs, 0, h, _ | .tup xs, 0, h, _ => by simp [D.fit] at h
  | .lst xs, n + 1, h, s => wtL_py xs (n := n) (by simpa [D.fit] using h) (by simpa [D.shI] using s)
  | .slst xs, n + 1, h, s => wtL_py xs (n := n) (by simpa [D.fit] using h) (by simpa [D.shI] using s)
  | .tup xs, n + 1, h, s => wtL_py xs (n := n) (by simpa [D.fit] using h) (by simpa [D.shI] using s)
  | .obj _ _ _, n, h, _ => by cases n <;> simp [D.fit] at h
  | .own _, n, h, _ => by cases n <;> simp [D.fit] at h
  | .opq _, n, h, _ => by cases n <;> simp [D.fit] at h
theorem wtL_py : ∀ (ds : List D) {n : Nat}, fitL n ds = true → shL ds = true → PyData.weightAll (pyL ds) ≤ wtL ds ∧ PyData.leavesShortAll 61 (pyL ds) = true ∧ PyData.showableAll (pyL ds) = true ∧ PyData.hasDictAll (pyL ds) = false
  | [], _, _, _ => ⟨Nat.le_refl _, rfl, rfl, rfl⟩
  | d :: ds, n, h, s => by
    simp only [fitL, shL, Bool.and_eq_true] at h s
    obtain ⟨a, b, c, e⟩ := wt_py d h.1 s.1
    obtain ⟨a', b', c', e'⟩ := wtL_py ds h.2 s.2
    refine ⟨?_, ?_, ?_, ?_⟩
    · simp only [pyL, PyData.weightAll, wtL]; omega
    · simp only [pyL, PyData.leavesShortAll, b, b', Bool.and_self]
    · simp only [pyL, PyData.showableAll, c, c', Bool.and_self]
    · simp only [pyL, PyData.hasDictAll, e, e', Bool.or_self]
end
theorem repr_len {x : D} {n : Nat} (hf : x.fit n = true) (hs : x.shI = true) (hw : x.wt ≤ 200000) : x.py.shown.length ≤ sizeLine := by
  obtain ⟨a, b, _, _⟩ := wt_py x hf hs
  have h := PyData.shown_le 61 (by decide) x.py b
  have : (61 + 2) * x.py.weight ≤ 63 * 200000 := Nat.mul_le_mul (by decide) (by omega)
  rw [sizeLine_eq]
  omega
section
variable {C : CS} {k : KD} {x : D} {n : Nat} {a : Addr} {xs : List D}
theorem repr_ok (hf : x.fit n = true) (hn : n ≤ 60) (hs : x.shI = true) (hw : x.wt ≤ 200000) (q : k (.str x.py.shown) C) : dRepr [x] C k := by
  obtain ⟨_, b, c, d⟩ := wt_py x hf hs
  refine ⟨x, x.py, rfl, ?_, c, d, Nat.le_trans (fit_depth x hf) hn, repr_len hf hs hw, q⟩
  have hp := fit_py x hf
  cases x <;> first | (unfold pyC; simp only [hp]; rfl) | (simp [D.isPy] at hp)
theorem repr_o (hc : C a = some (.lst xs)) (hf : ∀ d ∈ xs, d.fit n = true) (hn : n < 60) (hs : ∀ d ∈ xs, d.shI = true) (hw : wtL xs ≤ 200000) (q : k (.str (D.lst xs).py.shown) C) : dRepr [.own a] C k := by
  have hf' : (D.lst xs).fit (n + 1) = true := fit_lstI hf
  have hs' : (D.lst xs).shI = true := by simp only [D.shI]; exact shL_all.mpr hs
  obtain ⟨_, b, c, d⟩ := wt_py (.lst xs) hf' hs'
  exact ⟨.own a, (D.lst xs).py, rfl, pyC_own hc hf, c, d, Nat.le_trans (fit_depth _ hf') hn, repr_len hf' hs' hw, q⟩
end
end DL
namespace DL
open PySem PySem.Spec PyProof.Rows L2
/-- a list that a name has is frozen -/
theorem wss_frzI {X : Cx} {sts : List Stmt} {env : DEnv} {C : CS} {E : DEnds} (i : Nat) {p : Addr} {ds : List D} (he : env[i]? = some (some (.own p))) (hc : C p = some (.lst ds)) (h : WSs X sts (env.set i (some (.lst ds))) (del C p) E) : WSs X sts env C E := fun G σ H D0 w er q => by
  obtain ⟨G2, w2, f2, r2⟩ := w.freeze hc
  obtain ⟨v, h1, h2⟩ := er.2 i _ he
  cases h2
  have er2 : EnvR X.K G2 (env.set i (some (.lst ds))) σ := by
    have := (er.mono f2.exG).set i r2
    have hσ : σ.set i (some (.ref p)) = σ := by
      apply List.ext_getElem?
      intro j
      by_cases e : i = j
      · subst e
        rw [List.getElem?_set_self (List.getElem?_eq_some_iff.mp h1).1, h1]
      · rw [List.getElem?_set_ne e]
    rw [hσ] at this
    exact this
  exact h G2 σ H D0 w2 er2 (q.after f2)
end DL
/-! DLu: chains of comparisons; tuples backwards; texts in a tuple; tuples of the module; upper. -/
namespace DL
open PySem PySem.Spec PyProof.Rows L2
/-! ### a op b op' c -/
section
variable {K : PySem.W.Frag} {env : DEnv} {C : CS} {ta tb tc : TE} {k : KD} {r r' : R2} {p p' : OpD}
theorem ev_chain (hr : R2D K r p) (hr' : R2D K r' p') (h : Ev K ta env C fun x C1 => Ev K tb env C1 fun y C2 => p x y C2 fun z C3 => ∃ t, z = .bl t ∧ (t = true → Ev K tc env C3 fun w C4 => p' y w C4 k) ∧ (t = false → k (.bl false) C3)) : Ev K (tChain r r' ta tb tc) env C k := fun G σ H Q w er q =>
  h G σ H _ w er fun v G1 C1 H1 x f1 w1 d1 h1 => h1 G1 σ H1 _ w1 (er.mono f1.exG) fun u G2 C2 H2 y f2 w2 d2 h2 => hr v u x y G2 C2 H2 _ _ w2 (d1.mono f2.exG) d2 h2 fun z' G3 C3 H3 z f3 w3 d3 h3 => by
    obtain ⟨t, rfl, h4, h5⟩ := h3
    cases d3
    refine ⟨t, rfl, ?_⟩
    have F := (f1.trans f2).trans f3
    cases t with
    | true => exact iteT (h4 rfl G3 σ H3 _ w3 (er.mono F.exG) fun w' G4 C4 H4 d f4 w4 d4 h6 => hr' u w' y d G4 C4 H4 k Q w4 (d2.mono (f3.trans f4).exG) d4 h6 (q.after (F.trans f4)))
    | false => exact iteF (q _ G3 C3 H3 _ F w3 (.bl false) (h5 rfl))
end
section
variable {X : Cx} {a b c e : Expr} {env : DEnv} {C : CS} {k : KD} {kb : Bool → CS → Prop} {pos : Pos}
theorem we_lele (h : WE X a env C fun x C1 => WE X b env C1 fun y C2 => dB2 (fun i j => decide (i ≤ j)) x y C2 fun z C3 => ∃ t, z = .bl t ∧ (t = true → WE X c env C3 fun w C4 => dB2 (fun i j => decide (i ≤ j)) y w C4 k) ∧ (t = false → k (.bl false) C3))
    (hm : lastMarks [.LtE, .LtE] [b, c] = false := by with_unfolding_all rfl) : WE X (.Compare a [.LtE, .LtE] [b, c] pos) env C k := .of (pe_chain op_le op_le pe_tS pe_tS pe_tS hm) (ev_chain r2_B r2_B h)
theorem wt_lele (h : WE X a env C fun x C1 => WE X b env C1 fun y C2 => dB2 (fun i j => decide (i ≤ j)) x y C2 fun z C3 => ∃ t, z = .bl t ∧ (t = true → WE X c env C3 fun w C4 => dB2 (fun i j => decide (i ≤ j)) y w C4 (tb kb)) ∧ (t = false → kb false C3))
    (hm : lastMarks [.LtE, .LtE] [b, c] = false := by with_unfolding_all rfl) : WT X (.Compare a [.LtE, .LtE] [b, c] pos) env C kb :=
  .of (pt_chain op_le op_le pe_tS pe_tS pe_tS hm) (eb_test (ev_chain r2_B r2_B (h.imp fun x C1 z => WE.imp z fun y C2 z => by
    obtain ⟨i, j, rfl, rfl, t, e, h1, h2⟩ := z
    exact ⟨i, j, rfl, rfl, t, e, h1, fun ht => ⟨false, rfl, h2 ht⟩⟩)))
theorem we_ltle (h : WE X a env C fun x C1 => WE X b env C1 fun y C2 => dB2 (fun i j => decide (i < j)) x y C2 fun z C3 => ∃ t, z = .bl t ∧ (t = true → WE X c env C3 fun w C4 => dB2 (fun i j => decide (i ≤ j)) y w C4 k) ∧ (t = false → k (.bl false) C3))
    (hm : lastMarks [.Lt, .LtE] [b, c] = false := by with_unfolding_all rfl) : WE X (.Compare a [.Lt, .LtE] [b, c] pos) env C k := .of (pe_chain op_lt op_le pe_tS pe_tS pe_tS hm) (ev_chain r2_B r2_B h)
end
/-! ### t[::-1] -/
section
variable {prog : Program} {w : World} {A : Around} {E : Value → Shared → Prop} {s : Shared}
theorem sliceApplied_back {sl : Addr} {vl vu vs : Value} {n : Nat} {Q : Int × Int × Nat → Shared → Prop} (hs : s.heap.IsSliceOf sl vl vu vs) (pl : IsPart vl none) (pu : IsPart vu none) (ps : IsPart vs (some (-1)))
    (h : Q ((n : Int) - 1, -1, n) s) : wpAny (model prog w) A (Builtin.Slice.sliceApplied (.ref sl) (pure (n : Int))) Q E s := by
  obtain ⟨os, hos, hcs, hds⟩ := id hs
  unfold Builtin.Slice.sliceApplied Builtin.Slice.sliceFields
  refine wpAny_bind (wpAny_bind (wpAny_field hos hds (x := vl) rfl (wpAny_bind (wpAny_field hos hds (x := vu) rfl (wpAny_bind (wpAny_field hos hds (x := vs) rfl (wpAny_pure ?_)))))))
  refine wpAny_bind (HT.slicePart_ ps ?_)
  show wpAny _ _ (if ((-1 : Int) == 0) = true then _ else _) _ _ s
  rw [if_neg (by decide)]
  refine wpAny_bind (HT.slicePart_ pl (wpAny_bind (HT.slicePart_ pu (wpAny_bind (wpAny_pure ?_)))))
  show wpAny _ _ (match Builtin.Slice.sliceAdjust none none (-1) (n : Int) with | (lo, hi) => pure (lo, (-1 : Int), Builtin.Slice.slicePlaces lo hi (-1))) _ _ s
  have e1 : Builtin.Slice.sliceAdjust none none (-1) (n : Int) = ((n : Int) - 1, -1) := rfl
  rw [e1]
  show wpAny _ _ (pure ((n : Int) - 1, (-1 : Int), Builtin.Slice.slicePlaces ((n : Int) - 1) (-1) (-1))) _ _ s
  have e2 : Builtin.Slice.slicePlaces ((n : Int) - 1) (-1) (-1) = n := by
    unfold Builtin.Slice.slicePlaces
    rw [if_neg (by decide), show -(-1 : Int) = 1 from rfl, Int.ediv_one]
    split <;> omega
  rw [e2]
  exact wpAny_pure h
theorem pick_back (xs : Array Value) : ((List.range xs.size).filterMap fun (m : Nat) => xs[(((xs.size : Nat) : Int) - 1 + (m : Int) * (-1)).toNat]?).toArray = xs.toList.reverse.toArray := by
  congr 1
  apply List.ext_getElem?
  have e : ((List.range xs.size).filterMap fun (m : Nat) => xs[(((xs.size : Nat) : Int) - 1 + (m : Int) * (-1)).toNat]?) = (List.range xs.size).map fun m => xs.toList.reverse.getD m .none := by
    have : ∀ l : List Nat, (∀ m ∈ l, m < xs.size) → (l.filterMap fun (m : Nat) => xs[(((xs.size : Nat) : Int) - 1 + (m : Int) * (-1)).toNat]?) = l.map fun m => xs.toList.reverse.getD m .none := by
      intro l
      induction l with
      | nil => intro _; rfl
      | cons m l ih =>
        intro hl
        have hm := hl m List.mem_cons_self
        have e1 : (((xs.size : Nat) : Int) - 1 + (m : Int) * (-1)).toNat = xs.size - 1 - m := by omega
        have e2 : xs[xs.size - 1 - m]? = some (xs.toList.reverse.getD m .none) := by
          rw [List.getD_eq_getElem?_getD, List.getElem?_reverse (by simpa using hm), Array.length_toList, Array.getElem?_toList]
          rw [Array.getElem?_eq_getElem (by omega)]
          rfl
        rw [List.filterMap_cons, e1, e2, List.map_cons, ih fun m hm => hl m (List.mem_cons_of_mem _ hm)]
    exact this _ fun m hm => List.mem_range.mp hm
  intro i
  rw [e, List.getElem?_map]
  by_cases hi : i < xs.size
  · rw [List.getElem?_range hi, List.getElem?_eq_getElem (by simpa using hi)]
    simp [List.getD_eq_getElem?_getD, List.getElem?_eq_getElem (show i < xs.toList.reverse.length by simpa using hi)]
  · rw [List.getElem?_eq_none (by simpa using hi), List.getElem?_eq_none (by simpa using hi)]; rfl
theorem getItem_tuple_back {t sl : Addr} {items : Array Value} {vl vu vs : Value} {Q : Value → Shared → Prop} (ht : IsTup s.heap t items) (hs : s.heap.IsSliceOf sl vl vu vs) (pl : IsPart vl none) (pu : IsPart vu none) (ps : IsPart vs (some (-1)))
    (h : Q (.ref s.heap.objs.size) { s with heap := s.heap.push { cls := .type "tuple", data := .seq items.toList.reverse.toArray } })
    (hsz : items.size ≤ sizeLine) : wpAny (model prog w) A (getItem (.ref t) (.ref sl)) Q E s := by
  have htake : sizeOk (.seq items.toList.reverse.toArray) := by
    show items.toList.reverse.toArray.size ≤ sizeLine
    rw [List.size_toArray, List.length_reverse, Array.length_toList]
    exact hsz
  obtain ⟨os, hos, hcs, hds⟩ := id hs
  have hTs : s.TypeIs (.ref sl) "slice" := ⟨os, hos, hcs⟩
  unfold getItem
  try with_reducible refine wpAny_holding ?_
  first | refine wpAny_bind (wpAny_pure ?_) | skip
  refine wpAny_bind (wpAny_sequenceKey ht.typeIs (by decide) ?_)
  refine wpAny_bind (wpAny_callSpecial?_slot (name := Str.ofString "__getitem__") ht.typeIs PyProof.Rows.slot_tuple_getitem
    (wpAny_call_entry PyProof.Rows.slot_tuple_getitem ht.typeIs entry_tuple_getitem ?_ (args_tuple_getitem _ _)))
  show wpAny _ _ (Builtin.Tuple.tupleItemsOf (.ref t) >>= _) _ _ s
  refine wpAny_bind (tupleItemsOf_ ht ?_)
  refine wpAny_bind (wpAny_typeOf hTs ?_)
  rw [if_pos (by decide)]
  refine wpAny_bind (sliceApplied_back hs pl pu ps ?_)
  have hno : ¬ ((((items.size : Nat) : Int) - 1 == 0 && (-1 : Int) == 1 && items.size == items.size) = true) := by
    rw [show ((-1 : Int) == 1) = false from rfl, Bool.and_false, Bool.false_and]
    exact Bool.false_ne_true
  show wpAny _ _ (if (((items.size : Nat) : Int) - 1 == 0 && (-1 : Int) == 1 && items.size == items.size) = true then _ else _) _ _ s
  rw [if_neg hno, pick_back]
  first
    | exact wpAny_bind (m := Builtin.Tuple.tupleExact _) (wpAny_newObj_type (wpAny_pure ⟨_, rfl, wpAny_pure h⟩) htake)
    | exact wpAny_bind (m := Builtin.Tuple.tupleExact _) (wpAny_newObj_type (wpAny_bind (wpAny_pure (wpAny_pure ⟨_, rfl, wpAny_pure h⟩))) htake)
    | exact wpAny_bind (wpAny_bind (m := Builtin.Tuple.tupleExact _) (wpAny_newObj_type (wpAny_pure (wpAny_pure ⟨_, rfl, wpAny_pure h⟩)) htake))
    | exact wpAny_bind (wpAny_bind (m := Builtin.Tuple.tupleExact _) (wpAny_newObj_type (wpAny_pure ⟨_, rfl, wpAny_pure h⟩) htake))
end
def tRevT (K : PySem.W.Frag) (te : TE) : TE := fun σ H Q => te σ H fun x H1 => ∃ a xs, x = .ref a ∧ SqT K H1 a xs ∧ ∀ p, H1 p = none → Q (.ref p) (upd H1 p (.tup xs.reverse))
theorem pe_revT {X : Cx} {e : Expr} {te : TE} {k : Nat} {p1 p2 p3 pos : Pos} (he : PE X e te) : PE X (.Subscript e (.Slice none none (some (.UnaryOp .USub (.Constant (.int 1) k p1) p2)) p3) pos) (tRevT X.K te) := by
  refine ⟨fun pins s σ H Q I h => ?_⟩
  refine Subscript_ (L2.thn (he.run pins s σ H _ I h) fun v s1 ⟨x, H1, I1, r1, q1⟩ => ?_)
  obtain ⟨a, xs, ex, hx, q⟩ := q1
  subst ex
  cases r1
  have hst : PO X (some (.UnaryOp .USub (.Constant (.int 1) k p1) p2)) (tPart (tUn (rU fun i => .int (-i)) (tC (.int 1)))) := po_some (pe_un un_neg pe_int)
  refine wpAny_Slice (L2.thn (po_none.run pins s1 σ H1 (fun o H2 => o = none ∧ H2 = H1) I1 ⟨rfl, rfl⟩) fun vl s2 ⟨l, H2, I2, pl, el, e2⟩ => ?_)
  subst el e2
  refine L2.thn (po_none.run pins s2 σ H2 (fun o H3 => o = none ∧ H3 = H2) I2 ⟨rfl, rfl⟩) fun vu s3 ⟨u, H3, I3, pu, eu, e3⟩ => ?_
  subst eu e3
  refine L2.thn (hst.run pins s3 σ H3 (fun o H4 => o = some (-1) ∧ H4 = H3) I3 ⟨1, rfl, -1, rfl, rfl, rfl⟩) fun vs s4 ⟨o, H4, I4, ps, eo, e4⟩ => ?_
  subst eo e4
  have I5 : Inv X pins σ H4 { s4 with heap := s4.heap.push { cls := .type "slice", data := .fields #[vl, vu, vs] } } := I4.kept (t' := s4.toks) fun b ob q => Heap.get?_push_of_some _ q
  obtain ⟨its, r, ht, hz⟩ := I5.tuple hx
  have hlen := r.length
  show wpAny (model X.prog X.w) X.A (subscriptTail e (.Slice none none (some (.UnaryOp .USub (.Constant (.int 1) k p1) p2)) p3) (.ref a) (.ref s4.heap.objs.size)) (EP X pins σ Q) X.xe { s4 with heap := s4.heap.push { cls := .type "slice", data := .fields #[vl, vu, vs] } }
  refine tail_any (ops := [.ref a, .ref s4.heap.objs.size]) ht.typeIs (PyProof.Rows.slot_tuple_getitem.lookup) ?_ (by with_unfolding_all rfl)
  refine getItem_tuple_back ht (Heap.IsSliceOf.new _ vl vu vs) pl pu ps ?_ (by rw [List.size_toArray]; omega)
  refine ⟨.ref _, _, I5.laid (t' := s4.toks) (o := .tup xs.reverse) (fun b ob q => Heap.get?_push_of_some _ q) (Nat.le_refl _) ?_, rfl, q _ (I5.hok.fresh (Nat.le_refl _))⟩
  exact ⟨by rw [List.length_reverse]; exact hz, _, r.reverse, IsTup.new _ _⟩
section
variable {X : Cx} {e : Expr} {env : DEnv} {C : CS} {k : KD} {pos p1 p2 p3 : Pos} {j : Nat}
theorem we_revT (h : WE X e env C fun d C1 => ∃ xs, d = .tup xs ∧ k (.tup xs.reverse) C1) : WE X (.Subscript e (.Slice none none (some (.UnaryOp .USub (.Constant (.int 1) j p1) p2)) p3) pos) env C k :=
  .of (pe_revT pe_tS) fun G σ H Q w er q => h G σ H _ w er fun v G1 C1 H1 d f1 w1 r1 z => by
    obtain ⟨xs, rfl, z⟩ := z
    obtain ⟨a, vs, rfl, h1, h2⟩ := w1.tup r1
    refine ⟨a, vs, rfl, h1, fun p hp => ?_⟩
    obtain ⟨w2, f2, s2⟩ := w1.newG hp (.tup vs.reverse)
    exact q _ _ _ _ _ (f1.trans f2) w2 (.tup (SqT.of upd_same) (h2.rev.mono s2)) z
end
/-! ### tuples of texts -/
theorem in_tup {C : CS} {k : KD} {z : Str} {xs : List D} {zs : List Str} (e : xs = zs.map D.str) (q : k (.bl (decide (z ∈ zs))) C) : dIn false (.str z) (.tup xs) C k := ⟨z, zs, rfl, by rw [e], q⟩
theorem nin_tup {C : CS} {k : KD} {z : Str} {xs : List D} {zs : List Str} (e : xs = zs.map D.str) (q : k (.bl (!decide (z ∈ zs))) C) : dIn true (.str z) (.tup xs) C k := ⟨z, zs, rfl, by rw [e], q⟩
/-! ### tuples of the module -/
theorem mgk_tup {K : PySem.W.Frag} {mg : Str → Option Value} {x : Str} {a : Addr} {o : Obj} {its : Array Value} {n : Nat} {xs : List V} {ds : List D} (h : mg x = some (.ref a)) (l : K.lookup a = some o) (hc : o.cls = .type "tuple") (hd : o.data = .seq its n) (hz : its.size ≤ sizeLine) (hv : Vals xs its.toList) (hD : ∀ G, DatAll K G xs ds) : MgK K mg x (.tup ds) :=
  ⟨_, .ref a, h, rfl, fun G => .tup (.inr ⟨o, its, n, l, hc, hd, hz, hv⟩) (hD G)⟩
theorem datAll_strsI {K : PySem.W.Frag} {G : Hp} : ∀ zs : List Str, DatAll K G (zs.map V.str) (zs.map D.str)
  | [] => .nil
  | z :: zs => .cons (.str z) (datAll_strsI zs)
/-! ### upper -/
def dUpper : D → List D → CS → KD → Prop := fun x ds C k => ∃ z, x = .str z ∧ ds = [] ∧ z.length ≤ 5592405 ∧ k (.str (Txt.upper z)) C
theorem rm_upper {K : PySem.W.Frag} : RMD K (fun x xs H Q => ∃ a, x = .str a ∧ xs = [] ∧ a.length ≤ 5592405 ∧ Q (.str (Txt.upper a)) H) dUpper := by
  rintro x a xs ds G C H k Q w r rs ⟨z, rfl, rfl, h, hk⟩ q
  cases r; cases rs
  exact ⟨z, rfl, rfl, h, q _ _ _ _ _ (Fr.refl ..) w (.str _) hk⟩
theorem x_upper {X : Cx} {o : Expr} {env : DEnv} {C : CS} {k : KD} {apos cpos : Pos} (h : WE X o env C fun x C1 => tyD "str" C1 x ∧ dUpper x [] C1 k) (hbase : attributeBase o "upper" X.env (eval o X.env) = eval o X.env := by rfl) (hline : (apos.endLine == cpos.line) = true := by rfl) :
    WE X (.Call (.Attribute o "upper" apos) [] [] cpos) env C k := we_bm0 PySem.F.plainAttrs_str PySem.F.slot_str_upper PySem.F.type_str_upper mt_upper rm_upper h hbase hline
theorem up1_lt {c : Nat} (h : c < 128) : up1 c < 128 := by unfold up1; split <;> omega
theorem upper_len {z : Str} (h : ∀ c ∈ z.cps.toList, c < 128) : (Txt.upper z).length = z.length ∧ ∀ c ∈ (Txt.upper z).cps.toList, c < 128 := by
  rw [upper_ascii h]
  refine ⟨Array.size_map .., fun c hc => ?_⟩
  rw [Array.toList_map] at hc
  obtain ⟨d, hd, rfl⟩ := List.mem_map.mp hc
  exact up1_lt (h d hd)
end DL
namespace K31
open PySem L2 DL
def top (i : Nat) : Stmt := PySem.Challenge.pw_chainedreports_k01_names_rows_gaps.main.body.getD i (.Pass ⟨0, 0, 0, 0⟩)

/-! is_integer -/
abbrev s_is_integer : Stmt := top 8
abbrev N_is_integer : List Str := ["thing"]
abbrev M_is_integer : List Str := ["thing"]
abbrev P_is_integer : List Str := ["thing"]
abbrev G_is_integer : List Str := ["isinstance", "int", "bool"]
theorem sc_is_integer : FnScope N_is_integer P_is_integer (defScope s_is_integer) := ⟨rfl, rfl, rfl, by decide +kernel, rfl, by decide +kernel, by decide +kernel⟩
theorem v_is_integer : visC (defScope s_is_integer) M_is_integer = true := by decide +kernel
theorem l_is_integer : locC (defScope s_is_integer) M_is_integer = true := by decide +kernel
abbrev D_is_integer : List Str := ["isinstance", "int", "bool"]
theorem g_is_integer : glC (defScope s_is_integer) D_is_integer = true := by decide +kernel

/-! is_from -/
abbrev s_is_from : Stmt := top 9
abbrev N_is_from : List Str := ["thing", "low"]
abbrev M_is_from : List Str := ["thing", "low"]
abbrev P_is_from : List Str := ["thing", "low"]
abbrev G_is_from : List Str := ["is_integer"]
theorem sc_is_from : FnScope N_is_from P_is_from (defScope s_is_from) := ⟨rfl, rfl, rfl, by decide +kernel, rfl, by decide +kernel, by decide +kernel⟩
theorem v_is_from : visC (defScope s_is_from) M_is_from = true := by decide +kernel
theorem l_is_from : locC (defScope s_is_from) M_is_from = true := by decide +kernel
abbrev D_is_from : List Str := ["is_integer"]
theorem g_is_from : glC (defScope s_is_from) D_is_from = true := by decide +kernel

/-! is_name -/
abbrev s_is_name : Stmt := top 10
abbrev N_is_name : List Str := ["thing", "sign"]
abbrev M_is_name : List Str := ["thing"]
abbrev P_is_name : List Str := ["thing"]
abbrev G_is_name : List Str := ["all", "isinstance", "str", "MOST_LETTERS", "LETTERS", "len"]
theorem sc_is_name : FnScope N_is_name P_is_name (defScope s_is_name) := ⟨rfl, rfl, rfl, by decide +kernel, rfl, by decide +kernel, by decide +kernel⟩
theorem v_is_name : visC (defScope s_is_name) M_is_name = true := by decide +kernel
theorem l_is_name : locC (defScope s_is_name) M_is_name = true := by decide +kernel
abbrev D_is_name : List Str := ["all", "isinstance", "str", "MOST_LETTERS", "len"]
theorem g_is_name : glC (defScope s_is_name) D_is_name = true := by decide +kernel
-- comprehension at 16: own ["sign"] reads ["sign", "thing"] globals ["LETTERS"]

/-! is_line -/
abbrev s_is_line : Stmt := top 11
abbrev N_is_line : List Str := ["thing"]
abbrev M_is_line : List Str := ["thing"]
abbrev P_is_line : List Str := ["thing"]
abbrev G_is_line : List Str := ["isinstance", "str", "FEED"]
theorem sc_is_line : FnScope N_is_line P_is_line (defScope s_is_line) := ⟨rfl, rfl, rfl, by decide +kernel, rfl, by decide +kernel, by decide +kernel⟩
theorem v_is_line : visC (defScope s_is_line) M_is_line = true := by decide +kernel
theorem l_is_line : locC (defScope s_is_line) M_is_line = true := by decide +kernel
abbrev D_is_line : List Str := ["isinstance", "str", "FEED"]
theorem g_is_line : glC (defScope s_is_line) D_is_line = true := by decide +kernel

/-! is_shown -/
abbrev s_is_shown : Stmt := top 12
abbrev N_is_shown : List Str := ["thing"]
abbrev M_is_shown : List Str := ["thing"]
abbrev P_is_shown : List Str := ["thing"]
abbrev G_is_shown : List Str := ["TEXT", "is_line", "LACK", "isinstance", "str", "LACKS", "tuple", "len"]
theorem sc_is_shown : FnScope N_is_shown P_is_shown (defScope s_is_shown) := ⟨rfl, rfl, rfl, by decide +kernel, rfl, by decide +kernel, by decide +kernel⟩
theorem v_is_shown : visC (defScope s_is_shown) M_is_shown = true := by decide +kernel
theorem l_is_shown : locC (defScope s_is_shown) M_is_shown = true := by decide +kernel
abbrev D_is_shown : List Str := ["TEXT", "is_line", "LACK", "isinstance", "str", "LACKS", "tuple", "len"]
theorem g_is_shown : glC (defScope s_is_shown) D_is_shown = true := by decide +kernel

/-! is_row -/
abbrev s_is_row : Stmt := top 13
abbrev N_is_row : List Str := ["thing", "file", "edition", "line", "function", "shown"]
abbrev M_is_row : List Str := ["thing", "file", "edition", "line", "function", "shown"]
abbrev P_is_row : List Str := ["thing"]
abbrev G_is_row : List Str := ["is_from", "isinstance", "tuple", "len", "is_name", "is_shown"]
theorem sc_is_row : FnScope N_is_row P_is_row (defScope s_is_row) := ⟨rfl, rfl, rfl, by decide +kernel, rfl, by decide +kernel, by decide +kernel⟩
theorem v_is_row : visC (defScope s_is_row) M_is_row = true := by decide +kernel
theorem l_is_row : locC (defScope s_is_row) M_is_row = true := by decide +kernel
abbrev D_is_row : List Str := ["is_from", "isinstance", "tuple", "len", "is_name", "is_shown"]
theorem g_is_row : glC (defScope s_is_row) D_is_row = true := by decide +kernel

/-! is_gap -/
abbrev s_is_gap : Stmt := top 14
abbrev N_is_gap : List Str := ["thing"]
abbrev M_is_gap : List Str := ["thing"]
abbrev P_is_gap : List Str := ["thing"]
abbrev G_is_gap : List Str := ["isinstance", "str", "GAP", "is_from", "tuple", "len"]
theorem sc_is_gap : FnScope N_is_gap P_is_gap (defScope s_is_gap) := ⟨rfl, rfl, rfl, by decide +kernel, rfl, by decide +kernel, by decide +kernel⟩
theorem v_is_gap : visC (defScope s_is_gap) M_is_gap = true := by decide +kernel
theorem l_is_gap : locC (defScope s_is_gap) M_is_gap = true := by decide +kernel
abbrev D_is_gap : List Str := ["isinstance", "str", "GAP", "is_from", "tuple", "len"]
theorem g_is_gap : glC (defScope s_is_gap) D_is_gap = true := by decide +kernel

/-! _law_bag -/
abbrev s_bag : Stmt := top 16
abbrev N_bag : List Str := ["_law_script", "_law_at", "_law_cell"]
abbrev M_bag : List Str := ["_law_script", "_law_at", "_law_cell"]
abbrev P_bag : List Str := ["_law_script", "_law_at"]
abbrev G_bag : List Str := ["len", "abs", "int"]
theorem sc_bag : FnScope N_bag P_bag (defScope s_bag) := ⟨rfl, rfl, rfl, by decide +kernel, rfl, by decide +kernel, by decide +kernel⟩
theorem v_bag : visC (defScope s_bag) M_bag = true := by decide +kernel
theorem l_bag : locC (defScope s_bag) M_bag = true := by decide +kernel
abbrev D_bag : List Str := ["len", "abs", "int"]
theorem g_bag : glC (defScope s_bag) D_bag = true := by decide +kernel

/-! _law_take -/
abbrev s_take : Stmt := top 17
abbrev N_take : List Str := ["_law_bag_here", "_law_many", "_law_primes", "_law_step", "_law_base", "_law_mixed", "_law_more", "_law_digit"]
abbrev M_take : List Str := ["_law_bag_here", "_law_many", "_law_primes", "_law_step", "_law_base", "_law_mixed", "_law_more", "_law_digit"]
abbrev P_take : List Str := ["_law_bag_here", "_law_many"]
abbrev G_take : List Str := []
theorem sc_take : FnScope N_take P_take (defScope s_take) := ⟨rfl, rfl, rfl, by decide +kernel, rfl, by decide +kernel, by decide +kernel⟩
theorem v_take : visC (defScope s_take) M_take = true := by decide +kernel
theorem l_take : locC (defScope s_take) M_take = true := by decide +kernel
abbrev D_take : List Str := []
theorem g_take : glC (defScope s_take) D_take = true := by decide +kernel

/-! _law_of -/
abbrev s_of : Stmt := top 18
abbrev N_of : List Str := ["_law_bag_here", "_law_some"]
abbrev M_of : List Str := ["_law_bag_here", "_law_some"]
abbrev P_of : List Str := ["_law_bag_here", "_law_some"]
abbrev G_of : List Str := ["_law_take", "len"]
theorem sc_of : FnScope N_of P_of (defScope s_of) := ⟨rfl, rfl, rfl, by decide +kernel, rfl, by decide +kernel, by decide +kernel⟩
theorem v_of : visC (defScope s_of) M_of = true := by decide +kernel
theorem l_of : locC (defScope s_of) M_of = true := by decide +kernel
abbrev D_of : List Str := ["_law_take", "len"]
theorem g_of : glC (defScope s_of) D_of = true := by decide +kernel

/-! _law_name -/
abbrev s_name : Stmt := top 19
abbrev N_name : List Str := ["_law_bag_here", "_law_words", "_law_letters", "_law_k"]
abbrev M_name : List Str := ["_law_bag_here", "_law_words", "_law_letters"]
abbrev P_name : List Str := ["_law_bag_here"]
abbrev G_name : List Str := ["_law_take", "_law_of", "range"]
theorem sc_name : FnScope N_name P_name (defScope s_name) := ⟨rfl, rfl, rfl, by decide +kernel, rfl, by decide +kernel, by decide +kernel⟩
theorem v_name : visC (defScope s_name) M_name = true := by decide +kernel
theorem l_name : locC (defScope s_name) M_name = true := by decide +kernel
abbrev D_name : List Str := ["_law_take", "_law_of", "range"]
theorem g_name : glC (defScope s_name) D_name = true := by decide +kernel
-- comprehension at 63: own ["_law_k"] reads ["_law_letters", "_law_bag_here"] globals ["_law_take", "range", "_law_of"]

/-! _law_line -/
abbrev s_line : Stmt := top 20
abbrev N_line : List Str := ["_law_bag_here", "_law_lines", "_law_signs", "_law_k"]
abbrev M_line : List Str := ["_law_bag_here", "_law_lines", "_law_signs"]
abbrev P_line : List Str := ["_law_bag_here"]
abbrev G_line : List Str := ["_law_take", "_law_of", "range"]
theorem sc_line : FnScope N_line P_line (defScope s_line) := ⟨rfl, rfl, rfl, by decide +kernel, rfl, by decide +kernel, by decide +kernel⟩
theorem v_line : visC (defScope s_line) M_line = true := by decide +kernel
theorem l_line : locC (defScope s_line) M_line = true := by decide +kernel
abbrev D_line : List Str := ["_law_take", "_law_of", "range"]
theorem g_line : glC (defScope s_line) D_line = true := by decide +kernel
-- comprehension at 69: own ["_law_k"] reads ["_law_signs", "_law_bag_here"] globals ["_law_take", "range"]

/-! _law_row -/
abbrev s_row : Stmt := top 21
abbrev N_row : List Str := ["_law_bag_here", "_law_shown", "_law_stand", "_law_spot"]
abbrev M_row : List Str := ["_law_bag_here", "_law_shown", "_law_stand", "_law_spot"]
abbrev P_row : List Str := ["_law_bag_here"]
abbrev G_row : List Str := ["_law_of", "_law_name", "_law_line"]
theorem sc_row : FnScope N_row P_row (defScope s_row) := ⟨rfl, rfl, rfl, by decide +kernel, rfl, by decide +kernel, by decide +kernel⟩
theorem v_row : visC (defScope s_row) M_row = true := by decide +kernel
theorem l_row : locC (defScope s_row) M_row = true := by decide +kernel
abbrev D_row : List Str := ["_law_of", "_law_name", "_law_line"]
theorem g_row : glC (defScope s_row) D_row = true := by decide +kernel

/-! _law_is_name -/
abbrev s_law_is_name : Stmt := top 22
abbrev N_law_is_name : List Str := ["_law_thing", "_law_sign"]
abbrev M_law_is_name : List Str := ["_law_thing"]
abbrev P_law_is_name : List Str := ["_law_thing"]
abbrev G_law_is_name : List Str := ["all", "isinstance", "str", "len"]
theorem sc_law_is_name : FnScope N_law_is_name P_law_is_name (defScope s_law_is_name) := ⟨rfl, rfl, rfl, by decide +kernel, rfl, by decide +kernel, by decide +kernel⟩
theorem v_law_is_name : visC (defScope s_law_is_name) M_law_is_name = true := by decide +kernel
theorem l_law_is_name : locC (defScope s_law_is_name) M_law_is_name = true := by decide +kernel
abbrev D_law_is_name : List Str := ["all", "isinstance", "str", "len"]
theorem g_law_is_name : glC (defScope s_law_is_name) D_law_is_name = true := by decide +kernel
-- comprehension at 77: own ["_law_sign"] reads ["_law_sign", "_law_thing"] globals []

/-! _law_is_from -/
abbrev s_law_is_from : Stmt := top 23
abbrev N_law_is_from : List Str := ["_law_thing", "_law_low"]
abbrev M_law_is_from : List Str := ["_law_thing", "_law_low"]
abbrev P_law_is_from : List Str := ["_law_thing", "_law_low"]
abbrev G_law_is_from : List Str := ["isinstance", "int", "bool"]
theorem sc_law_is_from : FnScope N_law_is_from P_law_is_from (defScope s_law_is_from) := ⟨rfl, rfl, rfl, by decide +kernel, rfl, by decide +kernel, by decide +kernel⟩
theorem v_law_is_from : visC (defScope s_law_is_from) M_law_is_from = true := by decide +kernel
theorem l_law_is_from : locC (defScope s_law_is_from) M_law_is_from = true := by decide +kernel
abbrev D_law_is_from : List Str := ["isinstance", "int", "bool"]
theorem g_law_is_from : glC (defScope s_law_is_from) D_law_is_from = true := by decide +kernel

/-! _law_is_row -/
abbrev s_law_is_row : Stmt := top 24
abbrev N_law_is_row : List Str := ["_law_thing", "_law_shown"]
abbrev M_law_is_row : List Str := ["_law_thing", "_law_shown"]
abbrev P_law_is_row : List Str := ["_law_thing"]
abbrev G_law_is_row : List Str := ["isinstance", "tuple", "len", "_law_is_name", "_law_is_from", "str"]
theorem sc_law_is_row : FnScope N_law_is_row P_law_is_row (defScope s_law_is_row) := ⟨rfl, rfl, rfl, by decide +kernel, rfl, by decide +kernel, by decide +kernel⟩
theorem v_law_is_row : visC (defScope s_law_is_row) M_law_is_row = true := by decide +kernel
theorem l_law_is_row : locC (defScope s_law_is_row) M_law_is_row = true := by decide +kernel
abbrev D_law_is_row : List Str := ["isinstance", "tuple", "len", "_law_is_name", "_law_is_from", "str"]
theorem g_law_is_row : glC (defScope s_law_is_row) D_law_is_row = true := by decide +kernel

/-! _law_is_gap -/
abbrev s_law_is_gap : Stmt := top 25
abbrev N_law_is_gap : List Str := ["_law_thing"]
abbrev M_law_is_gap : List Str := ["_law_thing"]
abbrev P_law_is_gap : List Str := ["_law_thing"]
abbrev G_law_is_gap : List Str := ["isinstance", "tuple", "_law_is_from", "len"]
theorem sc_law_is_gap : FnScope N_law_is_gap P_law_is_gap (defScope s_law_is_gap) := ⟨rfl, rfl, rfl, by decide +kernel, rfl, by decide +kernel, by decide +kernel⟩
theorem v_law_is_gap : visC (defScope s_law_is_gap) M_law_is_gap = true := by decide +kernel
theorem l_law_is_gap : locC (defScope s_law_is_gap) M_law_is_gap = true := by decide +kernel
abbrev D_law_is_gap : List Str := ["isinstance", "tuple", "_law_is_from", "len"]
theorem g_law_is_gap : glC (defScope s_law_is_gap) D_law_is_gap = true := by decide +kernel

/-! _law_odd -/
abbrev s_odd : Stmt := top 26
abbrev N_odd : List Str := ["_law_bag_here", "_law_thing", "_law_some"]
abbrev M_odd : List Str := ["_law_bag_here", "_law_thing", "_law_some"]
abbrev P_odd : List Str := ["_law_bag_here", "_law_thing"]
abbrev G_odd : List Str := ["isinstance", "tuple", "str", "int", "_law_of", "list"]
theorem sc_odd : FnScope N_odd P_odd (defScope s_odd) := ⟨rfl, rfl, rfl, by decide +kernel, rfl, by decide +kernel, by decide +kernel⟩
theorem v_odd : visC (defScope s_odd) M_odd = true := by decide +kernel
theorem l_odd : locC (defScope s_odd) M_odd = true := by decide +kernel
abbrev D_odd : List Str := ["isinstance", "tuple", "str", "int", "_law_of", "list"]
theorem g_odd : glC (defScope s_odd) D_odd = true := by decide +kernel

/-! _law_bent -/
abbrev s_bent : Stmt := top 27
abbrev N_bent : List Str := ["_law_bag_here", "_law_thing", "_law_parts", "_law_at", "_law_road"]
abbrev M_bent : List Str := ["_law_bag_here", "_law_thing", "_law_parts", "_law_at", "_law_road"]
abbrev P_bent : List Str := ["_law_bag_here", "_law_thing"]
abbrev G_bent : List Str := ["_law_odd", "list", "_law_take", "isinstance", "tuple", "len", "_law_bent"]
theorem sc_bent : FnScope N_bent P_bent (defScope s_bent) := ⟨rfl, rfl, rfl, by decide +kernel, rfl, by decide +kernel, by decide +kernel⟩
theorem v_bent : visC (defScope s_bent) M_bent = true := by decide +kernel
theorem l_bent : locC (defScope s_bent) M_bent = true := by decide +kernel
abbrev D_bent : List Str := ["_law_odd", "list", "_law_take", "isinstance", "tuple", "len", "_law_bent"]
theorem g_bent : glC (defScope s_bent) D_bent = true := by decide +kernel

/-! _law_right -/
abbrev s_right : Stmt := top 28
abbrev N_right : List Str := ["_law_thing", "_law_before", "_law_told", "_law_due"]
abbrev M_right : List Str := ["_law_thing", "_law_before", "_law_told", "_law_due"]
abbrev P_right : List Str := ["_law_thing"]
abbrev G_right : List Str := ["repr", "is_name", "is_row", "is_gap", "_law_is_name", "_law_is_row", "_law_is_gap"]
theorem sc_right : FnScope N_right P_right (defScope s_right) := ⟨rfl, rfl, rfl, by decide +kernel, rfl, by decide +kernel, by decide +kernel⟩
theorem v_right : visC (defScope s_right) M_right = true := by decide +kernel
theorem l_right : locC (defScope s_right) M_right = true := by decide +kernel
abbrev D_right : List Str := ["repr", "is_name", "is_row", "is_gap", "_law_is_name", "_law_is_row", "_law_is_gap"]
theorem g_right : glC (defScope s_right) D_right = true := by decide +kernel

/-! law -/
abbrev s_law : Stmt := top 29
abbrev N_law : List Str := ["_law_script", "_law_word", "_law_at", "_law_bag_here", "_law_turn", "_law_thing", "_law_k"]
abbrev M_law : List Str := ["_law_script", "_law_word", "_law_at", "_law_bag_here", "_law_turn", "_law_thing", "_law_k"]
abbrev P_law : List Str := ["_law_script"]
abbrev G_law : List Str := ["range", "max", "_law_bag", "min", "_law_of", "_law_right", "len", "_law_row", "_law_name", "_law_bent", "_law_take"]
theorem sc_law : FnScope N_law P_law (defScope s_law) := ⟨rfl, rfl, rfl, by decide +kernel, rfl, by decide +kernel, by decide +kernel⟩
theorem v_law : visC (defScope s_law) M_law = true := by decide +kernel
theorem l_law : locC (defScope s_law) M_law = true := by decide +kernel
abbrev D_law : List Str := ["range", "max", "_law_bag", "min", "_law_of", "_law_right", "len", "_law_row", "_law_name", "_law_bent", "_law_take"]
theorem g_law : glC (defScope s_law) D_law = true := by decide +kernel

end K31
set_option maxHeartbeats 4000000
open PySem L2 DL
local macro_rules | `(tactic| walk_at "nmG") => `(tactic| first | with_reducible exact Get.here _ _ _ _ | ((with_reducible apply Get.there); walk_at "nmG"))
local macro_rules | `(tactic| walk_at "nmP") => `(tactic| first | with_reducible exact Put.here _ _ _ _ | ((with_reducible apply Put.there); walk_at "nmP"))
local macro_rules | `(tactic| walk_at "nmM") => `(tactic| first | with_reducible exact Mem.here _ _ | ((with_reducible apply Mem.there); walk_at "nmM"))
local macro_rules | `(tactic| walk_at "nm") => `(tactic| first | walk_at "nmM" | walk_at "nmG" | walk_at "nmP")
local macro_rules | `(tactic| walk_at "gl") => `(tactic| (refine Gls.at (by assumption) ?_; walk_at "nm"))
local macro_rules | `(tactic| walk_at "kd") => `(tactic| first | rfl | assumption | exact kind_of_py (by assumption))
local macro_rules | `(tactic| walk_at "ct") => `(tactic| first | trivial | assumption | omega | exact Or.inl ⟨by omega, by omega⟩ | exact Or.inr ⟨by omega, by omega⟩ | decide)
local macro_rules | `(tactic| walk_at "py1") => `(tactic| first
  | ((with_reducible refine' x_ifWge ?kb ?k0 ?kp ?_); (case kb => assumption); (case k0 => walk_at "nm"); (case kp => walk_at "nm"))
  | with_reducible refine wss_cons ?_
  | with_reducible refine wss_nil ?_
  | with_reducible refine ws_ret ?_
  | with_reducible refine ws_retN ?_
  | with_reducible refine ws_if ?_
  | with_reducible refine ws_pass ?_
  | with_reducible refine ws_break ?_
  | with_reducible refine ws_continue ?_
  | with_reducible refine we_and ?_
  | with_reducible refine we_or ?_
  | with_reducible refine we_one ?_
  | with_reducible refine we_not ?_
  | with_reducible refine we_if ?_
  | with_reducible refine we_int ?_
  | with_reducible refine we_bl ?_
  | with_reducible refine we_non ?_
  | with_reducible refine we_str ?_
  | with_reducible refine we_tup ?_
  | with_reducible refine wa_nil ?_
  | ((with_reducible refine' wa_cons ?_ ?k1); (case k1 => rfl))
  | ((with_reducible refine' we_nm ?k1 ?k0 ?k2 ?_); (case k1 => assumption); (case k0 => walk_at "nm"); (case k2 => walk_at "nm"))
  | with_reducible refine we_add ?_
  | with_reducible refine we_sub' ?_
  | with_reducible refine we_mul ?_
  | with_reducible refine we_mod ?_
  | with_reducible refine we_fdiv ?_
  | with_reducible refine we_pow ?_
  | with_reducible refine we_neg ?_
  | with_reducible refine we_lt ?_
  | with_reducible refine we_le ?_
  | with_reducible refine we_gt ?_
  | with_reducible refine we_ge ?_
  | with_reducible refine we_is ?_
  | with_reducible refine we_isnot ?_
  | ((with_reducible refine' x_eq ?k1 ?_); (case k1 => assumption))
  | ((with_reducible refine' xt_eq ?k1 ?_); (case k1 => assumption))
  | ((with_reducible refine' x_ne ?k1 ?_); (case k1 => assumption))
  | ((with_reducible refine' xt_ne ?k1 ?_); (case k1 => assumption))
  | ((with_reducible refine' x_in ?k1 ?_ ?k2); (case k1 => assumption); (case k2 => rfl))
  | ((with_reducible refine' xt_in ?k1 ?_ ?k2); (case k1 => assumption); (case k2 => rfl))
  | ((with_reducible refine' x_nin ?k1 ?_ ?k2); (case k1 => assumption); (case k2 => rfl))
  | ((with_reducible refine' xt_nin ?k1 ?_ ?k2); (case k1 => assumption); (case k2 => rfl))
  | with_reducible refine wt_lt ?_
  | with_reducible refine wt_le ?_
  | with_reducible refine wt_gt ?_
  | with_reducible refine wt_ge ?_
  | with_reducible refine wt_is ?_
  | with_reducible refine wt_isnot ?_
  | with_reducible refine wt_not ?_
  | with_reducible refine wt_bo ?_
  | with_reducible refine ww_and ?_
  | with_reducible refine ww_or ?_
  | with_reducible refine ww_and1 ?_
  | with_reducible refine ww_or1 ?_
  | ((with_reducible refine' x_ixL ?_ ?k1); (case k1 => (intro _ _; rfl)))
  | ((with_reducible refine' we_ix ?_ ?k1); (case k1 => (intro _ _; rfl)))
  | with_reducible refine we_slice ?_
  | ((with_reducible refine' x_isiT ?kx ?kz ?kg ?_ ?k1 ?k2); (case kx => assumption); (case kz => assumption); (case kg => walk_at "gl"); (case k1 => rfl); (case k2 => rfl))
  | ((with_reducible refine' x_isi ?kx ?kz ?kg ?_ ?k1 ?k2); (case kx => assumption); (case kz => assumption); (case kg => walk_at "gl"); (case k1 => rfl); (case k2 => rfl))
  | ((with_reducible refine' x_len ?kx ?kz ?kg ?_ ?k1 ?k2); (case kx => assumption); (case kz => assumption); (case kg => walk_at "gl"); (case k1 => rfl); (case k2 => rfl))
  | ((with_reducible refine' x_abs ?kx ?kz ?kg ?_ ?k1 ?k2); (case kx => assumption); (case kz => assumption); (case kg => walk_at "gl"); (case k1 => rfl); (case k2 => rfl))
  | ((with_reducible refine' x_max2 ?kx ?kz ?kg ?_ ?k1 ?k2); (case kx => assumption); (case kz => assumption); (case kg => walk_at "gl"); (case k1 => rfl); (case k2 => rfl))
  | ((with_reducible refine' x_min2 ?kx ?kz ?kg ?_ ?k1 ?k2); (case kx => assumption); (case kz => assumption); (case kg => walk_at "gl"); (case k1 => rfl); (case k2 => rfl))
  | ((with_reducible refine' x_minL ?kx ?kz ?kg ?_ ?k1 ?k2); (case kx => assumption); (case kz => assumption); (case kg => walk_at "gl"); (case k1 => rfl); (case k2 => rfl))
  | ((with_reducible refine' x_any ?kx ?kz ?kg ?_ ?k1 ?k2); (case kx => assumption); (case kz => assumption); (case kg => walk_at "gl"); (case k1 => rfl); (case k2 => rfl))
  | ((with_reducible refine' x_all ?kx ?kz ?kg ?_ ?k1 ?k2); (case kx => assumption); (case kz => assumption); (case kg => walk_at "gl"); (case k1 => rfl); (case k2 => rfl))
  | ((with_reducible refine' x_sum ?kx ?kz ?kg ?_ ?k1 ?k2); (case kx => assumption); (case kz => assumption); (case kg => walk_at "gl"); (case k1 => rfl); (case k2 => rfl))
  | ((with_reducible refine' x_intC ?kx ?kz ?kg ?_ ?k1 ?k2); (case kx => assumption); (case kz => assumption); (case kg => walk_at "gl"); (case k1 => rfl); (case k2 => rfl))
  | ((with_reducible refine' x_strC ?kx ?kz ?kg ?_ ?k1 ?k2); (case kx => assumption); (case kz => assumption); (case kg => walk_at "gl"); (case k1 => rfl); (case k2 => rfl))
  | ((with_reducible refine' x_tupleC ?kx ?kz ?kg ?_ ?k1 ?k2); (case kx => assumption); (case kz => assumption); (case kg => walk_at "gl"); (case k1 => rfl); (case k2 => rfl))
  | ((with_reducible refine' x_listC ?kx ?kz ?kg ?_ ?k1 ?k2); (case kx => assumption); (case kz => assumption); (case kg => walk_at "gl"); (case k1 => rfl); (case k2 => rfl))
  | ((with_reducible refine' x_tyInt ?kx ?kz ?kg ?_); (case kx => assumption); (case kz => assumption); (case kg => walk_at "gl"))
  | ((with_reducible refine' x_tyBool ?kx ?kz ?kg ?_); (case kx => assumption); (case kz => assumption); (case kg => walk_at "gl"))
  | ((with_reducible refine' x_tyStr ?kx ?kz ?kg ?_); (case kx => assumption); (case kz => assumption); (case kg => walk_at "gl"))
  | ((with_reducible refine' x_tyList ?kx ?kz ?kg ?_); (case kx => assumption); (case kz => assumption); (case kg => walk_at "gl"))
  | ((with_reducible refine' x_tyTuple ?kx ?kz ?kg ?_); (case kx => assumption); (case kz => assumption); (case kg => walk_at "gl"))
  | ((with_reducible refine' x_call ?kx ?kh ?kg ?_ ?kl ?kd ?k1 ?k2); (case kh => assumption); (case kx => assumption); (case kg => walk_at "gl"); (case kl => first | decide | omega); (case kd => decide); (case k1 => rfl); (case k2 => rfl))
  | ((with_reducible refine' x_glob ?kx ?kh ?kg ?_ ?kd); (case kh => assumption); (case kx => assumption); (case kg => walk_at "gl"); (case kd => decide))
  | ((with_reducible refine' ws_nm ?kb ?k0 ?kp ?_ ?k1); (case kb => assumption); (case k0 => walk_at "nm"); (case kp => walk_at "nm"); (case k1 => rfl))
  | ((with_reducible refine' wg_nm ?kb ?k0 ?kp ?_); (case kb => assumption); (case k0 => walk_at "nm"); (case kp => walk_at "nm"))
  | ((with_reducible refine' ws_augAdd ?kb ?k0 ?kg ?kp ?_); (case kb => assumption); (case k0 => walk_at "nm"); (case kg => walk_at "nm"); (case kp => walk_at "nm"))
  | ((with_reducible refine' x_par2 ?kd ?k1 ?k2 ?k3 ?k4 ?k5 ?k6 ?_ ?k7); (case kd => assumption); (case k1 => walk_at "nm"); (case k2 => (intro _; walk_at "nm")); (case k3 => decide +kernel); (case k4 => decide +kernel); (case k5 => decide +kernel); (case k6 => rfl); (case k7 => rfl))
  | ((with_reducible refine' x_par3 ?kd ?k1 ?k2 ?k3 ?k4 ?k5 ?k6 ?k7 ?_ ?k8); (case kd => assumption); (case k1 => walk_at "nm"); (case k2 => (intro _; walk_at "nm")); (case k3 => (intro _ _; walk_at "nm")); (case k4 => decide +kernel); (case k5 => decide +kernel); (case k6 => decide +kernel); (case k7 => rfl); (case k8 => rfl))
  | ((with_reducible refine' ws_asg ?_ ?k1 ?k2 ?k3); (case k1 => rfl); (case k2 => rfl); (case k3 => rfl))
  | ((with_reducible refine' ws_asgD ?kd ?_ ?k1 ?k2 ?k3); (case kd => assumption); (case k1 => rfl); (case k2 => rfl); (case k3 => rfl))
  | ((with_reducible refine' x_gtup ?kx ?kl ?_ ?k1); (case kx => assumption); (case kl => rfl); (case k1 => rfl))
  | ((with_reducible refine' wg_setL ?_ ?k1); (case k1 => (intro _; rfl)))
  | ((with_reducible refine' wgs_cons ?_ ?k1); (case k1 => rfl))
  | with_reducible refine wgs_nil ?_
  | ((with_reducible refine' x_join ?_ ?k1 ?k2 ?k3 ?k4 ?k5); (case k1 => rfl); (case k2 => rfl); (case k3 => rfl); (case k4 => rfl); (case k5 => rfl))
  | ((with_reducible refine' x_sindex ?_ ?k1 ?k2 ?k3 ?k4 ?k5); (case k1 => rfl); (case k2 => rfl); (case k3 => rfl); (case k4 => rfl); (case k5 => rfl))
  | ((with_reducible refine' x_insert ?_ ?k1 ?k2 ?k3 ?k4 ?k5); (case k1 => rfl); (case k2 => rfl); (case k3 => rfl); (case k4 => rfl); (case k5 => rfl))
  | ((with_reducible refine' x_popAt ?_ ?k1 ?k2 ?k3 ?k4 ?k5); (case k1 => rfl); (case k2 => rfl); (case k3 => rfl); (case k4 => rfl); (case k5 => rfl))
  | ((with_reducible refine' x_append ?_ ?k1 ?k2 ?k3 ?k4 ?k5); (case k1 => rfl); (case k2 => rfl); (case k3 => rfl); (case k4 => rfl); (case k5 => rfl))
  | ((with_reducible refine' ws_expr ?_ ?k1); (case k1 => rfl))
  | ((with_reducible refine' wt_val ?_ ?k1); (case k1 => (intro _; rfl))))
local macro_rules | `(tactic| walk_at "d1") => `(tactic| first
  | with_reducible refine tb_ok ?_
  | with_reducible refine ex_bl ?_
  | with_reducible refine ex_int ?_
  | with_reducible refine and_T ?_
  | with_reducible refine and_F ?_
  | ((with_reducible refine and_S ?_ ?_) <;> intro _)
  | ((with_reducible refine' isi_int ?k1 ?_); (case k1 => walk_at "kd"))
  | ((with_reducible refine' isi_bool ?k1 ?_); (case k1 => walk_at "kd"))
  | ((with_reducible refine' isi_str ?k1 ?_); (case k1 => walk_at "kd"))
  | ((with_reducible refine' isi_list ?k1 ?_); (case k1 => walk_at "kd"))
  | ((with_reducible refine' isi_tuple ?k1 ?_); (case k1 => walk_at "kd"))
  | ((with_reducible refine' isi_ltT ?k1 ?k2 ?_); (case k1 => rfl); (case k2 => rfl))
  | ((with_reducible refine' isi_ltF ?k1 ?k2 ?_); (case k1 => rfl); (case k2 => rfl))
  | ((with_reducible refine' isi_lt ?k1 ?_); (case k1 => walk_at "kd"))
  | ((with_reducible refine' isi_ls ?k1 ?_); (case k1 => assumption))
  | ((with_reducible refine' isi_lsT ?k1 ?_); (case k1 => assumption))
  | ((with_reducible refine' isiT_ls ?k1 ?_); (case k1 => assumption))
  | ((with_reducible refine' len_ls ?k1 ?_); (case k1 => assumption))
  | with_reducible refine eq_bb ?_
  | with_reducible refine ne_bb ?_
  | ((with_reducible refine' i2_ok ?k1 ?_); (case k1 => walk_at "ct"))
  | with_reducible refine b2_ok ?_
  | with_reducible refine add_ii ?_
  | ((with_reducible refine' add_ss ?k1 ?_); (case k1 => walk_at "ct"))
  | ((with_reducible refine' add_tt ?k1 ?_); (case k1 => walk_at "ct"))
  | ((with_reducible refine' mul_ii ?k1 ?_); (case k1 => walk_at "ct"))
  | ((with_reducible refine' len_str ?k1 ?_); (case k1 => walk_at "ct"))
  | with_reducible refine len_tup ?_
  | with_reducible refine len_fr ?_
  | with_reducible refine len_sl ?_
  | with_reducible refine sl_t ?_
  | with_reducible refine sl_f ?_
  | with_reducible refine int1_ok ?_
  | with_reducible refine int2_ok ?_
  | with_reducible refine int_i ?_
  | with_reducible refine int_b ?_
  | with_reducible refine ins_c ?_
  | with_reducible refine tup_t ?_
  | with_reducible refine tup_f ?_
  | with_reducible refine eq_ii ?_
  | with_reducible refine ne_ii ?_
  | with_reducible refine wo_n ?_
  | with_reducible refine wo_s ?_
  | with_reducible refine ex_2 ?_
  | with_reducible refine ex_3 ?_
  | ((with_reducible refine' len_own ?k1 ?_); (case k1 => assumption))
  | ((with_reducible refine' ix_t ?k1 ?_); (case k1 => rfl))
  | ((with_reducible refine' ix_f ?k1 ?_); (case k1 => rfl))
  | ((with_reducible refine' ix_s ?k1 ?_); (case k1 => rfl))
  | ((with_reducible refine' isn_k ?k1 ?_); (case k1 => walk_at "kd"))
  | ((with_reducible refine' nisn_k ?k1 ?_); (case k1 => walk_at "kd"))
  | with_reducible refine ty_str ?_
  | with_reducible refine ty_put ?_
  | with_reducible refine len_put ?_
  | ((with_reducible refine' ix_p ?k1 ?_); (case k1 => rfl))
  | ((with_reducible refine' ix_o ?k0 ?k1 ?_); (case k0 => assumption); (case k1 => rfl))
  | ((with_reducible refine' setL_p ?k1 ?_); (case k1 => rfl))
  | ((with_reducible refine' setL_o ?k0 ?k1 ?_); (case k0 => assumption); (case k1 => rfl))
  | ((with_reducible refine' ty_own ?k1 ?_); (case k1 => assumption))
  | ((with_reducible refine' sz_ok ?k1 ?_); (case k1 => rfl))
  | ((with_reducible refine' sz_as ?k1 ?_); (case k1 => assumption)))
local macro_rules | `(tactic| walk_at "py") => `(tactic| repeat' (first | walk_at "py1" | walk_at "d1"))
local macro_rules | `(tactic| walk_at "sz") => `(tactic| first | (exact ⟨by omega, by omega, Nat.le_of_ble_eq_true rfl⟩) | (refine Nat.le_trans (Nat.le_of_ble_eq_true (m := 1000) rfl) (by decide)) | (refine Nat.lt_of_le_of_lt (Nat.le_of_ble_eq_true (m := 1000) rfl) (by decide)) | (simp only [rep_len, List.length_append, List.length_cons, List.length_nil]; refine Nat.le_trans (m := 1000) (by omega) (by decide)))
local macro_rules | `(tactic| walk_at "fz1") => `(tactic| first
  | with_reducible refine x_mulS ?_
  | with_reducible refine x_mulF ?_
  | with_reducible refine x_addF ?_
  | with_reducible refine x_addF2 ?_
  | with_reducible refine x_addF3 ?_
  | with_reducible refine we_lstF ?_
  | ((with_reducible refine' mul_lf ?k1 ?_); (case k1 => walk_at "sz"))
  | ((with_reducible refine' add_lf ?k1 ?_); (case k1 => walk_at "sz"))
  | ((with_reducible refine' mul_s ?k1 ?_); (case k1 => decide +kernel))
  | ((with_reducible refine' app_put ?k1 ?_); (case k1 => walk_at "sz")))
local macro_rules | `(tactic| walk_at "pyF") => `(tactic| repeat' (first | walk_at "fz1" | walk_at "py1" | walk_at "d1"))
local macro_rules | `(tactic| walk_at "r1") => `(tactic| first
  | ((with_reducible refine' x_repr ?kx ?kz ?kg ?_ ?k1 ?k2); (case kx => assumption); (case kz => assumption); (case kg => walk_at "gl"); (case k1 => rfl); (case k2 => rfl)))
local macro_rules | `(tactic| walk_at "fz2") => `(tactic| first
  | with_reducible refine x_mulS ?_
  | with_reducible refine x_addA ?_
  | with_reducible refine x_mulA ?_
  | with_reducible refine x_sliceA ?_
  | with_reducible refine we_lstF ?_
  | ((with_reducible refine' x_listA ?kx ?kz ?kg ?_ ?k1 ?k2); (case kx => assumption); (case kz => assumption); (case kg => walk_at "gl"); (case k1 => rfl); (case k2 => rfl))
  | with_reducible refine fa_int ?_
  | with_reducible refine fa_str ?_
  | with_reducible refine fa_bl ?_
  | with_reducible refine fa_non ?_
  | with_reducible refine fa_tup ?_
  | with_reducible refine fa_lst ?_
  | with_reducible refine slA_f ?_
  | with_reducible refine slA_t ?_
  | with_reducible refine slA_p ?_
  | with_reducible refine addA_ii ?_
  | with_reducible refine listA_l ?_
  | with_reducible refine listA_t ?_
  | with_reducible refine listA_p ?_
  | ((with_reducible refine' fa_put ?k1 ?_); (case k1 => assumption))
  | ((with_reducible refine' slA_o ?k1 ?_); (case k1 => assumption))
  | ((with_reducible refine' listA_o ?k1 ?_); (case k1 => assumption))
  | ((with_reducible refine' slA_z ?k1 ?_); (case k1 => walk_at "ct"))
  | ((with_reducible refine' addA_ss ?k1 ?_); (case k1 => walk_at "ct"))
  | ((with_reducible refine' addA_tt ?k1 ?_); (case k1 => walk_at "ct"))
  | ((with_reducible refine' mulA_ii ?k1 ?_); (case k1 => walk_at "ct"))
  | ((with_reducible refine' addA_ll ?k1 ?_); (case k1 => walk_at "sz"))
  | ((with_reducible refine' addA_pl ?k1 ?_); (case k1 => walk_at "sz"))
  | ((with_reducible refine' mul_s ?k1 ?_); (case k1 => decide +kernel))
  | ((with_reducible refine' app_put ?k1 ?_); (case k1 => walk_at "sz")))
local macro_rules | `(tactic| walk_at "u1") => `(tactic| first
  | ((with_reducible refine' we_lele ?_ ?k1); (case k1 => with_unfolding_all rfl))
  | ((with_reducible refine' wt_lele ?_ ?k1); (case k1 => with_unfolding_all rfl))
  | with_reducible refine we_revT ?_
  | ((with_reducible refine' x_upper ?_ ?k1 ?k2); (case k1 => rfl); (case k2 => rfl)))
local macro_rules | `(tactic| walk_at "pyA") => `(tactic| repeat' (first | walk_at "u1" | walk_at "fz2" | walk_at "r1" | walk_at "py1" | walk_at "d1"))
local macro_rules | `(tactic| walk_at "pyR") => `(tactic| repeat' (first | walk_at "u1" | walk_at "r1" | walk_at "py1" | walk_at "d1"))
local macro_rules | `(tactic| walk_at "bad") => `(tactic| first
  | (rename_i q; exact Bool.noConfusion (show false = true from q))
  | (rename_i q; exact Bool.noConfusion (show true = false from q))
  | (rename_i q _; exact Bool.noConfusion (show false = true from q))
  | (rename_i q _; exact Bool.noConfusion (show true = false from q))
  | (rename_i q _ _; exact Bool.noConfusion (show false = true from q))
  | (rename_i q _ _; exact Bool.noConfusion (show true = false from q))
  | (rename_i q _ _ _; exact Bool.noConfusion (show false = true from q))
  | (rename_i q _ _ _; exact Bool.noConfusion (show true = false from q))
  | (rename_i q _ _ _ _; exact Bool.noConfusion (show false = true from q))
  | (rename_i q _ _ _ _; exact Bool.noConfusion (show true = false from q)))
namespace K31
section
variable {P : Program} {w : World} {K : PySem.W.Frag} {mg : Str → Option Value} {base : Heap}
/-- data fit for == and for repr -/
structure Ob (d : D) : Prop where
  ex : ∃ n, n ≤ 60 ∧ d.fit n = true
  sh : d.shI = true
  wt : d.wt ≤ 200000
theorem fit_kind {x : D} {n : Nat} (h : x.fit n = true) : x.kind = true := kind_of_py (fit_py x h)
theorem Ob.kind {d : D} (h : Ob d) : d.kind = true := by obtain ⟨n, _, hf⟩ := h.ex; exact fit_kind hf
theorem wt_mem : ∀ {xs : List D} {d : D}, d ∈ xs → d.wt ≤ wtL xs
  | x :: xs, d, h => by
    rcases List.mem_cons.mp h with rfl | h
    · simp only [wtL]; omega
    · have := wt_mem h; simp only [wtL]; omega
theorem Ob.part {xs : List D} (h : Ob (.tup xs)) : ∀ d ∈ xs, Ob d := fun d hd => by
  obtain ⟨n, hn, hf⟩ := h.ex
  obtain ⟨m, rfl, hm⟩ := fit_tup hf
  exact ⟨⟨m, by omega, hm d hd⟩, shL_all.mp (by have := h.sh; simpa [D.shI] using this) d hd, Nat.le_trans (wt_mem hd) (by have := h.wt; simpa [D.wt] using this)⟩
theorem Ob.str {z : Str} (h : Ob (.str z)) : z.length ≤ sizeLine := Nat.le_trans h.wt (by decide)
theorem Ob.eq {C : CS} {k : KD} {x : D} {z : Str} (h : Ob x) (hz : PyData.strOk z = true) (q : k (.bl (PyData.eqv x.py (.str z))) C) : dEq false x (.str z) C k := by
  obtain ⟨n, hn, hf⟩ := h.ex
  exact eq_fit (n := n) (m := 0) hf hz q (by omega)
def isI : D → Bool
  | .int _ => true
  | _ => false
theorem isI_eq {x : D} (h : isI x = true) : ∃ i, x = .int i := by cases x <;> first | exact ⟨_, rfl⟩ | (simp [isI] at h; done)
theorem isI_of {x : D} : isI x = (x.isIntB && !x.isBl) := by cases x <;> rfl
def spIsInt : DSp := fun ds C k => ∃ x, ds = [x] ∧ x.kind = true ∧ k (.bl (isI x)) C
theorem ok_isInt {f : Addr} {fd : FuncData} (F : Fun K "is_integer" "is_integer" s_is_integer f fd) (Z : Zs mg) : FnG P w K mg base CX0 1 f fd P_is_integer (toSp K spIsInt) := by
  refine fnX F sc_is_integer v_is_integer l_is_integer g_is_integer (fun ds C k h => by obtain ⟨x, rfl, _⟩ := h; rfl) fun X hB ds C k h => ?_
  obtain ⟨x, rfl, hk, h⟩ := h
  obtain ⟨hx, hn, hs, hg, hd, hnox⟩ := hB
  change WSs X _ [some x] C _
  refine wss_cons ?_
  walk_at "py"
  · rename_i h1
    show k (.bl (!x.isBl)) C
    rw [isI_of, h1] at h; exact h
  · rename_i h1
    rw [isI_of, h1] at h; exact h
def geB : D → Int → Bool
  | .int i, l => decide (l ≤ i)
  | _, _ => false
def spIsFrom : DSp := fun ds C k => ∃ x l, ds = [x, .int l] ∧ x.kind = true ∧ k (.bl (geB x l)) C
theorem geB_no {x : D} {l : Int} (h : isI x = false) : geB x l = false := by cases x <;> first | rfl | (simp [isI] at h; done)
theorem ok_isFrom {f : Addr} {fd : FuncData} (F : Fun K "is_from" "is_from" s_is_from f fd) (h1 : FnC P w K mg base "is_integer" 1 spIsInt) : FnG P w K mg base CX0 2 f fd P_is_from (toSp K spIsFrom) := by
  refine fnX F sc_is_from v_is_from l_is_from g_is_from (fun ds C k h => by obtain ⟨x, l, rfl, _⟩ := h; rfl) fun X hB ds C k h => ?_
  obtain ⟨x, l, rfl, hk, h⟩ := h
  obtain ⟨hx, hn, hs, hg, hd, hnox⟩ := hB
  change WSs X _ [some x, some (.int l)] C _
  refine wss_cons ?_
  walk_at "py"
  refine ⟨x, rfl, hk, ?_⟩
  walk_at "py"
  · rename_i h1
    obtain ⟨i, rfl⟩ := isI_eq h1
    walk_at "py"
    exact h
  · rename_i h1
    rw [geB_no h1] at h
    exact h
theorem ok_lawIsFrom {f : Addr} {fd : FuncData} (F : Fun K "_law_is_from" "_law_is_from" s_law_is_from f fd) (Z : Zs mg) : FnG P w K mg base CX0 1 f fd P_law_is_from (toSp K spIsFrom) := by
  refine fnX F sc_law_is_from v_law_is_from l_law_is_from g_law_is_from (fun ds C k h => by obtain ⟨x, l, rfl, _⟩ := h; rfl) fun X hB ds C k h => ?_
  obtain ⟨x, l, rfl, hk, h⟩ := h
  obtain ⟨hx, hn, hs, hg, hd, hnox⟩ := hB
  change WSs X _ [some x, some (.int l)] C _
  refine wss_cons ?_
  walk_at "py"
  · rename_i h1 h2
    obtain ⟨i, rfl⟩ := isI_eq (x := x) (by rw [isI_of, h1, h2]; rfl)
    walk_at "py"
    exact h
  · rename_i h1 h2
    rw [geB_no (by rw [isI_of, h1, h2]; rfl)] at h; exact h
  · rename_i h1
    rw [geB_no (by rw [isI_of, h1]; rfl)] at h; exact h
abbrev abc : Str := "abcdefghijklmnopqrstuvwxyz"
def abcB (z : Str) : Bool := z.cps.toList.all fun c => decide (c ∈ abc.cps.toList)
def isNm : D → Bool
  | .str z => (decide (1 ≤ z.length) && decide (z.length ≤ 8)) && abcB z
  | _ => false
theorem isNm_no {x : D} (h : x.isStr = false) : isNm x = false := by cases x <;> first | rfl | (simp [D.isStr] at h; done)
def spIsNm : DSp := fun ds C k => ∃ x, ds = [x] ∧ Ob x ∧ k (.bl (isNm x)) C
def sgB (d : D) : Bool := match d with | .str s => s.cps.toList.all fun c => decide (c ∈ abc.cps.toList) | _ => false
theorem signs_all (z : Str) : (signsOf z).all sgB = abcB z := by
  unfold signsOf abcB
  rw [List.all_map]
  congr 1
  funext c
  simp [sgB]
theorem mem_signs {z : Str} {d : D} (h : d ∈ signsOf z) : ∃ c, d = .str ⟨#[c]⟩ := by
  obtain ⟨c, _, rfl⟩ := List.mem_map.mp h
  exact ⟨c, rfl⟩
theorem signs_len (z : Str) : (signsOf z).length = z.length := by
  unfold signsOf
  rw [List.length_map, Array.length_toList]; rfl
theorem ok_isName {f : Addr} {fd : FuncData} (F : Fun K "is_name" "is_name" s_is_name f fd) (Z : Zs mg) (g1 : MgK K mg "LETTERS" (.str abc)) (g2 : MgK K mg "MOST_LETTERS" (.int 8)) : FnG P w K mg base CX0 1 f fd P_is_name (toSp K spIsNm) := by
  refine fnX F sc_is_name v_is_name l_is_name g_is_name (fun ds C k h => by obtain ⟨x, rfl, _⟩ := h; rfl) fun X hB ds C k h => ?_
  obtain ⟨x, rfl, hO, h⟩ := h
  obtain ⟨hx, hn, hs, hg, hd, hnox⟩ := hB
  have hk := hO.kind
  change WSs X _ [some x, none] C _
  refine wss_cons ?_
  walk_at "pyR"
  · rename_i h2
    rw [isNm_no (by simpa using h2)] at h; exact h
  · rename_i h2
    obtain ⟨z, rfl⟩ := isStr_eq (by simpa using h2)
    have hz := hO.str
    walk_at "pyR"
    · rename_i h3 h4
      have e : isNm (.str z) = false := by
        have : ¬ z.length ≤ 8 := by have h4 := dec_f (by simpa using h4 : decide (((z.length : Nat) : Int) ≤ 8) = false); omega
        simp [isNm, this]
      rw [e] at h; exact h
    · rename_i h3 h4
      have e : isNm (.str z) = abcB z := by
        have h3 := dec_t h3
        have h4 := dec_t (by simpa using h4 : decide (((z.length : Nat) : Int) ≤ 8) = true)
        show ((decide (1 ≤ z.length) && decide (z.length ≤ 8)) && abcB z) = abcB z
        rw [decide_eq_true (by omega), decide_eq_true (by omega)]; rfl
      rw [e] at h
      refine we_fa (lc1 ["sign"] ["LETTERS"] hd (by walk_at "nm") (by decide +kernel) (by decide +kernel) (by decide +kernel) (by decide +kernel) (wi_str ?_))
      walk_at "pyR"
      refine ⟨z, rfl, LcB.map (fun d => .bl (sgB d)) trivial (by rw [signs_len]; exact hz) ?_ fun p hp => fa_put hp ?_⟩
      · intro d hdm X' hX hn' hg'
        have hx' := hx.blk hX
        obtain ⟨c, rfl⟩ := mem_signs hdm
        walk_at "pyR"
        exact ⟨by simp [sgB], rfl⟩
      · walk_at "pyR"
        refine all_map (f := sgB) ?_
        rw [signs_all]; exact h
    · rename_i h3 h4
      have e : isNm (.str z) = false := by
        have : ¬ 1 ≤ z.length := by have h3 := dec_f h3; omega
        simp [isNm, this]
      rw [e] at h; exact h
    · rename_i h3 h4; exact absurd h4 (by decide)
theorem ok_lawIsName {f : Addr} {fd : FuncData} (F : Fun K "_law_is_name" "_law_is_name" s_law_is_name f fd) (Z : Zs mg) : FnG P w K mg base CX0 1 f fd P_law_is_name (toSp K spIsNm) := by
  refine fnX F sc_law_is_name v_law_is_name l_law_is_name g_law_is_name (fun ds C k h => by obtain ⟨x, rfl, _⟩ := h; rfl) fun X hB ds C k h => ?_
  obtain ⟨x, rfl, hO, h⟩ := h
  obtain ⟨hx, hn, hs, hg, hd, hnox⟩ := hB
  have hk := hO.kind
  change WSs X _ [some x, none] C _
  refine wss_cons ?_
  walk_at "pyR"
  · rename_i h2
    rw [isNm_no (by simpa using h2)] at h; exact h
  · rename_i h2
    obtain ⟨z, rfl⟩ := isStr_eq (by simpa using h2)
    have hz := hO.str
    walk_at "pyR"
    · rename_i h3
      have e : isNm (.str z) = false := by
        have : ¬ 1 ≤ z.length := by have h3 := dec_t h3; omega
        simp [isNm, this]
      rw [e] at h; exact h
    · rename_i h3 h4
      have e : isNm (.str z) = false := by
        have : ¬ z.length ≤ 8 := by have h4 := dec_t h4; omega
        simp [isNm, this]
      rw [e] at h; exact h
    · rename_i h3 h4
      have e : isNm (.str z) = abcB z := by
        have h3 := dec_f h3
        have h4 := dec_f h4
        show ((decide (1 ≤ z.length) && decide (z.length ≤ 8)) && abcB z) = abcB z
        rw [decide_eq_true (by omega), decide_eq_true (by omega)]; rfl
      rw [e] at h
      refine we_fa (lc1 ["_law_sign"] [] hd (by walk_at "nm") (by decide +kernel) (by decide +kernel) (by decide +kernel) (by decide +kernel) (wi_str ?_))
      walk_at "pyR"
      refine ⟨z, rfl, LcB.map (fun d => .bl (sgB d)) trivial (by rw [signs_len]; exact hz) ?_ fun p hp => fa_put hp ?_⟩
      · intro d hdm X' hX hn' hg'
        have hx' := hx.blk hX
        obtain ⟨c, rfl⟩ := mem_signs hdm
        walk_at "pyR"
        exact ⟨by simp [sgB], rfl⟩
      · walk_at "pyR"
        refine all_map (f := sgB) ?_
        rw [signs_all]; exact h
def isLn : D → Bool
  | .str z => !decide (10 ∈ z.cps.toList)
  | _ => false
theorem isLn_no {x : D} (h : x.isStr = false) : isLn x = false := by cases x <;> first | rfl | (simp [D.isStr] at h; done)
def spIsLn : DSp := fun ds C k => ∃ x, ds = [x] ∧ x.kind = true ∧ k (.bl (isLn x)) C
theorem nin_feed {C : CS} {k : KD} {z : Str} (q : k (.bl (!decide (10 ∈ z.cps.toList))) C) : dIn true (.str "\n") (.str z) C k := ⟨10, z, congrArg D.str (show (("\n" : Str)) = ⟨#[10]⟩ by decide +kernel), rfl, q⟩
theorem ok_isLine {f : Addr} {fd : FuncData} (F : Fun K "is_line" "is_line" s_is_line f fd) (Z : Zs mg) (g1 : MgK K mg "FEED" (.str "\n")) : FnG P w K mg base CX0 1 f fd P_is_line (toSp K spIsLn) := by
  refine fnX F sc_is_line v_is_line l_is_line g_is_line (fun ds C k h => by obtain ⟨x, rfl, _⟩ := h; rfl) fun X hB ds C k h => ?_
  obtain ⟨x, rfl, hk, h⟩ := h
  obtain ⟨hx, hn, hs, hg, hd, hnox⟩ := hB
  change WSs X _ [some x] C _
  refine wss_cons ?_
  walk_at "pyR"
  · rename_i h1
    obtain ⟨z, rfl⟩ := isStr_eq h1
    refine nin_feed ?_
    exact h
  · rename_i h1
    rw [isLn_no h1] at h; exact h
abbrev lacks : List Str := ["changed", "gone", "short"]
def isLk : D → Bool
  | .str z => decide (z ∈ lacks)
  | _ => false
theorem isLk_no {x : D} (h : x.isStr = false) : isLk x = false := by cases x <;> first | rfl | (simp [D.isStr] at h; done)
def shB (a b : D) : Bool := if PyData.eqv a.py (.str "text") = true then isLn b else PyData.eqv a.py (.str "lack") && isLk b
def isSh : D → Bool
  | .non => true
  | .tup [a, b] => shB a b
  | _ => false
theorem eqv_str {a : D} {z : Str} (h : a.isStr = false) (hk : a.kind = true) : PyData.eqv a.py (.str z) = false := by
  cases a <;> first | (simp [D.isStr] at h; done) | (simp [D.kind] at hk; done) | (simp [D.py, PyData.eqv])
theorem isSh_no {x : D} (h : x.isTup = false) (hn : x.isNon = false) : isSh x = false := by cases x <;> first | rfl | (simp [D.isTup] at h; done) | (simp [D.isNon] at hn; done)
theorem isSh_len {xs : List D} (h : xs.length ≠ 2) : isSh (.tup xs) = false := by
  unfold isSh
  split
  · rename_i e; cases e
  · rename_i e; injection e with e; subst e; exact absurd rfl h
  · rfl
theorem non_eq {x : D} (h : x.isNon = true) : x = .non := by cases x <;> first | rfl | (simp [D.isNon] at h; done)
theorem strOk_text : PyData.strOk ("text" : Str) = true := by decide +kernel
theorem strOk_lack : PyData.strOk ("lack" : Str) = true := by decide +kernel
theorem strOk_gap : PyData.strOk ("gap" : Str) = true := by decide +kernel
def spIsSh : DSp := fun ds C k => ∃ x, ds = [x] ∧ Ob x ∧ k (.bl (isSh x)) C
theorem len_eq {n m : Nat} (h : ((n : Int) == (m : Nat)) = true) : n = m := by
  have := beq_iff_eq.mp h
  omega
theorem len_ne {n m : Nat} (h : ((n : Int) == (m : Nat)) = false) : n ≠ m := by
  have := beq_eq_false_iff_ne.mp h
  omega
theorem len_of {n m : Nat} (h : (!((n : Int) == (m : Nat))) = false) : n = m := by
  have : ((n : Int) == (m : Nat)) = true := by simpa using h
  have := beq_iff_eq.mp this
  omega
theorem len_nof {n m : Nat} (h : (!((n : Int) == (m : Nat))) = true) : n ≠ m := by
  have : ((n : Int) == (m : Nat)) = false := by simpa using h
  have := beq_eq_false_iff_ne.mp this
  omega
theorem ok_isShown {f : Addr} {fd : FuncData} (F : Fun K "is_shown" "is_shown" s_is_shown f fd) (Z : Zs mg) (h1 : FnC P w K mg base "is_line" 1 spIsLn) (g1 : MgK K mg "TEXT" (.str "text")) (g2 : MgK K mg "LACK" (.str "lack")) (g3 : MgK K mg "LACKS" (.tup (lacks.map D.str))) : FnG P w K mg base CX0 2 f fd P_is_shown (toSp K spIsSh) := by
  refine fnX F sc_is_shown v_is_shown l_is_shown g_is_shown (fun ds C k h => by obtain ⟨x, rfl, _⟩ := h; rfl) fun X hB ds C k h => ?_
  obtain ⟨x, rfl, hO, h⟩ := h
  obtain ⟨hx, hn, hs, hg, hd, hnox⟩ := hB
  have hk := hO.kind
  change WSs X _ [some x] C _
  refine wss_cons ?_
  walk_at "pyR"
  · rename_i h2
    rw [non_eq h2] at h; exact h
  · rename_i h2 h3
    rw [isSh_no (by simpa using h3) h2] at h; exact h
  · rename_i h2 h3
    obtain ⟨xs, rfl⟩ := isTup_eq (by simpa using h3)
    walk_at "pyR"
    · rename_i h4
      rw [isSh_len (len_nof (m := 2) h4)] at h; exact h
    · rename_i h4
      obtain ⟨a, b, rfl⟩ := two_of (len_of (m := 2) h4)
      have oa := hO.part a (by simp)
      have ob := hO.part b (by simp)
      have ka := oa.kind
      have kb := ob.kind
      walk_at "pyR"
      · rename_i h5
        have e : isSh (.tup [a, b]) = false := by
          show shB a b = false
          unfold shB
          rw [eqv_str (by simpa using h5) ka, if_neg (by simp), eqv_str (by simpa using h5) ka]; rfl
        rw [e] at h; exact h
      · rename_i h5
        refine oa.eq strOk_text ?_
        walk_at "pyR"
        · rename_i h6
          refine ⟨b, rfl, kb, ?_⟩
          rw [show isSh (.tup [a, b]) = isLn b from if_pos h6] at h; exact h
        · rename_i h6
          rw [show isSh (.tup [a, b]) = (PyData.eqv a.py (.str "lack") && isLk b) from if_neg (by rw [h6]; simp)] at h
          refine oa.eq strOk_lack ?_
          walk_at "pyR"
          · rename_i h7 h8
            obtain ⟨z, rfl⟩ := isStr_eq h8
            refine in_tup rfl ?_
            rw [h7, Bool.true_and] at h; exact h
          · rename_i h7 h8
            rw [h7, isLk_no h8] at h; exact h
          · rename_i h7
            rw [h7, Bool.false_and] at h; exact h
def isRow : D → Bool
  | .tup [f, e, l, g, s] => isNm f && isNm g && isSh s && (geB e 0 && geB l 1)
  | _ => false
theorem isRow_no {x : D} (h : x.isTup = false) : isRow x = false := by cases x <;> first | rfl | (simp [D.isTup] at h; done)
theorem isRow_len {xs : List D} (h : xs.length ≠ 5) : isRow (.tup xs) = false := by
  unfold isRow
  split
  · rename_i e; injection e with e; subst e; exact absurd rfl h
  · rfl
theorem five_of {α : Type} {xs : List α} (h : xs.length = 5) : ∃ a b c d e, xs = [a, b, c, d, e] := by
  match xs, h with
  | [a, b, c, d, e], _ => exact ⟨a, b, c, d, e, rfl⟩
def spIsRow : DSp := fun ds C k => ∃ x, ds = [x] ∧ Ob x ∧ k (.bl (isRow x)) C
theorem ok_isRow {f : Addr} {fd : FuncData} (F : Fun K "is_row" "is_row" s_is_row f fd) (Z : Zs mg) (h1 : FnC P w K mg base "is_name" 1 spIsNm) (h2 : FnC P w K mg base "is_shown" 2 spIsSh) (h3 : FnC P w K mg base "is_from" 2 spIsFrom) : FnG P w K mg base CX0 3 f fd P_is_row (toSp K spIsRow) := by
  refine fnX F sc_is_row v_is_row l_is_row g_is_row (fun ds C k h => by obtain ⟨x, rfl, _⟩ := h; rfl) fun X hB ds C k h => ?_
  obtain ⟨x, rfl, hO, h⟩ := h
  obtain ⟨hx, hn, hs, hg, hd, hnox⟩ := hB
  have hk := hO.kind
  change WSs X _ [some x, none, none, none, none, none] C _
  refine wss_cons ?_
  walk_at "pyR"
  · rename_i h4
    rw [isRow_no (by simpa using h4)] at h; exact h
  · rename_i h4
    obtain ⟨xs, rfl⟩ := isTup_eq (by simpa using h4)
    walk_at "pyR"
    · rename_i h5
      rw [isRow_len (len_nof (m := 5) h5)] at h; exact h
    · rename_i h5
      obtain ⟨a, b, c, d, e, rfl⟩ := five_of (len_of (m := 5) h5)
      have oa := hO.part a (by simp)
      have ob := hO.part b (by simp)
      have oc := hO.part c (by simp)
      have od := hO.part d (by simp)
      have oe := hO.part e (by simp)
      change k (.bl (isNm a && isNm d && isSh e && (geB b 0 && geB c 1))) C at h
      walk_at "pyR"
      refine ⟨_, rfl, oa, ?_⟩
      walk_at "pyR"
      · rename_i h6
        show k (.bl false) C
        simp_all
      · rename_i h6
        refine ⟨_, rfl, od, ?_⟩
        walk_at "pyR"
        · rename_i h7
          show k (.bl false) C
          simp_all
        · rename_i h7
          refine ⟨_, rfl, oe, ?_⟩
          walk_at "pyR"
          · rename_i h8
            show k (.bl false) C
            simp_all
          · rename_i h8
            refine ⟨b, 0, rfl, ob.kind, ?_⟩
            walk_at "pyR"
            · rename_i h9
              refine ⟨c, 1, rfl, oc.kind, ?_⟩
              show k (.bl _) C
              simp_all
            · rename_i h9
              show k (.bl false) C
              simp_all
theorem ok_lawIsRow {f : Addr} {fd : FuncData} (F : Fun K "_law_is_row" "_law_is_row" s_law_is_row f fd) (Z : Zs mg) (h1 : FnC P w K mg base "_law_is_name" 1 spIsNm) (h3 : FnC P w K mg base "_law_is_from" 1 spIsFrom) : FnG P w K mg base CX0 2 f fd P_law_is_row (toSp K spIsRow) := by
  refine fnX F sc_law_is_row v_law_is_row l_law_is_row g_law_is_row (fun ds C k h => by obtain ⟨x, rfl, _⟩ := h; rfl) fun X hB ds C k h => ?_
  obtain ⟨x, rfl, hO, h⟩ := h
  obtain ⟨hx, hn, hs, hg, hd, hnox⟩ := hB
  have hk := hO.kind
  change WSs X _ [some x, none] C _
  refine wss_cons ?_
  walk_at "pyR"
  · rename_i h4
    rw [isRow_no (by simpa using h4)] at h; exact h
  · rename_i h4
    obtain ⟨xs, rfl⟩ := isTup_eq (by simpa using h4)
    walk_at "pyR"
    · rename_i h5
      rw [isRow_len (len_nof (m := 5) h5)] at h; exact h
    · rename_i h5
      obtain ⟨a, b, c, d, e, rfl⟩ := five_of (len_of (m := 5) h5)
      have oa := hO.part a (by simp)
      have ob := hO.part b (by simp)
      have oc := hO.part c (by simp)
      have od := hO.part d (by simp)
      have oe := hO.part e (by simp)
      change k (.bl (isNm a && isNm d && isSh e && (geB b 0 && geB c 1))) C at h
      clear h4 h5 hk hO
      walk_at "pyR"
      refine ⟨_, rfl, oa, ?_⟩
      walk_at "pyR"
      · rename_i h6
        show k (.bl false) C
        simp_all
      · rename_i h6
        refine ⟨_, rfl, od, ?_⟩
        walk_at "pyR"
        · rename_i h7
          show k (.bl false) C
          simp_all
        · rename_i h7
          refine ⟨b, 0, rfl, ob.kind, ?_⟩
          walk_at "pyR"
          · rename_i h8
            show k (.bl false) C
            simp_all
          · rename_i h8
            refine ⟨c, 1, rfl, oc.kind, ?_⟩
            walk_at "pyR"
            · rename_i h9
              show k (.bl false) C
              simp_all
            · rename_i h9
              have e1 : (isNm a && isNm d && isSh e && (geB b 0 && geB c 1)) = isSh e := by simp_all
              rw [e1] at h
              clear e1 h6 h7 h8 h9
              have ke := oe.kind
              walk_at "pyR"
              · rename_i h2
                rw [non_eq h2] at h; exact h
              · rename_i h2 h3
                rw [isSh_no (by simpa using h3) h2] at h; exact h
              · rename_i h2 h3
                obtain ⟨xs, rfl⟩ := isTup_eq (by simpa using h3)
                walk_at "pyR"
                · rename_i h4
                  rw [isSh_len (len_nof (m := 2) h4)] at h; exact h
                · rename_i h4
                  obtain ⟨p, q, rfl⟩ := two_of (len_of (m := 2) h4)
                  have oa := oe.part p (by simp)
                  have ob := oe.part q (by simp)
                  have ka := oa.kind
                  have kb := ob.kind
                  change k (.bl (shB p q)) C at h
                  unfold shB at h
                  walk_at "pyR"
                  · rename_i h5
                    rw [isLn_no (by simpa using h5), isLk_no (by simpa using h5), Bool.and_false, ite_self] at h
                    exact h
                  · rename_i h5
                    obtain ⟨z, rfl⟩ := isStr_eq (by simpa using h5)
                    refine oa.eq strOk_text ?_
                    walk_at "pyR"
                    · rename_i h6
                      rw [if_pos h6] at h
                      refine nin_feed ?_
                      exact h
                    · rename_i h6
                      rw [if_neg (by rw [h6]; simp)] at h
                      refine oa.eq strOk_lack ?_
                      walk_at "pyR"
                      · rename_i h7
                        rw [h7, Bool.true_and] at h
                        refine in_tup (zs := lacks) rfl ?_
                        exact h
                      · rename_i h7
                        rw [h7, Bool.false_and] at h; exact h
def isGap : D → Bool
  | .tup [.str z, .int i] => z == ("gap" : Str) && decide (1 ≤ i)
  | _ => false
theorem isGap_two (a b : D) : isGap (.tup [a, b]) = (PyData.eqv a.py (.str "gap") && geB b 1 && a.isStr) := by
  cases a <;> cases b <;> simp [isGap, D.py, PyData.eqv, geB, D.isStr]
theorem isGap_no {x : D} (h : x.isTup = false) : isGap x = false := by cases x <;> first | rfl | (simp [D.isTup] at h; done)
theorem isGap_len {xs : List D} (h : xs.length ≠ 2) : isGap (.tup xs) = false := by
  unfold isGap
  split
  · rename_i e; injection e with e; subst e; exact absurd rfl h
  · rfl
def spIsGap : DSp := fun ds C k => ∃ x, ds = [x] ∧ Ob x ∧ k (.bl (isGap x)) C
theorem ok_isGap {f : Addr} {fd : FuncData} (F : Fun K "is_gap" "is_gap" s_is_gap f fd) (Z : Zs mg) (h1 : FnC P w K mg base "is_from" 2 spIsFrom) (g1 : MgK K mg "GAP" (.str "gap")) : FnG P w K mg base CX0 3 f fd P_is_gap (toSp K spIsGap) := by
  refine fnX F sc_is_gap v_is_gap l_is_gap g_is_gap (fun ds C k h => by obtain ⟨x, rfl, _⟩ := h; rfl) fun X hB ds C k h => ?_
  obtain ⟨x, rfl, hO, h⟩ := h
  obtain ⟨hx, hn, hs, hg, hd, hnox⟩ := hB
  have hk := hO.kind
  change WSs X _ [some x] C _
  refine wss_cons ?_
  walk_at "pyR"
  · rename_i h2
    rw [isGap_no (by simpa using h2)] at h; exact h
  · rename_i h2
    obtain ⟨xs, rfl⟩ := isTup_eq (by simpa using h2)
    walk_at "pyR"
    · rename_i h3
      rw [isGap_len (len_nof (m := 2) h3)] at h; exact h
    · rename_i h3
      obtain ⟨a, b, rfl⟩ := two_of (len_of (m := 2) h3)
      have oa := hO.part a (by simp)
      have ob := hO.part b (by simp)
      have ka := oa.kind
      have kb := ob.kind
      rw [isGap_two] at h
      walk_at "pyR"
      · rename_i h4
        refine oa.eq strOk_gap ?_
        walk_at "pyR"
        · rename_i h5
          refine ⟨b, 1, rfl, kb, ?_⟩
          show k (.bl _) C
          rw [h5, h4, Bool.true_and, Bool.and_true] at h; exact h
        · rename_i h5
          rw [h5, Bool.false_and, Bool.false_and] at h; exact h
      · rename_i h4
        rw [h4, Bool.and_false] at h; exact h
theorem ok_lawIsGap {f : Addr} {fd : FuncData} (F : Fun K "_law_is_gap" "_law_is_gap" s_law_is_gap f fd) (Z : Zs mg) (h1 : FnC P w K mg base "_law_is_from" 1 spIsFrom) : FnG P w K mg base CX0 2 f fd P_law_is_gap (toSp K spIsGap) := by
  refine fnX F sc_law_is_gap v_law_is_gap l_law_is_gap g_law_is_gap (fun ds C k h => by obtain ⟨x, rfl, _⟩ := h; rfl) fun X hB ds C k h => ?_
  obtain ⟨x, rfl, hO, h⟩ := h
  obtain ⟨hx, hn, hs, hg, hd, hnox⟩ := hB
  have hk := hO.kind
  change WSs X _ [some x] C _
  refine wss_cons ?_
  walk_at "pyR"
  · rename_i h2
    obtain ⟨xs, rfl⟩ := isTup_eq h2
    walk_at "pyR"
    · rename_i h3
      obtain ⟨a, b, rfl⟩ := two_of (len_eq (m := 2) h3)
      have oa := hO.part a (by simp)
      have ob := hO.part b (by simp)
      have ka := oa.kind
      have kb := ob.kind
      rw [isGap_two] at h
      walk_at "pyR"
      refine oa.eq strOk_gap ?_
      walk_at "pyR"
      · rename_i h5
        refine ⟨b, 1, rfl, kb, ?_⟩
        show k (.bl _) C
        have h4 : a.isStr = true := by
          cases e : a.isStr with
          | true => rfl
          | false => rw [eqv_str e ka] at h5; cases h5
        rw [h5, h4, Bool.true_and, Bool.and_true] at h; exact h
      · rename_i h5
        rw [h5, Bool.false_and, Bool.false_and] at h; exact h
    · rename_i h3
      rw [isGap_len (len_ne (m := 2) h3)] at h; exact h
  · rename_i h2
    rw [isGap_no h2] at h; exact h
end
end K31
namespace K31
section
variable {P : Program} {w : World} {K : PySem.W.Frag} {mg : Str → Option Value} {base : Heap}
/-- the bag of draws at b: at most n were mixed -/
def Bag (C : CS) (b : Addr) (n : Nat) : Prop := ∃ x y c : Int, C b = some (.lst [.int x, .int y, .int c]) ∧ 0 ≤ x ∧ 0 ≤ y ∧ y < 4611686018427387904 ∧ 0 ≤ c ∧ c ≤ n
theorem Bag.mono {C : CS} {b : Addr} {n m : Nat} (h : Bag C b n) (hm : n ≤ m) : Bag C b m := by
  obtain ⟨x, y, c, h1, h2, h3, h4, h5, h6⟩ := h
  exact ⟨x, y, c, h1, h2, h3, h4, h5, by omega⟩
theorem Bag.some {C : CS} {b : Addr} {n : Nat} (h : Bag C b n) : ∃ l, C b = some (.lst l) := by
  obtain ⟨x, y, c, h1, _⟩ := h
  exact ⟨_, h1⟩
theorem Bag.put {C : CS} {b p : Addr} {n : Nat} {c : Cell} (h : Bag C b n) (hp : b ≠ p) : Bag (DL.put C p c) b n := by
  obtain ⟨x, y, c, h1, h2⟩ := h
  exact ⟨x, y, c, by rw [put_ne hp]; exact h1, h2⟩
theorem Bag.ne {C : CS} {b p : Addr} {n : Nat} (h : Bag C b n) (hp : C p = none) : b ≠ p := by
  obtain ⟨l, h⟩ := h.some
  exact cell_ne h hp
theorem Bag.of {C C1 : CS} {b : Addr} {n m : Nat} (h : Bag C b n) (e : C1 b = C b) (hm : n ≤ m) : Bag C1 b m := by
  obtain ⟨x, y, c, q1, q2⟩ := Bag.mono h hm
  exact ⟨x, y, c, e.trans q1, q2⟩
/-- any item -/
theorem at_any {xs : List D} {r : Int} (h0 : 0 ≤ r) (h1 : r < (xs.length : Nat)) : ∃ d ∈ xs, atI xs r = some d := by
  have hl : r.toNat < xs.length := by omega
  refine ⟨xs[r.toNat], List.getElem_mem hl, ?_⟩
  unfold atI ixN
  rw [if_pos h0, if_pos h1]
  exact List.getElem?_eq_getElem hl
theorem ix_any {C : CS} {k : KD} {xs : List D} {r : Int} (h0 : 0 ≤ r) (h1 : r < (xs.length : Nat)) (q : ∀ d ∈ xs, k d C) : dIx (.lst xs) (.int r) C k := by
  obtain ⟨d, hm, he⟩ := at_any h0 h1
  exact ix_f he (q d hm)
theorem ix_anyT {C : CS} {k : KD} {xs : List D} {r : Int} (h0 : 0 ≤ r) (h1 : r < (xs.length : Nat)) (q : ∀ d ∈ xs, k d C) : dIx (.tup xs) (.int r) C k := by
  obtain ⟨d, hm, he⟩ := at_any h0 h1
  exact ix_t he (q d hm)
theorem ix_anyO {C : CS} {k : KD} {p : Addr} {xs : List D} {r : Int} (hp : C p = some (.lst xs)) (h0 : 0 ≤ r) (h1 : r < (xs.length : Nat)) (q : ∀ d ∈ xs, k d C) : dIx (.own p) (.int r) C k := by
  obtain ⟨d, hm, he⟩ := at_any h0 h1
  exact ix_o hp he (q d hm)
abbrev primes : List D := [.int 2147483647, .int 2147483629, .int 2147483587, .int 2147483579, .int 2147483563, .int 2147483549, .int 2147483543]
theorem prime_ix {C : CS} {k : KD} {c : Int} (q : ∀ p : Int, 2147483543 ≤ p → p ≤ 2147483647 → k (.int p) C) : dIx (.tup primes) (.int (c % 7)) C k := by
  refine ix_anyT (Int.emod_nonneg _ (by decide)) (Int.emod_lt_of_pos _ (by decide)) fun d hd => ?_
  simp only [primes, List.mem_cons, List.not_mem_nil, or_false] at hd
  rcases hd with rfl | rfl | rfl | rfl | rfl | rfl | rfl <;> exact q _ (by decide) (by decide)
def spTake : DSp := fun ds C k => ∃ (b : Addr) (n : Nat) (m : Int), ds = [.own b, .int m] ∧ Bag C b n ∧ n ≤ 1000000 ∧ 1 ≤ m ∧ m < 1000000 ∧ ∀ r l, 0 ≤ r → r < m → Bag (DL.put C b (.lst l)) b (n + 1) → k (.int r) (DL.put C b (.lst l))
theorem ok_take {f : Addr} {fd : FuncData} (F : Fun K "_law_take" "_law_take" s_take f fd) (Z : Zs mg) : FnG P w K mg base CX0 1 f fd P_take (toSp K spTake) := by
  refine fnX F sc_take v_take l_take g_take (fun ds C k h => by obtain ⟨_, _, _, rfl, _⟩ := h; rfl) fun X hB ds C k h => ?_
  obtain ⟨b, n, m, rfl, ⟨x, y, c, hC, x0, y0, y1, c0, c1⟩, hn30, m1, m2, h⟩ := h
  obtain ⟨hx, hn, hs, hg, hd, hnox⟩ := hB
  change WSs X _ [some (.own b), some (.int m), none, none, none, none, none, none] C _
  refine wss_cons ?_
  have mz : 0 < m := by omega
  have cd : CDiv x m := ⟨by omega, by omega⟩
  have pw : CPowW (y * (2 * (c + 1) + 1) + 5003 * (c + 1) * (c + 1) + 97) 3 := by
    have h1 : y * (2 * (c + 1) + 1) ≤ 4611686018427387904 * 2000003 := Int.mul_le_mul (by omega) (by omega) (by omega) (by omega)
    have h2 : 0 ≤ y * (2 * (c + 1) + 1) := Int.mul_nonneg y0 (by omega)
    have h3 : 5003 * (c + 1) * (c + 1) ≤ 5003 * 1000001 * 1000001 := Int.mul_le_mul (by omega) (by omega) (by omega) (by omega)
    have h4 : 0 ≤ 5003 * (c + 1) * (c + 1) := Int.mul_nonneg (by omega) (by omega)
    refine ⟨by omega, by omega, ?_⟩
    have : (y * (2 * (c + 1) + 1) + 5003 * (c + 1) * (c + 1) + 97).natAbs < 2 ^ 100 := by omega
    exact Nat.lt_trans this (Nat.pow_lt_pow_right (by decide) (by decide))
  walk_at "pyR"
  · rename_i hx0
    have := h (x % m) [.int (x / m), .int y, .int c] (Int.emod_nonneg _ (by omega)) (Int.emod_lt_of_pos _ mz) ⟨x / m, y, c, put_same, Int.ediv_nonneg x0 (by omega), y0, y1, c0, by omega⟩
    exact this
  · refine prime_ix fun p p0 p1 => ?_
    have h1 := Int.emod_nonneg ((y * (2 * (c + 1) + 1) + 5003 * (c + 1) * (c + 1) + 97) ^ (3 : Int).toNat) (show p ≠ 0 by omega)
    have h2 := Int.emod_lt_of_pos ((y * (2 * (c + 1) + 1) + 5003 * (c + 1) * (c + 1) + 97) ^ (3 : Int).toNat) (show 0 < p by omega)
    have cm : ∀ j, CMul ((y * (2 * (c + 1) + 1) + 5003 * (c + 1) * (c + 1) + 97) ^ (3 : Int).toNat % p) j := fun j => .inl ⟨by omega, by omega⟩
    walk_at "pyR"
    refine prime_ix fun p' p0' p1' => ?_
    walk_at "pyR"
    exact h _ [.int x, .int y, .int (c + 1)] (Int.emod_nonneg _ (by omega)) (Int.emod_lt_of_pos _ mz) ⟨x, y, c + 1, put_same, x0, y0, y1, by omega, by omega⟩
/-- the bag that a cell of the script gives -/
def spBag : DSp := fun ds C k => ∃ (ns : List Int) (a : Nat), ds = [.slst (ns.map D.int), .int (a : Nat)] ∧ a ≤ 100 ∧ ∀ p l, C p = none → Bag (DL.put C p (.lst l)) p 0 → k (.own p) (DL.put C p (.lst l))
theorem at_map {ns : List Int} {a : Nat} (h : a < ns.length) : atI (ns.map D.int) (a : Int) = some (.int ns[a]) := by
  unfold atI ixN
  rw [if_pos (by omega), if_pos (by rw [List.length_map]; omega)]
  simp [h]
theorem ok_bag {f : Addr} {fd : FuncData} (F : Fun K "_law_bag" "_law_bag" s_bag f fd) (Z : Zs mg) : FnG P w K mg base CX0 1 f fd P_bag (toSp K spBag) := by
  refine fnX F sc_bag v_bag l_bag g_bag (fun ds C k h => by obtain ⟨_, _, rfl, _⟩ := h; rfl) fun X hB ds C k h => ?_
  obtain ⟨ns, a, rfl, ha, h⟩ := h
  obtain ⟨hx, hn, hs, hg, hd, hnox⟩ := hB
  change WSs X _ [some (.slst (ns.map D.int)), some (.int a), none] C _
  refine wss_cons ?_
  have pw : CPowW 10 18 := ⟨by decide, by decide, Nat.lt_of_lt_of_le (by decide : (10 : Int).natAbs < 2 ^ 10) (Nat.pow_le_pow_right (by decide) (by decide))⟩
  have e18 : (10 : Int) ^ Int.toNat 18 = 1000000000000000000 := by decide
  have nn : ∀ (i : Int) (t : Bool), 0 ≤ i → 0 ≤ i * (if t = true then (1 : Int) else 0) := fun i t hi => Int.mul_nonneg hi (by split <;> decide)
  have aa : (a : Int) * 8191 * a ≤ 8191 * 100 * 100 := Int.mul_le_mul (by omega) (by omega) (by omega) (by omega)
  have ab : (0 : Int) ≤ 8191 * a * a := Int.mul_nonneg (by omega) (by omega)
  have ac : (8191 : Int) * a * a ≤ 8191 * 100 * 100 := Int.mul_le_mul (by omega) (by omega) (by omega) (by omega)
  walk_at "pyR"
  · rename_i hlt
    have hlt : a < ns.length := by have := dec_t hlt; rw [List.length_map] at this; omega
    refine ix_s (at_map hlt) ?_
    walk_at "pyR"
    refine we_lst ?_
    walk_at "pyR"
    intro p hp
    refine h p _ hp ⟨_, _, _, put_same, nn _ _ (by split <;> omega), ?_, ?_, by decide, by decide⟩ <;> omega
  · refine we_lst ?_
    walk_at "pyR"
    intro p hp
    refine h p _ hp ⟨_, _, _, put_same, nn _ _ (by decide), ?_, ?_, by decide, by decide⟩ <;> omega
/-- any item of a list -/
def spOf : DSp := fun ds C k => ∃ (b : Addr) (n : Nat) (xs : List D), ds = [.own b, .lst xs] ∧ Bag C b n ∧ n ≤ 1000000 ∧ 1 ≤ xs.length ∧ xs.length < 1000 ∧ ∀ d l, d ∈ xs → Bag (DL.put C b (.lst l)) b (n + 1) → k d (DL.put C b (.lst l))
theorem ok_of {f : Addr} {fd : FuncData} (F : Fun K "_law_of" "_law_of" s_of f fd) (Z : Zs mg) (h1 : FnC P w K mg base "_law_take" 1 spTake) : FnG P w K mg base CX0 2 f fd P_of (toSp K spOf) := by
  refine fnX F sc_of v_of l_of g_of (fun ds C k h => by obtain ⟨_, _, _, rfl, _⟩ := h; rfl) fun X hB ds C k h => ?_
  obtain ⟨b, n, xs, rfl, hBag, hn6, x1, x2, h⟩ := h
  obtain ⟨hx, hn, hs, hg, hd, hnox⟩ := hB
  change WSs X _ [some (.own b), some (.lst xs)] C _
  refine wss_cons ?_
  walk_at "pyR"
  refine ⟨b, n, (xs.length : Nat), rfl, hBag, hn6, by omega, by omega, fun r l r0 r1 hB1 => ?_⟩
  refine ix_any r0 r1 fun d hd => ?_
  exact h d l hd hB1
end
end K31
namespace K31
/-! plain data: texts below 128, ints below a bound; t: truths and lists too -/
mutual
def gd (t : Bool) (B : Nat) : Nat → D → Bool
  | _, .non => true
  | _, .bl _ => t
  | _, .int i => decide (i.natAbs < B)
  | _, .str z => z.cps.toList.all fun c => decide (c < 128)
  | n + 1, .lst xs => t && gdL t B n xs
  | n + 1, .tup xs => gdL t B n xs
  | _, _ => false
def gdL (t : Bool) (B : Nat) : Nat → List D → Bool
  | _, [] => true
  | n, d :: ds => gd t B n d && gdL t B n ds
end
theorem gdL_all {t : Bool} {B n : Nat} : ∀ {ds : List D}, gdL t B n ds = true ↔ ∀ d ∈ ds, gd t B n d = true
  | [] => by simp [gdL]
  | d :: ds => by simp [gdL, gdL_all (ds := ds)]
theorem asc_ok {z : Str} (h : (z.cps.toList.all fun c => decide (c < 128)) = true) : PyData.strOk z = true := by
  unfold PyData.strOk
  rw [← Array.all_toList, List.all_eq_true]
  rw [List.all_eq_true] at h
  exact fun c hc => decide_eq_true (by have := of_decide_eq_true (h c hc); omega)
mutual
theorem gd_fit {t : Bool} {B : Nat} (hB : B ≤ 10 ^ 60) : ∀ (d : D) {n : Nat}, gd t B n d = true → d.fit n = true ∧ d.shI = true
  | .non, _, _ | .bl _, _, _ => by simp [D.fit, D.shI]
  | .int i, n, h => by
    have h : i.natAbs < B := by cases n <;> simpa [gd] using h
    refine ⟨by cases n <;> rfl, ?_⟩
    simp only [D.shI, decide_eq_true_eq]; omega
  | .str z, n, h => by
    have h : (z.cps.toList.all fun c => decide (c < 128)) = true := by cases n <;> exact h
    exact ⟨by cases n <;> exact asc_ok h, rfl⟩
  | .lst xs, 0, h | .tup xs, 0, h => by simp [gd] at h
  | .lst xs, n + 1, h => by
    simp only [gd, Bool.and_eq_true] at h
    obtain ⟨a, b⟩ := gdL_fit hB xs h.2
    exact ⟨by simpa [D.fit] using a, by simpa [D.shI] using b⟩
  | .tup xs, n + 1, h => by
    simp only [gd] at h
    obtain ⟨a, b⟩ := gdL_fit hB xs h
    exact ⟨by simpa [D.fit] using a, by simpa [D.shI] using b⟩
  | .slst _, n, h | .obj _ _ _, n, h | .own _, n, h | .opq _, n, h => by cases n <;> simp [gd] at h
theorem gdL_fit {t : Bool} {B : Nat} (hB : B ≤ 10 ^ 60) : ∀ (ds : List D) {n : Nat}, gdL t B n ds = true → fitL n ds = true ∧ shL ds = true
  | [], _, _ => ⟨rfl, rfl⟩
  | d :: ds, n, h => by
    simp only [gdL, Bool.and_eq_true] at h
    obtain ⟨a, b⟩ := gd_fit hB d h.1
    obtain ⟨c, e⟩ := gdL_fit hB ds h.2
    exact ⟨by simp [fitL, a, c], by simp [shL, b, e]⟩
end
theorem gd_ob {t : Bool} {B n : Nat} {d : D} (h : gd t B n d = true) (hB : B ≤ 10 ^ 60 := by decide) (hn : n ≤ 60 := by omega) (hw : d.wt ≤ 200000 := by omega) : Ob d :=
  ⟨⟨n, hn, (gd_fit hB d h).1⟩, (gd_fit hB d h).2, hw⟩
mutual
theorem gd_up {t : Bool} {B B' : Nat} (hB : B ≤ B') : ∀ (d : D) {n m : Nat}, gd t B n d = true → n ≤ m → gd true B' m d = true
  | .non, _, _, _, _ | .bl _, _, _, _, _ => by simp [gd]
  | .int i, n, m, h, _ => by
    have h : i.natAbs < B := by cases n <;> simpa [gd] using h
    have : decide (i.natAbs < B') = true := decide_eq_true (by omega)
    cases m <;> exact this
  | .str z, n, m, h, _ => by
    have h : (z.cps.toList.all fun c => decide (c < 128)) = true := by cases n <;> exact h
    cases m <;> exact h
  | .lst xs, 0, _, h, _ | .tup xs, 0, _, h, _ => by simp [gd] at h
  | .lst xs, n + 1, 0, h, l | .tup xs, n + 1, 0, h, l => absurd l (by omega)
  | .lst xs, n + 1, m + 1, h, l => by
    simp only [gd, Bool.and_eq_true] at h ⊢
    exact ⟨trivial, gdL_up hB xs h.2 (by omega)⟩
  | .tup xs, n + 1, m + 1, h, l => by
    simp only [gd] at h ⊢
    exact gdL_up hB xs h (by omega)
  | .slst _, n, _, h, _ | .obj _ _ _, n, _, h, _ | .own _, n, _, h, _ | .opq _, n, _, h, _ => by cases n <;> simp [gd] at h
theorem gdL_up {t : Bool} {B B' : Nat} (hB : B ≤ B') : ∀ (ds : List D) {n m : Nat}, gdL t B n ds = true → n ≤ m → gdL true B' m ds = true
  | [], _, _, _, _ => rfl
  | d :: ds, n, m, h, l => by
    simp only [gdL, Bool.and_eq_true] at h ⊢
    exact ⟨gd_up hB d h.1 l, gdL_up hB ds h.2 l⟩
end
theorem gd_parts {t : Bool} {B n : Nat} {xs : List D} (h : gd t B n (.tup xs) = true) : ∃ m, n = m + 1 ∧ ∀ d ∈ xs, gd t B m d = true := by
  cases n with
  | zero => simp [gd] at h
  | succ m => exact ⟨m, rfl, gdL_all.mp (by simpa [gd] using h)⟩
theorem gd_tup {t : Bool} {B n : Nat} {xs : List D} (h : ∀ d ∈ xs, gd t B n d = true) : gd t B (n + 1) (.tup xs) = true := by simp only [gd]; exact gdL_all.mpr h
theorem gd_lst {B n : Nat} {xs : List D} (h : ∀ d ∈ xs, gd true B n d = true) : gd true B (n + 1) (.lst xs) = true := by simp only [gd, Bool.true_and]; exact gdL_all.mpr h
theorem gd_str {t : Bool} {B n : Nat} {z : Str} (h : ∀ c ∈ z.cps.toList, c < 128) : gd t B n (.str z) = true := by
  have : (z.cps.toList.all fun c => decide (c < 128)) = true := List.all_eq_true.mpr fun c hc => decide_eq_true (h c hc)
  cases n <;> exact this
theorem gd_str' {t : Bool} {B n : Nat} {z : Str} (h : gd t B n (.str z) = true) : ∀ c ∈ z.cps.toList, c < 128 := by
  have h : (z.cps.toList.all fun c => decide (c < 128)) = true := by cases n <;> exact h
  exact fun c hc => of_decide_eq_true (List.all_eq_true.mp h c hc)
theorem gd_int {t : Bool} {B n : Nat} {i : Int} (h : i.natAbs < B) : gd t B n (.int i) = true := by cases n <;> simpa [gd] using h
theorem gd_int' {t : Bool} {B n : Nat} {i : Int} (h : gd t B n (.int i) = true) : i.natAbs < B := by cases n <;> simpa [gd] using h
theorem gd_non {t : Bool} {B n : Nat} : gd t B n .non = true := by cases n <;> rfl
/-! weights -/
theorem wtL_app : ∀ (xs ys : List D), wtL (xs ++ ys) = wtL xs + wtL ys
  | [], ys => by simp [wtL]
  | x :: xs, ys => by simp only [List.cons_append, wtL, wtL_app xs ys]; omega
theorem wtL_rev : ∀ xs : List D, wtL xs.reverse = wtL xs
  | [] => rfl
  | x :: xs => by rw [List.reverse_cons, wtL_app, wtL_rev xs]; simp only [wtL]; omega
theorem wtL_set : ∀ (xs : List D) (j : Nat) (d x : D), xs[j]? = some x → wtL (xs.set j d) + x.wt = wtL xs + d.wt
  | [], j, d, x, h => by simp at h
  | y :: xs, 0, d, x, h => by
    simp at h; subst h
    simp only [List.set_cons_zero, wtL]; omega
  | y :: xs, j + 1, d, x, h => by
    have := wtL_set xs j d x (by simpa using h)
    simp only [List.set_cons_succ, wtL]; omega
theorem wtL_erase : ∀ (xs : List D) (j : Nat), wtL (xs.eraseIdx j) ≤ wtL xs
  | [], j => by simp [wtL]
  | y :: xs, 0 => by simp only [List.eraseIdx_cons_zero, wtL]; omega
  | y :: xs, j + 1 => by
    have := wtL_erase xs j
    simp only [List.eraseIdx_cons_succ, wtL]; omega
theorem wtL_ins (xs : List D) (j : Nat) (d : D) : wtL (xs.take j ++ [d] ++ xs.drop j) = wtL xs + d.wt + 1 := by
  have := wtL_app (xs.take j) (xs.drop j)
  rw [List.take_append_drop] at this
  rw [wtL_app, wtL_app, this]
  simp only [wtL]; omega
theorem wtL_drop (xs : List D) (j : Nat) : wtL (xs.drop j) ≤ wtL xs := by
  have := wtL_app (xs.take j) (xs.drop j)
  rw [List.take_append_drop] at this
  omega
theorem wt_len {z : Str} : (D.str z).wt = z.length := rfl
theorem asc_num (i : Int) : ∀ c ∈ (toString i : Str).cps.toList, c < 128 := PySem.W.KSb.asc_num i
theorem num_len {i : Int} (h : i.natAbs < 10 ^ 60) : (toString i : Str).length ≤ 61 := by
  have e := int_text_length_le10 (k := 60) (by decide) h
  show (Str.ofString (toString i)).length ≤ 61
  rw [PySem.ofString_length]; exact e
end K31
namespace K31
section
variable {P : Program} {w : World} {K : PySem.W.Frag} {mg : Str → Option Value} {base : Heap}
/-- texts of few signs below 128 -/
def As (n : Nat) (z : Str) : Prop := z.length ≤ n ∧ ∀ c ∈ z.cps.toList, c < 128
instance (n : Nat) (z : Str) : Decidable (As n z) := by unfold As; infer_instance
theorem at_abc {r : Int} (h0 : 0 ≤ r) (h1 : r < 26) : ∃ c, atI abc.cps.toList r = some c ∧ c < 128 := by
  have hl : abc.cps.toList.length = 26 := by decide +kernel
  have ha : ∀ c ∈ abc.cps.toList, c < 128 := by decide +kernel
  have hr : r.toNat < abc.cps.toList.length := by omega
  refine ⟨abc.cps.toList[r.toNat], ?_, ha _ (List.getElem_mem hr)⟩
  unfold atI ixN
  rw [if_pos h0, if_pos (by omega)]
  exact List.getElem?_eq_getElem hr
abbrev sgs : Str := "ab #:>+=?|.09"
theorem at_sgs {r : Int} (h0 : 0 ≤ r) (h1 : r < 13) : ∃ c, atI sgs.cps.toList r = some c ∧ c < 128 := by
  have hl : sgs.cps.toList.length = 13 := by decide +kernel
  have ha : ∀ c ∈ sgs.cps.toList, c < 128 := by decide +kernel
  have hr : r.toNat < sgs.cps.toList.length := by omega
  refine ⟨sgs.cps.toList[r.toNat], ?_, ha _ (List.getElem_mem hr)⟩
  unfold atI ixN
  rw [if_pos h0, if_pos (by omega)]
  exact List.getElem?_eq_getElem hr
def spStr (N m : Nat) : DSp := fun ds C k => ∃ (b : Addr) (n : Nat), ds = [.own b] ∧ Bag C b n ∧ n + m ≤ 1000000 ∧ ∀ l z, As N z → Bag (DL.put C b (.lst l)) b (n + m) → k (.str z) (DL.put C b (.lst l))
theorem strs_of {N : Nat} {zs : List Str} {d : D} (h : d ∈ zs.map D.str) (ha : ∀ z ∈ zs, As N z) : ∃ z, d = .str z ∧ As N z := by
  obtain ⟨z, hz, rfl⟩ := List.mem_map.mp h
  exact ⟨z, rfl, ha z hz⟩
abbrev words : List Str := ["a", "main", "at", "gap", "times", "rows", "member", "cause", "context", "cut", "more", "deep", "text"]
theorem ok_name {f : Addr} {fd : FuncData} (F : Fun K "_law_name" "_law_name" s_name f fd) (Z : Zs mg) (h1 : FnC P w K mg base "_law_take" 1 spTake) (h2 : FnC P w K mg base "_law_of" 2 spOf) : FnG P w K mg base CX0 3 f fd P_name (toSp K (spStr 8 20)) := by
  refine fnX F sc_name v_name l_name g_name (fun ds C k h => by obtain ⟨_, _, rfl, _⟩ := h; rfl) fun X hB ds C k h => ?_
  obtain ⟨b, n, rfl, hBag, hn6, h⟩ := h
  obtain ⟨hx, hn, hs, hg, hd, hnox⟩ := hB
  change WSs X _ [some (.own b), none, none, none] C _
  refine wss_cons ?_
  walk_at "pyA"
  refine ⟨b, n, 3, rfl, hBag, by omega, by omega, by omega, fun r l1 r0 r1 hB1 => ?_⟩
  walk_at "pyA"
  · refine ⟨b, _, words.map D.str, rfl, hB1, by omega, by decide, by decide, fun d l2 hd2 hB2 => ?_⟩
    obtain ⟨z, rfl, hz⟩ := strs_of (N := 8) hd2 (by decide +kernel)
    rw [put_put] at hB2 ⊢
    exact h l2 z hz (hB2.mono (by omega))
  · refine we_fa (lc1 ["_law_letters", "_law_bag_here"] ["_law_take"] hd (by walk_at "nm") (by decide +kernel) (by decide +kernel) (by decide +kernel) (by decide +kernel) (x_range1 hx Z (by walk_at "gl") ?_))
    walk_at "pyA"
    refine ⟨b, _, [.int 1, .int 1, .int 2, .int 3, .int 8], rfl, hB1, by omega, by decide, by decide, fun d l2 hd2 hB2 => ?_⟩
    obtain ⟨m, rfl, m1, m8⟩ : ∃ m : Int, d = .int m ∧ 1 ≤ m ∧ m ≤ 8 := by
      simp only [List.mem_cons, List.not_mem_nil, or_false] at hd2
      rcases hd2 with rfl | rfl | rfl | rfl | rfl <;> exact ⟨_, rfl, by decide, by decide⟩
    rw [put_put] at hB2 ⊢
    walk_at "pyA"
    refine ⟨m, rfl, by omega, by omega, ?_⟩
    refine ⟨fun j acc C' => ∃ l cs, C' = DL.put C b (.lst l) ∧ Bag C' b (n + 2 + j) ∧ acc = cs.map (fun c => D.str (sg c)) ∧ cs.length = j ∧ ∀ c ∈ cs, c < 128, ⟨l2, [], rfl, hB2, rfl, rfl, fun _ h => by simp at h⟩, fun _ _ _ _ => trivial, ?_, ?_⟩
    · rintro j d acc C2 hj ⟨l3, cs, rfl, hB3, rfl, hcl, hcs⟩ X' hX hn' hg'
      obtain ⟨hj, rfl⟩ := intsFrom_get hj
      refine wif_nil ⟨fun _ X' hX hn' hg' => ?_, fun h => Bool.noConfusion h⟩
      have hx' := hx.blk hX
      walk_at "pyA"
      refine ⟨b, _, 26, rfl, hB3, by omega, by omega, by omega, fun r' l4 r0' r1' hB4 => ?_⟩
      rw [put_put] at hB4 ⊢
      obtain ⟨c, hc, hc8⟩ := at_abc r0' r1'
      refine ix_z (by decide +kernel) hc ?_
      refine ⟨by rw [List.length_map]; exact Nat.lt_of_lt_of_le (by omega : cs.length < 100) (by decide), l4, cs ++ [c], rfl, hB4.mono (by omega), by rw [List.map_append]; rfl, by rw [List.length_append, hcl]; rfl, fun x hx => ?_⟩
      rcases List.mem_append.mp hx with hx | hx
      · exact hcs x hx
      · rw [List.mem_singleton.mp hx]; exact hc8
    · rintro acc C2 ⟨l3, cs, rfl, hB3, rfl, hcl, hcs⟩ q hq
      rw [intsFrom_length] at hcl hB3
      refine fa_put hq ?_
      walk_at "pyA"
      refine join_ok (cs := cs) rfl (by omega) fun z hz => ?_
      exact h l3 z ⟨by rw [str_len, hz]; omega, fun c hc => hcs c (by rw [← hz]; exact hc)⟩ (hB3.mono (by omega))
abbrev lines : List Str := ["", " ", "#0 low", "  at main 1 2 go", "| x", "  > x", "  + y", "cause #0", "    = z", ": ", "low: "]
theorem ok_line {f : Addr} {fd : FuncData} (F : Fun K "_law_line" "_law_line" s_line f fd) (Z : Zs mg) (h1 : FnC P w K mg base "_law_take" 1 spTake) (h2 : FnC P w K mg base "_law_of" 2 spOf) : FnG P w K mg base CX0 3 f fd P_line (toSp K (spStr 20 20)) := by
  refine fnX F sc_line v_line l_line g_line (fun ds C k h => by obtain ⟨_, _, rfl, _⟩ := h; rfl) fun X hB ds C k h => ?_
  obtain ⟨b, n, rfl, hBag, hn6, h⟩ := h
  obtain ⟨hx, hn, hs, hg, hd, hnox⟩ := hB
  change WSs X _ [some (.own b), none, none, none] C _
  refine wss_cons ?_
  walk_at "pyA"
  refine ⟨b, n, 3, rfl, hBag, by omega, by omega, by omega, fun r l1 r0 r1 hB1 => ?_⟩
  walk_at "pyA"
  · refine ⟨b, _, lines.map D.str, rfl, hB1, by omega, by decide, by decide, fun d l2 hd2 hB2 => ?_⟩
    obtain ⟨z, rfl, hz⟩ := strs_of (N := 20) hd2 (by decide +kernel)
    rw [put_put] at hB2 ⊢
    exact h l2 z hz (hB2.mono (by omega))
  · refine we_fa (lc1 ["_law_signs", "_law_bag_here"] ["_law_take"] hd (by walk_at "nm") (by decide +kernel) (by decide +kernel) (by decide +kernel) (by decide +kernel) (x_range1 hx Z (by walk_at "gl") ?_))
    walk_at "pyA"
    refine ⟨b, _, 7, rfl, hB1, by omega, by omega, by omega, fun m l2 m0 m7 hB2 => ?_⟩
    rw [put_put] at hB2 ⊢
    walk_at "pyA"
    refine ⟨m, rfl, by omega, by omega, ?_⟩
    refine ⟨fun j acc C' => ∃ l cs, C' = DL.put C b (.lst l) ∧ Bag C' b (n + 2 + j) ∧ acc = cs.map (fun c => D.str (sg c)) ∧ cs.length = j ∧ ∀ c ∈ cs, c < 128, ⟨l2, [], rfl, hB2, rfl, rfl, fun _ h => by simp at h⟩, fun _ _ _ _ => trivial, ?_, ?_⟩
    · rintro j d acc C2 hj ⟨l3, cs, rfl, hB3, rfl, hcl, hcs⟩ X' hX hn' hg'
      obtain ⟨hj, rfl⟩ := intsFrom_get hj
      refine wif_nil ⟨fun _ X' hX hn' hg' => ?_, fun h => Bool.noConfusion h⟩
      have hx' := hx.blk hX
      walk_at "pyA"
      refine ⟨b, _, 13, rfl, hB3, by omega, by omega, by omega, fun r' l4 r0' r1' hB4 => ?_⟩
      rw [put_put] at hB4 ⊢
      obtain ⟨c, hc, hc8⟩ := at_sgs r0' r1'
      refine ix_z (by decide +kernel) hc ?_
      refine ⟨by rw [List.length_map]; exact Nat.lt_of_lt_of_le (by omega : cs.length < 100) (by decide), l4, cs ++ [c], rfl, hB4.mono (by omega), by rw [List.map_append]; rfl, by rw [List.length_append, hcl]; rfl, fun x hx => ?_⟩
      rcases List.mem_append.mp hx with hx | hx
      · exact hcs x hx
      · rw [List.mem_singleton.mp hx]; exact hc8
    · rintro acc C2 ⟨l3, cs, rfl, hB3, rfl, hcl, hcs⟩ q hq
      rw [intsFrom_length] at hcl hB3
      refine fa_put hq ?_
      walk_at "pyA"
      refine join_ok (cs := cs) rfl (by omega) fun z hz => ?_
      exact h l3 z ⟨by rw [str_len, hz]; omega, fun c hc => hcs c (by rw [← hz]; exact hc)⟩ (hB3.mono (by omega))
def spRow : DSp := fun ds C k => ∃ (b : Addr) (n : Nat), ds = [.own b] ∧ Bag C b n ∧ n + 100 ≤ 1000000 ∧ ∀ l d, gd false (10 ^ 10) 2 d = true → d.wt ≤ 1000 → Bag (DL.put C b (.lst l)) b (n + 100) → k d (DL.put C b (.lst l))
theorem shn_gd {z y : Str} (hy : As 20 y) (hz : z = "lack" ∨ z = "text") : gd false (10 ^ 10) 1 (.tup [.str z, .str y]) = true ∧ (D.tup [.str z, .str y]).wt ≤ 50 := by
  have h1 : As 4 z := by rcases hz with rfl | rfl <;> decide +kernel
  refine ⟨gd_tup fun d hd => ?_, ?_⟩
  · simp only [List.mem_cons, List.not_mem_nil, or_false] at hd
    rcases hd with rfl | rfl
    · exact gd_str h1.2
    · exact gd_str hy.2
  · have := h1.1
    have := hy.1
    simp only [D.wt, wtL]
    unfold Str.length at *
    omega
theorem ok_row {f : Addr} {fd : FuncData} (F : Fun K "_law_row" "_law_row" s_row f fd) (Z : Zs mg) (h1 : FnC P w K mg base "_law_name" 3 (spStr 8 20)) (h2 : FnC P w K mg base "_law_of" 2 spOf) (h3 : FnC P w K mg base "_law_line" 3 (spStr 20 20)) : FnG P w K mg base CX0 4 f fd P_row (toSp K spRow) := by
  refine fnX F sc_row v_row l_row g_row (fun ds C k h => by obtain ⟨_, _, rfl, _⟩ := h; rfl) fun X hB ds C k h => ?_
  obtain ⟨b, n, rfl, hBag, hn6, h⟩ := h
  obtain ⟨hx, hn, hs, hg, hd, hnox⟩ := hB
  have pw : CPowW 10 9 := ⟨by decide, by decide, Nat.lt_of_lt_of_le (by decide : (10 : Int).natAbs < 2 ^ 10) (Nat.pow_le_pow_right (by decide) (by decide))⟩
  have e9 : (10 : Int) ^ Int.toNat 9 = 1000000000 := by decide
  change WSs X _ [some (.own b), none, none, none] C _
  refine wss_cons ?_
  walk_at "pyA"
  refine ⟨b, n, lacks.map D.str, rfl, hBag, by omega, by decide, by decide, fun d l1 hd1 hB1 => ?_⟩
  obtain ⟨wd, rfl, hw⟩ := strs_of (N := 20) hd1 (by decide +kernel)
  walk_at "pyA"
  refine ⟨b, _, rfl, hB1, by omega, fun l2 ln hln hB2 => ?_⟩
  rw [put_put] at hB2 ⊢
  walk_at "pyA"
  refine ⟨b, _, _, rfl, hB2, by omega, by simp, by simp, fun sd l3 hsd hB3 => ?_⟩
  have hsd : gd false (10 ^ 10) 1 sd = true ∧ sd.wt ≤ 50 := by
    simp only [List.mem_cons, List.not_mem_nil, or_false] at hsd
    rcases hsd with rfl | rfl | rfl | rfl
    · exact ⟨rfl, by decide⟩
    · exact ⟨rfl, by decide⟩
    · exact shn_gd hw (.inl rfl)
    · exact shn_gd hln (.inr rfl)
  rw [put_put] at hB3 ⊢
  walk_at "pyA"
  rw [e9]
  refine ⟨b, _, [.int 0, .int 1, .int 2, .int 10, .int 1000000000], rfl, hB3, by omega, by decide, by decide, fun e l4 he hB4 => ?_⟩
  obtain ⟨e, rfl, e1⟩ : ∃ i : Int, e = .int i ∧ i.natAbs < 10 ^ 10 := by
    simp only [List.mem_cons, List.not_mem_nil, or_false] at he
    rcases he with rfl | rfl | rfl | rfl | rfl <;> exact ⟨_, rfl, by decide⟩
  rw [put_put] at hB4 ⊢
  walk_at "pyA"
  rw [e9]
  refine ⟨b, _, [.int 1, .int 2, .int 9, .int 10, .int 1000000000], rfl, hB4, by omega, by decide, by decide, fun i l5 hi hB5 => ?_⟩
  obtain ⟨i, rfl, i1⟩ : ∃ i' : Int, i = .int i' ∧ i'.natAbs < 10 ^ 10 := by
    simp only [List.mem_cons, List.not_mem_nil, or_false] at hi
    rcases hi with rfl | rfl | rfl | rfl | rfl <;> exact ⟨_, rfl, by decide⟩
  rw [put_put] at hB5 ⊢
  walk_at "pyA"
  refine ⟨b, _, rfl, hB5, by omega, fun l6 x hx1 hB6 => ?_⟩
  rw [put_put] at hB6 ⊢
  walk_at "pyA"
  refine ⟨b, _, rfl, hB6, by omega, fun l7 y hy1 hB7 => ?_⟩
  rw [put_put] at hB7 ⊢
  walk_at "pyA"
  refine h l7 _ (gd_tup fun d hd => ?_) ?_ (hB7.mono (by omega))
  · simp only [List.mem_cons, List.not_mem_nil, or_false] at hd
    rcases hd with rfl | rfl | rfl | rfl | rfl
    · exact gd_str hx1.2
    · exact gd_int e1
    · exact gd_int i1
    · exact gd_str hy1.2
    · exact hsd.1
  · have := hx1.1
    have := hy1.1
    have := hsd.2
    simp only [D.wt, wtL]
    unfold Str.length at *
    omega
end
end K31
namespace K31
section
variable {P : Program} {w : World} {K : PySem.W.Frag} {mg : Str → Option Value} {base : Heap}
theorem len_wtL : ∀ xs : List D, xs.length ≤ wtL xs
  | [] => Nat.le_refl _
  | x :: xs => by have := len_wtL xs; simp only [List.length_cons, wtL]; omega
theorem wtL_take (xs : List D) (j : Nat) : wtL (xs.take j) ≤ wtL xs := by
  have := wtL_app (xs.take j) (xs.drop j)
  rw [List.take_append_drop] at this
  omega
def spOdd (m : Nat) : DSp := fun ds C k => ∃ (b : Addr) (n : Nat) (x : D), ds = [.own b, x] ∧ gd false (10 ^ 10) m x = true ∧ m ≤ 10 ∧ x.wt ≤ 10000 ∧ Bag C b n ∧ n + 10 ≤ 1000000 ∧ ∀ l d, gd true (10 ^ 31) (m + 1) d = true → d.wt ≤ 2 * x.wt + 300 → Bag (DL.put C b (.lst l)) b (n + 1) → k d (DL.put C b (.lst l))
abbrev some1 : List D := [.non, .bl true, .bl false, .int 0, .int 1, .int (-1), .int (10 ^ 30), .str "", .str "a", .str "A", .str "abcdefghi", .str "a b", .str "gap", .str "lack", .str "more", .str "cause"]
abbrev some2 (x : D) : List D := [.tup [], .lst [], .tup [x], .lst [x], .tup [.str "gap", .int 1], .tup [.str "gap", .int 0], .tup [.str "text", .str "x"], .tup [.str "more", .int 1], .tup [.str "deep", .int 2]]
/-- what may come of it -/
def Gw (m W : Nat) (d : D) : Prop := gd true (10 ^ 31) (m + 1) d = true ∧ d.wt ≤ 2 * W + 300
theorem some1_ok {m W : Nat} : ∀ d ∈ some1, Gw m W d := by
  intro d hd
  have : gd true (10 ^ 31) 0 d = true ∧ d.wt ≤ 300 := by
    revert d
    decide +kernel
  exact ⟨gd_up (Nat.le_refl _) d this.1 (Nat.zero_le _), by omega⟩
theorem some2_ok {m : Nat} {x : D} (hx : gd false (10 ^ 10) m x = true) : ∀ d ∈ some2 x, Gw m x.wt d := by
  have hx' : gd true (10 ^ 31) m x = true := gd_up (by decide) x hx (Nat.le_refl _)
  have small : ∀ d ∈ ([.tup [], .lst [], .tup [.str "gap", .int 1], .tup [.str "gap", .int 0], .tup [.str "text", .str "x"], .tup [.str "more", .int 1], .tup [.str "deep", .int 2]] : List D), Gw m x.wt d := by
    intro d hd
    have : gd true (10 ^ 31) 1 d = true ∧ d.wt ≤ 300 := by
      revert d
      decide +kernel
    exact ⟨gd_up (Nat.le_refl _) d this.1 (by omega), by omega⟩
  intro d hd
  simp only [some2, List.mem_cons, List.not_mem_nil, or_false] at hd
  rcases hd with rfl | rfl | rfl | rfl | rfl | rfl | rfl | rfl | rfl
  · exact small _ (by simp)
  · exact small _ (by simp)
  · exact ⟨gd_tup fun d hd => by rw [List.mem_singleton.mp hd]; exact hx', by simp only [D.wt, wtL]; omega⟩
  · exact ⟨gd_lst fun d hd => by rw [List.mem_singleton.mp hd]; exact hx', by simp only [D.wt, wtL]; omega⟩
  · exact small _ (by simp)
  · exact small _ (by simp)
  · exact small _ (by simp)
  · exact small _ (by simp)
  · exact small _ (by simp)
theorem ok_odd {f : Addr} {fd : FuncData} (F : Fun K "_law_odd" "_law_odd" s_odd f fd) (Z : Zs mg) (m : Nat) (h2 : FnC P w K mg base "_law_of" 2 spOf) : FnG P w K mg base CX0 3 f fd P_odd (toSp K (spOdd m)) := by
  refine fnX F sc_odd v_odd l_odd g_odd (fun ds C k h => by obtain ⟨_, _, _, rfl, _⟩ := h; rfl) fun X hB ds C k h => ?_
  obtain ⟨b, n, x, rfl, hG, hm, hW, hBag, hn6, h⟩ := h
  obtain ⟨hx, hn, hs, hg, hd, hnox⟩ := hB
  have pw : CPowW 10 30 := ⟨by decide, by decide, Nat.lt_of_lt_of_le (by decide : (10 : Int).natAbs < 2 ^ 10) (Nat.pow_le_pow_right (by decide) (by decide))⟩
  have e30 : (10 : Int) ^ Int.toNat 30 = 10 ^ 30 := rfl
  have fin : ∀ xs : List D, 1 ≤ xs.length → xs.length < 1000 → (∀ d ∈ xs, Gw m x.wt d) → spOf [.own b, .lst xs] C k := fun xs h1 h2 h3 => ⟨b, n, xs, rfl, hBag, by omega, h1, h2, fun d l hd hB => h l d (h3 d hd).1 (h3 d hd).2 hB⟩
  have b1 : ∀ d ∈ some1 ++ some2 x, Gw m x.wt d := fun d hd => by
    rcases List.mem_append.mp hd with hd | hd
    · exact some1_ok d hd
    · exact some2_ok hG d hd
  have b2 : ∀ ys : List D, (∀ d ∈ ys, Gw m x.wt d) → ∀ d ∈ some1 ++ some2 x ++ ys, Gw m x.wt d := fun ys hy d hd => by
    rcases List.mem_append.mp hd with hd | hd
    · exact b1 d hd
    · exact hy d hd
  change WSs X _ [some (.own b), some x, none] C _
  refine wss_cons ?_
  cases x with
  | non =>
    walk_at "pyA"
    all_goals try walk_at "bad"
    rw [e30]
    exact fin (some1 ++ some2 .non) (Nat.le_of_ble_eq_true rfl) (Nat.le_of_ble_eq_true rfl) b1
  | int i =>
    have hi := gd_int' hG
    have ho : i.natAbs < 10 ^ 60 := Nat.lt_trans hi (by decide)
    walk_at "pyA"
    all_goals try walk_at "bad"
    refine ⟨i, rfl, ?_, ?_⟩
    · by_cases z : i.natAbs = 0
      · rw [z]; decide
      · exact (Nat.log2_lt z).mpr (Nat.lt_trans ho (by decide +kernel))
    walk_at "pyA"
    rw [e30]
    refine fin (some1 ++ some2 (.int i) ++ [.int (i + 1), .int (i - 1), .int (-i), .str (toString i), .int 0]) (Nat.le_of_ble_eq_true rfl) (Nat.le_of_ble_eq_true rfl) (b2 _ fun d hd => ?_)
    have hl : (toString i : Str).length ≤ 61 := num_len ho
    simp only [List.mem_cons, List.not_mem_nil, or_false] at hd
    rcases hd with rfl | rfl | rfl | rfl | rfl
    · exact ⟨gd_int (by omega), by simp only [D.wt]; omega⟩
    · exact ⟨gd_int (by omega), by simp only [D.wt]; omega⟩
    · exact ⟨gd_int (by omega), by simp only [D.wt]; omega⟩
    · exact ⟨gd_str (asc_num i), by rw [wt_len]; omega⟩
    · exact ⟨gd_int (by decide), by simp only [D.wt]; omega⟩
  | str z =>
    have hc := gd_str' hG
    have hzl : z.length ≤ 10000 := hW
    have hz : ∀ y : Str, y.length ≤ 10 → z.length + y.length ≤ sizeLine := fun y hy => Nat.le_trans (show z.length + y.length ≤ 20000 by omega) (by decide)
    obtain ⟨u1, u2⟩ := upper_len hc
    walk_at "pyA"
    all_goals try walk_at "bad"
    refine addA_ss (hz _ (by decide +kernel)) ?_
    walk_at "pyA"
    refine addA_ss (hz _ (by decide +kernel)) ?_
    walk_at "pyA"
    refine ⟨z, rfl, rfl, by omega, ?_⟩
    walk_at "pyA"
    refine addA_ss (hz _ (by decide +kernel)) ?_
    walk_at "pyA"
    all_goals try walk_at "bad"
    rw [e30]
    refine fin (some1 ++ some2 (.str z) ++ [.str (z ++ "a"), .str (z ++ "\n"), .str (Txt.upper z), .str (z ++ " ")]) (Nat.le_of_ble_eq_true rfl) (Nat.le_of_ble_eq_true rfl) (b2 _ fun d hd => ?_)
    have ap : ∀ y : Str, y.length ≤ 10 → (∀ c ∈ y.cps.toList, c < 128) → Gw m (D.str z).wt (.str (z ++ y)) := fun y hy ha => by
      refine ⟨gd_str fun c hc' => ?_, ?_⟩
      · rw [str_app] at hc'
        rcases List.mem_append.mp hc' with hc' | hc'
        · exact hc c hc'
        · exact ha c hc'
      · have : (z ++ y).length = z.length + y.length := by rw [str_len, str_app, List.length_append, str_len, str_len]
        rw [wt_len, wt_len, this]; omega
    simp only [List.mem_cons, List.not_mem_nil, or_false] at hd
    rcases hd with rfl | rfl | rfl | rfl
    · exact ap _ (by decide +kernel) (by decide +kernel)
    · exact ap _ (by decide +kernel) (by decide +kernel)
    · exact ⟨gd_str u2, by rw [wt_len, wt_len, u1]; omega⟩
    · exact ap _ (by decide +kernel) (by decide +kernel)
  | tup xs =>
    obtain ⟨m', rfl, hp⟩ := gd_parts hG
    have hp' : ∀ d ∈ xs, gd true (10 ^ 31) m' d = true := fun d hd => gd_up (by decide) d (hp d hd) (Nat.le_refl _)
    have hxl : xs.length ≤ wtL xs := len_wtL xs
    have hW' : wtL xs ≤ 10000 := hW
    walk_at "pyA"
    all_goals try walk_at "bad"
    refine addA_tt (Nat.le_trans (show xs.length + 1 ≤ 20000 by omega) (by decide)) ?_
    walk_at "pyA"
    refine ⟨_, rfl, ?_⟩
    walk_at "pyA"
    refine addA_tt (Nat.le_trans (show xs.length + xs.length ≤ 20000 by omega) (by decide)) ?_
    walk_at "pyA"
    all_goals try walk_at "bad"
    rw [e30]
    refine fin (some1 ++ some2 (.tup xs) ++ [.lst xs, .tup (xs ++ [.non]), .tup xs.reverse, .tup (xs ++ xs), .tup (cutD xs (some 1) none)]) (Nat.le_of_ble_eq_true rfl) (Nat.le_of_ble_eq_true rfl) (b2 _ fun d hd => ?_)
    have up : ∀ ys : List D, (∀ d ∈ ys, gd true (10 ^ 31) m' d = true) → wtL ys ≤ 2 * wtL xs + 300 → Gw (m' + 1) (D.tup xs).wt (.tup ys) := fun ys h1 h2 => ⟨gd_up (Nat.le_refl _) _ (gd_tup h1) (by omega), by simpa only [D.wt] using h2⟩
    simp only [List.mem_cons, List.not_mem_nil, or_false] at hd
    rcases hd with rfl | rfl | rfl | rfl | rfl
    · exact ⟨gd_up (Nat.le_refl _) _ (gd_lst hp') (by omega), by simp only [D.wt]; omega⟩
    · refine up _ (fun d hd => ?_) (by rw [wtL_app]; simp only [D.wt, wtL]; omega)
      rcases List.mem_append.mp hd with hd | hd
      · exact hp' d hd
      · rw [List.mem_singleton.mp hd]; exact gd_non
    · exact up _ (fun d hd => hp' d (List.mem_reverse.mp hd)) (by rw [wtL_rev]; omega)
    · refine up _ (fun d hd => ?_) (by rw [wtL_app]; omega)
      rcases List.mem_append.mp hd with hd | hd <;> exact hp' d hd
    · refine up _ (fun d hd => hp' d (List.mem_of_mem_drop (List.mem_of_mem_take hd))) ?_
      have h1 := wtL_take (xs.drop (HT.sIx xs.length 0 (some 1))) (HT.sIx xs.length xs.length none - HT.sIx xs.length 0 (some 1))
      have h2 := wtL_drop xs (HT.sIx xs.length 0 (some 1))
      unfold cutD
      omega
  | _ => (exfalso; cases m <;> simp [gd] at hG)
end
end K31
namespace K31
section
variable {P : Program} {w : World} {K : PySem.W.Frag} {mg : Str → Option Value} {base : Heap}
def spBent (m : Nat) : DSp := fun ds C k => ∃ (b : Addr) (n : Nat) (x : D), ds = [.own b, x] ∧ gd false (10 ^ 10) m x = true ∧ m ≤ 10 ∧ x.wt ≤ 10000 ∧ Bag C b n ∧ n + 20 + 5 * m ≤ 1000000 ∧ ∀ l d, gd true (10 ^ 31) (m + 1) d = true → d.wt ≤ 2 * x.wt + 300 → Bag (DL.put C b (.lst l)) b (n + 5 + 5 * m) → k d (DL.put C b (.lst l))
theorem kind_gd {B n : Nat} {x : D} (h : gd false B n x = true) : x.kind = true ∧ x.isLst = false := by
  cases x <;> first | exact ⟨rfl, rfl⟩ | (cases n <;> simp [gd] at h)
theorem ok_bent {f : Addr} {fd : FuncData} (F : Fun K "_law_bent" "_law_bent" s_bent f fd) (Z : Zs mg) (h1 : FnC P w K mg base "_law_take" 1 spTake) (h2 : ∀ m, FnC P w K mg base "_law_odd" 3 (spOdd m)) (m : Nat) (h3 : ∀ j, m = j + 1 → FnC P w K mg base "_law_bent" (j + 4) (spBent j)) : FnG P w K mg base CX0 (m + 4) f fd P_bent (toSp K (spBent m)) := by
  refine fnS F sc_bent v_bent l_bent g_bent (fun ds C k h => by obtain ⟨_, _, _, rfl, _⟩ := h; rfl) fun X hB ds C k h => ?_
  obtain ⟨b, n, x, rfl, hG, hm, hW, hBag, hn6, h⟩ := h
  obtain ⟨hx, hn, hs, hg, hd, hnox⟩ := hB
  obtain ⟨hk, hnl⟩ := kind_gd hG
  obtain ⟨l0, hl0⟩ := hBag.some
  have odd : ∀ {l : List D} {n' : Nat}, Bag (DL.put C b (.lst l)) b n' → n' ≤ n + 1 → spOdd m [.own b, x] (DL.put C b (.lst l)) (fun d C1 => ∃ C2, Sub C2 C1 ∧ k d C2) := fun {l n'} hB hn' => ⟨b, n', x, rfl, hG, hm, hW, hB, by omega, fun l1 d g1 g2 hB1 => by
    rw [put_put] at hB1 ⊢
    exact ⟨_, Sub.refl _, h l1 d g1 g2 (hB1.mono (by omega))⟩⟩
  have h2m := h2 m
  have odd0 : spOdd m [.own b, x] C (fun d C1 => ∃ C2, Sub C2 C1 ∧ k d C2) := by
    have := odd (l := l0) (n' := n) (by rw [put_self hl0]; exact hBag) (by omega)
    rwa [put_self hl0] at this
  change WSs X _ [some (.own b), some x, none, none, none] C _
  refine wss_cons ?_
  walk_at "pyR"
  · exact odd0
  · rename_i ht
    rw [hnl, Bool.false_or] at ht
    obtain ⟨xs, rfl⟩ := isTup_eq (by simpa using ht)
    obtain ⟨m', rfl, hp⟩ := gd_parts hG
    have h3m := h3 m' rfl
    have hW' : wtL xs ≤ 10000 := hW
    have hxl := len_wtL xs
    walk_at "pyR"
    · exact odd0
    · rename_i hne
      have hne : xs.length ≠ 0 := len_ne (m := 0) hne
      refine ⟨b, n, 6, rfl, hBag, by omega, by omega, by omega, fun r l1 r0 r1 hB1 => ?_⟩
      walk_at "pyR"
      · exact odd hB1 (by omega)
      · refine ⟨_, _, rfl, rfl, fun p hpf => ?_⟩
        have hbp : b ≠ p := hB1.ne hpf
        have hpC : C p = none := by rw [put_ne hbp.symm] at hpf; exact hpf
        walk_at "pyR"
        refine ⟨b, _, (xs.length : Nat), rfl, hB1.put hbp, by omega, by omega, by omega, fun a l2 a0 a1 hB2 => ?_⟩
        rw [put_comm hbp.symm, put_put] at hB2 ⊢
        walk_at "pyR"
        refine ⟨b, _, 9, rfl, hB2, by omega, by omega, by omega, fun ro l3 ro0 ro1 hB3 => ?_⟩
        rw [put_comm hbp.symm, put_put] at hB3 ⊢
        have hB3 : Bag (DL.put C b (.lst l3)) b (n + 3) := hB3.of (by rw [put_ne hbp]) (by omega)
        have ha : a.toNat < xs.length := by omega
        obtain ⟨e, he⟩ : ∃ e, e = xs[a.toNat] := ⟨_, rfl⟩
        have hea : atI xs a = some e := by
          unfold atI ixN
          rw [if_pos a0, if_pos a1, he]
          exact List.getElem?_eq_getElem ha
        have hex : xs[a.toNat]? = some e := by rw [he]; exact List.getElem?_eq_getElem ha
        have hem : e ∈ xs := List.mem_of_getElem? hex
        have hix : ixN xs.length a = some a.toNat := by unfold ixN; rw [if_pos a0, if_pos a1]
        have hew := wt_mem hem
        have up : ∀ d ∈ xs, gd true (10 ^ 31) (m' + 1) d = true := fun d hd => gd_up (by decide) d (hp d hd) (by omega)
        have fin : ∀ (ys : List D) (l : List D) (n' : Nat), (∀ d ∈ ys, gd true (10 ^ 31) (m' + 1) d = true) → wtL ys ≤ 2 * wtL xs + 300 → Bag (DL.put C b (.lst l)) b n' → n' ≤ n + 5 + 5 * (m' + 1) → ∃ C2, Sub C2 (DL.put (DL.put C b (.lst l)) p (.lst ys)) ∧ k (.tup ys) C2 := fun ys l n' g1 g2 hB hn' => ⟨_, Sub.new (Sub.refl _) (by rw [put_ne hbp.symm]; exact hpC), h l _ (gd_tup g1) (by simpa only [D.wt] using g2) (hB.mono hn')⟩
        walk_at "pyR"
        · refine ⟨p, xs, a, a.toNat, e, rfl, rfl, put_same, by omega, by omega, seqIndex_of a0 a1, hex, ?_⟩
          rw [put_put]
          walk_at "pyR"
          all_goals try walk_at "bad"
          refine tuple_A (seqR_own put_same) ?_
          exact fin _ l3 _ (fun d hd => up d (List.mem_of_mem_eraseIdx hd)) (by have := wtL_erase xs a.toNat; omega) hB3 (by omega)
        · refine ix_p hea ?_
          walk_at "pyR"
          refine ⟨p, xs, e, a, rfl, rfl, put_same, Nat.lt_of_le_of_lt (show xs.length ≤ 10000 by omega) (by decide), a0, by omega, ?_⟩
          rw [put_put]
          walk_at "pyR"
          all_goals try walk_at "bad"
          refine tuple_A (seqR_own put_same) ?_
          refine fin _ l3 _ (fun d hd => ?_) (by rw [wtL_ins]; omega) hB3 (by omega)
          rcases List.mem_append.mp hd with hd | hd
          · rcases List.mem_append.mp hd with hd | hd
            · exact up d (List.mem_of_mem_take hd)
            · rw [List.mem_singleton.mp hd]; exact up e hem
          · exact up d (List.mem_of_mem_drop hd)
        · refine ix_p hea ?_
          walk_at "pyR"
          refine ⟨b, _, e, rfl, hp e hem, by omega, by omega, hB3.put hbp, by omega, fun l4 d g1 g2 hB4 => ?_⟩
          rw [put_comm hbp.symm, put_put] at hB4 ⊢
          have hB4 : Bag (DL.put C b (.lst l4)) b (n + 3 + 5 + 5 * m') := hB4.of (by rw [put_ne hbp]) (by omega)
          walk_at "pyR"
          refine setL_p hix ?_
          walk_at "pyR"
          all_goals try walk_at "bad"
          refine tuple_A (seqR_own put_same) ?_
          have hset := wtL_set xs a.toNat d e hex
          refine fin _ l4 _ (fun y hy => ?_) (by omega) hB4 (by omega)
          rcases List.mem_or_eq_of_mem_set hy with hy | rfl
          · exact up y hy
          · exact g1
theorem all_bent {f : Addr} {fd : FuncData} (F : Fun K "_law_bent" "_law_bent" s_bent f fd) (hb : Binds K fd P_bent []) (hm : mg "_law_bent" = some (.ref f)) (hk : PySem.W.keepIn K (.ref f) = true) (Z : Zs mg) (h1 : FnC P w K mg base "_law_take" 1 spTake) (h2 : ∀ m, FnC P w K mg base "_law_odd" 3 (spOdd m)) : ∀ m : Nat, FnC P w K mg base "_law_bent" (m + 4) (spBent m)
  | 0 => ⟨f, fd, P_bent, ok_bent F Z h1 h2 0 (fun j h => by cases h), hm, hk, hb⟩
  | m + 1 => ⟨f, fd, P_bent, ok_bent F Z h1 h2 (m + 1) (fun j h => by cases h; exact all_bent F hb hm hk Z h1 h2 m), hm, hk, hb⟩
def spRight : DSp := fun ds C k => ∃ x, ds = [x] ∧ Ob x ∧ k (.bl true) C
theorem ok_right {f : Addr} {fd : FuncData} (F : Fun K "_law_right" "_law_right" s_right f fd) (Z : Zs mg) (h1 : FnC P w K mg base "is_name" 1 spIsNm) (h2 : FnC P w K mg base "is_row" 3 spIsRow) (h3 : FnC P w K mg base "is_gap" 3 spIsGap)
    (h4 : FnC P w K mg base "_law_is_name" 1 spIsNm) (h5 : FnC P w K mg base "_law_is_row" 2 spIsRow) (h6 : FnC P w K mg base "_law_is_gap" 2 spIsGap) : FnG P w K mg base CX0 4 f fd P_right (toSp K spRight) := by
  refine fnX F sc_right v_right l_right g_right (fun ds C k h => by obtain ⟨_, rfl, _⟩ := h; rfl) fun X hB ds C k h => ?_
  obtain ⟨x, rfl, hO, h⟩ := h
  obtain ⟨hx, hn, hs, hg, hd, hnox⟩ := hB
  obtain ⟨nn, hn60, hf⟩ := hO.ex
  change WSs X _ [some x, none, none, none] C _
  refine wss_cons ?_
  walk_at "pyA"
  refine repr_ok hf hn60 hO.sh hO.wt ?_
  walk_at "pyA"
  refine ⟨x, rfl, hO, ?_⟩
  walk_at "pyA"
  refine ⟨x, rfl, hO, ?_⟩
  walk_at "pyA"
  refine ⟨x, rfl, hO, ?_⟩
  walk_at "pyA"
  refine ⟨x, rfl, hO, ?_⟩
  walk_at "pyA"
  refine ⟨x, rfl, hO, ?_⟩
  walk_at "pyA"
  refine ⟨x, rfl, hO, ?_⟩
  walk_at "pyA"
  refine repr_ok (n := 1) rfl (by omega) rfl (by simp [D.wt, wtL]) ?_
  walk_at "pyA"
  refine repr_ok (n := 1) rfl (by omega) rfl (by simp [D.wt, wtL]) ?_
  walk_at "pyA"
  refine eq_sS ?_
  walk_at "pyA"
  · refine repr_ok hf hn60 hO.sh hO.wt ?_
    walk_at "pyA"
    refine eq_sS ?_
    show k (.bl _) C
    rw [beq_self_eq_true]
    exact h
  · rename_i hb
    rw [beq_self_eq_true] at hb
    cases hb
def spLaw : DSp := fun ds C k => ∃ ns : List Int, ds = [.slst (ns.map D.int)] ∧ ns.length ≤ 63 ∧ (∀ a, C a = none) ∧ k (.bl true) C
abbrev wds : List Str := ["", "a", "abcdefgh", "abcdefghi", "A", "a1", "a ", "a_b", "main\n"]
theorem ok_law {f : Addr} {fd : FuncData} (F : Fun K "law" "law" s_law f fd) (Z : Zs mg) (h1 : FnC P w K mg base "_law_take" 1 spTake) (h2 : FnC P w K mg base "_law_bag" 1 spBag) (h3 : FnC P w K mg base "_law_of" 2 spOf) (h4 : FnC P w K mg base "_law_row" 4 spRow)
    (h5 : FnC P w K mg base "_law_name" 3 (spStr 8 20)) (h6 : FnC P w K mg base "_law_right" 4 spRight) (h7 : FnC P w K mg base "_law_bent" 6 (spBent 2)) : FnG P w K mg base CX0 7 f fd P_law (toSp K spLaw) := by
  refine fnS F sc_law v_law l_law g_law (fun ds C k h => by obtain ⟨_, rfl, _⟩ := h; rfl) fun X hB ds C k h => ?_
  obtain ⟨ns, rfl, hns, hC, h⟩ := h
  obtain ⟨hx, hn, hs, hg, hd, hnox⟩ := hB
  have fin : ∀ C', ∃ C2, Sub C2 C' ∧ k (.bl true) C2 := fun C' => ⟨C, (show Sub C C' from fun a c e => by rw [hC a] at e; cases e), h⟩
  clear h
  change WSs X _ [some (.slst (ns.map D.int)), none, none, none, none, none, none] C _
  refine wss_cons ?_
  refine x_for hx hnox (wi_tup ?_)
  walk_at "pyA"
  refine ⟨_, rfl, ?_⟩
  refine ⟨fun i env C' => ∃ o1 : Option D, env = [some (.slst (ns.map D.int)), o1, none, none, none, none, none], ⟨_, rfl⟩, fun _ _ _ _ => trivial, ?_, ?_⟩
  · rintro i d env C1 hi ⟨o1, rfl⟩
    obtain ⟨z, rfl, hz⟩ := strs_of (zs := wds) (N := 20) (List.mem_of_getElem? hi) (by decide +kernel)
    have o1 : Ob (.str z) := gd_ob (t := true) (B := 10) (n := 0) (gd_str hz.2) (by decide) (by omega) (by rw [wt_len]; have := hz.1; omega)
    have o2 : Ob (.tup [.str "main", .int 0, .int 1, .str z, .non]) := by
      refine gd_ob (t := true) (B := 10) (n := 1) (gd_tup fun d hd => ?_) (by decide) (by omega) ?_
      · simp only [List.mem_cons, List.not_mem_nil, or_false] at hd
        rcases hd with rfl | rfl | rfl | rfl | rfl
        · decide +kernel
        · decide
        · decide
        · exact gd_str hz.2
        · rfl
      · have h1 : ("main" : Str).cps.size = 4 := by decide +kernel
        have h2 : z.cps.size ≤ 20 := hz.1
        simp only [D.wt, wtL, h1]; omega
    walk_at "pyA"
    refine ⟨_, rfl, o1, ?_⟩
    walk_at "pyA"
    all_goals try walk_at "bad"
    refine ⟨_, rfl, o2, ?_⟩
    walk_at "pyA"
    all_goals try walk_at "bad"
    exact ⟨_, rfl⟩
  · rintro env C1 ⟨o1, rfl⟩
    walk_at "pyA"
    refine x_for hx hnox (x_range1 hx Z (by walk_at "gl") ?_)
    walk_at "pyA"
    refine ⟨_, rfl, by rw [List.length_map]; split <;> split <;> omega, by rw [List.length_map]; split <;> split <;> omega, ?_⟩
    refine ⟨fun i env C' => ∃ o1 o2 o3 o4 o5 o6 : Option D, env = [some (.slst (ns.map D.int)), o1, o2, o3, o4, o5, o6], ⟨_, _, _, _, _, _, rfl⟩, fun _ _ _ _ => trivial, ?_, ?_⟩
    · rintro i d env C1 hi ⟨o1, o2, o3, o4, o5, o6, rfl⟩
      obtain ⟨hi, rfl⟩ := intsFrom_get hi
      have hi : i < 64 := by
        rw [List.length_map] at hi
        revert hi
        split <;> split <;> omega
      rw [Int.zero_add]
      walk_at "pyA"
      refine ⟨ns, i, rfl, by omega, fun b l hb hB => ?_⟩
      generalize DL.put C1 b (.lst l) = C2 at *
      walk_at "pyA"
      refine x_for hx hnox (x_range1 hx Z (by walk_at "gl") ?_)
      walk_at "pyA"
      refine ⟨6, rfl, by decide, by decide, ?_⟩
      refine ⟨fun t env C' => Bag C' b (1000 * t) ∧ ∃ o1 o4 o5 o6 : Option D, env = [some (.slst (ns.map D.int)), o1, some (.int (i : Nat)), some (.own b), o4, o5, o6], ⟨hB, _, _, _, _, rfl⟩, fun _ _ _ _ => trivial, ?_, ?_⟩
      · clear hB
        rintro t d env C3 ht ⟨hB, o1, o4, o5, o6, rfl⟩
        obtain ⟨ht, rfl⟩ := intsFrom_get ht
        have ht : t < 6 := by omega
        walk_at "pyA"
        refine ⟨b, _, rfl, hB, by omega, fun l1 d1 g1 w1 hB => ?_⟩
        generalize DL.put C3 b (.lst l1) = C4 at *
        walk_at "pyA"
        refine ⟨b, _, rfl, hB, by omega, fun l2 d2 g2 w2 hB => ?_⟩
        generalize DL.put C4 b (.lst l2) = C5 at *
        walk_at "pyA"
        refine ⟨b, _, 9, rfl, hB, by omega, by omega, by omega, fun r l3 r0 r1 hB => ?_⟩
        generalize DL.put C5 b (.lst l3) = C6 at *
        walk_at "pyA"
        refine ⟨b, _, rfl, hB, by omega, fun l4 z hz hB => ?_⟩
        generalize DL.put C6 b (.lst l4) = C7 at *
        walk_at "pyA"
        refine ⟨b, _, _, rfl, hB, by omega, by simp, by simp, fun x l5 hxm hB => ?_⟩
        generalize DL.put C7 b (.lst l5) = C8 at *
        have hx0 : gd false (10 ^ 10) 2 x = true ∧ x.wt ≤ 1000 := by
          simp only [List.mem_cons, List.not_mem_nil, or_false] at hxm
          rcases hxm with rfl | rfl | rfl | rfl
          · exact ⟨g1, w1⟩
          · exact ⟨g2, w2⟩
          · refine ⟨gd_tup fun d hd => ?_, ?_⟩
            · simp only [List.mem_cons, List.not_mem_nil, or_false] at hd
              rcases hd with rfl | rfl
              · decide +kernel
              · exact gd_int (by omega)
            · have h1 : ("gap" : Str).cps.size = 3 := by decide +kernel
              simp only [D.wt, wtL, h1]; omega
          · exact ⟨gd_str hz.2, by rw [wt_len]; have := hz.1; omega⟩
        have ox : Ob x := gd_ob hx0.1 (by decide) (by omega) (by omega)
        walk_at "pyA"
        refine ⟨_, rfl, ox, ?_⟩
        walk_at "pyA"
        all_goals try walk_at "bad"
        refine x_for hx hnox (x_range1 hx Z (by walk_at "gl") ?_)
        walk_at "pyA"
        refine ⟨4, rfl, by decide, by decide, ?_⟩
        refine ⟨fun u env C' => Bag C' b (1000 * t + 300 + 20 * u) ∧ ∃ o1 o4 o6 : Option D, env = [some (.slst (ns.map D.int)), o1, some (.int (i : Nat)), some (.own b), o4, some x, o6], ⟨hB.mono (by omega), _, _, _, rfl⟩, fun _ _ _ _ => trivial, ?_, ?_⟩
        · clear hB
          rintro u d env C9 hu ⟨hB, o1, o4, o6, rfl⟩
          obtain ⟨hu, rfl⟩ := intsFrom_get hu
          have hu : u < 4 := by omega
          walk_at "pyA"
          refine ⟨b, _, x, rfl, hx0.1, by omega, by omega, hB, by omega, fun l6 y gy wy hB => ?_⟩
          generalize DL.put C9 b (.lst l6) = C10 at *
          have oy : Ob y := gd_ob gy (by decide) (by omega) (by omega)
          walk_at "pyA"
          refine ⟨_, rfl, oy, ?_⟩
          walk_at "pyA"
          all_goals try walk_at "bad"
          exact ⟨hB.mono (by omega), _, _, _, rfl⟩
        · rintro env C9 ⟨hB, o1, o4, o6, rfl⟩
          rw [intsFrom_length] at hB
          walk_at "pyA"
          exact ⟨hB.mono (by omega), _, _, _, _, rfl⟩
      · rintro env C3 ⟨hB, o1, o4, o5, o6, rfl⟩
        walk_at "pyA"
        exact ⟨_, _, _, _, _, _, rfl⟩
    · rintro env C1 ⟨o1, o2, o3, o4, o5, o6, rfl⟩
      walk_at "pyA"
      exact fin _
end
end K31
namespace K31
section
theorem dat_ints {K : PySem.W.Frag} {G : Hp} : ∀ ns : List Int, DatAll K G (ns.map V.int) (ns.map D.int)
  | [] => .nil
  | _ :: ns => .cons (.int _) (dat_ints ns)
theorem wld0 {K : PySem.W.Frag} {H : Hp} : Wld K H (fun _ => none) H := ⟨fun _ _ h => h, fun _ _ e => by cases e⟩

theorem all_mk {l : PySem.W.OpenLaw} {w : World} {K : PySem.W.Frag} {h : Heap} {mg : Str → Option Value} {fa : Addr} (X : K.In h) (G : h.Ns mainGlobals mg) (hfa : mg "law" = some (.ref fa))
    {f1 : Addr} {od1 an1 : Option Addr} {sl1 : Array (Option Value)} {oc1 kV1 dc1 pm1 cd1 ct1 : Value}
    {f2 : Addr} {od2 an2 : Option Addr} {sl2 : Array (Option Value)} {oc2 kV2 dc2 pm2 cd2 ct2 : Value}
    {f3 : Addr} {od3 an3 : Option Addr} {sl3 : Array (Option Value)} {oc3 kV3 dc3 pm3 cd3 ct3 : Value}
    {f4 : Addr} {od4 an4 : Option Addr} {sl4 : Array (Option Value)} {oc4 kV4 dc4 pm4 cd4 ct4 : Value}
    {f5 : Addr} {od5 an5 : Option Addr} {sl5 : Array (Option Value)} {oc5 kV5 dc5 pm5 cd5 ct5 : Value}
    {f6 : Addr} {od6 an6 : Option Addr} {sl6 : Array (Option Value)} {oc6 kV6 dc6 pm6 cd6 ct6 : Value}
    {f7 : Addr} {od7 an7 : Option Addr} {sl7 : Array (Option Value)} {oc7 kV7 dc7 pm7 cd7 ct7 : Value}
    {f8 : Addr} {od8 an8 : Option Addr} {sl8 : Array (Option Value)} {oc8 kV8 dc8 pm8 cd8 ct8 : Value}
    {f9 : Addr} {od9 an9 : Option Addr} {sl9 : Array (Option Value)} {oc9 kV9 dc9 pm9 cd9 ct9 : Value}
    {f10 : Addr} {od10 an10 : Option Addr} {sl10 : Array (Option Value)} {oc10 kV10 dc10 pm10 cd10 ct10 : Value}
    {f11 : Addr} {od11 an11 : Option Addr} {sl11 : Array (Option Value)} {oc11 kV11 dc11 pm11 cd11 ct11 : Value}
    {f12 : Addr} {od12 an12 : Option Addr} {sl12 : Array (Option Value)} {oc12 kV12 dc12 pm12 cd12 ct12 : Value}
    {f13 : Addr} {od13 an13 : Option Addr} {sl13 : Array (Option Value)} {oc13 kV13 dc13 pm13 cd13 ct13 : Value}
    {f14 : Addr} {od14 an14 : Option Addr} {sl14 : Array (Option Value)} {oc14 kV14 dc14 pm14 cd14 ct14 : Value}
    {f15 : Addr} {od15 an15 : Option Addr} {sl15 : Array (Option Value)} {oc15 kV15 dc15 pm15 cd15 ct15 : Value}
    {f16 : Addr} {od16 an16 : Option Addr} {sl16 : Array (Option Value)} {oc16 kV16 dc16 pm16 cd16 ct16 : Value}
    {f17 : Addr} {od17 an17 : Option Addr} {sl17 : Array (Option Value)} {oc17 kV17 dc17 pm17 cd17 ct17 : Value}
    {f18 : Addr} {od18 an18 : Option Addr} {sl18 : Array (Option Value)} {oc18 kV18 dc18 pm18 cd18 ct18 : Value}
    {f19 : Addr} {od19 an19 : Option Addr} {sl19 : Array (Option Value)} {oc19 kV19 dc19 pm19 cd19 ct19 : Value}
    {f20 : Addr} {od20 an20 : Option Addr} {sl20 : Array (Option Value)} {oc20 kV20 dc20 pm20 cd20 ct20 : Value}
    {f21 : Addr} {od21 an21 : Option Addr} {sl21 : Array (Option Value)} {oc21 kV21 dc21 pm21 cd21 ct21 : Value}
    {tk0 : Tok}
    {tk1 : Tok}
    {tk2 : Tok}
    {tk3 : Tok}
    {tk4 : Tok}
    {tk5 : Tok}
    {ta6 : Addr} {od06 : Option Addr} {nn6 : Nat} {ss6 : Array (Option Value)} {tk6_0 tk6_1 tk6_2 : Tok}
    (a1 : PySem.W.nsIn K mainGlobals "is_integer" = some (some (.ref f1))) (l1 : K.lookup f1 = some ⟨oc1, od1, .func (PySem.W.fnOf "is_integer" "is_integer" (defArgs s_is_integer) (defBody s_is_integer) (defScope s_is_integer) .none kV1 dc1 pm1 an1 cd1 ct1), sl1⟩) (c1 : PySem.W.codeIn K cd1 "is_integer" = true) (k1 : PySem.W.keepIn K (.ref f1) = true)
    (a2 : PySem.W.nsIn K mainGlobals "is_from" = some (some (.ref f2))) (l2 : K.lookup f2 = some ⟨oc2, od2, .func (PySem.W.fnOf "is_from" "is_from" (defArgs s_is_from) (defBody s_is_from) (defScope s_is_from) .none kV2 dc2 pm2 an2 cd2 ct2), sl2⟩) (c2 : PySem.W.codeIn K cd2 "is_from" = true) (k2 : PySem.W.keepIn K (.ref f2) = true)
    (a3 : PySem.W.nsIn K mainGlobals "is_name" = some (some (.ref f3))) (l3 : K.lookup f3 = some ⟨oc3, od3, .func (PySem.W.fnOf "is_name" "is_name" (defArgs s_is_name) (defBody s_is_name) (defScope s_is_name) .none kV3 dc3 pm3 an3 cd3 ct3), sl3⟩) (c3 : PySem.W.codeIn K cd3 "is_name" = true) (k3 : PySem.W.keepIn K (.ref f3) = true)
    (a4 : PySem.W.nsIn K mainGlobals "is_line" = some (some (.ref f4))) (l4 : K.lookup f4 = some ⟨oc4, od4, .func (PySem.W.fnOf "is_line" "is_line" (defArgs s_is_line) (defBody s_is_line) (defScope s_is_line) .none kV4 dc4 pm4 an4 cd4 ct4), sl4⟩) (c4 : PySem.W.codeIn K cd4 "is_line" = true) (k4 : PySem.W.keepIn K (.ref f4) = true)
    (a5 : PySem.W.nsIn K mainGlobals "is_shown" = some (some (.ref f5))) (l5 : K.lookup f5 = some ⟨oc5, od5, .func (PySem.W.fnOf "is_shown" "is_shown" (defArgs s_is_shown) (defBody s_is_shown) (defScope s_is_shown) .none kV5 dc5 pm5 an5 cd5 ct5), sl5⟩) (c5 : PySem.W.codeIn K cd5 "is_shown" = true) (k5 : PySem.W.keepIn K (.ref f5) = true)
    (a6 : PySem.W.nsIn K mainGlobals "is_row" = some (some (.ref f6))) (l6 : K.lookup f6 = some ⟨oc6, od6, .func (PySem.W.fnOf "is_row" "is_row" (defArgs s_is_row) (defBody s_is_row) (defScope s_is_row) .none kV6 dc6 pm6 an6 cd6 ct6), sl6⟩) (c6 : PySem.W.codeIn K cd6 "is_row" = true) (k6 : PySem.W.keepIn K (.ref f6) = true)
    (a7 : PySem.W.nsIn K mainGlobals "is_gap" = some (some (.ref f7))) (l7 : K.lookup f7 = some ⟨oc7, od7, .func (PySem.W.fnOf "is_gap" "is_gap" (defArgs s_is_gap) (defBody s_is_gap) (defScope s_is_gap) .none kV7 dc7 pm7 an7 cd7 ct7), sl7⟩) (c7 : PySem.W.codeIn K cd7 "is_gap" = true) (k7 : PySem.W.keepIn K (.ref f7) = true)
    (a8 : PySem.W.nsIn K mainGlobals "_law_bag" = some (some (.ref f8))) (l8 : K.lookup f8 = some ⟨oc8, od8, .func (PySem.W.fnOf "_law_bag" "_law_bag" (defArgs s_bag) (defBody s_bag) (defScope s_bag) .none kV8 dc8 pm8 an8 cd8 ct8), sl8⟩) (c8 : PySem.W.codeIn K cd8 "_law_bag" = true) (k8 : PySem.W.keepIn K (.ref f8) = true)
    (a9 : PySem.W.nsIn K mainGlobals "_law_take" = some (some (.ref f9))) (l9 : K.lookup f9 = some ⟨oc9, od9, .func (PySem.W.fnOf "_law_take" "_law_take" (defArgs s_take) (defBody s_take) (defScope s_take) .none kV9 dc9 pm9 an9 cd9 ct9), sl9⟩) (c9 : PySem.W.codeIn K cd9 "_law_take" = true) (k9 : PySem.W.keepIn K (.ref f9) = true)
    (a10 : PySem.W.nsIn K mainGlobals "_law_of" = some (some (.ref f10))) (l10 : K.lookup f10 = some ⟨oc10, od10, .func (PySem.W.fnOf "_law_of" "_law_of" (defArgs s_of) (defBody s_of) (defScope s_of) .none kV10 dc10 pm10 an10 cd10 ct10), sl10⟩) (c10 : PySem.W.codeIn K cd10 "_law_of" = true) (k10 : PySem.W.keepIn K (.ref f10) = true)
    (a11 : PySem.W.nsIn K mainGlobals "_law_name" = some (some (.ref f11))) (l11 : K.lookup f11 = some ⟨oc11, od11, .func (PySem.W.fnOf "_law_name" "_law_name" (defArgs s_name) (defBody s_name) (defScope s_name) .none kV11 dc11 pm11 an11 cd11 ct11), sl11⟩) (c11 : PySem.W.codeIn K cd11 "_law_name" = true) (k11 : PySem.W.keepIn K (.ref f11) = true)
    (a12 : PySem.W.nsIn K mainGlobals "_law_line" = some (some (.ref f12))) (l12 : K.lookup f12 = some ⟨oc12, od12, .func (PySem.W.fnOf "_law_line" "_law_line" (defArgs s_line) (defBody s_line) (defScope s_line) .none kV12 dc12 pm12 an12 cd12 ct12), sl12⟩) (c12 : PySem.W.codeIn K cd12 "_law_line" = true) (k12 : PySem.W.keepIn K (.ref f12) = true)
    (a13 : PySem.W.nsIn K mainGlobals "_law_row" = some (some (.ref f13))) (l13 : K.lookup f13 = some ⟨oc13, od13, .func (PySem.W.fnOf "_law_row" "_law_row" (defArgs s_row) (defBody s_row) (defScope s_row) .none kV13 dc13 pm13 an13 cd13 ct13), sl13⟩) (c13 : PySem.W.codeIn K cd13 "_law_row" = true) (k13 : PySem.W.keepIn K (.ref f13) = true)
    (a14 : PySem.W.nsIn K mainGlobals "_law_is_name" = some (some (.ref f14))) (l14 : K.lookup f14 = some ⟨oc14, od14, .func (PySem.W.fnOf "_law_is_name" "_law_is_name" (defArgs s_law_is_name) (defBody s_law_is_name) (defScope s_law_is_name) .none kV14 dc14 pm14 an14 cd14 ct14), sl14⟩) (c14 : PySem.W.codeIn K cd14 "_law_is_name" = true) (k14 : PySem.W.keepIn K (.ref f14) = true)
    (a15 : PySem.W.nsIn K mainGlobals "_law_is_from" = some (some (.ref f15))) (l15 : K.lookup f15 = some ⟨oc15, od15, .func (PySem.W.fnOf "_law_is_from" "_law_is_from" (defArgs s_law_is_from) (defBody s_law_is_from) (defScope s_law_is_from) .none kV15 dc15 pm15 an15 cd15 ct15), sl15⟩) (c15 : PySem.W.codeIn K cd15 "_law_is_from" = true) (k15 : PySem.W.keepIn K (.ref f15) = true)
    (a16 : PySem.W.nsIn K mainGlobals "_law_is_row" = some (some (.ref f16))) (l16 : K.lookup f16 = some ⟨oc16, od16, .func (PySem.W.fnOf "_law_is_row" "_law_is_row" (defArgs s_law_is_row) (defBody s_law_is_row) (defScope s_law_is_row) .none kV16 dc16 pm16 an16 cd16 ct16), sl16⟩) (c16 : PySem.W.codeIn K cd16 "_law_is_row" = true) (k16 : PySem.W.keepIn K (.ref f16) = true)
    (a17 : PySem.W.nsIn K mainGlobals "_law_is_gap" = some (some (.ref f17))) (l17 : K.lookup f17 = some ⟨oc17, od17, .func (PySem.W.fnOf "_law_is_gap" "_law_is_gap" (defArgs s_law_is_gap) (defBody s_law_is_gap) (defScope s_law_is_gap) .none kV17 dc17 pm17 an17 cd17 ct17), sl17⟩) (c17 : PySem.W.codeIn K cd17 "_law_is_gap" = true) (k17 : PySem.W.keepIn K (.ref f17) = true)
    (a18 : PySem.W.nsIn K mainGlobals "_law_odd" = some (some (.ref f18))) (l18 : K.lookup f18 = some ⟨oc18, od18, .func (PySem.W.fnOf "_law_odd" "_law_odd" (defArgs s_odd) (defBody s_odd) (defScope s_odd) .none kV18 dc18 pm18 an18 cd18 ct18), sl18⟩) (c18 : PySem.W.codeIn K cd18 "_law_odd" = true) (k18 : PySem.W.keepIn K (.ref f18) = true)
    (a19 : PySem.W.nsIn K mainGlobals "_law_bent" = some (some (.ref f19))) (l19 : K.lookup f19 = some ⟨oc19, od19, .func (PySem.W.fnOf "_law_bent" "_law_bent" (defArgs s_bent) (defBody s_bent) (defScope s_bent) .none kV19 dc19 pm19 an19 cd19 ct19), sl19⟩) (c19 : PySem.W.codeIn K cd19 "_law_bent" = true) (k19 : PySem.W.keepIn K (.ref f19) = true)
    (a20 : PySem.W.nsIn K mainGlobals "_law_right" = some (some (.ref f20))) (l20 : K.lookup f20 = some ⟨oc20, od20, .func (PySem.W.fnOf "_law_right" "_law_right" (defArgs s_right) (defBody s_right) (defScope s_right) .none kV20 dc20 pm20 an20 cd20 ct20), sl20⟩) (c20 : PySem.W.codeIn K cd20 "_law_right" = true) (k20 : PySem.W.keepIn K (.ref f20) = true)
    (a21 : PySem.W.nsIn K mainGlobals "law" = some (some (.ref f21))) (l21 : K.lookup f21 = some ⟨oc21, od21, .func (PySem.W.fnOf "law" "law" (defArgs s_law) (defBody s_law) (defScope s_law) .none kV21 dc21 pm21 an21 cd21 ct21), sl21⟩) (c21 : PySem.W.codeIn K cd21 "law" = true) (k21 : PySem.W.keepIn K (.ref f21) = true)
    (m0 : PySem.W.nsIn K mainGlobals "LETTERS" = some (some (.str "abcdefghijklmnopqrstuvwxyz" tk0)))
    (m1 : PySem.W.nsIn K mainGlobals "MOST_LETTERS" = some (some (.int 8 tk1)))
    (m2 : PySem.W.nsIn K mainGlobals "TEXT" = some (some (.str "text" tk2)))
    (m3 : PySem.W.nsIn K mainGlobals "LACK" = some (some (.str "lack" tk3)))
    (m4 : PySem.W.nsIn K mainGlobals "GAP" = some (some (.str "gap" tk4)))
    (m5 : PySem.W.nsIn K mainGlobals "FEED" = some (some (.str "\n" tk5)))
    (m6 : PySem.W.nsIn K mainGlobals "LACKS" = some (some (.ref ta6)))
    (t6 : K.lookup ta6 = some ⟨.type "tuple", od06, .seq #[.str "changed" tk6_0, .str "gone" tk6_1, .str "short" tk6_2] nn6, ss6⟩)
    (z0 : PySem.W.nsIn K mainGlobals "int" = some none)
    (z1 : PySem.W.nsIn K mainGlobals "bool" = some none)
    (z2 : PySem.W.nsIn K mainGlobals "str" = some none)
    (z3 : PySem.W.nsIn K mainGlobals "list" = some none)
    (z4 : PySem.W.nsIn K mainGlobals "tuple" = some none)
    (z5 : PySem.W.nsIn K mainGlobals "len" = some none)
    (z6 : PySem.W.nsIn K mainGlobals "isinstance" = some none)
    (z7 : PySem.W.nsIn K mainGlobals "abs" = some none)
    (z8 : PySem.W.nsIn K mainGlobals "min" = some none)
    (z9 : PySem.W.nsIn K mainGlobals "max" = some none)
    (z10 : PySem.W.nsIn K mainGlobals "any" = some none)
    (z11 : PySem.W.nsIn K mainGlobals "all" = some none)
    (z12 : PySem.W.nsIn K mainGlobals "sum" = some none)
    (z13 : PySem.W.nsIn K mainGlobals "range" = some none)
    (z14 : PySem.W.nsIn K mainGlobals "zip" = some none)
    (z15 : PySem.W.nsIn K mainGlobals "enumerate" = some none)
    (z16 : PySem.W.nsIn K mainGlobals "repr" = some none)
    (z17 : PySem.W.nsIn K mainGlobals "sorted" = some none)
    (z18 : PySem.W.nsIn K mainGlobals "dict" = some none) :
    ∃ fd : FuncData, (∀ (s : Shared) (v : Value), BindsTo s fd ⟨[v], []⟩ [("_law_script", v)]) ∧ ∀ base : Heap, K.In base → base.Ns mainGlobals mg → FnG l.prog w K mg base CX0 7 fa fd ["_law_script"] (toSp K spLaw) := by
  have e := hfa.symm.trans (PySem.W.mg_of X G a21)
  cases e
  have Z : Zs mg := ⟨PySem.W.mg_none_of X G z0, PySem.W.mg_none_of X G z1, PySem.W.mg_none_of X G z2, PySem.W.mg_none_of X G z3, PySem.W.mg_none_of X G z4, PySem.W.mg_none_of X G z5, PySem.W.mg_none_of X G z6, PySem.W.mg_none_of X G z7, PySem.W.mg_none_of X G z8, PySem.W.mg_none_of X G z9, PySem.W.mg_none_of X G z10, PySem.W.mg_none_of X G z11, PySem.W.mg_none_of X G z12, PySem.W.mg_none_of X G z13, PySem.W.mg_none_of X G z14, PySem.W.mg_none_of X G z15, PySem.W.mg_none_of X G z16, PySem.W.mg_none_of X G z17, PySem.W.mg_none_of X G z18⟩
  have g0 : MgK K mg "LETTERS" (.str "abcdefghijklmnopqrstuvwxyz") := mgk_str (PySem.W.mg_of X G m0)
  have g1 : MgK K mg "MOST_LETTERS" (.int 8) := mgk_int (PySem.W.mg_of X G m1)
  have g2 : MgK K mg "TEXT" (.str "text") := mgk_str (PySem.W.mg_of X G m2)
  have g3 : MgK K mg "LACK" (.str "lack") := mgk_str (PySem.W.mg_of X G m3)
  have g4 : MgK K mg "GAP" (.str "gap") := mgk_str (PySem.W.mg_of X G m4)
  have g5 : MgK K mg "FEED" (.str "\n") := mgk_str (PySem.W.mg_of X G m5)
  have g6 : MgK K mg "LACKS" (.tup ((["changed", "gone", "short"] : List Str).map D.str)) := mgk_tup (xs := (["changed", "gone", "short"] : List Str).map V.str) (PySem.W.mg_of X G m6) t6 rfl rfl (Nat.le_trans (Nat.le_of_ble_eq_true (m := 1000) rfl) (by decide)) (.cons ⟨_, rfl⟩ (.cons ⟨_, rfl⟩ (.cons ⟨_, rfl⟩ .nil))) fun G => datAll_strsI _
  have F1 := fun_mk (st := s_is_integer) l1 c1 k1
  have b1 := F1.binds (ps := ["thing"]) fun _ _ _ _ _ _ us hl => match us, hl with | [_], _ => rfl
  have F2 := fun_mk (st := s_is_from) l2 c2 k2
  have b2 := F2.binds (ps := ["thing", "low"]) fun _ _ _ _ _ _ us hl => match us, hl with | [_, _], _ => rfl
  have F3 := fun_mk (st := s_is_name) l3 c3 k3
  have b3 := F3.binds (ps := ["thing"]) fun _ _ _ _ _ _ us hl => match us, hl with | [_], _ => rfl
  have F4 := fun_mk (st := s_is_line) l4 c4 k4
  have b4 := F4.binds (ps := ["thing"]) fun _ _ _ _ _ _ us hl => match us, hl with | [_], _ => rfl
  have F5 := fun_mk (st := s_is_shown) l5 c5 k5
  have b5 := F5.binds (ps := ["thing"]) fun _ _ _ _ _ _ us hl => match us, hl with | [_], _ => rfl
  have F6 := fun_mk (st := s_is_row) l6 c6 k6
  have b6 := F6.binds (ps := ["thing"]) fun _ _ _ _ _ _ us hl => match us, hl with | [_], _ => rfl
  have F7 := fun_mk (st := s_is_gap) l7 c7 k7
  have b7 := F7.binds (ps := ["thing"]) fun _ _ _ _ _ _ us hl => match us, hl with | [_], _ => rfl
  have F8 := fun_mk (st := s_bag) l8 c8 k8
  have b8 := F8.binds (ps := ["_law_script", "_law_at"]) fun _ _ _ _ _ _ us hl => match us, hl with | [_, _], _ => rfl
  have F9 := fun_mk (st := s_take) l9 c9 k9
  have b9 := F9.binds (ps := ["_law_bag_here", "_law_many"]) fun _ _ _ _ _ _ us hl => match us, hl with | [_, _], _ => rfl
  have F10 := fun_mk (st := s_of) l10 c10 k10
  have b10 := F10.binds (ps := ["_law_bag_here", "_law_some"]) fun _ _ _ _ _ _ us hl => match us, hl with | [_, _], _ => rfl
  have F11 := fun_mk (st := s_name) l11 c11 k11
  have b11 := F11.binds (ps := ["_law_bag_here"]) fun _ _ _ _ _ _ us hl => match us, hl with | [_], _ => rfl
  have F12 := fun_mk (st := s_line) l12 c12 k12
  have b12 := F12.binds (ps := ["_law_bag_here"]) fun _ _ _ _ _ _ us hl => match us, hl with | [_], _ => rfl
  have F13 := fun_mk (st := s_row) l13 c13 k13
  have b13 := F13.binds (ps := ["_law_bag_here"]) fun _ _ _ _ _ _ us hl => match us, hl with | [_], _ => rfl
  have F14 := fun_mk (st := s_law_is_name) l14 c14 k14
  have b14 := F14.binds (ps := ["_law_thing"]) fun _ _ _ _ _ _ us hl => match us, hl with | [_], _ => rfl
  have F15 := fun_mk (st := s_law_is_from) l15 c15 k15
  have b15 := F15.binds (ps := ["_law_thing", "_law_low"]) fun _ _ _ _ _ _ us hl => match us, hl with | [_, _], _ => rfl
  have F16 := fun_mk (st := s_law_is_row) l16 c16 k16
  have b16 := F16.binds (ps := ["_law_thing"]) fun _ _ _ _ _ _ us hl => match us, hl with | [_], _ => rfl
  have F17 := fun_mk (st := s_law_is_gap) l17 c17 k17
  have b17 := F17.binds (ps := ["_law_thing"]) fun _ _ _ _ _ _ us hl => match us, hl with | [_], _ => rfl
  have F18 := fun_mk (st := s_odd) l18 c18 k18
  have b18 := F18.binds (ps := ["_law_bag_here", "_law_thing"]) fun _ _ _ _ _ _ us hl => match us, hl with | [_, _], _ => rfl
  have F19 := fun_mk (st := s_bent) l19 c19 k19
  have b19 := F19.binds (ps := ["_law_bag_here", "_law_thing"]) fun _ _ _ _ _ _ us hl => match us, hl with | [_, _], _ => rfl
  have F20 := fun_mk (st := s_right) l20 c20 k20
  have b20 := F20.binds (ps := ["_law_thing"]) fun _ _ _ _ _ _ us hl => match us, hl with | [_], _ => rfl
  refine ⟨PySem.W.fnOf "law" "law" (defArgs s_law) (defBody s_law) (defScope s_law) .none kV21 dc21 pm21 an21 cd21 ct21, fun s v => .of_eq rfl, fun base _ _ => ?_⟩
  have h1 : FnC l.prog w K mg base "is_integer" 1 spIsInt := ⟨_, _, _, ok_isInt F1 Z, PySem.W.mg_of X G a1, k1, b1⟩
  have h2 : FnC l.prog w K mg base "is_from" 2 spIsFrom := ⟨_, _, _, ok_isFrom F2 h1, PySem.W.mg_of X G a2, k2, b2⟩
  have h3 : FnC l.prog w K mg base "is_name" 1 spIsNm := ⟨_, _, _, ok_isName F3 Z g0 g1, PySem.W.mg_of X G a3, k3, b3⟩
  have h4 : FnC l.prog w K mg base "is_line" 1 spIsLn := ⟨_, _, _, ok_isLine F4 Z g5, PySem.W.mg_of X G a4, k4, b4⟩
  have h5 : FnC l.prog w K mg base "is_shown" 2 spIsSh := ⟨_, _, _, ok_isShown F5 Z h4 g2 g3 g6, PySem.W.mg_of X G a5, k5, b5⟩
  have h6 : FnC l.prog w K mg base "is_row" 3 spIsRow := ⟨_, _, _, ok_isRow F6 Z h3 h5 h2, PySem.W.mg_of X G a6, k6, b6⟩
  have h7 : FnC l.prog w K mg base "is_gap" 3 spIsGap := ⟨_, _, _, ok_isGap F7 Z h2 g4, PySem.W.mg_of X G a7, k7, b7⟩
  have h8 : FnC l.prog w K mg base "_law_bag" 1 spBag := ⟨_, _, _, ok_bag F8 Z, PySem.W.mg_of X G a8, k8, b8⟩
  have h9 : FnC l.prog w K mg base "_law_take" 1 spTake := ⟨_, _, _, ok_take F9 Z, PySem.W.mg_of X G a9, k9, b9⟩
  have h10 : FnC l.prog w K mg base "_law_of" 2 spOf := ⟨_, _, _, ok_of F10 Z h9, PySem.W.mg_of X G a10, k10, b10⟩
  have h11 : FnC l.prog w K mg base "_law_name" 3 (spStr 8 20) := ⟨_, _, _, ok_name F11 Z h9 h10, PySem.W.mg_of X G a11, k11, b11⟩
  have h12 : FnC l.prog w K mg base "_law_line" 3 (spStr 20 20) := ⟨_, _, _, ok_line F12 Z h9 h10, PySem.W.mg_of X G a12, k12, b12⟩
  have h13 : FnC l.prog w K mg base "_law_row" 4 spRow := ⟨_, _, _, ok_row F13 Z h11 h10 h12, PySem.W.mg_of X G a13, k13, b13⟩
  have h14 : FnC l.prog w K mg base "_law_is_name" 1 spIsNm := ⟨_, _, _, ok_lawIsName F14 Z, PySem.W.mg_of X G a14, k14, b14⟩
  have h15 : FnC l.prog w K mg base "_law_is_from" 1 spIsFrom := ⟨_, _, _, ok_lawIsFrom F15 Z, PySem.W.mg_of X G a15, k15, b15⟩
  have h16 : FnC l.prog w K mg base "_law_is_row" 2 spIsRow := ⟨_, _, _, ok_lawIsRow F16 Z h14 h15, PySem.W.mg_of X G a16, k16, b16⟩
  have h17 : FnC l.prog w K mg base "_law_is_gap" 2 spIsGap := ⟨_, _, _, ok_lawIsGap F17 Z h15, PySem.W.mg_of X G a17, k17, b17⟩
  have h18 : ∀ m, FnC l.prog w K mg base "_law_odd" 3 (spOdd m) := fun m => ⟨_, _, _, ok_odd F18 Z m h10, PySem.W.mg_of X G a18, k18, b18⟩
  have h19 : FnC l.prog w K mg base "_law_bent" 6 (spBent 2) := all_bent F19 b19 (PySem.W.mg_of X G a19) k19 Z h9 h18 (2)
  have h20 : FnC l.prog w K mg base "_law_right" 4 spRight := ⟨_, _, _, ok_right F20 Z h3 h6 h7 h14 h16 h17, PySem.W.mg_of X G a20, k20, b20⟩
  exact ok_law (fun_mk (st := s_law) l21 c21 k21) Z h9 h8 h10 h13 h11 h20 h19
theorem walk {l : PySem.W.OpenLaw} {q : Program} {loose : List Str} {XP : (Str → Option Value) → Heap → Prop} {YP : World → Heap → Prop} {d : DefRec} {K : Params → PySem.W.Frag} (hn : l.most = some 63) (hdf : d.params.defaults = [])
    (hY : ∀ (w : World) (h : Heap), YP w h → (K w.params).In h)
    (F : ∀ (w : World) (mg : Str → Option Value) (fa : Addr) (h : Heap), (K w.params).In h → h.Ns mainGlobals mg → mg d.name = some (.ref fa) →
      ∃ fd : FuncData, (∀ (s : Shared) (u : Value), BindsTo s fd ⟨[u], []⟩ [("_law_script", u)]) ∧ ∀ base : Heap, (K w.params).In base → base.Ns mainGlobals mg → FnG l.prog w (K w.params) mg base CX0 7 fa fd ["_law_script"] (toSp (K w.params) spLaw)) :
    PySem.W.WalkO q loose XP YP l.row.toRowW d [] (fun f vs => PySem.call f vs) :=
  walk_ofG (z := 63) (n := 7) (x := "_law_script") (CT := fun _ => CX0) (sp := fun w => toSp (K w.params) spLaw) hn (by decide) hdf ⟨rfl, by decide, by decide⟩ hY F
    (fun w H a ns hl hbits _ hS => ⟨H, fun _ => none, [.slst (ns.map D.int)], fun d _ => d = .bl true, wld0, .cons (.slst hS (dat_ints ns)) .nil, ⟨ns, rfl, hl, fun _ => rfl, rfl⟩, fun v G' C' H' d f w' r z => by subst z; cases r; rfl⟩) fun _ _ _ _ _ z => z
end
end K31

open PySem PySem.W PyProof.Rows in
set_option maxRecDepth 100000 in
set_option maxHeartbeats 0 in
theorem PySem.Challenge.cw_chainedreports_k01_names_rows_gaps_holds : PySem.Challenge.rw_chainedreports_k01_names_rows_gaps.Holds := by
  w_on; o_law; k_head; (case hw => w_witness2)
  k_fill
  refine K31.walk (l := PySem.Challenge.rw_chainedreports_k01_names_rows_gaps) rfl rfl (fun w h Y => PySem.W.kIn_of Y) ?F
  case F =>
    intro w mg fa h KX G hmg
    refine' K31.all_mk KX G hmg ?a1 ?l1 ?c1 ?k1 ?a2 ?l2 ?c2 ?k2 ?a3 ?l3 ?c3 ?k3 ?a4 ?l4 ?c4 ?k4 ?a5 ?l5 ?c5 ?k5 ?a6 ?l6 ?c6 ?k6 ?a7 ?l7 ?c7 ?k7 ?a8 ?l8 ?c8 ?k8 ?a9 ?l9 ?c9 ?k9 ?a10 ?l10 ?c10 ?k10 ?a11 ?l11 ?c11 ?k11 ?a12 ?l12 ?c12 ?k12 ?a13 ?l13 ?c13 ?k13 ?a14 ?l14 ?c14 ?k14 ?a15 ?l15 ?c15 ?k15 ?a16 ?l16 ?c16 ?k16 ?a17 ?l17 ?c17 ?k17 ?a18 ?l18 ?c18 ?k18 ?a19 ?l19 ?c19 ?k19 ?a20 ?l20 ?c20 ?k20 ?a21 ?l21 ?c21 ?k21 ?m0 ?m1 ?m2 ?m3 ?m4 ?m5 ?m6 ?t6 ?z0 ?z1 ?z2 ?z3 ?z4 ?z5 ?z6 ?z7 ?z8 ?z9 ?z10 ?z11 ?z12 ?z13 ?z14 ?z15 ?z16 ?z17 ?z18
    (case a1 => k_is)
    (case l1 => k_is)
    (case c1 => k_is)
    (case k1 => k_is)
    (case a2 => k_is)
    (case l2 => k_is)
    (case c2 => k_is)
    (case k2 => k_is)
    (case a3 => k_is)
    (case l3 => k_is)
    (case c3 => k_is)
    (case k3 => k_is)
    (case a4 => k_is)
    (case l4 => k_is)
    (case c4 => k_is)
    (case k4 => k_is)
    (case a5 => k_is)
    (case l5 => k_is)
    (case c5 => k_is)
    (case k5 => k_is)
    (case a6 => k_is)
    (case l6 => k_is)
    (case c6 => k_is)
    (case k6 => k_is)
    (case a7 => k_is)
    (case l7 => k_is)
    (case c7 => k_is)
    (case k7 => k_is)
    (case a8 => k_is)
    (case l8 => k_is)
    (case c8 => k_is)
    (case k8 => k_is)
    (case a9 => k_is)
    (case l9 => k_is)
    (case c9 => k_is)
    (case k9 => k_is)
    (case a10 => k_is)
    (case l10 => k_is)
    (case c10 => k_is)
    (case k10 => k_is)
    (case a11 => k_is)
    (case l11 => k_is)
    (case c11 => k_is)
    (case k11 => k_is)
    (case a12 => k_is)
    (case l12 => k_is)
    (case c12 => k_is)
    (case k12 => k_is)
    (case a13 => k_is)
    (case l13 => k_is)
    (case c13 => k_is)
    (case k13 => k_is)
    (case a14 => k_is)
    (case l14 => k_is)
    (case c14 => k_is)
    (case k14 => k_is)
    (case a15 => k_is)
    (case l15 => k_is)
    (case c15 => k_is)
    (case k15 => k_is)
    (case a16 => k_is)
    (case l16 => k_is)
    (case c16 => k_is)
    (case k16 => k_is)
    (case a17 => k_is)
    (case l17 => k_is)
    (case c17 => k_is)
    (case k17 => k_is)
    (case a18 => k_is)
    (case l18 => k_is)
    (case c18 => k_is)
    (case k18 => k_is)
    (case a19 => k_is)
    (case l19 => k_is)
    (case c19 => k_is)
    (case k19 => k_is)
    (case a20 => k_is)
    (case l20 => k_is)
    (case c20 => k_is)
    (case k20 => k_is)
    (case a21 => k_is)
    (case l21 => k_is)
    (case c21 => k_is)
    (case k21 => k_is)
    (case m0 => k_is)
    (case m1 => k_is)
    (case m2 => k_is)
    (case m3 => k_is)
    (case m4 => k_is)
    (case m5 => k_is)
    (case m6 => k_is)
    (case t6 => k_is)
    (case z0 => k_is)
    (case z1 => k_is)
    (case z2 => k_is)
    (case z3 => k_is)
    (case z4 => k_is)
    (case z5 => k_is)
    (case z6 => k_is)
    (case z7 => k_is)
    (case z8 => k_is)
    (case z9 => k_is)
    (case z10 => k_is)
    (case z11 => k_is)
    (case z12 => k_is)
    (case z13 => k_is)
    (case z14 => k_is)
    (case z15 => k_is)
    (case z16 => k_is)
    (case z17 => k_is)
    (case z18 => k_is)
