import PyProof.Rows.All
import Wide.All
import OpenK.AllK
import Wide.FinOn
import HandS.ForMost
import HandS.Property
import HandS.EndBits
import HandS.IsInst
import HandS.Zip
import HandS.Flow
import HandS.Wide
import HandS.Deep
import HandS.TupAny
import HandS.TupMul
import HandS.WideBits
import HandS.Replace
import HandS.StrMore
import HandS.More
import HandS.TryOnly
import PyProof.ReprRoads
import PyProof.ReprLen
import PyProof.Rows.StrBoot
import HandS.Comp
import PyProof.P3Eq
import HandS.Style
import HandS.WordsDict
import HandS.Dict
import KE.GoesEnum
import HandS.Star
import PyProof.CollectIter
import PyProof.WalksMore
import HandS.FStr
import HandS.ClsMeth
import HandS.MakeKwOnly
import PySem.Challenge.RW_chainedreports_k05_chains_along
import KE.KStrBytes
set_option Elab.async false
set_option linter.all false
set_option maxRecDepth 100000
/-! DG0: promises of defs that are called where no text of a list is being made (no guard stands around). -/
namespace DL
open PySem PySem.Spec PyProof.Rows L2
/-- FnOk, where no guard stands around -/
structure FnG (P : Program) (w : World) (K : PySem.W.Frag) (mg : Str → Option Value) (base : Heap) (CT : CXT) (n : Nat) (fa : Addr) (fd : FuncData) (ps : List Str) (sp : Sp) : Prop where
  len : ∀ as H Q E, sp as H Q E → as.length = ps.length
  run : ∀ {A : Around} {out : List Env} {s : Shared} {H : Hp} {ar : Args} {us : List Value} {as : List V} {Q : VK} {E : XK}, A.guards = some [] → Room n A → Env0 P w K mg base A out s H →
    BindsTo s fd ar (ps.zip us) → Vals as us → sp as H Q E → codeAny (model P w) A (.call (.ref fa) ar) (CR CT out P w H s Q E) s
section
variable {P : Program} {w : World} {K : PySem.W.Frag} {mg : Str → Option Value} {base : Heap} {CT : CXT} {n m : Nat} {fa : Addr} {fd : FuncData} {ps : List Str} {sp : Sp}
theorem FnG.mono (F : FnG P w K mg base CT n fa fd ps sp) (h : n ≤ m) : FnG P w K mg base CT m fa fd ps sp := ⟨F.len, fun g r => F.run g (r.mono h)⟩
/-- from the body -/
theorem fnG_of {x qual : Str} {st : Stmt} {N : List Str} (F : Fun K x qual st fa fd) (S : FnScope N ps (defScope st)) (len : ∀ as H Q E, sp as H Q E → as.length = ps.length)
    (hb : ∀ (cdv : Value) (A : Around) (out : List Env) (s : Shared) (H : Hp) (as : List V) (Q : VK) (E : XK), A.guards = some [] → Room n (A.deeper (envOfC qual (defScope st) s.heap.objs.size fa cdv)) → sp as H Q E →
      ∃ t, PSs (cxOf CT P w K mg base N qual (defScope st) fa cdv A out s H E) (defBody st) t ∧ t { nx := fun _ H1 => Q .non H1, rt := Q } (start N as) H) : FnG P w K mg base CT (n + 1) fa fd ps sp := by
  obtain ⟨oc, od, kV, doc, pm, an, cdv, ct, osl, rfl, hlook, hcode⟩ := F.ex
  refine ⟨len, ?_⟩
  intro A out s H ar us as Q E hguard hroom env0 hbind hvals hsp
  have inK : K.In s.heap := env0.mod.kin.keeps fun a o q => (env0.bs a o q).1
  have noLim : s.heap.NoLimit := env0.mod.nolimit.keeps fun a o q => (env0.bs a o q).1
  refine codeAny_call_function hroom.depth (inK _ _ hlook) rfl S.co S.gen rfl (PySem.W.codeRec_of inK hcode) (hbind _ _ _ _ ?_)
  refine wpAny_newFunctionEnv_cells S.kind ?_ ?_
  · rintro ⟨nm, v⟩ hin
    rcases S.par nm (List.of_mem_zip hin).1 with q | q
    · exact .inl q
    · exact .inr ⟨q, PySem.W.cellsFrom_some _ _ _ (.inl q)⟩
  · intro env henv s1 inc
    subst henv
    refine ⟨noLim.keeps inc.toInCall.keep, codeAny_func ?_⟩
    obtain ⟨t, pt, qt⟩ := hb cdv A out s H as Q E hguard (hroom.deeper _) hsp
    have inv := inv_start (E := E) (CX := CT) S hroom.hd env0 (len _ _ _ _ hsp) hvals inc
    refine wpAny_mono (pt.run [] s1 (start N as) H _ inv qt) ?_ fun e s' z => z
    intro fl s' z
    cases fl with
    | ret u =>
      obtain ⟨v, _, H1, J, rv, q⟩ := z
      exact ⟨v, H1, J.os, J.bare, J.base, J.hok, rv, q⟩
    | next =>
      obtain ⟨_, H1, J, q⟩ := z
      exact ⟨V.non, H1, J.os, J.bare, J.base, J.hok, rfl, q⟩
    | brk => exact z.elim fun _ z => z.elim fun _ z => z.2.elim
    | cont => exact z.elim fun _ z => z.elim fun _ z => z.2.elim
end
section
variable {X : Cx} {CT : CXT} {n : Nat} {fa Ca : Addr} {fd : FuncData} {ps : List Str} {sp : Sp} {E : XK} {x m : Str} {p pos apos : Pos} {e o : Expr} {es : List Expr} {ta : TE} {t : TA}
theorem goG {pins : List (Addr × Obj)} {σ : L2.St} {H : Hp} {s : Shared} {Q : VK} {us : List Value} {as : List V} (F : FnG X.prog X.w X.K X.mg X.base CT n fa fd ps sp) (hgd : X.A.guards = some []) (hr : Room n X.A) (hb : Binds X.K fd ps []) (hx : Passes CT X E)
    (I : Inv X pins σ H s) (r : Vals as us) (h : sp as H Q E) : wpAny (model X.prog X.w) X.A (call (.ref fa) us) (EP X pins σ Q) X.xe s := by
  have hlen : (us ++ ([] : List Value)).length = ps.length := by
    rw [List.append_nil, ← r.length]
    exact F.len _ _ _ _ h
  have hbind := hb s us I.kIn hlen
  rw [List.append_nil] at hbind
  refine wpAny_call (codeAny_mono (F.run hgd hr I.env0 hbind r h) ?_)
  intro res s' z
  match res, z with
  | .error e, z => exact hx pins σ H s e s' I z
  | .ok (.ret u), z => exact I.after z
theorem pe_callG (F : FnG X.prog X.w X.K X.mg X.base CT n fa fd ps sp) (hgd : X.A.guards = some []) (hr : Room n X.A) (hg : Gl X x) (hm : X.mg x = some (.ref fa)) (hk : PySem.W.keepIn X.K (.ref fa) = true) (hb : Binds X.K fd ps []) (hx : Passes CT X E)
    (ha : PA X (e :: es) t) (hdb : (x == ("__debug__" : Str)) = false := by decide) (he : starEach (e :: es) X.env = (false, eval e X.env) :: starEach es X.env := by rfl) (hpl : (backTo pos (starEach es X.env)).any (·.1) = false := by rfl) :
    PE X (.Call (.Name x p) (e :: es) [] pos) (tCall sp [] E t) := ⟨fun pins s σ H Q I h => wpAny_Call_Name_kw (ld_glob I hg hm (PySem.W.callWith_K (h₀ := X.base) I.ok.mod.kin hk (thn (ha.run pos pins s σ H _ I h) fun us s1 z => by
      obtain ⟨as, H1, I1, r, q⟩ := z
      refine ⟨I1.kIn, goG F hgd hr hb hx I1 r ?_⟩
      rwa [List.append_nil] at q) he hpl) hdb)⟩
theorem pe_callG0 (F : FnG X.prog X.w X.K X.mg X.base CT n fa fd ps sp) (hgd : X.A.guards = some []) (hr : Room n X.A) (hg : Gl X x) (hm : X.mg x = some (.ref fa)) (hk : PySem.W.keepIn X.K (.ref fa) = true) (hb : Binds X.K fd ps []) (hx : Passes CT X E)
    (hdb : (x == ("__debug__" : Str)) = false := by decide) : PE X (.Call (.Name x p) [] [] pos) (tCall sp [] E tNil) :=
  ⟨fun pins s σ H Q I h => wpAny_Call_Name_kw (ld_glob I hg hm (PySem.W.callWith_K0 I.kIn hk (goG (us := []) F hgd hr hb hx I .nil h)) hdb)⟩
end
/-! ### the law's own call -/
section
variable {P : Program} {w : World} {K : PySem.W.Frag} {mg mb : Str → Option Value} {CT : CXT} {n : Nat} {fa a : Addr} {fd : FuncData} {x : Str} {sp : Sp} {s : Shared} {vs : List Value} {ns : List Int}
def EndT (s : Shared) (r : Result) (s' : Shared) : Prop := r = .ok (.ret (.bool true)) ∧ OldK s.heap s'.heap ∧ s'.os = s.os ∧ AllBare s'.gens
theorem law_at (KX : K.In s.heap) (hns : s.heap.Ns mainGlobals mg) (hb : s.heap.Ns builtinsNs mb) (hbb : ∀ y : Str, y ≠ "__name__" → mb y = bootBuiltins y) (hlim : s.heap.NoLimit) (hgen : s.gens = #[])
    (ha : s.heap.get? a = some { cls := .type "list", data := .seq vs.toArray }) (hr : Room n callerA)
    (F : ∀ base : Heap, K.In base → base.Ns mainGlobals mg → FnG P w K mg base CT n fa fd [x] sp) (hbind : ∀ (s : Shared) (u : Value), BindsTo s fd ⟨[u], []⟩ [(x, u)])
    (hCT : ∀ H e s', CT [] H s (fun _ _ _ => False) e s' → False) {H : Hp} (hO : Only H) (hsp : sp [.ref a] H (fun v _ => v = .bl true) fun _ _ _ => False) (hok : HOk P w H s.heap) (hone : ∀ b, b ≠ a → H b = none) (hK : H a ≠ none → K.lookup a = none) :
    codeAny (model P w) callerA (.call (.ref fa) ⟨[.ref a], []⟩) (EndT s) s := by
  have hid : ∀ {b : Addr} {ob : Obj}, s.heap.get? b = some ob → (b = a → H a = none) → (hidT s.heap H).get? b = some ob := fun {b ob} q z => hidT_get q (by
    by_cases e : b = a
    · rw [e]; exact z e
    · exact hone b e)
  have nsT : ∀ {b : Addr} {f : Str → Option Value}, s.heap.Ns b f → (hidT s.heap H).Ns b f := by
    rintro b f ⟨ob, es, ep, q, d, rest⟩
    refine ⟨ob, es, ep, hid q fun e => ?_, d, rest⟩
    rw [e, ha] at q
    cases q
    cases (d : Data.seq vs.toArray _ = Data.dict es ep)
  have kinT : K.In (hidT s.heap H) := fun b ob q => hid (KX b ob q) fun e => by
    cases z : H a with
    | none => rfl
    | some u =>
      rw [e, hK (by rw [z]; exact nofun)] at q
      cases q
  obtain ⟨mc, l1, l2⟩ := hlim
  have env0 : Env0 P w K mg (hidT s.heap H) callerA [] s H :=
    { frames := rfl, mod := ⟨kinT, nsT hns, ⟨mb, nsT hb, hbb⟩, ⟨mc, nsT l1, l2⟩⟩, bs := fun _ _ q => of_hidT q, bsz := Nat.le_of_eq (hidT_size _ _), funs := trivial, frf := (fun b z => (nomatch z)), hok := hok, bare := .of_eq hgen }
  refine codeAny_mono ((F _ kinT (nsT hns)).run (us := [.ref a]) (as := [.ref a]) rfl hr env0 (hbind s (.ref a)) (.cons rfl .nil) hsp) ?_
  intro res s' z
  match res, z with
  | .error e, z => exact (hCT H e s' z).elim
  | .ok (.ret u), z =>
    obtain ⟨v, H1, os, bare, un, hok1, ru, hv⟩ := z
    obtain rfl : v = .bl true := hv
    obtain rfl : u = Value.bool true := ru
    refine ⟨rfl, OldK.of_keep fun b ob q => ?_, os, bare⟩
    rcases hO b with c | ⟨oc, xs, c⟩
    · exact un.keep b ob q c (fun z => nomatch z) (by simp)
    · obtain ⟨c1, _⟩ := hok b _ c
      obtain ⟨c2, _⟩ := hok1 b _ (un.frzs b oc _ c)
      rw [q] at c1
      cases c1
      exact c2
theorem law_callG (KX : K.In s.heap) (hns : s.heap.Ns mainGlobals mg) (hb : s.heap.Ns builtinsNs mb) (hbb : ∀ y : Str, y ≠ "__name__" → mb y = bootBuiltins y) (hlim : s.heap.NoLimit) (hgen : s.gens = #[])
    (ha : s.heap.get? a = some { cls := .type "list", data := .seq vs.toArray }) (hi : IntsAre vs ns) (hl : ns.length ≤ sizeLine) (hr : Room n callerA)
    (F : ∀ base : Heap, K.In base → base.Ns mainGlobals mg → FnG P w K mg base CT n fa fd [x] sp) (hbind : ∀ (s : Shared) (u : Value), BindsTo s fd ⟨[u], []⟩ [(x, u)])
    (hsp : ∀ H : Hp, Only H → SqL K H a (ns.map V.int) → sp [.ref a] H (fun v _ => v = .bl true) fun _ _ _ => False) (hCT : ∀ H e s', CT [] H s (fun _ _ _ => False) e s' → False) :
    codeAny (model P w) callerA (.call (.ref fa) ⟨[.ref a], []⟩) (EndT s) s := by
  have rv : Vals (ns.map V.int) vs := vals_ints hi
  have hsz : (ns.map V.int).length ≤ sizeLine := by rwa [List.length_map]
  by_cases hk : ∃ ob, K.lookup a = some ob
  · obtain ⟨ob, hk⟩ := hk
    have q := KX a ob hk
    rw [ha] at q
    cases q
    have hO : Only fun _ => none := fun _ => .inl rfl
    exact law_at KX hns hb hbb hlim hgen ha hr F hbind hCT hO (hsp _ hO (.inr ⟨_, vs.toArray, _, hk, rfl, rfl, rfl, by rw [List.size_toArray, ← rv.length]; exact hsz, by simpa using rv⟩)) (fun b u z => nomatch z) (fun _ _ => rfl) fun z => absurd rfl z
  · let H : Hp := upd (fun _ => none) a (.frz { cls := .type "list", data := .seq vs.toArray } (.lst (ns.map V.int)))
    have e1 : H a = some (.frz { cls := .type "list", data := .seq vs.toArray } (.lst (ns.map V.int))) := upd_same
    have e2 : ∀ b, b ≠ a → H b = none := fun b z => upd_ne z
    have hO : Only H := fun b => by
      by_cases z : b = a
      · rw [z]; exact .inr ⟨_, _, e1⟩
      · exact .inl (e2 b z)
    refine law_at KX hns hb hbb hlim hgen ha hr F hbind hCT hO (hsp H hO (.inl (.inr ⟨_, e1⟩))) ?_ e2 fun _ => ?_
    · intro b u z
      by_cases zb : b = a
      · subst zb
        rw [e1] at z
        cases z
        exact ⟨ha, hsz, vs, _, rv, ha⟩
      · rw [e2 b zb] at z; cases z
    · cases z : K.lookup a with
      | none => rfl
      | some ob => exact absurd ⟨ob, z⟩ hk
end
theorem walk_ofG {l : PySem.W.OpenLaw} {z n : Nat} {q : Program} {loose : List Str} {XP : (Str → Option Value) → Heap → Prop} {YP : World → Heap → Prop} {d : DefRec} {K : Params → PySem.W.Frag} {CT : World → CXT} {sp : World → Sp} {x : Str}
    (hz : l.most = some z) (hz2 : z ≤ sizeLine) (hdf : d.params.defaults = []) (hr : Room n callerA) (hY : ∀ (w : World) (h : Heap), YP w h → (K w.params).In h)
    (F : ∀ (w : World) (mg : Str → Option Value) (fa : Addr) (h : Heap), (K w.params).In h → h.Ns mainGlobals mg → mg d.name = some (.ref fa) →
      ∃ fd : FuncData, (∀ (s : Shared) (u : Value), BindsTo s fd ⟨[u], []⟩ [(x, u)]) ∧ ∀ base : Heap, (K w.params).In base → base.Ns mainGlobals mg → FnG l.prog w (K w.params) mg base (CT w) n fa fd [x] (sp w))
    (hsp : ∀ (w : World) (H : Hp) (a : Addr) (ns : List Int), ns.length ≤ z → (∀ i ∈ ns, Builtin.Int.intBits i ≤ 1048576) → Only H → SqL (K w.params) H a (ns.map V.int) → sp w [.ref a] H (fun v _ => v = .bl true) fun _ _ _ => False)
    (hCT : ∀ (w : World) (H : Hp) (s : Shared) (e : Value) (s' : Shared), CT w [] H s (fun _ _ _ => False) e s' → False) : PySem.W.WalkO q loose XP YP l.row.toRowW d [] (fun f vs => PySem.call f vs) := by
  refine Att.attach_callB hz hdf ?_
  intro w s₀ s mg mb fa o pm cd doc a vs ns G Y ho hd hcd hmg hobj hints hlen hbits hgen
  have inK := hY w _ Y
  obtain ⟨fd, hbind, hF⟩ := F w mg fa _ inK G.T.g hmg
  exact law_callG inK G.T.g G.T.b G.T.builtins G.T.nolimit hgen hobj hints (Nat.le_trans hlen hz2) hr hF hbind (fun H hO hS => hsp w H a ns hlen hbits hO hS) fun H e s' => hCT w H s e s'
end DL
/-! DLa: a layer of data over the hand layer: data as trees, cells that change, readings by data. -/
namespace DL
open PySem PySem.Spec PyProof.Rows L2

/-- data: trees of what does not change; slst: a list of the module or the script; own: a cell that may change; opq: anything else -/
inductive D where
  | non | bl (b : Bool) | int (i : Int) | str (x : Str)
  | lst (xs : List D) | tup (xs : List D) | slst (xs : List D)
  | obj (C : Addr) (ks : List Str) (xs : List D)
  | own (a : Addr)
  | opq (v : V)

/-- what stands in a cell -/
inductive Cell where
  | lst (xs : List D)
  | dic (kvs : List (Key × D))
  | ins (C : Addr) (ks : List Str) (xs : List D)

abbrev CS := Addr → Option Cell
def put (C : CS) (a : Addr) (c : Cell) : CS := fun b => if b = a then some c else C b
def del (C : CS) (a : Addr) : CS := fun b => if b = a then none else C b
theorem put_same {C : CS} {a : Addr} {c : Cell} : put C a c a = some c := by unfold put; rw [if_pos rfl]
theorem put_ne {C : CS} {a b : Addr} {c : Cell} (h : b ≠ a) : put C a c b = C b := by unfold put; rw [if_neg h]
theorem put_put {C : CS} {a : Addr} {c d : Cell} : put (put C a c) a d = put C a d := by
  funext b; unfold put; split <;> rfl
theorem del_same {C : CS} {a : Addr} : del C a a = none := by unfold del; rw [if_pos rfl]
theorem del_ne {C : CS} {a b : Addr} (h : b ≠ a) : del C a b = C b := by unfold del; rw [if_neg h]
theorem del_put {C : CS} {a : Addr} {c : Cell} (h : C a = none) : del (put C a c) a = C := by
  funext b; unfold del put; split
  · rename_i e; rw [e, h]
  · rfl
theorem cell_ne {C : CS} {a b : Addr} {c : Cell} (h : C a = some c) (h' : C b = none) : a ≠ b := by
  intro e; subst e; rw [h] at h'; cases h'

mutual
inductive Dat (K : PySem.W.Frag) (G : Hp) : V → D → Prop
  | non : Dat K G .non .non
  | bl (b : Bool) : Dat K G (.bl b) (.bl b)
  | int (i : Int) : Dat K G (.int i) (.int i)
  | str (x : Str) : Dat K G (.str x) (.str x)
  | lst {a : Addr} {xs : List V} {ds : List D} : G a = some (.lst xs) → DatAll K G xs ds → Dat K G (.ref a) (.lst ds)
  | slst {a : Addr} {xs : List V} {ds : List D} : SqL K G a xs → DatAll K G xs ds → Dat K G (.ref a) (.slst ds)
  | tup {a : Addr} {xs : List V} {ds : List D} : SqT K G a xs → DatAll K G xs ds → Dat K G (.ref a) (.tup ds)
  | obj {a C dx : Addr} {fs : List (Str × V)} {ks : List Str} {ds : List D} : G a = some (.ins C dx fs) → fs.map (·.1) = ks → DatAll K G (fs.map (·.2)) ds → Dat K G (.ref a) (.obj C ks ds)
  | own (a : Addr) : Dat K G (.ref a) (.own a)
  | opq (v : V) : Dat K G v (.opq v)
inductive DatAll (K : PySem.W.Frag) (G : Hp) : List V → List D → Prop
  | nil : DatAll K G [] []
  | cons {v : V} {vs : List V} {d : D} {ds : List D} : Dat K G v d → DatAll K G vs ds → DatAll K G (v :: vs) (d :: ds)
end

theorem Same.sqT {K : PySem.W.Frag} {H H' : Hp} {a : Addr} {xs : List V} (e : Same H H') (h : SqT K H a xs) : SqT K H' a xs := by
  rcases h with (h | ⟨o, h⟩) | h
  · exact .inl (.inl (e _ _ h))
  · exact .inl (.inr ⟨o, e _ _ h⟩)
  · exact .inr h

section
variable {K : PySem.W.Frag} {G G' : Hp}
mutual
theorem Dat.mono (e : Same G G') : ∀ (d : D) {v : V}, Dat K G v d → Dat K G' v d
  | .non, _, h => by cases h; exact .non
  | .bl _, _, h => by cases h; exact .bl _
  | .int _, _, h => by cases h; exact .int _
  | .str _, _, h => by cases h; exact .str _
  | .lst ds, _, h => by
    cases h with
    | lst a b => exact .lst (e _ _ a) (DatAll.mono e ds b)
  | .slst ds, _, h => by
    cases h with
    | slst a b => exact .slst (e.seq a) (DatAll.mono e ds b)
  | .tup ds, _, h => by
    cases h with
    | tup a b => exact .tup (Same.sqT e a) (DatAll.mono e ds b)
  | .obj _ _ ds, _, h => by
    cases h with
    | obj a b c => exact .obj (e _ _ a) b (DatAll.mono e ds c)
  | .own _, _, h => by cases h; exact .own _
  | .opq _, _, h => by cases h; exact .opq _
theorem DatAll.mono (e : Same G G') : ∀ (ds : List D) {vs : List V}, DatAll K G vs ds → DatAll K G' vs ds
  | [], _, h => by cases h; exact .nil
  | d :: ds, _, h => by
    cases h with
    | cons a b => exact .cons (Dat.mono e d a) (DatAll.mono e ds b)
end
theorem DatAll.length : ∀ {vs : List V} {ds : List D}, DatAll K G vs ds → vs.length = ds.length
  | _, [], h => by cases h; rfl
  | _, d :: ds, h => by
    cases h with
    | cons a b => simp [DatAll.length b]
theorem DatAll.get : ∀ {vs : List V} {ds : List D} {i : Nat} {d : D}, DatAll K G vs ds → ds[i]? = some d → ∃ v, vs[i]? = some v ∧ Dat K G v d
  | _, [], i, d, h, e => by simp at e
  | _, x :: ds, i, d, h, e => by
    cases h with
    | cons a b =>
      cases i with
      | zero => simp at e; subst e; exact ⟨_, rfl, a⟩
      | succ i =>
        obtain ⟨v, h1, h2⟩ := DatAll.get (i := i) b (by simpa using e)
        exact ⟨v, by simpa using h1, h2⟩
theorem DatAll.get' : ∀ {vs : List V} {ds : List D} {i : Nat} {v : V}, DatAll K G vs ds → vs[i]? = some v → ∃ d, ds[i]? = some d ∧ Dat K G v d
  | _, [], i, v, h, e => by cases h; simp at e
  | _, x :: ds, i, v, h, e => by
    cases h with
    | cons a b =>
      cases i with
      | zero => simp at e; subst e; exact ⟨_, rfl, a⟩
      | succ i =>
        obtain ⟨d, h1, h2⟩ := DatAll.get' (i := i) b (by simpa using e)
        exact ⟨d, by simpa using h1, h2⟩
theorem DatAll.append : ∀ {vs ws : List V} {ds es : List D}, DatAll K G vs ds → DatAll K G ws es → DatAll K G (vs ++ ws) (ds ++ es)
  | _, _, [], _, h, k => by cases h; exact k
  | _, _, d :: ds, _, h, k => by
    cases h with
    | cons a b => exact .cons a (DatAll.append b k)
theorem DatAll.take : ∀ {vs : List V} {ds : List D} (n : Nat), DatAll K G vs ds → DatAll K G (vs.take n) (ds.take n)
  | _, [], n, h => by cases h; simp; exact .nil
  | _, d :: ds, 0, h => by simp; exact .nil
  | _, d :: ds, n + 1, h => by
    cases h with
    | cons a b => exact .cons a (DatAll.take n b)
theorem DatAll.drop : ∀ {vs : List V} {ds : List D} (n : Nat), DatAll K G vs ds → DatAll K G (vs.drop n) (ds.drop n)
  | _, [], n, h => by cases h; simp; exact .nil
  | _, d :: ds, 0, h => h
  | _, d :: ds, n + 1, h => by
    cases h with
    | cons a b => exact DatAll.drop n b
theorem DatAll.set : ∀ {vs : List V} {ds : List D} {v : V} {d : D} (i : Nat), DatAll K G vs ds → Dat K G v d → DatAll K G (vs.set i v) (ds.set i d)
  | _, [], _, _, i, h, k => by cases h; simp; exact .nil
  | _, x :: ds, _, _, 0, h, k => by
    cases h with
    | cons a b => exact .cons k b
  | _, x :: ds, _, _, i + 1, h, k => by
    cases h with
    | cons a b => exact .cons a (DatAll.set i b k)
theorem DatAll.rev {vs : List V} {ds : List D} (h : DatAll K G vs ds) : DatAll K G vs.reverse ds.reverse := by
  induction ds generalizing vs with
  | nil => cases h; exact .nil
  | cons d ds ih =>
    cases h with
    | cons a b => simpa using DatAll.append (ih b) (.cons a .nil)
end

/-! ### the world -/
def CellR (K : PySem.W.Frag) (G H : Hp) (a : Addr) : Cell → Prop
  | .lst ds => ∃ vs, H a = some (.lst vs) ∧ DatAll K G vs ds
  | .dic kvs => ∃ kw : List (Key × V), H a = some (.dK kw) ∧ kw.map (·.1) = kvs.map (·.1) ∧ DatAll K G (kw.map (·.2)) (kvs.map (·.2))
  | .ins C ks ds => ∃ (dx : Addr) (fs : List (Str × V)), H a = some (.ins C dx fs) ∧ fs.map (·.1) = ks ∧ DatAll K G (fs.map (·.2)) ds
theorem CellR.mono {K : PySem.W.Frag} {G G' H H' : Hp} {a : Addr} {c : Cell} (e : Same G G') (h : H' a = H a) (r : CellR K G H a c) : CellR K G' H' a c := by
  cases c with
  | lst ds => obtain ⟨vs, h1, h2⟩ := r; exact ⟨vs, h.trans h1, h2.mono e⟩
  | dic kvs => obtain ⟨vs, h1, h2, h3⟩ := r; exact ⟨vs, h.trans h1, h2, h3.mono e⟩
  | ins C ks ds => obtain ⟨dx, fs, h1, h2, h3⟩ := r; exact ⟨dx, fs, h.trans h1, h2, h3.mono e⟩
theorem CellR.some {K : PySem.W.Frag} {G H : Hp} {a : Addr} {c : Cell} (r : CellR K G H a c) : ∃ o, H a = some o := by
  cases c with
  | lst ds => obtain ⟨vs, h1, h2⟩ := r; exact ⟨_, h1⟩
  | dic kvs => obtain ⟨vs, h1, h2, h3⟩ := r; exact ⟨_, h1⟩
  | ins C ks ds => obtain ⟨dx, fs, h1, h2, h3⟩ := r; exact ⟨_, h1⟩

structure Wld (K : PySem.W.Frag) (G : Hp) (C : CS) (H : Hp) : Prop where
  ex : Same G H
  cell : ∀ a c, C a = some c → G a = none ∧ CellR K G H a c

/-- what a piece of code leaves as it was -/
structure Fr (G : Hp) (C : CS) (H G' : Hp) (C' : CS) (H' : Hp) : Prop where
  exG : Same G G'
  keep : ∀ a o, H a = some o → C a = none → H' a = some o
  dom : ∀ a, H a ≠ none → H' a ≠ none
  newC : ∀ a, H a ≠ none → C' a ≠ none → C a ≠ none
  newG : ∀ a, H a ≠ none → G' a ≠ none → G a ≠ none ∨ C a ≠ none

section
variable {K : PySem.W.Frag} {G G1 G2 H H1 H2 : Hp} {C C1 C2 : CS} {a : Addr}
theorem Fr.refl (G : Hp) (C : CS) (H : Hp) : Fr G C H G C H := ⟨fun _ _ h => h, fun _ _ h _ => h, fun _ h => h, fun _ _ h => h, fun _ _ h => .inl h⟩
theorem Fr.trans (x : Fr G C H G1 C1 H1) (y : Fr G1 C1 H1 G2 C2 H2) : Fr G C H G2 C2 H2 where
  exG := x.exG.trans y.exG
  keep := fun a o h1 h2 => y.keep a o (x.keep a o h1 h2) (by
    cases q : C1 a with
    | none => rfl
    | some c => exact absurd h2 (x.newC a (by rw [h1]; simp) (by rw [q]; simp)))
  dom := fun a h => y.dom a (x.dom a h)
  newC := fun a h k => x.newC a h (y.newC a (x.dom a h) k)
  newG := fun a h k => (y.newG a (x.dom a h) k).elim (x.newG a h) fun k => .inr (x.newC a h k)
theorem Wld.ne (w : Wld K G C H) {a : Addr} (h : H a = none) : G a = none ∧ C a = none := by
  refine ⟨w.ex.free h, ?_⟩
  cases q : C a with
  | none => rfl
  | some c =>
    obtain ⟨o, e⟩ := (w.cell a c q).2.some
    rw [h] at e; cases e
/-- a new object that will not change -/
theorem Wld.newG (w : Wld K G C H) {p : Addr} (h : H p = none) (o : HO) : Wld K (upd G p o) C (upd H p o) ∧ Fr G C H (upd G p o) C (upd H p o) ∧ Same G (upd G p o) := by
  obtain ⟨g, c⟩ := w.ne h
  have sG : Same G (upd G p o) := fun b u e => by rw [upd_ne (ne_of_none e g)]; exact e
  refine ⟨⟨fun b u e => ?_, fun b c' e => ?_⟩, ⟨sG, fun b u e _ => by rw [upd_ne (ne_of_none e h)]; exact e, fun b e => ?_, fun _ _ k => k, fun b hb k => ?_⟩, sG⟩
  · by_cases q : b = p
    · subst q; rw [upd_same] at e ⊢; exact e
    · rw [upd_ne q] at e ⊢; exact w.ex b u e
  · have ne : b ≠ p := cell_ne e c
    obtain ⟨h1, h2⟩ := w.cell b c' e
    exact ⟨by rw [upd_ne ne]; exact h1, h2.mono sG (upd_ne ne)⟩
  · by_cases q : b = p
    · subst q; exact absurd h e
    · rw [upd_ne q]; exact e
  · by_cases q : b = p
    · subst q; exact absurd h hb
    · rw [upd_ne q] at k; exact .inl k
/-- a new cell -/
theorem Wld.newC (w : Wld K G C H) {p : Addr} (h : H p = none) {o : HO} {c : Cell} (r : ∀ H', H' p = some o → CellR K G H' p c) : Wld K G (put C p c) (upd H p o) ∧ Fr G C H G (put C p c) (upd H p o) := by
  obtain ⟨g, c0⟩ := w.ne h
  refine ⟨⟨fun b u e => ?_, fun b c' e => ?_⟩, ⟨fun _ _ h => h, fun b u e _ => by rw [upd_ne (ne_of_none e h)]; exact e, fun b e => ?_, fun b hb k => ?_, fun b _ k => .inl k⟩⟩
  · rw [upd_ne (ne_of_none e g)]; exact w.ex b u e
  · by_cases q : b = p
    · subst q; rw [put_same] at e; cases e; exact ⟨g, r _ upd_same⟩
    · rw [put_ne q] at e
      obtain ⟨h1, h2⟩ := w.cell b c' e
      exact ⟨h1, h2.mono (fun _ _ h => h) (upd_ne q)⟩
  · by_cases q : b = p
    · subst q; exact absurd h e
    · rw [upd_ne q]; exact e
  · by_cases q : b = p
    · subst q; exact absurd h hb
    · rw [put_ne q] at k; exact k
/-- a cell is changed -/
theorem Wld.write (w : Wld K G C H) {p : Addr} {c c' : Cell} (h : C p = some c) {o : HO} (r : ∀ H', H' p = some o → CellR K G H' p c') : Wld K G (put C p c') (upd H p o) ∧ Fr G C H G (put C p c') (upd H p o) := by
  obtain ⟨g, r0⟩ := w.cell p c h
  refine ⟨⟨fun b u e => ?_, fun b d e => ?_⟩, ⟨fun _ _ h => h, fun b u e k => ?_, fun b e => ?_, fun b hb k => ?_, fun b _ k => .inl k⟩⟩
  · rw [upd_ne (ne_of_none e g)]; exact w.ex b u e
  · by_cases q : b = p
    · subst q; rw [put_same] at e; cases e; exact ⟨g, r _ upd_same⟩
    · rw [put_ne q] at e
      obtain ⟨h1, h2⟩ := w.cell b d e
      exact ⟨h1, h2.mono (fun _ _ h => h) (upd_ne q)⟩
  · have : b ≠ p := fun q => by subst q; rw [h] at k; cases k
    rw [upd_ne this]; exact e
  · by_cases q : b = p
    · subst q; rw [upd_same]; simp
    · rw [upd_ne q]; exact e
  · by_cases q : b = p
    · subst q; rw [h]; simp
    · rw [put_ne q] at k; exact k
/-- cells are forgotten -/
theorem Wld.sub (w : Wld K G C H) (h : ∀ a c, C1 a = some c → C a = some c) : Wld K G C1 H ∧ Fr G C H G C1 H :=
  ⟨⟨w.ex, fun a c e => w.cell a c (h a c e)⟩, ⟨fun _ _ h => h, fun _ _ h _ => h, fun _ h => h, fun a _ k => by
    cases q : C1 a with
    | none => exact absurd q k
    | some c => rw [h a c q]; simp, fun _ _ h => .inl h⟩⟩
/-- a list's cell is frozen -/
theorem Wld.freeze (w : Wld K G C H) {p : Addr} {ds : List D} (h : C p = some (.lst ds)) : ∃ G', Wld K G' (del C p) H ∧ Fr G C H G' (del C p) H ∧ Dat K G' (.ref p) (.lst ds) := by
  obtain ⟨g, vs, e, r⟩ := w.cell p _ h
  have sG : Same G (upd G p (.lst vs)) := fun b u e => by rw [upd_ne (ne_of_none e g)]; exact e
  refine ⟨upd G p (.lst vs), ⟨fun b u q => ?_, fun b c q => ?_⟩, ⟨sG, fun _ _ h _ => h, fun _ h => h, fun b _ k => ?_, fun b _ k => ?_⟩, .lst upd_same (r.mono sG)⟩
  · by_cases z : b = p
    · subst z; rw [upd_same] at q; rw [e]; exact q
    · rw [upd_ne z] at q; exact w.ex b u q
  · have ne : b ≠ p := fun z => by subst z; rw [del_same] at q; cases q
    rw [del_ne ne] at q
    obtain ⟨h1, h2⟩ := w.cell b c q
    exact ⟨by rw [upd_ne ne]; exact h1, h2.mono sG rfl⟩
  · by_cases z : b = p
    · subst z; rw [h]; simp
    · rw [del_ne z] at k; exact k
  · by_cases z : b = p
    · subst z; right; rw [h]; simp
    · rw [upd_ne z] at k; exact .inl k
end
end DL
/-! DLb: judgements by data: expressions, tests, arguments, statements. -/
namespace DL
open PySem PySem.Spec PyProof.Rows L2

abbrev DEnv := List (Option D)
def EnvR (K : PySem.W.Frag) (G : Hp) (env : DEnv) (σ : L2.St) : Prop := env.length = σ.length ∧ ∀ (i : Nat) (d : D), env[i]? = some (some d) → ∃ v, σ[i]? = some (some v) ∧ Dat K G v d
abbrev KD := D → CS → Prop
def Kont (K : PySem.W.Frag) (G : Hp) (C : CS) (H : Hp) (k : KD) (Q : VK) : Prop :=
  ∀ v G' C' H' d, Fr G C H G' C' H' → Wld K G' C' H' → Dat K G' v d → k d C' → Q v H'
def KontB (K : PySem.W.Frag) (G : Hp) (C : CS) (H : Hp) (k : Bool → CS → Prop) (Q : Bool → Hp → Prop) : Prop :=
  ∀ b G' C' H', Fr G C H G' C' H' → Wld K G' C' H' → k b C' → Q b H'
def KontA (K : PySem.W.Frag) (G : Hp) (C : CS) (H : Hp) (k : List D → CS → Prop) (Q : List V → Hp → Prop) : Prop :=
  ∀ vs G' C' H' ds, Fr G C H G' C' H' → Wld K G' C' H' → DatAll K G' vs ds → k ds C' → Q vs H'
def Ev (K : PySem.W.Frag) (te : TE) (env : DEnv) (C : CS) (k : KD) : Prop := ∀ G σ H Q, Wld K G C H → EnvR K G env σ → Kont K G C H k Q → te σ H Q
def EvB (K : PySem.W.Frag) (te : TT) (env : DEnv) (C : CS) (k : Bool → CS → Prop) : Prop := ∀ G σ H Q, Wld K G C H → EnvR K G env σ → KontB K G C H k Q → te σ H Q
def EvA (K : PySem.W.Frag) (te : TA) (env : DEnv) (C : CS) (k : List D → CS → Prop) : Prop := ∀ G σ H Q, Wld K G C H → EnvR K G env σ → KontA K G C H k Q → te σ H Q

/-- the widest readings -/
def tS (X : Cx) (e : Expr) : TE := fun σ H Q => ∀ pins s, Inv X pins σ H s → wpAny (model X.prog X.w) X.A (eval e X.env) (EP X pins σ Q) X.xe s
def tT (X : Cx) (e : Expr) : TT := fun σ H Q => ∀ pins s, Inv X pins σ H s → wpAny (model X.prog X.w) X.A (isTrue e X.env (eval e X.env)) (TP X pins σ Q) X.xe s
def tW (X : Cx) (e : Expr) : TT := fun σ H Q => ∀ whole pins s, Inv X pins σ H s → wpAny (model X.prog X.w) X.A (isTrue e X.env whole) (TP X pins σ Q) X.xe s
def tAr (X : Cx) (es : List Expr) : TA := fun σ H Q => ∀ (pos : Pos) pins s, Inv X pins σ H s → wpAny (model X.prog X.w) X.A (spliced (backTo pos (starEach es X.env))) (AP X pins σ Q) X.xe s
def tX (X : Cx) (st : Stmt) : TS := fun D σ H => ∀ pins s, Inv X pins σ H s → wpAny (model X.prog X.w) X.A (exec st X.env) (SP X pins D) X.xe s
def tXs (X : Cx) (st : List Stmt) : TS := fun D σ H => ∀ pins s, Inv X pins σ H s → wpAny (model X.prog X.w) X.A (execs st X.env) (SP X pins D) X.xe s
section
variable {X : Cx} {e : Expr} {es : List Expr} {st : Stmt} {sts : List Stmt}
theorem pe_tS : PE X e (tS X e) := ⟨fun pins s σ H Q I h => h pins s I⟩
theorem pt_tT : PT X e (tT X e) := ⟨fun pins s σ H Q I h => h pins s I⟩
theorem pw_tW : PW X e (tW X e) := ⟨fun wh pins s σ H Q I h => h wh pins s I⟩
theorem pa_tAr : PA X es (tAr X es) := ⟨fun pos pins s σ H Q I h => h pos pins s I⟩
theorem ps_tX : PS X st (tX X st) := ⟨fun pins s σ H D I h => h pins s I⟩
theorem pss_tXs : PSs X sts (tXs X sts) := ⟨fun pins s σ H D I h => h pins s I⟩
end
def WE (X : Cx) (e : Expr) (env : DEnv) (C : CS) (k : KD) : Prop := Ev X.K (tS X e) env C k
def WT (X : Cx) (e : Expr) (env : DEnv) (C : CS) (k : Bool → CS → Prop) : Prop := EvB X.K (tT X e) env C k
def WW (X : Cx) (e : Expr) (env : DEnv) (C : CS) (k : Bool → CS → Prop) : Prop := EvB X.K (tW X e) env C k
def WA (X : Cx) (es : List Expr) (env : DEnv) (C : CS) (k : List D → CS → Prop) : Prop := EvA X.K (tAr X es) env C k

structure DEnds where
  nx : DEnv → CS → Prop
  rt : KD
  bk : DEnv → CS → Prop := fun _ _ => False
  ct : DEnv → CS → Prop := fun _ _ => False
def KontE (K : PySem.W.Frag) (G : Hp) (C : CS) (H : Hp) (k : DEnv → CS → Prop) (Q : L2.St → Hp → Prop) : Prop :=
  ∀ G' C' H' σ env, Fr G C H G' C' H' → Wld K G' C' H' → EnvR K G' env σ → k env C' → Q σ H'
structure KontS (K : PySem.W.Frag) (G : Hp) (C : CS) (H : Hp) (E : DEnds) (D : Ends) : Prop where
  nx : KontE K G C H E.nx D.nx
  rt : Kont K G C H E.rt D.rt
  bk : KontE K G C H E.bk D.bk
  ct : KontE K G C H E.ct D.ct
def EvS (K : PySem.W.Frag) (ts : TS) (env : DEnv) (C : CS) (E : DEnds) : Prop := ∀ G σ H D, Wld K G C H → EnvR K G env σ → KontS K G C H E D → ts D σ H
def WS (X : Cx) (st : Stmt) (env : DEnv) (C : CS) (E : DEnds) : Prop := EvS X.K (tX X st) env C E
def WSs (X : Cx) (sts : List Stmt) (env : DEnv) (C : CS) (E : DEnds) : Prop := EvS X.K (tXs X sts) env C E

section
variable {K : PySem.W.Frag} {G G1 H H1 : Hp} {C C1 : CS} {env : DEnv} {σ : L2.St}
theorem EnvR.mono (h : EnvR K G env σ) (e : Same G G1) : EnvR K G1 env σ := ⟨h.1, fun i d q => let ⟨v, a, b⟩ := h.2 i d q; ⟨v, a, b.mono e⟩⟩
theorem Kont.after {k : KD} {Q : VK} (q : Kont K G C H k Q) (f : Fr G C H G1 C1 H1) : Kont K G1 C1 H1 k Q := fun v G' C' H' d f' => q v G' C' H' d (f.trans f')
theorem KontB.after {k : Bool → CS → Prop} {Q : Bool → Hp → Prop} (q : KontB K G C H k Q) (f : Fr G C H G1 C1 H1) : KontB K G1 C1 H1 k Q := fun v G' C' H' f' => q v G' C' H' (f.trans f')
theorem KontA.after {k : List D → CS → Prop} {Q : List V → Hp → Prop} (q : KontA K G C H k Q) (f : Fr G C H G1 C1 H1) : KontA K G1 C1 H1 k Q := fun v G' C' H' d f' => q v G' C' H' d (f.trans f')
theorem KontE.after {k : DEnv → CS → Prop} {Q : L2.St → Hp → Prop} (q : KontE K G C H k Q) (f : Fr G C H G1 C1 H1) : KontE K G1 C1 H1 k Q := fun G' C' H' s d f' => q G' C' H' s d (f.trans f')
theorem KontS.after {E : DEnds} {D : Ends} (q : KontS K G C H E D) (f : Fr G C H G1 C1 H1) : KontS K G1 C1 H1 E D := ⟨q.nx.after f, q.rt.after f, q.bk.after f, q.ct.after f⟩
theorem EnvR.set (h : EnvR K G env σ) {v : V} {d : D} (i : Nat) (r : Dat K G v d) : EnvR K G (env.set i (some d)) (σ.set i (some v)) := by
  refine ⟨by simp [h.1], fun j d' q => ?_⟩
  by_cases e : i = j
  · subst e
    by_cases l : i < env.length
    · rw [List.getElem?_set_self l] at q
      cases q
      exact ⟨v, by rw [List.getElem?_set_self (by rw [← h.1]; exact l)], r⟩
    · rw [List.getElem?_eq_none (by simp; omega)] at q; cases q
  · rw [List.getElem?_set_ne e] at q ⊢
    exact h.2 j d' q
end

/-! ### from a rule of the hand layer -/
section
variable {X : Cx} {e : Expr} {es : List Expr} {st : Stmt} {sts : List Stmt} {env : DEnv} {C : CS}
theorem WE.of {te : TE} {k : KD} (h : PE X e te) (hv : Ev X.K te env C k) : WE X e env C k := fun G σ H Q w er q pins s I => h.run pins s σ H Q I (hv G σ H Q w er q)
theorem WT.of {te : TT} {k : Bool → CS → Prop} (h : PT X e te) (hv : EvB X.K te env C k) : WT X e env C k := fun G σ H Q w er q pins s I => h.run pins s σ H Q I (hv G σ H Q w er q)
theorem WW.of {te : TT} {k : Bool → CS → Prop} (h : PW X e te) (hv : EvB X.K te env C k) : WW X e env C k := fun G σ H Q w er q wh pins s I => h.run wh pins s σ H Q I (hv G σ H Q w er q)
theorem WA.of {te : TA} {k : List D → CS → Prop} (h : PA X es te) (hv : EvA X.K te env C k) : WA X es env C k := fun G σ H Q w er q pos pins s I => h.run pos pins s σ H Q I (hv G σ H Q w er q)
theorem WS.of {te : TS} {E : DEnds} (h : PS X st te) (hv : EvS X.K te env C E) : WS X st env C E := fun G σ H D w er q pins s I => h.run pins s σ H D I (hv G σ H D w er q)
theorem WSs.of {te : TS} {E : DEnds} (h : PSs X sts te) (hv : EvS X.K te env C E) : WSs X sts env C E := fun G σ H D w er q pins s I => h.run pins s σ H D I (hv G σ H D w er q)
theorem WE.imp {k k' : KD} (h : WE X e env C k) (hk : ∀ d C', k d C' → k' d C') : WE X e env C k' := fun G σ H Q w er q => h G σ H Q w er fun v G' C' H' d f w' r z => q v G' C' H' d f w' r (hk d C' z)
theorem WT.imp {k k' : Bool → CS → Prop} (h : WT X e env C k) (hk : ∀ d C', k d C' → k' d C') : WT X e env C k' := fun G σ H Q w er q => h G σ H Q w er fun v G' C' H' f w' z => q v G' C' H' f w' (hk v C' z)
theorem WA.imp {k k' : List D → CS → Prop} (h : WA X es env C k) (hk : ∀ d C', k d C' → k' d C') : WA X es env C k' := fun G σ H Q w er q => h G σ H Q w er fun v G' C' H' d f w' r z => q v G' C' H' d f w' r (hk d C' z)
end

/-! ### readings by data, compositionally -/
abbrev OpD := D → D → CS → KD → Prop
/-- a two-place operation on values is one on data -/
def R2D (K : PySem.W.Frag) (r : R2) (p : OpD) : Prop := ∀ (x y : V) (a b : D) (G : Hp) (C : CS) (H : Hp) (k : KD) (Q : VK), Wld K G C H → Dat K G x a → Dat K G y b → p a b C k → Kont K G C H k Q → r x y H Q
def R1D (K : PySem.W.Frag) (r : V → Hp → VK → Prop) (p : D → CS → KD → Prop) : Prop := ∀ (x : V) (a : D) (G : Hp) (C : CS) (H : Hp) (k : KD) (Q : VK), Wld K G C H → Dat K G x a → p a C k → Kont K G C H k Q → r x H Q
def RLD (K : PySem.W.Frag) (r : List V → Hp → VK → Prop) (p : List D → CS → KD → Prop) : Prop := ∀ (xs : List V) (ds : List D) (G : Hp) (C : CS) (H : Hp) (k : KD) (Q : VK), Wld K G C H → DatAll K G xs ds → p ds C k → Kont K G C H k Q → r xs H Q
def RMD (K : PySem.W.Frag) (r : V → List V → Hp → VK → Prop) (p : D → List D → CS → KD → Prop) : Prop := ∀ (x : V) (a : D) (xs : List V) (ds : List D) (G : Hp) (C : CS) (H : Hp) (k : KD) (Q : VK), Wld K G C H → Dat K G x a → DatAll K G xs ds → p a ds C k → Kont K G C H k Q → r x xs H Q
section
variable {K : PySem.W.Frag} {env : DEnv} {C : CS} {ta tb te : TE} {k : KD} {r : R2} {p : OpD} {t u : TT} {kb : Bool → CS → Prop} {tr : TA}
theorem ev_op (hr : R2D K r p) (h : Ev K ta env C fun x C1 => Ev K tb env C1 fun y C2 => p x y C2 k) : Ev K (tOp r ta tb) env C k := fun G σ H Q w er q =>
  h G σ H _ w er fun v G1 C1 H1 x f1 w1 d1 hb => hb G1 σ H1 _ w1 (er.mono f1.exG) fun y' G2 C2 H2 y f2 w2 d2 hp => hr v y' x y G2 C2 H2 k Q w2 (d1.mono f2.exG) d2 hp (q.after (f1.trans f2))
theorem ev_un {r : V → Hp → VK → Prop} {p : D → CS → KD → Prop} (hr : R1D K r p) (h : Ev K ta env C fun x C1 => p x C1 k) : Ev K (tUn r ta) env C k := fun G σ H Q w er q =>
  h G σ H _ w er fun v G1 C1 H1 x f1 w1 d1 hb => hr v x G1 C1 H1 k Q w1 d1 hb (q.after f1)
theorem ev_cb {r : List V → Hp → VK → Prop} {p : List D → CS → KD → Prop} (hr : RLD K r p) (h : EvA K tr env C fun ds C1 => p ds C1 k) : Ev K (tCB r tr) env C k := fun G σ H Q w er q =>
  h G σ H _ w er fun vs G1 C1 H1 ds f1 w1 d1 hb => hr vs ds G1 C1 H1 k Q w1 d1 hb (q.after f1)
theorem eb_test (h : Ev K te env C fun x C1 => ∃ b, x = .bl b ∧ kb b C1) : EvB K (tTest te) env C kb := fun G σ H Q w er q =>
  h G σ H _ w er fun v G1 C1 H1 x f1 w1 d1 hb => by
    obtain ⟨b, rfl, hb⟩ := hb
    cases d1
    exact ⟨b, rfl, q b G1 C1 H1 f1 w1 hb⟩
theorem eb_B (h : Ev K te env C fun x C1 => ∃ b, x = .bl b ∧ kb b C1) : EvB K (tB te) env C kb := eb_test h
theorem eb_not (h : EvB K t env C fun b C1 => kb (!b) C1) : EvB K (tNot t) env C kb := fun G σ H Q w er q => h G σ H _ w er fun b G1 C1 H1 f1 w1 hb => q _ G1 C1 H1 f1 w1 hb
theorem eb_and (h : EvB K t env C fun b C1 => if b = true then EvB K u env C1 kb else kb false C1) : EvB K (tAnd t u) env C kb := fun G σ H Q w er q => h G σ H _ w er fun b G1 C1 H1 f1 w1 hb => by
  cases b with
  | true => exact iteT ((iteT_ hb) G1 σ H1 Q w1 (er.mono f1.exG) (q.after f1))
  | false => exact iteF (q _ G1 C1 H1 f1 w1 (iteF_ hb))
where
  iteT_ {A B : Prop} (h : if true = true then A else B) : A := by rw [if_pos rfl] at h; exact h
  iteF_ {A B : Prop} (h : if false = true then A else B) : B := by rw [if_neg Bool.false_ne_true] at h; exact h
end
end DL
/-! DLc: the rules by data: names, operators, comparisons, displays, subscripts, tests. -/
namespace DL
open PySem PySem.Spec PyProof.Rows L2

/-! ### views of data -/
def seqL (C : CS) : D → Option (List D)
  | .lst xs => some xs
  | .own a => match C a with
    | some (.lst xs) => some xs
    | _ => none
  | _ => none
def seqR (C : CS) : D → Option (List D)
  | .slst xs => some xs
  | .lst xs => some xs
  | .own a => match C a with
    | some (.lst xs) => some xs
    | _ => none
  | _ => none
theorem seqL_own {C : CS} {a : Addr} {xs : List D} (h : C a = some (.lst xs)) : seqL C (.own a) = some xs := by unfold seqL; simp only [h]
theorem seqR_own {C : CS} {a : Addr} {xs : List D} (h : C a = some (.lst xs)) : seqR C (.own a) = some xs := by unfold seqR; simp only [h]
theorem own_seqL {C : CS} {a : Addr} {xs : List D} (h : seqL C (.own a) = some xs) : C a = some (.lst xs) := by
  unfold seqL at h
  cases q : C a with
  | none => simp [q] at h
  | some c => cases c <;> simp [q] at h; subst h; rfl
theorem own_seqR {C : CS} {a : Addr} {xs : List D} (h : seqR C (.own a) = some xs) : C a = some (.lst xs) := by
  unfold seqR at h
  cases q : C a with
  | none => simp [q] at h
  | some c => cases c <;> simp [q] at h; subst h; rfl
section
variable {K : PySem.W.Frag} {G H : Hp} {C : CS} {v : V} {d : D} {ds : List D}
theorem Wld.lst (w : Wld K G C H) (r : Dat K G v d) (e : seqL C d = some ds) : ∃ a xs, v = .ref a ∧ H a = some (.lst xs) ∧ DatAll K G xs ds := by
  cases r with
  | lst a b => simp [seqL] at e; subst e; exact ⟨_, _, rfl, w.ex _ _ a, b⟩
  | own a =>
    obtain ⟨_, vs, h1, h2⟩ := w.cell a _ (own_seqL e)
    exact ⟨a, vs, rfl, h1, h2⟩
  | _ => simp [seqL] at e
theorem Wld.seq (w : Wld K G C H) (r : Dat K G v d) (e : seqR C d = some ds) : ∃ a xs, v = .ref a ∧ SqL K H a xs ∧ DatAll K G xs ds := by
  cases r with
  | lst a b => simp [seqR] at e; subst e; exact ⟨_, _, rfl, SqL.of (w.ex _ _ a), b⟩
  | slst a b => simp [seqR] at e; subst e; exact ⟨_, _, rfl, w.ex.seq a, b⟩
  | own a =>
    obtain ⟨_, vs, h1, h2⟩ := w.cell a _ (own_seqR e)
    exact ⟨a, vs, rfl, SqL.of h1, h2⟩
  | _ => simp [seqR] at e
theorem Wld.tup (w : Wld K G C H) (r : Dat K G v (.tup ds)) : ∃ a xs, v = .ref a ∧ SqT K H a xs ∧ DatAll K G xs ds := by
  cases r with
  | tup a b => exact ⟨_, _, rfl, Same.sqT w.ex a, b⟩
end

mutual
def D.py : D → PyData
  | .non => .none
  | .bl b => .bool b
  | .int i => .int i
  | .str x => .str x
  | .lst xs => .list (pyL xs)
  | .slst xs => .list (pyL xs)
  | .tup xs => .tuple (pyL xs)
  | _ => .none
def pyL : List D → List PyData
  | [] => []
  | d :: ds => d.py :: pyL ds
end
mutual
def D.isPy : D → Bool
  | .non | .bl _ | .int _ | .str _ => true
  | .lst xs => allPy xs
  | .slst xs => allPy xs
  | .tup xs => allPy xs
  | _ => false
def allPy : List D → Bool
  | [] => true
  | d :: ds => d.isPy && allPy ds
end
section
variable {K : PySem.W.Frag} {G H : Hp}
mutual
theorem Dat.dp (e : Same G H) : ∀ (d : D) {v : V}, Dat K G v d → d.isPy = true → Dp K H v d.py
  | .non, _, h, _ => by cases h; exact .non
  | .bl _, _, h, _ => by cases h; exact .bl _
  | .int _, _, h, _ => by cases h; exact .int _
  | .str _, _, h, _ => by cases h; exact .str _
  | .lst ds, _, h, p => by
    cases h with
    | lst a b => exact .lst (SqL.of (e _ _ a)) (DatAll.dp e ds b (by simpa [D.isPy] using p))
  | .slst ds, _, h, p => by
    cases h with
    | slst a b => exact .lst (e.seq a) (DatAll.dp e ds b (by simpa [D.isPy] using p))
  | .tup ds, _, h, p => by
    cases h with
    | tup a b => exact .tup (Same.sqT e a) (DatAll.dp e ds b (by simpa [D.isPy] using p))
  | .obj _ _ ds, _, h, p => by simp [D.isPy] at p
  | .own _, _, h, p => by simp [D.isPy] at p
  | .opq _, _, h, p => by simp [D.isPy] at p
theorem DatAll.dp (e : Same G H) : ∀ (ds : List D) {vs : List V}, DatAll K G vs ds → allPy ds = true → DpAll K H vs (pyL ds)
  | [], _, h, _ => by cases h; exact .nil
  | d :: ds, _, h, p => by
    rw [allPy, Bool.and_eq_true] at p
    cases h with
    | cons a b => exact .cons (Dat.dp e d a p.1) (DatAll.dp e ds b p.2)
end
end
/-- the data that an operand stands for -/
def pyC (C : CS) : D → Option PyData
  | .own a => match C a with
    | some (.lst ds) => if allPy ds = true then some (.list (pyL ds)) else none
    | _ => none
  | d => if d.isPy = true then some d.py else none
theorem Wld.dp {K : PySem.W.Frag} {G H : Hp} {C : CS} {v : V} {d : D} {y : PyData} (w : Wld K G C H) (r : Dat K G v d) (e : pyC C d = some y) : Dp K H v y := by
  cases d with
  | own a =>
    cases r
    unfold pyC at e
    cases q : C a with
    | none => simp [q] at e
    | some c =>
      cases c with
      | lst ds =>
        simp [q] at e
        obtain ⟨p, rfl⟩ := e
        obtain ⟨_, vs, h1, h2⟩ := w.cell a _ q
        exact .lst (SqL.of h1) (h2.dp w.ex _ p)
      | _ => simp [q] at e
  | _ =>
    unfold pyC at e
    simp only [Option.ite_none_right_eq_some, Option.some.injEq] at e
    obtain ⟨p, rfl⟩ := e
    exact r.dp w.ex _ p

/-! ### more readings -/
section
variable {K : PySem.W.Frag} {env : DEnv} {C : CS} {ta tb te : TE} {k : KD} {t u : TT} {kb : Bool → CS → Prop} {tr : TA} {ka : List D → CS → Prop}
theorem eb_and2 (h : EvB K t env C fun b C1 => (b = true → EvB K u env C1 kb) ∧ (b = false → kb false C1)) : EvB K (tAnd t u) env C kb := fun G σ H Q w er q => h G σ H _ w er fun b G1 C1 H1 f1 w1 hb => by
  cases b with
  | true => exact iteT (hb.1 rfl G1 σ H1 Q w1 (er.mono f1.exG) (q.after f1))
  | false => exact iteF (q _ G1 C1 H1 f1 w1 (hb.2 rfl))
theorem eb_or2 (h : EvB K t env C fun b C1 => (b = true → kb true C1) ∧ (b = false → EvB K u env C1 kb)) : EvB K (tOr t u) env C kb := fun G σ H Q w er q => h G σ H _ w er fun b G1 C1 H1 f1 w1 hb => by
  cases b with
  | true => exact iteT (q _ G1 C1 H1 f1 w1 (hb.1 rfl))
  | false => exact iteF (hb.2 rfl G1 σ H1 Q w1 (er.mono f1.exG) (q.after f1))
theorem ev_andV (h : Ev K ta env C fun x C1 => ∃ b, x = .bl b ∧ (b = true → Ev K tb env C1 k) ∧ (b = false → k (.bl false) C1)) : Ev K (tAndV ta tb) env C k := fun G σ H Q w er q => h G σ H _ w er fun v G1 C1 H1 x f1 w1 d1 hb => by
  obtain ⟨b, rfl, h1, h2⟩ := hb
  cases d1
  refine ⟨b, rfl, ?_⟩
  cases b with
  | true => exact iteT (h1 rfl G1 σ H1 Q w1 (er.mono f1.exG) (q.after f1))
  | false => exact iteF (q _ G1 C1 H1 _ f1 w1 (.bl false) (h2 rfl))
theorem ev_orV (h : Ev K ta env C fun x C1 => ∃ b, x = .bl b ∧ (b = true → k (.bl true) C1) ∧ (b = false → Ev K tb env C1 k)) : Ev K (tOrV ta tb) env C k := fun G σ H Q w er q => h G σ H _ w er fun v G1 C1 H1 x f1 w1 d1 hb => by
  obtain ⟨b, rfl, h1, h2⟩ := hb
  cases d1
  refine ⟨b, rfl, ?_⟩
  cases b with
  | true => exact iteT (q _ G1 C1 H1 _ f1 w1 (.bl true) (h1 rfl))
  | false => exact iteF (h2 rfl G1 σ H1 Q w1 (er.mono f1.exG) (q.after f1))
theorem ev_notV (h : Ev K ta env C fun x C1 => ∃ b, x = .bl b ∧ k (.bl (!b)) C1) : Ev K (tNotV ta) env C k := fun G σ H Q w er q => h G σ H _ w er fun v G1 C1 H1 x f1 w1 d1 hb => by
  obtain ⟨b, rfl, h1⟩ := hb
  cases d1
  exact ⟨b, rfl, q _ G1 C1 H1 _ f1 w1 (.bl _) h1⟩
theorem ev_if (h : EvB K t env C fun b C1 => (b = true → Ev K ta env C1 k) ∧ (b = false → Ev K tb env C1 k)) : Ev K (tIf t ta tb) env C k := fun G σ H Q w er q => h G σ H _ w er fun b G1 C1 H1 f1 w1 hb => by
  cases b with
  | true => exact iteT (hb.1 rfl G1 σ H1 Q w1 (er.mono f1.exG) (q.after f1))
  | false => exact iteF (hb.2 rfl G1 σ H1 Q w1 (er.mono f1.exG) (q.after f1))
theorem ea_nil (h : ka [] C) : EvA K tNil env C ka := fun G σ H Q w er q => q [] G C H [] (Fr.refl ..) w .nil h
theorem ea_cons (h : Ev K ta env C fun x C1 => EvA K tr env C1 fun ds C2 => ka (x :: ds) C2) : EvA K (tCons ta tr) env C ka := fun G σ H Q w er q =>
  h G σ H _ w er fun v G1 C1 H1 x f1 w1 d1 hb => hb G1 σ H1 _ w1 (er.mono f1.exG) fun vs G2 C2 H2 ds f2 w2 d2 hp => q (v :: vs) G2 C2 H2 (x :: ds) (f1.trans f2) w2 (.cons (d1.mono f2.exG) d2) hp
theorem ev_tup (h : EvA K tr env C fun ds C1 => ds.length ≤ sizeLine ∧ k (.tup ds) C1) : Ev K (tTup tr) env C k := fun G σ H Q w er q =>
  h G σ H _ w er fun vs G1 C1 H1 ds f1 w1 d1 hb => ⟨by rw [d1.length]; exact hb.1, fun p hp => by
    obtain ⟨w2, f2, s2⟩ := w1.newG hp (.tup vs)
    exact q _ _ _ _ _ (f1.trans f2) w2 (.tup (SqT.of upd_same) (d1.mono s2)) hb.2⟩
theorem ev_lst (h : EvA K tr env C fun ds C1 => ds.length ≤ sizeLine ∧ ∀ p, C1 p = none → k (.own p) (put C1 p (.lst ds))) : Ev K (tLst tr) env C k := fun G σ H Q w er q =>
  h G σ H _ w er fun vs G1 C1 H1 ds f1 w1 d1 hb => ⟨by rw [d1.length]; exact hb.1, fun p hp => by
    obtain ⟨w2, f2⟩ := w1.newC hp (o := .lst vs) (c := .lst ds) fun H' e => ⟨vs, e, d1⟩
    exact q _ _ _ _ _ (f1.trans f2) w2 (.own p) (hb.2 p (w1.ne hp).2)⟩
theorem ev_lstF (h : EvA K tr env C fun ds C1 => ds.length ≤ sizeLine ∧ k (.lst ds) C1) : Ev K (tLst tr) env C k := fun G σ H Q w er q =>
  h G σ H _ w er fun vs G1 C1 H1 ds f1 w1 d1 hb => ⟨by rw [d1.length]; exact hb.1, fun p hp => by
    obtain ⟨w2, f2, s2⟩ := w1.newG hp (.lst vs)
    exact q _ _ _ _ _ (f1.trans f2) w2 (.lst upd_same (d1.mono s2)) hb.2⟩
/-- a list that an expression gives is frozen -/
theorem ev_frz (h : Ev K te env C fun d C1 => ∃ ds, seqL C1 d = some ds ∧ ((∃ a, d = .own a ∧ k (.lst ds) (del C1 a)) ∨ (d = .lst ds ∧ k (.lst ds) C1))) : Ev K te env C k := fun G σ H Q w er q =>
  h G σ H _ w er fun v G1 C1 H1 d f1 w1 d1 hb => by
    obtain ⟨ds, e, h2⟩ := hb
    rcases h2 with ⟨a, rfl, h2⟩ | ⟨rfl, h2⟩
    · cases d1
      obtain ⟨G2, w2, f2, r2⟩ := w1.freeze (own_seqL e)
      exact q _ _ _ _ _ (f1.trans f2) w2 r2 h2
    · exact q _ _ _ _ _ f1 w1 d1 h2
end

/-! ### names, constants -/
section
variable {X : Cx} {e a b : Expr} {es : List Expr} {env : DEnv} {C : CS} {k : KD} {kb : Bool → CS → Prop} {ka : List D → CS → Prop} {pos : Pos}
theorem we_var {i : Nat} {x : Str} {d : D} (hN : X.N[i]? = some x) (hv : Vis X.env.scope x) (he : env[i]? = some (some d)) (h : k d C) (hd : (x == ("__debug__" : Str)) = false := by decide) (hcd : (x == ("__classdict__" : Str)) = false := by decide) : WE X (.Name x pos) env C k :=
  .of (pe_var hN hv hd hcd) fun G σ H Q w er q => by
    obtain ⟨v, h1, h2⟩ := er.2 i d he
    exact ⟨v, h1, q v G C H d (Fr.refl ..) w h2 h⟩
theorem we_int {i j} (h : k (.int i) C) : WE X (.Constant (.int i) j pos) env C k := .of pe_int fun G σ H Q w er q => q _ G C H _ (Fr.refl ..) w (.int i) h
theorem we_bl {b j} (h : k (.bl b) C) : WE X (.Constant (.bool b) j pos) env C k := .of pe_bl fun G σ H Q w er q => q _ G C H _ (Fr.refl ..) w (.bl b) h
theorem we_non {j} (h : k .non C) : WE X (.Constant .none j pos) env C k := .of pe_non fun G σ H Q w er q => q _ G C H _ (Fr.refl ..) w .non h
theorem we_str {x j} (h : k (.str x) C) : WE X (.Constant (.str x) j pos) env C k := .of pe_str fun G σ H Q w er q => q _ G C H _ (Fr.refl ..) w (.str x) h
/-- a constant of the module -/
def MgD (X : Cx) (x : Str) (d : D) : Prop := ∃ u v, X.mg x = some u ∧ RelV v u ∧ ∀ G, Dat X.K G v d
theorem we_glob {x : Str} {d : D} (hm : MgD X x d) (hg : Gl X x) (h : k d C) (hd : (x == ("__debug__" : Str)) = false := by decide) : WE X (.Name x pos) env C k := by
  obtain ⟨u, v, h1, h2, h3⟩ := hm
  exact .of (pe_glob hg h1 h2 hd) fun G σ H Q w er q => q _ G C H _ (Fr.refl ..) w (h3 G) h
/-- the name of a built-in class -/
theorem we_bty {x : Str} {T : String} (hm : X.mg x = none) (hg : Gl X x) (hv : bootBuiltins x = some (.type T)) (h : k (.opq (.ty T)) C) (hn : x ≠ "__name__" := by decide) (hd : (x == ("__debug__" : Str)) = false := by decide) : WE X (.Name x pos) env C k :=
  .of (pe_bltn hg hm hv (v := .ty T) rfl hn hd) fun G σ H Q w er q => q _ G C H _ (Fr.refl ..) w (.opq _) h

theorem we_op {op : Operator} {r : R2} {p : OpD} (ho : OpR X (binaryOp op) r) (hr : R2D X.K r p) (h : WE X a env C fun x C1 => WE X b env C1 fun y C2 => p x y C2 k) : WE X (.BinOp a op b pos) env C k := .of (pe_op ho pe_tS pe_tS) (ev_op hr h)
theorem we_un {op : UnaryOp} {r : V → Hp → VK → Prop} {p : D → CS → KD → Prop} (ho : UnR X (unaryOp op) r) (hr : R1D X.K r p) (h : WE X a env C fun x C1 => p x C1 k) : WE X (.UnaryOp op a pos) env C k := .of (pe_un ho pe_tS) (ev_un hr h)
theorem we_cmp {op : CmpOp} {r : R2} {p : OpD} (ho : OpR X (compareOp op) r) (hr : R2D X.K r p) (h : WE X a env C fun x C1 => WE X b env C1 fun y C2 => p x y C2 k) (hm : behindInMarks op b = false) : WE X (.Compare a [op] [b] pos) env C k := .of (pe_cmpR ho pe_tS pe_tS hm) (ev_op hr h)
theorem wt_cmp {op : CmpOp} {r : R2} {p : OpD} (ho : OpR X (compareOp op) r) (hr : R2D X.K r p) (h : WE X a env C fun x C1 => WE X b env C1 fun y C2 => p x y C2 fun d C3 => ∃ t, d = .bl t ∧ kb t C3) (hm : behindInMarks op b = false) : WT X (.Compare a [op] [b] pos) env C kb := .of (pt_cmpR ho pe_tS pe_tS hm) (eb_test (ev_op hr h))
theorem wt_val (h : WE X e env C fun d C1 => ∃ t, d = .bl t ∧ kb t C1) (he : ∀ whole, isTrue e X.env whole = (do let v ← whole; standAt e.pos; holding [v] (truthy v)) := by intro _; rfl) : WT X e env C kb := .of (pt_val pe_tS he) (eb_B h)
theorem wt_not (h : WT X a env C fun t C1 => kb (!t) C1) : WT X (.UnaryOp .Not a pos) env C kb := .of (pt_not pt_tT) (eb_not h)
theorem wt_ww (h : WW X e env C kb) : WT X e env C kb := .of (PW.pt pw_tW) h
theorem ww_and1 (h : WT X a env C kb) : WW X (.BoolOp .And [a] pos) env C kb := .of (pw_and1 pt_tT) h
theorem ww_or1 (h : WT X a env C kb) : WW X (.BoolOp .Or [a] pos) env C kb := .of (pw_or1 pt_tT) h
theorem ww_and {rest : List Expr} (h : WT X a env C fun t C1 => (t = true → WW X (.BoolOp .And (b :: rest) pos) env C1 kb) ∧ (t = false → kb false C1)) : WW X (.BoolOp .And (a :: b :: rest) pos) env C kb := .of (pw_and pt_tT pw_tW) (eb_and2 h)
theorem ww_or {rest : List Expr} (h : WT X a env C fun t C1 => (t = true → kb true C1) ∧ (t = false → WW X (.BoolOp .Or (b :: rest) pos) env C1 kb)) : WW X (.BoolOp .Or (a :: b :: rest) pos) env C kb := .of (pw_or pt_tT pw_tW) (eb_or2 h)
theorem we_one {op} (h : WE X a env C k) : WE X (.BoolOp op [a] pos) env C k := .of (pe_one pe_tS) h
theorem we_and {rest : List Expr} (h : WE X a env C fun x C1 => ∃ t, x = .bl t ∧ (t = true → WE X (.BoolOp .And (b :: rest) pos) env C1 k) ∧ (t = false → k (.bl false) C1)) : WE X (.BoolOp .And (a :: b :: rest) pos) env C k := .of (pe_and pe_tS pe_tS) (ev_andV h)
theorem we_or {rest : List Expr} (h : WE X a env C fun x C1 => ∃ t, x = .bl t ∧ (t = true → k (.bl true) C1) ∧ (t = false → WE X (.BoolOp .Or (b :: rest) pos) env C1 k)) : WE X (.BoolOp .Or (a :: b :: rest) pos) env C k := .of (pe_or pe_tS pe_tS) (ev_orV h)
theorem we_not (h : WE X a env C fun x C1 => ∃ t, x = .bl t ∧ k (.bl (!t)) C1) : WE X (.UnaryOp .Not a pos) env C k := .of (pe_not pe_tS) (ev_notV h)
theorem we_if {c : Expr} (h : WT X c env C fun t C1 => (t = true → WE X a env C1 k) ∧ (t = false → WE X b env C1 k)) : WE X (.IfExp c a b pos) env C k := .of (pe_ifExp pt_tT pe_tS pe_tS) (ev_if h)
theorem wa_nil (h : ka [] C) : WA X [] env C ka := .of pa_nil (ea_nil h)
theorem we_tup {x1} (h : WA X es env C fun ds C1 => ds.length ≤ sizeLine ∧ k (.tup ds) C1) : WE X (.Tuple es x1 pos) env C k := .of (pe_tup pa_tAr) (ev_tup h)
theorem we_lst (h : WA X es env C fun ds C1 => ds.length ≤ sizeLine ∧ ∀ p, C1 p = none → k (.own p) (put C1 p (.lst ds))) : WE X (.List es pos) env C k := .of (pe_lst pa_tAr) (ev_lst h)
theorem we_lstF (h : WA X es env C fun ds C1 => ds.length ≤ sizeLine ∧ k (.lst ds) C1) : WE X (.List es pos) env C k := .of (pe_lst pa_tAr) (ev_lstF h)
theorem we_frz (h : WE X e env C fun d C1 => ∃ ds, seqL C1 d = some ds ∧ ((∃ a, d = .own a ∧ k (.lst ds) (del C1 a)) ∨ (d = .lst ds ∧ k (.lst ds) C1))) : WE X e env C k := ev_frz h
end
end DL
/-! DLd: operators, subscripts, built-in calls and methods by data; statements; loops; calls of defs. -/
namespace DL
open PySem PySem.Spec PyProof.Rows L2

section
variable {K : PySem.W.Frag}
/-! ### operators -/
def dI2 (f : Int → Int → Int) (P : Int → Int → Prop) : OpD := fun x y C k => ∃ i j, x = .int i ∧ y = .int j ∧ P i j ∧ k (.int (f i j)) C
theorem r2_I {f : Int → Int → Int} {P : Int → Int → Prop} : R2D K (rI P fun i j => .int (f i j)) (dI2 f P) := by
  rintro x y a b G C H k Q w da db ⟨i, j, rfl, rfl, hp, hk⟩ q
  cases da; cases db
  exact ⟨i, j, rfl, rfl, hp, q _ _ _ _ _ (Fr.refl ..) w (.int _) hk⟩
theorem r2_I0 {f : Int → Int → Int} : R2D K (rI0 fun i j => .int (f i j)) (dI2 f fun _ _ => True) := by
  rintro x y a b G C H k Q w da db ⟨i, j, rfl, rfl, hp, hk⟩ q
  cases da; cases db
  exact ⟨i, j, rfl, rfl, q _ _ _ _ _ (Fr.refl ..) w (.int _) hk⟩
def dB2 (f : Int → Int → Bool) : OpD := fun x y C k => ∃ i j, x = .int i ∧ y = .int j ∧ k (.bl (f i j)) C
theorem r2_B {f : Int → Int → Bool} : R2D K (rI0 fun i j => .bl (f i j)) (dB2 f) := by
  rintro x y a b G C H k Q w da db ⟨i, j, rfl, rfl, hk⟩ q
  cases da; cases db
  exact ⟨i, j, rfl, rfl, q _ _ _ _ _ (Fr.refl ..) w (.bl _) hk⟩
/-- + of ints, texts, tuples, lists -/
def dAdd : OpD := fun x y C k => match x, y with
  | .int i, .int j => k (.int (i + j)) C
  | .str a, .str b => a.length + b.length ≤ sizeLine ∧ k (.str (a ++ b)) C
  | .tup xs, .tup ys => xs.length + ys.length ≤ sizeLine ∧ k (.tup (xs ++ ys)) C
  | x, y => ∃ xs ys, seqL C x = some xs ∧ seqL C y = some ys ∧ xs.length + ys.length ≤ sizeLine ∧ ∀ p, C p = none → k (.own p) (put C p (.lst (xs ++ ys)))
def rAddA (K : PySem.W.Frag) : R2 := fun x y H Q => (∃ i j, x = .int i ∧ y = .int j ∧ Q (.int (i + j)) H) ∨ (∃ i j, x = .str i ∧ y = .str j ∧ i.length + j.length ≤ sizeLine ∧ Q (.str (i ++ j)) H) ∨ rCatA K x y H Q ∨ rCat x y H Q
theorem op_addA {X : Cx} : OpR X (binaryOp .Add) (rAddA X.K) := OpR.or op_add (OpR.or op_add_str (OpR.or op_catA op_cat))
theorem seqL_ints {C : CS} {x : D} {xs : List D} (h : seqL C x = some xs) : (∀ i, x ≠ .int i) ∧ (∀ s, x ≠ .str s) ∧ ∀ ts, x ≠ .tup ts := by
  refine ⟨fun i e => ?_, fun i e => ?_, fun i e => ?_⟩ <;> (subst e; simp [seqL] at h)
theorem catL {x y : V} {a b : D} {xs ys : List D} {G : Hp} {C : CS} {H : Hp} {k : KD} {Q : VK} (w : Wld K G C H) (da : Dat K G x a) (db : Dat K G y b) (e1 : seqL C a = some xs) (e2 : seqL C b = some ys) (hl : xs.length + ys.length ≤ sizeLine)
    (hk : ∀ p, C p = none → k (.own p) (put C p (.lst (xs ++ ys)))) (q : Kont K G C H k Q) : rCat x y H Q := by
  obtain ⟨l, vs, rfl, h1, r1⟩ := w.lst da e1
  obtain ⟨m, us, rfl, h2, r2⟩ := w.lst db e2
  refine ⟨l, m, vs, us, rfl, rfl, h1, h2, by rw [r1.length, r2.length]; exact hl, fun p hp => ?_⟩
  obtain ⟨w2, f2⟩ := w.newC hp (o := .lst (vs ++ us)) (c := .lst (xs ++ ys)) fun H' e => ⟨_, e, r1.append r2⟩
  exact q _ _ _ _ _ f2 w2 (.own p) (hk p (w.ne hp).2)
theorem r2_add : R2D K (rAddA K) dAdd := by
  intro x y a b G C H k Q w da db h q
  unfold dAdd at h
  split at h
  · cases da; cases db
    exact .inl ⟨_, _, rfl, rfl, q _ _ _ _ _ (Fr.refl ..) w (.int _) h⟩
  · cases da; cases db
    exact .inr (.inl ⟨_, _, rfl, rfl, h.1, q _ _ _ _ _ (Fr.refl ..) w (.str _) h.2⟩)
  · rename_i xs ys
    obtain ⟨l, vs, rfl, h1, r1⟩ := w.tup da
    obtain ⟨m, us, rfl, h2, r2⟩ := w.tup db
    refine .inr (.inr (.inl ⟨l, m, vs, us, rfl, rfl, h1, h2, by rw [r1.length, r2.length]; exact h.1, fun e => ?_, fun _ e => ?_, fun _ _ p hp => ?_⟩))
    · subst e; cases xs with
      | nil => exact q _ _ _ _ _ (Fr.refl ..) w db h.2
      | cons _ _ => cases r1
    · subst e; cases ys with
      | nil => exact q _ _ _ _ _ (Fr.refl ..) w da (by simpa using h.2)
      | cons _ _ => cases r2
    · obtain ⟨w2, f2, s2⟩ := w.newG hp (.tup (vs ++ us))
      exact q _ _ _ _ _ f2 w2 (.tup (SqT.of upd_same) ((r1.append r2).mono s2)) h.2
  · obtain ⟨xs, ys, e1, e2, hl, hk⟩ := h
    exact .inr (.inr (.inr (catL w da db e1 e2 hl hk q)))
theorem add_lst {x y : D} {C : CS} {k : KD} {xs ys : List D} (e1 : seqL C x = some xs) (e2 : seqL C y = some ys) (hl : xs.length + ys.length ≤ sizeLine) (h : ∀ p, C p = none → k (.own p) (put C p (.lst (xs ++ ys)))) : dAdd x y C k := by
  obtain ⟨n1, n2, n3⟩ := seqL_ints e1
  unfold dAdd
  split
  · exact absurd rfl (n1 _)
  · exact absurd rfl (n2 _)
  · exact absurd rfl (n3 _)
  · exact ⟨xs, ys, e1, e2, hl, h⟩
/-- * of ints; a list by an int -/
def dMul : OpD := fun x y C k => match x, y with
  | .int i, .int j => CMul i j ∧ k (.int (i * j)) C
  | x, .int n => ∃ xs, seqL C x = some xs ∧ -(2 ^ 63) ≤ n ∧ n < 2 ^ 63 ∧ xs.length * n.toNat ≤ sizeLine ∧ ∀ p, C p = none → k (.own p) (put C p (.lst (List.replicate n.toNat xs).flatten))
  | _, _ => False
theorem datAll_rep {G : Hp} {vs : List V} {ds : List D} (r : DatAll K G vs ds) : ∀ n : Nat, DatAll K G (List.replicate n vs).flatten (List.replicate n ds).flatten
  | 0 => .nil
  | n + 1 => by
    rw [List.replicate_succ, List.replicate_succ, List.flatten_cons, List.flatten_cons]
    exact r.append (datAll_rep r n)
def rMulA : R2 := fun x y H Q => rI CMul (fun i j => .int (i * j)) x y H Q ∨ rRep x y H Q
theorem op_mulA {X : Cx} : OpR X (binaryOp .Mult) rMulA := OpR.or op_mul op_rep
theorem r2_mul : R2D K rMulA dMul := by
  intro x y a b G C H k Q w da db h q
  unfold dMul at h
  split at h
  · cases da; cases db
    exact .inl ⟨_, _, rfl, rfl, h.1, q _ _ _ _ _ (Fr.refl ..) w (.int _) h.2⟩
  · obtain ⟨xs, e, h1, h2, h3, h4⟩ := h
    obtain ⟨l, vs, rfl, hH, r1⟩ := w.lst da e
    cases db
    refine .inr ⟨l, _, vs, rfl, rfl, hH, h1, h2, by rw [r1.length]; exact h3, fun p hp => ?_⟩
    obtain ⟨w2, f2⟩ := w.newC hp (o := .lst _) (c := .lst _) fun H' e => ⟨_, e, datAll_rep r1 _⟩
    exact q _ _ _ _ _ f2 w2 (.own p) (h4 p (w.ne hp).2)
  · exact h.elim

/-! ### comparisons -/
def dEq0 (neg : Bool) : OpD := fun x y C k => ∃ a b, pyC C x = some a ∧ pyC C y = some b ∧ SeqAt.shaped a = true ∧ SeqAt.shaped b = true ∧ k (.bl (if neg = true then !PyData.eqv a b else PyData.eqv a b)) C
theorem r2_eq0 : R2D K (rEqD K) (dEq0 false) := by
  rintro x y a b G C H k Q w da db ⟨d, e, h1, h2, h3, h4, h5⟩ q
  exact ⟨d, e, w.dp da h1, w.dp db h2, h3, h4, q _ _ _ _ _ (Fr.refl ..) w (.bl _) h5⟩
theorem r2_ne0 : R2D K (rNeD K) (dEq0 true) := by
  rintro x y a b G C H k Q w da db ⟨d, e, h1, h2, h3, h4, h5⟩ q
  exact ⟨d, e, w.dp da h1, w.dp db h2, h3, h4, q _ _ _ _ _ (Fr.refl ..) w (.bl _) h5⟩
/-- .. of texts, whatever their signs -/
def dEqS (neg : Bool) : OpD := fun x y C k => ∃ s t, x = .str s ∧ y = .str t ∧ k (.bl (if neg = true then !(s == t) else s == t)) C
def dEq (neg : Bool) : OpD := fun x y C k => dEq0 neg x y C k ∨ dEqS neg x y C k
theorem dec_st {s t : Str} : decide (V.str s = V.str t) = (s == t) := by
  by_cases h : s = t
  · subst h; simp
  · simp [h]
theorem r2_eq : R2D K (fun x y H Q => rEqD K x y H Q ∨ rEq x y H Q) (dEq false) := by
  rintro x y a b G C H k Q w da db (h | ⟨s, t, rfl, rfl, h⟩) q
  · exact .inl (r2_eq0 x y a b G C H k Q w da db h q)
  · cases da; cases db
    refine .inr ⟨rfl, ?_⟩
    rw [dec_st]
    exact q _ _ _ _ _ (Fr.refl ..) w (.bl _) h
theorem r2_ne : R2D K (fun x y H Q => rNeD K x y H Q ∨ rNe x y H Q) (dEq true) := by
  rintro x y a b G C H k Q w da db (h | ⟨s, t, rfl, rfl, h⟩) q
  · exact .inl (r2_ne0 x y a b G C H k Q w da db h q)
  · cases da; cases db
    refine .inr ⟨rfl, ?_⟩
    rw [dec_st]
    exact q _ _ _ _ _ (Fr.refl ..) w (.bl _) h
/-- is None -/
def dIsN (neg : Bool) : OpD := fun x y C k => y = .non ∧ match x with
  | .opq _ => False
  | .non => k (.bl (!neg)) C
  | _ => k (.bl neg) C
theorem r2_isN : R2D K (fun x y H Q => y = .non ∧ Q (.bl (decide (x = .non))) H) (dIsN false) := by
  rintro x y a b G C H k Q w da db ⟨rfl, h⟩ q
  cases db
  refine ⟨rfl, ?_⟩
  cases da <;> first | exact h.elim | exact q _ _ _ _ _ (Fr.refl ..) w (.bl _) h
theorem r2_notN : R2D K (fun x y H Q => y = .non ∧ Q (.bl (!decide (x = .non))) H) (dIsN true) := by
  rintro x y a b G C H k Q w da db ⟨rfl, h⟩ q
  cases db
  refine ⟨rfl, ?_⟩
  cases da <;> first | exact h.elim | exact q _ _ _ _ _ (Fr.refl ..) w (.bl _) h
/-- in, not in: a list of data; one sign in a text -/
def dInL (neg : Bool) : OpD := fun x y C k => ∃ a ds, pyC C x = some a ∧ pyC C y = some (.list ds) ∧ SeqAt.shaped a = true ∧ SeqAt.shaped (.list ds) = true ∧ k (.bl (if neg = true then !ds.any fun z => PyData.eqv z a else ds.any fun z => PyData.eqv z a)) C
theorem r2_inL : R2D K (rInD K) (dInL false) := by
  rintro x y a b G C H k Q w da db ⟨d, e, h1, h2, h3, h4, h5⟩ q
  exact ⟨d, e, w.dp da h1, w.dp db h2, h3, h4, q _ _ _ _ _ (Fr.refl ..) w (.bl _) h5⟩
theorem r2_ninL : R2D K (rNotInD K) (dInL true) := by
  rintro x y a b G C H k Q w da db ⟨d, e, h1, h2, h3, h4, h5⟩ q
  exact ⟨d, e, w.dp da h1, w.dp db h2, h3, h4, q _ _ _ _ _ (Fr.refl ..) w (.bl _) h5⟩
def dInS (neg : Bool) : OpD := fun x y C k => ∃ (c : Nat) (z : Str), x = .str ⟨#[c]⟩ ∧ y = .str z ∧ k (.bl (if neg = true then !decide (c ∈ z.cps.toList) else decide (c ∈ z.cps.toList))) C
theorem r2_inS : R2D K (fun x y H Q => ∃ (c : Nat) (z : Str), x = .str ⟨#[c]⟩ ∧ y = .str z ∧ Q (.bl (decide (c ∈ z.cps.toList))) H) (dInS false) := by
  rintro x y a b G C H k Q w da db ⟨c, z, rfl, rfl, h⟩ q
  cases da; cases db
  exact ⟨c, z, rfl, rfl, q _ _ _ _ _ (Fr.refl ..) w (.bl _) h⟩
theorem r2_ninS : R2D K (fun x y H Q => ∃ (c : Nat) (z : Str), x = .str ⟨#[c]⟩ ∧ y = .str z ∧ Q (.bl (!decide (c ∈ z.cps.toList))) H) (dInS true) := by
  rintro x y a b G C H k Q w da db ⟨c, z, rfl, rfl, h⟩ q
  cases da; cases db
  exact ⟨c, z, rfl, rfl, q _ _ _ _ _ (Fr.refl ..) w (.bl _) h⟩

/-! ### subscripts -/
def dIx : OpD := fun x y C k => match x, y with
  | .tup xs, .int i => ∃ d, atI xs i = some d ∧ k d C
  | .str z, .int i => z.length ≤ sizeLine ∧ ∃ c, atI z.cps.toList i = some c ∧ k (.str ⟨#[c]⟩) C
  | x, .int i => ∃ xs d, seqR C x = some xs ∧ atI xs i = some d ∧ k d C
  | _, _ => False
theorem datAll_at {G : Hp} {vs : List V} {ds : List D} {i : Int} {d : D} (r : DatAll K G vs ds) (h : atI ds i = some d) : ∃ v, atI vs i = some v ∧ Dat K G v d := by
  unfold atI at h ⊢
  rw [r.length]
  cases q : ixN ds.length i with
  | none => rw [q] at h; cases h
  | some j =>
    rw [q] at h
    exact r.get (show ds[j]? = some d from h)
theorem r2_ix : R2D K (rIx K) dIx := by
  intro x y a b G C H k Q w da db h q
  unfold dIx at h
  split at h
  · obtain ⟨d, h1, h2⟩ := h
    obtain ⟨l, vs, rfl, h3, r1⟩ := w.tup da
    cases db
    obtain ⟨v, h4, h5⟩ := datAll_at r1 h1
    exact .inr (.inl ⟨l, vs, _, v, rfl, rfl, h3, h4, q _ _ _ _ _ (Fr.refl ..) w h5 h2⟩)
  · obtain ⟨hz, c, h1, h2⟩ := h
    cases da; cases db
    exact .inr (.inr ⟨_, _, c, rfl, rfl, hz, h1, q _ _ _ _ _ (Fr.refl ..) w (.str _) h2⟩)
  · obtain ⟨xs, d, e, h1, h2⟩ := h
    obtain ⟨l, vs, rfl, h3, r1⟩ := w.seq da e
    cases db
    obtain ⟨v, h4, h5⟩ := datAll_at r1 h1
    exact .inl ⟨l, vs, _, v, rfl, rfl, h3, h4, q _ _ _ _ _ (Fr.refl ..) w h5 h2⟩
  · exact h.elim
theorem ix_lst {x : D} {i : Int} {C : CS} {k : KD} {xs : List D} {d : D} (e : seqR C x = some xs) (h : atI xs i = some d) (hk : k d C) : dIx x (.int i) C k := by
  cases x <;> first | exact ⟨xs, d, e, h, hk⟩ | (simp [seqR] at e)

def cutD (xs : List D) (lo hi : Option Int) : List D := (xs.drop (HT.sIx xs.length 0 lo)).take (HT.sIx xs.length xs.length hi - HT.sIx xs.length 0 lo)
theorem cut_datAll {G : Hp} {vs : List V} {ds : List D} (r : DatAll K G vs ds) (lo hi : Option Int) : DatAll K G (cutV vs lo hi) (cutD ds lo hi) := by
  unfold cutV cutD
  rw [r.length]
  exact (r.drop _).take _
def dSl (x : D) (lo hi : Option Int) (C : CS) (k : KD) : Prop := match x with
  | .tup xs => k (.tup (cutD xs lo hi)) C
  | .str z => z.length ≤ sizeLine ∧ k (.str (cutS z lo hi)) C
  | x => ∃ xs, seqR C x = some xs ∧ ∀ p, C p = none → k (.own p) (put C p (.lst (cutD xs lo hi)))
theorem sl_lst {x : D} {lo hi : Option Int} {C : CS} {k : KD} {xs : List D} (e : seqR C x = some xs) (h : ∀ p, C p = none → k (.own p) (put C p (.lst (cutD xs lo hi)))) : dSl x lo hi C k := by
  unfold dSl
  split
  · simp [seqR] at e
  · simp [seqR] at e
  · exact ⟨xs, e, h⟩
def rSlAll (K : PySem.W.Frag) : V → Option Int → Option Int → Hp → VK → Prop := fun x lo hi H Q => rSlL K x lo hi H Q ∨ (rSlS x lo hi H Q ∨ rSlA K x lo hi H Q)
theorem sl_all {X : Cx} : SlR X (rSlAll X.K) := SlR.or sl_list (SlR.or sl_str sl_tupA)
theorem sl_ok {x : V} {a : D} {lo hi : Option Int} {G : Hp} {C : CS} {H : Hp} {k : KD} {Q : VK} (w : Wld K G C H) (da : Dat K G x a) (h : dSl a lo hi C k) (q : Kont K G C H k Q) : rSlAll K x lo hi H Q := by
  unfold dSl at h
  split at h
  · rename_i xs
    obtain ⟨l, vs, rfl, h3, r1⟩ := w.tup da
    refine .inr (.inr ⟨l, vs, rfl, h3, fun e => ?_, fun _ p hp => ?_⟩)
    · rw [r1.length] at e
      have : cutD xs lo hi = xs := by
        unfold cutD
        rw [e.1, e.2]
        simp
      rw [this] at h
      exact q _ _ _ _ _ (Fr.refl ..) w da h
    · obtain ⟨w2, f2, s2⟩ := w.newG hp (.tup (cutV vs lo hi))
      exact q _ _ _ _ _ f2 w2 (.tup (SqT.of upd_same) ((cut_datAll r1 lo hi).mono s2)) h
  · cases da
    exact .inr (.inl ⟨_, rfl, h.1, q _ _ _ _ _ (Fr.refl ..) w (.str _) h.2⟩)
  · obtain ⟨xs, e, h⟩ := h
    obtain ⟨l, vs, rfl, h3, r1⟩ := w.seq da e
    refine .inl ⟨l, vs, rfl, h3, fun p hp => ?_⟩
    obtain ⟨w2, f2⟩ := w.newC hp (o := .lst (cutV vs lo hi)) (c := .lst (cutD xs lo hi)) fun H' e => ⟨_, e, cut_datAll r1 lo hi⟩
    exact q _ _ _ _ _ f2 w2 (.own p) (h p (w.ne hp).2)
end
section
variable {X : Cx} {e a b : Expr} {es : List Expr} {env : DEnv} {C : CS} {k : KD} {kb : Bool → CS → Prop} {ka : List D → CS → Prop} {pos : Pos}
theorem we_ix (h : WE X a env C fun x C1 => WE X b env C1 fun y C2 => dIx x y C2 k) (hs : PlainIx b := by intro _ _; rfl) : WE X (.Subscript a b pos) env C k := .of (pe_ix ix_seq pe_tS pe_tS hs) (ev_op r2_ix h)
/-- a part of a slice -/
def WO (X : Cx) (e : Option Expr) (env : DEnv) (C : CS) (k : Option Int → CS → Prop) : Prop := match e with
  | none => k none C
  | some e => WE X e env C fun d C1 => ∃ i, d = .int i ∧ k (some i) C1
def tO (X : Cx) (e : Option Expr) : TO := match e with
  | none => tNoPart
  | some e => tPart (tS X e)
theorem po_tO {o : Option Expr} : PO X o (tO X o) := by
  cases o with
  | none => exact po_none
  | some e => exact po_some pe_tS
theorem wo_use {o : Option Expr} {ko : Option Int → CS → Prop} (h : WO X o env C ko) {G : Hp} {σ : L2.St} {H : Hp} {Q : Option Int → Hp → Prop} (w : Wld X.K G C H) (er : EnvR X.K G env σ) (q : ∀ i G' C' H', Fr G C H G' C' H' → Wld X.K G' C' H' → ko i C' → Q i H') : tO X o σ H Q := by
  cases o with
  | none => exact q none G C H (Fr.refl ..) w h
  | some e =>
    refine h G σ H _ w er fun v G' C' H' d f w' r z => ?_
    obtain ⟨i, rfl, z⟩ := z
    cases r
    exact ⟨i, rfl, q _ _ _ _ f w' z⟩
theorem we_slice {lo hi : Option Expr} {p2 : Pos} (h : WE X a env C fun x C1 => WO X lo env C1 fun l C2 => WO X hi env C2 fun u C3 => dSl x l u C3 k) : WE X (.Subscript a (.Slice lo hi none p2) pos) env C k :=
  .of (pe_slice sl_all pe_tS po_tO po_tO) fun G σ H Q w er q => h G σ H _ w er fun v G1 C1 H1 x f1 w1 d1 h1 =>
    wo_use h1 w1 (er.mono f1.exG) fun l G2 C2 H2 f2 w2 h2 => wo_use h2 w2 (er.mono (f1.trans f2).exG) fun u G3 C3 H3 f3 w3 h3 =>
      sl_ok w3 (d1.mono (f2.trans f3).exG) h3 (q.after ((f1.trans f2).trans f3))
theorem wa_cons (h : WE X e env C fun x C1 => WA X es env C1 fun ds C2 => ka (x :: ds) C2) (hs : starEach (e :: es) X.env = (false, eval e X.env) :: starEach es X.env := by rfl) : WA X (e :: es) env C ka := .of (pa_cons pe_tS pa_tAr hs) (ea_cons h)

/-! ### built-in calls -/
theorem we_cb {x : Str} {id : String} {p0 : Pos} {r : List V → Hp → VK → Prop} {p : List D → CS → KD → Prop} (hm : X.mg x = none) (hc : CallR X (.builtin id) r) (hr : RLD X.K r p) (hg : Gl X x) (hv : bootBuiltins x = some (.builtin id)) (h : WA X (e :: es) env C fun ds C1 => p ds C1 k)
    (hn : x ≠ "__name__" := by decide) (hdb : (x == ("__debug__" : Str)) = false := by decide)
    (he : starEach (e :: es) X.env = (false, eval e X.env) :: starEach es X.env := by rfl) (hpl : (backTo pos (starEach es X.env)).any (·.1) = false := by rfl) : WE X (.Call (.Name x p0) (e :: es) [] pos) env C k :=
  .of (pe_callB hc hg hm hv pa_tAr hn hdb he hpl) (ev_cb hr h)
theorem we_ct {x : Str} {T : String} {p0 : Pos} {r : List V → Hp → VK → Prop} {p : List D → CS → KD → Prop} (hm : X.mg x = none) (hc : CallR X (.type T) r) (hr : RLD X.K r p) (hg : Gl X x) (hv : bootBuiltins x = some (.type T)) (h : WA X (e :: es) env C fun ds C1 => p ds C1 k)
    (hn : x ≠ "__name__" := by decide) (hdb : (x == ("__debug__" : Str)) = false := by decide)
    (he : starEach (e :: es) X.env = (false, eval e X.env) :: starEach es X.env := by rfl) (hpl : (backTo pos (starEach es X.env)).any (·.1) = false := by rfl) : WE X (.Call (.Name x p0) (e :: es) [] pos) env C k :=
  .of (pe_callTy hc hg hm hv pa_tAr hn hdb he hpl) (ev_cb hr h)
end
end DL
/-! DLe: statements, loops, comprehensions, calls of defs. -/
namespace DL
open PySem PySem.Spec PyProof.Rows L2

section
variable {X : Cx} {e a b : Expr} {es : List Expr} {st : Stmt} {sts rest : List Stmt} {env : DEnv} {C : CS} {k : KD} {kb : Bool → CS → Prop} {ka : List D → CS → Prop} {pos : Pos} {E : DEnds}

/-! ### statements -/
theorem wss_nil (h : E.nx env C) : WSs X [] env C E := .of pss_nil fun G σ H D w er q => q.nx G C H σ env (Fr.refl ..) w er h
theorem wss_cons (h : WS X st env C { E with nx := fun env' C' => WSs X rest env' C' E }) : WSs X (st :: rest) env C E :=
  .of (pss_cons ps_tX pss_tXs) fun G σ H D w er q => h G σ H { D with nx := tXs X rest D } w er
    ⟨fun G1 C1 H1 σ1 env1 f1 w1 er1 h1 => h1 G1 σ1 H1 D w1 er1 (q.after f1), q.rt, q.bk, q.ct⟩
theorem ws_pass (h : E.nx env C) : WS X (.Pass pos) env C E := .of ps_pass fun G σ H D w er q => q.nx G C H σ env (Fr.refl ..) w er h
theorem ws_break (h : E.bk env C) : WS X (.Break pos) env C E := .of ps_break fun G σ H D w er q => q.bk G C H σ env (Fr.refl ..) w er h
theorem ws_continue (h : E.ct env C) : WS X (.Continue pos) env C E := .of ps_continue fun G σ H D w er q => q.ct G C H σ env (Fr.refl ..) w er h
theorem ws_expr (h : WE X e env C fun _ C1 => E.nx env C1) (hs : swapsWith e none pos.line X.env = pure false := by rfl) : WS X (.Expr e pos) env C E :=
  .of (ps_expr pe_tS hs) fun G σ H D w er q => h G σ H _ w er fun v G1 C1 H1 d f1 w1 r1 z => q.nx G1 C1 H1 σ env f1 w1 (er.mono f1.exG) z
theorem ws_ret (h : WE X e env C E.rt) : WS X (.Return (some e) pos) env C E := .of (ps_ret pe_tS) fun G σ H D w er q => h G σ H _ w er q.rt
theorem ws_retN (h : E.rt .non C) : WS X (.Return none pos) env C E := .of ps_retN fun G σ H D w er q => q.rt .non G C H .non (Fr.refl ..) w .non h
theorem ws_if {c : Expr} {s1 s2 : List Stmt} (h : WT X c env C fun t C1 => (t = true → WSs X s1 env C1 E) ∧ (t = false → WSs X s2 env C1 E)) : WS X (.If c s1 s2 pos) env C E :=
  .of (ps_if pt_tT pss_tXs pss_tXs) fun G σ H D w er q => h G σ H _ w er fun b G1 C1 H1 f1 w1 hb => by
    cases b with
    | true => exact iteT (hb.1 rfl G1 σ H1 D w1 (er.mono f1.exG) (q.after f1))
    | false => exact iteF (hb.2 rfl G1 σ H1 D w1 (er.mono f1.exG) (q.after f1))
/-- cells are forgotten, a list is frozen, ahead of a block -/
theorem wss_sub {C1 : CS} (hs : ∀ a c, C1 a = some c → C a = some c) (h : WSs X sts env C1 E) : WSs X sts env C E := fun G σ H D w er q =>
  let ⟨w1, f1⟩ := w.sub hs
  h G σ H D w1 er (q.after f1)
theorem we_sub {C1 : CS} (hs : ∀ a c, C1 a = some c → C a = some c) (h : WE X e env C1 k) : WE X e env C k := fun G σ H D w er q =>
  let ⟨w1, f1⟩ := w.sub hs
  h G σ H D w1 er (q.after f1)
/-- forgetting at the end -/
theorem we_post {C' : CS → CS} (hs : ∀ C1 a c, C' C1 a = some c → C1 a = some c) (h : WE X e env C fun d C1 => k d (C' C1)) : WE X e env C k := fun G σ H D w er q =>
  h G σ H D w er fun v G1 C1 H1 d f1 w1 r1 z => let ⟨w2, f2⟩ := w1.sub (hs C1); q v G1 (C' C1) H1 d (f1.trans f2) w2 r1 z

/-! ### targets -/
def EvG (K : PySem.W.Frag) (g : TG) (d : D) (env : DEnv) (C : CS) (k : DEnv → CS → Prop) : Prop := ∀ G σ H v Q, Wld K G C H → EnvR K G env σ → Dat K G v d → KontE K G C H k Q → g v σ H Q
def tGt (X : Cx) (target : Expr) : TG := fun v σ H Q => ∀ pins s u, Inv X pins σ H s → RelV v u → wpAny (model X.prog X.w) X.A (assign target X.env u) (fun _ s' => ∃ σ' H', Inv X pins σ' H' s' ∧ Q σ' H') X.xe s
theorem pg_tGt {tg : Expr} : PG X tg (tGt X tg) := ⟨fun pins s σ H v u Q I r h => h pins s u I r⟩
def tGts (X : Cx) (ts : List Expr) : TGs := fun vs σ H Q => ∀ pins s us, Inv X pins σ H s → Vals vs us → wpAny (model X.prog X.w) X.A (assignInOrder ((assignEach ts X.env).map (·.2)) us) (fun _ s' => ∃ σ' H', Inv X pins σ' H' s' ∧ Q σ' H') X.xe s
theorem pgs_tGts {ts : List Expr} : PGs X ts (tGts X ts) := ⟨fun pins s σ H vs us Q I r h => h pins s us I r⟩
def WG (X : Cx) (tg : Expr) (d : D) (env : DEnv) (C : CS) (k : DEnv → CS → Prop) : Prop := EvG X.K (tGt X tg) d env C k
def WGs (X : Cx) (ts : List Expr) (ds : List D) (env : DEnv) (C : CS) (k : DEnv → CS → Prop) : Prop := ∀ G σ H vs Q, Wld X.K G C H → EnvR X.K G env σ → DatAll X.K G vs ds → KontE X.K G C H k Q → tGts X ts vs σ H Q
theorem WG.of {tg : Expr} {g : TG} {d : D} {kE : DEnv → CS → Prop} (h : PG X tg g) (hv : EvG X.K g d env C kE) : WG X tg d env C kE := fun G σ H v Q w er r q pins s u I ru => h.run pins s σ H v u Q I ru (hv G σ H v Q w er r q)
theorem wg_name {i : Nat} {x : Str} {d : D} {kE : DEnv → CS → Prop} (hN : X.N.Nodup) (hi : X.N[i]? = some x) (hx : Loc X.env.scope x) (h : kE (env.set i (some d)) C) (hf : X.fn x = true ∨ X.env.scope.names.lookup x = some .local := by first | exact .inl rfl | exact .inr rfl | assumption) : WG X (.Name x pos) d env C kE :=
  .of (pg_name hN hi hx hf) fun G σ H v Q w er r q => q G C H _ _ (Fr.refl ..) w (er.set i r) h
theorem wgs_nil {kE : DEnv → CS → Prop} (h : kE env C) : WGs X [] [] env C kE := fun G σ H vs Q w er r q pins s us I ru => by
  cases r; cases ru
  exact (pgs_nil (X := X)).run pins s σ H [] [] Q I .nil ⟨rfl, q G C H σ env (Fr.refl ..) w er h⟩
theorem wgs_cons {t : Expr} {ts : List Expr} {d : D} {ds : List D} {kE : DEnv → CS → Prop} (h : WG X t d env C fun env1 C1 => WGs X ts ds env1 C1 kE) (hs : (assignEach (t :: ts) X.env).map (·.2) = assign t X.env :: (assignEach ts X.env).map (·.2) := by rfl) : WGs X (t :: ts) (d :: ds) env C kE := fun G σ H vs Q w er r q pins s us I ru => by
  cases r with
  | @cons v vr _ _ r1 r2 =>
    refine (pgs_cons (X := X) pg_tGt pgs_tGts hs).run pins s σ H (v :: vr) us Q I ru ⟨v, vr, rfl, ?_⟩
    exact h G σ H v _ w er r1 fun G1 C1 H1 σ1 env1 f1 w1 er1 h1 => h1 G1 σ1 H1 vr Q w1 er1 (r2.mono f1.exG) (q.after f1)
theorem wg_tup {ts : List Expr} {n : Nat} {ds : List D} {kE : DEnv → CS → Prop} (hc : X.calm = true) (hl : ds.length = (assignEach ts X.env).length) (h : WGs X ts ds env C kE) (hst : (assignEach ts X.env).findIdx? (·.1) = none := by rfl) : WG X (.Tuple ts n pos) (.tup ds) env C kE :=
  .of (pg_tup hc pgs_tGts rfl hst) fun G σ H v Q w er r q => by
    cases r with
    | tup h1 h2 => exact ⟨_, _, rfl, Same.sqT w.ex h1, by rw [h2.length]; exact hl, h G σ H _ Q w er h2 q⟩
theorem ws_asg {tg : Expr} (h : WE X e env C fun d C1 => WG X tg d env C1 E.nx) (hs : swapsWithSole [tg] e pos.line X.env = pure false := by rfl) (hw : swappedStores [tg] e X.env = pure none := by rfl)
    (h1 : (assignEach [tg] X.env).map (·.2) = [assign tg X.env] := by rfl) : WS X (.Assign [tg] e pos) env C E :=
  .of (ps_asg pe_tS pg_tGt hs hw h1) fun G σ H D w er q => h G σ H _ w er fun v G1 C1 H1 d f1 w1 r1 z => z G1 σ H1 v _ w1 (er.mono f1.exG) r1 (q.nx.after f1)
/-- name = value -/
theorem ws_set {i : Nat} {x : Str} {pos' : Pos} (hN : X.N.Nodup) (hi : X.N[i]? = some x) (hx : Loc X.env.scope x) (h : WE X e env C fun d C1 => E.nx (env.set i (some d)) C1) (hs : swapsWith e (some (.Name x pos')) pos.line X.env = pure false := by rfl) (hf : X.fn x = true ∨ X.env.scope.names.lookup x = some .local := by first | exact .inl rfl | exact .inr rfl | assumption) :
    WS X (.Assign [.Name x pos'] e pos) env C E :=
  .of (ps_set hN hi hx pe_tS hs hf) fun G σ H D w er q => h G σ H _ w er fun v G1 C1 H1 d f1 w1 r1 z => q.nx G1 C1 H1 _ _ f1 w1 ((er.mono f1.exG).set i r1) z
/-- a, b = x, y: two plain local names -/
theorem ws_par {i j : Nat} {x y : Str} {px py pt : Pos} {kt k2 : Nat} {pt2 : Pos} (hc : X.calm = true) (hN : X.N.Nodup) (hi : X.N[i]? = some x) (hj : X.N[j]? = some y) (hij : i ≠ j)
    (hx : X.env.scope.names.lookup x = some .local) (hy : X.env.scope.names.lookup y = some .local) (h : WA X [a, b] env C fun ds C1 => ∃ u v, ds = [u, v] ∧ E.nx ((env.set i (some u)).set j (some v)) C1)
    (hw : swappedStores [.Tuple [.Name x px, .Name y py] kt pt] (.Tuple [a, b] k2 pt2) X.env = pure (some [x, y]))
    (hs : swapsWithSole [.Tuple [.Name x px, .Name y py] kt pt] (.Tuple [a, b] k2 pt2) pos.line X.env = pure false := by rfl) :
    WS X (.Assign [.Tuple [.Name x px, .Name y py] kt pt] (.Tuple [a, b] k2 pt2) pos) env C E :=
  .of (ps_par hc hN hi hj hij hx hy pa_tAr hw hs) fun G σ H D w er q => h G σ H _ w er fun vs G1 C1 H1 ds f1 w1 r1 z => by
    obtain ⟨u, v, rfl, z⟩ := z
    cases r1 with
    | @cons u' _ _ _ r1 r2 =>
      cases r2 with
      | @cons v' _ _ _ r2 r3 =>
        cases r3
        exact ⟨u', v', rfl, q.nx G1 C1 H1 _ _ f1 w1 (((er.mono f1.exG).set i r1).set j r2) z⟩
/-- name op= value -/
def RID (K : PySem.W.Frag) (r : TIp) (p : OpD) : Prop := R2D K r p
theorem ws_aug {i : Nat} {x : Str} {op : Operator} {ti : TIp} {p : OpD} {d : D} {pos' : Pos} (hN : X.N.Nodup) (hi : X.N[i]? = some x) (hx : Loc X.env.scope x) (ho : PIp X op ti) (hr : RID X.K ti p) (he : env[i]? = some (some d)) (h : WE X e env C fun y C1 => p d y C1 fun z C2 => E.nx (env.set i (some z)) C2)
    (hf : X.fn x = true ∨ X.env.scope.names.lookup x = some .local := by first | exact .inl rfl | exact .inr rfl | assumption) : WS X (.AugAssign (.Name x pos') op e pos) env C E :=
  .of (ps_aug hN hi hx pe_tS ho hf) fun G σ H D w er q => by
    obtain ⟨v, h1, h2⟩ := er.2 i d he
    refine ⟨v, h1, ?_⟩
    exact h G σ H _ w er fun y' G1 C1 H1 y f1 w1 r1 z => hr v y' d y G1 C1 H1 _ _ w1 (h2.mono f1.exG) r1 z fun z' G2 C2 H2 z f2 w2 r2 hz => q.nx G2 C2 H2 _ _ (f1.trans f2) w2 ((er.mono (f1.trans f2).exG).set i r2) hz
/-- o[i] = value, a list -/
theorem set_ok {p : Addr} {xs : List D} {G : Hp} {H : Hp} {n : Int} {j : Nat} {x i v : V} {d : D} {Q : Hp → Prop} {K : PySem.W.Frag} (w : Wld K G C H) (hp : C p = some (.lst xs)) (hx : Dat K G x (.own p)) (hi : Dat K G i (.int n)) (hv : Dat K G v d) (hj : ixN xs.length n = some j)
    (q : ∀ H', Fr G C H G (put C p (.lst (xs.set j d))) H' → Wld K G (put C p (.lst (xs.set j d))) H' → Q H') : rSetL x i v H Q := by
  cases hx; cases hi
  obtain ⟨_, vs, h1, h2⟩ := w.cell p _ hp
  refine ⟨p, vs, n, j, rfl, rfl, h1, by rw [h2.length]; exact hj, ?_⟩
  obtain ⟨w2, f2⟩ := w.write hp (o := .lst (vs.set j v)) (c' := .lst (xs.set j d)) fun H' e => ⟨_, e, h2.set j hv⟩
  exact q _ f2 w2
theorem wg_setL {o i : Expr} {d : D} {kE : DEnv → CS → Prop} (h : WE X o env C fun x C1 => WE X i env C1 fun y C2 => ∃ p n xs j, x = .own p ∧ y = .int n ∧ C2 p = some (.lst xs) ∧ ixN xs.length n = some j ∧ kE env (put C2 p (.lst (xs.set j d))))
    (ha : ∀ v, assign (.Subscript o i pos) X.env v = (do
      let ov ← holding [v] (eval o X.env)
      let iv ← holding [v, ov] (eval i X.env)
      standAt pos
      holding [v, ov, iv] (setItem ov iv v)
      release [v, ov, iv] []) := by intro _; rfl) : WG X (.Subscript o i pos) d env C kE :=
  .of (pg_sub pe_tS pe_tS set_list ha) fun G σ H v Q w er r q => h G σ H _ w er fun x' G1 C1 H1 x f1 w1 r1 h1 => h1 G1 σ H1 _ w1 (er.mono f1.exG) fun y' G2 C2 H2 y f2 w2 r2 h2 => by
    obtain ⟨p, n, xs, j, rfl, rfl, hp, hj, hk⟩ := h2
    exact set_ok w2 hp (r1.mono f2.exG) r2 (r.mono (f1.trans f2).exG) hj fun H' f3 w3 => q _ _ _ _ _ ((f1.trans f2).trans f3) w3 (er.mono (f1.trans f2).exG) hk

/-! ### while -/
theorem ws_while {c : Expr} {body : List Stmt} (hp : PassesOwn (model X.prog X.w) X.A X.env X.xe) (Iv : Nat → DEnv → CS → Prop) (h0 : ∃ m, Iv m env C)
    (h : ∀ m env C, Iv m env C → WT X c env C fun t C1 => (t = true → WSs X body env C1 { nx := fun env' C' => ∃ m', m' < m ∧ Iv m' env' C', rt := E.rt, bk := E.nx, ct := fun env' C' => ∃ m', m' < m ∧ Iv m' env' C' }) ∧ (t = false → E.nx env C1)) : WS X (.While c body [] pos) env C E :=
  .of (ps_while hp pt_tT pss_tXs) fun G σ H D w er q => by
    obtain ⟨m0, i0⟩ := h0
    refine ⟨fun m σ1 H1 => ∃ G1 C1 env1, Fr G C H G1 C1 H1 ∧ Wld X.K G1 C1 H1 ∧ EnvR X.K G1 env1 σ1 ∧ Iv m env1 C1, ⟨m0, G, C, env, Fr.refl .., w, er, i0⟩, ?_⟩
    rintro m σ1 H1 ⟨G1, C1, env1, f1, w1, er1, i1⟩
    refine h m env1 C1 i1 G1 σ1 H1 _ w1 er1 fun b G2 C2 H2 f2 w2 hb => ?_
    cases b with
    | false => exact iteF (q.nx G2 C2 H2 σ1 env1 (f1.trans f2) w2 (er1.mono f2.exG) (hb.2 rfl))
    | true =>
      refine iteT ⟨fun σ' H' => ∃ m', m' < m ∧ ∃ G1 C1 env1, Fr G C H G1 C1 H' ∧ Wld X.K G1 C1 H' ∧ EnvR X.K G1 env1 σ' ∧ Iv m' env1 C1, fun σ' H' h => h, ?_⟩
      have fin : KontE X.K G2 C2 H2 (fun env' C' => ∃ m', m' < m ∧ Iv m' env' C') (fun σ' H' => ∃ m', m' < m ∧ ∃ G1 C1 env1, Fr G C H G1 C1 H' ∧ Wld X.K G1 C1 H' ∧ EnvR X.K G1 env1 σ' ∧ Iv m' env1 C1) := fun G3 C3 H3 σ3 env3 f3 w3 er3 ⟨m', hm, i3⟩ => ⟨m', hm, G3, C3, env3, (f1.trans f2).trans f3, w3, er3, i3⟩
      exact hb.1 rfl G2 σ1 H2 _ w2 (er1.mono f2.exG) ⟨fin, q.rt.after (f1.trans f2), q.nx.after (f1.trans f2), fin⟩
end

/-! ### what is walked -/
/-- while Pc holds of the cells, the walk J gives these data -/
def IterD (K : PySem.W.Frag) (J : It) (xs : List D) (Pc : CS → Prop) (G : Hp) : Prop := ∀ G' C' H', Same G G' → Wld K G' C' H' → Pc C' →
  (∀ i d, xs[i]? = some d → J.go i H' ∧ ∀ x H2, J.yld i H' x H2 → ∃ G2, Fr G' C' H' G2 C' H2 ∧ Wld K G2 C' H2 ∧ Dat K G2 x d) ∧ (∀ i, xs.length ≤ i → J.stop i H')
abbrev KI := List D → (CS → Prop) → CS → Prop
def EvI (K : PySem.W.Frag) (wi : TI) (env : DEnv) (C : CS) (kI : KI) : Prop := ∀ G σ H R, Wld K G C H → EnvR K G env σ → (∀ J G' C' H' xs Pc, Fr G C H G' C' H' → Wld K G' C' H' → IterD K J xs Pc G' → kI xs Pc C' → R J H') → wi σ H R
def WI (X : Cx) (tg iter : Expr) (env : DEnv) (C : CS) (kI : KI) : Prop := ∃ wi, PI X tg iter wi ∧ EvI X.K wi env C kI
theorem iterD_list {K : PySem.W.Frag} {G : Hp} {a : Addr} {vs : List V} {ds : List D} (h : SqL K G a vs) (r : DatAll K G vs ds) : IterD K (Itl K a) ds (fun _ => True) G := by
  intro G' C' H' e w _
  have hq : SqL K H' a vs := w.ex.seq (e.seq h)
  refine ⟨fun i d hd => ?_, fun i hi => ⟨vs, hq, by rw [r.length]; exact hi⟩⟩
  obtain ⟨v, h1, h2⟩ := r.get hd
  refine ⟨⟨vs, v, hq, h1⟩, ?_⟩
  rintro x H2 ⟨rfl, hx⟩
  have e1 := hx vs hq
  rw [h1] at e1; cases e1
  exact ⟨G', Fr.refl .., w, h2.mono e⟩
theorem iterD_own {K : PySem.W.Frag} {G : Hp} {a : Addr} {ds : List D} : IterD K (Itl K a) ds (fun C => C a = some (.lst ds)) G := by
  intro G' C' H' e w p
  obtain ⟨_, vs, h1, r⟩ := w.cell a _ p
  have hq : SqL K H' a vs := SqL.of h1
  refine ⟨fun i d hd => ?_, fun i hi => ⟨vs, hq, by rw [r.length]; exact hi⟩⟩
  obtain ⟨v, g1, h2⟩ := r.get hd
  refine ⟨⟨vs, v, hq, g1⟩, ?_⟩
  rintro x H2 ⟨rfl, hx⟩
  have e1 := hx vs hq
  rw [g1] at e1; cases e1
  exact ⟨G', Fr.refl .., w, h2⟩
theorem iterD_tup {K : PySem.W.Frag} {G : Hp} {a : Addr} {vs : List V} {ds : List D} (h : SqT K G a vs) (r : DatAll K G vs ds) : IterD K (Itt K a) ds (fun _ => True) G := by
  intro G' C' H' e w _
  have hq : SqT K H' a vs := Same.sqT w.ex (Same.sqT e h)
  refine ⟨fun i d hd => ?_, fun i hi => ⟨vs, hq, by rw [r.length]; exact hi⟩⟩
  obtain ⟨v, h1, h2⟩ := r.get hd
  refine ⟨⟨vs, v, hq, h1⟩, ?_⟩
  rintro x H2 ⟨rfl, hx⟩
  have e1 := hx vs hq
  rw [h1] at e1; cases e1
  exact ⟨G', Fr.refl .., w, h2.mono e⟩
def intsFrom (lo : Int) (n : Nat) : List D := (List.range n).map fun i => D.int (lo + (i : Nat))
theorem intsFrom_get {lo : Int} {n i : Nat} {d : D} (h : (intsFrom lo n)[i]? = some d) : i < n ∧ d = .int (lo + (i : Nat)) := by
  unfold intsFrom at h
  rw [List.getElem?_map] at h
  by_cases hi : i < n
  · rw [List.getElem?_range hi] at h; exact ⟨hi, (Option.some.inj h).symm⟩
  · rw [List.getElem?_eq_none (by simpa using hi)] at h; cases h
theorem intsFrom_length {lo : Int} {n : Nat} : (intsFrom lo n).length = n := by unfold intsFrom; simp
theorem iterD_rng {K : PySem.W.Frag} {G : Hp} {lo : Int} {n : Nat} : IterD K (Itr lo n) (intsFrom lo n) (fun _ => True) G := by
  intro G' C' H' e w _
  refine ⟨fun i d hd => ?_, fun i hi => by rw [intsFrom_length] at hi; exact hi⟩
  obtain ⟨h1, rfl⟩ := intsFrom_get hd
  refine ⟨h1, ?_⟩
  rintro x H2 ⟨rfl, rfl⟩
  exact ⟨G', Fr.refl .., w, .int _⟩
def signsOf (x : Str) : List D := x.cps.toList.map fun c => D.str ⟨#[c]⟩
theorem iterD_str {K : PySem.W.Frag} {G : Hp} {x : Str} : IterD K (Its x) (signsOf x) (fun _ => True) G := by
  intro G' C' H' e w _
  refine ⟨fun i d hd => ?_, fun i hi => show x.cps.size ≤ i by simpa [signsOf] using hi⟩
  unfold signsOf at hd
  rw [List.getElem?_map] at hd
  cases q : x.cps.toList[i]? with
  | none => rw [q] at hd; cases hd
  | some c =>
    rw [q] at hd
    obtain rfl := Option.some.inj hd
    have hc : x.cps[i]? = some c := by simpa using q
    refine ⟨(Array.getElem?_eq_some_iff.mp hc).1, ?_⟩
    rintro v H2 ⟨rfl, c', h1, rfl⟩
    rw [hc] at h1; cases h1
    exact ⟨G', Fr.refl .., w, .str _⟩
section
variable {X : Cx} {e a b : Expr} {es : List Expr} {tg iter : Expr} {body : List Stmt} {env : DEnv} {C : CS} {k : KD} {pos : Pos} {E : DEnds} {kI : KI}
theorem wi_list (h : WE X e env C fun d C1 => (∃ xs, seqR C1 d = some xs ∧ match d with
    | .own a => kI xs (fun C => C a = some (.lst xs)) C1
    | _ => kI xs (fun _ => True) C1)) : WI X tg e env C kI := by
  refine ⟨_, pi_list pe_tS, fun G σ H R w er q => h G σ H _ w er fun v G1 C1 H1 d f1 w1 r1 z => ?_⟩
  obtain ⟨xs, hs, z⟩ := z
  cases r1 with
  | lst x1 x2 =>
    simp [seqR] at hs; subst hs
    exact ⟨_, rfl, ⟨_, w1.ex.seq (SqL.of x1)⟩, q _ _ _ _ _ _ f1 w1 (iterD_list (SqL.of x1) x2) z⟩
  | slst x1 x2 =>
    simp [seqR] at hs; subst hs
    exact ⟨_, rfl, ⟨_, w1.ex.seq x1⟩, q _ _ _ _ _ _ f1 w1 (iterD_list x1 x2) z⟩
  | own a =>
    have hc := own_seqR hs
    obtain ⟨_, vs, y1, y2⟩ := w1.cell a _ hc
    exact ⟨_, rfl, ⟨_, SqL.of y1⟩, q _ _ _ _ _ _ f1 w1 iterD_own z⟩
  | _ => simp [seqR] at hs
theorem wi_tup (h : WE X e env C fun d C1 => ∃ xs, d = .tup xs ∧ kI xs (fun _ => True) C1) : WI X tg e env C kI := by
  refine ⟨_, pi_tup pe_tS, fun G σ H R w er q => h G σ H _ w er fun v G1 C1 H1 d f1 w1 r1 z => ?_⟩
  obtain ⟨xs, rfl, z⟩ := z
  cases r1 with
  | tup x1 x2 => exact ⟨_, rfl, ⟨_, Same.sqT w1.ex x1⟩, q _ _ _ _ _ _ f1 w1 (iterD_tup x1 x2) z⟩
theorem wi_str (h : WE X e env C fun d C1 => ∃ x, d = .str x ∧ kI (signsOf x) (fun _ => True) C1) : WI X tg e env C kI := by
  refine ⟨_, pi_str pe_tS, fun G σ H R w er q => h G σ H _ w er fun v G1 C1 H1 d f1 w1 r1 z => ?_⟩
  obtain ⟨x, rfl, z⟩ := z
  cases r1
  exact ⟨_, rfl, q _ _ _ _ _ _ f1 w1 iterD_str z⟩
theorem wi_range1 {p : Pos} (hm : X.mg "range" = none) (hg : Gl X "range") (h : WA X [a] env C fun ds C1 => ∃ j : Int, ds = [.int j] ∧ -(2 ^ 62) ≤ j ∧ j < 2 ^ 62 ∧ kI (intsFrom 0 j.toNat) (fun _ => True) C1) (hs : starEach [a] X.env = [(false, eval a X.env)] := by rfl) :
    WI X tg (.Call (.Name "range" p) [a] [] pos) env C kI := by
  refine ⟨_, pi_range1 hg hm pa_tAr hs, fun G σ H R w er q => h G σ H _ w er fun v G1 C1 H1 d f1 w1 r1 z => ?_⟩
  obtain ⟨j, rfl, z1, z2, z⟩ := z
  cases r1 with
  | cons r1 r2 => cases r1; cases r2; exact ⟨j, rfl, z1, z2, q _ _ _ _ _ _ f1 w1 iterD_rng z⟩
theorem wi_range2 {p : Pos} (hm : X.mg "range" = none) (hg : Gl X "range") (h : WA X [a, b] env C fun ds C1 => ∃ i j : Int, ds = [.int i, .int j] ∧ (-(2 ^ 62) ≤ i ∧ i < 2 ^ 62 ∧ -(2 ^ 62) ≤ j ∧ j < 2 ^ 62) ∧ kI (intsFrom i (j - i).toNat) (fun _ => True) C1)
    (hs : starEach [a, b] X.env = [(false, eval a X.env), (false, eval b X.env)] := by rfl) (hs2 : starEach [b] X.env = [(false, eval b X.env)] := by rfl) :
    WI X tg (.Call (.Name "range" p) [a, b] [] pos) env C kI := by
  refine ⟨_, pi_range2 hg hm pa_tAr hs hs2, fun G σ H R w er q => h G σ H _ w er fun v G1 C1 H1 d f1 w1 r1 z => ?_⟩
  obtain ⟨i, j, rfl, z1, z⟩ := z
  cases r1 with
  | cons r1 r2 =>
    cases r2 with
    | cons r2 r3 => cases r1; cases r2; cases r3; exact ⟨i, j, rfl, z1, q _ _ _ _ _ _ f1 w1 iterD_rng z⟩

/-- for: an invariant over the turn -/
theorem ws_for (hp : PassesOwn (model X.prog X.w) X.A X.env X.xe) (hc : X.calm = true)
    (h : WI X tg iter env C fun xs Pc C1 => ∃ Iv : Nat → DEnv → CS → Prop, Iv 0 env C1 ∧ (∀ i env C, Iv i env C → Pc C) ∧
      (∀ i d env C, xs[i]? = some d → Iv i env C → WG X tg d env C fun env' C' => WSs X body env' C' { nx := Iv (i + 1), rt := E.rt, bk := E.nx, ct := Iv (i + 1) }) ∧ (∀ env C, Iv xs.length env C → E.nx env C))
    (hs : ∀ x, foldedSetIterable iter X.env x = pure x := by intro _; rfl) : WS X (.For tg iter body [] pos) env C E := by
  obtain ⟨wi, hi, h⟩ := h
  refine .of (ps_for hp hc hi pg_tGt pss_tXs hs) fun G σ H D w er q => h G σ H _ w er fun J G1 C1 H1 xs Pc f1 w1 it z => ?_
  obtain ⟨Iv, i0, hP, turn, done⟩ := z
  let Wn : Nat → L2.St → Hp → Prop := fun i σ2 H2 => i ≤ xs.length ∧ ∃ G2 C2 env2, Fr G C H G2 C2 H2 ∧ Same G1 G2 ∧ Wld X.K G2 C2 H2 ∧ EnvR X.K G2 env2 σ2 ∧ Iv i env2 C2
  refine ⟨fun i m σ2 H2 => m = xs.length - i ∧ Wn i σ2 H2, ⟨xs.length, rfl, Nat.zero_le _, G1, C1, env, f1, fun _ _ h => h, w1, er.mono f1.exG, i0⟩, ?_⟩
  rintro i m σ2 H2 ⟨rfl, hi2, G2, C2, env2, f2, s2, w2, er2, i2⟩
  obtain ⟨go, stop⟩ := it G2 C2 H2 s2 w2 (hP _ _ _ i2)
  by_cases hlt : i < xs.length
  · obtain ⟨hgo, hy⟩ := go i xs[i] (by simp [hlt])
    refine .inr ⟨hgo, Wn (i + 1), fun σ' H' h' => ⟨xs.length - (i + 1), by omega, rfl, h'⟩, fun x H3 hx => ?_⟩
    obtain ⟨G3, f3, w3, r3⟩ := hy x H3 hx
    refine turn i xs[i] env2 C2 (by simp [hlt]) i2 G3 σ2 H3 x _ w3 (er2.mono f3.exG) r3 fun G4 C4 H4 σ4 env4 f4 w4 er4 h4 => ?_
    have nx : KontE X.K G4 C4 H4 (Iv (i + 1)) (Wn (i + 1)) := fun G5 C5 H5 σ5 env5 f5 w5 er5 h5 => ⟨hlt, G5, C5, env5, ((f2.trans f3).trans f4).trans f5, ((s2.trans f3.exG).trans f4.exG).trans f5.exG, w5, er5, h5⟩
    exact h4 G4 σ4 H4 _ w4 er4 ⟨nx, q.rt.after ((f2.trans f3).trans f4), q.nx.after ((f2.trans f3).trans f4), nx⟩
  · have e : i = xs.length := by omega
    subst e
    exact .inl ⟨stop _ (Nat.le_refl _), q.nx G2 C2 H2 σ2 env2 f2 w2 er2 (done _ _ i2)⟩
end
end DL
/-! DLf: comprehensions, defs and their calls, built-in calls and methods. -/
namespace DL
open PySem PySem.Spec PyProof.Rows L2

/-! ### comprehensions -/
theorem wipe_get (σ : L2.St) (j : Nat) : ∀ vs : List Nat, (wipe σ vs)[j]? = if j ∈ vs then (if j < σ.length then some none else none) else σ[j]?
  | [] => by simp [wipe]
  | v :: vs => by
    unfold wipe
    by_cases e : v = j
    · subst e
      simp only [List.mem_cons, true_or, if_true]
      by_cases l : v < σ.length
      · rw [List.getElem?_set_self (by rw [wipe_length]; exact l), if_pos l]
      · rw [List.getElem?_eq_none (by rw [List.length_set, wipe_length]; omega), if_neg l]
    · rw [List.getElem?_set_ne e, wipe_get σ j vs]
      have : (j ∈ v :: vs) = (j ∈ vs) := by simp [List.mem_cons, Ne.symm e]
      simp only [this]
theorem wipe_ext {σ σ' : L2.St} {vs : List Nat} (hl : σ'.length = σ.length) (h : ∀ j, j ∉ vs → σ'[j]? = σ[j]?) : wipe σ' vs = wipe σ vs := by
  apply List.ext_getElem?
  intro j
  rw [wipe_get, wipe_get, hl]
  by_cases e : j ∈ vs
  · rw [if_pos e, if_pos e]
  · rw [if_neg e, if_neg e, h j e]
theorem wipe_wipe_set {σ : L2.St} {vs : List Nat} {i : Nat} {x : Option V} (hi : i ∈ vs) : wipe ((wipe σ vs).set i x) vs = wipe σ vs := by
  apply wipe_ext
  · rw [List.length_set, wipe_length]
  · intro j hj
    have : i ≠ j := fun e => hj (e ▸ hi)
    rw [List.getElem?_set_ne this, wipe_get, if_neg hj]
def wipeD (env : DEnv) : List Nat → DEnv
  | [] => env
  | v :: vs => (wipeD env vs).set v none
theorem EnvR.wipe {K : PySem.W.Frag} {G : Hp} {env : DEnv} {σ : L2.St} (h : EnvR K G env σ) : ∀ vs : List Nat, EnvR K G (wipeD env vs) (L2.wipe σ vs)
  | [] => h
  | v :: vs => by
    have ih := EnvR.wipe h vs
    refine ⟨by simp [wipeD, L2.wipe, ih.1], fun i d q => ?_⟩
    unfold wipeD at q
    unfold L2.wipe
    by_cases e : v = i
    · subst e
      by_cases l : v < (wipeD env vs).length
      · rw [List.getElem?_set_self l] at q; cases q
      · rw [List.getElem?_eq_none (by simpa using l)] at q; cases q
    · rw [List.getElem?_set_ne e] at q ⊢
      exact ih.2 i d q

/-- the contexts of a comprehension's block -/
def Blk (X : Cx) (scope : Scope) (X' : Cx) : Prop := ∃ (s : Shared) (H : Hp) (C : Addr) (cl : List (Str × Addr)) (fp : List Addr), X' = X.blk s H scope (compEnvC scope cl C X.env) fp
/-- a target of a comprehension -/
def EvGW (K : PySem.W.Frag) (g : TG) (vs : List Nat) (d : D) (env : DEnv) (C : CS) (kE : DEnv → CS → Prop) : Prop :=
  ∀ G σ H v Q, Wld K G C H → EnvR K G env σ → Dat K G v d → KontE K G C H kE Q → g v (wipe σ vs) H fun σ2 H2 => wipe σ2 vs = wipe σ vs ∧ Q σ2 H2
theorem gw_name {K : PySem.W.Frag} {i : Nat} {vs : List Nat} {d : D} {env : DEnv} {C : CS} {kE : DEnv → CS → Prop} (hi : i ∈ vs) (h : kE ((wipeD env vs).set i (some d)) C) : EvGW K (gName i) vs d env C kE := fun G σ H v Q w er r q =>
  ⟨wipe_wipe_set hi, q G C H _ _ (Fr.refl ..) w ((er.wipe vs).set i r) h⟩
theorem gw_tup2 {K : PySem.W.Frag} {i j : Nat} {vs : List Nat} {d1 d2 : D} {env : DEnv} {C : CS} {kE : DEnv → CS → Prop} (hi : i ∈ vs) (hj : j ∈ vs) (h : kE (((wipeD env vs).set i (some d1)).set j (some d2)) C) : EvGW K (gTup K 2 (gCons (gName i) (gCons (gName j) gNil))) vs (.tup [d1, d2]) env C kE := fun G σ H v Q w er r q => by
  cases r with
  | tup h1 h2 =>
    cases h2 with
    | @cons v1 _ _ _ r1 h2 =>
      cases h2 with
      | @cons v2 _ _ _ r2 h2 =>
        cases h2
        refine ⟨_, _, rfl, Same.sqT w.ex h1, rfl, v1, [v2], rfl, v2, [], rfl, rfl, ?_, q G C H _ _ (Fr.refl ..) w (((er.wipe vs).set i r1).set j r2) h⟩
        apply wipe_ext
        · rw [List.length_set, List.length_set, wipe_length]
        · intro n hn
          have n1 : j ≠ n := fun e => hn (e ▸ hj)
          have n2 : i ≠ n := fun e => hn (e ▸ hi)
          rw [List.getElem?_set_ne n1, List.getElem?_set_ne n2, wipe_get, if_neg hn]
def tPIf (X : Cx) (ifs : List Expr) : TT := fun σ H Q => ∀ pins s, Inv X pins σ H s → wpAny (model X.prog X.w) X.A (forIn ifs true fun c r => if r = true then do let ok ← isTrue c X.env (eval c X.env); pure (ForInStep.yield ok) else pure (ForInStep.yield r)) (TP X pins σ Q) X.xe s
def WIf (X : Cx) (ifs : List Expr) (env : DEnv) (C : CS) (k : Bool → CS → Prop) : Prop := EvB X.K (tPIf X ifs) env C k
theorem wif_nil {X : Cx} {env : DEnv} {C : CS} {k : Bool → CS → Prop} (h : k true C) : WIf X [] env C k := fun G σ H Q w er q pins s I => pts_nil.run pins s σ H Q I (q true G C H (Fr.refl ..) w h)
theorem WIf.imp {X : Cx} {ifs : List Expr} {env : DEnv} {C : CS} {k k' : Bool → CS → Prop} (h : WIf X ifs env C k) (hk : ∀ t C', k t C' → k' t C') : WIf X ifs env C k' := fun G σ H Q w er q => h G σ H Q w er fun b G' C' H' f w z => q b G' C' H' f w (hk b C' z)
theorem wif_one {X : Cx} {c : Expr} {env : DEnv} {C : CS} {k : Bool → CS → Prop} (h : WT X c env C k) : WIf X [c] env C k := fun G σ H Q w er q pins s I => (pts_one pt_tT).run pins s σ H Q I (h G σ H Q w er q)
section
variable {X : Cx} {elt tg iter : Expr} {ifs : List Expr} {scope : Scope} {own : List (Str × Nat)} {env : DEnv} {C : CS} {k : KD} {pos : Pos} {g : TG}
/-- an invariant over the turn and what is made so far -/
def LcI (X : Cx) (elt : Expr) (ifs : List Expr) (scope : Scope) (vs : List Nat) (g : TG) (env : DEnv) (xs : List D) (Pc : CS → Prop) (C1 : CS) (k : KD) : Prop := ∃ Iv : Nat → List D → CS → Prop, Iv 0 [] C1 ∧ (∀ j acc C, Iv j acc C → Pc C) ∧
  (∀ j d acc C, xs[j]? = some d → Iv j acc C → EvGW X.K g vs d env C fun env2 C2 => ∀ X', Blk X scope X' → WIf X' ifs env2 C2 fun t C3 => (t = true → ∀ X', Blk X scope X' → WE X' elt env2 C3 fun y C4 => acc.length < sizeLine ∧ Iv (j + 1) (acc ++ [y]) C4) ∧ (t = false → Iv (j + 1) acc C3)) ∧
  (∀ acc C, Iv xs.length acc C → ∀ p, C p = none → k (.own p) (put C p (.lst acc)))
theorem Fr.fresh {G H : Hp} {C : CS} {p : Addr} {o : HO} (h : H p = none) : Fr G C H G C (upd H p o) :=
  ⟨fun _ _ h => h, fun b u e _ => by rw [upd_ne (ne_of_none e h)]; exact e, fun b e => by
    by_cases q : b = p
    · subst q; exact absurd h e
    · rw [upd_ne q]; exact e, fun _ _ k => k, fun _ _ k => .inl k⟩
/-- a fresh list becomes a cell -/
theorem Wld.claim {K : PySem.W.Frag} {G G1 H H1 : Hp} {C C1 : CS} {p : Addr} {vs : List V} {ds : List D} (f : Fr G C H G1 C1 H1) (w : Wld K G1 C1 H1) (h0 : H p = none) (h1 : H1 p = some (.lst vs)) (r : DatAll K G1 vs ds) (c : C1 p = none) (g : G1 p = none) :
    Fr G C H G1 (put C1 p (.lst ds)) H1 ∧ Wld K G1 (put C1 p (.lst ds)) H1 := by
  refine ⟨⟨f.exG, f.keep, f.dom, fun a ha k => ?_, f.newG⟩, ⟨w.ex, fun a c' e => ?_⟩⟩
  · by_cases q : a = p
    · subst q; exact absurd h0 ha
    · rw [put_ne q] at k; exact f.newC a ha k
  · by_cases q : a = p
    · subst q; rw [put_same] at e; cases e; exact ⟨g, vs, h1, r⟩
    · rw [put_ne q] at e; exact w.cell a c' e
theorem ev_lc {wi : TI} (hwi : EvI X.K wi env C fun xs Pc C1 => LcI X elt ifs scope (own.map (·.2)) g env xs Pc C1 k) :
    Ev X.K (tLc wi g (fun σ H Q => ∀ X', Blk X scope X' → tPIf X' ifs σ H Q) (fun σ H Q => ∀ X', Blk X scope X' → tS X' elt σ H Q) (own.map (·.2))) env C k := fun G σ H Q w er q => by
  refine hwi G σ H _ w er fun J G1 C1 H1 xs Pc f1 w1 it z Da hD => ?_
  obtain ⟨Iv, i0, hP, turn, done⟩ := z
  have hn := w1.ne hD
  let Wn : Nat → Hp → Prop := fun i H2 => i ≤ xs.length ∧ ∃ G2 C2 acc vs, Fr G1 C1 H1 G2 C2 H2 ∧ Wld X.K G2 C2 H2 ∧ H2 Da = some (.lst vs) ∧ DatAll X.K G2 vs acc ∧ Iv i acc C2 ∧ C2 Da = none ∧ G2 Da = none
  have wD : Wld X.K G1 C1 (upd H1 Da (.lst [])) := ⟨fun a o e => by rw [upd_ne (ne_of_none e hn.1)]; exact w1.ex a o e, fun a c e => by
    obtain ⟨h1, h2⟩ := w1.cell a c e
    exact ⟨h1, h2.mono (fun _ _ h => h) (upd_ne (cell_ne e hn.2))⟩⟩
  refine ⟨fun i m H2 => m = xs.length - i ∧ Wn i H2, ⟨xs.length, rfl, Nat.zero_le _, G1, C1, [], [], Fr.fresh hD, wD, upd_same, .nil, i0, hn.2, hn.1⟩, ?_⟩
  rintro i m H2 ⟨rfl, hi2, G2, C2, acc, vs, f2, w2, hd2, r2, i2, c2, g2⟩
  obtain ⟨go, stop⟩ := it G2 C2 H2 f2.exG w2 (hP _ _ _ i2)
  have keepD : ∀ {G3 C3 H3}, Fr G2 C2 H2 G3 C3 H3 → H3 Da = some (.lst vs) ∧ C3 Da = none ∧ G3 Da = none := fun {G3 C3 H3} f => by
    refine ⟨f.keep _ _ hd2 c2, ?_, ?_⟩
    · cases e : C3 Da with
      | none => rfl
      | some c => exact absurd c2 (f.newC Da (by rw [hd2]; simp) (by rw [e]; simp))
    · cases e : G3 Da with
      | none => rfl
      | some c => exact ((f.newG Da (by rw [hd2]; simp) (by rw [e]; simp)).elim (fun z => z g2) fun z => z c2).elim
  by_cases hlt : i < xs.length
  · obtain ⟨hgo, hy⟩ := go i xs[i] (by simp [hlt])
    refine .inr ⟨hgo, Wn (i + 1), fun H' h' => ⟨xs.length - (i + 1), by omega, rfl, h'⟩, fun x H3 hx => ?_⟩
    obtain ⟨G3, f3, w3, r3⟩ := hy x H3 hx
    refine turn i xs[i] acc C2 (by simp [hlt]) i2 G3 σ H3 x _ w3 (er.mono (f1.exG.trans (f2.exG.trans f3.exG))) r3 fun G4 C4 H4 σ4 env4 f4 w4 er4 h4 X' hX => ?_
    have h5 := h4 X' hX
    obtain ⟨s0, H0, Ca, cl, fp, rfl⟩ := hX
    refine h5 G4 σ4 H4 _ w4 er4 fun t G5 C5 H5 f5 w5 ht => ?_
    have f35 := (f3.trans f4).trans f5
    cases t with
    | true =>
      refine iteT fun X' hX => ?_
      have h6 := ht.1 rfl X' hX
      obtain ⟨s1, H01, Ca1, cl1, fp1, rfl⟩ := hX
      refine h6 G5 σ4 H5 _ w5 (er4.mono f5.exG) fun y G6 C6 H6 d6 f6 w6 r6 h7 => ?_
      obtain ⟨hd6, c6, g6⟩ := keepD (f35.trans f6)
      have rr := r2.mono (f35.trans f6).exG
      refine ⟨vs, hd6, by rw [rr.length]; exact h7.1, hlt, G6, C6, acc ++ [d6], vs ++ [y], ?_, ?_, upd_same, rr.append (.cons r6 .nil), h7.2, c6, g6⟩
      · have F := f2.trans (f35.trans f6)
        refine ⟨F.exG, fun a o e c => ?_, fun a e => ?_, F.newC, F.newG⟩
        · by_cases q : a = Da
          · subst q; rw [hD] at e; cases e
          · rw [upd_ne q]; exact F.keep a o e c
        · by_cases q : a = Da
          · subst q; rw [upd_same]; simp
          · rw [upd_ne q]; exact F.dom a e
      · exact ⟨fun a o e => by rw [upd_ne (ne_of_none e g6)]; exact w6.ex a o e, fun a c e => by
          obtain ⟨h1, h2⟩ := w6.cell a c e
          exact ⟨h1, h2.mono (fun _ _ h => h) (upd_ne (cell_ne e c6))⟩⟩
    | false =>
      obtain ⟨hd5, c5, g5⟩ := keepD f35
      exact iteF ⟨hlt, G5, C5, acc, vs, f2.trans f35, w5, hd5, r2.mono f35.exG, ht.2 rfl, c5, g5⟩
  · have e : i = xs.length := by omega
    subst e
    have h0 : H Da = none := by
      cases e : H Da with
      | none => rfl
      | some o => exact absurd hD (f1.dom Da (by rw [e]; simp))
    obtain ⟨F, w3⟩ := w2.claim (f1.trans f2) h0 hd2 r2 c2 g2
    exact .inl ⟨stop _ (Nat.le_refl _), q _ _ _ _ _ F w3 (.own Da) (done acc C2 i2 Da c2)⟩
end
end DL
/-! DLg: comprehensions as expressions, defs and their calls, built-in calls and methods. -/
namespace DL
open PySem PySem.Spec PyProof.Rows L2

section
variable {X : Cx} {elt tg iter : Expr} {ifs : List Expr} {scope : Scope} {own : List (Str × Nat)} {env : DEnv} {C : CS} {k : KD} {pos : Pos} {g : TG} {E : DEnds}
theorem we_lc (own : List (Str × Nat)) (hc : X.calm = true) (hN : X.N.Nodup) (ok : BlkOk X.N X.env.scope scope own) (hg : ∀ (s : Shared) (H : Hp) (C : Addr) (cl : List (Str × Addr)) (fp : List Addr), PG (X.blk s H scope (compEnvC scope cl C X.env) fp) tg g)
    (h : WI X tg iter env C fun xs Pc C1 => LcI X elt ifs scope (own.map (·.2)) g env xs Pc C1 k) (hs : ∀ x, foldedSetIterable iter X.env x = pure x := by intro _; rfl) : WE X (.ListComp elt [⟨tg, iter, ifs, 0⟩] scope pos) env C k := by
  obtain ⟨wi, hi, hw⟩ := h
  refine .of (pe_lc (own := own) (g := g) (tt := fun σ H Q => ∀ X', Blk X scope X' → tPIf X' ifs σ H Q) (te := fun σ H Q => ∀ X', Blk X scope X' → tS X' elt σ H Q) hc hN hi ok hg ?_ ?_ hs) (ev_lc hw)
  · exact fun s H C cl fp => ⟨fun pins s' σ H Q I h => h _ ⟨_, _, _, _, _, rfl⟩ pins s' I⟩
  · exact fun s H C cl fp => ⟨fun pins s' σ H Q I h => h _ ⟨_, _, _, _, _, rfl⟩ pins s' I⟩
theorem ws_setLc (own : List (Str × Nat)) {i : Nat} {y : Str} {py spos : Pos} (hc : X.calm = true) (hN : X.N.Nodup) (hy : X.N[i]? = some y) (hyl : X.env.scope.names.lookup y = some .local)
    (hsw : swapsWith (.ListComp elt [⟨tg, iter, ifs, 0⟩] scope pos) (some (.Name y py)) spos.line X.env = pure true) (ok : BlkOk X.N X.env.scope scope own) (hg : ∀ (s : Shared) (H : Hp) (C : Addr) (cl : List (Str × Addr)) (fp : List Addr), PG (X.blk s H scope (compEnvC scope cl C X.env) fp) tg g)
    (h : WI X tg iter env C fun xs Pc C1 => LcI X elt ifs scope (own.map (·.2)) g env xs Pc C1 fun d C2 => E.nx (env.set i (some d)) C2) (hs : ∀ x, foldedSetIterable iter X.env x = pure x := by intro _; rfl) :
    WS X (.Assign [.Name y py] (.ListComp elt [⟨tg, iter, ifs, 0⟩] scope pos) spos) env C E := by
  obtain ⟨wi, hi, hw⟩ := h
  refine .of (ps_setLc (i := i) (own := own) (g := g) (tt := fun σ H Q => ∀ X', Blk X scope X' → tPIf X' ifs σ H Q) (te := fun σ H Q => ∀ X', Blk X scope X' → tS X' elt σ H Q) hc hN hy hyl hsw hi ok hg ?_ ?_ hs) ?_
  · exact fun s H C cl fp => ⟨fun pins s' σ H Q I h => h _ ⟨_, _, _, _, _, rfl⟩ pins s' I⟩
  · exact fun s H C cl fp => ⟨fun pins s' σ H Q I h => h _ ⟨_, _, _, _, _, rfl⟩ pins s' I⟩
  · exact fun G σ H D w er q => ev_lc hw G σ H _ w er fun v G1 C1 H1 d f1 w1 r1 z => q.nx G1 C1 H1 _ _ f1 w1 ((er.mono f1.exG).set i r1) z
end

/-! ### defs -/
abbrev DSp := List D → CS → KD → Prop
def toSp (K : PySem.W.Frag) (S : DSp) : Sp := fun vs H Q _ => ∃ G C ds k, Wld K G C H ∧ DatAll K G vs ds ∧ S ds C k ∧ Kont K G C H k Q
def startD (N : List Str) (ds : List D) : DEnv := ds.map some ++ List.replicate (N.length - ds.length) none
theorem envR_start {K : PySem.W.Frag} {G : Hp} {N : List Str} {vs : List V} {ds : List D} (r : DatAll K G vs ds) : EnvR K G (startD N ds) (L2.start N vs) := by
  refine ⟨by unfold startD L2.start; simp [r.length], fun i d h => ?_⟩
  unfold startD at h
  unfold L2.start
  have hl := r.length
  by_cases hi : i < ds.length
  · rw [List.getElem?_append_left (by simpa using hi), List.getElem?_map] at h
    rw [List.getElem?_append_left (by simpa [hl] using hi), List.getElem?_map]
    cases q : ds[i]? with
    | none => rw [q] at h; cases h
    | some d' =>
      rw [q] at h
      obtain rfl := Option.some.inj (Option.some.inj h)
      obtain ⟨v, h1, h2⟩ := r.get q
      exact ⟨v, by rw [h1]; rfl, h2⟩
  · rw [List.getElem?_append_right (by simpa using hi)] at h
    rw [List.getElem?_replicate] at h
    split at h <;> cases h
section
variable {P : Program} {w : World} {K : PySem.W.Frag} {mg : Str → Option Value} {base : Heap}
theorem fnD {x qual : Str} {st : Stmt} {f : Addr} {fd : FuncData} {N ps : List Str} {n : Nat} {S : DSp} (F : Fun K x qual st f fd) (sc : FnScope N ps (defScope st)) (hl : ∀ ds C k, S ds C k → ds.length = ps.length)
    (hb : ∀ (cdv : Value) (A : Around) (outer : List Env) (s : Shared) (H : Hp) (E : XK) (ds : List D) (C : CS) (k : KD), A.guards = some [] → Room n (A.deeper (envOfC qual (defScope st) s.heap.objs.size f cdv)) → S ds C k →
      WSs (cxOf CX0 P w K mg base N qual (defScope st) f cdv A outer s H E).nox (defBody st) (startD N ds) C { nx := fun _ C' => k .non C', rt := k }) : FnG P w K mg base CX0 (n + 1) f fd ps (toSp K S) := by
  refine fnG_of F sc (fun vs H Q E h => ?_) (fun cdv A outer s H vs Q E hgd hr h => ?_)
  · obtain ⟨G, C, ds, k, _, r, hS, _⟩ := h
    rw [r.length]
    exact hl _ _ _ hS
  · obtain ⟨G, C, ds, k, wl, r, hS, q⟩ := h
    refine ⟨_, PSs.nox pss_tXs, ?_⟩
    refine hb cdv A outer s H E ds C k hgd hr hS G _ H _ wl (envR_start r) ⟨?_, q, ?_, ?_⟩
    · exact fun G' C' H' σ env f w' er z => q .non G' C' H' .non f w' .non z
    · exact fun G' C' H' σ env f w' er z => z.elim
    · exact fun G' C' H' σ env f w' er z => z.elim
/-- a def that keeps a promise by data -/
def FnC (P : Program) (w : World) (K : PySem.W.Frag) (mg : Str → Option Value) (base : Heap) (x : Str) (n : Nat) (S : DSp) : Prop :=
  ∃ (f : Addr) (fd : FuncData) (ps : List Str), FnG P w K mg base CX0 n f fd ps (toSp K S) ∧ mg x = some (.ref f) ∧ PySem.W.keepIn K (.ref f) = true ∧ Binds K fd ps []
end
section
variable {X : Cx} {e a b o : Expr} {es : List Expr} {env : DEnv} {C : CS} {k : KD} {pos : Pos}
theorem call_ok {n : Nat} {f : Addr} {fd : FuncData} {ps : List Str} {S : DSp} {ta : TA} (h : EvA X.K ta env C fun ds C1 => S ds C1 k) : Ev X.K (tCall (toSp X.K S) [] E0 ta) env C k := fun G σ H Q w er q =>
  h G σ H _ w er fun vs G1 C1 H1 ds f1 w1 r1 z => ⟨G1, C1, ds, k, w1, by rw [List.append_nil]; exact r1, z, q.after f1⟩
theorem we_call {x : Str} {n m : Nat} {S : DSp} {p : Pos} (h : FnC X.prog X.w X.K X.mg X.base x n S) (hgd : X.A.guards = some []) (hr : Room m X.A) (hg : Gl X x) (ha : WA X (e :: es) env C fun ds C1 => S ds C1 k) (hle : n ≤ m := by decide)
    (hdb : (x == ("__debug__" : Str)) = false := by decide) (he : starEach (e :: es) X.env = (false, eval e X.env) :: starEach es X.env := by rfl) (hpl : (backTo pos (starEach es X.env)).any (·.1) = false := by rfl) : WE X (.Call (.Name x p) (e :: es) [] pos) env C k := by
  obtain ⟨f, fd, ps, F, hm, hk, hb⟩ := h
  exact .of (pe_callG F hgd (hr.mono hle) hg hm hk hb pass0 pa_tAr hdb he hpl) (call_ok (n := n) (f := f) (fd := fd) (ps := ps) ha)
theorem we_call0 {x : Str} {n m : Nat} {S : DSp} {p : Pos} (h : FnC X.prog X.w X.K X.mg X.base x n S) (hgd : X.A.guards = some []) (hr : Room m X.A) (hg : Gl X x) (ha : S [] C k) (hle : n ≤ m := by decide)
    (hdb : (x == ("__debug__" : Str)) = false := by decide) : WE X (.Call (.Name x p) [] [] pos) env C k := by
  obtain ⟨f, fd, ps, F, hm, hk, hb⟩ := h
  exact .of (pe_callG0 F hgd (hr.mono hle) hg hm hk hb pass0 hdb) (call_ok (n := n) (f := f) (fd := fd) (ps := ps) (ea_nil ha))

/-! ### methods of built-in types -/
def tyD (T : String) (C : CS) (x : D) : Prop := match x with
  | .str _ => T = "str"
  | .lst _ => T = "list"
  | .own a => (T = "list" ∧ ∃ xs, C a = some (.lst xs)) ∨ (T = "dict" ∧ ∃ kvs, C a = some (.dic kvs))
  | _ => False
theorem tyD_ok {K : PySem.W.Frag} {T : String} {G H : Hp} {x : V} {d : D} (w : Wld K G C H) (r : Dat K G x d) (h : tyD T C d) : tyV K T x H := by
  cases r with
  | str x => exact h
  | lst h1 h2 => exact .inl ⟨h, _, SqL.of (w.ex _ _ h1)⟩
  | own a =>
    rcases h with ⟨h, xs, hx⟩ | ⟨h, kvs, hx⟩
    · obtain ⟨_, vs, h1, _⟩ := w.cell a _ hx
      exact .inl ⟨h, vs, SqL.of h1⟩
    · obtain ⟨_, vs, h1, _⟩ := w.cell a _ hx
      exact .inr (.inr (.inl ⟨h, .inl ⟨vs, h1⟩⟩))
  | _ => exact h.elim
theorem we_bm {T : String} {name : Str} {id : String} {apos cpos : Pos} {r : V → List V → Hp → VK → Prop} {p : D → List D → CS → KD → Prop} (pa : PlainAttrs T) (slot : Slot T name id) (hty : typeOf (.builtin id) = pure (.type "method_descriptor")) (hm : MtR X id r) (hr : RMD X.K r p)
    (h : WE X o env C fun x C1 => tyD T C1 x ∧ WA X (e :: es) env C1 fun ds C2 => p x ds C2 k)
    (hbase : attributeBase o name X.env (eval o X.env) = eval o X.env := by rfl)
    (hfew : ((backTo cpos (starEach (e :: es) X.env)).all (fun x => !x.1) && (backToKw cpos (keywordEach [] X.env)).all (fun x => x.1.isSome)
      && decide ((e :: es).length + ([] : List Keyword).length + (if ([] : List Keyword).isEmpty then 0 else 1) < 30)) = true := by rfl)
    (hline : (apos.endLine == cpos.line) = true := by rfl) (hs : starEach (e :: es) X.env = (false, eval e X.env) :: starEach es X.env := by rfl) (hplain : (backTo cpos (starEach es X.env)).any (·.1) = false := by rfl) :
    WE X (.Call (.Attribute o name apos) (e :: es) [] cpos) env C k :=
  .of (pe_bm pa slot hty hm pe_tS pa_tAr hbase hfew hline hs hplain) fun G σ H Q w er q => h G σ H _ w er fun v G1 C1 H1 d f1 w1 r1 z => ⟨tyD_ok w1 r1 z.1, z.2 G1 σ H1 _ w1 (er.mono f1.exG) fun vs G2 C2 H2 ds f2 w2 r2 hp => hr v d vs ds G2 C2 H2 k Q w2 (r1.mono f2.exG) r2 hp (q.after (f1.trans f2))⟩
theorem we_bm0 {T : String} {name : Str} {id : String} {apos cpos : Pos} {r : V → List V → Hp → VK → Prop} {p : D → List D → CS → KD → Prop} (pa : PlainAttrs T) (slot : Slot T name id) (hty : typeOf (.builtin id) = pure (.type "method_descriptor")) (hm : MtR X id r) (hr : RMD X.K r p)
    (h : WE X o env C fun x C1 => tyD T C1 x ∧ p x [] C1 k) (hbase : attributeBase o name X.env (eval o X.env) = eval o X.env := by rfl) (hline : (apos.endLine == cpos.line) = true := by rfl) : WE X (.Call (.Attribute o name apos) [] [] cpos) env C k :=
  .of (pe_bm0 pa slot hty hm pe_tS hbase hline) fun G σ H Q w er q => h G σ H _ w er fun v G1 C1 H1 d f1 w1 r1 z => ⟨tyD_ok w1 r1 z.1, hr v d [] [] G1 C1 H1 k Q w1 r1 .nil z.2 (q.after f1)⟩
end

/-! ### what built-ins and methods give -/
section
variable {K : PySem.W.Frag}
def dAppend : D → List D → CS → KD → Prop := fun x ds C k => ∃ a xs y, x = .own a ∧ ds = [y] ∧ C a = some (.lst xs) ∧ xs.length < sizeLine ∧ k .non (put C a (.lst (xs ++ [y])))
theorem rm_append : RMD K rAppend dAppend := by
  rintro x a xs ds G C H k Q w r rs ⟨p, ys, y, rfl, rfl, hp, hl, hk⟩ q
  cases r
  cases rs with
  | cons r1 r2 =>
    cases r2
    obtain ⟨_, vs, h1, h2⟩ := w.cell p _ hp
    refine ⟨p, vs, _, rfl, rfl, h1, by rw [h2.length]; exact hl, ?_⟩
    obtain ⟨w2, f2⟩ := w.write hp (o := .lst _) (c' := .lst _) fun H' e => ⟨_, e, h2.append (.cons r1 .nil)⟩
    exact q _ _ _ _ _ f2 w2 .non hk
def dInsert : D → List D → CS → KD → Prop := fun x ds C k => ∃ a xs y i, x = .own a ∧ ds = [.int i, y] ∧ C a = some (.lst xs) ∧ xs.length < sizeLine ∧ 0 ≤ i ∧ i < 2 ^ 63 ∧ k .non (put C a (.lst (xs.take i.toNat ++ [y] ++ xs.drop i.toNat)))
theorem rm_insert : RMD K (fun x vs H Q => ∃ (l : Addr) (xs : List V) (i : Int) (y : V), x = .ref l ∧ vs = [.int i, y] ∧ H l = some (.lst xs) ∧ xs.length < sizeLine ∧ 0 ≤ i ∧ i < 2 ^ 63 ∧ Q .non (upd H l (.lst (xs.take i.toNat ++ [y] ++ xs.drop i.toNat)))) dInsert := by
  rintro x a xs ds G C H k Q w r rs ⟨p, ys, y, i, rfl, rfl, hp, hl, h0, h63, hk⟩ q
  cases r
  cases rs with
  | cons r1 r2 =>
    cases r2 with
    | cons r2 r3 =>
      cases r3; cases r1
      obtain ⟨_, vs, h1, h2⟩ := w.cell p _ hp
      refine ⟨p, vs, i, _, rfl, rfl, h1, by rw [h2.length]; exact hl, h0, h63, ?_⟩
      obtain ⟨w2, f2⟩ := w.write hp (o := .lst _) (c' := .lst _) fun H' e => ⟨_, e, ((h2.take i.toNat).append (.cons r2 .nil)).append (h2.drop i.toNat)⟩
      exact q _ _ _ _ _ f2 w2 .non hk
def dPopAt : D → List D → CS → KD → Prop := fun x ds C k => ∃ a xs i j y, x = .own a ∧ ds = [.int i] ∧ C a = some (.lst xs) ∧ -(2 ^ 63) ≤ i ∧ i < 2 ^ 63 ∧ seqIndex? i xs.length = some j ∧ xs[j]? = some y ∧ k y (put C a (.lst (xs.eraseIdx j)))
theorem datAll_erase {G : Hp} : ∀ {vs : List V} {ds : List D} (i : Nat), DatAll K G vs ds → DatAll K G (vs.eraseIdx i) (ds.eraseIdx i)
  | _, [], i, h => by cases h; simp; exact .nil
  | _, d :: ds, 0, h => by
    cases h with
    | cons a b => exact b
  | _, d :: ds, i + 1, h => by
    cases h with
    | cons a b => exact .cons a (datAll_erase i b)
theorem rm_popAt : RMD K rPopAt dPopAt := by
  rintro x a xs ds G C H k Q w r rs ⟨p, ys, i, j, y, rfl, rfl, hp, h0, h63, hj, hy, hk⟩ q
  cases r
  cases rs with
  | cons r1 r2 =>
    cases r2; cases r1
    obtain ⟨_, vs, h1, h2⟩ := w.cell p _ hp
    obtain ⟨v, g1, g2⟩ := h2.get hy
    refine ⟨p, vs, i, j, v, rfl, rfl, h1, h0, h63, by rw [h2.length]; exact hj, g1, ?_⟩
    obtain ⟨w2, f2⟩ := w.write hp (o := .lst _) (c' := .lst _) fun H' e => ⟨_, e, datAll_erase j h2⟩
    exact q _ _ _ _ _ f2 w2 g2 hk
theorem datAll_strs {G : Hp} : ∀ {vs : List V} {ys : List Str}, DatAll K G vs (ys.map D.str) → vs = ys.map V.str
  | _, [], h => by cases h; rfl
  | _, y :: ys, h => by
    cases h with
    | cons a b => cases a; rw [datAll_strs b]; rfl
theorem datAll_ints {G : Hp} : ∀ {vs : List V} {ys : List Int}, DatAll K G vs (ys.map D.int) → vs = ys.map V.int
  | _, [], h => by cases h; rfl
  | _, y :: ys, h => by
    cases h with
    | cons a b => cases a; rw [datAll_ints b]; rfl
theorem datAll_bls {G : Hp} : ∀ {vs : List V} {ys : List Bool}, DatAll K G vs (ys.map D.bl) → vs = ys.map V.bl
  | _, [], h => by cases h; rfl
  | _, y :: ys, h => by
    cases h with
    | cons a b => cases a; rw [datAll_bls b]; rfl
def dJoin : D → List D → CS → KD → Prop := fun x ds C k => ∃ a y, ∃ ys : List Str, x = .str a ∧ ds = [y] ∧ seqR C y = some (ys.map D.str) ∧ (ys.map (·.length)).sum + ys.length * a.length ≤ 16777216 ∧ k (.str (Txt.join a ys)) C
theorem rm_join : RMD K (fun x xs H Q => ∃ a p, ∃ ys : List Str, x = .str a ∧ xs = [.ref p] ∧ (SqL K H p (ys.map V.str) ∨ SqT K H p (ys.map V.str)) ∧ (ys.map (·.length)).sum + ys.length * a.length ≤ 16777216 ∧ Q (.str (Txt.join a ys)) H) dJoin := by
  rintro x a xs ds G C H k Q w r rs ⟨b, y, ys, rfl, rfl, hs, hl, hk⟩ q
  cases r
  cases rs with
  | cons r1 r2 =>
    cases r2
    obtain ⟨p, vs, rfl, h1, h2⟩ := w.seq r1 hs
    have := datAll_strs h2
    subst this
    exact ⟨b, p, ys, rfl, rfl, .inl h1, hl, q _ _ _ _ _ (Fr.refl ..) w (.str _) hk⟩
def dSIndex : D → List D → CS → KD → Prop := fun x ds C k => ∃ a b i rest, x = .str a ∧ ds = [.str b] ∧ Builtin.Str.occurrences a b 0 a.length 1 = i :: rest ∧ k (.int (i : Nat)) C
theorem rm_sindex : RMD K (fun x xs H Q => ∃ a b i rest, x = .str a ∧ xs = [.str b] ∧ Builtin.Str.occurrences a b 0 a.length 1 = i :: rest ∧ Q (.int (i : Nat)) H) dSIndex := by
  rintro x a xs ds G C H k Q w r rs ⟨b, c, i, rest, rfl, rfl, ho, hk⟩ q
  cases r
  cases rs with
  | cons r1 r2 => cases r2; cases r1; exact ⟨b, c, i, rest, rfl, rfl, ho, q _ _ _ _ _ (Fr.refl ..) w (.int _) hk⟩

def lenD (C : CS) (x : D) (n : Nat) : Prop := match x with
  | .str y => y.length ≤ sizeLine ∧ n = y.length
  | .tup xs => n = xs.length
  | x => ∃ xs, seqR C x = some xs ∧ n = xs.length
def dLen : List D → CS → KD → Prop := fun ds C k => ∃ x n, ds = [x] ∧ lenD C x n ∧ k (.int (n : Nat)) C
theorem rl_len : RLD K (fun xs H Q => ∃ x n, xs = [x] ∧ LenV K x H n ∧ Q (.int n) H) dLen := by
  rintro xs ds G C H k Q w rs ⟨x, n, rfl, hl, hk⟩ q
  cases rs with
  | @cons v _ _ _ r1 r2 =>
    cases r2
    refine ⟨v, n, rfl, ?_, q _ _ _ _ _ (Fr.refl ..) w (.int _) hk⟩
    unfold lenD at hl
    split at hl
    · cases r1; exact hl
    · obtain ⟨a, vs, rfl, h1, h2⟩ := w.tup r1
      exact .inr ⟨vs, h1, by rw [h2.length]; exact hl⟩
    · obtain ⟨ys, h0, h3⟩ := hl
      obtain ⟨a, vs, rfl, h1, h2⟩ := w.seq r1 h0
      exact .inl ⟨vs, h1, by rw [h2.length]; exact h3⟩
theorem len_lst {C : CS} {x : D} {xs : List D} (h : seqR C x = some xs) : lenD C x xs.length := by
  unfold lenD
  split
  · simp [seqR] at h
  · simp [seqR] at h
  · exact ⟨xs, h, rfl⟩
def dInt1 (f : Int → Int) : List D → CS → KD → Prop := fun ds C k => ∃ i, ds = [.int i] ∧ k (.int (f i)) C
theorem rl_int1 {f : Int → Int} : RLD K (fun xs H Q => ∃ i, xs = [.int i] ∧ Q (.int (f i)) H) (dInt1 f) := by
  rintro xs ds G C H k Q w rs ⟨i, rfl, hk⟩ q
  cases rs with
  | cons r1 r2 => cases r2; cases r1; exact ⟨i, rfl, q _ _ _ _ _ (Fr.refl ..) w (.int _) hk⟩
def dInt2 (f : Int → Int → Int) : List D → CS → KD → Prop := fun ds C k => ∃ i j, ds = [.int i, .int j] ∧ k (.int (f i j)) C
theorem rl_int2 {f : Int → Int → Int} : RLD K (fun xs H Q => ∃ i j, xs = [.int i, .int j] ∧ Q (.int (f i j)) H) (dInt2 f) := by
  rintro xs ds G C H k Q w rs ⟨i, j, rfl, hk⟩ q
  cases rs with
  | cons r1 r2 =>
    cases r2 with
    | cons r2 r3 => cases r3; cases r1; cases r2; exact ⟨i, j, rfl, q _ _ _ _ _ (Fr.refl ..) w (.int _) hk⟩
/-- int(n), int(flag) -/
def dInt : List D → CS → KD → Prop := fun ds C k => (∃ i, ds = [.int i] ∧ k (.int i) C) ∨ ∃ b : Bool, ds = [.bl b] ∧ k (.int (if b then 1 else 0)) C
theorem rl_int : RLD K (fun xs H Q => (∃ i, xs = [.int i] ∧ Q (.int i) H) ∨ ∃ k, xs = [.bl k] ∧ Q (.int (if k then 1 else 0)) H) dInt := by
  rintro xs ds G C H k Q w rs (⟨i, rfl, hk⟩ | ⟨i, rfl, hk⟩) q
  · cases rs with
    | cons r1 r2 => cases r2; cases r1; exact .inl ⟨i, rfl, q _ _ _ _ _ (Fr.refl ..) w (.int _) hk⟩
  · cases rs with
    | cons r1 r2 => cases r2; cases r1; exact .inr ⟨i, rfl, q _ _ _ _ _ (Fr.refl ..) w (.int _) hk⟩
def dStrInt : List D → CS → KD → Prop := fun ds C k => ∃ i : Int, ds = [.int i] ∧ i.natAbs.log2 < 1920 ∧ k (.str (toString i)) C
theorem rl_str : RLD K (fun xs H Q => ∃ i : Int, xs = [.int i] ∧ i.natAbs.log2 < 1920 ∧ Q (.str (toString i)) H) dStrInt := by
  rintro xs ds G C H k Q w rs ⟨i, rfl, h, hk⟩ q
  cases rs with
  | cons r1 r2 => cases r2; cases r1; exact ⟨i, rfl, h, q _ _ _ _ _ (Fr.refl ..) w (.str _) hk⟩
/-- tuple(xs) -/
def dTuple : List D → CS → KD → Prop := fun ds C k => ∃ x, ds = [x] ∧ match x with
  | .tup xs => k (.tup xs) C
  | x => ∃ xs, seqR C x = some xs ∧ k (.tup xs) C
theorem rl_tuple : RLD K (fun xs H Q => ∃ p ys, xs = [.ref p] ∧ ((SqL K H p ys ∧ ∀ l, H l = none → Q (.ref l) (upd H l (.tup ys))) ∨ (SqT K H p ys ∧ Q (.ref p) H))) dTuple := by
  rintro xs ds G C H k Q w rs ⟨x, rfl, hk⟩ q
  cases rs with
  | cons r1 r2 =>
    cases r2
    split at hk
    · obtain ⟨a, vs, rfl, h1, h2⟩ := w.tup r1
      exact ⟨a, vs, rfl, .inr ⟨h1, q _ _ _ _ _ (Fr.refl ..) w r1 hk⟩⟩
    · obtain ⟨ys, h0, hk⟩ := hk
      obtain ⟨a, vs, rfl, h1, h2⟩ := w.seq r1 h0
      refine ⟨a, vs, rfl, .inl ⟨h1, fun p hp => ?_⟩⟩
      obtain ⟨w2, f2, s2⟩ := w.newG hp (.tup vs)
      exact q _ _ _ _ _ f2 w2 (.tup (SqT.of upd_same) (h2.mono s2)) hk
/-- list(xs) -/
def seqA (C : CS) : D → Option (List D)
  | .tup xs => some xs
  | d => seqR C d
theorem Wld.seqA {G H : Hp} {C : CS} {v : V} {d : D} {ds : List D} (w : Wld K G C H) (r : Dat K G v d) (e : seqA C d = some ds) : ∃ a xs, v = .ref a ∧ (SqL K H a xs ∨ SqT K H a xs) ∧ DatAll K G xs ds := by
  unfold DL.seqA at e
  split at e
  · cases e
    obtain ⟨a, vs, rfl, h1, h2⟩ := w.tup r
    exact ⟨a, vs, rfl, .inr h1, h2⟩
  · obtain ⟨a, vs, rfl, h1, h2⟩ := w.seq r e
    exact ⟨a, vs, rfl, .inl h1, h2⟩
def dList : List D → CS → KD → Prop := fun ds C k => ∃ x xs, ds = [x] ∧ seqA C x = some xs ∧ ∀ p, C p = none → k (.own p) (put C p (.lst xs))
theorem rl_list : RLD K (fun xs H Q => ∃ p ys, xs = [.ref p] ∧ (SqL K H p ys ∨ SqT K H p ys) ∧ ∀ l, H l = none → Q (.ref l) (upd H l (.lst ys))) dList := by
  rintro xs ds G C H k Q w rs ⟨x, ys, rfl, hs, hk⟩ q
  cases rs with
  | cons r1 r2 =>
    cases r2
    obtain ⟨a, vs, rfl, h1, h2⟩ := w.seqA r1 hs
    refine ⟨a, vs, rfl, h1, fun p hp => ?_⟩
    obtain ⟨w2, f2⟩ := w.newC hp (o := .lst vs) (c := .lst ys) fun H' e => ⟨vs, e, h2⟩
    exact q _ _ _ _ _ f2 w2 (.own p) (hk p (w.ne hp).2)
def dAny : List D → CS → KD → Prop := fun ds C k => ∃ x, ∃ bs : List Bool, ds = [x] ∧ seqR C x = some (bs.map D.bl) ∧ k (.bl (bs.any id)) C
theorem rl_any : RLD K (rAny K) dAny := by
  rintro xs ds G C H k Q w rs ⟨x, bs, rfl, hs, hk⟩ q
  cases rs with
  | cons r1 r2 =>
    cases r2
    obtain ⟨a, vs, rfl, h1, h2⟩ := w.seq r1 hs
    have := datAll_bls h2
    subst this
    exact ⟨a, bs, rfl, h1, q _ _ _ _ _ (Fr.refl ..) w (.bl _) hk⟩
def dAll : List D → CS → KD → Prop := fun ds C k => ∃ x, ∃ bs : List Bool, ds = [x] ∧ seqR C x = some (bs.map D.bl) ∧ k (.bl (bs.all id)) C
theorem rl_all : RLD K (rAll K) dAll := by
  rintro xs ds G C H k Q w rs ⟨x, bs, rfl, hs, hk⟩ q
  cases rs with
  | cons r1 r2 =>
    cases r2
    obtain ⟨a, vs, rfl, h1, h2⟩ := w.seq r1 hs
    have := datAll_bls h2
    subst this
    exact ⟨a, bs, rfl, h1, q _ _ _ _ _ (Fr.refl ..) w (.bl _) hk⟩
def dSum : List D → CS → KD → Prop := fun ds C k => ∃ x, ∃ ns : List Int, ds = [x] ∧ seqR C x = some (ns.map D.int) ∧ k (.int ns.sum) C
theorem rl_sum : RLD K (rSum K) dSum := by
  rintro xs ds G C H k Q w rs ⟨x, ns, rfl, hs, hk⟩ q
  cases rs with
  | cons r1 r2 =>
    cases r2
    obtain ⟨a, vs, rfl, h1, h2⟩ := w.seq r1 hs
    have := datAll_ints h2
    subst this
    exact ⟨a, ns, rfl, h1, q _ _ _ _ _ (Fr.refl ..) w (.int _) hk⟩
def dMinL : List D → CS → KD → Prop := fun ds C k => ∃ x, ∃ ns : List Int, ds = [x] ∧ seqR C x = some (ns.map D.int) ∧ 0 < ns.length ∧ ∀ m, m ∈ ns → (∀ y, y ∈ ns → m ≤ y) → k (.int m) C
theorem rl_minL : RLD K (rMin K) dMinL := by
  rintro xs ds G C H k Q w rs ⟨x, ns, rfl, hs, h0, hk⟩ q
  cases rs with
  | cons r1 r2 =>
    cases r2
    obtain ⟨a, vs, rfl, h1, h2⟩ := w.seq r1 hs
    have := datAll_ints h2
    subst this
    exact ⟨a, ns, rfl, h1, h0, fun m hm hy => q _ _ _ _ _ (Fr.refl ..) w (.int _) (hk m hm hy)⟩
/-- isinstance -/
def tyN (C : CS) : D → Option String
  | .non => some "NoneType"
  | .bl _ => some "bool"
  | .int _ => some "int"
  | .str _ => some "str"
  | .lst _ => some "list"
  | .slst _ => some "list"
  | .tup _ => some "tuple"
  | .own a => match C a with
    | some (.lst _) => some "list"
    | some (.dic _) => some "dict"
    | _ => none
  | _ => none
theorem sqL_ty {H : Hp} {a : Addr} {vs : List V} (h : SqL K H a vs) : TyX K H (.ref a) (.type "list") := by
  rcases h with (h | ⟨o, h⟩) | ⟨o, its, n, h, h1, _⟩
  · exact .base (.lst h)
  · exact .base (.frz h)
  · exact .kList h h1
theorem sqT_ty {H : Hp} {a : Addr} {vs : List V} (h : SqT K H a vs) : TyX K H (.ref a) (.type "tuple") := by
  rcases h with (h | ⟨o, h⟩) | ⟨o, its, n, h, h1, _⟩
  · exact .base (.tup h)
  · exact .fTuple h
  · exact .kTuple h h1
theorem tyN_ok {G H : Hp} {C : CS} {v : V} {d : D} {T : String} (w : Wld K G C H) (r : Dat K G v d) (e : tyN C d = some T) : TyX K H v (.type T) := by
  cases r with
  | non => simp [tyN] at e; subst e; exact .base .non
  | bl b => simp [tyN] at e; subst e; exact .base (.bl b)
  | int b => simp [tyN] at e; subst e; exact .base (.int b)
  | str b => simp [tyN] at e; subst e; exact .base (.str b)
  | lst a b => simp [tyN] at e; subst e; exact .base (.lst (w.ex _ _ a))
  | slst a b => simp [tyN] at e; subst e; exact sqL_ty (w.ex.seq a)
  | tup a b => simp [tyN] at e; subst e; exact sqT_ty (Same.sqT w.ex a)
  | own a =>
    unfold tyN at e
    cases q : C a with
    | none => simp [q] at e
    | some c =>
      obtain ⟨_, hc⟩ := w.cell a c q
      cases c with
      | lst ds => simp [q] at e; subst e; obtain ⟨vs, h1, _⟩ := hc; exact .base (.lst h1)
      | dic ds => simp [q] at e; subst e; obtain ⟨vs, h1, _⟩ := hc; exact .base (.dK h1)
      | ins _ _ _ => simp [q] at e
  | _ => simp [tyN] at e
def dIsi : List D → CS → KD → Prop := fun ds C k => ∃ x T U b, ds = [x, .opq (.ty U)] ∧ tyN C x = some T ∧ kitB T U = some b ∧ k (.bl b) C
theorem rl_isi : RLD K (rIsi K) dIsi := by
  rintro xs ds G C H k Q w rs ⟨x, T, U, b, rfl, ht, hb, hk⟩ q
  cases rs with
  | cons r1 r2 =>
    cases r2 with
    | cons r2 r3 =>
      cases r3; cases r2
      exact ⟨_, _, .type T, .type U, b, rfl, .ty U, tyN_ok w r1 ht, kit_ty hb, q _ _ _ _ _ (Fr.refl ..) w (.bl _) hk⟩
end
end DL
/-! DLh: the rules in the forms that a walk by syntax applies. -/
namespace DL
open PySem PySem.Spec PyProof.Rows L2

/-- the module leaves these built-in names alone -/
structure Zs (mg : Str → Option Value) : Prop where
  int : mg "int" = none
  bool : mg "bool" = none
  str : mg "str" = none
  list : mg "list" = none
  tuple : mg "tuple" = none
  len : mg "len" = none
  isi : mg "isinstance" = none
  abs : mg "abs" = none
  min : mg "min" = none
  max : mg "max" = none
  any : mg "any" = none
  all : mg "all" = none
  sum : mg "sum" = none
  range : mg "range" = none
  zip : mg "zip" = none
  enum : mg "enumerate" = none
  repr : mg "repr" = none
  sorted : mg "sorted" = none
  dict : mg "dict" = none
theorem bt_int : bootBuiltins "int" = some (.type "int") := by first | exact boot_int | exact PyProof.Rows.boot_int | decide +kernel
theorem bt_bool : bootBuiltins "bool" = some (.type "bool") := boot_bool
theorem bt_str : bootBuiltins "str" = some (.type "str") := boot_str
theorem bt_list : bootBuiltins "list" = some (.type "list") := boot_list
theorem bt_tuple : bootBuiltins "tuple" = some (.type "tuple") := by first | exact boot_tuple | exact PyProof.Rows.boot_tuple | decide +kernel
theorem bt_len : bootBuiltins "len" = some (.builtin "len") := PySem.boot_len
theorem bt_isi : bootBuiltins "isinstance" = some (.builtin "isinstance") := PyProof.Rows.boot_isinstance
theorem bt_abs : bootBuiltins "abs" = some (.builtin "abs") := boot_abs
theorem bt_min : bootBuiltins "min" = some (.builtin "min") := boot_min
theorem bt_max : bootBuiltins "max" = some (.builtin "max") := boot_max
theorem bt_any : bootBuiltins "any" = some (.builtin "any") := boot_any
theorem bt_all : bootBuiltins "all" = some (.builtin "all") := boot_all
theorem bt_sum : bootBuiltins "sum" = some (.builtin "sum") := boot_sum

/-- ** of ints of at most a thousand bits -/
def CPowW (i j : Int) : Prop := 0 ≤ j ∧ j ≤ 100 ∧ i.natAbs < 2 ^ 1000
theorem op_powW {X : Cx} : OpR X (binaryOp .Pow) (rI CPowW fun i j => .int (i ^ j.toNat)) := opI fun i j _ _ _ _ _ hc q => pow_int hc.1 (by
  obtain ⟨h0, h1, h2⟩ := hc
  have b : Builtin.Int.intBits i ≤ 1000 := by
    unfold Builtin.Int.intBits
    split
    · exact Nat.zero_le _
    · rename_i h
      have := (Nat.log2_lt (n := i.natAbs) (k := 1000) (by simpa using h)).mpr h2
      omega
  have : (Builtin.Int.intBits i : Int) * j ≤ 1000 * 100 := Int.mul_le_mul (by omega) h1 h0 (by decide)
  exact Int.le_trans this (by decide)) q
section
variable {X : Cx} {e a b : Expr} {es : List Expr} {env : DEnv} {C : CS} {k : KD} {pos p p1 p2 : Pos} {kb : Bool → CS → Prop}
theorem we_len (Z : Zs X.mg) (hg : Gl X "len") (h : WA X (e :: es) env C fun ds C1 => dLen ds C1 k) (he : starEach (e :: es) X.env = (false, eval e X.env) :: starEach es X.env := by rfl) (hpl : (backTo pos (starEach es X.env)).any (·.1) = false := by rfl) : WE X (.Call (.Name "len" p) (e :: es) [] pos) env C k := we_cb Z.len call_len rl_len hg bt_len h (he := he) (hpl := hpl)
theorem we_isi (Z : Zs X.mg) (hg : Gl X "isinstance") (h : WA X (e :: es) env C fun ds C1 => dIsi ds C1 k) (he : starEach (e :: es) X.env = (false, eval e X.env) :: starEach es X.env := by rfl) (hpl : (backTo pos (starEach es X.env)).any (·.1) = false := by rfl) : WE X (.Call (.Name "isinstance" p) (e :: es) [] pos) env C k := we_cb Z.isi call_isi rl_isi hg bt_isi h (he := he) (hpl := hpl)
theorem we_abs (Z : Zs X.mg) (hg : Gl X "abs") (h : WA X (e :: es) env C fun ds C1 => dInt1 (fun i => if i < 0 then -i else i) ds C1 k) (he : starEach (e :: es) X.env = (false, eval e X.env) :: starEach es X.env := by rfl) (hpl : (backTo pos (starEach es X.env)).any (·.1) = false := by rfl) : WE X (.Call (.Name "abs" p) (e :: es) [] pos) env C k := we_cb Z.abs call_abs rl_int1 hg bt_abs h (he := he) (hpl := hpl)
theorem we_max2 (hc : X.calm = true) (Z : Zs X.mg) (hg : Gl X "max") (h : WA X [a, b] env C fun ds C1 => dInt2 (fun i j => if j > i then j else i) ds C1 k) (he : starEach [a, b] X.env = (false, eval a X.env) :: starEach [b] X.env := by rfl) (hpl : (backTo pos (starEach [b] X.env)).any (·.1) = false := by rfl) : WE X (.Call (.Name "max" p) [a, b] [] pos) env C k := we_cb Z.max (call_max2 hc) rl_int2 hg bt_max h (he := he) (hpl := hpl)
theorem we_min2 (hc : X.calm = true) (Z : Zs X.mg) (hg : Gl X "min") (h : WA X [a, b] env C fun ds C1 => dInt2 (fun i j => if j < i then j else i) ds C1 k) (he : starEach [a, b] X.env = (false, eval a X.env) :: starEach [b] X.env := by rfl) (hpl : (backTo pos (starEach [b] X.env)).any (·.1) = false := by rfl) : WE X (.Call (.Name "min" p) [a, b] [] pos) env C k := we_cb Z.min (call_min2 hc) rl_int2 hg bt_min h (he := he) (hpl := hpl)
theorem we_minL (hc : X.calm = true) (Z : Zs X.mg) (hg : Gl X "min") (h : WA X [a] env C fun ds C1 => dMinL ds C1 k) (he : starEach [a] X.env = (false, eval a X.env) :: starEach [] X.env := by rfl) (hpl : (backTo pos (starEach [] X.env)).any (·.1) = false := by rfl) : WE X (.Call (.Name "min" p) [a] [] pos) env C k := we_cb Z.min (cr_min hc) rl_minL hg bt_min h (he := he) (hpl := hpl)
theorem we_any (hc : X.calm = true) (Z : Zs X.mg) (hg : Gl X "any") (h : WA X (e :: es) env C fun ds C1 => dAny ds C1 k) (he : starEach (e :: es) X.env = (false, eval e X.env) :: starEach es X.env := by rfl) (hpl : (backTo pos (starEach es X.env)).any (·.1) = false := by rfl) : WE X (.Call (.Name "any" p) (e :: es) [] pos) env C k := we_cb Z.any (cr_any hc) rl_any hg bt_any h (he := he) (hpl := hpl)
theorem we_all (hc : X.calm = true) (Z : Zs X.mg) (hg : Gl X "all") (h : WA X (e :: es) env C fun ds C1 => dAll ds C1 k) (he : starEach (e :: es) X.env = (false, eval e X.env) :: starEach es X.env := by rfl) (hpl : (backTo pos (starEach es X.env)).any (·.1) = false := by rfl) : WE X (.Call (.Name "all" p) (e :: es) [] pos) env C k := we_cb Z.all (cr_all hc) rl_all hg bt_all h (he := he) (hpl := hpl)
theorem we_sum (hc : X.calm = true) (Z : Zs X.mg) (hg : Gl X "sum") (h : WA X (e :: es) env C fun ds C1 => dSum ds C1 k) (he : starEach (e :: es) X.env = (false, eval e X.env) :: starEach es X.env := by rfl) (hpl : (backTo pos (starEach es X.env)).any (·.1) = false := by rfl) : WE X (.Call (.Name "sum" p) (e :: es) [] pos) env C k := we_cb Z.sum (cr_sum hc) rl_sum hg bt_sum h (he := he) (hpl := hpl)
theorem we_intC (Z : Zs X.mg) (hg : Gl X "int") (h : WA X (e :: es) env C fun ds C1 => dInt ds C1 k) (he : starEach (e :: es) X.env = (false, eval e X.env) :: starEach es X.env := by rfl) (hpl : (backTo pos (starEach es X.env)).any (·.1) = false := by rfl) : WE X (.Call (.Name "int" p) (e :: es) [] pos) env C k := we_ct Z.int call_int1 rl_int hg bt_int h (he := he) (hpl := hpl)
theorem we_strC (Z : Zs X.mg) (hg : Gl X "str") (h : WA X (e :: es) env C fun ds C1 => dStrInt ds C1 k) (he : starEach (e :: es) X.env = (false, eval e X.env) :: starEach es X.env := by rfl) (hpl : (backTo pos (starEach es X.env)).any (·.1) = false := by rfl) : WE X (.Call (.Name "str" p) (e :: es) [] pos) env C k := we_ct Z.str call_str_int rl_str hg bt_str h (he := he) (hpl := hpl)
theorem we_tupleC (Z : Zs X.mg) (hg : Gl X "tuple") (h : WA X (e :: es) env C fun ds C1 => dTuple ds C1 k) (he : starEach (e :: es) X.env = (false, eval e X.env) :: starEach es X.env := by rfl) (hpl : (backTo pos (starEach es X.env)).any (·.1) = false := by rfl) : WE X (.Call (.Name "tuple" p) (e :: es) [] pos) env C k := we_ct Z.tuple call_tuple_of rl_tuple hg bt_tuple h (he := he) (hpl := hpl)
theorem we_listC (Z : Zs X.mg) (hg : Gl X "list") (h : WA X (e :: es) env C fun ds C1 => dList ds C1 k) (he : starEach (e :: es) X.env = (false, eval e X.env) :: starEach es X.env := by rfl) (hpl : (backTo pos (starEach es X.env)).any (·.1) = false := by rfl) : WE X (.Call (.Name "list" p) (e :: es) [] pos) env C k := we_ct Z.list call_list_of rl_list hg bt_list h (he := he) (hpl := hpl)
theorem we_tyInt (Z : Zs X.mg) (hg : Gl X "int") (h : k (.opq (.ty "int")) C) : WE X (.Name "int" pos) env C k := we_bty Z.int hg bt_int h
theorem we_tyBool (Z : Zs X.mg) (hg : Gl X "bool") (h : k (.opq (.ty "bool")) C) : WE X (.Name "bool" pos) env C k := we_bty Z.bool hg bt_bool h
theorem we_tyStr (Z : Zs X.mg) (hg : Gl X "str") (h : k (.opq (.ty "str")) C) : WE X (.Name "str" pos) env C k := we_bty Z.str hg bt_str h
theorem we_tyList (Z : Zs X.mg) (hg : Gl X "list") (h : k (.opq (.ty "list")) C) : WE X (.Name "list" pos) env C k := we_bty Z.list hg bt_list h
theorem we_tyTuple (Z : Zs X.mg) (hg : Gl X "tuple") (h : k (.opq (.ty "tuple")) C) : WE X (.Name "tuple" pos) env C k := we_bty Z.tuple hg bt_tuple h

/-! operators by their sign -/
theorem we_add (h : WE X a env C fun x C1 => WE X b env C1 fun y C2 => dAdd x y C2 k) : WE X (.BinOp a .Add b pos) env C k := we_op op_addA r2_add h
theorem we_sub' (h : WE X a env C fun x C1 => WE X b env C1 fun y C2 => dI2 (fun i j => i - j) (fun _ _ => True) x y C2 k) : WE X (.BinOp a .Sub b pos) env C k := we_op op_sub r2_I0 h
theorem we_mul (h : WE X a env C fun x C1 => WE X b env C1 fun y C2 => dMul x y C2 k) : WE X (.BinOp a .Mult b pos) env C k := we_op op_mulA r2_mul h
theorem we_mod (h : WE X a env C fun x C1 => WE X b env C1 fun y C2 => dI2 (fun i j => i % j) (fun _ j => 0 < j) x y C2 k) : WE X (.BinOp a .Mod b pos) env C k := we_op op_mod r2_I h
theorem we_fdiv (h : WE X a env C fun x C1 => WE X b env C1 fun y C2 => dI2 (fun i j => i / j) CDiv x y C2 k) : WE X (.BinOp a .FloorDiv b pos) env C k := we_op op_fdiv r2_I h
theorem we_pow (h : WE X a env C fun x C1 => WE X b env C1 fun y C2 => dI2 (fun i j => i ^ j.toNat) CPowW x y C2 k) : WE X (.BinOp a .Pow b pos) env C k := we_op op_powW r2_I h
theorem we_neg (h : WE X a env C fun x C1 => ∃ i, x = .int i ∧ k (.int (-i)) C1) : WE X (.UnaryOp .USub a pos) env C k := we_un (p := fun x C k => ∃ i, x = .int i ∧ k (.int (-i)) C) un_neg (by
  rintro x d G C H k Q w r ⟨i, rfl, hk⟩ q
  cases r
  exact ⟨i, rfl, q _ _ _ _ _ (Fr.refl ..) w (.int _) hk⟩) h
theorem we_lt (h : WE X a env C fun x C1 => WE X b env C1 fun y C2 => dB2 (fun i j => decide (i < j)) x y C2 k) : WE X (.Compare a [.Lt] [b] pos) env C k := we_cmp op_lt r2_B h (nomark _)
theorem we_le (h : WE X a env C fun x C1 => WE X b env C1 fun y C2 => dB2 (fun i j => decide (i ≤ j)) x y C2 k) : WE X (.Compare a [.LtE] [b] pos) env C k := we_cmp op_le r2_B h (nomark _)
theorem we_gt (h : WE X a env C fun x C1 => WE X b env C1 fun y C2 => dB2 (fun i j => decide (j < i)) x y C2 k) : WE X (.Compare a [.Gt] [b] pos) env C k := we_cmp op_gt r2_B h (nomark _)
theorem we_ge (h : WE X a env C fun x C1 => WE X b env C1 fun y C2 => dB2 (fun i j => decide (j ≤ i)) x y C2 k) : WE X (.Compare a [.GtE] [b] pos) env C k := we_cmp op_ge r2_B h (nomark _)
theorem we_eq {m : Nat} (hr : Room m X.A) (h : WE X a env C fun x C1 => WE X b env C1 fun y C2 => dEq false x y C2 k) : WE X (.Compare a [.Eq] [b] pos) env C k := we_cmp (OpR.or (op_eqD hr.units) op_eq) r2_eq h (nomark _)
theorem we_ne {m : Nat} (hr : Room m X.A) (h : WE X a env C fun x C1 => WE X b env C1 fun y C2 => dEq true x y C2 k) : WE X (.Compare a [.NotEq] [b] pos) env C k := we_cmp (OpR.or (op_neD hr.units) op_ne) r2_ne h (nomark _)
theorem we_is (h : WE X a env C fun x C1 => WE X b env C1 fun y C2 => dIsN false x y C2 k) : WE X (.Compare a [.Is] [b] pos) env C k := we_cmp op_isN r2_isN h (nomark _)
theorem we_isnot (h : WE X a env C fun x C1 => WE X b env C1 fun y C2 => dIsN true x y C2 k) : WE X (.Compare a [.IsNot] [b] pos) env C k := we_cmp op_notN r2_notN h (nomark _)
theorem Room.u65 {m : Nat} {A : Around} (r : Room m A) : A.units + 65 < cLine := by have := r.un; omega
/-! ### a text in a tuple of texts -/
def dInT (neg : Bool) : OpD := fun x y C k => ∃ (z : Str) (zs : List Str), x = .str z ∧ y = .tup (zs.map D.str) ∧ k (.bl (if neg = true then !decide (z ∈ zs) else decide (z ∈ zs))) C
theorem inV_strs (z : Str) : ∀ zs : List Str, inV (.str z) (zs.map V.str) = decide (z ∈ zs)
  | [] => rfl
  | y :: zs => by
    unfold inV
    rw [List.map_cons, List.any_cons]
    have ih := inV_strs z zs
    unfold inV at ih
    rw [ih]
    by_cases h : y = z
    · subst h; simp [eqV]
    · have h' : ¬ z = y := fun e => h e.symm
      simp [eqV, h, h']
theorem flat_strs : ∀ zs : List Str, (zs.map V.str).all flatV = true
  | [] => rfl
  | y :: zs => by rw [List.map_cons, List.all_cons, flat_strs zs]; rfl
theorem r2_inT {K : PySem.W.Frag} : R2D K (rIn K false) (dInT false) := by
  rintro x y a b G C H k Q w da db ⟨z, zs, rfl, rfl, h⟩ q
  cases da
  obtain ⟨l, vs, rfl, h1, h2⟩ := w.tup db
  have := datAll_strs h2
  subst this
  refine ⟨l, _, rfl, .inr h1, rfl, flat_strs zs, ?_⟩
  rw [if_neg (by decide), inV_strs]
  exact q _ _ _ _ _ (Fr.refl ..) w (.bl _) h
theorem r2_ninT {K : PySem.W.Frag} : R2D K (rIn K true) (dInT true) := by
  rintro x y a b G C H k Q w da db ⟨z, zs, rfl, rfl, h⟩ q
  cases da
  obtain ⟨l, vs, rfl, h1, h2⟩ := w.tup db
  have := datAll_strs h2
  subst this
  refine ⟨l, _, rfl, .inr h1, rfl, flat_strs zs, ?_⟩
  rw [if_pos rfl, inV_strs]
  exact q _ _ _ _ _ (Fr.refl ..) w (.bl _) h
def dIn (neg : Bool) : OpD := fun x y C k => match y with
  | .str _ => dInS neg x y C k
  | .tup _ => dInT neg x y C k
  | _ => dInL neg x y C k
theorem OpR.iff {X : Cx} {f : Value → Value → Sem Value} {r : R2} (h : OpR X f r) : OpR X f r := h
theorem r2_in {K : PySem.W.Frag} : R2D K (fun x y H Q => rInD K x y H Q ∨ (∃ (c : Nat) (z : Str), x = .str ⟨#[c]⟩ ∧ y = .str z ∧ Q (.bl (decide (c ∈ z.cps.toList))) H) ∨ rIn K false x y H Q) (dIn false) := by
  intro x y a b G C H k Q w da db h q
  unfold dIn at h
  split at h
  · exact .inr (.inl (r2_inS (K := K) x y a _ G C H k Q w da db h q))
  · exact .inr (.inr (r2_inT x y a _ G C H k Q w da db h q))
  · exact .inl (r2_inL x y a _ G C H k Q w da db h q)
theorem r2_nin {K : PySem.W.Frag} : R2D K (fun x y H Q => rNotInD K x y H Q ∨ (∃ (c : Nat) (z : Str), x = .str ⟨#[c]⟩ ∧ y = .str z ∧ Q (.bl (!decide (c ∈ z.cps.toList))) H) ∨ rIn K true x y H Q) (dIn true) := by
  intro x y a b G C H k Q w da db h q
  unfold dIn at h
  split at h
  · exact .inr (.inl (r2_ninS (K := K) x y a _ G C H k Q w da db h q))
  · exact .inr (.inr (r2_ninT x y a _ G C H k Q w da db h q))
  · exact .inl (r2_ninL x y a _ G C H k Q w da db h q)
theorem we_in {m : Nat} (hr : Room m X.A) (h : WE X a env C fun x C1 => WE X b env C1 fun y C2 => dIn false x y C2 k) (hm : behindInMarks .In b = false := by rfl) : WE X (.Compare a [.In] [b] pos) env C k := we_cmp (OpR.or (op_inD (Room.u65 hr)) (OpR.or op_in_sign op_in_seq)) r2_in h hm
theorem we_nin {m : Nat} (hr : Room m X.A) (h : WE X a env C fun x C1 => WE X b env C1 fun y C2 => dIn true x y C2 k) (hm : behindInMarks .NotIn b = false := by rfl) : WE X (.Compare a [.NotIn] [b] pos) env C k := we_cmp (OpR.or (op_notInD (Room.u65 hr)) (OpR.or op_notIn_sign op_notIn_seq)) r2_nin h hm
abbrev tb (kb : Bool → CS → Prop) : KD := fun d C => ∃ t, d = .bl t ∧ kb t C
theorem wt_lt (h : WE X a env C fun x C1 => WE X b env C1 fun y C2 => dB2 (fun i j => decide (i < j)) x y C2 (tb kb)) : WT X (.Compare a [.Lt] [b] pos) env C kb := wt_cmp op_lt r2_B h (nomark _)
theorem wt_le (h : WE X a env C fun x C1 => WE X b env C1 fun y C2 => dB2 (fun i j => decide (i ≤ j)) x y C2 (tb kb)) : WT X (.Compare a [.LtE] [b] pos) env C kb := wt_cmp op_le r2_B h (nomark _)
theorem wt_gt (h : WE X a env C fun x C1 => WE X b env C1 fun y C2 => dB2 (fun i j => decide (j < i)) x y C2 (tb kb)) : WT X (.Compare a [.Gt] [b] pos) env C kb := wt_cmp op_gt r2_B h (nomark _)
theorem wt_ge (h : WE X a env C fun x C1 => WE X b env C1 fun y C2 => dB2 (fun i j => decide (j ≤ i)) x y C2 (tb kb)) : WT X (.Compare a [.GtE] [b] pos) env C kb := wt_cmp op_ge r2_B h (nomark _)
theorem wt_eq {m : Nat} (hr : Room m X.A) (h : WE X a env C fun x C1 => WE X b env C1 fun y C2 => dEq false x y C2 (tb kb)) : WT X (.Compare a [.Eq] [b] pos) env C kb := wt_cmp (OpR.or (op_eqD hr.units) op_eq) r2_eq h (nomark _)
theorem wt_ne {m : Nat} (hr : Room m X.A) (h : WE X a env C fun x C1 => WE X b env C1 fun y C2 => dEq true x y C2 (tb kb)) : WT X (.Compare a [.NotEq] [b] pos) env C kb := wt_cmp (OpR.or (op_neD hr.units) op_ne) r2_ne h (nomark _)
theorem wt_is (h : WE X a env C fun x C1 => WE X b env C1 fun y C2 => dIsN false x y C2 (tb kb)) : WT X (.Compare a [.Is] [b] pos) env C kb := wt_cmp op_isN r2_isN h (nomark _)
theorem wt_isnot (h : WE X a env C fun x C1 => WE X b env C1 fun y C2 => dIsN true x y C2 (tb kb)) : WT X (.Compare a [.IsNot] [b] pos) env C kb := wt_cmp op_notN r2_notN h (nomark _)
theorem wt_in {m : Nat} (hr : Room m X.A) (h : WE X a env C fun x C1 => WE X b env C1 fun y C2 => dIn false x y C2 (tb kb)) (hm : behindInMarks .In b = false := by rfl) : WT X (.Compare a [.In] [b] pos) env C kb := wt_cmp (OpR.or (op_inD (Room.u65 hr)) (OpR.or op_in_sign op_in_seq)) r2_in h hm
theorem wt_nin {m : Nat} (hr : Room m X.A) (h : WE X a env C fun x C1 => WE X b env C1 fun y C2 => dIn true x y C2 (tb kb)) (hm : behindInMarks .NotIn b = false := by rfl) : WT X (.Compare a [.NotIn] [b] pos) env C kb := wt_cmp (OpR.or (op_notInD (Room.u65 hr)) (OpR.or op_notIn_sign op_notIn_seq)) r2_nin h hm
end

/-! ### names by place -/
/-- a name's value, found by syntax -/
inductive Get : List Str → Str → DEnv → D → Prop where
  | here (x : Str) (N : List Str) (d : D) (l : DEnv) : Get (x :: N) x (some d :: l) d
  | there (y : Str) (o : Option D) {x : Str} {N : List Str} {l : DEnv} {d : D} (h : Get N x l d) : Get (y :: N) x (o :: l) d
/-- the places behind a store -/
inductive Put : List Str → Str → DEnv → (D → DEnv) → Prop where
  | here (x : Str) (N : List Str) (o : Option D) (l : DEnv) : Put (x :: N) x (o :: l) fun d => some d :: l
  | there (y : Str) (o : Option D) {x : Str} {N : List Str} {l : DEnv} {f : D → DEnv} (h : Put N x l f) : Put (y :: N) x (o :: l) fun d => o :: f d
theorem Get.get {N : List Str} {x : Str} {env : DEnv} {d : D} (h : Get N x env d) : ∃ i : Nat, N[i]? = some x ∧ env[i]? = some (some d) := by
  induction h with
  | here => exact ⟨0, rfl, rfl⟩
  | there y o _ ih => obtain ⟨i, h1, h2⟩ := ih; exact ⟨i + 1, by simpa using h1, by simpa using h2⟩
theorem Put.set {N : List Str} {x : Str} {env : DEnv} {f : D → DEnv} (h : Put N x env f) : ∃ i : Nat, N[i]? = some x ∧ (∀ d, env.set i (some d) = f d) ∧ ∀ d, (wipeD env [i]).set i (some d) = f d := by
  induction h with
  | here => exact ⟨0, rfl, fun _ => rfl, fun _ => rfl⟩
  | there y o _ ih =>
    obtain ⟨i, h1, h2, h3⟩ := ih
    refine ⟨i + 1, by simpa using h1, fun d => by simpa using h2 d, fun d => ?_⟩
    have := h3 d
    simp only [wipeD] at this ⊢
    simpa using this
/-- x stands in a written list -/
inductive Mem : Str → List Str → Prop where
  | here (x : Str) (l : List Str) : Mem x (x :: l)
  | there (y : Str) {x : Str} {l : List Str} (h : Mem x l) : Mem x (y :: l)
theorem Mem.mem {x : Str} {l : List Str} (h : Mem x l) : x ∈ l := by
  induction h with
  | here => exact List.mem_cons_self
  | there y _ ih => exact List.mem_cons_of_mem _ ih
/-- a context's own names: by place; those that are read -/
structure Nms (X : Cx) (N M : List Str) : Prop where
  n : X.N = N
  nd : X.N.Nodup
  vis : ∀ y ∈ M, Vis X.env.scope y
  ndb : ∀ y ∈ M, (y == ("__debug__" : Str)) = false
  ncd : ∀ y ∈ M, (y == ("__classdict__" : Str)) = false
/-- .. those that may be stored -/
structure Sts (X : Cx) (N M : List Str) : Prop where
  n : X.N = N
  nd : X.N.Nodup
  loc : ∀ y ∈ M, Loc X.env.scope y
  fn : ∀ y ∈ M, X.fn y = true ∨ X.env.scope.names.lookup y = some .local
section
variable {X : Cx} {e : Expr} {env : DEnv} {C : CS} {k : KD} {pos pos' : Pos} {E : DEnds} {N M : List Str} {i : Nat} {x : Str} {d : D} {f : D → DEnv}
theorem we_nm (B : Nms X N M) (hm' : Mem x M) (hi : Get N x env d) (h : k d C) : WE X (.Name x pos) env C k := by
  obtain ⟨i, h1, h2⟩ := hi.get
  have hm : x ∈ M := hm'.mem
  exact we_var (by rw [B.n]; exact h1) (B.vis x hm) h2 h (B.ndb x hm) (B.ncd x hm)
theorem ws_nm (B : Sts X N M) (hm' : Mem x M) (hi : Put N x env f) (h : WE X e env C fun d C1 => E.nx (f d) C1) (hs : swapsWith e (some (.Name x pos')) pos.line X.env = pure false := by rfl) : WS X (.Assign [.Name x pos'] e pos) env C E := by
  obtain ⟨i, h1, h2, _⟩ := hi.set
  have hm : x ∈ M := hm'.mem
  exact ws_set (i := i) B.nd (by rw [B.n]; exact h1) (B.loc x hm) (h.imp fun d C' z => by rw [h2]; exact z) hs (B.fn x hm)
theorem wg_nm {kE : DEnv → CS → Prop} (B : Sts X N M) (hm' : Mem x M) (hi : Put N x env f) (h : kE (f d) C) : WG X (.Name x pos) d env C kE := by
  obtain ⟨i, h1, h2, _⟩ := hi.set
  have hm : x ∈ M := hm'.mem
  exact wg_name (i := i) B.nd (by rw [B.n]; exact h1) (B.loc x hm) (by rw [h2]; exact h) (B.fn x hm)
theorem ws_augNm {op : Operator} {ti : TIp} {p : OpD} (B : Sts X N M) (hm' : Mem x M) (hg : Get N x env d) (hi : Put N x env f) (ho : PIp X op ti) (hr : RID X.K ti p) (h : WE X e env C fun y C1 => p d y C1 fun z C2 => E.nx (f z) C2) : WS X (.AugAssign (.Name x pos') op e pos) env C E := by
  obtain ⟨i, h1, h2, _⟩ := hi.set
  obtain ⟨j, h3, h4⟩ := hg.get
  have hm : x ∈ M := hm'.mem
  have nd := B.nd
  rw [B.n] at nd
  have hij : i = j := nodup_ix nd h1 h3
  subst hij
  exact ws_aug (i := i) B.nd (by rw [B.n]; exact h1) (B.loc x hm) ho hr h4 (by simpa only [h2] using h) (B.fn x hm)
theorem ws_augAdd (B : Sts X N M) (hm' : Mem x M) (hg : Get N x env d) (hi : Put N x env f) (h : WE X e env C fun y C1 => dI2 (fun i j => i + j) (fun _ _ => True) d y C1 fun z C2 => E.nx (f z) C2) : WS X (.AugAssign (.Name x pos') .Add e pos) env C E :=
  ws_augNm B hm' hg hi ip_add (p := dI2 (fun i j => i + j) fun _ _ => True) (by
    rintro x y a b G C H k Q w da db ⟨i, j, rfl, rfl, _, hk⟩ q
    cases da; cases db
    exact ⟨i, j, rfl, rfl, q _ _ _ _ _ (Fr.refl ..) w (.int _) hk⟩) h
/-- the globals that a context reads -/
structure Gls (X : Cx) (gs : List Str) : Prop where
  gl : ∀ y ∈ gs, Gl X y
end
theorem Gls.at {X : Cx} {gs : List Str} {x : Str} (B : Gls X gs) (h : Mem x gs) : Gl X x := B.gl x h.mem

/-- looks at a scope, by computation -/
def locC (sc : Scope) (N : List Str) : Bool := N.all fun y => (sc.names.lookup y == some .local || sc.names.lookup y == some .cell) && !(y == ("__debug__" : Str)) && !(y == ("__classdict__" : Str))
def visC (sc : Scope) (N : List Str) : Bool := N.all fun y => (sc.names.lookup y == some .local || sc.names.lookup y == some .cell || sc.names.lookup y == some .free) && !(y == ("__debug__" : Str)) && !(y == ("__classdict__" : Str))
def onlyC (sc : Scope) (N : List Str) : Bool := N.all fun y => sc.names.lookup y == some .local
def glC (sc : Scope) (gs : List Str) : Bool := gs.all fun y => sc.names.lookup y == some .globalImplicit
theorem nk_eq {a b : Option NameKind} (h : (a == b) = true) : a = b := by
  cases a <;> cases b <;> first | rfl | (rename_i x y; cases x <;> cases y <;> first | rfl | (exact absurd h (by decide))) | (exact absurd h (by decide)) | (rename_i x; cases x <;> exact absurd h (by decide))
theorem nms_of {X : Cx} {N M : List Str} {sc : Scope} (hn : X.N = N) (hs : X.env.scope = sc) (nd : X.N.Nodup) (h : visC sc M = true) : Nms X N M := by
  unfold visC at h
  rw [List.all_eq_true] at h
  refine ⟨hn, nd, fun y hy => ?_, fun y hy => ?_, fun y hy => ?_⟩
  · have q := h y hy
    simp only [Bool.and_eq_true, Bool.or_eq_true] at q
    rw [hs]
    rcases q.1.1 with (q | q) | q
    · exact .inl (nk_eq q)
    · exact .inr (.inl (nk_eq q))
    · exact .inr (.inr (nk_eq q))
  · have q := h y hy
    simp only [Bool.and_eq_true, Bool.not_eq_true'] at q
    exact q.1.2
  · have q := h y hy
    simp only [Bool.and_eq_true, Bool.not_eq_true'] at q
    exact q.2
theorem sts_of {X : Cx} {N M : List Str} {sc : Scope} (hn : X.N = N) (hs : X.env.scope = sc) (nd : X.N.Nodup) (h : locC sc M = true) (hf : ∀ y, X.fn y = true) : Sts X N M := by
  unfold locC at h
  rw [List.all_eq_true] at h
  refine ⟨hn, nd, fun y hy => ?_, fun y _ => .inl (hf y)⟩
  have q := h y hy
  simp only [Bool.and_eq_true, Bool.or_eq_true] at q
  rw [hs]
  rcases q.1.1 with q | q
  · exact .inl (nk_eq q)
  · exact .inr (nk_eq q)
theorem gls_of {X : Cx} {gs : List Str} {sc : Scope} (hs : X.env.scope = sc) (h : glC sc gs = true) : Gls X gs := by
  unfold glC at h
  rw [List.all_eq_true] at h
  refine ⟨fun y hy => ?_⟩
  show X.env.kindOf y = some .globalImplicit
  unfold Env.kindOf
  rw [hs]
  exact nk_eq (h y hy)
end DL
/-! DLi: small steps by data. -/
namespace DL
open PySem PySem.Spec PyProof.Rows L2

def D.isIntB : D → Bool
  | .int _ => true
  | .bl _ => true
  | _ => false
def D.isBl : D → Bool
  | .bl _ => true
  | _ => false
def D.isStr : D → Bool
  | .str _ => true
  | _ => false
def D.isLst : D → Bool
  | .lst _ => true
  | .slst _ => true
  | _ => false
def D.isTup : D → Bool
  | .tup _ => true
  | _ => false
def D.isNon : D → Bool
  | .non => true
  | _ => false
/-- data whose kind shows -/
def D.kind : D → Bool
  | .non | .bl _ | .int _ | .str _ | .lst _ | .slst _ | .tup _ => true
  | _ => false
theorem kind_of_py {x : D} (h : x.isPy = true) : x.kind = true := by cases x <;> first | rfl | (simp [D.isPy] at h)
section
variable {C : CS} {k : KD} {kb : Bool → CS → Prop} {x y : D} {i j : Int} {b : Bool} {xs ys : List D} {s t : Str} {a : Addr}
theorem isi_int (h : x.kind = true) (q : k (.bl x.isIntB) C) : dIsi [x, .opq (.ty "int")] C k := by
  cases x <;> first | exact ⟨_, _, _, true, rfl, rfl, by decide +kernel, q⟩ | exact ⟨_, _, _, false, rfl, rfl, by decide +kernel, q⟩ | (simp [D.kind] at h; done)
theorem isi_bool (h : x.kind = true) (q : k (.bl x.isBl) C) : dIsi [x, .opq (.ty "bool")] C k := by
  cases x <;> first | exact ⟨_, _, _, true, rfl, rfl, by decide +kernel, q⟩ | exact ⟨_, _, _, false, rfl, rfl, by decide +kernel, q⟩ | (simp [D.kind] at h; done)
theorem isi_str (h : x.kind = true) (q : k (.bl x.isStr) C) : dIsi [x, .opq (.ty "str")] C k := by
  cases x <;> first | exact ⟨_, _, _, true, rfl, rfl, by decide +kernel, q⟩ | exact ⟨_, _, _, false, rfl, rfl, by decide +kernel, q⟩ | (simp [D.kind] at h; done)
theorem isi_list (h : x.kind = true) (q : k (.bl x.isLst) C) : dIsi [x, .opq (.ty "list")] C k := by
  cases x <;> first | exact ⟨_, _, _, true, rfl, rfl, by decide +kernel, q⟩ | exact ⟨_, _, _, false, rfl, rfl, by decide +kernel, q⟩ | (simp [D.kind] at h; done)
theorem isi_tuple (h : x.kind = true) (q : k (.bl x.isTup) C) : dIsi [x, .opq (.ty "tuple")] C k := by
  cases x <;> first | exact ⟨_, _, _, true, rfl, rfl, by decide +kernel, q⟩ | exact ⟨_, _, _, false, rfl, rfl, by decide +kernel, q⟩ | (simp [D.kind] at h; done)
theorem isi_ownL (h : C a = some (.lst xs)) {U : String} (hb : kitB "list" U = some b) (q : k (.bl b) C) : dIsi [.own a, .opq (.ty U)] C k := ⟨_, _, _, _, rfl, by simp [tyN, h], hb, q⟩
theorem i2_ok {f : Int → Int → Int} {P : Int → Int → Prop} (h : P i j) (q : k (.int (f i j)) C) : dI2 f P (.int i) (.int j) C k := ⟨i, j, rfl, rfl, h, q⟩
theorem b2_ok {f : Int → Int → Bool} (q : k (.bl (f i j)) C) : dB2 f (.int i) (.int j) C k := ⟨i, j, rfl, rfl, q⟩
theorem add_ii (q : k (.int (i + j)) C) : dAdd (.int i) (.int j) C k := q
theorem add_ss (h : s.length + t.length ≤ sizeLine) (q : k (.str (s ++ t)) C) : dAdd (.str s) (.str t) C k := ⟨h, q⟩
theorem add_tt (h : xs.length + ys.length ≤ sizeLine) (q : k (.tup (xs ++ ys)) C) : dAdd (.tup xs) (.tup ys) C k := ⟨h, q⟩
theorem mul_ii (h : CMul i j) (q : k (.int (i * j)) C) : dMul (.int i) (.int j) C k := ⟨h, q⟩
theorem tb_ok (q : kb b C) : tb kb (.bl b) C := ⟨b, rfl, q⟩
theorem len_tup (q : k (.int (xs.length : Nat)) C) : dLen [.tup xs] C k := ⟨_, _, rfl, rfl, q⟩
theorem len_str (h : s.length ≤ sizeLine) (q : k (.int (s.length : Nat)) C) : dLen [.str s] C k := ⟨_, _, rfl, ⟨h, rfl⟩, q⟩
theorem len_fr (q : k (.int (xs.length : Nat)) C) : dLen [.lst xs] C k := ⟨_, _, rfl, ⟨xs, rfl, rfl⟩, q⟩
theorem len_sl (q : k (.int (xs.length : Nat)) C) : dLen [.slst xs] C k := ⟨_, _, rfl, ⟨xs, rfl, rfl⟩, q⟩
theorem len_own (h : C a = some (.lst xs)) (q : k (.int (xs.length : Nat)) C) : dLen [.own a] C k := ⟨_, _, rfl, ⟨xs, seqR_own h, rfl⟩, q⟩
theorem ix_t {d : D} (h : atI xs i = some d) (q : k d C) : dIx (.tup xs) (.int i) C k := ⟨d, h, q⟩
theorem ix_f {d : D} (h : atI xs i = some d) (q : k d C) : dIx (.lst xs) (.int i) C k := ⟨xs, d, rfl, h, q⟩
theorem ix_s {d : D} (h : atI xs i = some d) (q : k d C) : dIx (.slst xs) (.int i) C k := ⟨xs, d, rfl, h, q⟩
theorem ix_o {d : D} (hc : C a = some (.lst xs)) (h : atI xs i = some d) (q : k d C) : dIx (.own a) (.int i) C k := ⟨xs, d, seqR_own hc, h, q⟩
theorem ix_z {c : Nat} (hl : s.length ≤ sizeLine) (h : atI s.cps.toList i = some c) (q : k (.str ⟨#[c]⟩) C) : dIx (.str s) (.int i) C k := ⟨hl, c, h, q⟩
theorem sl_t {lo hi : Option Int} (q : k (.tup (cutD xs lo hi)) C) : dSl (.tup xs) lo hi C k := q
theorem sl_z {lo hi : Option Int} (hl : s.length ≤ sizeLine) (q : k (.str (cutS s lo hi)) C) : dSl (.str s) lo hi C k := ⟨hl, q⟩
theorem sl_f {lo hi : Option Int} (q : ∀ p, C p = none → k (.own p) (put C p (.lst (cutD xs lo hi)))) : dSl (.lst xs) lo hi C k := ⟨xs, rfl, q⟩
theorem sl_o {lo hi : Option Int} (hc : C a = some (.lst xs)) (q : ∀ p, C p = none → k (.own p) (put C p (.lst (cutD xs lo hi)))) : dSl (.own a) lo hi C k := ⟨xs, seqR_own hc, q⟩
theorem isn_k (h : x.kind = true) (q : k (.bl x.isNon) C) : dIsN false x .non C k := by
  refine ⟨rfl, ?_⟩
  cases x <;> first | exact q | (simp [D.kind] at h)
theorem nisn_k (h : x.kind = true) (q : k (.bl (!x.isNon)) C) : dIsN true x .non C k := by
  refine ⟨rfl, ?_⟩
  cases x <;> first | exact q | (simp [D.kind] at h)
theorem int1_ok {f : Int → Int} (q : k (.int (f i)) C) : dInt1 f [.int i] C k := ⟨i, rfl, q⟩
theorem int2_ok {f : Int → Int → Int} (q : k (.int (f i j)) C) : dInt2 f [.int i, .int j] C k := ⟨i, j, rfl, q⟩
theorem int_i (q : k (.int i) C) : dInt [.int i] C k := .inl ⟨i, rfl, q⟩
theorem int_b (q : k (.int (if b then 1 else 0)) C) : dInt [.bl b] C k := .inr ⟨b, rfl, q⟩
theorem ins_c {c : Nat} (q : k (.bl (decide (c ∈ s.cps.toList))) C) : dIn false (.str ⟨#[c]⟩) (.str s) C k := ⟨c, s, rfl, rfl, q⟩
theorem tup_t (q : k (.tup xs) C) : dTuple [.tup xs] C k := ⟨_, rfl, q⟩
theorem tup_f (q : k (.tup xs) C) : dTuple [.lst xs] C k := ⟨_, rfl, xs, rfl, q⟩
theorem tup_o (hc : C a = some (.lst xs)) (q : k (.tup xs) C) : dTuple [.own a] C k := ⟨_, rfl, xs, seqR_own hc, q⟩
/-- equality of data -/
def D.ok (x : D) : Bool := x.isPy && SeqAt.shaped x.py
theorem eq_ok (hx : x.ok = true) (hy : y.ok = true) (q : k (.bl (PyData.eqv x.py y.py)) C) : dEq false x y C k := by
  unfold D.ok at hx hy
  rw [Bool.and_eq_true] at hx hy
  refine .inl ⟨x.py, y.py, ?_, ?_, hx.2, hy.2, q⟩
  · cases x <;> first | (unfold pyC; simp only [hx.1]; rfl) | (simp [D.isPy] at hx)
  · cases y <;> first | (unfold pyC; simp only [hy.1]; rfl) | (simp [D.isPy] at hy)
theorem ne_ok (hx : x.ok = true) (hy : y.ok = true) (q : k (.bl (!PyData.eqv x.py y.py)) C) : dEq true x y C k := by
  unfold D.ok at hx hy
  rw [Bool.and_eq_true] at hx hy
  refine .inl ⟨x.py, y.py, ?_, ?_, hx.2, hy.2, q⟩
  · cases x <;> first | (unfold pyC; simp only [hx.1]; rfl) | (simp [D.isPy] at hx)
  · cases y <;> first | (unfold pyC; simp only [hy.1]; rfl) | (simp [D.isPy] at hy)
theorem eq_sS (q : k (.bl (s == t)) C) : dEq false (.str s) (.str t) C k := .inr ⟨s, t, rfl, rfl, q⟩
theorem ne_sS (q : k (.bl (!(s == t))) C) : dEq true (.str s) (.str t) C k := .inr ⟨s, t, rfl, rfl, q⟩
theorem eq_ii (q : k (.bl (i == j)) C) : dEq false (.int i) (.int j) C k := .inl ⟨.int i, .int j, rfl, rfl, rfl, rfl, by simpa [PyData.eqv] using q⟩
theorem ne_ii (q : k (.bl (!(i == j))) C) : dEq true (.int i) (.int j) C k := .inl ⟨.int i, .int j, rfl, rfl, rfl, rfl, by simpa [PyData.eqv] using q⟩
end
end DL
namespace DL
theorem and_T {A B : Prop} (a : A) : (true = true → A) ∧ (true = false → B) := ⟨fun _ => a, fun h => Bool.noConfusion h⟩
theorem and_F {A B : Prop} (b : B) : (false = true → A) ∧ (false = false → B) := ⟨fun h => Bool.noConfusion h, fun _ => b⟩
theorem and_S {b : Bool} {A B : Prop} (h1 : b = true → A) (h2 : b = false → B) : (b = true → A) ∧ (b = false → B) := ⟨h1, h2⟩
theorem ex_bl {b : Bool} {A : Bool → Prop} (h : A b) : ∃ t, D.bl b = D.bl t ∧ A t := ⟨b, rfl, h⟩
theorem ex_int {i : Int} {A : Int → Prop} (h : A i) : ∃ t, D.int i = D.int t ∧ A t := ⟨i, rfl, h⟩
end DL
/-! DLj: comprehensions by names. -/
namespace DL
open PySem PySem.Spec PyProof.Rows L2

/-- a def's context -/
structure Dfc (X : Cx) (N : List Str) (dsc : Scope) : Prop where
  n : X.N = N
  nd : X.N.Nodup
  sc : X.env.scope = dsc
  calm : X.calm = true
def LcB (X : Cx) (elt : Expr) (ifs : List Expr) (scope : Scope) (N M gs : List Str) (f : D → DEnv) (xs : List D) (Pc : CS → Prop) (C1 : CS) (k : KD) : Prop := ∃ Iv : Nat → List D → CS → Prop, Iv 0 [] C1 ∧ (∀ j acc C, Iv j acc C → Pc C) ∧
  (∀ j d acc C, xs[j]? = some d → Iv j acc C → ∀ X', Blk X scope X' → Nms X' N M → Gls X' gs → WIf X' ifs (f d) C fun t C3 => (t = true → ∀ X', Blk X scope X' → Nms X' N M → Gls X' gs → WE X' elt (f d) C3 fun y C4 => acc.length < sizeLine ∧ Iv (j + 1) (acc ++ [y]) C4) ∧ (t = false → Iv (j + 1) acc C3)) ∧
  (∀ acc C, Iv xs.length acc C → ∀ p, C p = none → k (.own p) (put C p (.lst acc)))
section
variable {X : Cx} {elt iter : Expr} {ifs : List Expr} {scope dsc : Scope} {env : DEnv} {C C1 : CS} {k : KD} {pos px : Pos} {E : DEnds} {N M gs : List Str} {x : Str} {f : D → DEnv} {xs : List D} {Pc : CS → Prop}
theorem blk_nms (D0 : Dfc X N dsc) (hv : visC (relS scope dsc) M = true) : ∀ X', Blk X scope X' → Nms X' N M := by
  rintro X' ⟨s, H, Ca, cl, fp, rfl⟩
  exact nms_of (sc := relS scope dsc) D0.n (by rw [← D0.sc]; rfl) D0.nd hv
theorem blk_gls (D0 : Dfc X N dsc) (hg : glC (relS scope dsc) gs = true) : ∀ X', Blk X scope X' → Gls X' gs := by
  rintro X' ⟨s, H, Ca, cl, fp, rfl⟩
  exact gls_of (sc := relS scope dsc) (by rw [← D0.sc]; rfl) hg
theorem lcB_I (D0 : Dfc X N dsc) (hP : Put N x env f) (hv : visC (relS scope dsc) M = true) (hg : glC (relS scope dsc) gs = true) (h : LcB X elt ifs scope N M gs f xs Pc C1 k) : ∃ i, N[i]? = some x ∧ LcI X elt ifs scope [i] (gName i) env xs Pc C1 k := by
  obtain ⟨i, h1, h2, h3⟩ := hP.set
  refine ⟨i, h1, ?_⟩
  obtain ⟨Iv, i0, hp, turn, done⟩ := h
  refine ⟨Iv, i0, hp, fun j d acc C hd hi => gw_name (List.mem_singleton.mpr rfl) ?_, done⟩
  rw [h3]
  exact fun X' hX => WIf.imp (turn j d acc C hd hi X' hX (blk_nms D0 hv X' hX) (blk_gls D0 hg X' hX)) fun t C3 z => ⟨fun ht X'' hX'' => z.1 ht X'' hX'' (blk_nms D0 hv X'' hX'') (blk_gls D0 hg X'' hX''), z.2⟩
theorem idxOf_of {α : Type} [BEq α] [LawfulBEq α] {l : List α} (nd : l.Nodup) {i : Nat} {x : α} (h : l[i]? = some x) : l.idxOf x = i := by
  obtain ⟨hi, rfl⟩ := List.getElem?_eq_some_iff.mp h
  exact nd.idxOf_getElem i hi
theorem lc_own (D0 : Dfc X N dsc) {i : Nat} (h1 : N[i]? = some x) (ok : blkC N dsc scope [(x, N.idxOf x)] = true) : BlkOk X.N X.env.scope scope [(x, i)] := by
  have nd : N.Nodup := by rw [← D0.n]; exact D0.nd
  rw [idxOf_of nd h1] at ok
  rw [D0.n, D0.sc]
  exact blkOk_by ok
theorem lc_pg (D0 : Dfc X N dsc) {i : Nat} (h1 : N[i]? = some x) (hx : onlyC (relS scope dsc) [x] = true) (s : Shared) (H : Hp) (Ca : Addr) (cl : List (Str × Addr)) (fp : List Addr) : PG (X.blk s H scope (compEnvC scope cl Ca X.env) fp) (.Name x px) (gName i) := by
  have e : (relS scope dsc).names.lookup x = some .local := by
    unfold onlyC at hx
    simp only [List.all_cons, List.all_nil, Bool.and_true] at hx
    exact nk_eq hx
  have e2 : (X.blk s H scope (compEnvC scope cl Ca X.env) fp).env.scope.names.lookup x = some .local := by
    have : (X.blk s H scope (compEnvC scope cl Ca X.env) fp).env.scope = relS scope dsc := by rw [← D0.sc]; rfl
    rw [this]; exact e
  exact pg_name D0.nd (by rw [show (X.blk s H scope (compEnvC scope cl Ca X.env) fp).N = N from D0.n]; exact h1) (.inl e2) (.inr e2)
theorem lc1 (M gs : List Str) (D0 : Dfc X N dsc) (hP : Put N x env f) (ok : blkC N dsc scope [(x, N.idxOf x)] = true) (hv : visC (relS scope dsc) M = true) (hg : glC (relS scope dsc) gs = true) (hx : onlyC (relS scope dsc) [x] = true)
    (h : WI X (.Name x px) iter env C fun xs Pc C1 => LcB X elt ifs scope N M gs f xs Pc C1 k) (hs : ∀ x, foldedSetIterable iter X.env x = pure x := by intro _; rfl) : WE X (.ListComp elt [⟨.Name x px, iter, ifs, 0⟩] scope pos) env C k := by
  obtain ⟨i, h1, _⟩ := hP.set
  have nd : N.Nodup := by rw [← D0.n]; exact D0.nd
  refine we_lc [(x, i)] D0.calm D0.nd (lc_own D0 h1 ok) (lc_pg D0 h1 hx) ?_ hs
  obtain ⟨wi, hi, hw⟩ := h
  refine ⟨wi, hi, fun G σ H R w er q => hw G σ H R w er fun J G' C' H' xs Pc f1 w1 it z => ?_⟩
  obtain ⟨j, h2, h3⟩ := lcB_I D0 hP hv hg z
  have : i = j := nodup_ix nd h1 h2
  subst this
  exact q J G' C' H' xs Pc f1 w1 it h3
/-- y = [..] -/
theorem ws_lc1 (M gs : List Str) {M0 : List Str} {y : Str} {py spos : Pos} {fy : D → DEnv} (D0 : Dfc X N dsc) (hy : Put N y env fy) (hyl : onlyC dsc [y] = true)
    (hP : Put N x env f) (ok : blkC N dsc scope [(x, N.idxOf x)] = true) (hv : visC (relS scope dsc) M = true) (hg : glC (relS scope dsc) gs = true) (hx : onlyC (relS scope dsc) [x] = true)
    (hsw : swapsWith (.ListComp elt [⟨.Name x px, iter, ifs, 0⟩] scope pos) (some (.Name y py)) spos.line X.env = pure true)
    (h : WI X (.Name x px) iter env C fun xs Pc C1 => LcB X elt ifs scope N M gs f xs Pc C1 fun d C2 => E.nx (fy d) C2) (hs : ∀ x, foldedSetIterable iter X.env x = pure x := by intro _; rfl) :
    WS X (.Assign [.Name y py] (.ListComp elt [⟨.Name x px, iter, ifs, 0⟩] scope pos) spos) env C E := by
  obtain ⟨i, h1, _⟩ := hP.set
  obtain ⟨iy, g1, g2, _⟩ := hy.set
  have nd : N.Nodup := by rw [← D0.n]; exact D0.nd
  have e : X.env.scope.names.lookup y = some .local := by
    unfold onlyC at hyl
    simp only [List.all_cons, List.all_nil, Bool.and_true] at hyl
    rw [D0.sc]; exact nk_eq hyl
  refine ws_setLc [(x, i)] (i := iy) D0.calm D0.nd (by rw [D0.n]; exact g1) e hsw (lc_own D0 h1 ok) (lc_pg D0 h1 hx) ?_ hs
  obtain ⟨wi, hi, hw⟩ := h
  refine ⟨wi, hi, fun G σ H R w er q => hw G σ H R w er fun J G' C' H' xs Pc f1 w1 it z => ?_⟩
  obtain ⟨j, h2, h3⟩ := lcB_I D0 hP hv hg z
  have : i = j := nodup_ix nd h1 h2
  subst this
  refine q J G' C' H' xs Pc f1 w1 it ?_
  show LcI X elt ifs scope [i] (gName i) env xs Pc C' fun d C2 => E.nx (env.set iy (some d)) C2
  rw [show (fun (d : D) (C2 : CS) => E.nx (env.set iy (some d)) C2) = fun d C2 => E.nx (fy d) C2 from by funext d C2; rw [g2]]
  exact h3
/-- each item gives a value, nothing changes -/
theorem LcB.map (g : D → D) (hP : Pc C1) (hl : xs.length ≤ sizeLine) (hx : ∀ d ∈ xs, ∀ X', Blk X scope X' → Nms X' N M → Gls X' gs → WE X' elt (f d) C1 fun y C' => y = g d ∧ C' = C1)
    (hk : ∀ p, C1 p = none → k (.own p) (put C1 p (.lst (xs.map g)))) : LcB X elt [] scope N M gs f xs Pc C1 k := by
  refine ⟨fun j acc C => C = C1 ∧ acc = (xs.take j).map g, ⟨rfl, rfl⟩, fun j acc C h => by rw [h.1]; exact hP, ?_, ?_⟩
  · rintro j d acc C hd ⟨rfl, rfl⟩ X' hX B G
    refine wif_nil ⟨fun _ X' hX B G => (hx d (List.mem_of_getElem? hd) X' hX B G).imp fun y C' z => ?_, fun h => Bool.noConfusion h⟩
    obtain ⟨rfl, rfl⟩ := z
    have hj : j < xs.length := (List.getElem?_eq_some_iff.mp hd).1
    refine ⟨by simp; omega, rfl, ?_⟩
    rw [List.take_add_one, hd, List.map_append]
    rfl
  · rintro acc C ⟨rfl, rfl⟩ p hp
    rw [List.take_length]
    exact hk p hp
/-- .. with a test -/
theorem LcB.filter {c : Expr} (t : D → Bool) (g : D → D) (hP : Pc C1) (hl : xs.length ≤ sizeLine) (ht : ∀ d ∈ xs, ∀ X', Blk X scope X' → Nms X' N M → Gls X' gs → WT X' c (f d) C1 fun b C' => b = t d ∧ C' = C1)
    (hx : ∀ d ∈ xs, t d = true → ∀ X', Blk X scope X' → Nms X' N M → Gls X' gs → WE X' elt (f d) C1 fun y C' => y = g d ∧ C' = C1)
    (hk : ∀ p, C1 p = none → k (.own p) (put C1 p (.lst ((xs.filter t).map g)))) : LcB X elt [c] scope N M gs f xs Pc C1 k := by
  refine ⟨fun j acc C => C = C1 ∧ acc = ((xs.take j).filter t).map g, ⟨rfl, rfl⟩, fun j acc C h => by rw [h.1]; exact hP, ?_, ?_⟩
  · rintro j d acc C hd ⟨rfl, rfl⟩ X' hX B G
    have hj : j < xs.length := (List.getElem?_eq_some_iff.mp hd).1
    refine wif_one ((ht d (List.mem_of_getElem? hd) X' hX B G).imp fun b C' z => ?_)
    obtain ⟨rfl, rfl⟩ := z
    refine ⟨fun hb X' hX B G => (hx d (List.mem_of_getElem? hd) hb X' hX B G).imp fun y C' z => ?_, fun hb => ⟨rfl, ?_⟩⟩
    · obtain ⟨rfl, rfl⟩ := z
      refine ⟨?_, rfl, ?_⟩
      · have h1 := List.length_filter_le t (xs.take j)
        rw [List.length_take] at h1
        rw [List.length_map]
        omega
      · rw [List.take_add_one, hd, List.filter_append, List.map_append]
        simp [hb]
    · rw [List.take_add_one, hd, List.filter_append]
      simp [hb]
  · rintro acc C ⟨rfl, rfl⟩ p hp
    rw [List.take_length]
    exact hk p hp
/-- frozen where it stands -/
def Frz (k : KD) : KD := fun d C1 => ∃ ds, seqL C1 d = some ds ∧ ((∃ a, d = .own a ∧ k (.lst ds) (del C1 a)) ∨ (d = .lst ds ∧ k (.lst ds) C1))
theorem we_fz {e : Expr} (h : WE X e env C (Frz k)) : WE X e env C k := we_frz h
theorem frz_ok {ds : List D} {p : Addr} (h : C p = none) (q : k (.lst ds) C) : Frz k (.own p) (put C p (.lst ds)) :=
  ⟨ds, seqL_own put_same, .inl ⟨p, rfl, by rw [del_put h]; exact q⟩⟩
theorem frz_lst {ds : List D} (q : k (.lst ds) C) : Frz k (.lst ds) C := ⟨ds, rfl, .inr ⟨rfl, q⟩⟩
end
end DL
/-! DLk: the context of a body as one fact; the rules over it; defs. -/
namespace DL
open PySem PySem.Spec PyProof.Rows L2

/-- a body runs: the module's facts, room for m calls -/
structure Ctx (P : Program) (w : World) (K : PySem.W.Frag) (mg : Str → Option Value) (base : Heap) (m : Nat) (X : Cx) : Prop where
  prog : X.prog = P
  w : X.w = w
  K : X.K = K
  mg : X.mg = mg
  base : X.base = base
  room : Room m X.A
  guards : X.A.guards = some []
  calm : X.calm = true
section
variable {P : Program} {w : World} {K : PySem.W.Frag} {mg : Str → Option Value} {base : Heap} {m n : Nat} {X X' : Cx} {scope : Scope} {x : Str} {S : DSp} {d : D}
theorem Ctx.blk (h : Ctx P w K mg base m X) (hX : Blk X scope X') : Ctx P w K mg base m X' := by
  obtain ⟨s, H, Ca, cl, fp, rfl⟩ := hX
  exact ⟨h.prog, h.w, h.K, h.mg, h.base, h.room, h.guards, h.calm⟩
theorem Ctx.zs (h : Ctx P w K mg base m X) (Z : Zs mg) : Zs X.mg := by rw [h.mg]; exact Z
theorem Ctx.fn (h : Ctx P w K mg base m X) (F : FnC P w K mg base x n S) : FnC X.prog X.w X.K X.mg X.base x n S := by rw [h.prog, h.w, h.K, h.mg, h.base]; exact F
/-- a constant of the module -/
def MgK (K : PySem.W.Frag) (mg : Str → Option Value) (x : Str) (d : D) : Prop := ∃ u v, mg x = some u ∧ RelV v u ∧ ∀ G, Dat K G v d
theorem Ctx.mgd (h : Ctx P w K mg base m X) (F : MgK K mg x d) : MgD X x d := by unfold MgD; rw [h.mg, h.K]; exact F
theorem mgk_int {i : Int} {t : Tok} (h : mg x = some (.int i t)) : MgK K mg x (.int i) := ⟨_, .int i, h, ⟨t, rfl⟩, fun _ => .int i⟩
theorem mgk_str {z : Str} {t : Tok} (h : mg x = some (.str z t)) : MgK K mg x (.str z) := ⟨_, .str z, h, ⟨t, rfl⟩, fun _ => .str z⟩
end
section
variable {P : Program} {w : World} {K : PySem.W.Frag} {mg : Str → Option Value} {base : Heap} {m n : Nat} {X : Cx} {e a b o : Expr} {es : List Expr} {env : DEnv} {C : CS} {k : KD} {pos p p1 p2 : Pos} {kb : Bool → CS → Prop} {E : DEnds}
theorem x_len (hx : Ctx P w K mg base m X) (Z : Zs mg) (hg : Gl X "len") (h : WA X (e :: es) env C fun ds C1 => dLen ds C1 k) (he : starEach (e :: es) X.env = (false, eval e X.env) :: starEach es X.env := by rfl) (hpl : (backTo pos (starEach es X.env)).any (·.1) = false := by rfl) : WE X (.Call (.Name "len" p) (e :: es) [] pos) env C k := we_len (hx.zs Z) hg h he hpl
theorem x_isi (hx : Ctx P w K mg base m X) (Z : Zs mg) (hg : Gl X "isinstance") (h : WA X (e :: es) env C fun ds C1 => dIsi ds C1 k) (he : starEach (e :: es) X.env = (false, eval e X.env) :: starEach es X.env := by rfl) (hpl : (backTo pos (starEach es X.env)).any (·.1) = false := by rfl) : WE X (.Call (.Name "isinstance" p) (e :: es) [] pos) env C k := we_isi (hx.zs Z) hg h he hpl
theorem x_abs (hx : Ctx P w K mg base m X) (Z : Zs mg) (hg : Gl X "abs") (h : WA X (e :: es) env C fun ds C1 => dInt1 (fun i => if i < 0 then -i else i) ds C1 k) (he : starEach (e :: es) X.env = (false, eval e X.env) :: starEach es X.env := by rfl) (hpl : (backTo pos (starEach es X.env)).any (·.1) = false := by rfl) : WE X (.Call (.Name "abs" p) (e :: es) [] pos) env C k := we_abs (hx.zs Z) hg h he hpl
theorem x_any (hx : Ctx P w K mg base m X) (Z : Zs mg) (hg : Gl X "any") (h : WA X (e :: es) env C fun ds C1 => dAny ds C1 k) (he : starEach (e :: es) X.env = (false, eval e X.env) :: starEach es X.env := by rfl) (hpl : (backTo pos (starEach es X.env)).any (·.1) = false := by rfl) : WE X (.Call (.Name "any" p) (e :: es) [] pos) env C k := we_any hx.calm (hx.zs Z) hg h he hpl
theorem x_all (hx : Ctx P w K mg base m X) (Z : Zs mg) (hg : Gl X "all") (h : WA X (e :: es) env C fun ds C1 => dAll ds C1 k) (he : starEach (e :: es) X.env = (false, eval e X.env) :: starEach es X.env := by rfl) (hpl : (backTo pos (starEach es X.env)).any (·.1) = false := by rfl) : WE X (.Call (.Name "all" p) (e :: es) [] pos) env C k := we_all hx.calm (hx.zs Z) hg h he hpl
theorem x_sum (hx : Ctx P w K mg base m X) (Z : Zs mg) (hg : Gl X "sum") (h : WA X (e :: es) env C fun ds C1 => dSum ds C1 k) (he : starEach (e :: es) X.env = (false, eval e X.env) :: starEach es X.env := by rfl) (hpl : (backTo pos (starEach es X.env)).any (·.1) = false := by rfl) : WE X (.Call (.Name "sum" p) (e :: es) [] pos) env C k := we_sum hx.calm (hx.zs Z) hg h he hpl
theorem x_intC (hx : Ctx P w K mg base m X) (Z : Zs mg) (hg : Gl X "int") (h : WA X (e :: es) env C fun ds C1 => dInt ds C1 k) (he : starEach (e :: es) X.env = (false, eval e X.env) :: starEach es X.env := by rfl) (hpl : (backTo pos (starEach es X.env)).any (·.1) = false := by rfl) : WE X (.Call (.Name "int" p) (e :: es) [] pos) env C k := we_intC (hx.zs Z) hg h he hpl
theorem x_strC (hx : Ctx P w K mg base m X) (Z : Zs mg) (hg : Gl X "str") (h : WA X (e :: es) env C fun ds C1 => dStrInt ds C1 k) (he : starEach (e :: es) X.env = (false, eval e X.env) :: starEach es X.env := by rfl) (hpl : (backTo pos (starEach es X.env)).any (·.1) = false := by rfl) : WE X (.Call (.Name "str" p) (e :: es) [] pos) env C k := we_strC (hx.zs Z) hg h he hpl
theorem x_tupleC (hx : Ctx P w K mg base m X) (Z : Zs mg) (hg : Gl X "tuple") (h : WA X (e :: es) env C fun ds C1 => dTuple ds C1 k) (he : starEach (e :: es) X.env = (false, eval e X.env) :: starEach es X.env := by rfl) (hpl : (backTo pos (starEach es X.env)).any (·.1) = false := by rfl) : WE X (.Call (.Name "tuple" p) (e :: es) [] pos) env C k := we_tupleC (hx.zs Z) hg h he hpl
theorem x_listC (hx : Ctx P w K mg base m X) (Z : Zs mg) (hg : Gl X "list") (h : WA X (e :: es) env C fun ds C1 => dList ds C1 k) (he : starEach (e :: es) X.env = (false, eval e X.env) :: starEach es X.env := by rfl) (hpl : (backTo pos (starEach es X.env)).any (·.1) = false := by rfl) : WE X (.Call (.Name "list" p) (e :: es) [] pos) env C k := we_listC (hx.zs Z) hg h he hpl
theorem x_max2 (hx : Ctx P w K mg base m X) (Z : Zs mg) (hg : Gl X "max") (h : WA X [a, b] env C fun ds C1 => dInt2 (fun i j => if j > i then j else i) ds C1 k) (he : starEach [a, b] X.env = (false, eval a X.env) :: starEach [b] X.env := by rfl) (hpl : (backTo pos (starEach [b] X.env)).any (·.1) = false := by rfl) : WE X (.Call (.Name "max" p) [a, b] [] pos) env C k := we_max2 hx.calm (hx.zs Z) hg h he hpl
theorem x_min2 (hx : Ctx P w K mg base m X) (Z : Zs mg) (hg : Gl X "min") (h : WA X [a, b] env C fun ds C1 => dInt2 (fun i j => if j < i then j else i) ds C1 k) (he : starEach [a, b] X.env = (false, eval a X.env) :: starEach [b] X.env := by rfl) (hpl : (backTo pos (starEach [b] X.env)).any (·.1) = false := by rfl) : WE X (.Call (.Name "min" p) [a, b] [] pos) env C k := we_min2 hx.calm (hx.zs Z) hg h he hpl
theorem x_minL (hx : Ctx P w K mg base m X) (Z : Zs mg) (hg : Gl X "min") (h : WA X [a] env C fun ds C1 => dMinL ds C1 k) (he : starEach [a] X.env = (false, eval a X.env) :: starEach [] X.env := by rfl) (hpl : (backTo pos (starEach [] X.env)).any (·.1) = false := by rfl) : WE X (.Call (.Name "min" p) [a] [] pos) env C k := we_minL hx.calm (hx.zs Z) hg h he hpl
theorem x_tyInt (hx : Ctx P w K mg base m X) (Z : Zs mg) (hg : Gl X "int") (h : k (.opq (.ty "int")) C) : WE X (.Name "int" pos) env C k := we_tyInt (hx.zs Z) hg h
theorem x_tyBool (hx : Ctx P w K mg base m X) (Z : Zs mg) (hg : Gl X "bool") (h : k (.opq (.ty "bool")) C) : WE X (.Name "bool" pos) env C k := we_tyBool (hx.zs Z) hg h
theorem x_tyStr (hx : Ctx P w K mg base m X) (Z : Zs mg) (hg : Gl X "str") (h : k (.opq (.ty "str")) C) : WE X (.Name "str" pos) env C k := we_tyStr (hx.zs Z) hg h
theorem x_tyList (hx : Ctx P w K mg base m X) (Z : Zs mg) (hg : Gl X "list") (h : k (.opq (.ty "list")) C) : WE X (.Name "list" pos) env C k := we_tyList (hx.zs Z) hg h
theorem x_tyTuple (hx : Ctx P w K mg base m X) (Z : Zs mg) (hg : Gl X "tuple") (h : k (.opq (.ty "tuple")) C) : WE X (.Name "tuple" pos) env C k := we_tyTuple (hx.zs Z) hg h
theorem x_eq (hx : Ctx P w K mg base m X) (h : WE X a env C fun x C1 => WE X b env C1 fun y C2 => dEq false x y C2 k) : WE X (.Compare a [.Eq] [b] pos) env C k := we_eq hx.room h
theorem xt_eq (hx : Ctx P w K mg base m X) (h : WE X a env C fun x C1 => WE X b env C1 fun y C2 => dEq false x y C2 (tb kb)) : WT X (.Compare a [.Eq] [b] pos) env C kb := wt_eq hx.room h
theorem x_ne (hx : Ctx P w K mg base m X) (h : WE X a env C fun x C1 => WE X b env C1 fun y C2 => dEq true x y C2 k) : WE X (.Compare a [.NotEq] [b] pos) env C k := we_ne hx.room h
theorem xt_ne (hx : Ctx P w K mg base m X) (h : WE X a env C fun x C1 => WE X b env C1 fun y C2 => dEq true x y C2 (tb kb)) : WT X (.Compare a [.NotEq] [b] pos) env C kb := wt_ne hx.room h
theorem x_in (hx : Ctx P w K mg base m X) (h : WE X a env C fun x C1 => WE X b env C1 fun y C2 => dIn false x y C2 k) (hm : behindInMarks .In b = false := by rfl) : WE X (.Compare a [.In] [b] pos) env C k := we_in hx.room h hm
theorem xt_in (hx : Ctx P w K mg base m X) (h : WE X a env C fun x C1 => WE X b env C1 fun y C2 => dIn false x y C2 (tb kb)) (hm : behindInMarks .In b = false := by rfl) : WT X (.Compare a [.In] [b] pos) env C kb := wt_in hx.room h hm
theorem x_nin (hx : Ctx P w K mg base m X) (h : WE X a env C fun x C1 => WE X b env C1 fun y C2 => dIn true x y C2 k) (hm : behindInMarks .NotIn b = false := by rfl) : WE X (.Compare a [.NotIn] [b] pos) env C k := we_nin hx.room h hm
theorem xt_nin (hx : Ctx P w K mg base m X) (h : WE X a env C fun x C1 => WE X b env C1 fun y C2 => dIn true x y C2 (tb kb)) (hm : behindInMarks .NotIn b = false := by rfl) : WT X (.Compare a [.NotIn] [b] pos) env C kb := wt_nin hx.room h hm
theorem x_call {x : Str} {S : DSp} (hx : Ctx P w K mg base m X) (h : FnC P w K mg base x n S) (hg : Gl X x) (ha : WA X (e :: es) env C fun ds C1 => S ds C1 k) (hle : n ≤ m := by decide)
    (hdb : (x == ("__debug__" : Str)) = false := by decide) (he : starEach (e :: es) X.env = (false, eval e X.env) :: starEach es X.env := by rfl) (hpl : (backTo pos (starEach es X.env)).any (·.1) = false := by rfl) : WE X (.Call (.Name x p) (e :: es) [] pos) env C k := we_call (hx.fn h) hx.guards hx.room hg ha hle hdb he hpl
theorem x_call0 {x : Str} {S : DSp} (hx : Ctx P w K mg base m X) (h : FnC P w K mg base x n S) (hg : Gl X x) (ha : S [] C k) (hle : n ≤ m := by decide)
    (hdb : (x == ("__debug__" : Str)) = false := by decide) : WE X (.Call (.Name x p) [] [] pos) env C k := we_call0 (hx.fn h) hx.guards hx.room hg ha hle hdb
theorem x_glob {x : Str} {d : D} (hx : Ctx P w K mg base m X) (hm : MgK K mg x d) (hg : Gl X x) (h : k d C) (hd : (x == ("__debug__" : Str)) = false := by decide) : WE X (.Name x pos) env C k := we_glob (hx.mgd hm) hg h hd

/-! walks -/
variable {tg iter : Expr} {body : List Stmt} {kI : KI}
theorem x_range1 (hx : Ctx P w K mg base m X) (Z : Zs mg) (hg : Gl X "range") (h : WA X [a] env C fun ds C1 => ∃ j : Int, ds = [.int j] ∧ -(2 ^ 62) ≤ j ∧ j < 2 ^ 62 ∧ kI (intsFrom 0 j.toNat) (fun _ => True) C1) (hs : starEach [a] X.env = [(false, eval a X.env)] := by rfl) :
    WI X tg (.Call (.Name "range" p) [a] [] pos) env C kI := wi_range1 (hx.zs Z).range hg h hs
theorem x_range2 (hx : Ctx P w K mg base m X) (Z : Zs mg) (hg : Gl X "range") (h : WA X [a, b] env C fun ds C1 => ∃ i j : Int, ds = [.int i, .int j] ∧ (-(2 ^ 62) ≤ i ∧ i < 2 ^ 62 ∧ -(2 ^ 62) ≤ j ∧ j < 2 ^ 62) ∧ kI (intsFrom i (j - i).toNat) (fun _ => True) C1)
    (hs : starEach [a, b] X.env = [(false, eval a X.env), (false, eval b X.env)] := by rfl) (hs2 : starEach [b] X.env = [(false, eval b X.env)] := by rfl) :
    WI X tg (.Call (.Name "range" p) [a, b] [] pos) env C kI := wi_range2 (hx.zs Z).range hg h hs hs2
/-- no exception leaves -/
structure Nox (X : Cx) : Prop where
  xe : X.xe = fun _ _ => False
theorem Nox.passes (h : Nox X) : PassesOwn (model X.prog X.w) X.A X.env X.xe := by rw [h.xe]; exact PassesOwn.never
theorem x_for (hx : Ctx P w K mg base m X) (hn : Nox X)
    (h : WI X tg iter env C fun xs Pc C1 => ∃ Iv : Nat → DEnv → CS → Prop, Iv 0 env C1 ∧ (∀ i env C, Iv i env C → Pc C) ∧
      (∀ i d env C, xs[i]? = some d → Iv i env C → WG X tg d env C fun env' C' => WSs X body env' C' { nx := Iv (i + 1), rt := E.rt, bk := E.nx, ct := Iv (i + 1) }) ∧ (∀ env C, Iv xs.length env C → E.nx env C))
    (hs : ∀ x, foldedSetIterable iter X.env x = pure x := by intro _; rfl) : WS X (.For tg iter body [] pos) env C E := ws_for hn.passes hx.calm h hs
theorem x_while {c : Expr} (hn : Nox X) (Iv : Nat → DEnv → CS → Prop) (h0 : ∃ m, Iv m env C)
    (h : ∀ m env C, Iv m env C → WT X c env C fun t C1 => (t = true → WSs X body env C1 { nx := fun env' C' => ∃ m', m' < m ∧ Iv m' env' C', rt := E.rt, bk := E.nx, ct := fun env' C' => ∃ m', m' < m ∧ Iv m' env' C' }) ∧ (t = false → E.nx env C1)) : WS X (.While c body [] pos) env C E := ws_while hn.passes Iv h0 h
end

/-! ### stores of two or three names at once -/
def envOf (sc : Scope) : Env := { scope := sc, locals := 0, globals := 0, cells := [], qual := "", func := none, code := .none, frame := none, builtins := 0 }
theorem sst_env {env : Env} {sc : Scope} (h : env.scope = sc) (ts : List Expr) (v : Expr) : swappedStores ts v env = swappedStores ts v (envOf sc) := by
  have e1 : env.blockKind = (envOf sc).blockKind := by unfold Env.blockKind; rw [h]; rfl
  have e2 : env.kindOf = (envOf sc).kindOf := by funext x; unfold Env.kindOf; rw [h]; rfl
  unfold swappedStores
  rw [e1, e2]
theorem sww_env {env : Env} {sc : Scope} (h : env.scope = sc) (v : Expr) (t : Option Expr) (l : Nat) : swapsWith v t l env = swapsWith v t l (envOf sc) := by
  have e1 : env.blockKind = (envOf sc).blockKind := by unfold Env.blockKind; rw [h]; rfl
  have e2 : env.kindOf = (envOf sc).kindOf := by funext x; unfold Env.kindOf; rw [h]; rfl
  have e3 : env.scope = (envOf sc).scope := h
  unfold swapsWith
  rw [e1, e2, e3]
end DL
/-! DLl: stores of several names; defs by an opaque context. -/
namespace DL
open PySem PySem.Spec PyProof.Rows L2

/-- a, b, c = x, y, z with plain local names: stored from the right -/
theorem ps_par3 {X : Cx} {pos : Pos} {i j l : Nat} {x y z : Str} {a b c : Expr} {ta : TA} {px py pz pt : Pos} {kt k2 pt2} (hc : X.calm = true) (hN : X.N.Nodup) (hi : X.N[i]? = some x) (hj : X.N[j]? = some y) (hl : X.N[l]? = some z)
    (hx : X.env.scope.names.lookup x = some .local) (hy : X.env.scope.names.lookup y = some .local) (hz : X.env.scope.names.lookup z = some .local) (ha : PA X [a, b, c] ta)
    (hw : swappedStores [.Tuple [.Name x px, .Name y py, .Name z pz] kt pt] (.Tuple [a, b, c] k2 pt2) X.env = pure (some [x, y, z]))
    (hs : swapsWithSole [.Tuple [.Name x px, .Name y py, .Name z pz] kt pt] (.Tuple [a, b, c] k2 pt2) pos.line X.env = pure false := by rfl) :
    PS X (.Assign [.Tuple [.Name x px, .Name y py, .Name z pz] kt pt] (.Tuple [a, b, c] k2 pt2) pos) (fun D σ H => ta σ H fun vs H1 => ∃ v w u, vs = [v, w, u] ∧ D.nx (((σ.set l (some u)).set j (some w)).set i (some v)) H1) := by
  refine ⟨fun pins s σ H D I h => ?_⟩
  rw [exec_Assign_arm]
  refine wpAny_bind (wpAny_standAt ?_)
  rw [hs]
  refine wpAny_bind (wpAny_pure ?_)
  rw [if_neg (by decide)]
  refine wpAny_bind (Tuple_ (L2.thn (ha.run _ pins s σ H _ I h) fun us s1 ⟨vs, H1, I1, r1, q1⟩ => ?_))
  obtain ⟨v, w, u, e1, q1⟩ := q1
  subst e1
  obtain ⟨u1, u2, u3, rfl, rv, rw', ru⟩ : ∃ u1 u2 u3, us = [u1, u2, u3] ∧ RelV v u1 ∧ RelV w u2 ∧ RelV u u3 := by
    cases r1 with
    | cons p q =>
      cases q with
      | cons p' q' =>
        cases q' with
        | cons p'' q'' =>
          cases q''
          exact ⟨_, _, _, rfl, p, p', p''⟩
  refine wpAny_newObj_type ?_ (by show 3 ≤ sizeLine; decide)
  have I2 : Inv X pins σ H1 { s1 with heap := s1.heap.push { cls := .type "tuple", data := .seq [u1, u2, u3].toArray } } := I1.kept (t' := s1.toks) fun b o e => Heap.get?_push_of_some _ e
  rw [hw]
  refine wpAny_bind (wpAny_pure ?_)
  show wpAny (model X.prog X.w) X.A (do rule "assign.swapped-stores"; let items ← unpackItems (.ref s1.heap.objs.size) 3 none; assignInOrder [fun v => bindName X.env z v, fun v => bindName X.env y v, fun v => bindName X.env x v] items.reverse; pure Flow.next) _ _ _
  refine wpAny_bind (wpAny_rule (wpAny_bind (unpackItems_tuple (items := #[u1, u2, u3]) (I.ok.hd hc) (IsTup.new s1.heap _) fun h' hx' => ?_)))
  have I3 := I2.kept (h' := h') (t' := s1.toks) fun b o e => hx' b o (Nat.ne_of_lt (Heap.lt_size e)) e
  show wpAny _ _ (assignInOrder [fun v => bindName X.env z v, fun v => bindName X.env y v, fun v => bindName X.env x v] [u3, u2, u1] >>= fun _ => pure Flow.next) _ _ _
  refine wpAny_bind (assignInOrder_cons (wpAny_bindName (store_ok I3 hN hl (.inl hz) ru (fun s2 I4 => ?_) (.inr hz))))
  refine assignInOrder_cons (wpAny_bindName (store_ok I4 hN hj (.inl hy) rw' (fun s3 I5 => ?_) (.inr hy)))
  refine assignInOrder_cons (wpAny_bindName (store_ok I5 hN hi (.inl hx) rv (fun s4 I6 => assignInOrder_nil (wpAny_pure ?_)) (.inr hx)))
  exact ⟨_, H1, I6, q1⟩

section
variable {X : Cx} {e a b c : Expr} {env : DEnv} {C : CS} {k : KD} {pos : Pos} {E : DEnds} {N : List Str} {dsc : Scope}
theorem only_loc {y : Str} (D0 : Dfc X N dsc) (h : onlyC dsc [y] = true) : X.env.scope.names.lookup y = some .local := by
  unfold onlyC at h
  simp only [List.all_cons, List.all_nil, Bool.and_true] at h
  rw [D0.sc]; exact nk_eq h
theorem x_par2 {x y : Str} {px py pt : Pos} {kt k2 : Nat} {pt2 : Pos} {f : D → DEnv} {g : D → D → DEnv} (D0 : Dfc X N dsc) (h1 : Put N y env f) (h2 : ∀ v, Put N x (f v) fun u => g u v) (hx : onlyC dsc [x] = true) (hy : onlyC dsc [y] = true) (hne : (x == y) = false)
    (hw : swappedStores [.Tuple [.Name x px, .Name y py] kt pt] (.Tuple [a, b] k2 pt2) (envOf dsc) = pure (some [x, y]))
    (h : WA X [a, b] env C fun ds C1 => ∃ u v, ds = [u, v] ∧ E.nx (g u v) C1)
    (hs : swapsWithSole [.Tuple [.Name x px, .Name y py] kt pt] (.Tuple [a, b] k2 pt2) pos.line X.env = pure false := by rfl) :
    WS X (.Assign [.Tuple [.Name x px, .Name y py] kt pt] (.Tuple [a, b] k2 pt2) pos) env C E := by
  obtain ⟨j, n1, s1, _⟩ := h1.set
  have ne : x ≠ y := fun e => by rw [e] at hne; simp at hne
  have hi : ∃ i : Nat, N[i]? = some x ∧ ∀ u v, (env.set j (some v)).set i (some u) = g u v := by
    obtain ⟨i, n2, _, _⟩ := (h2 .non).set
    refine ⟨i, n2, fun u v => ?_⟩
    obtain ⟨i', n3, s3, _⟩ := (h2 v).set
    have nd : N.Nodup := by rw [← D0.n]; exact D0.nd
    have : i = i' := nodup_ix nd n2 n3
    subst this
    rw [s1, s3]
  obtain ⟨i, n2, s2⟩ := hi
  have hij : i ≠ j := fun e => ne (by rw [e, n1] at n2; exact (Option.some.inj n2).symm)
  refine ws_par (i := i) (j := j) D0.calm D0.nd (by rw [D0.n]; exact n2) (by rw [D0.n]; exact n1) hij (only_loc D0 hx) (only_loc D0 hy) (h.imp fun ds C' z => ?_) (by rw [sst_env D0.sc]; exact hw) hs
  obtain ⟨u, v, e1, z⟩ := z
  exact ⟨u, v, e1, by rw [List.set_comm _ _ hij, s2]; exact z⟩
theorem x_par3 {x y z : Str} {px py pz pt : Pos} {kt k2 : Nat} {pt2 : Pos} {f : D → DEnv} {g : D → D → DEnv} {g3 : D → D → D → DEnv} (D0 : Dfc X N dsc) (h1 : Put N z env f) (h2 : ∀ v, Put N y (f v) fun u => g u v) (h3 : ∀ u v, Put N x (g u v) fun t => g3 t u v)
    (hx : onlyC dsc [x] = true) (hy : onlyC dsc [y] = true) (hz : onlyC dsc [z] = true)
    (hw : swappedStores [.Tuple [.Name x px, .Name y py, .Name z pz] kt pt] (.Tuple [a, b, c] k2 pt2) (envOf dsc) = pure (some [x, y, z]))
    (h : WA X [a, b, c] env C fun ds C1 => ∃ t u v, ds = [t, u, v] ∧ E.nx (g3 t u v) C1)
    (hs : swapsWithSole [.Tuple [.Name x px, .Name y py, .Name z pz] kt pt] (.Tuple [a, b, c] k2 pt2) pos.line X.env = pure false := by rfl) :
    WS X (.Assign [.Tuple [.Name x px, .Name y py, .Name z pz] kt pt] (.Tuple [a, b, c] k2 pt2) pos) env C E := by
  have nd : N.Nodup := by rw [← D0.n]; exact D0.nd
  obtain ⟨l, n1, s1, _⟩ := h1.set
  obtain ⟨j, n2, _, _⟩ := (h2 .non).set
  obtain ⟨i, n3, _, _⟩ := (h3 .non .non).set
  have all : ∀ t u v, ((env.set l (some v)).set j (some u)).set i (some t) = g3 t u v := fun t u v => by
    obtain ⟨j', m2, r2, _⟩ := (h2 v).set
    obtain ⟨i', m3, r3, _⟩ := (h3 u v).set
    have e1 : j = j' := nodup_ix nd n2 m2
    have e2 : i = i' := nodup_ix nd n3 m3
    subst e1; subst e2
    rw [s1, r2, r3]
  refine .of (ps_par3 (i := i) (j := j) (l := l) D0.calm D0.nd (by rw [D0.n]; exact n3) (by rw [D0.n]; exact n2) (by rw [D0.n]; exact n1) (only_loc D0 hx) (only_loc D0 hy) (only_loc D0 hz) pa_tAr (by rw [sst_env D0.sc]; exact hw) hs) fun G σ H D w er q => h G σ H _ w er fun vs G1 C1 H1 ds f1 w1 r1 zz => ?_
  obtain ⟨t, u, v, rfl, zz⟩ := zz
  cases r1 with
  | @cons t' _ _ _ r1 r2 =>
    cases r2 with
    | @cons u' _ _ _ r2 r3 =>
      cases r3 with
      | @cons v' _ _ _ r3 r4 =>
        cases r4
        exact ⟨t', u', v', rfl, q.nx G1 C1 H1 _ _ f1 w1 ((((er.mono f1.exG).set l r3).set j r2).set i r1) (by rw [all]; exact zz)⟩
end

/-! ### defs by an opaque context -/
section
variable {P : Program} {w : World} {K : PySem.W.Frag} {mg : Str → Option Value} {base : Heap}
structure Bdy (P : Program) (w : World) (K : PySem.W.Frag) (mg : Str → Option Value) (base : Heap) (n : Nat) (N M Ds : List Str) (dsc : Scope) (X : Cx) : Prop where
  x : Ctx P w K mg base n X
  b : Nms X N M
  s : Sts X N M
  g : Gls X Ds
  d : Dfc X N dsc
  nox : Nox X
theorem fnX {x qual : Str} {st : Stmt} {f : Addr} {fd : FuncData} {N M Ds ps : List Str} {n : Nat} {S : DSp} (F : Fun K x qual st f fd) (sc : FnScope N ps (defScope st)) (hv : visC (defScope st) M = true) (hlc : locC (defScope st) M = true) (hg : glC (defScope st) Ds = true)
    (hl : ∀ ds C k, S ds C k → ds.length = ps.length)
    (hb : ∀ (X : Cx), Bdy P w K mg base n N M Ds (defScope st) X → ∀ (ds : List D) (C : CS) (k : KD), S ds C k → WSs X (defBody st) (startD N ds) C { nx := fun _ C' => k .non C', rt := k }) : FnG P w K mg base CX0 (n + 1) f fd ps (toSp K S) :=
  fnD F sc hl fun cdv A outer s H E ds C k hgd hr h => hb _ ⟨⟨rfl, rfl, rfl, rfl, rfl, hr, hgd, rfl⟩, nms_of rfl (sc := defScope st) rfl sc.nd hv, sts_of rfl (sc := defScope st) rfl sc.nd hlc (fun _ => rfl), gls_of (sc := defScope st) rfl hg, ⟨rfl, sc.nd, rfl, rfl⟩, ⟨rfl⟩⟩ ds C k h
end
end DL
namespace DL
open PySem L2
theorem wo_n {X : Cx} {env : DEnv} {C : CS} {k : Option Int → CS → Prop} (h : k none C) : WO X none env C k := h
theorem wo_s {X : Cx} {e : Expr} {env : DEnv} {C : CS} {k : Option Int → CS → Prop} (h : WE X e env C fun d C1 => ∃ i, d = .int i ∧ k (some i) C1) : WO X (some e) env C k := h
theorem ex_2 {a b : D} {A : D → D → Prop} (h : A a b) : ∃ u v, [a, b] = [u, v] ∧ A u v := ⟨a, b, rfl, h⟩
theorem ex_3 {a b c : D} {A : D → D → D → Prop} (h : A a b c) : ∃ t u v, [a, b, c] = [t, u, v] ∧ A t u v := ⟨a, b, c, rfl, h⟩
end DL
/-! DLm: a test that stores; data that is fit for ==. -/
namespace DL
open PySem PySem.Spec PyProof.Rows L2
section
variable {X : Cx} {e a b c : Expr} {env : DEnv} {C : CS} {k : KD} {pos p1 p2 py pc : Pos} {E : DEnds} {N M : List Str} {s1 s2 : List Stmt}
/-- if (y := e) op b: .. -/
theorem x_ifW {y : Str} {op : CmpOp} {r : R2} {p : OpD} {f : D → DEnv} (B : Sts X N M) (hm' : Mem y M) (hP : Put N y env f) (ho : OpR X (compareOp op) r) (hr : R2D X.K r p)
    (h : WE X e env C fun d C1 => WE X b (f d) C1 fun z C2 => p d z C2 fun t' C3 => ∃ t, t' = .bl t ∧ (t = true → WSs X s1 (f d) C3 E) ∧ (t = false → WSs X s2 (f d) C3 E)) (hm : behindInMarks op b = false) :
    WS X (.If (.Compare (.NamedExpr (.Name y py) e p1) [op] [b] pc) s1 s2 pos) env C E := by
  obtain ⟨i, h1, h2, _⟩ := hP.set
  refine .of (ps_ifW (ptw_cmp ho (pew_named (i := i) B.nd (by rw [B.n]; exact h1) (B.loc y hm'.mem) (pew_of pe_tS) (B.fn y hm'.mem)) pe_tS hm) pss_tXs pss_tXs) fun G σ H D w er q => ?_
  refine h G σ H _ w er fun v G1 C1 H1 d f1 w1 r1 z => ?_
  have er1 : EnvR X.K G1 (f d) (σ.set i (some v)) := by rw [← h2]; exact (er.mono f1.exG).set i r1
  refine z G1 _ H1 _ w1 er1 fun u G2 C2 H2 y2 f2 w2 r2 z2 => ?_
  refine hr v u d y2 G2 C2 H2 _ _ w2 (r1.mono f2.exG) r2 z2 fun t' G3 C3 H3 d3 f3 w3 r3 z3 => ?_
  obtain ⟨t, rfl, z3⟩ := z3
  cases r3
  have F := (f1.trans f2).trans f3
  refine ⟨t, rfl, ?_⟩
  cases t with
  | true => exact iteT (z3.1 rfl G3 _ H3 D w3 (er1.mono (f2.trans f3).exG) (q.after F))
  | false => exact iteF (z3.2 rfl G3 _ H3 D w3 (er1.mono (f2.trans f3).exG) (q.after F))
theorem x_ifWge {y : Str} {f : D → DEnv} (B : Sts X N M) (hm' : Mem y M) (hP : Put N y env f)
    (h : WE X e env C fun d C1 => WE X b (f d) C1 fun z C2 => dB2 (fun i j => decide (j ≤ i)) d z C2 fun t' C3 => ∃ t, t' = .bl t ∧ (t = true → WSs X s1 (f d) C3 E) ∧ (t = false → WSs X s2 (f d) C3 E)) :
    WS X (.If (.Compare (.NamedExpr (.Name y py) e p1) [.GtE] [b] pc) s1 s2 pos) env C E := x_ifW B hm' hP op_ge r2_B h (nomark _)
end

/-! ### data fit for == -/
mutual
/-- built of what == compares, at most so deep -/
def D.fit : Nat → D → Bool
  | _, .non | _, .bl _ | _, .int _ => true
  | _, .str x => PyData.strOk x
  | 0, .lst _ | 0, .slst _ | 0, .tup _ => false
  | n + 1, .lst xs => fitL n xs
  | n + 1, .slst xs => fitL n xs
  | n + 1, .tup xs => fitL n xs
  | _, _ => false
def fitL : Nat → List D → Bool
  | _, [] => true
  | n, d :: ds => d.fit n && fitL n ds
end
theorem fitL_all {n : Nat} : ∀ {ds : List D}, fitL n ds = true ↔ ∀ d ∈ ds, d.fit n = true
  | [] => by simp [fitL]
  | d :: ds => by simp [fitL, fitL_all (ds := ds)]
mutual
theorem fit_py : ∀ (d : D) {n : Nat}, d.fit n = true → d.isPy = true
  | .non, _, _ | .bl _, _, _ | .int _, _, _ | .str _, _, _ => rfl
  | .lst xs, 0, h | .slst xs, 0, h | .tup xs, 0, h => by simp [D.fit] at h
  | .lst xs, n + 1, h => by unfold D.isPy; exact fitL_py xs (n := n) (by simpa [D.fit] using h)
  | .slst xs, n + 1, h => by unfold D.isPy; exact fitL_py xs (n := n) (by simpa [D.fit] using h)
  | .tup xs, n + 1, h => by unfold D.isPy; exact fitL_py xs (n := n) (by simpa [D.fit] using h)
  | .obj _ _ _, n, h => by cases n <;> simp [D.fit] at h
  | .own _, n, h => by cases n <;> simp [D.fit] at h
  | .opq _, n, h => by cases n <;> simp [D.fit] at h
theorem fitL_py : ∀ (ds : List D) {n : Nat}, fitL n ds = true → allPy ds = true
  | [], _, _ => rfl
  | d :: ds, n, h => by
    simp only [fitL, Bool.and_eq_true] at h
    simp only [allPy, Bool.and_eq_true]
    exact ⟨fit_py d h.1, fitL_py ds h.2⟩
end
mutual
theorem fit_lay : ∀ (d : D) {n : Nat}, d.fit n = true → d.py.canLay0 = true
  | .non, _, _ | .bl _, _, _ | .int _, _, _ => rfl
  | .str x, n, h => by cases n <;> exact h
  | .lst xs, 0, h | .slst xs, 0, h | .tup xs, 0, h => by simp [D.fit] at h
  | .lst xs, n + 1, h => by simp only [D.py, PyData.canLay0]; exact fitL_lay xs (n := n) (by simpa [D.fit] using h)
  | .slst xs, n + 1, h => by simp only [D.py, PyData.canLay0]; exact fitL_lay xs (n := n) (by simpa [D.fit] using h)
  | .tup xs, n + 1, h => by simp only [D.py, PyData.canLay0]; exact fitL_lay xs (n := n) (by simpa [D.fit] using h)
  | .obj _ _ _, n, h => by cases n <;> simp [D.fit] at h
  | .own _, n, h => by cases n <;> simp [D.fit] at h
  | .opq _, n, h => by cases n <;> simp [D.fit] at h
theorem fitL_lay : ∀ (ds : List D) {n : Nat}, fitL n ds = true → PyData.canLayAll0 (pyL ds) = true
  | [], _, _ => rfl
  | d :: ds, n, h => by
    simp only [fitL, Bool.and_eq_true] at h
    simp only [pyL, PyData.canLayAll0, Bool.and_eq_true]
    exact ⟨fit_lay d h.1, fitL_lay ds h.2⟩
end
mutual
theorem fit_depth : ∀ (d : D) {n : Nat}, d.fit n = true → d.py.depth ≤ n
  | .non, _, _ | .bl _, _, _ | .int _, _, _ | .str _, _, _ => Nat.zero_le _
  | .lst xs, 0, h | .slst xs, 0, h | .tup xs, 0, h => by simp [D.fit] at h
  | .lst xs, n + 1, h => Nat.succ_le_succ (fitL_depth xs (n := n) (by simpa [D.fit] using h))
  | .slst xs, n + 1, h => Nat.succ_le_succ (fitL_depth xs (n := n) (by simpa [D.fit] using h))
  | .tup xs, n + 1, h => Nat.succ_le_succ (fitL_depth xs (n := n) (by simpa [D.fit] using h))
  | .obj _ _ _, n, h => by cases n <;> simp [D.fit] at h
  | .own _, n, h => by cases n <;> simp [D.fit] at h
  | .opq _, n, h => by cases n <;> simp [D.fit] at h
theorem fitL_depth : ∀ (ds : List D) {n : Nat}, fitL n ds = true → PyData.depthAll (pyL ds) ≤ n
  | [], _, _ => Nat.zero_le _
  | d :: ds, n, h => by
    simp only [fitL, Bool.and_eq_true] at h
    exact Nat.max_le.mpr ⟨fit_depth d h.1, fitL_depth ds h.2⟩
end
theorem fit_ok {d : D} {n : Nat} (h : d.fit n = true) (hn : n ≤ 64 := by decide) : d.ok = true := by
  unfold D.ok SeqAt.shaped
  simp only [Bool.and_eq_true, decide_eq_true_eq]
  exact ⟨fit_py d h, fit_lay d h, Nat.le_trans (fit_depth d h) hn⟩
mutual
theorem fit_mono : ∀ (d : D) {n m : Nat}, d.fit n = true → n ≤ m → d.fit m = true
  | .non, _, _, _, _ | .bl _, _, _, _, _ | .int _, _, _, _, _ => by simp [D.fit]
  | .str x, n, m, h, _ => by
    have : PyData.strOk x = true := by cases n <;> exact h
    cases m <;> exact this
  | .lst xs, 0, _, h, _ | .slst xs, 0, _, h, _ | .tup xs, 0, _, h, _ => by simp [D.fit] at h
  | .lst xs, n + 1, 0, h, l | .slst xs, n + 1, 0, h, l | .tup xs, n + 1, 0, h, l => absurd l (by omega)
  | .lst xs, n + 1, m + 1, h, l => by simp only [D.fit] at h ⊢; exact fitL_mono xs h (by omega)
  | .slst xs, n + 1, m + 1, h, l => by simp only [D.fit] at h ⊢; exact fitL_mono xs h (by omega)
  | .tup xs, n + 1, m + 1, h, l => by simp only [D.fit] at h ⊢; exact fitL_mono xs h (by omega)
  | .obj _ _ _, n, _, h, _ => by cases n <;> simp [D.fit] at h
  | .own _, n, _, h, _ => by cases n <;> simp [D.fit] at h
  | .opq _, n, _, h, _ => by cases n <;> simp [D.fit] at h
theorem fitL_mono : ∀ (ds : List D) {n m : Nat}, fitL n ds = true → n ≤ m → fitL m ds = true
  | [], _, _, _, _ => rfl
  | d :: ds, n, m, h, l => by
    simp only [fitL, Bool.and_eq_true] at h ⊢
    exact ⟨fit_mono d h.1 l, fitL_mono ds h.2 l⟩
end
/-- == of frozen data, of a list's cell -/
def dataOf (C : CS) : D → D
  | .own a => match C a with
    | some (.lst ds) => .lst ds
    | _ => .own a
  | d => d
theorem eq_fit {C : CS} {k : KD} {x y : D} {n m : Nat} (hx : x.fit n = true) (hy : y.fit m = true) (q : k (.bl (PyData.eqv x.py y.py)) C) (hn : n ≤ 64 := by decide) (hm : m ≤ 64 := by decide) : dEq false x y C k := eq_ok (fit_ok hx hn) (fit_ok hy hm) q
theorem ne_fit {C : CS} {k : KD} {x y : D} {n m : Nat} (hx : x.fit n = true) (hy : y.fit m = true) (q : k (.bl (!PyData.eqv x.py y.py)) C) (hn : n ≤ 64 := by decide) (hm : m ≤ 64 := by decide) : dEq true x y C k := ne_ok (fit_ok hx hn) (fit_ok hy hm) q
end DL
namespace DL
open PySem L2
theorem wt_bo {X : Cx} {op : PySem.BoolOp} {es : List Expr} {env : DEnv} {C : CS} {kb : Bool → CS → Prop} {pos : Pos} (h : WW X (.BoolOp op es pos) env C kb) : WT X (.BoolOp op es pos) env C kb := wt_ww h
end DL
namespace DL
open PySem L2
theorem isTup_eq {x : D} (h : x.isTup = true) : ∃ xs, x = .tup xs := by cases x <;> first | exact ⟨_, rfl⟩ | (simp [D.isTup] at h; done)
theorem isStr_eq {x : D} (h : x.isStr = true) : ∃ s, x = .str s := by cases x <;> first | exact ⟨_, rfl⟩ | (simp [D.isStr] at h; done)
theorem two_of {α : Type} {xs : List α} (h : xs.length = 2) : ∃ a b, xs = [a, b] := by
  match xs, h with
  | [a, b], _ => exact ⟨a, b, rfl⟩
theorem fit_tup {xs : List D} {n : Nat} (h : (D.tup xs).fit n = true) : ∃ m, n = m + 1 ∧ ∀ d ∈ xs, d.fit m = true := by
  cases n with
  | zero => simp [D.fit] at h
  | succ m => exact ⟨m, rfl, fitL_all.mp (by simpa [D.fit] using h)⟩
theorem fit_lst {xs : List D} {n : Nat} (h : (D.lst xs).fit n = true) : ∃ m, n = m + 1 ∧ ∀ d ∈ xs, d.fit m = true := by
  cases n with
  | zero => simp [D.fit] at h
  | succ m => exact ⟨m, rfl, fitL_all.mp (by simpa [D.fit] using h)⟩
theorem len_ne2 {n : Nat} (h : (!((n : Int) == 2)) = false) : n = 2 := by
  have : ((n : Int) == 2) = true := by simpa using h
  have := beq_iff_eq.mp this
  omega
end DL
namespace DL
open PySem L2
theorem sIx_nat' (n d k : Nat) : HT.sIx n d (some (k : Int)) = min k n := HT.sIx_nat n d k
theorem cut_nat (xs : List D) (a b : Nat) : cutD xs (some (a : Int)) (some (b : Int)) = (xs.drop a).take (b - a) := by
  unfold cutD
  rw [sIx_nat', sIx_nat']
  by_cases h : a ≤ xs.length
  · rw [Nat.min_eq_left h]
    by_cases h2 : b ≤ xs.length
    · rw [Nat.min_eq_left h2]
    · have h3 : b > xs.length := by omega
      have e1 : (xs.drop a).take (xs.length - a) = xs.drop a := List.take_of_length_le (by simp)
      have e2 : (xs.drop a).take (b - a) = xs.drop a := List.take_of_length_le (by rw [List.length_drop]; omega)
      rw [Nat.min_eq_right (Nat.le_of_lt h3), e1, e2]
  · have h3 : xs.length ≤ a := by omega
    rw [Nat.min_eq_right h3, List.drop_of_length_le (Nat.le_refl _), List.drop_of_length_le h3]
    simp
def eqL (xs ys : List D) : Bool := PyData.eqvAll (pyL xs) (pyL ys)
theorem pyL_length : ∀ xs : List D, (pyL xs).length = xs.length
  | [] => rfl
  | _ :: xs => by simp [pyL, pyL_length xs]
theorem eqvAll_length : ∀ (xs ys : List PyData), PyData.eqvAll xs ys = true → xs.length = ys.length
  | [], [], _ => rfl
  | x :: xs, y :: ys, h => by
    simp only [PyData.eqvAll, Bool.and_eq_true] at h
    simp [eqvAll_length xs ys h.2]
  | [], _ :: _, h => by simp [PyData.eqvAll] at h
  | _ :: _, [], h => by simp [PyData.eqvAll] at h
theorem eqL_length {xs ys : List D} (h : eqL xs ys = true) : xs.length = ys.length := by
  have := eqvAll_length _ _ h
  rwa [pyL_length, pyL_length] at this
theorem fit_cut {xs : List D} {n : Nat} {lo hi : Option Int} (h : ∀ d ∈ xs, d.fit n = true) : (D.tup (cutD xs lo hi)).fit (n + 1) = true := by
  simp only [D.fit]
  exact fitL_all.mpr fun d hd => h d (List.mem_of_mem_drop (List.mem_of_mem_take hd))
theorem fit_cutL {xs : List D} {n : Nat} {lo hi : Option Int} (h : ∀ d ∈ xs, d.fit n = true) : (D.lst (cutD xs lo hi)).fit (n + 1) = true := by
  simp only [D.fit]
  exact fitL_all.mpr fun d hd => h d (List.mem_of_mem_drop (List.mem_of_mem_take hd))
theorem fit_tupI {xs : List D} {n : Nat} (h : ∀ d ∈ xs, d.fit n = true) : (D.tup xs).fit (n + 1) = true := by simp only [D.fit]; exact fitL_all.mpr h
theorem fit_lstI {xs : List D} {n : Nat} (h : ∀ d ∈ xs, d.fit n = true) : (D.lst xs).fit (n + 1) = true := by simp only [D.fit]; exact fitL_all.mpr h
end DL
namespace DL
open PySem L2
theorem any_map {C : CS} {k : KD} {xs : List D} {f : D → Bool} (q : k (.bl (xs.any f)) C) : dAny [.lst (xs.map fun d => .bl (f d))] C k :=
  ⟨_, xs.map f, rfl, by simp only [seqR, List.map_map]; rfl, by rw [List.any_map]; exact q⟩
theorem all_map {C : CS} {k : KD} {xs : List D} {f : D → Bool} (q : k (.bl (xs.all f)) C) : dAll [.lst (xs.map fun d => .bl (f d))] C k :=
  ⟨_, xs.map f, rfl, by simp only [seqR, List.map_map]; rfl, by rw [List.all_map]; exact q⟩
end DL
namespace DL
open PySem L2
theorem sz_ok {n : Nat} {B : Prop} (h : Nat.ble n 1000 = true) (q : B) : n ≤ sizeLine ∧ B := ⟨Nat.le_trans (Nat.le_of_ble_eq_true h) (by decide), q⟩
theorem sz_as {n : Nat} {B : Prop} (h : n ≤ sizeLine) (q : B) : n ≤ sizeLine ∧ B := ⟨h, q⟩
theorem dec_t {p : Prop} [Decidable p] (h : decide p = true) : p := of_decide_eq_true h
theorem dec_f {p : Prop} [Decidable p] (h : decide p = false) : ¬ p := of_decide_eq_false h
end DL
namespace DL
open PySem PySem.Spec PyProof.Rows L2
section
variable {X : Cx} {e a b o : Expr} {es : List Expr} {env : DEnv} {C : CS} {k : KD} {pos apos cpos : Pos} {kb : Bool → CS → Prop}
theorem we_nil (h : ∀ p, C p = none → k (.own p) (put C p (.lst []))) : WE X (.List [] pos) env C k := we_lst (wa_nil ⟨Nat.zero_le _, h⟩)
abbrev H1 (X : Cx) (o e : Expr) (name : Str) (apos cpos : Pos) : Prop := attributeBase o name X.env (eval o X.env) = eval o X.env
theorem x_append (h : WE X o env C fun x C1 => tyD "list" C1 x ∧ WE X e env C1 fun y C2 => dAppend x [y] C2 k)
    (hbase : attributeBase o "append" X.env (eval o X.env) = eval o X.env := by rfl)
    (hfew : ((backTo cpos (starEach (e :: []) X.env)).all (fun x => !x.1) && (backToKw cpos (keywordEach [] X.env)).all (fun x => x.1.isSome)
      && decide ((e :: []).length + ([] : List Keyword).length + (if ([] : List Keyword).isEmpty then 0 else 1) < 30)) = true := by rfl)
    (hline : (apos.endLine == cpos.line) = true := by rfl) (hs : starEach (e :: []) X.env = (false, eval e X.env) :: starEach [] X.env := by rfl) (hplain : (backTo cpos (starEach [] X.env)).any (·.1) = false := by rfl) :
    WE X (.Call (.Attribute o "append" apos) [e] [] cpos) env C k :=
  we_bm PySem.F.plainAttrs_list PySem.F.slot_list_append PySem.F.type_list_append mt_append rm_append (h.imp fun x C1 z => ⟨z.1, wa_cons (z.2.imp fun y C2 q => wa_nil q) hs⟩) hbase hfew hline hs hplain
theorem app_ok {p : Addr} {xs : List D} {y : D} (hc : C p = some (.lst xs)) (hl : xs.length < sizeLine) (q : k .non (put C p (.lst (xs ++ [y])))) : dAppend (.own p) [y] C k := ⟨p, xs, y, rfl, rfl, hc, hl, q⟩
theorem app_put {p : Addr} {xs : List D} {y : D} (hl : xs.length < sizeLine) (q : k .non (put C p (.lst (xs ++ [y])))) : dAppend (.own p) [y] (put C p (.lst xs)) k := ⟨p, xs, y, rfl, rfl, put_same, hl, by rw [put_put]; exact q⟩
theorem ty_own {p : Addr} {xs : List D} {B : Prop} (hc : C p = some (.lst xs)) (q : B) : tyD "list" C (.own p) ∧ B := ⟨.inl ⟨rfl, xs, hc⟩, q⟩
theorem ty_put {p : Addr} {xs : List D} {B : Prop} (q : B) : tyD "list" (put C p (.lst xs)) (.own p) ∧ B := ⟨.inl ⟨rfl, xs, put_same⟩, q⟩
theorem tuple_A {x : D} {rs : List D} (h : seqA C x = some rs) (q : k (.tup rs) C) : dTuple [x] C k := by
  refine ⟨x, rfl, ?_⟩
  cases x <;> simp only [seqA, Option.some.injEq] at h ⊢ <;> first | (subst h; exact q) | exact ⟨rs, h, q⟩
end
end DL
namespace DL
open PySem PySem.Spec PyProof.Rows L2
theorem x_gtup {P : Program} {w : World} {K : PySem.W.Frag} {mg : Str → Option Value} {base : Heap} {m : Nat} {X : Cx} {env : DEnv} {C : CS} {pos : Pos} {ts : List Expr} {n : Nat} {ds : List D} {kE : DEnv → CS → Prop} (hx : Ctx P w K mg base m X) (hl : ds.length = (assignEach ts X.env).length) (h : WGs X ts ds env C kE) (hst : (assignEach ts X.env).findIdx? (·.1) = none := by rfl) : WG X (.Tuple ts n pos) (.tup ds) env C kE := wg_tup hx.calm hl h hst
end DL
namespace DL
open PySem L2
theorem ix_p {C : CS} {k : KD} {p : Addr} {xs : List D} {i : Int} {d : D} (h : atI xs i = some d) (q : k d (put C p (.lst xs))) : dIx (.own p) (.int i) (put C p (.lst xs)) k := ix_o put_same h q
theorem setL_p {C : CS} {p : Addr} {xs : List D} {n : Int} {j : Nat} {d : D} {env : DEnv} {kE : DEnv → CS → Prop} (hj : ixN xs.length n = some j) (q : kE env (put C p (.lst (xs.set j d)))) : ∃ p' n' ys j', D.own p = .own p' ∧ D.int n = .int n' ∧ (put C p (.lst xs)) p' = some (.lst ys) ∧ ixN ys.length n' = some j' ∧ kE env (put (put C p (.lst xs)) p' (.lst (ys.set j' d))) :=
  ⟨p, n, xs, j, rfl, rfl, put_same, hj, by rw [put_put]; exact q⟩
theorem setL_o {C : CS} {p : Addr} {xs : List D} {n : Int} {j : Nat} {d : D} {env : DEnv} {kE : DEnv → CS → Prop} (hc : C p = some (.lst xs)) (hj : ixN xs.length n = some j) (q : kE env (put C p (.lst (xs.set j d)))) : ∃ p' n' ys j', D.own p = .own p' ∧ D.int n = .int n' ∧ C p' = some (.lst ys) ∧ ixN ys.length n' = some j' ∧ kE env (put C p' (.lst (ys.set j' d))) :=
  ⟨p, n, xs, j, rfl, rfl, hc, hj, q⟩
theorem len_put {C : CS} {k : KD} {p : Addr} {xs : List D} (q : k (.int (xs.length : Nat)) (put C p (.lst xs))) : dLen [.own p] (put C p (.lst xs)) k := len_own put_same q
end DL
namespace DL
open PySem PySem.Spec PyProof.Rows L2
theorem ws_asgD {X : Cx} {N : List Str} {dsc : Scope} {e tg : Expr} {env : DEnv} {C : CS} {pos : Pos} {E : DEnds} (D0 : Dfc X N dsc) (h : WE X e env C fun d C1 => WG X tg d env C1 E.nx) (hw : swappedStores [tg] e (envOf dsc) = pure none) (hs : swapsWithSole [tg] e pos.line X.env = pure false := by rfl)
    (h1 : (assignEach [tg] X.env).map (·.2) = [assign tg X.env] := by rfl) : WS X (.Assign [tg] e pos) env C E := ws_asg h hs (by rw [sst_env D0.sc]; exact hw) h1
theorem put_self {C : CS} {a : Addr} {c : Cell} (h : C a = some c) : put C a c = C := by
  funext b; unfold put; split
  · rename_i e; rw [e, h]
  · rfl
theorem put_comm {C : CS} {a b : Addr} {c d : Cell} (h : a ≠ b) : put (put C a c) b d = put (put C b d) a c := by
  funext x; unfold put
  by_cases e : x = a
  · subst e; rw [if_neg h, if_pos rfl]
    simp
  · by_cases e2 : x = b
    · subst e2; simp [e]
    · simp [e, e2]
end DL
/-! DLn: methods by their names; texts. -/
namespace DL
open PySem PySem.Spec PyProof.Rows L2
section
variable {X : Cx} {e a b o : Expr} {es : List Expr} {env : DEnv} {C : CS} {k : KD} {pos apos cpos : Pos} {kb : Bool → CS → Prop}
theorem x_join (h : WE X o env C fun x C1 => tyD "str" C1 x ∧ WA X (e :: es) env C1 fun ds C2 => dJoin x ds C2 k)
    (hbase : attributeBase o "join" X.env (eval o X.env) = eval o X.env := by rfl)
    (hfew : ((backTo cpos (starEach (e :: es) X.env)).all (fun x => !x.1) && (backToKw cpos (keywordEach [] X.env)).all (fun x => x.1.isSome)
      && decide ((e :: es).length + ([] : List Keyword).length + (if ([] : List Keyword).isEmpty then 0 else 1) < 30)) = true := by rfl)
    (hline : (apos.endLine == cpos.line) = true := by rfl) (hs : starEach (e :: es) X.env = (false, eval e X.env) :: starEach es X.env := by rfl) (hplain : (backTo cpos (starEach es X.env)).any (·.1) = false := by rfl) :
    WE X (.Call (.Attribute o "join" apos) (e :: es) [] cpos) env C k :=
  we_bm PySem.F.plainAttrs_str PySem.F.slot_str_join PySem.F.type_str_join mt_join rm_join h hbase hfew hline hs hplain
theorem x_sindex (h : WE X o env C fun x C1 => tyD "str" C1 x ∧ WA X (e :: es) env C1 fun ds C2 => dSIndex x ds C2 k)
    (hbase : attributeBase o "index" X.env (eval o X.env) = eval o X.env := by rfl)
    (hfew : ((backTo cpos (starEach (e :: es) X.env)).all (fun x => !x.1) && (backToKw cpos (keywordEach [] X.env)).all (fun x => x.1.isSome)
      && decide ((e :: es).length + ([] : List Keyword).length + (if ([] : List Keyword).isEmpty then 0 else 1) < 30)) = true := by rfl)
    (hline : (apos.endLine == cpos.line) = true := by rfl) (hs : starEach (e :: es) X.env = (false, eval e X.env) :: starEach es X.env := by rfl) (hplain : (backTo cpos (starEach es X.env)).any (·.1) = false := by rfl) :
    WE X (.Call (.Attribute o "index" apos) (e :: es) [] cpos) env C k :=
  we_bm PySem.F.plainAttrs_str PySem.F.slot_str_index PySem.F.type_str_index mt_sindex rm_sindex h hbase hfew hline hs hplain
theorem x_insert (h : WE X o env C fun x C1 => tyD "list" C1 x ∧ WA X (e :: es) env C1 fun ds C2 => dInsert x ds C2 k)
    (hbase : attributeBase o "insert" X.env (eval o X.env) = eval o X.env := by rfl)
    (hfew : ((backTo cpos (starEach (e :: es) X.env)).all (fun x => !x.1) && (backToKw cpos (keywordEach [] X.env)).all (fun x => x.1.isSome)
      && decide ((e :: es).length + ([] : List Keyword).length + (if ([] : List Keyword).isEmpty then 0 else 1) < 30)) = true := by rfl)
    (hline : (apos.endLine == cpos.line) = true := by rfl) (hs : starEach (e :: es) X.env = (false, eval e X.env) :: starEach es X.env := by rfl) (hplain : (backTo cpos (starEach es X.env)).any (·.1) = false := by rfl) :
    WE X (.Call (.Attribute o "insert" apos) (e :: es) [] cpos) env C k :=
  we_bm PySem.F.plainAttrs_list PySem.F.slot_list_insert PySem.F.type_list_insert mt_insert rm_insert h hbase hfew hline hs hplain
theorem x_popAt (h : WE X o env C fun x C1 => tyD "list" C1 x ∧ WA X (e :: es) env C1 fun ds C2 => dPopAt x ds C2 k)
    (hbase : attributeBase o "pop" X.env (eval o X.env) = eval o X.env := by rfl)
    (hfew : ((backTo cpos (starEach (e :: es) X.env)).all (fun x => !x.1) && (backToKw cpos (keywordEach [] X.env)).all (fun x => x.1.isSome)
      && decide ((e :: es).length + ([] : List Keyword).length + (if ([] : List Keyword).isEmpty then 0 else 1) < 30)) = true := by rfl)
    (hline : (apos.endLine == cpos.line) = true := by rfl) (hs : starEach (e :: es) X.env = (false, eval e X.env) :: starEach es X.env := by rfl) (hplain : (backTo cpos (starEach es X.env)).any (·.1) = false := by rfl) :
    WE X (.Call (.Attribute o "pop" apos) (e :: es) [] cpos) env C k :=
  we_bm PySem.F.plainAttrs_list PySem.F.slot_list_pop PySem.F.type_list_pop mt_popAt rm_popAt h hbase hfew hline hs hplain
end
theorem x_ixL {X : Cx} {es : List Expr} {b : Expr} {env : DEnv} {C : CS} {k : KD} {pos p1 : Pos} (h : WA X es env C fun ds C1 => ds.length ≤ sizeLine ∧ WE X b env C1 fun y C2 => dIx (.lst ds) y C2 k) (hs : PlainIx b := by intro _ _; rfl) : WE X (.Subscript (.List es p1) b pos) env C k := we_ix (we_lstF h) hs
theorem ty_str {C : CS} {z : Str} {B : Prop} (q : B) : tyD "str" C (.str z) ∧ B := ⟨rfl, q⟩
/-- a text of signs -/
def sg (c : Nat) : Str := ⟨#[c]⟩
theorem joinL_sg : ∀ cs : List Nat, TL.joinL [] (cs.map fun c => [c]) = cs
  | [] => rfl
  | [c] => rfl
  | c :: d :: r => by
    show [c] ++ ([] ++ TL.joinL [] ((d :: r).map fun c => [c])) = _
    rw [joinL_sg (d :: r)]
    rfl
theorem join_sg (cs : List Nat) : (Txt.join "" (cs.map sg)).cps.toList = cs := by
  refine (congrArg TL.tl (TL.join_eq "" (cs.map sg))).trans ?_
  rw [TL.tl_join, List.map_map]
  have e : TL.tl ("" : Str) = [] := by decide +kernel
  rw [e]
  exact joinL_sg cs
theorem join_ok {C : CS} {k : KD} {x : D} {cs : List Nat} (hs : seqR C x = some (cs.map fun c => D.str (sg c))) (hl : cs.length ≤ 1000000) (q : ∀ z : Str, z.cps.toList = cs → k (.str z) C) : dJoin (.str "") [x] C k := by
  refine ⟨"", x, cs.map sg, rfl, rfl, by rw [hs, List.map_map]; rfl, ?_, q _ (join_sg cs)⟩
  have e : ("" : Str).length = 0 := by decide +kernel
  rw [e, Nat.mul_zero, Nat.add_zero, List.map_map]
  have : ∀ cs : List Nat, (cs.map ((fun x : Str => x.length) ∘ sg)).sum = cs.length := by
    intro cs
    induction cs with
    | nil => rfl
    | cons c cs ih => rw [List.map_cons, List.sum_cons, ih, List.length_cons]; show 1 + _ = _; omega
  rw [this]
  omega
theorem str_ext {x y : Str} (h : x.cps.toList = y.cps.toList) : x = y := by
  cases x with
  | mk a => cases y with
    | mk b => exact congrArg Str.mk (Array.toList_inj.mp h)
theorem str_app (x y : Str) : (x ++ y).cps.toList = x.cps.toList ++ y.cps.toList := by
  show (x.cps ++ y.cps).toList = _
  rw [Array.toList_append]
theorem str_len (x : Str) : x.length = x.cps.toList.length := by
  show x.cps.size = _
  rw [Array.length_toList]
/-- cells forgotten -/
def Sub (C2 C1 : CS) : Prop := ∀ a c, C2 a = some c → C1 a = some c
theorem Sub.refl (C : CS) : Sub C C := fun _ _ h => h
theorem Sub.trans {C1 C2 C3 : CS} (a : Sub C1 C2) (b : Sub C2 C3) : Sub C1 C3 := fun x c h => b x c (a x c h)
theorem Sub.put {C C1 : CS} (h : Sub C C1) (a : Addr) (c : Cell) : Sub (put C a c) (put C1 a c) := fun x d e => by
  by_cases q : x = a
  · subst q; rw [put_same] at e ⊢; exact e
  · rw [put_ne q] at e ⊢; exact h x d e
theorem Sub.new {C C1 : CS} {a : Addr} {c : Cell} (h : Sub C C1) (ha : C a = none) : Sub C (DL.put C1 a c) := fun x d e => by
  have : x ≠ a := fun q => by subst q; rw [ha] at e; cases e
  rw [put_ne this]; exact h x d e
theorem fnS {P : Program} {w : World} {K : PySem.W.Frag} {mg : Str → Option Value} {base : Heap} {x qual : Str} {st : Stmt} {f : Addr} {fd : FuncData} {N M Ds ps : List Str} {n : Nat} {S : DSp} (F : Fun K x qual st f fd) (sc : FnScope N ps (defScope st)) (hv : visC (defScope st) M = true) (hlc : locC (defScope st) M = true) (hg : glC (defScope st) Ds = true)
    (hl : ∀ ds C k, S ds C k → ds.length = ps.length)
    (hb : ∀ (X : Cx), Bdy P w K mg base n N M Ds (defScope st) X → ∀ (ds : List D) (C : CS) (k : KD), S ds C k → WSs X (defBody st) (startD N ds) C { nx := fun _ C1 => ∃ C2, Sub C2 C1 ∧ k .non C2, rt := fun d C1 => ∃ C2, Sub C2 C1 ∧ k d C2 }) : FnG P w K mg base CX0 (n + 1) f fd ps (toSp K S) :=
  fnX F sc hv hlc hg hl fun X hB ds C k hS G σ H D0 wl er q => hb X hB ds C k hS G σ H D0 wl er
    ⟨fun G' C' H' σ' env f' w' er' ⟨C2, hs, z⟩ => let ⟨w2, f2⟩ := w'.sub hs; q.nx G' C2 H' σ' env (f'.trans f2) w2 er' z,
     fun v G' C' H' d f' w' r ⟨C2, hs, z⟩ => let ⟨w2, f2⟩ := w'.sub hs; q.rt v G' C2 H' d (f'.trans f2) w2 r z, fun G' C' H' σ' env f' w' er' z => z.elim, fun G' C' H' σ' env f' w' er' z => z.elim⟩
theorem pyL_strs : ∀ zs : List Str, pyL (zs.map D.str) = zs.map PyData.str
  | [] => rfl
  | z :: zs => by rw [List.map_cons, pyL, pyL_strs zs]; rfl
theorem allPy_strs : ∀ zs : List Str, allPy (zs.map D.str) = true
  | [] => rfl
  | z :: zs => by rw [List.map_cons, allPy, allPy_strs zs]; rfl
theorem strs_lay : ∀ zs : List Str, (∀ y ∈ zs, PyData.strOk y = true) → PyData.canLayAll0 (zs.map PyData.str) = true ∧ PyData.depthAll (zs.map PyData.str) = 0
  | [], _ => ⟨rfl, rfl⟩
  | z :: zs, h => by
    obtain ⟨h1, h2⟩ := strs_lay zs fun y hy => h y (List.mem_cons_of_mem _ hy)
    refine ⟨?_, ?_⟩
    · rw [List.map_cons, PyData.canLayAll0, h1, Bool.and_true]
      exact h z List.mem_cons_self
    · rw [List.map_cons, PyData.depthAll, h2]; rfl
theorem any_strs (z : Str) : ∀ zs : List Str, ((zs.map PyData.str).any fun w => PyData.eqv w (.str z)) = decide (z ∈ zs)
  | [] => rfl
  | y :: zs => by
    rw [List.map_cons, List.any_cons, any_strs z zs]
    by_cases h : y = z
    · subst h; simp [PyData.eqv]
    · have h' : ¬ z = y := fun e => h e.symm
      simp [PyData.eqv, h, h']
theorem shaped_str {z : Str} (h : PyData.strOk z = true) : SeqAt.shaped (.str z) = true := by
  unfold SeqAt.shaped
  rw [Bool.and_eq_true]
  exact ⟨h, rfl⟩
theorem shaped_strs {zs : List Str} (h : ∀ y ∈ zs, PyData.strOk y = true) : SeqAt.shaped (.list (zs.map PyData.str)) = true := by
  obtain ⟨h1, h2⟩ := strs_lay zs h
  unfold SeqAt.shaped
  rw [Bool.and_eq_true]
  refine ⟨h1, decide_eq_true ?_⟩
  show PyData.depthAll (zs.map PyData.str) + 1 ≤ 64
  omega
/-- a text in a list of texts -/
theorem in_strs {C : CS} {k : KD} {x : D} {zs : List Str} {z : Str} (hx : x.isStr = false) (hc : pyC C x = some (.list (zs.map PyData.str))) (hz : PyData.strOk z = true) (hzs : ∀ y ∈ zs, PyData.strOk y = true) (q : k (.bl (decide (z ∈ zs))) C) : dIn false (.str z) x C k := by
  have : dInL false (.str z) x C k := ⟨.str z, zs.map PyData.str, rfl, hc, shaped_str hz, shaped_strs hzs, by
    show k (.bl ((zs.map PyData.str).any fun w => PyData.eqv w (.str z))) C
    rw [any_strs]; exact q⟩
  cases x <;> first | exact this | (simp [D.isStr] at hx; done) | (simp [pyC, D.py] at hc; done)
theorem nin_strs {C : CS} {k : KD} {x : D} {zs : List Str} {z : Str} (hx : x.isStr = false) (hc : pyC C x = some (.list (zs.map PyData.str))) (hz : PyData.strOk z = true) (hzs : ∀ y ∈ zs, PyData.strOk y = true) (q : k (.bl (!decide (z ∈ zs))) C) : dIn true (.str z) x C k := by
  have : dInL true (.str z) x C k := ⟨.str z, zs.map PyData.str, rfl, hc, shaped_str hz, shaped_strs hzs, by
    show k (.bl (!(zs.map PyData.str).any fun w => PyData.eqv w (.str z))) C
    rw [any_strs]; exact q⟩
  cases x <;> first | exact this | (simp [D.isStr] at hx; done) | (simp [pyC, D.py] at hc; done)
theorem pyC_strs {C : CS} {p : Addr} {zs : List Str} (h : C p = some (.lst (zs.map D.str))) : pyC C (.own p) = some (.list (zs.map PyData.str)) := by
  unfold pyC
  simp only [h]
  rw [if_pos (allPy_strs zs), pyL_strs]
theorem pyF_strs {C : CS} {zs : List Str} : pyC C (.lst (zs.map D.str)) = some (.list (zs.map PyData.str)) := by
  unfold pyC
  simp only [D.isPy, allPy_strs, D.py, pyL_strs, if_true]
theorem nodup_sub {α : Type} [DecidableEq α] : ∀ (xs ys : List α), xs.Nodup → (∀ x ∈ xs, x ∈ ys) → xs.length ≤ ys.length
  | [], _, _, _ => Nat.zero_le _
  | x :: xs, ys, nd, h => by
    have hx := h x List.mem_cons_self
    have nd' := List.nodup_cons.mp nd
    have := nodup_sub xs (ys.erase x) nd'.2 fun y hy => (List.mem_erase_of_ne (fun e => by subst e; exact nd'.1 hy)).mpr (h y (List.mem_cons_of_mem _ hy))
    rw [List.length_erase_of_mem hx] at this
    have hp : 0 < ys.length := List.length_pos_of_mem hx
    rw [List.length_cons]
    omega
end DL
/-! DLo: classes in a tuple; zip; two names in a comprehension. -/
namespace DL
open PySem PySem.Spec PyProof.Rows L2 RZ
/-- isinstance with a tuple of classes, wherever the tuple stands -/
def rIsiU (K : PySem.W.Frag) : List V → Hp → VK → Prop := fun xs H Q => ∃ (x : V) (tp : Addr) (cs : List V) (t : Value) (us : List Value) (b : Bool), xs = [x, .ref tp] ∧ SqT K H tp cs ∧ Paired ClsV cs us ∧ TyX K H x t ∧ PySem.W.kitAny K t us = some b ∧ Q (.bl b) H
theorem call_isiU {X : Cx} : CallR X (.builtin "isinstance") (rIsiU X.K) := by
  rintro pins s σ H xs us Q I r ⟨x, tp, cs, t, ws, b, rfl, hT, hcs, ty, e, q⟩
  obtain ⟨u1, u2, rfl, r1, r2⟩ := vals2 r
  obtain rfl : u2 = Value.ref tp := r2
  obtain ⟨P, hZ, hp, hne⟩ := kit_of I r1 ty
  obtain ⟨its, rv, ⟨⟨oc, od, dt, sl⟩, g1, g2, n, g3⟩, _⟩ := I.tuple hT
  obtain rfl := ClsV.all hcs rv
  simp only at g2 g3
  subst g2
  subst g3
  refine PySem.W.kia_tup hZ I.kIn hp g1 e hne ?_
  intro tk
  exact ⟨V.bl b, H, I.tok tk, rfl, q⟩
def kitL (T : String) : List String → Option Bool
  | [] => some false
  | U :: Us => match kitB T U with
    | some true => some true
    | some false => kitL T Us
    | none => none
theorem kitL_ok {K : PySem.W.Frag} {T : String} {b : Bool} : ∀ {Us : List String}, kitL T Us = some b → PySem.W.kitAny K (.type T) (Us.map fun U => .type U) = some b
  | [], h => by cases h; exact kitAny_nil
  | U :: Us, h => by
    unfold kitL at h
    cases e : kitB T U with
    | none => rw [e] at h; cases h
    | some t =>
      rw [e] at h
      cases t with
      | true => exact kitAny_cons (kit_ty e) (fun z => by cases z) fun _ => by cases h; rfl
      | false => exact kitAny_cons (kit_ty e) (fun _ => kitL_ok h) fun z => by cases z
def tysD (Us : List String) : List D := Us.map fun U => .opq (.ty U)
def dIsiT : List D → CS → KD → Prop := fun ds C k => ∃ x T Us b, ds = [x, .tup (tysD Us)] ∧ tyN C x = some T ∧ kitL T Us = some b ∧ k (.bl b) C
theorem dat_tys {K : PySem.W.Frag} {G : Hp} : ∀ {Us : List String} {vs : List V}, DatAll K G vs (tysD Us) → Paired ClsV vs (Us.map fun U => .type U)
  | [], _, h => by cases h; exact .nil
  | U :: Us, _, h => by
    cases h with
    | cons h1 h2 => cases h1; exact .cons (.ty U) (dat_tys h2)
theorem rl_isiT {K : PySem.W.Frag} : RLD K (rIsiU K) dIsiT := by
  rintro xs ds G C H k Q w rs ⟨x, T, Us, b, rfl, ht, hb, hk⟩ q
  cases rs with
  | cons r1 r2 =>
    cases r2 with
    | cons r2 r3 =>
      cases r3
      obtain ⟨a, vs, rfl, h1, h2⟩ := w.tup r2
      exact ⟨_, a, vs, .type T, _, b, rfl, h1, dat_tys h2, tyN_ok w r1 ht, kitL_ok hb, q _ _ _ _ _ (Fr.refl ..) w (.bl _) hk⟩
section
variable {X : Cx} {a e e2 elt iter : Expr} {ts es : List Expr} {env : DEnv} {C C1 : CS} {k : KD} {pos p p2 : Pos} {n m : Nat} {P : Program} {w : World} {K : PySem.W.Frag} {mg : Str → Option Value} {base : Heap}
theorem x_isiT (hx : Ctx P w K mg base m X) (Z : Zs mg) (hg : Gl X "isinstance") (h : WA X [a, .Tuple ts n p2] env C fun ds C1 => dIsiT ds C1 k) (he : starEach [a, .Tuple ts n p2] X.env = (false, eval a X.env) :: starEach [.Tuple ts n p2] X.env := by rfl)
    (hpl : (backTo pos (starEach [.Tuple ts n p2] X.env)).any (·.1) = false := by rfl) : WE X (.Call (.Name "isinstance" p) [a, .Tuple ts n p2] [] pos) env C k :=
  we_cb (hx.zs Z).isi call_isiU rl_isiT hg bt_isi h (he := he) (hpl := hpl)
end
section
variable {C : CS} {k : KD} {x : D}
theorem isi_lt (h : x.kind = true) (q : k (.bl (x.isLst || x.isTup)) C) : dIsiT [x, .tup [.opq (.ty "list"), .opq (.ty "tuple")]] C k := by
  cases x <;> first | exact ⟨_, _, ["list", "tuple"], true, rfl, rfl, by decide +kernel, q⟩ | exact ⟨_, _, ["list", "tuple"], false, rfl, rfl, by decide +kernel, q⟩ | (simp [D.kind] at h; done)
theorem isi_ownLT {a : Addr} {xs : List D} (h : C a = some (.lst xs)) (q : k (.bl true) C) : dIsiT [.own a, .tup [.opq (.ty "list"), .opq (.ty "tuple")]] C k :=
  ⟨_, "list", ["list", "tuple"], true, rfl, by simp [tyN, h], by decide +kernel, q⟩
end
/-! ### zip -/
def zipD : List D → List D → List D
  | x :: xs, y :: ys => .tup [x, y] :: zipD xs ys
  | _, _ => []
theorem zipD_get : ∀ {xs ys : List D} {i : Nat} {d : D}, (zipD xs ys)[i]? = some d → ∃ x y, d = .tup [x, y] ∧ xs[i]? = some x ∧ ys[i]? = some y
  | [], _, i, d, h => by simp [zipD] at h
  | _ :: _, [], i, d, h => by simp [zipD] at h
  | x :: xs, y :: ys, 0, d, h => by
    simp [zipD] at h
    exact ⟨x, y, h.symm, rfl, rfl⟩
  | x :: xs, y :: ys, i + 1, d, h => by
    simp [zipD] at h
    obtain ⟨x', y', h1, h2, h3⟩ := zipD_get h
    exact ⟨x', y', h1, by simpa using h2, by simpa using h3⟩
theorem zipD_len : ∀ {xs ys : List D}, xs.length = ys.length → (zipD xs ys).length = xs.length
  | [], _, _ => rfl
  | _ :: _, [], h => by cases h
  | x :: xs, y :: ys, h => by
    simp only [zipD, List.length_cons]
    rw [zipD_len (by simpa using h)]
/-- while P holds of the cells, a is the list of these data -/
def SeqOf (K : PySem.W.Frag) (a : Addr) (xs : List D) (Pc : CS → Prop) (G : Hp) : Prop := ∀ G' C' H', Same G G' → Wld K G' C' H' → Pc C' → ∃ vs, SqL K H' a vs ∧ DatAll K G' vs xs
/-- what a list's name says of the cells -/
def ownP (d : D) (xs : List D) : CS → Prop := fun C => ∀ a, d = .own a → C a = some (.lst xs)
theorem seqOf_dat {K : PySem.W.Frag} {G H : Hp} {C : CS} {v : V} {d : D} {xs : List D} (w : Wld K G C H) (r : Dat K G v d) (h : seqR C d = some xs) : ∃ a, v = .ref a ∧ SeqOf K a xs (ownP d xs) G ∧ ∃ vs, SqL K H a vs := by
  cases r with
  | lst x1 x2 =>
    simp [seqR] at h; subst h
    exact ⟨_, rfl, fun G' C' H' e w' _ => ⟨_, w'.ex.seq (e.seq (SqL.of x1)), x2.mono e⟩, _, w.ex.seq (SqL.of x1)⟩
  | slst x1 x2 =>
    simp [seqR] at h; subst h
    exact ⟨_, rfl, fun G' C' H' e w' _ => ⟨_, w'.ex.seq (e.seq x1), x2.mono e⟩, _, w.ex.seq x1⟩
  | own a =>
    obtain ⟨_, vs, y1, y2⟩ := w.cell a _ (own_seqR h)
    refine ⟨a, rfl, fun G' C' H' e w' p => ?_, _, SqL.of y1⟩
    obtain ⟨_, vs, z1, z2⟩ := w'.cell a _ (p a rfl)
    exact ⟨vs, SqL.of z1, z2⟩
  | _ => simp [seqR] at h
theorem iterD_zip {K : PySem.W.Frag} {G : Hp} {a b : Addr} {xs ys : List D} {P1 P2 : CS → Prop} (hl : xs.length = ys.length) (h1 : SeqOf K a xs P1 G) (h2 : SeqOf K b ys P2 G) : IterD K (Itz K a b) (zipD xs ys) (fun C => P1 C ∧ P2 C) G := by
  rintro G' C' H' e w ⟨p1, p2⟩
  obtain ⟨vs, q1, r1⟩ := h1 G' C' H' e w p1
  obtain ⟨us, q2, r2⟩ := h2 G' C' H' e w p2
  refine ⟨fun i d hd => ?_, fun i hi => ⟨vs, us, q1, q2, .inl (by rw [r1.length]; rwa [zipD_len hl] at hi)⟩⟩
  obtain ⟨x, y, rfl, gx, gy⟩ := zipD_get hd
  obtain ⟨v1, t1, d1⟩ := r1.get gx
  obtain ⟨v2, t2, d2⟩ := r2.get gy
  refine ⟨⟨vs, us, v1, v2, q1, q2, t1, t2⟩, ?_⟩
  rintro v H2 ⟨T, x', y', rfl, hT, rfl, f1, f2⟩
  have e1 := f1 vs q1
  rw [t1] at e1; cases e1
  have e2 := f2 us q2
  rw [t2] at e2; cases e2
  obtain ⟨w2, f2, s2⟩ := w.newG hT (.tup [v1, v2])
  exact ⟨_, f2, w2, .tup (SqT.of upd_same) (.cons (d1.mono s2) (.cons (d2.mono s2) .nil))⟩
theorem iterD_zipT {K : PySem.W.Frag} {G : Hp} {a b : Addr} {vs us : List V} {xs ys : List D} (hl : xs.length = ys.length) (h1 : SqT K G a vs) (r1 : DatAll K G vs xs) (h2 : SqT K G b us) (r2 : DatAll K G us ys) : IterD K (ItzT K a b) (zipD xs ys) (fun _ => True) G := by
  rintro G' C' H' e w _
  have q1 : SqT K H' a vs := Same.sqT w.ex (Same.sqT e h1)
  have q2 : SqT K H' b us := Same.sqT w.ex (Same.sqT e h2)
  refine ⟨fun i d hd => ?_, fun i hi => ⟨vs, us, q1, q2, .inl (by rw [r1.length]; rwa [zipD_len hl] at hi)⟩⟩
  obtain ⟨x, y, rfl, gx, gy⟩ := zipD_get hd
  obtain ⟨v1, t1, d1⟩ := r1.get gx
  obtain ⟨v2, t2, d2⟩ := r2.get gy
  refine ⟨⟨vs, us, v1, v2, q1, q2, t1, t2⟩, ?_⟩
  rintro v H2 ⟨T, x', y', rfl, hT, rfl, f1, f2⟩
  have e1 := f1 vs q1
  rw [t1] at e1; cases e1
  have e2 := f2 us q2
  rw [t2] at e2; cases e2
  obtain ⟨w2, f2, s2⟩ := w.newG hT (.tup [v1, v2])
  exact ⟨_, f2, w2, .tup (SqT.of upd_same) (.cons ((d1.mono e).mono s2) (.cons ((d2.mono e).mono s2) .nil))⟩
section
variable {X : Cx} {a b e e2 elt iter : Expr} {ts es : List Expr} {env : DEnv} {C C1 : CS} {k : KD} {kI : KI} {pos p p2 tpos : Pos} {n m : Nat} {P : Program} {w : World} {K : PySem.W.Frag} {mg : Str → Option Value} {base : Heap}
theorem wi_zip (hx : Ctx P w K mg base m X) (Z : Zs mg) (hg : Gl X "zip") (h : WA X [a, b] env C fun ds C1 => ∃ x y xs ys, ds = [x, y] ∧ xs.length = ys.length ∧ ((seqR C1 x = some xs ∧ seqR C1 y = some ys ∧ kI (zipD xs ys) (fun C => ownP x xs C ∧ ownP y ys C) C1) ∨ (x = .tup xs ∧ y = .tup ys ∧ kI (zipD xs ys) (fun _ => True) C1)))
    (hs : starEach [a, b] X.env = (false, eval a X.env) :: starEach [b] X.env := by rfl) (hpl : (backTo pos (starEach [b] X.env)).any (·.1) = false := by rfl) : WI X (.Tuple ts n tpos) (.Call (.Name "zip" p) [a, b] [] pos) env C kI := by
  refine ⟨_, pi_zipA hg (hx.zs Z).zip pa_tAr hs hpl, fun G σ H R w er q => h G σ H _ w er fun v G1 C1 H1 ds f1 w1 r1 z => ?_⟩
  obtain ⟨x, y, xs, ys, rfl, hl, z⟩ := z
  cases r1 with
  | cons r1 r2 =>
    cases r2 with
    | cons r2 r3 =>
      cases r3
      rcases z with ⟨s1, s2, z⟩ | ⟨rfl, rfl, z⟩
      · obtain ⟨a1, rfl, g1, vs, t1⟩ := seqOf_dat w1 r1 s1
        obtain ⟨a2, rfl, g2, us, t2⟩ := seqOf_dat w1 r2 s2
        exact ⟨a1, a2, vs, us, rfl, .inl ⟨t1, t2, q _ _ _ _ _ _ f1 w1 (iterD_zip hl g1 g2) z⟩⟩
      · cases r1 with
        | tup x1 x2 =>
          cases r2 with
          | tup y1 y2 => exact ⟨_, _, _, _, rfl, .inr ⟨Same.sqT w1.ex x1, Same.sqT w1.ex y1, q _ _ _ _ _ _ f1 w1 (iterD_zipT hl x1 x2 y1 y2) z⟩⟩
end
/-! ### a comprehension with two names -/
def pairF (env : DEnv) (f : D → D → DEnv) : D → DEnv
  | .tup [a, b] => f a b
  | _ => env
theorem set_two {env : DEnv} {i j : Nat} (h : i ≠ j) (a b : D) : ((wipeD env [i, j]).set i (some a)).set j (some b) = (env.set i (some a)).set j (some b) := by
  show ((((env.set j none).set i none).set i (some a)).set j (some b)) = _
  rw [List.set_set, List.set_comm _ _ h.symm, List.set_set]
section
variable {X : Cx} {elt iter : Expr} {ifs : List Expr} {scope dsc : Scope} {env : DEnv} {C C1 : CS} {k : KD} {pos px py pt : Pos} {n : Nat} {E : DEnds} {N M gs : List Str} {x y : Str} {f1 : D → DEnv} {f2 : D → D → DEnv} {xs : List D} {Pc : CS → Prop}
theorem lcB_I2 (D0 : Dfc X N dsc) (hP : Put N x env f1) (hQ : ∀ d, Put N y (f1 d) (f2 d)) (hxy : x ≠ y) (hv : visC (relS scope dsc) M = true) (hg : glC (relS scope dsc) gs = true) (hp2 : ∀ d ∈ xs, ∃ a b, d = .tup [a, b])
    (h : LcB X elt ifs scope N M gs (pairF env f2) xs Pc C1 k) : ∃ i j, N[i]? = some x ∧ N[j]? = some y ∧ LcI X elt ifs scope [i, j] (gTup X.K 2 (gCons (gName i) (gCons (gName j) gNil))) env xs Pc C1 k := by
  obtain ⟨i, h1, h2, _⟩ := hP.set
  obtain ⟨j, g1, _⟩ := (hQ .non).set
  have hij : i ≠ j := fun e => by subst e; rw [h1] at g1; exact hxy (Option.some.inj g1)
  have nd : N.Nodup := by rw [← D0.n]; exact D0.nd
  have e2 : ∀ a b, (env.set i (some a)).set j (some b) = f2 a b := by
    intro a b
    obtain ⟨j', k1, k2, _⟩ := (hQ a).set
    obtain rfl := nodup_ix nd k1 g1
    rw [h2, k2]
  refine ⟨i, j, h1, g1, ?_⟩
  obtain ⟨Iv, i0, hp, turn, done⟩ := h
  refine ⟨Iv, i0, hp, fun m d acc C hd hi => ?_, done⟩
  obtain ⟨a, b, rfl⟩ := hp2 d (List.mem_of_getElem? hd)
  refine gw_tup2 (by simp) (by simp) ?_
  rw [set_two hij, e2]
  exact fun X' hX => WIf.imp (turn m _ acc C hd hi X' hX (blk_nms D0 hv X' hX) (blk_gls D0 hg X' hX)) fun t C3 z => ⟨fun ht X'' hX'' => z.1 ht X'' hX'' (blk_nms D0 hv X'' hX'') (blk_gls D0 hg X'' hX''), z.2⟩
theorem lc2 (M gs : List Str) (D0 : Dfc X N dsc) (hP : Put N x env f1) (hQ : ∀ d, Put N y (f1 d) (f2 d)) (hxy : x ≠ y) (ok : blkC N dsc scope [(x, N.idxOf x), (y, N.idxOf y)] = true) (hv : visC (relS scope dsc) M = true) (hg : glC (relS scope dsc) gs = true)
    (hx : onlyC (relS scope dsc) [x] = true) (hy : onlyC (relS scope dsc) [y] = true)
    (h : WI X (.Tuple [.Name x px, .Name y py] n pt) iter env C fun xs Pc C1 => (∀ d ∈ xs, ∃ a b, d = .tup [a, b]) ∧ LcB X elt ifs scope N M gs (pairF env f2) xs Pc C1 k) (hs : ∀ x, foldedSetIterable iter X.env x = pure x := by intro _; rfl) :
    WE X (.ListComp elt [⟨.Tuple [.Name x px, .Name y py] n pt, iter, ifs, 0⟩] scope pos) env C k := by
  obtain ⟨i, h1, _⟩ := hP.set
  obtain ⟨j, g1, _⟩ := (hQ .non).set
  have nd : N.Nodup := by rw [← D0.n]; exact D0.nd
  have ok' : BlkOk X.N X.env.scope scope [(x, i), (y, j)] := by
    rw [idxOf_of nd h1, idxOf_of nd g1] at ok
    rw [D0.n, D0.sc]
    exact blkOk_by ok
  refine we_lc [(x, i), (y, j)] (g := gTup X.K 2 (gCons (gName i) (gCons (gName j) gNil))) D0.calm D0.nd ok' (fun s H Ca cl fp => ?_) ?_ hs
  · exact pg_tup (show X.calm = true from D0.calm) (pgs_cons (lc_pg D0 h1 hx s H Ca cl fp) (pgs_cons (lc_pg D0 g1 hy s H Ca cl fp) pgs_nil))
  · obtain ⟨wi, hi, hw⟩ := h
    refine ⟨wi, hi, fun G σ H R w er q => hw G σ H R w er fun J G' C' H' xs Pc f w1 it z => ?_⟩
    obtain ⟨i', j', a1, a2, h3⟩ := lcB_I2 D0 hP hQ hxy hv hg z.1 z.2
    obtain rfl := nodup_ix nd a1 h1
    obtain rfl := nodup_ix nd a2 g1
    exact q J G' C' H' xs Pc f w1 it h3
end
section
variable {C : CS} {k : KD} {x : D} {xs : List D}
theorem isi_ltT (h : x.kind = true) (h2 : (x.isLst || x.isTup) = true) (q : k (.bl true) C) : dIsiT [x, .tup [.opq (.ty "list"), .opq (.ty "tuple")]] C k := isi_lt h (by rw [h2]; exact q)
theorem isi_ltF (h : x.kind = true) (h2 : (x.isLst || x.isTup) = false) (q : k (.bl false) C) : dIsiT [x, .tup [.opq (.ty "list"), .opq (.ty "tuple")]] C k := isi_lt h (by rw [h2]; exact q)
theorem isi_c1 {T U : String} (h : tyN C x = some T) {b : Bool} (h2 : kitB T U = some b) (q : k (.bl b) C) : dIsi [x, .opq (.ty U)] C k := ⟨x, T, U, b, rfl, h, h2, q⟩
theorem isi_ls (h : seqR C x = some xs) (q : k (.bl true) C) : dIsi [x, .opq (.ty "list")] C k := by
  cases x with
  | lst xs => exact ⟨_, "list", _, true, rfl, rfl, by decide +kernel, q⟩
  | slst xs => exact ⟨_, "list", _, true, rfl, rfl, by decide +kernel, q⟩
  | own a =>
    have h' := own_seqR h
    exact ⟨_, "list", _, true, rfl, by simp [tyN, h'], by decide +kernel, q⟩
  | _ => simp [seqR] at h
theorem isi_lsT (h : seqR C x = some xs) (q : k (.bl false) C) : dIsi [x, .opq (.ty "tuple")] C k := by
  cases x with
  | lst xs => exact ⟨_, "list", _, false, rfl, rfl, by decide +kernel, q⟩
  | slst xs => exact ⟨_, "list", _, false, rfl, rfl, by decide +kernel, q⟩
  | own a =>
    have h' := own_seqR h
    exact ⟨_, "list", _, false, rfl, by simp [tyN, h'], by decide +kernel, q⟩
  | _ => simp [seqR] at h
theorem isiT_ls (h : seqR C x = some xs) (q : k (.bl true) C) : dIsiT [x, .tup [.opq (.ty "list"), .opq (.ty "tuple")]] C k := by
  cases x with
  | lst xs => exact isi_lt rfl q
  | slst xs => exact isi_lt rfl q
  | own a =>
    have h' := own_seqR h
    exact isi_ownLT h' q
  | _ => simp [seqR] at h
theorem len_ls (h : seqR C x = some xs) (q : k (.int (xs.length : Nat)) C) : dLen [x] C k := by
  cases x with
  | lst xs => exact ⟨_, _, rfl, ⟨_, h, rfl⟩, q⟩
  | slst xs => exact ⟨_, _, rfl, ⟨_, h, rfl⟩, q⟩
  | own a =>
    have h' := own_seqR h
    exact ⟨_, _, rfl, ⟨_, h, rfl⟩, q⟩
  | _ => simp [seqR] at h
theorem eq_bb {a b : Bool} (q : k (.bl (a == b)) C) : dEq false (.bl a) (.bl b) C k := eq_ok (by cases a <;> rfl) (by cases b <;> rfl) (by cases a <;> cases b <;> exact q)
theorem ne_bb {a b : Bool} (q : k (.bl (a != b)) C) : dEq true (.bl a) (.bl b) C k := ne_ok (by cases a <;> rfl) (by cases b <;> rfl) (by cases a <;> cases b <;> exact q)
end
/-! ### the same data -/
def Sm (C : CS) : Nat → D → D → Prop
  | 0, x, y => x = y ∧ x.fit 0 = true
  | n + 1, x, y => (x = y ∧ x.fit 0 = true) ∨ ∃ xs ys, xs.length = ys.length ∧ xs.length ≤ sizeLine ∧ ((seqR C x = some xs ∧ seqR C y = some ys) ∨ (x = .tup xs ∧ y = .tup ys)) ∧ ∀ (i : Nat) (a b : D), xs[i]? = some a → ys[i]? = some b → Sm C n a b
/-- trees of lists that are not too long -/
def Sz : Nat → D → Prop
  | 0, x => x.fit 0 = true
  | n + 1, x => x.fit 0 = true ∨ ∃ xs : List D, xs.length ≤ sizeLine ∧ (x = .lst xs ∨ x = .slst xs ∨ x = .tup xs) ∧ ∀ a ∈ xs, Sz n a
theorem Sm.of {C : CS} : ∀ {n : Nat} {x : D}, Sz n x → Sm C n x x
  | 0, _, h => ⟨rfl, h⟩
  | n + 1, x, h => by
    rcases h with h | ⟨xs, h1, h2, h3⟩
    · exact .inl ⟨rfl, h⟩
    · refine .inr ⟨xs, xs, rfl, h1, ?_, fun i a b ha hb => ?_⟩
      · rcases h2 with rfl | rfl | rfl
        · exact .inl ⟨rfl, rfl⟩
        · exact .inl ⟨rfl, rfl⟩
        · exact .inr ⟨rfl, rfl⟩
      · rw [ha] at hb; cases hb
        exact Sm.of (h3 a (List.mem_of_getElem? ha))
end DL
/-! DLp: lists unpacked; lists made and frozen by * and +. -/
namespace DL
open PySem PySem.Spec PyProof.Rows L2
section
variable {X : Cx} {a b e : Expr} {es ts : List Expr} {env : DEnv} {C : CS} {k : KD} {pos p1 p2 p3 : Pos} {n m : Nat} {P : Program} {w : World} {K : PySem.W.Frag} {mg : Str → Option Value} {base : Heap} {op : Operator}
theorem wg_lst {d : D} {ds : List D} {kE : DEnv → CS → Prop} (hs : seqR C d = some ds) (hc : X.calm = true) (hl : ds.length = (assignEach ts X.env).length) (h : WGs X ts ds env C kE) (hst : (assignEach ts X.env).findIdx? (·.1) = none := by rfl) : WG X (.Tuple ts n pos) d env C kE :=
  .of (pg_lst hc pgs_tGts rfl hst) fun G σ H v Q w er r q => by
    obtain ⟨a, vs, rfl, h1, h2⟩ := w.seq r hs
    exact ⟨_, _, rfl, h1, by rw [h2.length]; exact hl, h G σ H _ Q w er h2 q⟩
theorem x_glst {d : D} {ds : List D} {kE : DEnv → CS → Prop} (hx : Ctx P w K mg base m X) (hs : seqR C d = some ds) (hl : ds.length = (assignEach ts X.env).length) (h : WGs X ts ds env C kE) (hst : (assignEach ts X.env).findIdx? (·.1) = none := by rfl) : WG X (.Tuple ts n pos) d env C kE := wg_lst hs hx.calm hl h hst
theorem x_mulF (h : WA X es env C fun ds C1 => ds.length ≤ sizeLine ∧ WE X b env C1 fun y C2 => dMul (.lst ds) y C2 (Frz k)) : WE X (.BinOp (.List es p1) .Mult b pos) env C k := we_fz (we_mul (we_lstF h))
theorem x_addF (h : WE X (.List es p1) env C fun x C1 => WE X b env C1 fun y C2 => dAdd x y C2 (Frz k)) : WE X (.BinOp (.List es p1) .Add b pos) env C k := we_fz (we_add h)
theorem x_addF2 (h : WE X (.BinOp (.List es p1) op a p2) env C fun x C1 => WE X b env C1 fun y C2 => dAdd x y C2 (Frz k)) : WE X (.BinOp (.BinOp (.List es p1) op a p2) .Add b pos) env C k := we_fz (we_add h)
theorem x_addF3 (h : WE X (.BinOp (.BinOp (.List es p1) op a p2) .Add e p3) env C fun x C1 => WE X b env C1 fun y C2 => dAdd x y C2 (Frz k)) : WE X (.BinOp (.BinOp (.BinOp (.List es p1) op a p2) .Add e p3) .Add b pos) env C k := we_fz (we_add h)
end
section
variable {C : CS} {k : KD} {xs ys : List D} {i : Int} {p : Addr} {d : D}
theorem mul_lf (h : 0 ≤ i ∧ i ≤ 1000 ∧ xs.length ≤ 100) (q : k (.lst (List.replicate i.toNat xs).flatten) C) : dMul (.lst xs) (.int i) C (Frz k) := by
  refine ⟨xs, rfl, by omega, by omega, ?_, fun p hp => frz_ok hp q⟩
  have : xs.length * i.toNat ≤ 100 * 1000 := Nat.mul_le_mul h.2.2 (by omega)
  exact Nat.le_trans this (by decide)
theorem add_lf (h : xs.length + ys.length ≤ sizeLine) (q : k (.lst (xs ++ ys)) C) : dAdd (.lst xs) (.lst ys) C (Frz k) := add_lst rfl rfl h fun _ hp => frz_ok hp q
theorem rep_len (n : Nat) (xs : List D) : (List.replicate n xs).flatten.length = n * xs.length := by simp
end
/-! ### a text times an int -/
theorem op_mulS {X : Cx} : OpR X (binaryOp .Mult) (fun x y H Q => ∃ z n, x = .str z ∧ y = .int n ∧ MulOk z n ∧ Q (.str (Txt.mul z n)) H) := by
  rintro pins s σ H x y v u Q I rx ry ⟨z, n, rfl, rfl, hok, q⟩
  obtain ⟨t, rfl⟩ := rx
  obtain ⟨t', rfl⟩ := ry
  exact SB.mul hok fun t' k => ⟨.str (Txt.mul z n), H, I.tok _, ⟨_, rfl⟩, q⟩
def dMulS : OpD := fun x y C k => ∃ z n, x = .str z ∧ y = .int n ∧ MulOk z n ∧ k (.str (Txt.mul z n)) C
theorem r2_mulS {K : PySem.W.Frag} : R2D K (fun x y H Q => ∃ z n, x = .str z ∧ y = .int n ∧ MulOk z n ∧ Q (.str (Txt.mul z n)) H) dMulS := by
  rintro x y a b G C H k Q w da db ⟨z, n, rfl, rfl, h1, h2⟩ q
  cases da
  cases db
  exact ⟨z, n, rfl, rfl, h1, q _ _ _ _ _ (Fr.refl ..) w (.str _) h2⟩
theorem x_mulS {X : Cx} {b : Expr} {env : DEnv} {C : CS} {k : KD} {pos p1 : Pos} {z : Str} {j : Nat} (h : WE X b env C fun y C1 => dMulS (.str z) y C1 k) : WE X (.BinOp (.Constant (.str z) j p1) .Mult b pos) env C k := we_op op_mulS r2_mulS (we_str h)
theorem mul_s {C : CS} {k : KD} {z : Str} {n : Int} (h : MulOk z n) (q : k (.str (Txt.mul z n)) C) : dMulS (.str z) (.int n) C k := ⟨z, n, rfl, rfl, h, q⟩
end DL
/-! DLq: repr of data. -/
namespace DL
open PySem PySem.Spec PyProof.Rows L2 RZ
/-- repr of a list or a tuple of data -/
def rRepr (K : PySem.W.Frag) : List V → Hp → VK → Prop := fun xs H Q => ∃ (v : V) (d : PyData), xs = [v] ∧ Dp K H v d ∧ isDisplay d = true ∧ d.showable = true ∧ d.hasDict = false ∧ d.depth ≤ 60 ∧ d.shown.length ≤ sizeLine ∧ Q (.str d.shown) H
theorem call_reprD {X : Cx} (hgd : X.A.guards = some []) (hu : X.A.units + 65 < cLine) : CallR X (.builtin "repr") (rRepr X.K) := by
  rintro pins s σ H xs us Q I r ⟨v, d, rfl, hd, hdis, hs, hnd, hdp, hsz, q⟩
  cases r with
  | cons r1 r2 =>
    cases r2
    obtain ⟨as, rd⟩ := Dp.reads I d v _ hd r1
    obtain ⟨a, rfl⟩ := isRef_of_reads rd hdis
    refine repr_of_reads' rd hs (PyData.noDict_hsm hnd) hgd (by omega) (fun _ _ e => e) ?_ hsz
    intro h' u tk hk
    exact ⟨.str d.shown, H, I.kept (t' := tk) hk, ⟨u, rfl⟩, q⟩
/-- repr of data -/
def rReprA (K : PySem.W.Frag) : List V → Hp → VK → Prop := fun xs H Q => ∃ (v : V) (d : PyData), xs = [v] ∧ Dp K H v d ∧ d.showable = true ∧ d.hasDict = false ∧ d.depth ≤ 60 ∧ d.shown.length ≤ sizeLine ∧ Q (.str d.shown) H
theorem call_reprA {X : Cx} (hgd : X.A.guards = some []) (hu : X.A.units + 65 < cLine) : CallR X (.builtin "repr") (rReprA X.K) := by
  rintro pins s σ H xs us Q I r ⟨v, d, rfl, hd, hs, hnd, hdp, hsz, q⟩
  by_cases hdis : isDisplay d = true
  · exact call_reprD hgd hu pins s σ H [v] us Q I r ⟨v, d, rfl, hd, hdis, hs, hnd, hdp, hsz, q⟩
  · cases r with
    | cons r1 r2 =>
      cases r2
      have fin : EP X pins σ Q (.str d.shown s.toks) { s with toks := s.toks + 1 } := ⟨.str d.shown, H, I.tok _, ⟨_, rfl⟩, q⟩
      cases hd with
      | non =>
        obtain rfl : _ = Value.none := r1
        exact P.repr_of_none fin
      | bl b =>
        obtain rfl : _ = Value.bool b := r1
        exact P.repr_of_bool fin
      | int i =>
        obtain ⟨t, rfl⟩ := r1
        exact P.repr_of_int (by simpa [PyData.showable] using hs) fin
      | str z =>
        obtain ⟨t, rfl⟩ := r1
        exact P.repr_of_str fin hsz
      | _ => exact absurd rfl hdis
def dRepr : List D → CS → KD → Prop := fun ds C k => ∃ x d, ds = [x] ∧ pyC C x = some d ∧ d.showable = true ∧ d.hasDict = false ∧ d.depth ≤ 60 ∧ d.shown.length ≤ sizeLine ∧ k (.str d.shown) C
theorem rl_repr {K : PySem.W.Frag} : RLD K (rReprA K) dRepr := by
  rintro xs ds G C H k Q w rs ⟨x, d, rfl, hd, h1, h2, h3, h4, hk⟩ q
  cases rs with
  | cons r1 r2 =>
    cases r2
    exact ⟨_, d, rfl, w.dp r1 hd, h1, h2, h3, h4, q _ _ _ _ _ (Fr.refl ..) w (.str _) hk⟩
section
variable {X : Cx} {e : Expr} {es : List Expr} {env : DEnv} {C : CS} {k : KD} {pos p : Pos} {m : Nat} {P : Program} {w : World} {K : PySem.W.Frag} {mg : Str → Option Value} {base : Heap}
theorem x_repr (hx : Ctx P w K mg base m X) (Z : Zs mg) (hg : Gl X "repr") (h : WA X (e :: es) env C fun ds C1 => dRepr ds C1 k) (he : starEach (e :: es) X.env = (false, eval e X.env) :: starEach es X.env := by rfl) (hpl : (backTo pos (starEach es X.env)).any (·.1) = false := by rfl) :
    WE X (.Call (.Name "repr" p) (e :: es) [] pos) env C k := we_cb (hx.zs Z).repr (call_reprA hx.guards (by have := hx.room.units; have := hx.room.un; omega)) rl_repr hg bootS_repr h (he := he) (hpl := hpl)
end
end DL
/-! DLr: comprehensions with any number of fors. -/
namespace DL
open PySem PySem.Spec PyProof.Rows L2
section
variable {elt t0 i0 t1 i1 : Expr} {ifs0 ifs1 : List Expr} {gens : List Comprehension} {scope : Scope} {pos : Pos} {it acc : Value} {env : Env} {i : Nat}
theorem turn_mid (h0 : gens[i]? = some ⟨t0, i0, ifs0, 0⟩) (h1 : gens[i + 1]? = some ⟨t1, i1, ifs1, 0⟩) : compTurn (.ListComp elt gens scope pos) i it acc env = (do
    standAt i0.pos
    match ← pyNext it with
    | none => pure (.done .next)
    | some v =>
      letOwnedTupleGo t0 it v
      assign t0 env v
      let mut ok := true
      for c in ifs0 do
        if ok then ok ← isTrue c env (eval c env)
      if ok then
        let x ← eval i1 env
        standAt i1.pos
        let x ← foldedSetIterable i1 env x
        let _ ← runOwn (.compStart (.ListComp elt gens scope pos) (i + 1) (← holding [x] (pyIter x)) acc env) env
      again (.compLoop (.ListComp elt gens scope pos) i it acc env)) := by
  unfold compTurn
  simp only [h0, h1]
  rfl
theorem turn_last (h0 : gens[i]? = some ⟨t0, i0, ifs0, 0⟩) (h1 : gens[i + 1]? = none) : compTurn (.ListComp elt gens scope pos) i it acc env = (do
    standAt i0.pos
    match ← pyNext it with
    | none => pure (.done .next)
    | some v =>
      letOwnedTupleGo t0 it v
      assign t0 env v
      let mut ok := true
      for c in ifs0 do
        if ok then ok ← isTrue c env (eval c env)
      if ok then
        (do let _ ← call (.builtin "list.append") [acc, ← eval elt env])
      again (.compLoop (.ListComp elt gens scope pos) i it acc env)) := by
  unfold compTurn
  simp only [h0, h1]
  rfl
end
section
variable {prog : Program} {w : World} {A : Around} {R : Result → Shared → Prop} {s : Shared} {elt t0 i0 t1 i1 : Expr} {ifs0 ifs1 : List Expr} {gens : List Comprehension} {scope : Scope} {pos : Pos} {it acc : Value} {env : Env} {i : Nat}
/-- what is raised in a comprehension's turn -/
def Nb (prog : Program) (w : World) (A : Around) (env : Env) (R : Result → Shared → Prop) : Value → Shared → Prop := notedBy (model prog w) A env fun e s' => R (.error e) s'
/-- the tests of a clause -/
def tests (env : Env) (ifs : List Expr) : Sem Bool := forIn ifs true fun c r => if r = true then do let ok ← isTrue c env (eval c env); pure (ForInStep.yield ok) else pure (ForInStep.yield r)
/-- a turn up to the tests -/
def TurnW (prog : Program) (w : World) (A : Around) (env : Env) (R : Result → Shared → Prop) (t : Expr) (ifs : List Expr) (it : Value) (B N : Shared → Prop) (s : Shared) : Prop :=
  wpAny (model prog w) A (pyNext it) (fun r s1 => match r with
    | none => R (.ok .next) s1
    | some v => wpAny (model prog w) A (letOwnedTupleGo t it v) (fun _ s2 => wpAny (model prog w) A (assign t env v) (fun _ s3 =>
        wpAny (model prog w) A (tests env ifs) (fun ok s4 => if ok = true then B s4 else N s4) (Nb prog w A env R) s3) (Nb prog w A env R) s2) (Nb prog w A env R) s1) (Nb prog w A env R) s
theorem loop_mid (h0 : gens[i]? = some ⟨t0, i0, ifs0, 0⟩) (h1 : gens[i + 1]? = some ⟨t1, i1, ifs1, 0⟩) (hs : ∀ x, foldedSetIterable i1 env x = pure x) (I : Nat → Shared → Prop)
    (turn : ∀ n s, I n s → TurnW prog w A env R t0 ifs0 it (fun s4 => wpAny (model prog w) A (eval i1 env) (fun x s5 => wpAny (model prog w) A (pyIter x) (fun it1 s6 =>
      codeAny (model prog w) A (.compStart (.ListComp elt gens scope pos) (i + 1) it1 acc env) (fun r s' => match r with
        | .ok _ => ∃ m, m < n ∧ I m s'
        | .error _ => False) s6) (Nb prog w A env R) s5) (Nb prog w A env R) s4) (fun s4 => ∃ m, m < n ∧ I m s4) s) (n : Nat) (h : I n s) :
    codeAny (model prog w) A (.compLoop (.ListComp elt gens scope pos) i it acc env) R s := by
  refine codeAny_loop rfl I ?_ n h
  intro n s hI
  show wpAny _ A ((compTurn (.ListComp elt gens scope pos) i it acc env).onRaise (fun x => do noteFrame x env; theTreesLotGoes x)) _ _ s
  refine wpAny_noted ?_
  rw [turn_mid h0 h1]
  have go := turn n s hI
  refine wpAny_bind (wpAny_standAt (wpAny_bind (wpAny_mono go ?_ fun _ _ z => z)))
  intro r s1 g1
  match r, g1 with
  | none, g1 => exact wpAny_pure g1
  | some v, g1 =>
    refine wpAny_bind (wpAny_mono g1 (fun _ s2 g2 => wpAny_bind (wpAny_mono g2 (fun _ s3 g3 => wpAny_bind (wpAny_mono g3 ?_ fun _ _ z => z)) fun _ _ z => z)) fun _ _ z => z)
    intro ok s4 g4
    match ok, g4 with
    | false, g4 => exact wpAny_pure ⟨rfl, g4⟩
    | true, g4 =>
      refine wpAny_bind (wpAny_mono g4 ?_ fun _ _ z => z)
      intro x s5 g5
      refine wpAny_bind (wpAny_standAt (wpAny_bind (wpAny_of_eq (hs x) (wpAny_bind (wpAny_holding (wpAny_mono g5 ?_ fun _ _ z => z))))))
      intro it1 s6 g6
      refine wpAny_bind (wpAny_runOwn ?_)
      rw [Around.mark_none]
      refine codeAny_mono g6 ?_
      intro r s' z
      match r, z with
      | .ok f, z => first | exact wpAny_pure ⟨rfl, z⟩ | exact wpAny_bind (wpAny_pure (wpAny_pure ⟨rfl, z⟩))
theorem loop_last (h0 : gens[i]? = some ⟨t0, i0, ifs0, 0⟩) (h1 : gens[i + 1]? = none) (I : Nat → Shared → Prop)
    (turn : ∀ n s, I n s → TurnW prog w A env R t0 ifs0 it (fun s4 => wpAny (model prog w) A (eval elt env) (fun x s5 => wpAny (model prog w) A (call (.builtin "list.append") [acc, x]) (fun _ s6 => ∃ m, m < n ∧ I m s6) (Nb prog w A env R) s5) (Nb prog w A env R) s4)
      (fun s4 => ∃ m, m < n ∧ I m s4) s) (n : Nat) (h : I n s) : codeAny (model prog w) A (.compLoop (.ListComp elt gens scope pos) i it acc env) R s := by
  refine codeAny_loop rfl I ?_ n h
  intro n s hI
  show wpAny _ A ((compTurn (.ListComp elt gens scope pos) i it acc env).onRaise (fun x => do noteFrame x env; theTreesLotGoes x)) _ _ s
  refine wpAny_noted ?_
  rw [turn_last h0 h1]
  have go := turn n s hI
  refine wpAny_bind (wpAny_standAt (wpAny_bind (wpAny_mono go ?_ fun _ _ z => z)))
  intro r s1 g1
  match r, g1 with
  | none, g1 => exact wpAny_pure g1
  | some v, g1 =>
    refine wpAny_bind (wpAny_mono g1 (fun _ s2 g2 => wpAny_bind (wpAny_mono g2 (fun _ s3 g3 => wpAny_bind (wpAny_mono g3 ?_ fun _ _ z => z)) fun _ _ z => z)) fun _ _ z => z)
    intro ok s4 g4
    match ok, g4 with
    | false, g4 => exact wpAny_pure ⟨rfl, g4⟩
    | true, g4 => exact wpAny_bind (wpAny_bind (wpAny_mono g4 (fun x s5 g5 => wpAny_bind (wpAny_mono g5 (fun _ s6 g6 => wpAny_pure (wpAny_pure ⟨rfl, g6⟩)) fun _ _ z => z)) fun _ _ z => z))
/-- an inner clause's start -/
theorem start_in (h0 : gens[i]? = some ⟨t0, i0, ifs0, 0⟩) (hl : codeAny (model prog w) A (.compLoop (.ListComp elt gens scope pos) i it acc env) R s)
    (hi : wpAny (model prog w) A (pyIter it) (fun it' s' => codeAny (model prog w) A (.compLoop (.ListComp elt gens scope pos) i it' acc env) R s') (Nb prog w A env R) s) : codeAny (model prog w) A (.compStart (.ListComp elt gens scope pos) i it acc env) R s := by
  have hc : (clausesOf (.ListComp elt gens scope pos))[i]? = some ⟨t0, i0, ifs0, 0⟩ := h0
  refine codeAny_of_tree ?_
  show wpAny _ _ ((compStart (.ListComp elt gens scope pos) i it acc env).onRaise (fun x => do noteFrame x env; standAt theWindowsPlace)) _ _ s
  refine wpAny_notedAt ?_
  unfold compStart
  simp only [hc, Option.elim_some]
  show wpAny _ _ (ask >>= _) _ _ s
  refine wpAny_bind (wpAny_askSetting (wpAny_ite ?_))
  split
  · first | exact wpAny_bind (wpAny_pure (wpAny_pure (And.intro rfl hl))) | exact wpAny_pure (And.intro rfl hl)
  · refine wpAny_bind (wpAny_rule ?_)
    show wpAny _ _ (standAt i0.pos >>= _) _ _ s
    exact wpAny_bind (wpAny_standAt (wpAny_bind (wpAny_mono hi (fun it' s' z => wpAny_pure (And.intro rfl z)) fun _ _ z => z)))
end
/-! ### the inner clauses -/
/-- a clause and its readings -/
structure Lv where
  tg : Expr
  iter : Expr
  ifs : List Expr
  wi : TI
  g : TG
  tt : TT
  vs : List Nat
def Lv.c (l : Lv) : Comprehension := ⟨l.tg, l.iter, l.ifs, 0⟩
structure LvOk (Y : Cx) (l : Lv) : Prop where
  pi : PI Y l.tg l.iter l.wi
  pg : PG Y l.tg l.g
  pt : PTs Y l.ifs l.tt
  fs : ∀ x, foldedSetIterable l.iter Y.env x = pure x
def restV : List Lv → List Nat
  | [] => []
  | l :: ls => l.vs ++ restV ls
theorem wipe_app (σ : L2.St) (us : List Nat) : ∀ vs : List Nat, wipe σ (vs ++ us) = wipe (wipe σ us) vs
  | [] => rfl
  | v :: vs => by
    show (wipe σ (vs ++ us)).set v none = (wipe (wipe σ us) vs).set v none
    rw [wipe_app σ us vs]
theorem wipe_two (σ : L2.St) (vs : List Nat) : wipe (wipe σ vs) vs = wipe σ vs := by
  apply wipe_ext
  · rw [wipe_length]
  · intro j hj
    rw [wipe_get, if_neg hj]
def tIn (D : Addr) (te : TE) : List Lv → L2.St → Hp → (Hp → Prop) → Prop
  | [], σ, H, Nx => te σ H fun y H1 => ∃ acc, H1 D = some (.lst acc) ∧ acc.length < sizeLine ∧ Nx (upd H1 D (.lst (acc ++ [y])))
  | l :: ls, σ, H, Nx => l.wi σ H fun J H1 => ∃ W : Nat → Nat → Hp → Prop, (∃ m, W 0 m H1) ∧ ∀ j k H, W j k H → (J.stop j H ∧ Nx H) ∨ (J.go j H ∧ ∃ N1 : Hp → Prop, (∀ H', N1 H' → ∃ k', k' < k ∧ W (j + 1) k' H') ∧
      ∀ x H', J.yld j H x H' → l.g x (wipe σ (restV (l :: ls))) H' fun σ2 H2 => wipe σ2 (restV (l :: ls)) = wipe σ (restV (l :: ls)) ∧ l.tt σ2 H2 fun b H3 => if b = true then tIn D te ls σ2 H3 N1 else N1 H3)
section
variable {Y : Cx} {elt : Expr} {te : TE} {scope : Scope} {pos : Pos} {gens : List Comprehension} {D : Addr}
/-- behind an inner clause -/
def Beh (Y : Cx) (pins : List (Addr × Obj)) (V : List Nat) (σ : L2.St) (Nx : Hp → Prop) (s' : Shared) : Prop := ∃ σ' H', Inv Y pins σ' H' s' ∧ wipe σ' V = wipe σ V ∧ Nx H'
/-- what a turn goes on with -/
def Body (Y : Cx) (elt : Expr) (scope : Scope) (pos : Pos) (gens : List Comprehension) (D : Addr) (R : Result → Shared → Prop) (P : Shared → Prop) (i : Nat) : List Lv → Shared → Prop
  | [], s => wpAny (model Y.prog Y.w) Y.A (eval elt Y.env) (fun x s1 => wpAny (model Y.prog Y.w) Y.A (call (.builtin "list.append") [.ref D, x]) (fun _ s2 => P s2) (Nb Y.prog Y.w Y.A Y.env R) s1) (Nb Y.prog Y.w Y.A Y.env R) s
  | l :: _, s => wpAny (model Y.prog Y.w) Y.A (eval l.iter Y.env) (fun x s1 => wpAny (model Y.prog Y.w) Y.A (pyIter x) (fun it s2 => codeAny (model Y.prog Y.w) Y.A (.compStart (.ListComp elt gens scope pos) i it (.ref D) Y.env) (fun r s' => match r with
      | .ok _ => P s'
      | .error _ => False) s2) (Nb Y.prog Y.w Y.A Y.env R) s1) (Nb Y.prog Y.w Y.A Y.env R) s
/-- the loop of a clause, from what the clauses behind it do -/
theorem loopLv {l : Lv} {ls : List Lv} {i : Nat} (hxe : Y.xe = fun _ _ => False) (hc : Y.calm = true) (hd : gens.drop i = (l :: ls).map Lv.c) (hfs : ∀ l' ∈ ls, ∀ x, foldedSetIterable l'.iter Y.env x = pure x) (opg : PG Y l.tg l.g) (opt : PTs Y l.ifs l.tt)
    (ih : ∀ (pins : List (Addr × Obj)) (σ : L2.St) (H : Hp) (s : Shared) (Nx : Hp → Prop) (R : Result → Shared → Prop) (P : Shared → Prop), Inv Y pins σ H s → tIn D te ls σ H Nx → (∀ s', Beh Y pins (restV ls) σ Nx s' → P s') → Body Y elt scope pos gens D R P (i + 1) ls s)
    {pins : List (Addr × Obj)} {σ : L2.St} {V : List Nat} (hV : restV (l :: ls) = V) {it : Addr} {fp : List Addr} {tn : Nat → Heap → Prop} {J : It} (T : Turn Y.prog Y.w Y.K l.tg J fp it tn) {Nx : Hp → Prop} {R : Result → Shared → Prop}
    (fin : ∀ s', Beh Y pins V σ Nx s' → R (.ok .next) s') {W : Nat → Nat → Hp → Prop} (stat : ∀ {H' : Hp} {s' : Shared} {σ' : L2.St}, Inv Y pins σ' H' s' → (∀ b ∈ fp, H' b = none) → ∀ b ∈ fp, FpOk Y pins H' b)
    (turn : ∀ j k H, W j k H → (J.stop j H ∧ Nx H) ∨ (J.go j H ∧ ∃ N1 : Hp → Prop, (∀ H', N1 H' → ∃ k', k' < k ∧ W (j + 1) k' H') ∧
      ∀ x H', J.yld j H x H' → l.g x (wipe σ V) H' fun σ2 H2 => wipe σ2 V = wipe σ V ∧ l.tt σ2 H2 fun b H3 => if b = true then tIn D te ls σ2 H3 N1 else N1 H3))
    {m0 : Nat} {H2 : Hp} {s2 : Shared} (I2 : Inv Y pins (wipe σ V) H2 s2) (st2 : tn 0 s2.heap) (n2 : ∀ b ∈ fp, H2 b = none) (w0 : W 0 m0 H2) :
    codeAny (model Y.prog Y.w) Y.A (.compLoop (.ListComp elt gens scope pos) i (.ref it) (.ref D) Y.env) R s2 := by
  have h0 : gens[i]? = some l.c := by
    have := congrArg (fun x : List Comprehension => x[0]?) hd
    simpa [List.getElem?_drop] using this
  have hd1 : gens.drop (i + 1) = ls.map Lv.c := by
    have := congrArg List.tail hd
    simpa [List.tail_drop] using this
  have hV' : V = l.vs ++ restV ls := hV.symm
  let Iv : Nat → Shared → Prop := fun k s' => ∃ j H', Inv Y pins (wipe σ V) H' s' ∧ tn j s'.heap ∧ (∀ b ∈ fp, H' b = none) ∧ W j k H'
  have turnW : ∀ n s, Iv n s → TurnW Y.prog Y.w Y.A Y.env R l.tg l.ifs (.ref it) (fun s4 => Body Y elt scope pos gens D R (fun s' => ∃ m, m < n ∧ Iv m s') (i + 1) ls s4) (fun s4 => ∃ m, m < n ∧ Iv m s4) s := by
    intro n s ⟨j, H3, I3, st3, n3, w3⟩
    rcases turn j n H3 w3 with ⟨stop, nx⟩ | ⟨go, N1, hN1, step⟩
    · refine thnF (T.done Y rfl rfl rfl hc j pins s (wipe σ V) H3 (fun _ _ => False) I3 (stat I3 n3) st3 stop) fun r s4 z => ?_
      obtain ⟨rfl, I4⟩ := z
      exact fin s4 ⟨_, _, I4, wipe_two σ V, nx⟩
    · refine thnF (T.item Y rfl rfl rfl hc j pins s (wipe σ V) H3 (fun _ _ => False) I3 (stat I3 n3) st3 go) fun r s4 z => ?_
      obtain ⟨u, rfl, z⟩ := z
      refine thnF z fun _ s5 ⟨x, H5, I5, r5, y5, st5, n5⟩ => ?_
      have I6 := I5.pinned (stat I5 n5) (T.obj _ _ st5)
      have pg := opg.run _ s5 (wipe σ V) H5 x u _ I6 r5 (step x H5 y5)
      rw [hxe] at pg
      refine thnF pg fun _ s6 ⟨σ6, H6, I7, hw6, q6⟩ => ?_
      have pt := opt.run _ s6 σ6 H6 _ I7 q6
      rw [hxe] at pt
      refine thnF pt fun b s7 ⟨H7, I8, q8⟩ => ?_
      have back : ∀ {s' : Shared} {σ' : L2.St} {H' : Hp}, Inv Y (pins ++ pinsAt fp s5.heap) σ' H' s' → wipe σ' (restV ls) = wipe σ6 (restV ls) → N1 H' → ∃ m, m < n ∧ Iv m s' := by
        intro s' σ' H' I' hw' nx
        obtain ⟨m', hm, w'⟩ := hN1 H' nx
        have hw2 : wipe σ' V = wipe σ V := by
          rw [hV', wipe_app, hw', ← wipe_app, ← hV']; exact hw6
        have pin' : ∀ b ∈ fp, ∀ ob, s5.heap.get? b = some ob → s'.heap.get? b = some ob ∧ H' b = none := fun b hb ob e =>
          let z := I'.pin (b, ob) (List.mem_append_right _ (List.mem_append_right _ (mem_pinsAt hb e)))
          ⟨z.1, z.2.1⟩
        refine ⟨m', hm, j + 1, H', I'.unpinned.weak ?_ ?_, T.keep _ _ _ st5 fun b hb ob e => (pin' b hb ob e).1, fun b hb => ?_, w'⟩
        · rw [← hw2, wipe_length]
        · intro k v e
          rw [← hw2] at e
          exact (wipe_some e).1
        · obtain ⟨ob, e, _⟩ := T.obj _ _ st5 b hb
          exact (pin' b hb ob e).2
      match b, q8 with
      | false, q8 => exact back I8 rfl q8
      | true, q8 => exact ih _ σ6 H7 s7 N1 R _ I8 q8 fun s' ⟨σ', H', I', hw', nx⟩ => back I' hw' nx
  match ls, hd1, turnW, hfs with
  | [], hd1, turnW, _ =>
    have h1 : gens[i + 1]? = none := by
      have := congrArg (fun x : List Comprehension => x[0]?) hd1
      simpa [List.getElem?_drop] using this
    exact loop_last h0 h1 Iv turnW m0 ⟨0, H2, I2, st2, n2, w0⟩
  | l' :: ls', hd1, turnW, hfs =>
    have h1 : gens[i + 1]? = some l'.c := by
      have := congrArg (fun x : List Comprehension => x[0]?) hd1
      simpa [List.getElem?_drop] using this
    exact loop_mid h0 h1 (hfs l' (by simp)) Iv turnW m0 ⟨0, H2, I2, st2, n2, w0⟩
theorem inner (hxe : Y.xe = fun _ _ => False) (hc : Y.calm = true) (he : PE Y elt te) : ∀ (ls : List Lv) (i : Nat), gens.drop i = ls.map Lv.c → (∀ l ∈ ls, LvOk Y l) → ∀ (pins : List (Addr × Obj)) (σ : L2.St) (H : Hp) (s : Shared) (Nx : Hp → Prop) (R : Result → Shared → Prop) (P : Shared → Prop),
    Inv Y pins σ H s → tIn D te ls σ H Nx → (∀ s', Beh Y pins (restV ls) σ Nx s' → P s') → Body Y elt scope pos gens D R P i ls s
  | [], i, hd, ok, pins, σ, H, s, Nx, R, P, I, q, fin => by
    have run := he.run pins s σ H _ I q
    rw [hxe] at run
    refine thnF run fun x s1 z => ?_
    obtain ⟨y, H1, I1, r1, acc, h1, h2, h3⟩ := z
    exact L2.app_ok (X := Y) I1 h1 h2 r1 fun s2 I2 => fin s2 ⟨σ, _, I2, rfl, h3⟩
  | l :: ls, i, hd, ok, pins, σ, H, s, Nx, R, P, I, q, fin => by
    have o := ok l List.mem_cons_self
    have h0 : gens[i]? = some l.c := by
      have := congrArg (fun x : List Comprehension => x[0]?) hd
      simpa [List.getElem?_drop] using this
    have hd1 : gens.drop (i + 1) = ls.map Lv.c := by
      have := congrArg List.tail hd
      simpa [List.tail_drop] using this
    have run := o.pi.run pins s σ H _ I q
    rw [hxe] at run
    refine thnF run fun xv s1 hx => thnF hx fun itv s2 h2 => ?_
    obtain ⟨it, fp, tn, J, H2, e, I2, T, st2, f2, W, ⟨m0, w0⟩, turn⟩ := h2
    subst e
    have loop := loopLv (D := D) (te := te) (elt := elt) (scope := scope) (pos := pos) (R := fun r s' => match r with
        | .ok _ => P s'
        | .error _ => False) hxe hc hd (fun l' hl' => (ok l' (List.mem_cons_of_mem _ hl')).fs) o.pg o.pt (inner hxe hc he ls (i + 1) hd1 fun l' hl' => ok l' (List.mem_cons_of_mem _ hl')) rfl T (fun s' z => fin s' z)
        (fun _ hn b hb => ⟨hn b hb, (f2 b hb).2⟩) turn (I2.weak (wipe_length _ _) (fun j v e => (wipe_some e).1)) st2 (fun b hb => (f2 b hb).1) w0
    exact start_in h0 loop (T.self Y.A 0 _ _ _ st2 loop)
end
/-! ### the whole -/
def tLcN (wi : TI) (l : Lv) (ls : List Lv) (te : TE) : TE := fun σ H Q => wi σ H fun J H1 => ∀ D, H1 D = none → ∃ W : Nat → Nat → Hp → Prop, (∃ m, W 0 m (upd H1 D (.lst []))) ∧ ∀ j k H, W j k H →
  (J.stop j H ∧ Q (.ref D) H) ∨ (J.go j H ∧ ∃ N1 : Hp → Prop, (∀ H', N1 H' → ∃ k', k' < k ∧ W (j + 1) k' H') ∧
    ∀ x H', J.yld j H x H' → l.g x (wipe σ (restV (l :: ls))) H' fun σ2 H2 => wipe σ2 (restV (l :: ls)) = wipe σ (restV (l :: ls)) ∧ l.tt σ2 H2 fun b H3 => if b = true then tIn D te ls σ2 H3 N1 else N1 H3)
section
variable {X : Cx} {elt : Expr} {te : TE} {scope : Scope} {pos : Pos} {own : List (Str × Nat)} {l : Lv} {ls : List Lv} {wi : TI}
theorem pe_lcN (hc : X.calm = true) (hN : X.N.Nodup) (hi : PI X l.tg l.iter wi) (hs : ∀ x, foldedSetIterable l.iter X.env x = pure x) (ok : BlkOk X.N X.env.scope scope own) (hV : restV (l :: ls) = own.map (·.2))
    (hl : ∀ (s : Shared) (H : Hp) (C : Addr) (cl : List (Str × Addr)) (fp : List Addr), let Y := X.blk s H scope (compEnvC scope cl C X.env) fp; PG Y l.tg l.g ∧ PTs Y l.ifs l.tt ∧ PE Y elt te ∧ ∀ l' ∈ ls, LvOk Y l') :
    PE X (.ListComp elt (l.c :: ls.map Lv.c) scope pos) (tLcN wi l ls te) := by
  refine ⟨fun pins s σ H Q I h => ?_⟩
  rw [eval_ListComp]
  have hfree : ∀ y ∈ scope.names, y.2 = .free → ∃ c, X.env.cells.lookup y.1 = some c := fun y hy e => (ok.free y hy e).elim (fun k => I.ok.has _ (.inl k)) fun k => I.ok.has _ (.inr k)
  refine wpAny_comprehension_free (g := l.c) (gs := ls.map Lv.c) rfl hs (closure_ok hfree) ok.kind (fun y hy e => by rw [ok.uniq y hy, e]) (thn (hi.run pins s σ H _ I h) fun xv s1 hx => thn hx fun itv s2 h2 => ?_)
  obtain ⟨it, fp, tn, J, H2, e, I2, T, st2, f2, q⟩ := h2
  subst e
  refine wpAny_newObj_type (newEnv_comp ?_) (by show 0 ≤ sizeLine; decide)
  generalize hD : s2.heap.objs.size = D
  have hDn : H2 D = none := I2.hok.fresh (Nat.le_of_eq hD)
  obtain ⟨W, ⟨m0, w0⟩, turn⟩ := q D hDn
  generalize hs3 : ({ s2 with heap := s2.heap.push { cls := .type "list", data := .seq ([] : List Value).toArray } } : Shared) = s3
  have h3 : s3.heap = s2.heap.push { cls := .type "list", data := .seq ([] : List Value).toArray } := by rw [← hs3]
  have I3 : Inv X pins σ (upd H2 D (.lst [])) s3 := by
    rw [← hs3]
    refine I2.laid (t' := s2.toks) (fun b o e => Heap.get?_push_of_some _ e) (Nat.le_of_eq hD) ⟨Nat.zero_le _, [], 0, .nil, ?_⟩
    rw [← hD]
    exact Heap.get?_push_size _ rfl
  have lt2 : ∀ b ∈ fp, b < s2.heap.objs.size := fun b hb => let ⟨o, e, _⟩ := T.obj _ _ st2 b hb; Heap.lt_size e
  have f3 : ∀ b ∈ fp, FpOk X pins (upd H2 D (.lst [])) b ∧ b < s3.heap.objs.size := fun b hb => by
    have hlt := lt2 b hb
    refine ⟨⟨?_, (f2 b hb).2⟩, by rw [h3, Heap.size_push]; exact Nat.lt_succ_of_lt hlt⟩
    rw [upd_ne (by rw [← hD]; exact Nat.ne_of_lt hlt)]
    exact (f2 b hb).1
  have st3 : tn 0 s3.heap := T.keep _ _ _ st2 fun b _ o e => by rw [h3]; exact Heap.get?_push_of_some _ e
  have I4 := block_start I3 ok hN f3
  have hY := hl s3 (upd H2 D (.lst [])) s3.heap.objs.size (cellsFrom (s3.heap.objs.size + 1) scope.names (cloFrom X.env.cells scope.names [])) fp
  show codeAny _ _ (.compStart (.ListComp elt (l.c :: ls.map Lv.c) scope pos) 0 (.ref it) (.ref D) (compEnvC scope (cellsFrom (s3.heap.objs.size + 1) scope.names (cloFrom X.env.cells scope.names [])) s3.heap.objs.size X.env)) (compPost (model X.prog X.w) X.A X.xe none _ (.ref D) s3.heap.objs.size) { s3 with heap := pushCells (s3.heap.push { cls := .type "dict", data := .dict #[] }) scope.names }
  have nfp : ∀ b ∈ fp, (upd H2 D (.lst [])) b = none := fun b hb => (f3 b hb).1.1
  generalize hce : compEnvC scope (cellsFrom (s3.heap.objs.size + 1) scope.names (cloFrom X.env.cells scope.names [])) s3.heap.objs.size X.env = ce at I4 hY ⊢
  have cL : ce.locals = s3.heap.objs.size := by subst hce; rfl
  generalize hs4 : ({ s3 with heap := pushCells (s3.heap.push { cls := .type "dict", data := .dict #[] }) scope.names } : Shared) = s4 at I4 ⊢
  have st4 : tn 0 s4.heap := T.keep _ _ _ st3 fun b _ o e => by rw [← hs4]; exact pushCells_keeps _ _ _ _ (Heap.get?_push_of_some _ e)
  obtain ⟨y1, y2, y3, y4⟩ := hY
  have loop := loopLv (Y := X.blk s3 (upd H2 D (.lst [])) scope ce fp) (l := l) (ls := ls) (i := 0) (D := D) (te := te) (elt := elt) (scope := scope) (pos := pos) (gens := l.c :: ls.map Lv.c) (pins := []) (σ := σ) (V := own.map (·.2)) (fp := fp) (tn := tn) (J := J) (it := it)
    (Nx := fun H' => Q (.ref D) H') (R := compPost (model X.prog X.w) X.A X.xe none (EP X pins σ Q) (.ref D) s3.heap.objs.size) (W := W) (m0 := m0) (H2 := upd H2 D (.lst [])) (s2 := s4)
    rfl hc rfl (fun l' hl' => (y4 l' hl').fs) y1 y2 (inner (Y := X.blk s3 (upd H2 D (.lst [])) scope ce fp) rfl hc y3 ls 1 rfl y4) hV T ?fin ?stat (by rw [← hV]; exact turn) I4 st4 nfp w0
  case fin =>
    rintro s6 ⟨σ', H5, I6, hw, qq⟩
    have I7 : Inv X pins σ H5 s6 := I3.call' (ch := fp) I6.os I6.base I6.hok I6.bare fun b hb => ⟨(f3 b hb).1.2.2.2.1, (f3 b hb).1.2.1, (f3 b hb).1.2.2.2.2.1, (f3 b hb).1.2.2.2.2.2⟩
    have nC : H5 s3.heap.objs.size = none := by
      have z : H5 ce.locals = none := I6.free
      rwa [cL] at z
    obtain ⟨m, hn, _⟩ := I6.loc
    have hn : s6.heap.Ns ce.locals m := hn
    rw [cL] at hn
    obtain ⟨g0, g1, g2, g3, g4, g5⟩ := I3.fpOk (Nat.le_refl _) nC
    exact ⟨m, hn, fun h'' sb => ⟨.ref D, H5, I7.turned (t' := s6.toks) (fun b o hb e => (sb.2 b hb).trans e) nC g1 g3 g4 g5, rfl, qq⟩⟩
  case stat =>
    intro H' s' σ' I' hn b hb
    exact ⟨hn b hb, (I'.ok.exf b hb).1, I'.ok.exfs b hb, .inl hb, fun x c e => (I'.ok.exf b hb).2 x c e, fun p hp => absurd (show p ∈ ([] : List (Addr × Obj)) ++ [] from hp) (by simp)⟩
  exact codeAny_compStart_list loop (T.self X.A 0 _ _ _ st4 loop)
end
end DL
/-! DLs: comprehensions with any number of fors, by data. -/
namespace DL
open PySem PySem.Spec PyProof.Rows L2
/-- a source as it runs -/
def tI (X : Cx) (tg iter : Expr) : TI := fun σ H R => ∀ pins s, Inv X pins σ H s → wpAny (model X.prog X.w) X.A (eval iter X.env) (fun v s1 => wpAny (model X.prog X.w) X.A (pyIter v) (PIE X pins σ tg R) X.xe s1) X.xe s
theorem pi_tI {X : Cx} {tg iter : Expr} : PI X tg iter (tI X tg iter) := ⟨fun pins s σ H R I h => h pins s I⟩
theorem WI.ev {X : Cx} {tg iter : Expr} {env : DEnv} {C : CS} {kI : KI} (h : WI X tg iter env C kI) : EvI X.K (tI X tg iter) env C kI := fun G σ H R w er q pins s I => by
  obtain ⟨wi, hi, hw⟩ := h
  exact hi.run pins s σ H R I (hw G σ H R w er q)
/-- a clause by syntax: its target's reading and its names -/
structure Cl where
  tg : Expr
  iter : Expr
  ifs : List Expr
  g : TG
  vs : List Nat
def Cl.lv (X : Cx) (scope : Scope) (c : Cl) : Lv := ⟨c.tg, c.iter, c.ifs, fun σ H R => ∀ X', Blk X scope X' → tI X' c.tg c.iter σ H R, c.g, fun σ H Q => ∀ X', Blk X scope X' → tPIf X' c.ifs σ H Q, c.vs⟩
def restC (cs : List Cl) : List Nat := (cs.map (·.vs)).flatten
theorem restV_lv {X : Cx} {scope : Scope} : ∀ cs : List Cl, restV (cs.map (Cl.lv X scope)) = restC cs
  | [] => rfl
  | c :: cs => by
    show c.vs ++ restV (cs.map (Cl.lv X scope)) = _
    rw [restV_lv cs]; rfl
def DIn (X : Cx) (scope : Scope) (elt : Expr) : List Cl → DEnv → List D → CS → (List D → CS → Prop) → Prop
  | [], env, acc, C, k => ∀ X', Blk X scope X' → WE X' elt env C fun y C1 => acc.length < sizeLine ∧ k (acc ++ [y]) C1
  | c :: cs, env, acc, C, k => ∀ X', Blk X scope X' → WI X' c.tg c.iter env C fun xs Pc C1 => ∃ Iv : Nat → List D → CS → Prop, Iv 0 acc C1 ∧ (∀ j acc C, Iv j acc C → Pc C) ∧
      (∀ j d acc C, xs[j]? = some d → Iv j acc C → EvGW X.K c.g (restC (c :: cs)) d env C fun env2 C2 => ∀ X', Blk X scope X' → WIf X' c.ifs env2 C2 fun t C3 => (t = true → DIn X scope elt cs env2 acc C3 (Iv (j + 1))) ∧ (t = false → Iv (j + 1) acc C3)) ∧
      (∀ acc C, Iv xs.length acc C → k acc C)
/-- the world with the hidden list -/
structure Hd (K : PySem.W.Frag) (G0 : Hp) (C0 : CS) (H0 : Hp) (Da : Addr) (G : Hp) (C : CS) (H : Hp) (acc : List D) : Prop where
  f : Fr G0 C0 H0 G C H
  w : Wld K G C H
  l : ∃ vs, H Da = some (.lst vs) ∧ DatAll K G vs acc
  c : C Da = none
  g : G Da = none
section
variable {K : PySem.W.Frag} {G0 H0 : Hp} {C0 : CS} {Da : Addr} {G H G' H' : Hp} {C C' : CS} {acc : List D}
theorem Hd.step (h : Hd K G0 C0 H0 Da G C H acc) (f : Fr G C H G' C' H') (w : Wld K G' C' H') : Hd K G0 C0 H0 Da G' C' H' acc := by
  obtain ⟨vs, h1, h2⟩ := h.l
  refine ⟨h.f.trans f, w, ⟨vs, f.keep _ _ h1 h.c, h2.mono f.exG⟩, ?_, ?_⟩
  · cases e : C' Da with
    | none => rfl
    | some c => exact absurd h.c (f.newC Da (by rw [h1]; simp) (by rw [e]; simp))
  · cases e : G' Da with
    | none => rfl
    | some c => exact ((f.newG Da (by rw [h1]; simp) (by rw [e]; simp)).elim (fun z => z h.g) fun z => z h.c).elim
theorem Hd.add (hD : H0 Da = none) (h : Hd K G0 C0 H0 Da G C H acc) {v : V} {y : D} {vs : List V} (hv : H Da = some (.lst vs)) (r : DatAll K G vs acc) (ry : Dat K G v y) : Hd K G0 C0 H0 Da G C (upd H Da (.lst (vs ++ [v]))) (acc ++ [y]) := by
  refine ⟨⟨h.f.exG, fun a o e c => ?_, fun a e => ?_, h.f.newC, h.f.newG⟩, ⟨fun a o e => by rw [upd_ne (ne_of_none e h.g)]; exact h.w.ex a o e, fun a c e => ?_⟩, ⟨_, upd_same, r.append (.cons ry .nil)⟩, h.c, h.g⟩
  · by_cases q : a = Da
    · subst q; rw [hD] at e; cases e
    · rw [upd_ne q]; exact h.f.keep a o e c
  · by_cases q : a = Da
    · subst q; rw [upd_same]; simp
    · rw [upd_ne q]; exact h.f.dom a e
  · obtain ⟨h1, h2⟩ := h.w.cell a c e
    exact ⟨h1, h2.mono (fun _ _ h => h) (upd_ne (cell_ne e h.c))⟩
end
section
variable {X : Cx} {scope : Scope} {elt : Expr} {G0 H0 : Hp} {C0 : CS} {Da : Addr}
theorem inD (hD : H0 Da = none) : ∀ (cs : List Cl) (env : DEnv) (acc : List D) (C : CS) (k : List D → CS → Prop) (σ : L2.St) (G H : Hp) (Nx : Hp → Prop), Hd X.K G0 C0 H0 Da G C H acc → EnvR X.K G env σ → DIn X scope elt cs env acc C k →
    (∀ G' C' H' acc', Same G G' → Hd X.K G0 C0 H0 Da G' C' H' acc' → k acc' C' → Nx H') → tIn Da (fun σ H Q => ∀ X', Blk X scope X' → tS X' elt σ H Q) (cs.map (Cl.lv X scope)) σ H Nx
  | [], env, acc, C, k, σ, G, H, Nx, hd, er, h, fin => fun X' hX => by
    have h1 := h X' hX
    obtain ⟨s, H1, Ca, cl, fp, rfl⟩ := hX
    refine h1 G σ H _ hd.w er fun y G6 C6 H6 d6 f6 w6 r6 z => ?_
    have hd6 := hd.step f6 w6
    obtain ⟨vs, hv, hr⟩ := hd6.l
    exact ⟨vs, hv, by rw [hr.length]; exact z.1, fin _ _ _ _ f6.exG (hd6.add hD hv hr r6) z.2⟩
  | c :: cs, env, acc, C, k, σ, G, H, Nx, hd, er, h, fin => fun X' hX => by
    have h1 := (h X' hX).ev
    obtain ⟨s, H1, Ca, cl, fp, rfl⟩ := hX
    refine h1 G σ H _ hd.w er fun J G1 C1 H1 xs Pc f1 w1 it z => ?_
    obtain ⟨Iv, i0, hP, turn, done⟩ := z
    have hd1 := hd.step f1 w1
    refine ⟨fun i m H2 => m = xs.length - i ∧ i ≤ xs.length ∧ ∃ G2 C2 acc2, Same G1 G2 ∧ Hd X.K G0 C0 H0 Da G2 C2 H2 acc2 ∧ Iv i acc2 C2, ⟨xs.length, rfl, Nat.zero_le _, G1, C1, acc, fun _ _ h => h, hd1, i0⟩, ?_⟩
    rintro i m H2 ⟨rfl, hi2, G2, C2, acc2, s2, hd2, i2⟩
    obtain ⟨go, stop⟩ := it G2 C2 H2 s2 hd2.w (hP _ _ _ i2)
    by_cases hlt : i < xs.length
    · obtain ⟨hgo, hy⟩ := go i xs[i] (by simp [hlt])
      refine .inr ⟨hgo, fun H' => i + 1 ≤ xs.length ∧ ∃ G2 C2 acc2, Same G1 G2 ∧ Hd X.K G0 C0 H0 Da G2 C2 H' acc2 ∧ Iv (i + 1) acc2 C2, fun H' z => ⟨xs.length - (i + 1), by omega, rfl, z⟩, fun x H3 hx => ?_⟩
      obtain ⟨G3, f3, w3, r3⟩ := hy x H3 hx
      have hd3 := hd2.step f3 w3
      have t1 := turn i xs[i] acc2 C2 (by simp [hlt]) i2 G3 σ H3 x
      change c.g x (wipe σ (restV (Cl.lv X scope c :: cs.map (Cl.lv X scope)))) H3 _
      rw [show restV (Cl.lv X scope c :: cs.map (Cl.lv X scope)) = restC (c :: cs) from restV_lv (c :: cs)]
      refine t1 _ w3 (er.mono (f1.exG.trans (s2.trans f3.exG))) r3 ?_
      intro G4 C4 H4 σ4 env4 f4 w4 er4 h4 X' hX
      have h5 := h4 X' hX
      have hd4 := hd3.step f4 w4
      obtain ⟨s0, H00, Ca, cl, fp, rfl⟩ := hX
      refine h5 G4 σ4 H4 _ w4 er4 fun t G5 C5 H5 f5 w5 ht => ?_
      have hd5 := hd4.step f5 w5
      have s5 : Same G1 G5 := s2.trans (f3.exG.trans (f4.exG.trans f5.exG))
      cases t with
      | true => exact iteT (inD hD cs env4 acc2 C5 (Iv (i + 1)) σ4 G5 H5 _ hd5 (er4.mono f5.exG) (ht.1 rfl) fun G' C' H' acc' ss hh kk => ⟨hlt, G', C', acc', s5.trans ss, hh, kk⟩)
      | false => exact iteF ⟨hlt, G5, C5, acc2, s5, hd5, ht.2 rfl⟩
    · have e : i = xs.length := by omega
      subst e
      exact .inl ⟨stop _ (Nat.le_refl _), fin _ _ _ _ (f1.exG.trans s2) hd2 (done acc2 C2 i2)⟩
/-- the whole, by data -/
def WIn (X : Cx) (scope : Scope) (elt : Expr) (c : Cl) (cs : List Cl) (env : DEnv) (C : CS) (k : KD) : Prop := WI X c.tg c.iter env C fun xs Pc C1 => ∃ Iv : Nat → List D → CS → Prop, Iv 0 [] C1 ∧ (∀ j acc C, Iv j acc C → Pc C) ∧
  (∀ j d acc C, xs[j]? = some d → Iv j acc C → EvGW X.K c.g (restC (c :: cs)) d env C fun env2 C2 => ∀ X', Blk X scope X' → WIf X' c.ifs env2 C2 fun t C3 => (t = true → DIn X scope elt cs env2 acc C3 (Iv (j + 1))) ∧ (t = false → Iv (j + 1) acc C3)) ∧
  (∀ acc C, Iv xs.length acc C → ∀ p, C p = none → k (.own p) (put C p (.lst acc)))
theorem ev_lcN {c : Cl} {cs : List Cl} {env : DEnv} {C : CS} {k : KD} (h : WIn X scope elt c cs env C k) :
    Ev X.K (tLcN (tI X c.tg c.iter) (c.lv X scope) (cs.map (Cl.lv X scope)) (fun σ H Q => ∀ X', Blk X scope X' → tS X' elt σ H Q)) env C k := fun G σ H Q w er q => by
  refine WI.ev h G σ H _ w er fun J G1 C1 H1 xs Pc f1 w1 it z Da hD => ?_
  obtain ⟨Iv, i0, hP, turn, done⟩ := z
  have hn := w1.ne hD
  have h0 : H Da = none := by
    cases e : H Da with
    | none => rfl
    | some o => exact absurd hD (f1.dom Da (by rw [e]; simp))
  have hd1 : Hd X.K G C H Da G1 C1 (upd H1 Da (.lst [])) [] := ⟨f1.trans (Fr.fresh hD), ⟨fun a o e => by rw [upd_ne (ne_of_none e hn.1)]; exact w1.ex a o e, fun a c e => by
    obtain ⟨h1, h2⟩ := w1.cell a c e
    exact ⟨h1, h2.mono (fun _ _ h => h) (upd_ne (cell_ne e hn.2))⟩⟩, ⟨[], upd_same, .nil⟩, hn.2, hn.1⟩
  refine ⟨fun i m H2 => m = xs.length - i ∧ i ≤ xs.length ∧ ∃ G2 C2 acc2, Same G1 G2 ∧ Hd X.K G C H Da G2 C2 H2 acc2 ∧ Iv i acc2 C2, ⟨xs.length, rfl, Nat.zero_le _, G1, C1, [], fun _ _ h => h, hd1, i0⟩, ?_⟩
  rintro i m H2 ⟨rfl, hi2, G2, C2, acc2, s2, hd2, i2⟩
  obtain ⟨go, stop⟩ := it G2 C2 H2 s2 hd2.w (hP _ _ _ i2)
  by_cases hlt : i < xs.length
  · obtain ⟨hgo, hy⟩ := go i xs[i] (by simp [hlt])
    refine .inr ⟨hgo, fun H' => i + 1 ≤ xs.length ∧ ∃ G2 C2 acc2, Same G1 G2 ∧ Hd X.K G C H Da G2 C2 H' acc2 ∧ Iv (i + 1) acc2 C2, fun H' z => ⟨xs.length - (i + 1), by omega, rfl, z⟩, fun x H3 hx => ?_⟩
    obtain ⟨G3, f3, w3, r3⟩ := hy x H3 hx
    have hd3 := hd2.step f3 w3
    have t1 := turn i xs[i] acc2 C2 (by simp [hlt]) i2 G3 σ H3 x
    change c.g x (wipe σ (restV (Cl.lv X scope c :: cs.map (Cl.lv X scope)))) H3 _
    rw [show restV (Cl.lv X scope c :: cs.map (Cl.lv X scope)) = restC (c :: cs) from restV_lv (c :: cs)]
    refine t1 _ w3 (er.mono (f1.exG.trans (s2.trans f3.exG))) r3 ?_
    intro G4 C4 H4 σ4 env4 f4 w4 er4 h4 X' hX
    have h5 := h4 X' hX
    have hd4 := hd3.step f4 w4
    obtain ⟨s0, H00, Ca, cl, fp, rfl⟩ := hX
    refine h5 G4 σ4 H4 _ w4 er4 fun t G5 C5 H5 f5 w5 ht => ?_
    have hd5 := hd4.step f5 w5
    have s5 : Same G1 G5 := s2.trans (f3.exG.trans (f4.exG.trans f5.exG))
    cases t with
    | true => exact iteT (inD h0 cs env4 acc2 C5 (Iv (i + 1)) σ4 G5 H5 _ hd5 (er4.mono f5.exG) (ht.1 rfl) fun G' C' H' acc' ss hh kk => ⟨hlt, G', C', acc', s5.trans ss, hh, kk⟩)
    | false => exact iteF ⟨hlt, G5, C5, acc2, s5, hd5, ht.2 rfl⟩
  · have e : i = xs.length := by omega
    subst e
    obtain ⟨vs, hv, hr⟩ := hd2.l
    obtain ⟨F, w3⟩ := hd2.w.claim hd2.f h0 hv hr hd2.c hd2.g
    exact .inl ⟨stop _ (Nat.le_refl _), q _ _ _ _ _ F w3 (.own Da) (done acc2 C2 i2 Da hd2.c)⟩
theorem we_lcN {own : List (Str × Nat)} {c : Cl} {cs : List Cl} {env : DEnv} {C : CS} {k : KD} {pos : Pos} (hc : X.calm = true) (hN : X.N.Nodup) (ok : BlkOk X.N X.env.scope scope own) (hV : restC (c :: cs) = own.map (·.2))
    (hg : ∀ Y, Blk X scope Y → PG Y c.tg c.g ∧ ∀ c' ∈ cs, PG Y c'.tg c'.g) (hfs : ∀ Y, Blk X scope Y → ∀ c' ∈ cs, ∀ x, foldedSetIterable c'.iter Y.env x = pure x) (hs : ∀ x, foldedSetIterable c.iter X.env x = pure x)
    (h : WIn X scope elt c cs env C k) : WE X (.ListComp elt (⟨c.tg, c.iter, c.ifs, 0⟩ :: cs.map fun c' => ⟨c'.tg, c'.iter, c'.ifs, 0⟩) scope pos) env C k := by
  have p := pe_lcN (X := X) (elt := elt) (te := fun σ H Q => ∀ X', Blk X scope X' → tS X' elt σ H Q) (pos := pos) (l := c.lv X scope) (ls := cs.map (Cl.lv X scope)) hc hN pi_tI hs ok (by rw [← hV]; exact restV_lv (c :: cs)) (fun s H Ca cl fp => by
    have hb : Blk X scope (X.blk s H scope (compEnvC scope cl Ca X.env) fp) := ⟨s, H, Ca, cl, fp, rfl⟩
    obtain ⟨g1, g2⟩ := hg _ hb
    refine ⟨g1, ⟨fun pins s' σ H Q I z => z _ hb pins s' I⟩, ⟨fun pins s' σ H Q I z => z _ hb pins s' I⟩, fun l' hl' => ?_⟩
    obtain ⟨c', hc', rfl⟩ := List.mem_map.mp hl'
    exact ⟨⟨fun pins s' σ H R I z => z _ hb pins s' I⟩, g2 c' hc', ⟨fun pins s' σ H Q I z => z _ hb pins s' I⟩, hfs _ hb c' hc'⟩)
  have e : (c.lv X scope).c :: (cs.map (Cl.lv X scope)).map Lv.c = (⟨c.tg, c.iter, c.ifs, 0⟩ : Comprehension) :: cs.map fun c' => ⟨c'.tg, c'.iter, c'.ifs, 0⟩ := by rw [List.map_map]; rfl
  rw [← e]
  exact .of p (ev_lcN h)
end
theorem wi_ls {X : Cx} {tg e : Expr} {env : DEnv} {C : CS} {kI : KI} (h : WE X e env C fun d C1 => ∃ xs, seqR C1 d = some xs ∧ kI xs (ownP d xs) C1) : WI X tg e env C kI := by
  refine wi_list (h.imp ?_)
  rintro d C1 ⟨xs, hs, hk⟩
  refine ⟨xs, hs, ?_⟩
  have e1 : (∀ a, d ≠ .own a) → ownP d xs = fun _ => True := fun hn => by
    funext C2
    exact propext ⟨fun _ => trivial, fun _ a z => absurd z (hn a)⟩
  cases d with
  | own a =>
    have : ownP (.own a) xs = fun C2 => C2 a = some (.lst xs) := by
      funext C2
      exact propext ⟨fun z => z a rfl, fun z b e => by cases e; exact z⟩
    rw [this] at hk
    exact hk
  | lst ys => rw [e1 (fun _ => by simp)] at hk; exact hk
  | slst ys => rw [e1 (fun _ => by simp)] at hk; exact hk
  | _ => simp [seqR] at hs
end DL
/-! DLt: what is made and then stands still: lists frozen wherever they are made; == of lists' cells; repr's bound. -/
namespace DL
open PySem PySem.Spec PyProof.Rows L2 RZ
/-- a value is taken on, a list's cell frozen -/
def FrzA (k : KD) : KD := fun d C1 => (∃ a ds, d = .own a ∧ C1 a = some (.lst ds) ∧ k (.lst ds) (del C1 a)) ∨ ((∀ a, d ≠ .own a) ∧ k d C1)
theorem ev_frzA {K : PySem.W.Frag} {te : TE} {env : DEnv} {C : CS} {k : KD} (h : Ev K te env C (FrzA k)) : Ev K te env C k := fun G σ H Q w er q =>
  h G σ H _ w er fun v G1 C1 H1 d f1 w1 d1 hb => by
    rcases hb with ⟨a, ds, rfl, hc, h2⟩ | ⟨_, h2⟩
    · cases d1
      obtain ⟨G2, w2, f2, r2⟩ := w1.freeze hc
      exact q _ _ _ _ _ (f1.trans f2) w2 r2 h2
    · exact q _ _ _ _ _ f1 w1 d1 h2
section
variable {X : Cx} {e a b : Expr} {es : List Expr} {env : DEnv} {C : CS} {k : KD} {pos p p1 p2 : Pos} {P : Program} {w : World} {K : PySem.W.Frag} {mg : Str → Option Value} {base : Heap} {m : Nat}
theorem we_fa (h : WE X e env C (FrzA k)) : WE X e env C k := ev_frzA h
theorem x_addA (h : WE X a env C fun x C1 => WE X b env C1 fun y C2 => dAdd x y C2 (FrzA k)) : WE X (.BinOp a .Add b pos) env C k := we_fa (we_add h)
theorem x_mulA (h : WE X a env C fun x C1 => WE X b env C1 fun y C2 => dMul x y C2 (FrzA k)) : WE X (.BinOp a .Mult b pos) env C k := we_fa (we_mul h)
theorem x_sliceA {lo hi : Option Expr} {p2 : Pos} (h : WE X a env C fun x C1 => WO X lo env C1 fun l C2 => WO X hi env C2 fun u C3 => dSl x l u C3 (FrzA k)) : WE X (.Subscript a (.Slice lo hi none p2) pos) env C k := we_fa (we_slice h)
theorem x_listA (hx : Ctx P w K mg base m X) (Z : Zs mg) (hg : Gl X "list") (h : WA X (e :: es) env C fun ds C1 => dList ds C1 (FrzA k)) (he : starEach (e :: es) X.env = (false, eval e X.env) :: starEach es X.env := by rfl) (hpl : (backTo pos (starEach es X.env)).any (·.1) = false := by rfl) : WE X (.Call (.Name "list" p) (e :: es) [] pos) env C k := we_fa (x_listC hx Z hg h he hpl)
end
section
variable {C : CS} {k : KD} {x : D} {xs ys : List D} {i j : Int} {p : Addr} {s t : Str} {lo hi : Option Int} {b : Bool}
theorem fa_int (q : k (.int i) C) : FrzA k (.int i) C := .inr ⟨fun _ z => (by cases z), q⟩
theorem fa_str (q : k (.str s) C) : FrzA k (.str s) C := .inr ⟨fun _ z => (by cases z), q⟩
theorem fa_bl (q : k (.bl b) C) : FrzA k (.bl b) C := .inr ⟨fun _ z => (by cases z), q⟩
theorem fa_non (q : k .non C) : FrzA k .non C := .inr ⟨fun _ z => (by cases z), q⟩
theorem fa_tup (q : k (.tup xs) C) : FrzA k (.tup xs) C := .inr ⟨fun _ z => (by cases z), q⟩
theorem fa_lst (q : k (.lst xs) C) : FrzA k (.lst xs) C := .inr ⟨fun _ z => (by cases z), q⟩
theorem fa_put (h : C p = none) (q : k (.lst xs) C) : FrzA k (.own p) (put C p (.lst xs)) := .inl ⟨p, xs, rfl, put_same, by rw [del_put h]; exact q⟩
theorem slA_o {a : Addr} (hc : C a = some (.lst xs)) (q : k (.lst (cutD xs lo hi)) C) : dSl (.own a) lo hi C (FrzA k) := sl_o hc fun _ hp => fa_put hp q
theorem slA_p (q : k (.lst (cutD xs lo hi)) (put C p (.lst xs))) : dSl (.own p) lo hi (put C p (.lst xs)) (FrzA k) := slA_o put_same q
theorem slA_f (q : k (.lst (cutD xs lo hi)) C) : dSl (.lst xs) lo hi C (FrzA k) := sl_f fun _ hp => fa_put hp q
theorem slA_t (q : k (.tup (cutD xs lo hi)) C) : dSl (.tup xs) lo hi C (FrzA k) := sl_t (fa_tup q)
theorem slA_z (hl : s.length ≤ sizeLine) (q : k (.str (cutS s lo hi)) C) : dSl (.str s) lo hi C (FrzA k) := sl_z hl (fa_str q)
theorem addA_ll (h : xs.length + ys.length ≤ sizeLine) (q : k (.lst (xs ++ ys)) C) : dAdd (.lst xs) (.lst ys) C (FrzA k) := add_lst rfl rfl h fun _ hp => fa_put hp q
theorem addA_ol {a : Addr} (hc : C a = some (.lst xs)) (h : xs.length + ys.length ≤ sizeLine) (q : k (.lst (xs ++ ys)) C) : dAdd (.own a) (.lst ys) C (FrzA k) := add_lst (seqL_own hc) rfl h fun _ hp => fa_put hp q
theorem addA_pl (h : xs.length + ys.length ≤ sizeLine) (q : k (.lst (xs ++ ys)) (put C p (.lst xs))) : dAdd (.own p) (.lst ys) (put C p (.lst xs)) (FrzA k) := addA_ol put_same h q
theorem addA_lo {a : Addr} (hc : C a = some (.lst ys)) (h : xs.length + ys.length ≤ sizeLine) (q : k (.lst (xs ++ ys)) C) : dAdd (.lst xs) (.own a) C (FrzA k) := add_lst rfl (seqL_own hc) h fun _ hp => fa_put hp q
theorem addA_ii (q : k (.int (i + j)) C) : dAdd (.int i) (.int j) C (FrzA k) := add_ii (fa_int q)
theorem addA_ss (h : s.length + t.length ≤ sizeLine) (q : k (.str (s ++ t)) C) : dAdd (.str s) (.str t) C (FrzA k) := add_ss h (fa_str q)
theorem addA_tt (h : xs.length + ys.length ≤ sizeLine) (q : k (.tup (xs ++ ys)) C) : dAdd (.tup xs) (.tup ys) C (FrzA k) := add_tt h (fa_tup q)
theorem mulA_ii (h : CMul i j) (q : k (.int (i * j)) C) : dMul (.int i) (.int j) C (FrzA k) := mul_ii h (fa_int q)
theorem mulA_li (h : 0 ≤ i ∧ i ≤ 1000 ∧ xs.length ≤ 100) (q : k (.lst (List.replicate i.toNat xs).flatten) C) : dMul (.lst xs) (.int i) C (FrzA k) := by
  refine ⟨xs, rfl, by omega, by omega, ?_, fun p hp => fa_put hp q⟩
  have : xs.length * i.toNat ≤ 100 * 1000 := Nat.mul_le_mul h.2.2 (by omega)
  exact Nat.le_trans this (by decide)
theorem listA_o {a : Addr} (hc : C a = some (.lst xs)) (q : k (.lst xs) C) : dList [.own a] C (FrzA k) := ⟨_, _, rfl, seqR_own hc, fun _ hp => fa_put hp q⟩
theorem listA_p (q : k (.lst xs) (put C p (.lst xs))) : dList [.own p] (put C p (.lst xs)) (FrzA k) := listA_o put_same q
theorem listA_l (q : k (.lst xs) C) : dList [.lst xs] C (FrzA k) := ⟨_, _, rfl, rfl, fun _ hp => fa_put hp q⟩
theorem listA_t (q : k (.lst xs) C) : dList [.tup xs] C (FrzA k) := ⟨_, _, rfl, rfl, fun _ hp => fa_put hp q⟩
end
/-! ### == of lists' cells -/
theorem eqL_refl {xs : List D} {n : Nat} (h : ∀ d ∈ xs, d.fit n = true) : eqL xs xs = true := SeqAt.eqvAll_refl _ (fitL_lay xs (fitL_all.mpr h))
theorem eqv_fit {d : D} {n : Nat} (h : d.fit n = true) : PyData.eqv d.py d.py = true := SeqAt.eqv_refl _ (fit_lay d h)
theorem pyC_own {C : CS} {a : Addr} {xs : List D} {n : Nat} (hc : C a = some (.lst xs)) (h : ∀ d ∈ xs, d.fit n = true) : pyC C (.own a) = some (.list (pyL xs)) := by
  unfold pyC
  simp only [hc]
  rw [if_pos (fitL_py xs (fitL_all.mpr h))]
theorem shaped_lst {xs : List D} {n : Nat} (h : ∀ d ∈ xs, d.fit n = true) (hn : n < 64) : SeqAt.shaped (.list (pyL xs)) = true := by
  have := fit_ok (d := .lst xs) (n := n + 1) (fit_lstI h) (by omega)
  unfold D.ok at this
  rw [Bool.and_eq_true] at this
  exact this.2
section
variable {C : CS} {k : KD} {a b : Addr} {xs ys : List D} {n m : Nat}
theorem eq_oo (ha : C a = some (.lst xs)) (hb : C b = some (.lst ys)) (hx : ∀ d ∈ xs, d.fit n = true) (hy : ∀ d ∈ ys, d.fit m = true) (hn : n < 64) (hm : m < 64) (q : k (.bl (eqL xs ys)) C) : dEq false (.own a) (.own b) C k :=
  .inl ⟨_, _, pyC_own ha hx, pyC_own hb hy, shaped_lst hx hn, shaped_lst hy hm, q⟩
theorem eq_ol (ha : C a = some (.lst xs)) (hx : ∀ d ∈ xs, d.fit n = true) (hy : ∀ d ∈ ys, d.fit m = true) (hn : n < 64) (hm : m < 64) (q : k (.bl (eqL xs ys)) C) : dEq false (.own a) (.lst ys) C k := by
  refine .inl ⟨_, .list (pyL ys), pyC_own ha hx, ?_, shaped_lst hx hn, shaped_lst hy hm, q⟩
  unfold pyC
  simp only [D.isPy, fitL_py ys (fitL_all.mpr hy), if_true, D.py]
theorem eq_lo (hb : C b = some (.lst ys)) (hx : ∀ d ∈ xs, d.fit n = true) (hy : ∀ d ∈ ys, d.fit m = true) (hn : n < 64) (hm : m < 64) (q : k (.bl (eqL xs ys)) C) : dEq false (.lst xs) (.own b) C k := by
  refine .inl ⟨.list (pyL xs), _, ?_, pyC_own hb hy, shaped_lst hx hn, shaped_lst hy hm, q⟩
  unfold pyC
  simp only [D.isPy, fitL_py xs (fitL_all.mpr hx), if_true, D.py]
theorem eq_ll (hx : ∀ d ∈ xs, d.fit n = true) (hy : ∀ d ∈ ys, d.fit m = true) (hn : n < 64) (hm : m < 64) (q : k (.bl (eqL xs ys)) C) : dEq false (.lst xs) (.lst ys) C k := eq_fit (fit_lstI hx) (fit_lstI hy) q (by omega) (by omega)
end
/-! ### repr: data whose text is short -/
mutual
/-- how many parts it has (signs of texts among them) -/
def D.wt : D → Nat
  | .int _ => 200
  | .str x => x.cps.size
  | .lst xs | .slst xs | .tup xs => wtL xs
  | _ => 0
def wtL : List D → Nat
  | [] => 0
  | d :: ds => d.wt + 1 + wtL ds
end
mutual
/-- its ints have at most sixty figures -/
def D.shI : D → Bool
  | .int i => decide (i.natAbs < 10 ^ 60)
  | .lst xs | .slst xs | .tup xs => shL xs
  | _ => true
def shL : List D → Bool
  | [] => true
  | d :: ds => d.shI && shL ds
end
theorem shL_all : ∀ {ds : List D}, shL ds = true ↔ ∀ d ∈ ds, d.shI = true
  | [] => by simp [shL]
  | d :: ds => by simp [shL, shL_all (ds := ds)]
theorem wtL_le {W : Nat} : ∀ {ds : List D}, (∀ d ∈ ds, d.wt ≤ W) → wtL ds ≤ ds.length * (W + 1)
  | [], _ => Nat.zero_le _
  | d :: ds, h => by
    have h1 := h d List.mem_cons_self
    have h2 := wtL_le (ds := ds) fun x hx => h x (List.mem_cons_of_mem _ hx)
    simp only [wtL, List.length_cons]
    rw [Nat.add_mul, Nat.one_mul]
    omega
theorem int_log {i : Int} (h : i.natAbs < 10 ^ 60) : (if (i == 0) = true then 0 else i.natAbs.log2 + 1) ≤ 200 := by
  split
  · omega
  · rename_i z
    have z : i.natAbs ≠ 0 := by simpa using z
    have := (Nat.log2_lt (n := i.natAbs) (k := 200) z).mpr (Nat.lt_trans h (by decide +kernel))
    omega
mutual
theorem wt_py : ∀ (d : D) {n : Nat}, d.fit n = true → d.shI = true → d.py.weight ≤ d.wt ∧ d.py.leavesShort 61 = true ∧ d.py.showable = true ∧ d.py.hasDict = false
  | .non, _, _, _ | .bl _, _, _, _ => ⟨Nat.le_refl _, rfl, rfl, rfl⟩
  | .int i, _, _, h => by
    have h : i.natAbs < 10 ^ 60 := by simpa [D.shI] using h
    refine ⟨int_log h, ?_, ?_, rfl⟩
    · simp only [D.py, PyData.leavesShort, decide_eq_true_eq]
      have e := int_text_length_le10 (k := 60) (by decide) h
      show (Str.ofString (toString i)).length ≤ 61
      rw [PySem.ofString_length]; exact e
    · simp only [D.py, PyData.showable, decide_eq_true_eq]
      by_cases z : i.natAbs = 0
      · rw [z]; decide
      · exact (Nat.log2_lt z).mpr (Nat.lt_trans h (by decide +kernel))
  | .str x, n, h, _ => by
    have hx : PyData.strOk x = true := by cases n <;> exact h
    exact ⟨Nat.le_refl _, PyData.leavesShort_of_canLay0 61 (.str x) hx rfl, rfl, rfl⟩
  | .lst xs, 0, h, _ | .slst xs, 0, h, _ | .tup xs, 0, h, _ => by simp [D.fit] at h
  | .lst xs, n + 1, h, s => wtL_py xs (n := n) (by simpa [D.fit] using h) (by simpa [D.shI] using s)
  | .slst xs, n + 1, h, s => wtL_py xs (n := n) (by simpa [D.fit] using h) (by simpa [D.shI] using s)
  | .tup xs, n + 1, h, s => wtL_py xs (n := n) (by simpa [D.fit] using h) (by simpa [D.shI] using s)
  | .obj _ _ _, n, h, _ => by cases n <;> simp [D.fit] at h
  | .own _, n, h, _ => by cases n <;> simp [D.fit] at h
  | .opq _, n, h, _ => by cases n <;> simp [D.fit] at h
theorem wtL_py : ∀ (ds : List D) {n : Nat}, fitL n ds = true → shL ds = true → PyData.weightAll (pyL ds) ≤ wtL ds ∧ PyData.leavesShortAll 61 (pyL ds) = true ∧ PyData.showableAll (pyL ds) = true ∧ PyData.hasDictAll (pyL ds) = false
  | [], _, _, _ => ⟨Nat.le_refl _, rfl, rfl, rfl⟩
  | d :: ds, n, h, s => by
    simp only [fitL, shL, Bool.and_eq_true] at h s
    obtain ⟨a, b, c, e⟩ := wt_py d h.1 s.1
    obtain ⟨a', b', c', e'⟩ := wtL_py ds h.2 s.2
    refine ⟨?_, ?_, ?_, ?_⟩
    · simp only [pyL, PyData.weightAll, wtL]; omega
    · simp only [pyL, PyData.leavesShortAll, b, b', Bool.and_self]
    · simp only [pyL, PyData.showableAll, c, c', Bool.and_self]
    · simp only [pyL, PyData.hasDictAll, e, e', Bool.or_self]
end
theorem repr_len {x : D} {n : Nat} (hf : x.fit n = true) (hs : x.shI = true) (hw : x.wt ≤ 200000) : x.py.shown.length ≤ sizeLine := by
  obtain ⟨a, b, _, _⟩ := wt_py x hf hs
  have h := PyData.shown_le 61 (by decide) x.py b
  have : (61 + 2) * x.py.weight ≤ 63 * 200000 := Nat.mul_le_mul (by decide) (by omega)
  rw [sizeLine_eq]
  omega
section
variable {C : CS} {k : KD} {x : D} {n : Nat} {a : Addr} {xs : List D}
theorem repr_ok (hf : x.fit n = true) (hn : n ≤ 60) (hs : x.shI = true) (hw : x.wt ≤ 200000) (q : k (.str x.py.shown) C) : dRepr [x] C k := by
  obtain ⟨_, b, c, d⟩ := wt_py x hf hs
  refine ⟨x, x.py, rfl, ?_, c, d, Nat.le_trans (fit_depth x hf) hn, repr_len hf hs hw, q⟩
  have hp := fit_py x hf
  cases x <;> first | (unfold pyC; simp only [hp]; rfl) | (simp [D.isPy] at hp)
theorem repr_o (hc : C a = some (.lst xs)) (hf : ∀ d ∈ xs, d.fit n = true) (hn : n < 60) (hs : ∀ d ∈ xs, d.shI = true) (hw : wtL xs ≤ 200000) (q : k (.str (D.lst xs).py.shown) C) : dRepr [.own a] C k := by
  have hf' : (D.lst xs).fit (n + 1) = true := fit_lstI hf
  have hs' : (D.lst xs).shI = true := by simp only [D.shI]; exact shL_all.mpr hs
  obtain ⟨_, b, c, d⟩ := wt_py (.lst xs) hf' hs'
  exact ⟨.own a, (D.lst xs).py, rfl, pyC_own hc hf, c, d, Nat.le_trans (fit_depth _ hf') hn, repr_len hf' hs' hw, q⟩
end
end DL
namespace DL
open PySem PySem.Spec PyProof.Rows L2
/-- a list that a name has is frozen -/
theorem wss_frzI {X : Cx} {sts : List Stmt} {env : DEnv} {C : CS} {E : DEnds} (i : Nat) {p : Addr} {ds : List D} (he : env[i]? = some (some (.own p))) (hc : C p = some (.lst ds)) (h : WSs X sts (env.set i (some (.lst ds))) (del C p) E) : WSs X sts env C E := fun G σ H D0 w er q => by
  obtain ⟨G2, w2, f2, r2⟩ := w.freeze hc
  obtain ⟨v, h1, h2⟩ := er.2 i _ he
  cases h2
  have er2 : EnvR X.K G2 (env.set i (some (.lst ds))) σ := by
    have := (er.mono f2.exG).set i r2
    have hσ : σ.set i (some (.ref p)) = σ := by
      apply List.ext_getElem?
      intro j
      by_cases e : i = j
      · subst e
        rw [List.getElem?_set_self (List.getElem?_eq_some_iff.mp h1).1, h1]
      · rw [List.getElem?_set_ne e]
    rw [hσ] at this
    exact this
  exact h G2 σ H D0 w2 er2 (q.after f2)
end DL
/-! DLu: chains of comparisons; tuples backwards; texts in a tuple; tuples of the module; upper. -/
namespace DL
open PySem PySem.Spec PyProof.Rows L2
/-! ### a op b op' c -/
section
variable {K : PySem.W.Frag} {env : DEnv} {C : CS} {ta tb tc : TE} {k : KD} {r r' : R2} {p p' : OpD}
theorem ev_chain (hr : R2D K r p) (hr' : R2D K r' p') (h : Ev K ta env C fun x C1 => Ev K tb env C1 fun y C2 => p x y C2 fun z C3 => ∃ t, z = .bl t ∧ (t = true → Ev K tc env C3 fun w C4 => p' y w C4 k) ∧ (t = false → k (.bl false) C3)) : Ev K (tChain r r' ta tb tc) env C k := fun G σ H Q w er q =>
  h G σ H _ w er fun v G1 C1 H1 x f1 w1 d1 h1 => h1 G1 σ H1 _ w1 (er.mono f1.exG) fun u G2 C2 H2 y f2 w2 d2 h2 => hr v u x y G2 C2 H2 _ _ w2 (d1.mono f2.exG) d2 h2 fun z' G3 C3 H3 z f3 w3 d3 h3 => by
    obtain ⟨t, rfl, h4, h5⟩ := h3
    cases d3
    refine ⟨t, rfl, ?_⟩
    have F := (f1.trans f2).trans f3
    cases t with
    | true => exact iteT (h4 rfl G3 σ H3 _ w3 (er.mono F.exG) fun w' G4 C4 H4 d f4 w4 d4 h6 => hr' u w' y d G4 C4 H4 k Q w4 (d2.mono (f3.trans f4).exG) d4 h6 (q.after (F.trans f4)))
    | false => exact iteF (q _ G3 C3 H3 _ F w3 (.bl false) (h5 rfl))
end
section
variable {X : Cx} {a b c e : Expr} {env : DEnv} {C : CS} {k : KD} {kb : Bool → CS → Prop} {pos : Pos}
theorem we_lele (h : WE X a env C fun x C1 => WE X b env C1 fun y C2 => dB2 (fun i j => decide (i ≤ j)) x y C2 fun z C3 => ∃ t, z = .bl t ∧ (t = true → WE X c env C3 fun w C4 => dB2 (fun i j => decide (i ≤ j)) y w C4 k) ∧ (t = false → k (.bl false) C3))
    (hm : lastMarks [.LtE, .LtE] [b, c] = false := by with_unfolding_all rfl) : WE X (.Compare a [.LtE, .LtE] [b, c] pos) env C k := .of (pe_chain op_le op_le pe_tS pe_tS pe_tS hm) (ev_chain r2_B r2_B h)
theorem wt_lele (h : WE X a env C fun x C1 => WE X b env C1 fun y C2 => dB2 (fun i j => decide (i ≤ j)) x y C2 fun z C3 => ∃ t, z = .bl t ∧ (t = true → WE X c env C3 fun w C4 => dB2 (fun i j => decide (i ≤ j)) y w C4 (tb kb)) ∧ (t = false → kb false C3))
    (hm : lastMarks [.LtE, .LtE] [b, c] = false := by with_unfolding_all rfl) : WT X (.Compare a [.LtE, .LtE] [b, c] pos) env C kb :=
  .of (pt_chain op_le op_le pe_tS pe_tS pe_tS hm) (eb_test (ev_chain r2_B r2_B (h.imp fun x C1 z => WE.imp z fun y C2 z => by
    obtain ⟨i, j, rfl, rfl, t, e, h1, h2⟩ := z
    exact ⟨i, j, rfl, rfl, t, e, h1, fun ht => ⟨false, rfl, h2 ht⟩⟩)))
theorem we_ltle (h : WE X a env C fun x C1 => WE X b env C1 fun y C2 => dB2 (fun i j => decide (i < j)) x y C2 fun z C3 => ∃ t, z = .bl t ∧ (t = true → WE X c env C3 fun w C4 => dB2 (fun i j => decide (i ≤ j)) y w C4 k) ∧ (t = false → k (.bl false) C3))
    (hm : lastMarks [.Lt, .LtE] [b, c] = false := by with_unfolding_all rfl) : WE X (.Compare a [.Lt, .LtE] [b, c] pos) env C k := .of (pe_chain op_lt op_le pe_tS pe_tS pe_tS hm) (ev_chain r2_B r2_B h)
end
/-! ### t[::-1] -/
section
variable {prog : Program} {w : World} {A : Around} {E : Value → Shared → Prop} {s : Shared}
theorem sliceApplied_back {sl : Addr} {vl vu vs : Value} {n : Nat} {Q : Int × Int × Nat → Shared → Prop} (hs : s.heap.IsSliceOf sl vl vu vs) (pl : IsPart vl none) (pu : IsPart vu none) (ps : IsPart vs (some (-1)))
    (h : Q ((n : Int) - 1, -1, n) s) : wpAny (model prog w) A (Builtin.Slice.sliceApplied (.ref sl) (pure (n : Int))) Q E s := by
  obtain ⟨os, hos, hcs, hds⟩ := id hs
  unfold Builtin.Slice.sliceApplied Builtin.Slice.sliceFields
  refine wpAny_bind (wpAny_bind (wpAny_field hos hds (x := vl) rfl (wpAny_bind (wpAny_field hos hds (x := vu) rfl (wpAny_bind (wpAny_field hos hds (x := vs) rfl (wpAny_pure ?_)))))))
  refine wpAny_bind (HT.slicePart_ ps ?_)
  show wpAny _ _ (if ((-1 : Int) == 0) = true then _ else _) _ _ s
  rw [if_neg (by decide)]
  refine wpAny_bind (HT.slicePart_ pl (wpAny_bind (HT.slicePart_ pu (wpAny_bind (wpAny_pure ?_)))))
  show wpAny _ _ (match Builtin.Slice.sliceAdjust none none (-1) (n : Int) with | (lo, hi) => pure (lo, (-1 : Int), Builtin.Slice.slicePlaces lo hi (-1))) _ _ s
  have e1 : Builtin.Slice.sliceAdjust none none (-1) (n : Int) = ((n : Int) - 1, -1) := rfl
  rw [e1]
  show wpAny _ _ (pure ((n : Int) - 1, (-1 : Int), Builtin.Slice.slicePlaces ((n : Int) - 1) (-1) (-1))) _ _ s
  have e2 : Builtin.Slice.slicePlaces ((n : Int) - 1) (-1) (-1) = n := by
    unfold Builtin.Slice.slicePlaces
    rw [if_neg (by decide), show -(-1 : Int) = 1 from rfl, Int.ediv_one]
    split <;> omega
  rw [e2]
  exact wpAny_pure h
theorem pick_back (xs : Array Value) : ((List.range xs.size).filterMap fun (m : Nat) => xs[(((xs.size : Nat) : Int) - 1 + (m : Int) * (-1)).toNat]?).toArray = xs.toList.reverse.toArray := by
  congr 1
  apply List.ext_getElem?
  have e : ((List.range xs.size).filterMap fun (m : Nat) => xs[(((xs.size : Nat) : Int) - 1 + (m : Int) * (-1)).toNat]?) = (List.range xs.size).map fun m => xs.toList.reverse.getD m .none := by
    have : ∀ l : List Nat, (∀ m ∈ l, m < xs.size) → (l.filterMap fun (m : Nat) => xs[(((xs.size : Nat) : Int) - 1 + (m : Int) * (-1)).toNat]?) = l.map fun m => xs.toList.reverse.getD m .none := by
      intro l
      induction l with
      | nil => intro _; rfl
      | cons m l ih =>
        intro hl
        have hm := hl m List.mem_cons_self
        have e1 : (((xs.size : Nat) : Int) - 1 + (m : Int) * (-1)).toNat = xs.size - 1 - m := by omega
        have e2 : xs[xs.size - 1 - m]? = some (xs.toList.reverse.getD m .none) := by
          rw [List.getD_eq_getElem?_getD, List.getElem?_reverse (by simpa using hm), Array.length_toList, Array.getElem?_toList]
          rw [Array.getElem?_eq_getElem (by omega)]
          rfl
        rw [List.filterMap_cons, e1, e2, List.map_cons, ih fun m hm => hl m (List.mem_cons_of_mem _ hm)]
    exact this _ fun m hm => List.mem_range.mp hm
  intro i
  rw [e, List.getElem?_map]
  by_cases hi : i < xs.size
  · rw [List.getElem?_range hi, List.getElem?_eq_getElem (by simpa using hi)]
    simp [List.getD_eq_getElem?_getD, List.getElem?_eq_getElem (show i < xs.toList.reverse.length by simpa using hi)]
  · rw [List.getElem?_eq_none (by simpa using hi), List.getElem?_eq_none (by simpa using hi)]; rfl
theorem getItem_tuple_back {t sl : Addr} {items : Array Value} {vl vu vs : Value} {Q : Value → Shared → Prop} (ht : IsTup s.heap t items) (hs : s.heap.IsSliceOf sl vl vu vs) (pl : IsPart vl none) (pu : IsPart vu none) (ps : IsPart vs (some (-1)))
    (h : Q (.ref s.heap.objs.size) { s with heap := s.heap.push { cls := .type "tuple", data := .seq items.toList.reverse.toArray } })
    (hsz : items.size ≤ sizeLine) : wpAny (model prog w) A (getItem (.ref t) (.ref sl)) Q E s := by
  have htake : sizeOk (.seq items.toList.reverse.toArray) := by
    show items.toList.reverse.toArray.size ≤ sizeLine
    rw [List.size_toArray, List.length_reverse, Array.length_toList]
    exact hsz
  obtain ⟨os, hos, hcs, hds⟩ := id hs
  have hTs : s.TypeIs (.ref sl) "slice" := ⟨os, hos, hcs⟩
  unfold getItem
  try with_reducible refine wpAny_holding ?_
  first | refine wpAny_bind (wpAny_pure ?_) | skip
  refine wpAny_bind (wpAny_sequenceKey ht.typeIs (by decide) ?_)
  refine wpAny_bind (wpAny_callSpecial?_slot (name := Str.ofString "__getitem__") ht.typeIs PyProof.Rows.slot_tuple_getitem
    (wpAny_call_entry PyProof.Rows.slot_tuple_getitem ht.typeIs entry_tuple_getitem ?_ (args_tuple_getitem _ _)))
  show wpAny _ _ (Builtin.Tuple.tupleItemsOf (.ref t) >>= _) _ _ s
  refine wpAny_bind (tupleItemsOf_ ht ?_)
  refine wpAny_bind (wpAny_typeOf hTs ?_)
  rw [if_pos (by decide)]
  refine wpAny_bind (sliceApplied_back hs pl pu ps ?_)
  have hno : ¬ ((((items.size : Nat) : Int) - 1 == 0 && (-1 : Int) == 1 && items.size == items.size) = true) := by
    rw [show ((-1 : Int) == 1) = false from rfl, Bool.and_false, Bool.false_and]
    exact Bool.false_ne_true
  show wpAny _ _ (if (((items.size : Nat) : Int) - 1 == 0 && (-1 : Int) == 1 && items.size == items.size) = true then _ else _) _ _ s
  rw [if_neg hno, pick_back]
  first
    | exact wpAny_bind (m := Builtin.Tuple.tupleExact _) (wpAny_newObj_type (wpAny_pure ⟨_, rfl, wpAny_pure h⟩) htake)
    | exact wpAny_bind (m := Builtin.Tuple.tupleExact _) (wpAny_newObj_type (wpAny_bind (wpAny_pure (wpAny_pure ⟨_, rfl, wpAny_pure h⟩))) htake)
    | exact wpAny_bind (wpAny_bind (m := Builtin.Tuple.tupleExact _) (wpAny_newObj_type (wpAny_pure (wpAny_pure ⟨_, rfl, wpAny_pure h⟩)) htake))
    | exact wpAny_bind (wpAny_bind (m := Builtin.Tuple.tupleExact _) (wpAny_newObj_type (wpAny_pure ⟨_, rfl, wpAny_pure h⟩) htake))
end
def tRevT (K : PySem.W.Frag) (te : TE) : TE := fun σ H Q => te σ H fun x H1 => ∃ a xs, x = .ref a ∧ SqT K H1 a xs ∧ ∀ p, H1 p = none → Q (.ref p) (upd H1 p (.tup xs.reverse))
theorem pe_revT {X : Cx} {e : Expr} {te : TE} {k : Nat} {p1 p2 p3 pos : Pos} (he : PE X e te) : PE X (.Subscript e (.Slice none none (some (.UnaryOp .USub (.Constant (.int 1) k p1) p2)) p3) pos) (tRevT X.K te) := by
  refine ⟨fun pins s σ H Q I h => ?_⟩
  refine Subscript_ (L2.thn (he.run pins s σ H _ I h) fun v s1 ⟨x, H1, I1, r1, q1⟩ => ?_)
  obtain ⟨a, xs, ex, hx, q⟩ := q1
  subst ex
  cases r1
  have hst : PO X (some (.UnaryOp .USub (.Constant (.int 1) k p1) p2)) (tPart (tUn (rU fun i => .int (-i)) (tC (.int 1)))) := po_some (pe_un un_neg pe_int)
  refine wpAny_Slice (L2.thn (po_none.run pins s1 σ H1 (fun o H2 => o = none ∧ H2 = H1) I1 ⟨rfl, rfl⟩) fun vl s2 ⟨l, H2, I2, pl, el, e2⟩ => ?_)
  subst el e2
  refine L2.thn (po_none.run pins s2 σ H2 (fun o H3 => o = none ∧ H3 = H2) I2 ⟨rfl, rfl⟩) fun vu s3 ⟨u, H3, I3, pu, eu, e3⟩ => ?_
  subst eu e3
  refine L2.thn (hst.run pins s3 σ H3 (fun o H4 => o = some (-1) ∧ H4 = H3) I3 ⟨1, rfl, -1, rfl, rfl, rfl⟩) fun vs s4 ⟨o, H4, I4, ps, eo, e4⟩ => ?_
  subst eo e4
  have I5 : Inv X pins σ H4 { s4 with heap := s4.heap.push { cls := .type "slice", data := .fields #[vl, vu, vs] } } := I4.kept (t' := s4.toks) fun b ob q => Heap.get?_push_of_some _ q
  obtain ⟨its, r, ht, hz⟩ := I5.tuple hx
  have hlen := r.length
  show wpAny (model X.prog X.w) X.A (subscriptTail e (.Slice none none (some (.UnaryOp .USub (.Constant (.int 1) k p1) p2)) p3) (.ref a) (.ref s4.heap.objs.size)) (EP X pins σ Q) X.xe { s4 with heap := s4.heap.push { cls := .type "slice", data := .fields #[vl, vu, vs] } }
  refine tail_any (ops := [.ref a, .ref s4.heap.objs.size]) ht.typeIs (PyProof.Rows.slot_tuple_getitem.lookup) ?_ (by with_unfolding_all rfl)
  refine getItem_tuple_back ht (Heap.IsSliceOf.new _ vl vu vs) pl pu ps ?_ (by rw [List.size_toArray]; omega)
  refine ⟨.ref _, _, I5.laid (t' := s4.toks) (o := .tup xs.reverse) (fun b ob q => Heap.get?_push_of_some _ q) (Nat.le_refl _) ?_, rfl, q _ (I5.hok.fresh (Nat.le_refl _))⟩
  exact ⟨by rw [List.length_reverse]; exact hz, _, r.reverse, IsTup.new _ _⟩
section
variable {X : Cx} {e : Expr} {env : DEnv} {C : CS} {k : KD} {pos p1 p2 p3 : Pos} {j : Nat}
theorem we_revT (h : WE X e env C fun d C1 => ∃ xs, d = .tup xs ∧ k (.tup xs.reverse) C1) : WE X (.Subscript e (.Slice none none (some (.UnaryOp .USub (.Constant (.int 1) j p1) p2)) p3) pos) env C k :=
  .of (pe_revT pe_tS) fun G σ H Q w er q => h G σ H _ w er fun v G1 C1 H1 d f1 w1 r1 z => by
    obtain ⟨xs, rfl, z⟩ := z
    obtain ⟨a, vs, rfl, h1, h2⟩ := w1.tup r1
    refine ⟨a, vs, rfl, h1, fun p hp => ?_⟩
    obtain ⟨w2, f2, s2⟩ := w1.newG hp (.tup vs.reverse)
    exact q _ _ _ _ _ (f1.trans f2) w2 (.tup (SqT.of upd_same) (h2.rev.mono s2)) z
end
/-! ### tuples of texts -/
theorem in_tup {C : CS} {k : KD} {z : Str} {xs : List D} {zs : List Str} (e : xs = zs.map D.str) (q : k (.bl (decide (z ∈ zs))) C) : dIn false (.str z) (.tup xs) C k := ⟨z, zs, rfl, by rw [e], q⟩
theorem nin_tup {C : CS} {k : KD} {z : Str} {xs : List D} {zs : List Str} (e : xs = zs.map D.str) (q : k (.bl (!decide (z ∈ zs))) C) : dIn true (.str z) (.tup xs) C k := ⟨z, zs, rfl, by rw [e], q⟩
/-! ### tuples of the module -/
theorem mgk_tup {K : PySem.W.Frag} {mg : Str → Option Value} {x : Str} {a : Addr} {o : Obj} {its : Array Value} {n : Nat} {xs : List V} {ds : List D} (h : mg x = some (.ref a)) (l : K.lookup a = some o) (hc : o.cls = .type "tuple") (hd : o.data = .seq its n) (hz : its.size ≤ sizeLine) (hv : Vals xs its.toList) (hD : ∀ G, DatAll K G xs ds) : MgK K mg x (.tup ds) :=
  ⟨_, .ref a, h, rfl, fun G => .tup (.inr ⟨o, its, n, l, hc, hd, hz, hv⟩) (hD G)⟩
theorem datAll_strsI {K : PySem.W.Frag} {G : Hp} : ∀ zs : List Str, DatAll K G (zs.map V.str) (zs.map D.str)
  | [] => .nil
  | z :: zs => .cons (.str z) (datAll_strsI zs)
/-! ### upper -/
def dUpper : D → List D → CS → KD → Prop := fun x ds C k => ∃ z, x = .str z ∧ ds = [] ∧ z.length ≤ 5592405 ∧ k (.str (Txt.upper z)) C
theorem rm_upper {K : PySem.W.Frag} : RMD K (fun x xs H Q => ∃ a, x = .str a ∧ xs = [] ∧ a.length ≤ 5592405 ∧ Q (.str (Txt.upper a)) H) dUpper := by
  rintro x a xs ds G C H k Q w r rs ⟨z, rfl, rfl, h, hk⟩ q
  cases r; cases rs
  exact ⟨z, rfl, rfl, h, q _ _ _ _ _ (Fr.refl ..) w (.str _) hk⟩
theorem x_upper {X : Cx} {o : Expr} {env : DEnv} {C : CS} {k : KD} {apos cpos : Pos} (h : WE X o env C fun x C1 => tyD "str" C1 x ∧ dUpper x [] C1 k) (hbase : attributeBase o "upper" X.env (eval o X.env) = eval o X.env := by rfl) (hline : (apos.endLine == cpos.line) = true := by rfl) :
    WE X (.Call (.Attribute o "upper" apos) [] [] cpos) env C k := we_bm0 PySem.F.plainAttrs_str PySem.F.slot_str_upper PySem.F.type_str_upper mt_upper rm_upper h hbase hline
theorem up1_lt {c : Nat} (h : c < 128) : up1 c < 128 := by unfold up1; split <;> omega
theorem upper_len {z : Str} (h : ∀ c ∈ z.cps.toList, c < 128) : (Txt.upper z).length = z.length ∧ ∀ c ∈ (Txt.upper z).cps.toList, c < 128 := by
  rw [upper_ascii h]
  refine ⟨Array.size_map .., fun c hc => ?_⟩
  rw [Array.toList_map] at hc
  obtain ⟨d, hd, rfl⟩ := List.mem_map.mp hc
  exact up1_lt (h d hd)
end DL
/-! DLv: instances by data: fields, methods, makings, properties. -/
namespace DL
open PySem PySem.Spec PyProof.Rows L2
section
variable {X : Cx} {CT : CXT} {n : Nat} {fa Ca : Addr} {fd : FuncData} {ps : List Str} {sp : Sp} {E : XK} {x m : Str} {p pos apos : Pos} {e o : Expr} {es : List Expr} {ta : TE} {t : TA} {dvs : List V} {ds : List Value}
theorem goD {pins : List (Addr × Obj)} {σ : L2.St} {H : Hp} {s : Shared} {Q : VK} {us : List Value} {as : List V} (F : FnG X.prog X.w X.K X.mg X.base CT n fa fd ps sp) (hgd : X.A.guards = some []) (hr : Room n X.A) (hb : Binds X.K fd ps ds) (hd : Vals dvs ds) (hx : Passes CT X E)
    (I : Inv X pins σ H s) (r : Vals as us) (h : sp (as ++ dvs) H Q E) : wpAny (model X.prog X.w) X.A (call (.ref fa) us) (EP X pins σ Q) X.xe s := by
  have r2 : Vals (as ++ dvs) (us ++ ds) := r.append hd
  have hlen : (us ++ ds).length = ps.length := by
    rw [← r2.length]
    exact F.len _ _ _ _ h
  refine wpAny_call (codeAny_mono (F.run hgd hr I.env0 (hb s us I.kIn hlen) r2 h) ?_)
  intro res s' z
  match res, z with
  | .error e, z => exact hx pins σ H s e s' I z
  | .ok (.ret u), z => exact I.after z
/-- f(e, ..) with defaults -/
theorem pe_callD (F : FnG X.prog X.w X.K X.mg X.base CT n fa fd ps sp) (hgd : X.A.guards = some []) (hr : Room n X.A) (hg : Gl X x) (hm : X.mg x = some (.ref fa)) (hk : PySem.W.keepIn X.K (.ref fa) = true) (hb : Binds X.K fd ps ds) (hd : Vals dvs ds) (hx : Passes CT X E)
    (ha : PA X (e :: es) t) (hdb : (x == ("__debug__" : Str)) = false := by decide) (he : starEach (e :: es) X.env = (false, eval e X.env) :: starEach es X.env := by rfl) (hpl : (backTo pos (starEach es X.env)).any (·.1) = false := by rfl) :
    PE X (.Call (.Name x p) (e :: es) [] pos) (tCall sp dvs E t) := ⟨fun pins s σ H Q I h => wpAny_Call_Name_kw (ld_glob I hg hm (PySem.W.callWith_K (h₀ := X.base) I.ok.mod.kin hk (thn (ha.run pos pins s σ H _ I h) fun us s1 z => by
      obtain ⟨as, H1, I1, r, q⟩ := z
      exact ⟨I1.kIn, goD F hgd hr hb hd hx I1 r q⟩) he hpl) hdb)⟩
/-- o.m(e, ..) -/
theorem pe_methG {pl : Sem Bool} (he : PE X o ta) (c : Cls X.K Ca) (hm : Meth X.K Ca m fa) (F : FnG X.prog X.w X.K X.mg X.base CT n fa fd ps sp) (hgd : X.A.guards = some []) (hr : Room n X.A) (hb : Binds X.K fd ps ds) (hd : Vals dvs ds) (hx : Passes CT X E) (ha : PA X (e :: es) t)
    (hst : starEach (e :: es) X.env = (false, eval e X.env) :: starEach es X.env := by rfl) (hpl : (backTo pos (starEach es X.env)).any (·.1) = false := by rfl)
    (ht : eval (.Call (.Attribute o m apos) (e :: es) [] pos) X.env = (do
      let ov ← eval o X.env
      standAt apos.atName
      let (f, first) ← holding [ov] (getMethod ov m pl)
      callWith pos f first (backTo pos (starEach (e :: es) X.env)) (backToKw pos (keywordEach [] X.env))) := by rfl) :
    PE X (.Call (.Attribute o m apos) (e :: es) [] pos) (tMeth Ca m sp dvs E ta t) := by
  refine ⟨fun pins s σ H Q I h => ?_⟩
  refine PySem.W.methodCall_KW (pl := pl) (thn (he.run pins s σ H _ I h) fun u s1 ⟨x, H1, I1, rx, a, dx, fs, ex, ea, l, q⟩ => ?_) ht
  subst ex
  obtain rfl : u = Value.ref a := rx
  refine getmeth_ok I1 ea c hm l ?_
  refine PySem.W.callWith_K (first := [.ref a]) (h₀ := X.base) I.ok.mod.kin hm.kp (thn (ha.run pos pins s1 σ H1 _ I1 q) fun us s2 ⟨vs, H2, I2, r, q2⟩ => ⟨I2.kIn, ?_⟩) hst hpl
  exact goD (us := .ref a :: us) (as := .ref a :: vs) F hgd hr hb hd hx I2 (.cons rfl r) q2
/-- o.m() -/
theorem pe_methG0 {pl : Sem Bool} (he : PE X o ta) (c : Cls X.K Ca) (hm : Meth X.K Ca m fa) (F : FnG X.prog X.w X.K X.mg X.base CT n fa fd ps sp) (hgd : X.A.guards = some []) (hr : Room n X.A) (hb : Binds X.K fd ps ds) (hd : Vals dvs ds) (hx : Passes CT X E)
    (ht : eval (.Call (.Attribute o m apos) [] [] pos) X.env = (do
      let ov ← eval o X.env
      standAt apos.atName
      let (f, first) ← holding [ov] (getMethod ov m pl)
      callWith pos f first (backTo pos (starEach [] X.env)) (backToKw pos (keywordEach [] X.env))) := by rfl) :
    PE X (.Call (.Attribute o m apos) [] [] pos) (tMeth Ca m sp dvs E ta tNil) := by
  refine ⟨fun pins s σ H Q I h => ?_⟩
  refine PySem.W.methodCall_KW (pl := pl) (thn (he.run pins s σ H _ I h) fun u s1 ⟨x, H1, I1, rx, a, dx, fs, ex, ea, l, q⟩ => ?_) ht
  subst ex
  obtain rfl : u = Value.ref a := rx
  refine getmeth_ok I1 ea c hm l ?_
  exact PySem.W.callWith_K0 (first := [.ref a]) I1.kIn hm.kp (goD (us := [.ref a]) (as := [.ref a]) F hgd hr hb hd hx I1 (.cons rfl .nil) q)
theorem makeG {pins : List (Addr × Obj)} {σ : L2.St} {H : Hp} {s : Shared} {Q : VK} {us : List Value} {vs : List V} (M : Mk X.K Ca fa) (F : FnG X.prog X.w X.K X.mg X.base CT n fa fd ps sp) (hgd : X.A.guards = some []) (hr : Room (n + 1) X.A) (hb : Binds X.K fd ps ds) (hd : Vals dvs ds)
    (hx : Passes CT X E) (I : Inv X pins σ H s) (r : Vals vs us)
    (h : ∀ x dx, H x = none → H dx = none → dx ≠ x → sp (.ref x :: (vs ++ dvs)) (upd (upd H dx (.own x)) x (.ins Ca dx [])) (fun v H2 => v = .non ∧ Q (.ref x) H2) E) :
    wpAny (model X.prog X.w) X.A (call (.ref Ca) us) (EP X pins σ Q) X.xe s := by
  have hq := h (s.heap.objs.size + 1) s.heap.objs.size (I.hok.fresh (Nat.le_succ _)) (I.hok.fresh (Nat.le_refl _)) (Nat.ne_of_lt (Nat.lt_succ_self _))
  have I2 := Inv.made (C := Ca) I
  have r2 : Vals (V.ref (s.heap.objs.size + 1) :: (vs ++ dvs)) (Value.ref (s.heap.objs.size + 1) :: (us ++ ds)) := .cons rfl (r.append hd)
  have hl : (Value.ref (s.heap.objs.size + 1) :: us ++ ds).length = ps.length := by
    have e := r2.length
    rw [F.len _ _ _ _ hq] at e
    exact e.symm
  refine wpAny_call (make_map (f := fa) I.kIn M.makes M.init (beq_iff_eq.mp M.fn) (codeAny_mono (F.run (by exact hgd) (hr.make Ca us []) (I2.env0.make Ca us []) (hb _ (Value.ref (s.heap.objs.size + 1) :: us) I2.kIn hl) r2 hq) fun r s' hq' => ?_))
  cases r with
  | error e => exact hx pins σ _ _ e s' I2 hq'
  | ok fl =>
    cases fl with
    | ret u =>
      obtain ⟨v, H', I3, rv, ev, q3⟩ := I2.after hq'
      subst ev
      exact ⟨rv, ⟨V.ref (s.heap.objs.size + 1), H', I3, rfl, q3⟩⟩
    | next => exact False.elim hq'
    | brk => exact False.elim hq'
    | cont => exact False.elim hq'
theorem pe_makeG (M : Mk X.K Ca fa) (F : FnG X.prog X.w X.K X.mg X.base CT n fa fd ps sp) (hgd : X.A.guards = some []) (hr : Room (n + 1) X.A) (hg : Gl X x) (hm : X.mg x = some (.ref Ca)) (hb : Binds X.K fd ps ds) (hd : Vals dvs ds) (hx : Passes CT X E)
    (ha : PA X (e :: es) t) (hdb : (x == ("__debug__" : Str)) = false := by decide) (he : starEach (e :: es) X.env = (false, eval e X.env) :: starEach es X.env := by rfl) (hpl : (backTo pos (starEach es X.env)).any (·.1) = false := by rfl) :
    PE X (.Call (.Name x p) (e :: es) [] pos) (tMake Ca sp dvs E t) := by
  refine ⟨fun pins s σ H Q I h => ?_⟩
  refine wpAny_Call_Name_kw (ld_glob I hg hm ?_ hdb)
  refine PySem.W.callWith_K (h₀ := X.base) I.ok.mod.kin M.kp (thn (ha.run pos pins s σ H _ I h) fun us s1 ⟨vs, H1, I1, r, q⟩ => ⟨I1.kIn, ?_⟩) he hpl
  exact makeG M F hgd hr hb hd hx I1 r q
theorem pe_makeG0 (M : Mk X.K Ca fa) (F : FnG X.prog X.w X.K X.mg X.base CT n fa fd ps sp) (hgd : X.A.guards = some []) (hr : Room (n + 1) X.A) (hg : Gl X x) (hm : X.mg x = some (.ref Ca)) (hb : Binds X.K fd ps ds) (hd : Vals dvs ds) (hx : Passes CT X E)
    (hdb : (x == ("__debug__" : Str)) = false := by decide) : PE X (.Call (.Name x p) [] [] pos) (tMake Ca sp dvs E tNil) := by
  refine ⟨fun pins s σ H Q I h => ?_⟩
  refine wpAny_Call_Name_kw (ld_glob I hg hm ?_ hdb)
  exact PySem.W.callWith_K0 I.kIn M.kp (makeG (us := []) M F hgd hr hb hd hx I .nil h)
theorem getpropG {pins : List (Addr × Obj)} {σ : L2.St} {H : Hp} {s : Shared} {Q : VK} {b : Bool} {E' : Value → Shared → Prop} {a dx pa g : Addr} {fs : List (Str × V)} {f : Str} (I : Inv X pins σ H s) (ea : H a = some (.ins Ca dx fs)) (c : Cls X.K Ca) (hp : PropOf X.K Ca f pa g)
    (F : FnG X.prog X.w X.K X.mg X.base CT n g fd ps sp) (hgd : X.A.guards = some []) (hr : Room (n + 1) X.A) (hb : Binds X.K fd ps ds) (hd : Vals dvs ds) (hx : Passes CT X.nox E) (h : sp (.ref a :: dvs) H Q E) :
    wpAny (model X.prog X.w) X.A (getAttr (.ref a) f b) (EP X pins σ Q) E' s := by
  obtain ⟨mA, O, _, _, _, _⟩ := ins_get I.hok ea
  obtain ⟨od, J, _⟩ := O.look
  obtain ⟨rest, hrec⟩ := hp.rec_
  have I1 := I.tok (s.toks + 1)
  have hl : ([Value.ref a] ++ ds).length = ps.length := by
    rw [← F.len _ _ _ _ h]
    show ds.length + 1 = dvs.length + 1
    rw [hd.length]
  have hc : (PySem.W.clsIn X.K Ca).isSome = true := by
    obtain ⟨cd, hc, _⟩ := PySem.W.any_some c.hd
    rw [hc]
    rfl
  refine PySem.W.get_bind I.kIn J (PySem.W.plainGet_of (c.get f)).1 (PySem.W.findObj_data hc hp.at_ hp.get hp.tak) (PySem.W.plainGet_of (c.get f)).2 (wpAny_call (PySem.W.prop_get (s := { s with toks := s.toks + 1 }) I.kIn hrec ?_))
  refine codeAny_mono (F.run (us := .ref a :: ds) (as := .ref a :: dvs) (by exact hgd) hr.in1 I1.env0.in1 (hb _ [.ref a] I1.kIn hl) (.cons rfl hd) h) fun r s' hq => ?_
  cases r with
  | error er => exact False.elim (hx pins σ H { s with toks := s.toks + 1 } er s' (I1.wish _) hq)
  | ok fl =>
    cases fl with
    | ret u =>
      obtain ⟨v, H', I3, rv, q3⟩ := I1.after hq
      show wpAny _ _ (handedOut u) _ _ _
      rw [PySem.W.handedOut_of (handed_of rv)]
      exact wpAny_pure ⟨v, H', I3, rv, q3⟩
    | next => exact False.elim hq
    | brk => exact False.elim hq
    | cont => exact False.elim hq
theorem pe_propG {pa g : Addr} {f : Str} (he : PE X e ta) (c : Cls X.K Ca) (hp : PropOf X.K Ca f pa g) (F : FnG X.prog X.w X.K X.mg X.base CT n g fd ps sp) (hgd : X.A.guards = some []) (hr : Room (n + 1) X.A) (hb : Binds X.K fd ps ds) (hd : Vals dvs ds) (hx : Passes CT X.nox E)
    (hab : attributeBase e f X.env (eval e X.env) = eval e X.env) : PE X (.Attribute e f pos) (tProp Ca sp dvs E ta) := by
  refine ⟨fun pins s σ H Q I h => ?_⟩
  refine attr_of hab (thn (he.run pins s σ H _ I h) fun u s1 ⟨x, H1, I1, rx, a, dx, fs, ex, ea, q⟩ => ?_)
  subst ex
  obtain rfl : u = Value.ref a := rx
  exact getpropG I1 ea c hp F hgd hr hb hd hx q
end

/-! ### fields by data -/
/-- a field's value, found by syntax -/
inductive FGet : List Str → List D → Str → D → Prop where
  | here (f : Str) (ks : List Str) (d : D) (xs : List D) : FGet (f :: ks) (d :: xs) f d
  | there {g f : Str} {ks : List Str} {x d : D} {xs : List D} (hne : (f == g) = false) (h : FGet ks xs f d) : FGet (g :: ks) (x :: xs) f d
/-- the fields behind a store -/
inductive FPut (f : Str) (d : D) : List Str → List D → List Str → List D → Prop where
  | nil : FPut f d [] [] [f] [d]
  | here (ks : List Str) (x : D) (xs : List D) : FPut f d (f :: ks) (x :: xs) (f :: ks) (d :: xs)
  | there {g : Str} {ks ks' : List Str} {x : D} {xs xs' : List D} (hne : (g == f) = false) (h : FPut f d ks xs ks' xs') : FPut f d (g :: ks) (x :: xs) (g :: ks') (x :: xs')
section
variable {K : PySem.W.Frag} {G H : Hp}
theorem FGet.look {f : Str} {d : D} : ∀ {fs : List (Str × V)} {ks : List Str} {xs : List D}, FGet ks xs f d → fs.map (·.1) = ks → DatAll K G (fs.map (·.2)) xs → ∃ v, fs.lookup f = some v ∧ Dat K G v d
  | [], _, _, h, e, r => by cases e; cases h
  | (g, v) :: fs, _, _, h, e, r => by
    cases e
    cases h with
    | here =>
      cases r with
      | cons r1 r2 => exact ⟨v, by simp, r1⟩
    | there hne h =>
      cases r with
      | cons r1 r2 =>
        obtain ⟨u, h1, h2⟩ := FGet.look h rfl r2
        exact ⟨u, by rw [List.lookup_cons, hne]; exact h1, h2⟩
theorem FPut.put {f : Str} {d : D} {y : V} (ry : Dat K G y d) : ∀ {fs : List (Str × V)} {ks ks' : List Str} {xs xs' : List D}, FPut f d ks xs ks' xs' → fs.map (·.1) = ks → DatAll K G (fs.map (·.2)) xs → (putF f y fs).map (·.1) = ks' ∧ DatAll K G ((putF f y fs).map (·.2)) xs'
  | [], _, _, _, _, h, e, r => by cases e; cases h; exact ⟨rfl, .cons ry .nil⟩
  | (g, v) :: fs, _, _, _, _, h, e, r => by
    cases e
    cases h with
    | here =>
      cases r with
      | cons r1 r2 =>
        unfold putF
        rw [if_pos rfl]
        exact ⟨rfl, .cons ry r2⟩
    | there hne h =>
      cases r with
      | cons r1 r2 =>
        obtain ⟨h1, h2⟩ := FPut.put ry h rfl r2
        have : g ≠ f := fun z => by rw [z] at hne; simp at hne
        unfold putF
        rw [if_neg this]
        exact ⟨by rw [List.map_cons, h1], .cons r1 h2⟩
theorem look_none {f : Str} : ∀ {fs : List (Str × V)} {ks : List Str}, fs.map (·.1) = ks → f ∉ ks → fs.lookup f = none
  | [], _, _, _ => rfl
  | (g, v) :: fs, _, e, h => by
    cases e
    have h1 : f ≠ g := fun z => h (by simp [z])
    rw [List.lookup_cons, beq_eq_false_iff_ne.mpr h1]
    exact look_none rfl fun z => h (by simp at z ⊢; exact .inr z)
end
/-- an instance: a cell, or frozen -/
def insD (C : CS) : D → Option (Addr × List Str × List D)
  | .obj Cl ks xs => some (Cl, ks, xs)
  | .own a => match C a with
    | some (.ins Cl ks xs) => some (Cl, ks, xs)
    | _ => none
  | _ => none
theorem insD_own {C : CS} {a Cl : Addr} {ks : List Str} {xs : List D} (h : C a = some (.ins Cl ks xs)) : insD C (.own a) = some (Cl, ks, xs) := by unfold insD; simp only [h]
theorem Wld.ins {K : PySem.W.Frag} {G H : Hp} {C : CS} {v : V} {d : D} {Cl : Addr} {ks : List Str} {xs : List D} (w : Wld K G C H) (r : Dat K G v d) (e : insD C d = some (Cl, ks, xs)) : ∃ a dx fs, v = .ref a ∧ H a = some (.ins Cl dx fs) ∧ fs.map (·.1) = ks ∧ DatAll K G (fs.map (·.2)) xs := by
  cases r with
  | obj a b c => simp [insD] at e; obtain ⟨rfl, rfl, rfl⟩ := e; exact ⟨_, _, _, rfl, w.ex _ _ a, b, c⟩
  | own a =>
    unfold insD at e
    cases q : C a with
    | none => simp [q] at e
    | some c =>
      cases c with
      | ins Cl' ks' xs' =>
        simp [q] at e
        obtain ⟨rfl, rfl, rfl⟩ := e
        obtain ⟨_, dx, fs, h1, h2, h3⟩ := w.cell a _ q
        exact ⟨a, dx, fs, rfl, h1, h2, h3⟩
      | _ => simp [q] at e
  | _ => simp [insD] at e
/-- an instance's cell is frozen -/
theorem Wld.freezeI {K : PySem.W.Frag} {G H : Hp} {C : CS} {p Cl : Addr} {ks : List Str} {xs : List D} (w : Wld K G C H) (h : C p = some (.ins Cl ks xs)) : ∃ G', Wld K G' (del C p) H ∧ Fr G C H G' (del C p) H ∧ Dat K G' (.ref p) (.obj Cl ks xs) := by
  obtain ⟨g, dx, fs, e, r1, r2⟩ := w.cell p _ h
  have sG : Same G (upd G p (.ins Cl dx fs)) := fun b u e => by rw [upd_ne (ne_of_none e g)]; exact e
  refine ⟨upd G p (.ins Cl dx fs), ⟨fun b u q => ?_, fun b c q => ?_⟩, ⟨sG, fun _ _ h _ => h, fun _ h => h, fun b _ k => ?_, fun b _ k => ?_⟩, .obj upd_same r1 (r2.mono sG)⟩
  · by_cases z : b = p
    · subst z; rw [upd_same] at q; rw [e]; exact q
    · rw [upd_ne z] at q; exact w.ex b u q
  · have ne : b ≠ p := fun z => by subst z; rw [del_same] at q; cases q
    rw [del_ne ne] at q
    obtain ⟨h1, h2⟩ := w.cell b c q
    exact ⟨by rw [upd_ne ne]; exact h1, h2.mono sG rfl⟩
  · by_cases z : b = p
    · subst z; rw [h]; simp
    · rw [del_ne z] at k; exact k
  · by_cases z : b = p
    · subst z; right; rw [h]; simp
    · rw [upd_ne z] at k; exact .inl k
def FldC (K : PySem.W.Frag) (Cl : Addr) (f : Str) : Prop := Cls K Cl ∧ NoAttr K Cl f
/-- a def by its address; dfl: what fills up the parameters -/
def FnA (P : Program) (w : World) (K : PySem.W.Frag) (mg : Str → Option Value) (base : Heap) (f : Addr) (n : Nat) (dfl : List D) (S : DSp) : Prop :=
  ∃ (fd : FuncData) (ps : List Str) (ds : List Value) (dvs : List V), FnG P w K mg base CX0 n f fd ps (toSp K S) ∧ Binds K fd ps ds ∧ Vals dvs ds ∧ ∀ G, DatAll K G dvs dfl
def MthC (P : Program) (w : World) (K : PySem.W.Frag) (mg : Str → Option Value) (base : Heap) (Cl : Addr) (m : Str) (n : Nat) (dfl : List D) (S : DSp) : Prop := Cls K Cl ∧ ∃ f, Meth K Cl m f ∧ FnA P w K mg base f n dfl S
def MakC (P : Program) (w : World) (K : PySem.W.Frag) (mg : Str → Option Value) (base : Heap) (x : Str) (Cl : Addr) (n : Nat) (dfl : List D) (S : DSp) : Prop := mg x = some (.ref Cl) ∧ ∃ f, Mk K Cl f ∧ FnA P w K mg base f n dfl S
def PrpC (P : Program) (w : World) (K : PySem.W.Frag) (mg : Str → Option Value) (base : Heap) (Cl : Addr) (m : Str) (n : Nat) (S : DSp) : Prop := Cls K Cl ∧ ∃ p f, PropOf K Cl m p f ∧ FnA P w K mg base f n [] S
section
variable {P : Program} {w : World} {K : PySem.W.Frag} {mg : Str → Option Value} {base : Heap} {j n : Nat} {X : Cx} {Cl : Addr} {m f x : Str} {S : DSp} {dfl : List D} {e o v : Expr} {es : List Expr} {env : DEnv} {C : CS} {k : KD} {pos p apos pos' : Pos} {E : DEnds}
theorem toSp_ok {G G' : Hp} {C' : CS} {H' : Hp} {vs dvs : List V} {ds : List D} {Q : VK} {X0 : XK} {C0 : CS} {H0 : Hp} (w1 : Wld K G' C' H') (r : DatAll K G' vs ds) (rd : ∀ G, DatAll K G dvs dfl) (f1 : Fr G C0 H0 G' C' H') (q : Kont K G C0 H0 k Q) (z : S (ds ++ dfl) C' k) : toSp K S (vs ++ dvs) H' Q X0 :=
  ⟨G', C', ds ++ dfl, k, w1, r.append (rd G'), z, q.after f1⟩
theorem x_fld (hx : Ctx P w K mg base j X) (h : WE X e env C fun d C1 => ∃ Cl ks xs v, insD C1 d = some (Cl, ks, xs) ∧ FldC K Cl f ∧ FGet ks xs f v ∧ k v C1) (hb : attributeBase e f X.env (eval e X.env) = eval e X.env := by rfl) : WE X (.Attribute e f pos) env C k :=
  .of (pe_fld pe_tS hb) fun G σ H Q w er q => h G σ H _ w er fun u G1 C1 H1 d f1 w1 r1 z => by
    obtain ⟨Cl, ks, xs, v, hi, ⟨hc, hn⟩, hg, hk⟩ := z
    obtain ⟨a, dx, fs, rfl, h1, h2, h3⟩ := w1.ins r1 hi
    obtain ⟨v', g1, g2⟩ := hg.look h2 h3
    exact ⟨a, Cl, dx, fs, v', rfl, h1, by rw [hx.K]; exact hc, by rw [hx.K]; exact hn, g1, q _ _ _ _ _ f1 w1 g2 hk⟩
theorem x_setFld (hx : Ctx P w K mg base j X) (h : WE X v env C fun y C1 => WE X o env C1 fun d C2 => ∃ p Cl ks xs ks' xs', d = .own p ∧ C2 p = some (.ins Cl ks xs) ∧ FldC K Cl f ∧ ks.length < 1000 ∧ FPut f y ks xs ks' xs' ∧ E.nx env (put C2 p (.ins Cl ks' xs')))
    (hs : swapsWith v (some (.Attribute o f pos')) pos.line X.env = pure false := by rfl) : WS X (.Assign [.Attribute o f pos'] v pos) env C E :=
  .of (ps_fld pe_tS pe_tS hs) fun G σ H D w er q => h G σ H _ w er fun y' G1 C1 H1 y f1 w1 r1 h1 => h1 G1 σ H1 _ w1 (er.mono f1.exG) fun o' G2 C2 H2 d f2 w2 r2 z => by
    obtain ⟨p, Cl, ks, xs, ks', xs', rfl, hp, ⟨hc, hn⟩, hl, hput, hk⟩ := z
    cases r2
    obtain ⟨_, dx, fs, g1, g2, g3⟩ := w2.cell p _ hp
    obtain ⟨u1, u2⟩ := hput.put (r1.mono f2.exG) g2 g3
    obtain ⟨w3, f3⟩ := w2.write hp (o := .ins Cl dx (putF f y' fs)) (c' := .ins Cl ks' xs') fun H' e => ⟨dx, _, e, u1, u2⟩
    exact ⟨p, Cl, dx, fs, rfl, g1, by rw [hx.K]; exact hc, by rw [hx.K]; exact hn, by rw [← List.length_map (f := (·.1)), g2]; exact hl, q.nx _ _ _ _ _ ((f1.trans f2).trans f3) w3 (er.mono ((f1.trans f2).trans f3).exG) hk⟩
theorem x_meth (hx : Ctx P w K mg base j X) (hM : MthC P w K mg base Cl m n dfl S) (h : WE X o env C fun d C1 => (∃ ks xs, insD C1 d = some (Cl, ks, xs) ∧ m ∉ ks) ∧ WA X (e :: es) env C1 fun ds C2 => S (d :: (ds ++ dfl)) C2 k) (hle : n ≤ j := by decide)
    (hst : starEach (e :: es) X.env = (false, eval e X.env) :: starEach es X.env := by rfl) (hpl : (backTo pos (starEach es X.env)).any (·.1) = false := by rfl) {pl : Sem Bool}
    (ht : eval (.Call (.Attribute o m apos) (e :: es) [] pos) X.env = (do
      let ov ← eval o X.env
      standAt apos.atName
      let (f, first) ← holding [ov] (getMethod ov m pl)
      callWith pos f first (backTo pos (starEach (e :: es) X.env)) (backToKw pos (keywordEach [] X.env))) := by rfl) : WE X (.Call (.Attribute o m apos) (e :: es) [] pos) env C k := by
  obtain ⟨hc, fa, hm, fd, ps, ds, dvs, F, hb, hd, hdat⟩ := hM
  have hroom := hx.room
  obtain ⟨e1, e2, e3, e4, e5, _, hgd, hcalm⟩ := hx
  subst e1 e2 e3 e4 e5
  refine .of (pe_methG pe_tS hc hm F hgd (hroom.mono hle) hb hd pass0 pa_tAr hst hpl ht) fun G σ H Q w er q => h G σ H _ w er fun u G1 C1 H1 d f1 w1 r1 z => ?_
  obtain ⟨⟨ks, xs, hi, hnk⟩, z⟩ := z
  obtain ⟨a, dx, fs, rfl, h1, h2, h3⟩ := w1.ins r1 hi
  refine ⟨a, dx, fs, rfl, h1, look_none h2 hnk, z G1 σ H1 _ w1 (er.mono f1.exG) fun vs G2 C2 H2 ds2 f2 w2 r2 zz => ?_⟩
  exact toSp_ok (ds := d :: ds2) w2 (.cons (r1.mono f2.exG) r2) hdat (f1.trans f2) q zz
theorem x_meth0 (hx : Ctx P w K mg base j X) (hM : MthC P w K mg base Cl m n dfl S) (h : WE X o env C fun d C1 => (∃ ks xs, insD C1 d = some (Cl, ks, xs) ∧ m ∉ ks) ∧ S (d :: dfl) C1 k) (hle : n ≤ j := by decide) {pl : Sem Bool}
    (ht : eval (.Call (.Attribute o m apos) [] [] pos) X.env = (do
      let ov ← eval o X.env
      standAt apos.atName
      let (f, first) ← holding [ov] (getMethod ov m pl)
      callWith pos f first (backTo pos (starEach [] X.env)) (backToKw pos (keywordEach [] X.env))) := by rfl) : WE X (.Call (.Attribute o m apos) [] [] pos) env C k := by
  obtain ⟨hc, fa, hm, fd, ps, ds, dvs, F, hb, hd, hdat⟩ := hM
  have hroom := hx.room
  obtain ⟨e1, e2, e3, e4, e5, _, hgd, hcalm⟩ := hx
  subst e1 e2 e3 e4 e5
  refine .of (pe_methG0 pe_tS hc hm F hgd (hroom.mono hle) hb hd pass0 ht) fun G σ H Q w er q => h G σ H _ w er fun u G1 C1 H1 d f1 w1 r1 z => ?_
  obtain ⟨⟨ks, xs, hi, hnk⟩, z⟩ := z
  obtain ⟨a, dx, fs, rfl, h1, h2, h3⟩ := w1.ins r1 hi
  exact ⟨a, dx, fs, rfl, h1, look_none h2 hnk, toSp_ok (ds := [d]) (vs := [.ref a]) (X0 := E0) w1 (.cons r1 .nil) hdat f1 q z⟩
theorem made_ok {G H : Hp} {a dx : Addr} (w1 : Wld K G C H) (ha : H a = none) (hd : H dx = none) (hne : dx ≠ a) : Wld K G (put C a (.ins Cl [] [])) (upd (upd H dx (.own a)) a (.ins Cl dx [])) ∧ Fr G C H G (put C a (.ins Cl [] [])) (upd (upd H dx (.own a)) a (.ins Cl dx [])) := by
  have w2 : Wld K G C (upd H dx (.own a)) := by
    obtain ⟨g, c⟩ := w1.ne hd
    exact ⟨fun b o e => by rw [upd_ne (ne_of_none e g)]; exact w1.ex b o e, fun b c' e => by
      obtain ⟨h1, h2⟩ := w1.cell b c' e
      exact ⟨h1, h2.mono (fun _ _ h => h) (upd_ne (cell_ne e c))⟩⟩
  have f2 : Fr G C H G C (upd H dx (.own a)) := Fr.fresh hd
  have ha2 : upd H dx (.own a) a = none := by rw [upd_ne hne.symm]; exact ha
  obtain ⟨w3, f3⟩ := w2.newC ha2 (o := .ins Cl dx []) (c := .ins Cl [] []) fun H' e => ⟨dx, [], e, rfl, .nil⟩
  exact ⟨w3, f2.trans f3⟩
theorem x_make (hx : Ctx P w K mg base j X) (hM : MakC P w K mg base x Cl n dfl S) (hg : Gl X x) (h : WA X (e :: es) env C fun ds C1 => ∀ a, C1 a = none → S (.own a :: (ds ++ dfl)) (put C1 a (.ins Cl [] [])) fun d C2 => d = .non ∧ k (.own a) C2) (hle : n + 1 ≤ j := by decide)
    (hdb : (x == ("__debug__" : Str)) = false := by decide) (he : starEach (e :: es) X.env = (false, eval e X.env) :: starEach es X.env := by rfl) (hpl : (backTo pos (starEach es X.env)).any (·.1) = false := by rfl) : WE X (.Call (.Name x p) (e :: es) [] pos) env C k := by
  obtain ⟨hmg, fa, hm, fd, ps, ds, dvs, F, hb, hd, hdat⟩ := hM
  have hroom := hx.room
  obtain ⟨e1, e2, e3, e4, e5, _, hgd, hcalm⟩ := hx
  subst e1 e2 e3 e4 e5
  refine .of (pe_makeG hm F hgd (hroom.mono hle) hg hmg hb hd pass0 pa_tAr hdb he hpl) fun G σ H Q w er q => h G σ H _ w er fun vs G1 C1 H1 ds1 f1 w1 r1 z => fun a dx ha hdx hne => ?_
  obtain ⟨w3, f3⟩ := made_ok (Cl := Cl) w1 ha hdx hne
  refine toSp_ok (ds := .own a :: ds1) (vs := .ref a :: vs) (k := fun d C2 => d = .non ∧ k (.own a) C2) w3 (.cons (.own a) (r1.mono f3.exG)) hdat (Fr.refl ..) ?_ (z a (w1.ne ha).2)
  rintro v G2 C2 H2 d f2 w2 r2 ⟨rfl, zk⟩
  cases r2
  exact ⟨rfl, q _ _ _ _ _ ((f1.trans f3).trans f2) w2 (.own a) zk⟩
theorem x_make0 (hx : Ctx P w K mg base j X) (hM : MakC P w K mg base x Cl n dfl S) (hg : Gl X x) (h : ∀ a, C a = none → S (.own a :: dfl) (put C a (.ins Cl [] [])) fun d C2 => d = .non ∧ k (.own a) C2) (hle : n + 1 ≤ j := by decide)
    (hdb : (x == ("__debug__" : Str)) = false := by decide) : WE X (.Call (.Name x p) [] [] pos) env C k := by
  obtain ⟨hmg, fa, hm, fd, ps, ds, dvs, F, hb, hd, hdat⟩ := hM
  have hroom := hx.room
  obtain ⟨e1, e2, e3, e4, e5, _, hgd, hcalm⟩ := hx
  subst e1 e2 e3 e4 e5
  refine .of (pe_makeG0 hm F hgd (hroom.mono hle) hg hmg hb hd pass0 hdb) fun G σ H Q w1 er q => fun a dx ha hdx hne => ?_
  obtain ⟨w3, f3⟩ := made_ok (Cl := Cl) w1 ha hdx hne
  refine toSp_ok (ds := [.own a]) (vs := [.ref a]) (k := fun d C2 => d = .non ∧ k (.own a) C2) w3 (.cons (.own a) .nil) hdat (Fr.refl ..) ?_ (h a (w1.ne ha).2)
  rintro v G2 C2 H2 d f2 w2 r2 ⟨rfl, zk⟩
  cases r2
  exact ⟨rfl, q _ _ _ _ _ (f3.trans f2) w2 (.own a) zk⟩
theorem x_prop (hx : Ctx P w K mg base j X) (hn : Nox X) (hM : PrpC P w K mg base Cl f n S) (h : WE X e env C fun d C1 => (∃ ks xs, insD C1 d = some (Cl, ks, xs)) ∧ S [d] C1 k) (hle : n + 1 ≤ j := by decide)
    (hab : attributeBase e f X.env (eval e X.env) = eval e X.env := by rfl) : WE X (.Attribute e f pos) env C k := by
  obtain ⟨hc, pa, fa, hm, fd, ps, ds, dvs, F, hb, hd, hdat⟩ := hM
  have hroom := hx.room
  obtain ⟨e1, e2, e3, e4, e5, _, hgd, hcalm⟩ := hx
  subst e1 e2 e3 e4 e5
  refine .of (pe_propG pe_tS hc hm F hgd (hroom.mono hle) hb hd pass0 hab) fun G σ H Q w er q => h G σ H _ w er fun u G1 C1 H1 d f1 w1 r1 z => ?_
  obtain ⟨⟨ks, xs, hi⟩, z⟩ := z
  obtain ⟨a, dx, fs, rfl, h1, h2, h3⟩ := w1.ins r1 hi
  have := toSp_ok (ds := [d]) (vs := [.ref a]) (X0 := E0) w1 (.cons r1 .nil) hdat f1 q (by simpa using z)
  exact ⟨a, dx, fs, rfl, h1, this⟩
end
end DL
/-! DLw: dicts by data (keys ints and texts). -/
namespace DL
open PySem PySem.Spec PyProof.Rows L2
/-- a key as data -/
def kD : Key → D
  | .inl i => .int i
  | .inr s => .str s
def valD (kvs : List (Key × D)) (k : Key) : Option D := (kvs.find? fun kv => decide (kv.1 = k)).map (·.2)
def putD (kvs : List (Key × D)) (k : Key) (v : D) : List (Key × D) :=
  if (kvs.any fun kv => decide (kv.1 = k)) = true then kvs.map (fun kv => if kv.1 = k then (kv.1, v) else kv) else kvs ++ [(k, v)]
def dropD (kvs : List (Key × D)) (k : Key) : List (Key × D) := kvs.filter fun kv => decide (kv.1 ≠ k)
section
variable {K : PySem.W.Frag} {G H : Hp} {C : CS}
theorem dat_key {v : V} {k : Key} (r : Dat K G v (kD k)) : v = kV k := by
  cases k <;> (cases r; rfl)
theorem rel_val {k : Key} : ∀ {kw : List (Key × V)} {kvs : List (Key × D)}, kw.map (·.1) = kvs.map (·.1) → DatAll K G (kw.map (·.2)) (kvs.map (·.2)) → (valD kvs k = none → valV kw k = none) ∧ (∀ d, valD kvs k = some d → ∃ v, valV kw k = some v ∧ Dat K G v d) ∧ (valV kw k).isSome = (valD kvs k).isSome
  | [], [], _, _ => ⟨fun _ => rfl, fun d h => (by cases h), rfl⟩
  | (a, v) :: kw, (b, d) :: kvs, e, r => by
    simp only [List.map_cons, List.cons.injEq] at e
    obtain ⟨rfl, e⟩ := e
    cases r with
    | cons r1 r2 =>
      obtain ⟨h1, h2, h3⟩ := rel_val (k := k) e r2
      by_cases hk : a = k
      · have e1 : valV ((a, v) :: kw) k = some v := valV_pos (p := (a, v)) hk
        have e2 : valD ((a, d) :: kvs) k = some d := by simp [valD, List.find?_cons, hk]
        refine ⟨fun z => (by rw [e2] at z; cases z), fun d' z => ?_, by rw [e1, e2]; rfl⟩
        rw [e2] at z; cases z
        exact ⟨v, e1, r1⟩
      · have e1 : valV ((a, v) :: kw) k = valV kw k := valV_neg (p := (a, v)) hk
        have e2 : valD ((a, d) :: kvs) k = valD kvs k := by simp [valD, List.find?_cons, hk]
        rw [e1, e2]
        exact ⟨h1, h2, h3⟩
  | [], _ :: _, e, _ => by simp at e
  | _ :: _, [], e, _ => by simp at e
theorem any_rel {k : Key} : ∀ {kw : List (Key × V)} {kvs : List (Key × D)}, kw.map (·.1) = kvs.map (·.1) → (kw.any fun kv => decide (kv.1 = k)) = (kvs.any fun kv => decide (kv.1 = k))
  | [], [], _ => rfl
  | (a, v) :: kw, (b, d) :: kvs, e => by
    simp only [List.map_cons, List.cons.injEq] at e
    obtain ⟨rfl, e⟩ := e
    rw [List.any_cons, List.any_cons, any_rel e]
  | [], _ :: _, e => by simp at e
  | _ :: _, [], e => by simp at e
theorem map_rel {k : Key} {y : V} {z : D} (rz : Dat K G y z) : ∀ {kw : List (Key × V)} {kvs : List (Key × D)}, kw.map (·.1) = kvs.map (·.1) → DatAll K G (kw.map (·.2)) (kvs.map (·.2)) →
    (kw.map fun kv => if kv.1 = k then (kv.1, y) else kv).map (·.1) = (kvs.map fun kv => if kv.1 = k then (kv.1, z) else kv).map (·.1) ∧ DatAll K G ((kw.map fun kv => if kv.1 = k then (kv.1, y) else kv).map (·.2)) ((kvs.map fun kv => if kv.1 = k then (kv.1, z) else kv).map (·.2))
  | [], [], _, _ => ⟨rfl, .nil⟩
  | (a, v) :: kw, (b, d) :: kvs, e, r => by
    simp only [List.map_cons, List.cons.injEq] at e
    obtain ⟨rfl, e⟩ := e
    cases r with
    | cons r1 r2 =>
      obtain ⟨h1, h2⟩ := map_rel (k := k) rz e r2
      by_cases hk : a = k
      · subst hk
        simp only [List.map_cons, if_true]
        exact ⟨by rw [h1], .cons rz h2⟩
      · simp only [List.map_cons, hk, if_false]
        exact ⟨by rw [h1], .cons r1 h2⟩
  | [], _ :: _, e, _ => by simp at e
  | _ :: _, [], e, _ => by simp at e
theorem put_rel {k : Key} {y : V} {z : D} (rz : Dat K G y z) {kw : List (Key × V)} {kvs : List (Key × D)} (e : kw.map (·.1) = kvs.map (·.1)) (r : DatAll K G (kw.map (·.2)) (kvs.map (·.2))) : (L2.putK kw k y).map (·.1) = (putD kvs k z).map (·.1) ∧ DatAll K G ((L2.putK kw k y).map (·.2)) ((putD kvs k z).map (·.2)) := by
  unfold L2.putK putD
  rw [any_rel e]
  split
  · exact map_rel rz e r
  · rw [List.map_append, List.map_append, List.map_append, List.map_append, e]
    exact ⟨rfl, r.append (.cons rz .nil)⟩
theorem drop_rel {k : Key} : ∀ {kw : List (Key × V)} {kvs : List (Key × D)}, kw.map (·.1) = kvs.map (·.1) → DatAll K G (kw.map (·.2)) (kvs.map (·.2)) → (dropK kw k).map (·.1) = (dropD kvs k).map (·.1) ∧ DatAll K G ((dropK kw k).map (·.2)) ((dropD kvs k).map (·.2))
  | [], [], _, _ => ⟨rfl, .nil⟩
  | (a, v) :: kw, (b, d) :: kvs, e, r => by
    simp only [List.map_cons, List.cons.injEq] at e
    obtain ⟨rfl, e⟩ := e
    cases r with
    | cons r1 r2 =>
      obtain ⟨h1, h2⟩ := drop_rel (k := k) e r2
      unfold dropK dropD at *
      by_cases hk : a = k
      · rw [List.filter_cons_of_neg (by simp [hk]), List.filter_cons_of_neg (by simp [hk])]
        exact ⟨h1, h2⟩
      · rw [List.filter_cons_of_pos (by simp [hk]), List.filter_cons_of_pos (by simp [hk]), List.map_cons, List.map_cons, List.map_cons, List.map_cons, h1]
        exact ⟨rfl, .cons r1 h2⟩
  | [], _ :: _, e, _ => by simp at e
  | _ :: _, [], e, _ => by simp at e
theorem Wld.dic {v : V} {a : Addr} {kvs : List (Key × D)} (w : Wld K G C H) (r : Dat K G v (.own a)) (e : C a = some (.dic kvs)) : v = .ref a ∧ ∃ kw : List (Key × V), H a = some (.dK kw) ∧ kw.map (·.1) = kvs.map (·.1) ∧ DatAll K G (kw.map (·.2)) (kvs.map (·.2)) := by
  cases r
  obtain ⟨_, kw, h1, h2, h3⟩ := w.cell a _ e
  exact ⟨rfl, kw, h1, h2, h3⟩
end
/-! ### d[k], lists and dicts alike -/
def rIxD : R2 := fun x y H Q => ∃ a v, x = .ref a ∧ DGet H a y (some v) ∧ Q v H
theorem ix_dict {X : Cx} (hu : X.A.units + 1 < cLine) : IxR X rIxD := by
  intro value slice pins s σ H x y v u Q I rx ry h hs
  obtain ⟨a, z, rfl, g, q⟩ := h
  obtain rfl : v = Value.ref a := rx
  have hT := dict_typeIs I g
  have h2 : wpAny (model X.prog X.w) X.A (getItem (.ref a) u) (EP X pins σ Q) X.xe s := d_getItem hu I g ry fun w' s3 I3 rw' => ⟨z, H, I3, rw', q⟩
  unfold subscriptTail
  refine wpAny_bind ?_
  rw [getitemInPython_of_ne hT.not_modules]
  refine wpAny_bind (wpAny_specialOf hT PySem.F.slot_dict_getitem.lookup ?_)
  have fin : wpAny (model X.prog X.w) X.A (subscripted slice false (.ref a) u) (fun r s₃ => wpAny (model X.prog X.w) X.A (letTemporaryGo value (.ref a) r >>= fun _ => pure r) (EP X pins σ Q) X.xe s₃) X.xe s := by
    rw [hs]
    exact wpAny_operating (wpAny_mono h2 (fun r s₃ h₃ => wpAny_bind (wpAny_letTemporaryGo (wpAny_pure h₃))) fun _ _ x => x)
  first
    | exact wpAny_pure (wpAny_bind fin)
    | exact wpAny_bind (wpAny_pure (wpAny_bind fin))
    | exact wpAny_bind fin
theorem IxR.or {X : Cx} {r r' : R2} (h : IxR X r) (h' : IxR X r') : IxR X fun x y H Q => r x y H Q ∨ r' x y H Q := by
  intro value slice pins s σ H x y v u Q I rx ry hq hs
  rcases hq with hq | hq
  · exact h value slice pins s σ H x y v u Q I rx ry hq hs
  · exact h' value slice pins s σ H x y v u Q I rx ry hq hs
def dGetD : OpD := fun x y C k => ∃ a kvs ky d, x = .own a ∧ y = kD ky ∧ C a = some (.dic kvs) ∧ valD kvs ky = some d ∧ k d C
def dIxD : OpD := fun x y C k => dIx x y C k ∨ dGetD x y C k
theorem r2_ixD {K : PySem.W.Frag} : R2D K (fun x y H Q => rIx K x y H Q ∨ rIxD x y H Q) dIxD := by
  rintro x y a b G C H k Q w da db (h | ⟨p, kvs, ky, d, rfl, rfl, hp, hv, hk⟩) q
  · exact .inl (r2_ix x y a b G C H k Q w da db h q)
  · obtain ⟨rfl, kw, h1, h2, h3⟩ := w.dic da hp
    obtain rfl := dat_key db
    obtain ⟨_, g2, _⟩ := rel_val (k := ky) h2 h3
    obtain ⟨v, e, r⟩ := g2 d hv
    refine .inr ⟨p, v, rfl, ?_, q _ _ _ _ _ (Fr.refl ..) w r hk⟩
    rw [← e]
    exact DGet.k h1
/-! ### in -/
def rInDk (neg : Bool) : R2 := fun y x H Q => ∃ a o, x = .ref a ∧ DGet H a y o ∧ Q (.bl (if neg = true then !o.isSome else o.isSome)) H
theorem op_inDk {X : Cx} (hu : X.A.units + 1 < cLine) : OpR X (compareOp .In) (rInDk false) := by
  rintro pins s σ H y x u v Q I ry rx ⟨a, o, rfl, g, q⟩
  obtain rfl : v = Value.ref a := rx
  exact d_in hu I g ry fun s3 I3 => ⟨.bl o.isSome, H, I3, rfl, q⟩
theorem op_ninDk {X : Cx} (hu : X.A.units + 1 < cLine) : OpR X (compareOp .NotIn) (rInDk true) := by
  rintro pins s σ H y x u v Q I ry rx ⟨a, o, rfl, g, q⟩
  obtain rfl : v = Value.ref a := rx
  exact d_notIn hu I g ry fun s3 I3 => ⟨.bl (!o.isSome), H, I3, rfl, q⟩
def dInDk (neg : Bool) : OpD := fun y x C k => ∃ a kvs ky, x = .own a ∧ y = kD ky ∧ C a = some (.dic kvs) ∧ k (.bl (if neg = true then !(valD kvs ky).isSome else (valD kvs ky).isSome)) C
theorem r2_inDk {K : PySem.W.Frag} {neg : Bool} : R2D K (rInDk neg) (dInDk neg) := by
  rintro y x b a G C H k Q w db da ⟨p, kvs, ky, rfl, rfl, hp, hk⟩ q
  obtain ⟨rfl, kw, h1, h2, h3⟩ := w.dic da hp
  obtain rfl := dat_key db
  obtain ⟨_, _, g3⟩ := rel_val (k := ky) h2 h3
  refine ⟨p, valV kw ky, rfl, DGet.k h1, ?_⟩
  rw [g3]
  exact q _ _ _ _ _ (Fr.refl ..) w (.bl _) hk
def dInX (neg : Bool) : OpD := fun x y C k => dIn neg x y C k ∨ dInDk neg x y C k
theorem OpD.or {K : PySem.W.Frag} {r r' : R2} {p p' : OpD} (h : R2D K r p) (h' : R2D K r' p') : R2D K (fun x y H Q => r x y H Q ∨ r' x y H Q) fun x y C k => p x y C k ∨ p' x y C k := by
  rintro x y a b G C H k Q w da db (z | z) q
  · exact .inl (h x y a b G C H k Q w da db z q)
  · exact .inr (h' x y a b G C H k Q w da db z q)
/-! ### d[k] = v -/
def rSetD : TSet := fun x i v H Q => ∃ a H', x = .ref a ∧ DPut H a i v H' ∧ Q H'
theorem set_dict {X : Cx} (hu : X.A.units + 1 < cLine) : PSet X rSetD := by
  intro pins s σ H o i v ov iv u Q I ro ri rv h
  obtain ⟨a, H', rfl, g, q⟩ := h
  obtain rfl : ov = Value.ref a := ro
  exact d_setItem hu I g ri rv fun s4 I4 => ⟨H', I4, q⟩
theorem PSet.or {X : Cx} {t t' : TSet} (h : PSet X t) (h' : PSet X t') : PSet X fun x i v H Q => t x i v H Q ∨ t' x i v H Q := by
  intro pins s σ H o i v ov iv u Q I ro ri rv hq
  rcases hq with hq | hq
  · exact h pins s σ H o i v ov iv u Q I ro ri rv hq
  · exact h' pins s σ H o i v ov iv u Q I ro ri rv hq
def dSetX (x y d : D) (C : CS) (kC : CS → Prop) : Prop := (∃ p n xs j, x = .own p ∧ y = .int n ∧ C p = some (.lst xs) ∧ ixN xs.length n = some j ∧ kC (put C p (.lst (xs.set j d)))) ∨
  ∃ p kvs ky, x = .own p ∧ y = kD ky ∧ C p = some (.dic kvs) ∧ kvs.length < sizeLine ∧ kC (put C p (.dic (putD kvs ky d)))
section
variable {P : Program} {w : World} {K : PySem.W.Frag} {mg : Str → Option Value} {base : Heap} {j n : Nat} {X : Cx} {a b e o i : Expr} {es : List Expr} {env : DEnv} {C : CS} {k : KD} {kb : Bool → CS → Prop} {pos p apos cpos tpos p0 : Pos} {E : DEnds}
theorem Ctx.hu (hx : Ctx P w K mg base j X) : X.A.units + 1 < cLine := by have := hx.room.units; have := hx.room.un; omega
theorem x_ixD (hx : Ctx P w K mg base j X) (h : WE X a env C fun x C1 => WE X b env C1 fun y C2 => dIxD x y C2 k) (hs : PlainIx b := by intro _ _; rfl) : WE X (.Subscript a b pos) env C k := .of (pe_ix (IxR.or ix_seq (ix_dict hx.hu)) pe_tS pe_tS hs) (ev_op r2_ixD h)
theorem x_inX (hx : Ctx P w K mg base j X) (h : WE X a env C fun x C1 => WE X b env C1 fun y C2 => dInX false x y C2 k) (hm : behindInMarks .In b = false := by rfl) : WE X (.Compare a [.In] [b] pos) env C k := we_cmp (OpR.or (OpR.or (op_inD (Room.u65 hx.room)) (OpR.or op_in_sign op_in_seq)) (op_inDk hx.hu)) (OpD.or r2_in r2_inDk) h hm
theorem xt_inX (hx : Ctx P w K mg base j X) (h : WE X a env C fun x C1 => WE X b env C1 fun y C2 => dInX false x y C2 (tb kb)) (hm : behindInMarks .In b = false := by rfl) : WT X (.Compare a [.In] [b] pos) env C kb := wt_cmp (OpR.or (OpR.or (op_inD (Room.u65 hx.room)) (OpR.or op_in_sign op_in_seq)) (op_inDk hx.hu)) (OpD.or r2_in r2_inDk) h hm
theorem x_ninX (hx : Ctx P w K mg base j X) (h : WE X a env C fun x C1 => WE X b env C1 fun y C2 => dInX true x y C2 k) (hm : behindInMarks .NotIn b = false := by rfl) : WE X (.Compare a [.NotIn] [b] pos) env C k := we_cmp (OpR.or (OpR.or (op_notInD (Room.u65 hx.room)) (OpR.or op_notIn_sign op_notIn_seq)) (op_ninDk hx.hu)) (OpD.or r2_nin r2_inDk) h hm
theorem xt_ninX (hx : Ctx P w K mg base j X) (h : WE X a env C fun x C1 => WE X b env C1 fun y C2 => dInX true x y C2 (tb kb)) (hm : behindInMarks .NotIn b = false := by rfl) : WT X (.Compare a [.NotIn] [b] pos) env C kb := wt_cmp (OpR.or (OpR.or (op_notInD (Room.u65 hx.room)) (OpR.or op_notIn_sign op_notIn_seq)) (op_ninDk hx.hu)) (OpD.or r2_nin r2_inDk) h hm
theorem set_dat {G H : Hp} {x i' v : V} {dx di dv : D} {kC : CS → Prop} {Q : Hp → Prop} (w1 : Wld K G C H) (rx : Dat K G x dx) (ri : Dat K G i' di) (rv : Dat K G v dv) (h : dSetX dx di dv C kC) (q : ∀ C' H', Fr G C H G C' H' → Wld K G C' H' → kC C' → Q H') : rSetL x i' v H Q ∨ rSetD x i' v H Q := by
  rcases h with ⟨p, n, xs, j, rfl, rfl, hp, hj, hk⟩ | ⟨p, kvs, ky, rfl, rfl, hp, hl, hk⟩
  · exact .inl (set_ok w1 hp rx ri rv hj fun H' f w' => q _ H' f w' hk)
  · obtain ⟨rfl, kw, h1, h2, h3⟩ := w1.dic rx hp
    obtain rfl := dat_key ri
    obtain ⟨g1, g2⟩ := put_rel (k := ky) rv h2 h3
    have hlen : kw.length = kvs.length := by rw [← List.length_map (f := (·.1)) (as := kw), h2, List.length_map]
    obtain ⟨w3, f3⟩ := w1.write hp (o := .dK (L2.putK kw ky v)) (c' := .dic (putD kvs ky dv)) fun H' e => ⟨_, e, g1, g2⟩
    exact .inr ⟨p, _, rfl, DPut.k h1 (by rw [hlen]; exact hl), q _ _ f3 w3 hk⟩
theorem x_setX (hx : Ctx P w K mg base j X) {d : D} {kE : DEnv → CS → Prop} (h : WE X o env C fun x C1 => WE X i env C1 fun y C2 => dSetX x y d C2 (kE env))
    (ha : ∀ v, assign (.Subscript o i pos) X.env v = (do
      let ov ← holding [v] (eval o X.env)
      let iv ← holding [v, ov] (eval i X.env)
      standAt pos
      holding [v, ov, iv] (setItem ov iv v)
      release [v, ov, iv] []) := by intro _; rfl) : WG X (.Subscript o i pos) d env C kE :=
  .of (pg_sub pe_tS pe_tS (PSet.or set_list (set_dict hx.hu)) ha) fun G σ H v Q w er r q => h G σ H _ w er fun x' G1 C1 H1 x f1 w1 r1 h1 => h1 G1 σ H1 _ w1 (er.mono f1.exG) fun y' G2 C2 H2 y f2 w2 r2 h2 =>
    set_dat w2 (r1.mono f2.exG) r2 (r.mono (f1.trans f2).exG) h2 fun C' H' f3 w3 hk => q _ _ _ _ _ ((f1.trans f2).trans f3) w3 (er.mono (f1.trans f2).exG) hk
/-- {} -/
theorem x_dnew (h : ∀ a, C a = none → k (.own a) (put C a (.dic []))) : WE X (.Dict [] [] pos) env C k := .of pe_dnewK fun G σ H Q w er q p hp => by
  obtain ⟨w3, f3⟩ := w.newC hp (o := .dK []) (c := .dic []) fun H' e => ⟨[], e, rfl, .nil⟩
  exact q _ _ _ _ _ f3 w3 (.own p) (h p (w.ne hp).2)
/-- d.get(k, x) -/
theorem x_dget2 (hx : Ctx P w K mg base j X) (h : WE X o env C fun x C1 => ∃ p kvs, x = .own p ∧ C1 p = some (.dic kvs) ∧ WE X a env C1 fun y C2 => WE X b env C2 fun z C3 => ∃ kvs ky, y = kD ky ∧ C3 p = some (.dic kvs) ∧ k ((valD kvs ky).getD z) C3)
    (m : M2 X o "get" apos a b cpos) : WE X (.Call (.Attribute o "get" apos) [a, b] [] cpos) env C k :=
  .of (pe_dget2 hx.hu pe_tS pe_tS pe_tS m) fun G σ H Q w er q => h G σ H _ w er fun x' G1 C1 H1 x f1 w1 r1 z => by
    obtain ⟨p, kvs, rfl, hp, z⟩ := z
    obtain ⟨rfl, kw, h1, h2, h3⟩ := w1.dic r1 hp
    refine ⟨p, rfl, .inl ⟨kw, .inl h1⟩, z G1 σ H1 _ w1 (er.mono f1.exG) fun y' G2 C2 H2 y f2 w2 r2 z2 => z2 G2 σ H2 _ w2 (er.mono (f1.trans f2).exG) fun z' G3 C3 H3 zd f3 w3 r3 z3 => ?_⟩
    obtain ⟨kvs', ky, rfl, hp', hk⟩ := z3
    obtain ⟨_, kw', g1, g2, g3⟩ := w3.dic (.own p) hp'
    have e := dat_key r2
    subst e
    obtain ⟨u1, u2, u3⟩ := rel_val (k := ky) g2 g3
    refine ⟨valV kw' ky, DGet.k g1, ?_⟩
    cases hv : valD kvs' ky with
    | none =>
      rw [u1 hv]
      rw [hv] at hk
      exact q _ _ _ _ _ ((f1.trans f2).trans f3) w3 r3 hk
    | some d =>
      obtain ⟨v, e1, e2⟩ := u2 d hv
      rw [e1]
      rw [hv] at hk
      exact q _ _ _ _ _ ((f1.trans f2).trans f3) w3 e2 hk
/-- d.pop(k), there -/
theorem x_dpop1 (h : WE X o env C fun x C1 => ∃ p kvs, x = .own p ∧ C1 p = some (.dic kvs) ∧ WE X a env C1 fun y C2 => ∃ kvs ky d, y = kD ky ∧ C2 p = some (.dic kvs) ∧ valD kvs ky = some d ∧ k d (put C2 p (.dic (dropD kvs ky))))
    (m : M1 X o "pop" apos a cpos) : WE X (.Call (.Attribute o "pop" apos) [a] [] cpos) env C k :=
  .of (pe_dpop1 pe_tS pe_tS m) fun G σ H Q w er q => h G σ H _ w er fun x' G1 C1 H1 x f1 w1 r1 z => by
    obtain ⟨p, kvs, rfl, hp, z⟩ := z
    obtain ⟨rfl, kw, h1, h2, h3⟩ := w1.dic r1 hp
    refine ⟨p, rfl, .inl ⟨kw, .inl h1⟩, z G1 σ H1 _ w1 (er.mono f1.exG) fun y' G2 C2 H2 y f2 w2 r2 z2 => ?_⟩
    obtain ⟨kvs', ky, d, rfl, hp', hv, hk⟩ := z2
    obtain ⟨_, kw', g1, g2, g3⟩ := w2.dic (.own p) hp'
    obtain rfl := dat_key r2
    obtain ⟨_, u2, _⟩ := rel_val (k := ky) g2 g3
    obtain ⟨v, e1, e2⟩ := u2 d hv
    obtain ⟨v1, v2⟩ := drop_rel (k := ky) g2 g3
    obtain ⟨w3, f3⟩ := w2.write hp' (o := .dK (dropK kw' ky)) (c' := .dic (dropD kvs' ky)) fun H' e => ⟨_, e, v1, v2⟩
    exact ⟨kw', ky, v, g1, rfl, e1, q _ _ _ _ _ ((f1.trans f2).trans f3) w3 e2 hk⟩
/-- del d[k] -/
theorem x_ddel (h : WE X o env C fun x C1 => WE X i env C1 fun y C2 => ∃ p kvs ky, x = .own p ∧ y = kD ky ∧ C2 p = some (.dic kvs) ∧ (valD kvs ky).isSome = true ∧ E.nx env (put C2 p (.dic (dropD kvs ky)))) : WS X (.Delete [.Subscript o i tpos] pos) env C E :=
  .of (ps_ddel pe_tS pe_tS) fun G σ H D w er q => h G σ H _ w er fun x' G1 C1 H1 x f1 w1 r1 h1 => h1 G1 σ H1 _ w1 (er.mono f1.exG) fun y' G2 C2 H2 y f2 w2 r2 z => by
    obtain ⟨p, kvs, ky, rfl, rfl, hp, hv, hk⟩ := z
    obtain ⟨rfl, kw, g1, g2, g3⟩ := w2.dic (r1.mono f2.exG) hp
    obtain rfl := dat_key r2
    obtain ⟨_, _, u3⟩ := rel_val (k := ky) g2 g3
    obtain ⟨v1, v2⟩ := drop_rel (k := ky) g2 g3
    obtain ⟨w3, f3⟩ := w2.write hp (o := .dK (dropK kw ky)) (c' := .dic (dropD kvs ky)) fun H' e => ⟨_, e, v1, v2⟩
    exact ⟨p, kw, ky, rfl, g1, rfl, by rw [u3]; exact hv, q.nx _ _ _ _ _ ((f1.trans f2).trans f3) w3 (er.mono ((f1.trans f2).trans f3).exG) hk⟩
end
/-! ### len, sorted, list of a dict -/
def dLenK : List D → CS → KD → Prop := fun ds C k => ∃ a kvs, ds = [.own a] ∧ C a = some (.dic kvs) ∧ k (.int (kvs.length : Nat)) C
theorem rl_lenK {K : PySem.W.Frag} : RLD K (fun xs H Q => ∃ a kvs, xs = [V.ref a] ∧ H a = some (.dK kvs) ∧ Q (.int kvs.length) H) dLenK := by
  rintro xs ds G C H k Q w rs ⟨a, kvs, rfl, hp, hk⟩ q
  cases rs with
  | cons r1 r2 =>
    cases r2
    obtain ⟨rfl, kw, h1, h2, _⟩ := w.dic r1 hp
    have hlen : kw.length = kvs.length := by rw [← List.length_map (f := (·.1)) (as := kw), h2, List.length_map]
    exact ⟨a, kw, rfl, h1, by rw [hlen]; exact q _ _ _ _ _ (Fr.refl ..) w (.int _) hk⟩
def dLenX : List D → CS → KD → Prop := fun ds C k => dLen ds C k ∨ dLenK ds C k
theorem CallR.or {X : Cx} {f : Value} {r r' : List V → Hp → VK → Prop} (h : CallR X f r) (h' : CallR X f r') : CallR X f fun xs H Q => r xs H Q ∨ r' xs H Q := by
  intro pins s σ H xs us Q I rv hq
  rcases hq with hq | hq
  · exact h pins s σ H xs us Q I rv hq
  · exact h' pins s σ H xs us Q I rv hq
theorem RLD.or {K : PySem.W.Frag} {r r' : List V → Hp → VK → Prop} {p p' : List D → CS → KD → Prop} (h : RLD K r p) (h' : RLD K r' p') : RLD K (fun xs H Q => r xs H Q ∨ r' xs H Q) fun ds C k => p ds C k ∨ p' ds C k := by
  rintro xs ds G C H k Q w rs (z | z) q
  · exact .inl (h xs ds G C H k Q w rs z q)
  · exact .inr (h' xs ds G C H k Q w rs z q)
/-- sorted(d), keys texts -/
def dSortedK : List D → CS → KD → Prop := fun ds C k => ∃ (a : Addr) (kvs : List (Key × D)) (ks : List Str), ds = [.own a] ∧ C a = some (.dic kvs) ∧ kvs.map (·.1) = ks.map Sum.inr ∧ ks.length < 64 ∧ ∀ ys p, ys.Perm ks → sortedS ys = true → C p = none → k (.own p) (put C p (.lst (ys.map D.str)))
theorem rl_sortedK {K : PySem.W.Frag} : RLD K (fun xs H Q => ∃ (a : Addr) (kvs : List (Key × V)) (ks : List Str), xs = [.ref a] ∧ Rd H a (.dK kvs) ∧ kvs.map (·.1) = ks.map Sum.inr ∧ ks.length < 64 ∧
    ∀ ys p, ys.Perm ks → sortedS ys = true → H p = none → Q (.ref p) (upd H p (.lst (ys.map V.str)))) dSortedK := by
  rintro xs ds G C H k Q w rs ⟨a, kvs, ks, rfl, hp, hks, h64, hk⟩ q
  cases rs with
  | cons r1 r2 =>
    cases r2
    obtain ⟨rfl, kw, h1, h2, _⟩ := w.dic r1 hp
    refine ⟨a, kw, ks, rfl, .inl h1, h2.trans hks, h64, fun ys p hperm hs hp => ?_⟩
    obtain ⟨w3, f3⟩ := w.newC hp (o := .lst (ys.map V.str)) (c := .lst (ys.map D.str)) fun H' e => ⟨_, e, datAll_strsI ys⟩
    exact q _ _ _ _ _ f3 w3 (.own p) (hk ys p hperm hs (w.ne hp).2)
section
variable {P : Program} {w : World} {K : PySem.W.Frag} {mg : Str → Option Value} {base : Heap} {j n : Nat} {X : Cx} {e : Expr} {es : List Expr} {env : DEnv} {C : CS} {k : KD} {pos p : Pos}
theorem x_lenX (hx : Ctx P w K mg base j X) (Z : Zs mg) (hg : Gl X "len") (h : WA X (e :: es) env C fun ds C1 => dLenX ds C1 k) (he : starEach (e :: es) X.env = (false, eval e X.env) :: starEach es X.env := by rfl) (hpl : (backTo pos (starEach es X.env)).any (·.1) = false := by rfl) : WE X (.Call (.Name "len" p) (e :: es) [] pos) env C k := we_cb (hx.zs Z).len (CallR.or call_len call_lenD) (RLD.or rl_len rl_lenK) hg bt_len h (he := he) (hpl := hpl)
theorem x_sortedK (hx : Ctx P w K mg base j X) (Z : Zs mg) (hg : Gl X "sorted") (h : WA X (e :: es) env C fun ds C1 => dSortedK ds C1 k) (he : starEach (e :: es) X.env = (false, eval e X.env) :: starEach es X.env := by rfl) (hpl : (backTo pos (starEach es X.env)).any (·.1) = false := by rfl) : WE X (.Call (.Name "sorted" p) (e :: es) [] pos) env C k := we_cb (hx.zs Z).sorted (call_sortedD hx.calm) rl_sortedK hg (by decide +kernel) h (he := he) (hpl := hpl)
end
end DL
/-! DLx: enumerate of a tuple; own __len__ and __contains__; strip with signs; dict of pairs. -/
namespace PySem
open Sem (wp)
open AutoSeq1 (wpAny_loadPart')
set_option maxHeartbeats 1000000 in
theorem meets_enumerate_newT {v : Value} {o : Obj} {H : Heap → Prop} (B : Begins v o H) :
    Meets (Builtin.«enumerate.__new__» ⟨[.type "enumerate", v], []⟩) (fun _ R s => H s.heap ∧
      R (.ok (.ret (.ref (s.heap.push o).objs.size))) { s with heap := (s.heap.push o).push { cls := .type "enumerate", data := .fields #[.none, .bool false, .ref s.heap.objs.size, rawInt 0, .none, .none] } }) :=
  .of_wp fun prog w A R s h => by
    obtain ⟨hp, g, d, tk, os⟩ := s; obtain ⟨h1, h⟩ := h
    have hsub := sub_enumerate
    have q1 : ∀ {A' : Around} {E : Value → Shared → Prop} {Q : Value → Shared → Prop}, Q (.ref hp.objs.size) ⟨hp.push o, g, d, tk, os⟩ → wpAny (model prog w) A' (pyIter v) Q E ⟨hp, g, d, tk, os⟩ :=
      fun q => B.iter prog w _ _ ⟨hp, g, d, tk, os⟩ _ h1 q
    wp_walk using q1
    refine wpAny_stack_any fun st => wpAny_pure ?_
    split
    · rename_i c _ _ _ _ _
      cases (c == Value.type "enumerate")
      · wp_walk using q1
        exact ⟨_, rfl, h⟩
      · wp_walk using q1
        exact ⟨_, rfl, h⟩
    · wp_walk using q1
      exact ⟨_, rfl, h⟩
section
variable {prog : Program} {w : World} {A : Around} {E : Value → Shared → Prop} {s : Shared}
theorem call_enumerate_B {v : Value} {o : Obj} {H : Heap → Prop} (B : Begins v o H) {Q : Value → Shared → Prop} (h1 : H s.heap)
    (h : ∀ h', IsEnum h' (s.heap.objs.size + 1) s.heap.objs.size 0 .none → h'.get? s.heap.objs.size = some o → h'.objs.size = s.heap.objs.size + 2 →
      (∀ b o, s.heap.get? b = some o → h'.get? b = some o) → Q (.ref (s.heap.objs.size + 1)) { s with heap := h' }) :
    wpAny (model prog w) A (call (.type "enumerate") [v]) Q E s := by
  refine callType_new F.called_enumerate (by decide) (F.typeCall_enumerate_1 _) (F.newCall_enumerate_1 _) (fun obj => F.args_object_init_2 obj _) F.entry_enumerate_new
    (meets_enumerate_newT B) ⟨h1, ?_⟩
  have hz : (s.heap.push o).objs.size = s.heap.objs.size + 1 := Heap.size_push ..
  show _ ∧ _
  rw [hz]
  have he : IsEnum ((s.heap.push o).push { cls := .type "enumerate", data := .fields #[.none, .bool false, .ref s.heap.objs.size, rawInt 0, .none, .none] }) (s.heap.objs.size + 1) s.heap.objs.size 0 .none := by
    have := Heap.get?_push_size (s.heap.push o) (o := { cls := .type "enumerate", data := .fields #[.none, .bool false, .ref s.heap.objs.size, rawInt 0, .none, .none] }) rfl
    rw [hz] at this; exact this
  refine ⟨⟨_, he, rfl⟩, h _ he (Heap.get?_push_of_some _ (Heap.get?_push_size _ B.free)) (by rw [Heap.size_push, hz]) fun b o x => Heap.get?_push_of_some _ (Heap.get?_push_of_some _ x)⟩
end
end PySem

namespace L2
open PySem PySem.Spec PyProof.Rows
/-- the tuple at a, each item in a new pair -/
def IteT (K : PySem.W.Frag) (a : Addr) : It :=
  ⟨fun i H => ∃ (xs : List V) (x : V), SqT K H a xs ∧ xs[i]? = some x, fun i H v H' => ∃ T x, v = .ref T ∧ H T = none ∧ H' = upd H T (.tup [.int (i : Nat), x]) ∧ ∀ xs, SqT K H a xs → xs[i]? = some x, fun i H => ∃ xs : List V, SqT K H a xs ∧ xs.length ≤ i⟩
theorem drawsEnd {prog : Program} {w : World} {A : Around} (hh : A.handled = none) (it t : Addr) (hne : t ≠ it) (items : Array Value) (n : Nat) (hn : items.size ≤ n) :
    PySem.Draws prog w A it [it, t] n (fun _ _ => False) (fun i h => i = n ∧ h.IsTupleIter it t i ∧ h.IsTuple t items) where
  live := fun _ _ st => let ⟨o, ho, _⟩ := st.2.1; ⟨o, ho⟩
  frame := fun _ _ _ st hk => ⟨st.1, st.2.1.at fun o e => hk it (by simp) o e, st.2.2.at fun o e => hk t (by simp) o e⟩
  item := fun i s Q E hi st hQ => by
    have := st.1
    omega
  done := fun s Q E st hE => PySem.wpAny_nextOf_tuple_end hh st.2.1 st.2.2 (by simp; omega) hE
theorem turn_enumT {P : Program} {w : World} {K : PySem.W.Frag} {elts : List Expr} {kk : Nat} {tpos : Pos} (a e it : Addr) :
    Turn P w K (.Tuple elts kk tpos) (IteT K a) [e, it] e (fun i h => (∃ old, IsEnum h e it ((i : Nat) : Int) old) ∧ h.IsTupleIter it a i ∧ e ≠ it) where
  mem := by simp
  obj := fun i h st b hb => by
    obtain ⟨⟨old, he⟩, ⟨o, ho, hc, hd⟩, _⟩ := st
    have e' : b = e ∨ b = it := by simpa using hb
    rcases e' with z | z
    · rw [z]; exact ⟨_, he, fun v q => nomatch q⟩
    · rw [z]; exact ⟨o, ho, fun v q => by rw [hd] at q; cases q⟩
  keep := fun i h h' st k => let ⟨⟨old, he⟩, hi, hne⟩ := st; ⟨⟨old, k e (by simp) _ he⟩, hi.at fun o q => k it (by simp) o q, hne⟩
  item := by
    intro X hP hw hK hc i pins s σ H E I hf st hg
    subst hP hw hK
    obtain ⟨⟨old, he⟩, hit, hne⟩ := st
    obtain ⟨xs, x, hq, hx⟩ := hg
    obtain ⟨its, rv, p, hz⟩ := I.tuple hq
    obtain ⟨u, hu, ru⟩ := rv.get hx
    have hel : e < s.heap.objs.size := Heap.lt_size he
    have hil : it < s.heap.objs.size := by obtain ⟨_, q, _⟩ := hit; exact Heap.lt_size q
    have pT : s.heap.IsTuple a its.toArray := p
    have hat : a ≠ it := by
      rintro rfl
      obtain ⟨o1, h1, c1, _⟩ := pT
      obtain ⟨o2, h2, c2, _⟩ := hit
      rw [h1] at h2; cases h2
      rw [c1] at c2; exact absurd c2 (by decide)
    have hae : a ≠ e := by
      rintro rfl
      obtain ⟨o1, h1, c1, _⟩ := pT
      have h2 : s.heap.get? a = some _ := he
      rw [h1] at h2; cases h2
      have c2 : Value.type "enumerate" = Value.type "tuple" := c1
      exact absurd c2 (by decide)
    have hlt : i < its.toArray.size := by
      have := (List.getElem?_eq_some_iff.mp hu).1
      simpa using this
    refine wpAny_pyNext_enum_itemC (c := (i : Int)) (i := i) (PySem.Draws.tuple (prog := X.prog) (w := X.w) (A := X.A.in1) (I.ok.hd hc) it a hat its.toArray) he ⟨hit, pT⟩ hlt hne (by simp; exact ⟨hne, fun z => hae z.symm⟩) fun y h' tk hP ho hst' hT hsz hk => ?_
    obtain ⟨hit', hat'⟩ := hst'
    have hy : y = u := by
      have e1 : its.toArray[i]? = some y := hP
      have e2 : its.toArray[i]? = some u := by simpa using hu
      rw [e1] at e2
      exact Option.some.inj e2
    subst hy
    refine ⟨_, rfl, wpAny_letOwnedTupleGo_enum (s := { s with heap := h', toks := tk + 1 }) ho fun h'' he' sb => ?_⟩
    have hT2 : h''.get? s.heap.objs.size = some { cls := .type "tuple", data := .seq #[.int i tk, y] } := (sb.2 _ (Nat.ne_of_gt hel)).trans hT
    have new : ObjOk X.prog X.w (upd H s.heap.objs.size (.tup [.int (i : Nat), x])) h'' s.heap.objs.size (.tup [.int (i : Nat), x]) :=
      ⟨by show 2 ≤ sizeLine; decide, [.int i tk, y], .cons ⟨_, rfl⟩ (.cons ru .nil), ⟨_, hT2, rfl, _, rfl⟩⟩
    have I1 : Inv X pins σ (upd H s.heap.objs.size (.tup [.int (i : Nat), x])) { s with heap := h'', toks := tk + 1 } :=
      I.turnedNew (ch := [e, it]) (fun b ob hb q => (sb.2 b (fun z => hb (by simp [z]))).trans (hk b ob (fun z => hb (by simp [z])) (fun z => hb (by simp [z])) q)) hf (Nat.le_refl _) new
    refine ⟨.ref s.heap.objs.size, _, I1, rfl, ⟨_, x, rfl, I.hok.fresh (Nat.le_refl _), rfl, fun ys hy => by rw [I.tuple_inj hy hq]; exact hx⟩, ⟨⟨y, ?_⟩, hit'.at fun o q => (sb.2 it (Ne.symm hne)).trans q, hne⟩, fun b hb => ?_⟩
    · have e1 : ((i + 1 : Nat) : Int) = (i : Int) + 1 := by omega
      rw [e1]; exact he'
    · have hb' : b < s.heap.objs.size := by
        have e' : b = e ∨ b = it := by simpa using hb
        rcases e' with z | z
        · rw [z]; exact hel
        · rw [z]; exact hil
      rw [upd_ne (Nat.ne_of_lt hb')]
      exact (hf b hb).1
  done := by
    intro X hP hw hK hc i pins s σ H E I hf st hg
    subst hP hw hK
    obtain ⟨⟨old, he⟩, hit, hne⟩ := st
    obtain ⟨xs, hq, hx⟩ := hg
    obtain ⟨its, rv, p, hz⟩ := I.tuple hq
    obtain ⟨f0, f1, f2, f3, f4, f5⟩ := hf it (by simp)
    have hl := rv.length
    have pT : s.heap.IsTuple a its.toArray := p
    have hat : a ≠ it := by
      rintro rfl
      obtain ⟨o1, h1, c1, _⟩ := pT
      obtain ⟨o2, h2, c2, _⟩ := hit
      rw [h1] at h2; cases h2
      rw [c1] at c2; exact absurd c2 (by decide)
    exact wpAny_pyNext_enum_endD (drawsEnd (A := X.A.in1) (I.ok.hd hc) it a hat its.toArray i (by simp; omega)) he ⟨rfl, hit, pT⟩ fun h' eb => ⟨rfl, I.turned (t' := s.toks) (fun b o hb q => eb b o hb q) f0 f1 f3 f4 f5⟩
  self := fun A i s Q E st h => let ⟨⟨_, he⟩, _⟩ := st; wpAny_pyIter_enum he h
def iEnumX (K : PySem.W.Frag) (ta : TA) : TI := fun σ H R => ta σ H fun vs H1 => ∃ a xs, vs = [.ref a] ∧ ((SqL K H1 a xs ∧ R (Ite K a) H1) ∨ (SqT K H1 a xs ∧ R (IteT K a) H1))
theorem pi_enumX {X : Cx} {e : Expr} {ta : TA} {p pos tpos : Pos} {elts : List Expr} {kk : Nat} (hg : Gl X "enumerate") (hm : X.mg "enumerate" = none) (ha : PA X [e] ta) (hs : starEach [e] X.env = [(false, eval e X.env)] := by rfl) :
    PI X (.Tuple elts kk tpos) (.Call (.Name "enumerate" p) [e] [] pos) (iEnumX X.K ta) := by
  refine ⟨fun pins s σ H R I h => ?_⟩
  refine Call_ (ld_blt I hg hm boot_enumerate (PyProof.Rows.callWith_type1 (thn (ha.run pos pins s σ H _ I h) fun us s1 ⟨vs, H1, I1, r1, q1⟩ => ?_) hs rfl))
  obtain ⟨a, xs, ex, q1⟩ := q1
  subst ex
  have fp : ∀ b ∈ [s1.heap.objs.size + 1, s1.heap.objs.size], FpOk X pins H1 b := fun b hb => by
    have e' : b = s1.heap.objs.size + 1 ∨ b = s1.heap.objs.size := by simpa using hb
    have hle : s1.heap.objs.size ≤ b := by
      rcases e' with z | z
      · rw [z]; exact Nat.le_add_right _ _
      · rw [z]; exact Nat.le_refl _
    exact I1.fpOk hle (I1.hok.fresh hle)
  cases r1 with
  | cons r rr =>
    cases rr
    cases r
    rcases q1 with ⟨hq, q⟩ | ⟨hq, q⟩
    · obtain ⟨its, rv, p', hz⟩ := I1.list hq
      refine call_enumerate_list p'.isList fun h' he hit hsz hk => wpAny_pyIter_enum he ?_
      have I2 : Inv X pins σ H1 { s1 with heap := h' } := I1.kept (t' := s1.toks) hk
      exact ⟨s1.heap.objs.size + 1, [s1.heap.objs.size + 1, s1.heap.objs.size], _, _, H1, rfl, I2, turn_enum a (s1.heap.objs.size + 1) s1.heap.objs.size, ⟨⟨.none, he⟩, hit, Nat.succ_ne_self _⟩, fp, q⟩
    · obtain ⟨its, rv, p', hz⟩ := I1.tuple hq
      refine PySem.call_enumerate_B (begins_tuple a its.toArray) (show s1.heap.IsTuple a its.toArray from p') fun h' he hit hsz hk => wpAny_pyIter_enum he ?_
      have I2 : Inv X pins σ H1 { s1 with heap := h' } := I1.kept (t' := s1.toks) hk
      exact ⟨s1.heap.objs.size + 1, [s1.heap.objs.size + 1, s1.heap.objs.size], _, _, H1, rfl, I2, turn_enumT a (s1.heap.objs.size + 1) s1.heap.objs.size, ⟨⟨.none, he⟩, ⟨_, hit, rfl, rfl⟩, Nat.succ_ne_self _⟩, fp, q⟩
end L2

namespace L2
open PySem PySem.Spec PyProof.Rows
section
variable {X : Cx} {CT : CXT} {n : Nat} {fa Ca : Addr} {fd : FuncData} {ps : List Str} {sp : Sp} {E : XK} {dvs : List V} {ds : List Value}
/-- len(o), the class's own -/
theorem call_lenG (F : DL.FnG X.prog X.w X.K X.mg X.base CT n fa fd ps sp) (hm : Meth X.K Ca "__len__" fa) (hgd : X.A.guards = some []) (hr : Room (n + 1) X.A) (hb : Binds X.K fd ps ds) (hd : Vals dvs ds) (hx : Passes CT X E) :
    CallR X (.builtin "len") (fun xs H Q => ∃ a dx fs, xs = [.ref a] ∧ H a = some (.ins Ca dx fs) ∧ sp (.ref a :: dvs) H (fun v H' => ∃ i : Int, v = .int i ∧ 0 ≤ i ∧ i < 2 ^ 63 ∧ Q (.int i) H') E) := by
  intro pins s σ H xs us Q I r h
  obtain ⟨a, dx, fs, rfl, ea, h⟩ := h
  obtain ⟨u, rfl, rx⟩ := vals1 r
  cases rx
  obtain ⟨mA, O, _⟩ := ins_get I.hok ea
  obtain ⟨od, J, _⟩ := O.look
  obtain ⟨m, hF⟩ := I.fr
  have hl : ([Value.ref a] ++ ds).length = ps.length := by
    rw [← F.len _ _ _ _ h]
    show ds.length + 1 = dvs.length + 1
    rw [hd.length]
  refine PySem.W.len_K hF I.ok.mod.kin J hm.at_ hm.fn (wpAny_call (codeAny_mono (F.run (us := .ref a :: ds) (as := .ref a :: dvs) (by exact hgd) hr.in1 I.env0.in1 (hb s [.ref a] I.kIn hl) (.cons rfl hd) h) fun r s' hq => ?_))
  cases r with
  | error er => exact hx pins σ H s er s' I hq
  | ok fl =>
    cases fl with
    | ret u =>
      obtain ⟨v, H', I3, rv, i, rfl, h0, h1, q3⟩ := I.after hq
      obtain ⟨t, rfl⟩ := rv
      exact ⟨⟨h0, h1⟩, .int i, H', I3.tok _, ⟨_, rfl⟩, q3⟩
    | next => exact False.elim hq
    | brk => exact False.elim hq
    | cont => exact False.elim hq
theorem op_inG (F : DL.FnG X.prog X.w X.K X.mg X.base CT n fa fd ps sp) (hm : Meth X.K Ca "__contains__" fa) (hgd : X.A.guards = some []) (hr : Room n X.A) (hb : Binds X.K fd ps ds) (hd : Vals dvs ds) (hx : Passes CT X E) :
    OpR X (compareOp .In) (fun y x H Q => ∃ a dx fs, x = .ref a ∧ H a = some (.ins Ca dx fs) ∧ sp (.ref a :: y :: dvs) H (fun v H' => ∃ t : Bool, v = .bl t ∧ Q (.bl t) H') E) := by
  intro pins s σ H y x u v Q I ry rx h
  obtain ⟨a, dx, fs, rfl, ea, h⟩ := h
  cases rx
  obtain ⟨mA, O, _⟩ := ins_get I.hok ea
  obtain ⟨od, J, _⟩ := O.look
  obtain ⟨m, hF⟩ := I.fr
  refine PySem.W.in_K hF I.ok.mod.kin J hm.at_ hm.fn ?_
  refine wpAny_mono (DL.goD (us := [.ref a, u]) (as := [.ref a, y]) F hgd hr hb hd hx I (.cons rfl (.cons ry .nil)) h) (fun r s' z => ?_) fun _ _ x => x
  obtain ⟨w', H', I', rw', t, rfl, q⟩ := z
  cases rw'
  exact wpAny_truthy_bool ⟨.bl t, H', I', rfl, q⟩
theorem op_ninG (F : DL.FnG X.prog X.w X.K X.mg X.base CT n fa fd ps sp) (hm : Meth X.K Ca "__contains__" fa) (hgd : X.A.guards = some []) (hr : Room n X.A) (hb : Binds X.K fd ps ds) (hd : Vals dvs ds) (hx : Passes CT X E) :
    OpR X (compareOp .NotIn) (fun y x H Q => ∃ a dx fs, x = .ref a ∧ H a = some (.ins Ca dx fs) ∧ sp (.ref a :: y :: dvs) H (fun v H' => ∃ t : Bool, v = .bl t ∧ Q (.bl (!t)) H') E) := by
  intro pins s σ H y x u v Q I ry rx h
  obtain ⟨a, dx, fs, rfl, ea, h⟩ := h
  cases rx
  obtain ⟨mA, O, _⟩ := ins_get I.hok ea
  obtain ⟨od, J, _⟩ := O.look
  obtain ⟨m, hF⟩ := I.fr
  refine PySem.W.notIn_K hF I.ok.mod.kin J hm.at_ hm.fn ?_
  refine wpAny_mono (DL.goD (us := [.ref a, u]) (as := [.ref a, y]) F hgd hr hb hd hx I (.cons rfl (.cons ry .nil)) h) (fun r s' z => ?_) fun _ _ x => x
  obtain ⟨w', H', I', rw', t, rfl, q⟩ := z
  cases rw'
  exact wpAny_truthy_bool ⟨.bl (!t), H', I', rfl, q⟩
end
end L2
namespace DL
open PySem PySem.Spec PyProof.Rows L2
/-- pairs (i, x) -/
def enumD (xs : List D) : List D := xs.mapIdx fun i x => .tup [.int (i : Nat), x]
theorem enumD_get {xs : List D} {i : Nat} {d : D} (h : (enumD xs)[i]? = some d) : ∃ x, xs[i]? = some x ∧ d = .tup [.int (i : Nat), x] := by
  unfold enumD at h
  rw [List.getElem?_mapIdx] at h
  cases e : xs[i]? with
  | none => rw [e] at h; cases h
  | some x => rw [e] at h; exact ⟨x, rfl, (Option.some.inj h).symm⟩
theorem enumD_len {xs : List D} : (enumD xs).length = xs.length := by simp [enumD]
theorem iterD_enum {K : PySem.W.Frag} {G : Hp} {a : Addr} {xs : List D} {Pc : CS → Prop} (h1 : SeqOf K a xs Pc G) : IterD K (Ite K a) (enumD xs) Pc G := by
  rintro G' C' H' e w p1
  obtain ⟨vs, q1, r1⟩ := h1 G' C' H' e w p1
  refine ⟨fun i d hd => ?_, fun i hi => ⟨vs, q1, by rw [r1.length]; rwa [enumD_len] at hi⟩⟩
  obtain ⟨x, gx, rfl⟩ := enumD_get hd
  obtain ⟨v1, t1, d1⟩ := r1.get gx
  refine ⟨⟨vs, v1, q1, t1⟩, ?_⟩
  rintro v H2 ⟨T, x', rfl, hT, rfl, f1⟩
  have e1 := f1 vs q1
  rw [t1] at e1; cases e1
  obtain ⟨w2, f2, s2⟩ := w.newG hT (.tup [.int (i : Nat), v1])
  exact ⟨_, f2, w2, .tup (SqT.of upd_same) (.cons (.int _) (.cons (d1.mono s2) .nil))⟩
theorem iterD_enumT {K : PySem.W.Frag} {G : Hp} {a : Addr} {vs : List V} {xs : List D} (h1 : SqT K G a vs) (r1 : DatAll K G vs xs) : IterD K (IteT K a) (enumD xs) (fun _ => True) G := by
  rintro G' C' H' e w _
  have q1 : SqT K H' a vs := Same.sqT w.ex (Same.sqT e h1)
  refine ⟨fun i d hd => ?_, fun i hi => ⟨vs, q1, by rw [r1.length]; rwa [enumD_len] at hi⟩⟩
  obtain ⟨x, gx, rfl⟩ := enumD_get hd
  obtain ⟨v1, t1, d1⟩ := r1.get gx
  refine ⟨⟨vs, v1, q1, t1⟩, ?_⟩
  rintro v H2 ⟨T, x', rfl, hT, rfl, f1⟩
  have e1 := f1 vs q1
  rw [t1] at e1; cases e1
  obtain ⟨w2, f2, s2⟩ := w.newG hT (.tup [.int (i : Nat), v1])
  exact ⟨_, f2, w2, .tup (SqT.of upd_same) (.cons (.int _) (.cons ((d1.mono e).mono s2) .nil))⟩
section
variable {P : Program} {w : World} {K : PySem.W.Frag} {mg : Str → Option Value} {base : Heap} {j n m : Nat} {X : Cx} {Cl : Addr} {S : DSp} {dfl : List D} {a b e o : Expr} {ts es : List Expr} {env : DEnv} {C : CS} {k : KD} {kI : KI} {kb : Bool → CS → Prop} {pos p apos tpos cpos : Pos}
theorem wi_enum (hm : X.mg "enumerate" = none) (hg : Gl X "enumerate") (h : WA X [a] env C fun ds C1 => ∃ x xs, ds = [x] ∧ ((seqR C1 x = some xs ∧ kI (enumD xs) (ownP x xs) C1) ∨ (x = .tup xs ∧ kI (enumD xs) (fun _ => True) C1)))
    (hs : starEach [a] X.env = [(false, eval a X.env)] := by rfl) : WI X (.Tuple ts n tpos) (.Call (.Name "enumerate" p) [a] [] pos) env C kI := by
  refine ⟨_, pi_enumX hg hm pa_tAr hs, fun G σ H R w er q => h G σ H _ w er fun v G1 C1 H1 ds f1 w1 r1 z => ?_⟩
  obtain ⟨x, xs, rfl, z⟩ := z
  cases r1 with
  | cons r1 r2 =>
    cases r2
    rcases z with ⟨s1, z⟩ | ⟨rfl, z⟩
    · obtain ⟨a1, rfl, g1, vs, t1⟩ := seqOf_dat w1 r1 s1
      exact ⟨a1, vs, rfl, .inl ⟨t1, q _ _ _ _ _ _ f1 w1 (iterD_enum g1) z⟩⟩
    · cases r1 with
      | tup x1 x2 => exact ⟨_, _, rfl, .inr ⟨Same.sqT w1.ex x1, q _ _ _ _ _ _ f1 w1 (iterD_enumT x1 x2) z⟩⟩
def dLenO (Cl : Addr) (S : DSp) (dfl : List D) : List D → CS → KD → Prop := fun ds C k => ∃ d ks xs, ds = [d] ∧ insD C d = some (Cl, ks, xs) ∧ S (d :: dfl) C fun y C2 => ∃ i : Int, y = .int i ∧ 0 ≤ i ∧ i < 2 ^ 63 ∧ k (.int i) C2
theorem x_lenO (hx : Ctx P w K mg base j X) (Z : Zs mg) (hM : MthC P w K mg base Cl "__len__" n dfl S) (hg : Gl X "len") (h : WA X (e :: es) env C fun ds C1 => dLenO Cl S dfl ds C1 k) (hle : n + 1 ≤ j := by decide)
    (he : starEach (e :: es) X.env = (false, eval e X.env) :: starEach es X.env := by rfl) (hpl : (backTo pos (starEach es X.env)).any (·.1) = false := by rfl) : WE X (.Call (.Name "len" p) (e :: es) [] pos) env C k := by
  obtain ⟨hc, fa, hm, fd, ps, ds, dvs, F, hb, hd, hdat⟩ := hM
  have hroom := hx.room
  have hlen := (hx.zs Z).len
  obtain ⟨e1, e2, e3, e4, e5, _, hgd, hcalm⟩ := hx
  subst e1 e2 e3 e4 e5
  refine we_cb hlen (call_lenG F hm hgd (hroom.mono hle) hb hd pass0) (p := dLenO Cl S dfl) ?_ hg bt_len h (he := he) (hpl := hpl)
  rintro xs ds' G C H k Q w rs ⟨d, ks, xs', rfl, hi, z⟩ q
  cases rs with
  | cons r1 r2 =>
    cases r2
    obtain ⟨a, dx, fs, rfl, h1, h2, h3⟩ := w.ins r1 hi
    refine ⟨a, dx, fs, rfl, h1, toSp_ok (ds := [d]) (vs := [.ref a]) (X0 := E0) (k := fun y C2 => ∃ i : Int, y = .int i ∧ 0 ≤ i ∧ i < 2 ^ 63 ∧ k (.int i) C2) w (.cons r1 .nil) hdat (Fr.refl ..) ?_ z⟩
    rintro v G2 C2 H2 d2 f2 w2 r2 ⟨i, rfl, i0, i1, zk⟩
    cases r2
    exact ⟨i, rfl, i0, i1, q _ _ _ _ _ f2 w2 (.int i) zk⟩
def dInO (neg : Bool) (Cl : Addr) (S : DSp) (dfl : List D) : OpD := fun y x C k => ∃ ks xs, insD C x = some (Cl, ks, xs) ∧ S (x :: y :: dfl) C fun r C2 => ∃ t : Bool, r = .bl t ∧ k (.bl (if neg = true then !t else t)) C2
theorem r2_inO {f : Addr} (hdat : ∀ G, DatAll K G dvs dfl) : R2D K (fun y x H Q => ∃ a dx fs, x = .ref a ∧ H a = some (.ins Cl dx fs) ∧ toSp K S (.ref a :: y :: dvs) H (fun v H' => ∃ t : Bool, v = .bl t ∧ Q (.bl t) H') E0) (dInO false Cl S dfl) := by
  rintro y x b a G C H k Q w db da ⟨ks, xs, hi, z⟩ q
  obtain ⟨a', dx, fs, rfl, h1, h2, h3⟩ := w.ins da hi
  refine ⟨a', dx, fs, rfl, h1, toSp_ok (ds := [a, b]) (vs := [.ref a', y]) (X0 := E0) (k := fun r C2 => ∃ t : Bool, r = .bl t ∧ k (.bl t) C2) w (.cons da (.cons db .nil)) hdat (Fr.refl ..) ?_ (by simpa using z)⟩
  rintro v G2 C2 H2 d2 f2 w2 r2 ⟨t, rfl, zk⟩
  cases r2
  exact ⟨t, rfl, q _ _ _ _ _ f2 w2 (.bl t) zk⟩
theorem r2_ninO {f : Addr} (hdat : ∀ G, DatAll K G dvs dfl) : R2D K (fun y x H Q => ∃ a dx fs, x = .ref a ∧ H a = some (.ins Cl dx fs) ∧ toSp K S (.ref a :: y :: dvs) H (fun v H' => ∃ t : Bool, v = .bl t ∧ Q (.bl (!t)) H') E0) (dInO true Cl S dfl) := by
  rintro y x b a G C H k Q w db da ⟨ks, xs, hi, z⟩ q
  obtain ⟨a', dx, fs, rfl, h1, h2, h3⟩ := w.ins da hi
  refine ⟨a', dx, fs, rfl, h1, toSp_ok (ds := [a, b]) (vs := [.ref a', y]) (X0 := E0) (k := fun r C2 => ∃ t : Bool, r = .bl t ∧ k (.bl (!t)) C2) w (.cons da (.cons db .nil)) hdat (Fr.refl ..) ?_ (by simpa using z)⟩
  rintro v G2 C2 H2 d2 f2 w2 r2 ⟨t, rfl, zk⟩
  cases r2
  exact ⟨t, rfl, q _ _ _ _ _ f2 w2 (.bl (!t)) zk⟩
theorem x_inO (hx : Ctx P w K mg base j X) (hM : MthC P w K mg base Cl "__contains__" n dfl S) (h : WE X a env C fun x C1 => WE X b env C1 fun y C2 => dInO false Cl S dfl x y C2 k) (hle : n ≤ j := by decide) (hm : behindInMarks .In b = false := by rfl) : WE X (.Compare a [.In] [b] pos) env C k := by
  obtain ⟨hc, fa, hmm, fd, ps, ds, dvs, F, hb, hd, hdat⟩ := hM
  have hroom := hx.room
  obtain ⟨e1, e2, e3, e4, e5, _, hgd, hcalm⟩ := hx
  subst e1 e2 e3 e4 e5
  exact we_cmp (op_inG F hmm hgd (hroom.mono hle) hb hd pass0) (r2_inO (f := fa) hdat) h hm
theorem xt_inO (hx : Ctx P w K mg base j X) (hM : MthC P w K mg base Cl "__contains__" n dfl S) (h : WE X a env C fun x C1 => WE X b env C1 fun y C2 => dInO false Cl S dfl x y C2 (tb kb)) (hle : n ≤ j := by decide) (hm : behindInMarks .In b = false := by rfl) : WT X (.Compare a [.In] [b] pos) env C kb := by
  obtain ⟨hc, fa, hmm, fd, ps, ds, dvs, F, hb, hd, hdat⟩ := hM
  have hroom := hx.room
  obtain ⟨e1, e2, e3, e4, e5, _, hgd, hcalm⟩ := hx
  subst e1 e2 e3 e4 e5
  exact wt_cmp (op_inG F hmm hgd (hroom.mono hle) hb hd pass0) (r2_inO (f := fa) hdat) h hm
theorem x_ninO (hx : Ctx P w K mg base j X) (hM : MthC P w K mg base Cl "__contains__" n dfl S) (h : WE X a env C fun x C1 => WE X b env C1 fun y C2 => dInO true Cl S dfl x y C2 k) (hle : n ≤ j := by decide) (hm : behindInMarks .NotIn b = false := by rfl) : WE X (.Compare a [.NotIn] [b] pos) env C k := by
  obtain ⟨hc, fa, hmm, fd, ps, ds, dvs, F, hb, hd, hdat⟩ := hM
  have hroom := hx.room
  obtain ⟨e1, e2, e3, e4, e5, _, hgd, hcalm⟩ := hx
  subst e1 e2 e3 e4 e5
  exact we_cmp (op_ninG F hmm hgd (hroom.mono hle) hb hd pass0) (r2_ninO (f := fa) hdat) h hm
theorem xt_ninO (hx : Ctx P w K mg base j X) (hM : MthC P w K mg base Cl "__contains__" n dfl S) (h : WE X a env C fun x C1 => WE X b env C1 fun y C2 => dInO true Cl S dfl x y C2 (tb kb)) (hle : n ≤ j := by decide) (hm : behindInMarks .NotIn b = false := by rfl) : WT X (.Compare a [.NotIn] [b] pos) env C kb := by
  obtain ⟨hc, fa, hmm, fd, ps, ds, dvs, F, hb, hd, hdat⟩ := hM
  have hroom := hx.room
  obtain ⟨e1, e2, e3, e4, e5, _, hgd, hcalm⟩ := hx
  subst e1 e2 e3 e4 e5
  exact wt_cmp (op_ninG F hmm hgd (hroom.mono hle) hb hd pass0) (r2_ninO (f := fa) hdat) h hm
/-! ### strip -/
def dStripC : D → List D → CS → KD → Prop := fun x ds C k => ∃ z y, x = .str z ∧ ds = [.str y] ∧ z.length ≤ sizeLine ∧ k (.str (Txt.stripChars z y)) C
theorem rm_stripC {K : PySem.W.Frag} : RMD K (fun x xs H Q => ∃ a b, x = .str a ∧ xs = [.str b] ∧ a.length ≤ sizeLine ∧ Q (.str (Txt.stripChars a b)) H) dStripC := by
  rintro x a xs ds G C H k Q w da rs ⟨z, y, rfl, rfl, hl, hk⟩ q
  cases da
  cases rs with
  | cons r1 r2 =>
    cases r2
    cases r1
    exact ⟨z, y, rfl, rfl, hl, q _ _ _ _ _ (Fr.refl ..) w (.str _) hk⟩
theorem x_stripC (h : WE X o env C fun x C1 => tyD "str" C1 x ∧ WA X (e :: es) env C1 fun ds C2 => dStripC x ds C2 k) (hbase : attributeBase o "strip" X.env (eval o X.env) = eval o X.env := by rfl)
    (hfew : ((backTo cpos (starEach (e :: es) X.env)).all (fun x => !x.1) && (backToKw cpos (keywordEach [] X.env)).all (fun x => x.1.isSome)
      && decide ((e :: es).length + ([] : List Keyword).length + (if ([] : List Keyword).isEmpty then 0 else 1) < 30)) = true := by rfl)
    (hline : (apos.endLine == cpos.line) = true := by rfl) (hs : starEach (e :: es) X.env = (false, eval e X.env) :: starEach es X.env := by rfl) (hplain : (backTo cpos (starEach es X.env)).any (·.1) = false := by rfl) :
    WE X (.Call (.Attribute o "strip" apos) (e :: es) [] cpos) env C k :=
  we_bm PySem.F.plainAttrs_str PySem.F.slot_str_strip PySem.F.type_str_strip mt_stripChars rm_stripC h hbase hfew hline hs hplain
end
/-! ### dict of pairs -/
def mergeD (kvs more : List (Key × D)) : List (Key × D) := more.foldl (fun acc kv => putD acc kv.1 kv.2) kvs
section
variable {K : PySem.W.Frag} {G H : Hp} {C : CS}
theorem merge_rel : ∀ {mw : List (Key × V)} {more : List (Key × D)} {kw : List (Key × V)} {kvs : List (Key × D)}, mw.map (·.1) = more.map (·.1) → DatAll K G (mw.map (·.2)) (more.map (·.2)) → kw.map (·.1) = kvs.map (·.1) → DatAll K G (kw.map (·.2)) (kvs.map (·.2)) →
    (mergeK kw mw).map (·.1) = (mergeD kvs more).map (·.1) ∧ DatAll K G ((mergeK kw mw).map (·.2)) ((mergeD kvs more).map (·.2))
  | [], [], _, _, _, _, e, r => ⟨e, r⟩
  | (a, v) :: mw, (b, d) :: more, kw, kvs, e1, r1, e, r => by
    simp only [List.map_cons, List.cons.injEq] at e1
    obtain ⟨rfl, e1⟩ := e1
    cases r1 with
    | cons r1 r2 =>
      obtain ⟨g1, g2⟩ := put_rel (k := a) r1 e r
      exact merge_rel (mw := mw) (more := more) e1 r2 g1 g2
  | [], _ :: _, _, _, e, _, _, _ => by simp at e
  | _ :: _, [], _, _, e, _, _, _ => by simp at e
theorem pairs_dat : ∀ {vs : List V} {kvs : List (Key × D)}, DatAll K G vs (kvs.map fun kv => D.tup [kD kv.1, kv.2]) → (∀ a o, G a = some o → H a = some o) → ∃ (ps : List Addr) (kw : List (Key × V)), vs = ps.map V.ref ∧ Paired (fun p kv => SqT K H p [kV kv.1, kv.2]) ps kw ∧ kw.map (·.1) = kvs.map (·.1) ∧ DatAll K G (kw.map (·.2)) (kvs.map (·.2))
  | [], [], _, _ => ⟨[], [], rfl, .nil, rfl, .nil⟩
  | v :: vs, (ky, d) :: kvs, r, e => by
    cases r with
    | cons r1 r2 =>
      obtain ⟨ps, kw, h1, h2, h3, h4⟩ := pairs_dat (vs := vs) (kvs := kvs) r2 e
      cases r1 with
      | @tup p us _ x1 x2 =>
        cases x2 with
        | @cons u1 _ us' _ y1 y2 =>
          cases y2 with
          | @cons u2 _ us'' _ z1 z2 =>
            cases z2
            obtain rfl := dat_key y1
            exact ⟨p :: ps, (ky, u2) :: kw, by rw [h1]; rfl, .cons (Same.sqT e x1) h2, by simp [h3], .cons z1 h4⟩
  | [], _ :: _, r, _ => by cases r
  | _ :: _, [], r, _ => by cases r
def dDictP : List D → CS → KD → Prop := fun ds C k => ∃ (d : D) (kvs : List (Key × D)), ds = [d] ∧ seqR C d = some (kvs.map fun kv => D.tup [kD kv.1, kv.2]) ∧ ∀ p, C p = none → k (.own p) (put C p (.dic (mergeD [] kvs)))
theorem rl_dictP : RLD K (fun xs H Q => ∃ (a : Addr) (ps : List Addr) (kvs : List (Key × V)), xs = [.ref a] ∧ SqL K H a (ps.map V.ref) ∧ Paired (fun p kv => SqT K H p [kV kv.1, kv.2]) ps kvs ∧
    ∀ p, H p = none → Q (.ref p) (upd H p (.dK (mergeK [] kvs)))) dDictP := by
  rintro xs ds G C H k Q w rs ⟨d, kvs, rfl, hs, hk⟩ q
  cases rs with
  | @cons v1 _ vs1 _ r1 r2 =>
    cases r2
    obtain ⟨a, rfl, g1, vs', t1⟩ := seqOf_dat w r1 hs
    obtain ⟨vs, h1, h2⟩ : ∃ vs, SqL K H a vs ∧ DatAll K G vs (kvs.map fun kv => D.tup [kD kv.1, kv.2]) := by
      cases r1 with
      | lst x1 x2 => simp [seqR] at hs; subst hs; exact ⟨_, w.ex.seq (SqL.of x1), x2⟩
      | slst x1 x2 => simp [seqR] at hs; subst hs; exact ⟨_, w.ex.seq x1, x2⟩
      | own a =>
        obtain ⟨_, vs, y1, y2⟩ := w.cell a _ (own_seqR hs)
        exact ⟨vs, SqL.of y1, y2⟩
      | _ => simp [seqR] at hs
    obtain ⟨ps, kw, rfl, g2, g3, g4⟩ := pairs_dat h2 w.ex
    refine ⟨a, ps, kw, rfl, h1, g2, fun p hp => ?_⟩
    obtain ⟨m1, m2⟩ := merge_rel (kw := []) (kvs := []) g3 g4 rfl .nil
    obtain ⟨w3, f3⟩ := w.newC hp (o := .dK (mergeK [] kw)) (c := .dic (mergeD [] kvs)) fun H' e => ⟨_, e, m1, m2⟩
    exact q _ _ _ _ _ f3 w3 (.own p) (hk p (w.ne hp).2)
end
section
variable {P : Program} {w : World} {K : PySem.W.Frag} {mg : Str → Option Value} {base : Heap} {j n m : Nat} {X : Cx} {e : Expr} {es : List Expr} {env : DEnv} {C : CS} {k : KD} {pos p : Pos}
theorem x_dictP (hx : Ctx P w K mg base j X) (Z : Zs mg) (hg : Gl X "dict") (h : WA X (e :: es) env C fun ds C1 => dDictP ds C1 k) (he : starEach (e :: es) X.env = (false, eval e X.env) :: starEach es X.env := by rfl) (hpl : (backTo pos (starEach es X.env)).any (·.1) = false := by rfl) :
    WE X (.Call (.Name "dict" p) (e :: es) [] pos) env C k := we_ct (hx.zs Z).dict (call_dictP hx.calm) rl_dictP hg (by decide +kernel) h (he := he) (hpl := hpl)
end
/-! ### short answers -/
section
variable {C C1 : CS} {k : KD} {kC : CS → Prop} {K : PySem.W.Frag} {Cl p a : Addr} {ks : List Str} {xs : List D} {f s : Str} {d v : D} {kvs : List (Key × D)} {q : D → Prop}
theorem fld_ok (h1 : insD C d = some (Cl, ks, xs)) (h2 : FldC K Cl f) (h3 : FGet ks xs f v) (h : q v) : ∃ Cl ks xs v, insD C d = some (Cl, ks, xs) ∧ FldC K Cl f ∧ FGet ks xs f v ∧ q v := ⟨_, _, _, _, h1, h2, h3, h⟩
theorem ixD_ok (h1 : C a = some (.dic kvs)) (h2 : valD kvs (Sum.inr s) = some d) (h : k d C) : dIxD (.own a) (.str s) C k := .inr ⟨_, _, Sum.inr s, _, rfl, rfl, h1, h2, h⟩
theorem inX_ok (h1 : C a = some (.dic kvs)) (h : k (.bl (valD kvs (Sum.inr s)).isSome) C) : dInX false (.str s) (.own a) C k := .inr ⟨_, _, Sum.inr s, rfl, rfl, h1, h⟩
theorem ninX_ok (h1 : C a = some (.dic kvs)) (h : k (.bl (!(valD kvs (Sum.inr s)).isSome)) C) : dInX true (.str s) (.own a) C k := .inr ⟨_, _, Sum.inr s, rfl, rfl, h1, h⟩
theorem lenX_ok (h1 : C a = some (.dic kvs)) (h : k (.int (kvs.length : Nat)) C) : dLenX [.own a] C k := .inr ⟨_, _, rfl, h1, h⟩
theorem setX_ok (h1 : C p = some (.dic kvs)) (hl : kvs.length < sizeLine) (h : kC (put C p (.dic (putD kvs (Sum.inr s) d)))) : dSetX (.own p) (.str s) d C kC := .inr ⟨_, _, Sum.inr s, rfl, rfl, h1, hl, h⟩
end
end DL
/-! DLy: targets with a star. -/
namespace PySem
open Sem (wp)
open PyProof.Rows
theorem Walks.shift {prog : Program} {w : World} {A : Around} {I : Addr} {fp wr : List Addr} {n : Nat} {P : Nat → Value → Prop} {St : Nat → Heap → Prop} (W : Walks prog w A I fp wr n P St) (i : Nat) (hi : i ≤ n) :
    Walks prog w A I fp wr (n - i) (fun j => P (i + j)) (fun j => St (i + j)) where
  sub := W.sub
  frame := fun j => W.frame (i + j)
  item := fun j s Q E hj st hQ => W.item (i + j) s Q E (by omega) st hQ
  done := fun s Q E st hQ => W.done s Q E (by rw [show i + (n - i) = n by omega] at st; exact st) hQ
  self := fun j => W.self (i + j)
section
variable {prog : Program} {w : World} {A : Around} {E : Value → Shared → Prop} {s : Shared}
theorem items_acc {items : Array Value} {acc : Array Value} {i : Nat} (h : ItemsOf (fun j v => items[i + j]? = some v) acc (items.size - i)) : acc.toList = items.toList.drop i := by
  apply List.ext_getElem?
  intro j
  rw [List.getElem?_drop, Array.getElem?_toList, Array.getElem?_toList]
  by_cases hj : j < acc.size
  · have e : acc[j]? = some acc[j] := by simp [hj]
    rw [e, h.2 j _ e]
  · have e1 : acc[j]? = none := by simp; omega
    have hs := h.1
    have e2 : items[i + j]? = none := by simp; omega
    rw [e1, e2]
theorem unpackItems_star {t : Addr} {items : Array Value} {n i : Nat} {Q : List Value → Shared → Prop} (hh : A.handled = none) (ht : PyProof.Rows.IsTup s.heap t items) (hi : i < n) (hn : n ≤ items.size + 1) (hsz : items.size ≤ sizeLine)
    (hQ : ∀ (h' : Heap) (tk : Nat), (∀ b o, s.heap.get? b = some o → h'.get? b = some o) →
      Q (items.toList.take i ++ [.ref h'.objs.size] ++ items.toList.drop (items.size - (n - 1 - i))) { s with heap := h'.push { cls := .type "list", data := .seq ((items.toList.drop i).take (items.size - (n - 1))).toArray }, toks := tk }) : wpAny (model prog w) A (unpackItems (.ref t) n (some i)) Q E s := by
  have hlt : t ≠ s.heap.objs.size := by obtain ⟨o, ho, _⟩ := ht; exact Nat.ne_of_lt (Heap.lt_size ho)
  unfold unpackItems
  refine wpAny_bind ?_
  unfold notIterableAtAll
  refine wpAny_bind (wpAny_specialOf ht.typeIs slot_tuple_iter.lookup ?_)
  refine wpAny_pure ?_
  simp only [Bool.false_eq_true, if_false]
  refine wpAny_bind (wpAny_holding (iter_tuple ht ?_))
  refine wpAny_bind (wpAny_holding (draw_tuple hlt i 0 _ _ ⟨_, Heap.get?_push_size _ rfl, rfl, rfl⟩ (ht.push _) (by omega) fun h₁ hit₁ hs₁ => ?_))
  have hall : List.take i (List.drop 0 items.toList) = items.toList.take i := by rw [List.drop_zero]
  rw [hall]
  rw [if_neg (by simp; omega)]
  have ht₁ : PyProof.Rows.IsTup h₁ t items := (ht.push _).extBut hs₁.extBut hlt
  have W := ((Walks.tuple (prog := prog) (w := w) (A := A.in1) hh s.heap.objs.size t hlt items).shift i (by omega)).toS
  have hst : (fun (j : Nat) (s' : Shared) => s'.heap.IsTupleIter s.heap.objs.size t (i + j) ∧ s'.heap.IsTuple t items) 0 { s with heap := h₁ } := ⟨by have h0 := hit₁; rw [Nat.zero_add] at h0; exact h0, ht₁⟩
  have hsz1 : h₁.objs.size = s.heap.objs.size + 1 := by rw [hs₁.1, Heap.size_push]
  refine wpAny_bind (wpAny_holding (wpAny_collect_iter (s := { s with heap := h₁ }) (.inr (.inr (.inr rfl))) W (fun j s' st => let ⟨o, ho, hc, _⟩ := st.1; ⟨o, ho, hc⟩) hst (fun b hb => ?_) (by simp) (fun s' acc hm hacc => ?_) (by omega)))
  · have e' : b = s.heap.objs.size ∨ b = t := by simpa using hb
    show b < h₁.objs.size
    rw [hsz1]
    rcases e' with rfl | rfl
    · exact Nat.lt_succ_self _
    · obtain ⟨o, ho, _⟩ := ht
      exact Nat.lt_succ_of_lt (Heap.lt_size ho)
  · have hl := items_acc hacc
    rw [hl]
    have hlen : (items.toList.drop i).length = items.size - i := by simp
    rw [hlen, if_neg (by omega)]
    refine wpAny_bind (wpAny_newList ?_ (by simp; omega))
    refine wpAny_pure ?_
    have e1 : items.size - i - (n - 1 - i) = items.size - (n - 1) := by omega
    have e2 : List.drop (items.size - i - (n - 1 - i)) (List.drop i items.toList) = items.toList.drop (items.size - (n - 1 - i)) := by
      rw [List.drop_drop]; congr 1; omega
    rw [e2, e1]
    obtain ⟨hh1, hg, hdr, ho, _⟩ := hm
    obtain ⟨hp', g', d', tk', os'⟩ := s'
    simp only at hg hdr ho
    subst hg hdr ho
    refine hQ _ tk' fun b o e => ?_
    have hb : b ≠ s.heap.objs.size := Nat.ne_of_lt (Heap.lt_size e)
    exact hh1 b o (by simpa using hb) (hs₁.extBut b o hb (Heap.get?_push_of_some _ e))
theorem unpack_star {t : Addr} {items : Array Value} {targets : List (Bool × (Value → Sem Unit))} {n i : Nat} {Q : Unit → Shared → Prop} (hh : A.handled = none) (ht : PyProof.Rows.IsTup s.heap t items) (hn : targets.length = n) (hstar : targets.findIdx? (·.1) = some i) (hi : i < n) (hn' : n ≤ items.size + 1) (hsz : items.size ≤ sizeLine)
    (h : ∀ (h' : Heap) (tk : Nat), (∀ b o, s.heap.get? b = some o → h'.get? b = some o) →
      wpAny (model prog w) A (assignInOrder (targets.map (·.2)) (items.toList.take i ++ [.ref h'.objs.size] ++ items.toList.drop (items.size - (n - 1 - i)))) Q E { s with heap := h'.push { cls := .type "list", data := .seq ((items.toList.drop i).take (items.size - (n - 1))).toArray }, toks := tk }) :
    wpAny (model prog w) A (unpack (.ref t) targets) Q E s := by
  unfold unpack
  rw [hn, hstar]
  exact wpAny_bind (wpAny_holding (unpackItems_star hh ht hi hn' hsz h))
end
end PySem
namespace L2
open PySem PySem.Spec PyProof.Rows
/-- (a, *b, c) = a tuple: n targets, the i-th has the star -/
def gStar (K : PySem.W.Frag) (n i : Nat) (t : TGs) : TG := fun v σ H Q => ∃ a xs, v = .ref a ∧ SqT K H a xs ∧ i < n ∧ n ≤ xs.length + 1 ∧
  ∀ q, H q = none → t (xs.take i ++ [.ref q] ++ xs.drop (xs.length - (n - 1 - i))) σ (upd H q (.lst ((xs.drop i).take (xs.length - (n - 1))))) Q
theorem pg_star {X : Cx} {es : List Expr} {k : Nat} {t : TGs} {n i : Nat} {pos : Pos} (hc : X.calm = true) (h : PGs X es t)
    (hn : (assignEach es X.env).length = n := by rfl) (hst : (assignEach es X.env).findIdx? (·.1) = some i := by rfl) : PG X (.Tuple es k pos) (gStar X.K n i t) := by
  refine ⟨fun pins s σ H v u Q I r hw => ?_⟩
  obtain ⟨a, xs, e1, hq, hi, hl, hw⟩ := hw
  subst e1
  cases r
  obtain ⟨its, rv, ht, hz⟩ := I.tuple hq
  have hlen := rv.length
  rw [assign_Tuple]
  refine wpAny_bind (wpAny_standAt (PySem.unpack_star (n := n) (i := i) (I.ok.hd hc) ht hn hst hi (by simp; omega) (by rw [List.size_toArray, ← hlen]; exact hz) fun h' tk hx => ?_))
  have I1 : Inv X pins σ H { s with heap := h' } := I.kept (t' := s.toks) hx
  have hf : H h'.objs.size = none := I1.hok.fresh (Nat.le_refl _)
  have rm : Vals ((xs.drop i).take (xs.length - (n - 1))) ((its.drop i).take (its.length - (n - 1))) := by rw [hlen]; exact (rv.drop i).take _
  have hz2 : ((xs.drop i).take (xs.length - (n - 1))).length ≤ sizeLine := Nat.le_trans (by simp; omega) hz
  have e1 : its.toArray.toList = its := by simp
  have e2 : its.toArray.size = its.length := by simp
  rw [e1, e2]
  have I2 : Inv X pins σ (upd H h'.objs.size (.lst ((xs.drop i).take (xs.length - (n - 1))))) { s with heap := h'.push { cls := .type "list", data := .seq ((its.drop i).take (its.length - (n - 1))).toArray }, toks := tk } :=
    I1.laid (t' := tk) (fun b u e => Heap.get?_push_of_some _ e) (Nat.le_refl _) ⟨hz2, _, 0, rm, Heap.get?_push_size _ rfl⟩
  have rv2 : Vals (xs.take i ++ [.ref h'.objs.size] ++ xs.drop (xs.length - (n - 1 - i))) (its.take i ++ [.ref h'.objs.size] ++ its.drop (its.length - (n - 1 - i))) := by
    rw [hlen]
    have r1 : Vals [V.ref h'.objs.size] [Value.ref h'.objs.size] := .cons rfl .nil
    exact ((rv.take i).append r1).append (rv.drop _)
  exact h.run pins _ σ _ _ _ Q I2 rv2 (hw _ hf)
end L2
namespace L2
open PySem PySem.Spec PyProof.Rows
theorem pgs_consS {X : Cx} {e : Expr} {es : List Expr} {t : TG} {u : TGs} {p : Pos} (h1 : PG X e t) (h2 : PGs X es u)
    (hs : (assignEach (.Starred e p :: es) X.env).map (·.2) = assign e X.env :: (assignEach es X.env).map (·.2) := by rfl) : PGs X (.Starred e p :: es) (gCons t u) := by
  refine ⟨fun pins s σ H vs us Q I r h => ?_⟩
  obtain ⟨v, vr, e1, h⟩ := h
  subst e1
  cases r with
  | cons r rr =>
    rw [hs]
    refine assignInOrder_cons (thn (h1.run pins s σ H _ _ _ I r h) fun _ s1 ⟨σ1, H1, I1, q1⟩ => ?_)
    exact h2.run pins s1 σ1 H1 _ _ Q I1 rr q1
end L2
namespace DL
open PySem PySem.Spec PyProof.Rows L2
section
variable {X : Cx} {env : DEnv} {C : CS} {pos p : Pos} {K : PySem.W.Frag} {G : Hp}
theorem datAll_take' : ∀ {vs : List V} {ds : List D} (n : Nat), DatAll K G vs ds → DatAll K G (vs.take n) (ds.take n)
  | _, _, 0, _ => by rw [List.take_zero, List.take_zero]; exact .nil
  | _, _, n + 1, .nil => .nil
  | _, _, n + 1, .cons a r => .cons a (datAll_take' n r)
theorem datAll_drop' : ∀ {vs : List V} {ds : List D} (n : Nat), DatAll K G vs ds → DatAll K G (vs.drop n) (ds.drop n)
  | _, _, 0, r => r
  | _, _, n + 1, .nil => .nil
  | _, _, n + 1, .cons a r => datAll_drop' n r
theorem wgs_consS {t : Expr} {ts : List Expr} {d : D} {ds : List D} {kE : DEnv → CS → Prop} (h : WG X t d env C fun env1 C1 => WGs X ts ds env1 C1 kE) (hs : (assignEach (.Starred t p :: ts) X.env).map (·.2) = assign t X.env :: (assignEach ts X.env).map (·.2) := by rfl) : WGs X (.Starred t p :: ts) (d :: ds) env C kE := fun G σ H vs Q w er r q pins s us I ru => by
  cases r with
  | @cons v vr _ _ r1 r2 =>
    refine (pgs_consS (X := X) pg_tGt pgs_tGts hs).run pins s σ H (v :: vr) us Q I ru ⟨v, vr, rfl, ?_⟩
    exact h G σ H v _ w er r1 fun G1 C1 H1 σ1 env1 f1 w1 er1 h1 => h1 G1 σ1 H1 vr Q w1 er1 (r2.mono f1.exG) (q.after f1)
/-- (a, *b, c) = a tuple; b is a new list -/
theorem wg_tupS {ts : List Expr} {n m i : Nat} {ds : List D} {kE : DEnv → CS → Prop} (hc : X.calm = true) (hm : (assignEach ts X.env).length = m) (hst : (assignEach ts X.env).findIdx? (·.1) = some i) (hi : i < m) (hl : m ≤ ds.length + 1)
    (h : ∀ q, C q = none → WGs X ts (ds.take i ++ [.own q] ++ ds.drop (ds.length - (m - 1 - i))) env (put C q (.lst ((ds.drop i).take (ds.length - (m - 1))))) kE) : WG X (.Tuple ts n pos) (.tup ds) env C kE :=
  .of (pg_star hc pgs_tGts hm hst) fun G σ H v Q w er r q => by
    cases r with
    | tup h1 h2 =>
      have hlen := h2.length
      refine ⟨_, _, rfl, Same.sqT w.ex h1, hi, by rw [hlen]; exact hl, fun a ha => ?_⟩
      rw [hlen]
      obtain ⟨w3, f3⟩ := w.newC ha (o := .lst _) (c := .lst ((ds.drop i).take (ds.length - (m - 1)))) fun H' e => ⟨_, e, datAll_take' _ (datAll_drop' i h2)⟩
      have r1 : DatAll X.K G [V.ref a] [D.own a] := .cons (.own a) .nil
      have h2' := h2.mono f3.exG
      exact h a (w.ne ha).2 G σ _ _ Q w3 (er.mono f3.exG) (((datAll_take' i h2').append r1).append (datAll_drop' _ h2')) (q.after f3)
/-- f(.., *e, ..), (.., *e, ..) -/
theorem wa_star {e : Expr} {es : List Expr} {ka : List D → CS → Prop} (h : WE X e env C fun d C1 => ∃ xs, seqA C1 d = some xs ∧ WA X es env C1 fun ds C2 => ka (xs ++ ds) C2) (hs : starEach (.Starred e p :: es) X.env = (true, eval e X.env) :: starEach es X.env := by rfl) : WA X (.Starred e p :: es) env C ka :=
  .of (StX.pa_star pe_tS pa_tAr hs) fun G σ H Q w er q => h G σ H _ w er fun v G1 C1 H1 x f1 w1 d1 hb => by
    obtain ⟨ds0, hsq, hb⟩ := hb
    obtain ⟨a, vs0, rfl, h1, h2⟩ := w1.seqA d1 hsq
    exact ⟨a, vs0, rfl, h1.symm, hb G1 σ H1 _ w1 (er.mono f1.exG) fun vs G2 C2 H2 ds f2 w2 d2 hp => q (vs0 ++ vs) G2 C2 H2 (ds0 ++ ds) (f1.trans f2) w2 ((h2.mono f2.exG).append d2) hp⟩
end
end DL
/-! DLz: f-strings and split by data. -/
namespace DL
open PySem PySem.Spec PyProof.Rows L2
section
variable {X : Cx} {env : DEnv} {C : CS} {k : KD} {pos p apos cpos : Pos} {K : PySem.W.Frag} {e o : Expr} {es : List Expr}
/-- {e} -/
theorem x_fmt (h : WE X e env C fun d C1 => (∃ y, d = .str y ∧ y.length ≤ sizeLine ∧ k (.str y) C1) ∨ ∃ i : Int, d = .int i ∧ i.natAbs.log2 < 1920 ∧ k (.str (toString i)) C1) : WE X (.FormattedValue e (-1) none pos) env C k :=
  .of (pe_fmt pe_tS) fun G σ H Q w er q => h G σ H _ w er fun v G1 C1 H1 d f1 w1 r1 z => by
    rcases z with ⟨y, rfl, hl, hk⟩ | ⟨i, rfl, hl, hk⟩
    · cases r1; exact .inl ⟨y, rfl, hl, q _ _ _ _ _ f1 w1 (.str y) hk⟩
    · cases r1; exact .inr ⟨i, rfl, hl, q _ _ _ _ _ f1 w1 (.str _) hk⟩
def WJs (X : Cx) : List Expr → Str → DEnv → CS → (Str → CS → Prop) → Prop
  | [], acc, _, C, k => k acc C
  | e :: es, acc, env, C, k => WE X e env C fun d C1 => ∃ y : Str, d = .str y ∧ (acc ++ y).length ≤ sizeLine ∧ WJs X es (acc ++ y) env C1 k
theorem pj_tS : ∀ es : List Expr, ∃ ts, PJ X es ts ∧ ∀ (acc : Str) (env : DEnv) (C : CS) (kj : Str → CS → Prop) (G : Hp) (σ : L2.St) (H : Hp) (Q : Str → Hp → Prop), WJs X es acc env C kj → Wld X.K G C H → EnvR X.K G env σ →
    (∀ G' C' H' y, Fr G C H G' C' H' → Wld X.K G' C' H' → kj y C' → Q y H') → tJs ts acc σ H Q
  | [] => ⟨[], .nil, fun acc env C kj G σ H Q h w er q => q G C H acc (Fr.refl ..) w h⟩
  | e :: es => by
    obtain ⟨ts, hp, hh⟩ := pj_tS es
    refine ⟨_ :: ts, .cons pe_tS hp, fun acc env C kj G σ H Q h w er q => ?_⟩
    refine h G σ H _ w er fun v G1 C1 H1 d f1 w1 r1 z => ?_
    obtain ⟨y, rfl, hl, z⟩ := z
    cases r1
    exact ⟨y, rfl, hl, hh (acc ++ y) env C1 kj G1 σ H1 Q z w1 (er.mono f1.exG) fun G2 C2 H2 y2 f2 w2 k2 => q G2 C2 H2 y2 (f1.trans f2) w2 k2⟩
/-- f".." of two or more parts -/
theorem x_joined {v1 v2 : Expr} {rest : List Expr} (h : WJs X (v1 :: v2 :: rest) Str.empty env C fun out C1 => k (.str out) C1) : WE X (.JoinedStr (v1 :: v2 :: rest) pos) env C k := by
  obtain ⟨ts, hp, hh⟩ := pj_tS (X := X) (v1 :: v2 :: rest)
  exact .of (pe_joined hp) fun G σ H Q w er q => hh _ _ _ _ G σ H _ h w er fun G1 C1 H1 y f1 w1 z => q _ _ _ _ _ f1 w1 (.str y) z
/-! ### split -/
def dSplit : D → List D → CS → KD → Prop := fun x ds C k => ∃ z y, x = .str z ∧ ds = [.str y] ∧ (y.length == 0) = false ∧ z.length + 2 ≤ sizeLine ∧ ∀ p, C p = none → k (.own p) (put C p (.lst ((Txt.split z y).map D.str)))
theorem rm_split : RMD K (fun x xs H Q => ∃ a b, x = .str a ∧ xs = [.str b] ∧ (b.length == 0) = false ∧ a.length + 2 ≤ sizeLine ∧ rNewStrs (Txt.split a b) H Q) dSplit := by
  rintro x a xs ds G C H k Q w da rs ⟨z, y, rfl, rfl, hb, hl, hk⟩ q
  cases da
  cases rs with
  | cons r1 r2 =>
    cases r2
    cases r1
    refine ⟨z, y, rfl, rfl, hb, hl, fun p hp => ?_⟩
    obtain ⟨w2, f2⟩ := w.newC hp (o := .lst ((Txt.split z y).map V.str)) (c := .lst ((Txt.split z y).map D.str)) fun H' e => ⟨_, e, datAll_strsI _⟩
    exact q _ _ _ _ _ f2 w2 (.own p) (hk p (w.ne hp).2)
theorem x_split (h : WE X o env C fun x C1 => tyD "str" C1 x ∧ WA X (e :: es) env C1 fun ds C2 => dSplit x ds C2 k) (hbase : attributeBase o "split" X.env (eval o X.env) = eval o X.env := by rfl)
    (hfew : ((backTo cpos (starEach (e :: es) X.env)).all (fun x => !x.1) && (backToKw cpos (keywordEach [] X.env)).all (fun x => x.1.isSome)
      && decide ((e :: es).length + ([] : List Keyword).length + (if ([] : List Keyword).isEmpty then 0 else 1) < 30)) = true := by rfl)
    (hline : (apos.endLine == cpos.line) = true := by rfl) (hs : starEach (e :: es) X.env = (false, eval e X.env) :: starEach es X.env := by rfl) (hplain : (backTo cpos (starEach es X.env)).any (·.1) = false := by rfl) :
    WE X (.Call (.Attribute o "split" apos) (e :: es) [] cpos) env C k :=
  we_bm PySem.F.plainAttrs_str PySem.F.slot_str_split PySem.F.type_str_split mt_split rm_split h hbase hfew hline hs hplain
/-! ### short answers -/
theorem wjs_cons {acc : Str} {kj : Str → CS → Prop} (h : WE X e env C fun d C1 => ∃ y : Str, d = .str y ∧ (acc ++ y).length ≤ sizeLine ∧ WJs X es (acc ++ y) env C1 kj) : WJs X (e :: es) acc env C kj := h
theorem wjs_nil {acc : Str} {kj : Str → CS → Prop} (h : kj acc C) : WJs X [] acc env C kj := h
theorem wj_s {acc y : Str} {q : Str → Prop} (hl : (acc ++ y).length ≤ sizeLine) (h : q y) : ∃ z : Str, D.str y = .str z ∧ (acc ++ z).length ≤ sizeLine ∧ q z := ⟨y, rfl, hl, h⟩
theorem fmtS {y : Str} {C1 : CS} {kk : KD} (hl : y.length ≤ sizeLine) (h : kk (.str y) C1) : (∃ z, D.str y = .str z ∧ z.length ≤ sizeLine ∧ kk (.str z) C1) ∨ ∃ i : Int, D.str y = .int i ∧ i.natAbs.log2 < 1920 ∧ kk (.str (toString i)) C1 := .inl ⟨y, rfl, hl, h⟩
theorem fmtI {i : Int} {C1 : CS} {kk : KD} (hl : i.natAbs.log2 < 1920) (h : kk (.str (toString i)) C1) : (∃ z, D.int i = .str z ∧ z.length ≤ sizeLine ∧ kk (.str z) C1) ∨ ∃ j : Int, D.int i = .int j ∧ j.natAbs.log2 < 1920 ∧ kk (.str (toString j)) C1 := .inr ⟨i, rfl, hl, h⟩
end
end DL
/-! DMa: extend; classmethods; a class in a local name; cells that stay. -/
namespace DL
open PySem PySem.Spec PyProof.Rows L2
section
variable {X : Cx} {env : DEnv} {C : CS} {k : KD} {pos p apos cpos : Pos} {K : PySem.W.Frag} {e o : Expr} {es : List Expr}
/-! ### extend -/
def dExtend : D → List D → CS → KD → Prop := fun x ds C k => ∃ a xs y zs, x = .own a ∧ ds = [y] ∧ C a = some (.lst xs) ∧ seqL C y = some zs ∧ xs.length + zs.length ≤ sizeLine ∧ k .non (put C a (.lst (xs ++ zs)))
theorem rm_extend : RMD K rExtend dExtend := by
  rintro x a xs ds G C H k Q w r rs ⟨p, ys, y, zs, rfl, rfl, hp, hy, hl, hk⟩ q
  cases r
  cases rs with
  | cons r1 r2 =>
    cases r2
    obtain ⟨_, vs, h1, h2⟩ := w.cell p _ hp
    obtain ⟨b, us, rfl, h3, h4⟩ := w.lst r1 hy
    refine ⟨p, b, vs, us, rfl, rfl, h1, h3, by rw [h2.length, h4.length]; exact hl, ?_⟩
    obtain ⟨w2, f2⟩ := w.write hp (o := .lst (vs ++ us)) (c' := .lst (ys ++ zs)) fun H' e => ⟨_, e, h2.append h4⟩
    exact q _ _ _ _ _ f2 w2 .non hk
theorem x_extend (h : WE X o env C fun x C1 => tyD "list" C1 x ∧ WA X (e :: es) env C1 fun ds C2 => dExtend x ds C2 k) (hbase : attributeBase o "extend" X.env (eval o X.env) = eval o X.env := by rfl)
    (hfew : ((backTo cpos (starEach (e :: es) X.env)).all (fun x => !x.1) && (backToKw cpos (keywordEach [] X.env)).all (fun x => x.1.isSome)
      && decide ((e :: es).length + ([] : List Keyword).length + (if ([] : List Keyword).isEmpty then 0 else 1) < 30)) = true := by rfl)
    (hline : (apos.endLine == cpos.line) = true := by rfl) (hs : starEach (e :: es) X.env = (false, eval e X.env) :: starEach es X.env := by rfl) (hplain : (backTo cpos (starEach es X.env)).any (·.1) = false := by rfl) :
    WE X (.Call (.Attribute o "extend" apos) (e :: es) [] cpos) env C k :=
  we_bm PySem.F.plainAttrs_list PySem.F.slot_list_extend PySem.F.type_list_extend mt_extend rm_extend h hbase hfew hline hs hplain
end
/-! ### classmethods -/
section
variable {X : Cx} {CT : CXT} {n : Nat} {fa Ca pa : Addr} {mc : Value} {fd : FuncData} {ps : List Str} {sp : Sp} {E : XK} {x m : Str} {p pos apos : Pos} {e o : Expr} {es : List Expr} {ta : TE} {t : TA} {dvs : List V} {ds : List Value}
theorem goDc {pins : List (Addr × Obj)} {σ : L2.St} {H : Hp} {s : Shared} {Q : VK} {us : List Value} {as : List V} (F : FnG X.prog X.w X.K X.mg X.base CT n fa fd ps sp) (hgd : X.A.guards = some []) (hr : Room n X.A) (hb : Binds X.K fd ps ds) (hd : Vals dvs ds) (hx : Passes CT X E)
    (I : Inv X pins σ H s) (r : Vals as us) (h : sp (as ++ dvs) H Q E) : codeAny (model X.prog X.w) X.A (.call (.ref fa) ⟨us, []⟩) (fun r s' => match r with | .error e => X.xe e s' | .ok (.ret u) => EP X pins σ Q u s' | _ => False) s := by
  have r2 : Vals (as ++ dvs) (us ++ ds) := r.append hd
  have hlen : (us ++ ds).length = ps.length := by
    rw [← r2.length]
    exact F.len _ _ _ _ h
  refine codeAny_mono (F.run hgd hr I.env0 (hb s us I.kIn hlen) r2 h) ?_
  intro res s' z
  match res, z with
  | .error e, z => exact hx pins σ H s e s' I z
  | .ok (.ret u), z => exact I.after z
/-- C.m(e, ..), m a classmethod -/
def tCMethG (C : Addr) (sp : Sp) (dvs : List V) (E : XK) (ta : TE) (t : TA) : TE := fun σ H Q => ta σ H fun x H1 => x = .ref C ∧ t σ H1 fun vs H2 => sp (.ref C :: (vs ++ dvs)) H2 Q E
theorem pe_cmethG {pl : Sem Bool} (he : PE X o ta) (r : ClX.CRead X.K Ca mc) (c : ClX.CMet X.K Ca mc m pa fa) (F : FnG X.prog X.w X.K X.mg X.base CT n fa fd ps sp) (hgd : X.A.guards = some []) (hr : Room n X.A) (hb : Binds X.K fd ps ds) (hd : Vals dvs ds) (hx : Passes CT X E) (ha : PA X (e :: es) t)
    (hst : starEach (e :: es) X.env = (false, eval e X.env) :: starEach es X.env := by rfl) (hpl : (backTo pos (starEach es X.env)).any (·.1) = false := by rfl)
    (ht : eval (.Call (.Attribute o m apos) (e :: es) [] pos) X.env = (do
      let ov ← eval o X.env
      standAt apos.atName
      let (f, first) ← holding [ov] (getMethod ov m pl)
      callWith pos f first (backTo pos (starEach (e :: es) X.env)) (backToKw pos (keywordEach [] X.env))) := by rfl) :
    PE X (.Call (.Attribute o m apos) (e :: es) [] pos) (tCMethG Ca sp dvs E ta t) := by
  refine ⟨fun pins s σ H Q I h => ?_⟩
  refine PySem.W.methodCall_KW (pl := pl) (thn (he.run pins s σ H _ I h) fun u s1 ⟨x, H1, I1, rx, ex, q⟩ => ?_) ht
  subst ex
  obtain rfl : u = Value.ref Ca := rx
  refine ClX.getmethcm_ok I1 r c fun s2 I2 => ?_
  refine ClX.callwith_cm I2 (ClX.base_none I1 (Nat.le_refl _)) c.fi (thn (ha.run pos _ s2 σ H1 _ I2 q) fun us s3 ⟨vs, H2, I3, rv, q2⟩ => ⟨⟨ClX.pin_at I3, I3.kIn⟩, ?_⟩) hst hpl
  have z := goDc (us := .ref Ca :: us) (as := .ref Ca :: vs) F hgd hr hb hd hx I3 (.cons rfl rv) q2
  have zz : wpAny (model X.prog X.w) X.A (call (.ref s1.heap.objs.size) us) (EP X ((s1.heap.objs.size, PySem.W.methodObj (.ref fa) (.ref Ca)) :: pins) σ Q) X.xe s3 := by
    refine wpAny_call (PySem.W.method_call (ClX.pin_at I3) (codeAny_mono z ?_))
    intro res s' y
    match res, y with
    | .error e, y => exact y
    | .ok (.ret u), y => exact y
  exact thn zz fun _ _ y => ClX.unpinE y
/-- x(e, ..), x a local name that holds the class -/
def tMakeL (i : Nat) (C : Addr) (sp : Sp) (dvs : List V) (E : XK) (t : TA) : TE := fun σ H Q => σ[i]? = some (some (.ref C)) ∧ tMake C sp dvs E t σ H Q
theorem pe_makeL {i : Nat} (hN : X.N[i]? = some x) (hv : Vis X.env.scope x) (M : Mk X.K Ca fa) (F : FnG X.prog X.w X.K X.mg X.base CT n fa fd ps sp) (hgd : X.A.guards = some []) (hr : Room (n + 1) X.A) (hb : Binds X.K fd ps ds) (hd : Vals dvs ds) (hx : Passes CT X E)
    (ha : PA X (e :: es) t) (hdb : (x == ("__debug__" : Str)) = false := by decide) (hcd : (x == ("__classdict__" : Str)) = false := by decide) (he : starEach (e :: es) X.env = (false, eval e X.env) :: starEach es X.env := by rfl) (hpl : (backTo pos (starEach es X.env)).any (·.1) = false := by rfl) :
    PE X (.Call (.Name x p) (e :: es) [] pos) (tMakeL i Ca sp dvs E t) := by
  refine ⟨fun pins s σ H Q I h => ?_⟩
  obtain ⟨hs, ht⟩ := h
  refine wpAny_Call_Name_kw (thn ((pe_var (pos := p) hN hv hdb hcd).run pins s σ H (fun v H1 => v = .ref Ca ∧ H1 = H) I ⟨.ref Ca, hs, rfl, rfl⟩) fun u s1 ⟨v, H1, I1, r1, q1⟩ => ?_)
  obtain ⟨rfl, rfl⟩ := q1
  cases r1
  refine PySem.W.callWith_K (h₀ := X.base) I1.ok.mod.kin M.kp (thn (ha.run pos pins s1 σ _ _ I1 ht) fun us s2 ⟨vs, H2, I2, r, q⟩ => ⟨I2.kIn, ?_⟩) he hpl
  exact makeG M F hgd hr hb hd hx I2 r q
end
/-- x is a class of the module, m a classmethod of it -/
def CmtC (P : Program) (w : World) (K : PySem.W.Frag) (mg : Str → Option Value) (base : Heap) (x : Str) (Cl : Addr) (m : Str) (n : Nat) (dfl : List D) (S : DSp) : Prop :=
  mg x = some (.ref Cl) ∧ ∃ mc p g, ClX.CRead K Cl mc ∧ ClX.CMet K Cl mc m p g ∧ FnA P w K mg base g n dfl S
section
variable {P : Program} {w : World} {K : PySem.W.Frag} {mg : Str → Option Value} {base : Heap} {j n : Nat} {X : Cx} {Cl : Addr} {m f x : Str} {S : DSp} {dfl : List D} {e o v : Expr} {es : List Expr} {env : DEnv} {C : CS} {k : KD} {pos p apos pos' : Pos} {E : DEnds}
theorem x_cmeth (hx : Ctx P w K mg base j X) (hM : CmtC P w K mg base x Cl m n dfl S) (hg : Gl X x) (h : WA X (e :: es) env C fun ds C1 => S (.opq (.ref Cl) :: (ds ++ dfl)) C1 k) (hle : n ≤ j := by decide) (hdb : (x == ("__debug__" : Str)) = false := by decide)
    (hst : starEach (e :: es) X.env = (false, eval e X.env) :: starEach es X.env := by rfl) (hpl : (backTo pos (starEach es X.env)).any (·.1) = false := by rfl) {pl : Sem Bool}
    (ht : eval (.Call (.Attribute (.Name x p) m apos) (e :: es) [] pos) X.env = (do
      let ov ← eval (.Name x p) X.env
      standAt apos.atName
      let (f, first) ← holding [ov] (getMethod ov m pl)
      callWith pos f first (backTo pos (starEach (e :: es) X.env)) (backToKw pos (keywordEach [] X.env))) := by rfl) : WE X (.Call (.Attribute (.Name x p) m apos) (e :: es) [] pos) env C k := by
  obtain ⟨hmg, mc, pa, fa, hr, hc, fd, ps, ds, dvs, F, hb, hd, hdat⟩ := hM
  have hroom := hx.room
  obtain ⟨e1, e2, e3, e4, e5, _, hgd, hcalm⟩ := hx
  subst e1 e2 e3 e4 e5
  have hpe : PE X (.Name x p) (tC (.ref Cl)) := pe_glob hg hmg rfl hdb
  refine .of (pe_cmethG hpe hr hc F hgd (hroom.mono hle) hb hd pass0 pa_tAr hst hpl ht) fun G σ H Q w er q => ?_
  refine ⟨rfl, h G σ H _ w er fun vs G2 C2 H2 ds2 f2 w2 r2 zz => ?_⟩
  exact toSp_ok (ds := .opq (.ref Cl) :: ds2) (vs := .ref Cl :: vs) w2 (.cons (.opq _) r2) hdat f2 q zz
theorem x_makeL {N M : List Str} {d : D} (hx : Ctx P w K mg base j X) {y : Str} (hM : MakC P w K mg base y Cl n dfl S) (B : Nms X N M) (hm' : Mem x M) (hi : Get N x env d) (hd' : d = .opq (.ref Cl)) (h : WA X (e :: es) env C fun ds C1 => ∀ a, C1 a = none → S (.own a :: (ds ++ dfl)) (put C1 a (.ins Cl [] [])) fun d C2 => d = .non ∧ k (.own a) C2) (hle : n + 1 ≤ j := by decide)
    (he : starEach (e :: es) X.env = (false, eval e X.env) :: starEach es X.env := by rfl) (hpl : (backTo pos (starEach es X.env)).any (·.1) = false := by rfl) : WE X (.Call (.Name x p) (e :: es) [] pos) env C k := by
  obtain ⟨hmg, fa, hm, fd, ps, ds, dvs, F, hb, hd, hdat⟩ := hM
  obtain ⟨i, h1, h2⟩ := hi.get
  have hmm : x ∈ M := hm'.mem
  have hroom := hx.room
  obtain ⟨e1, e2, e3, e4, e5, _, hgd, hcalm⟩ := hx
  subst e1 e2 e3 e4 e5
  refine .of (pe_makeL (i := i) (by rw [B.n]; exact h1) (B.vis x hmm) hm F hgd (hroom.mono hle) hb hd pass0 pa_tAr (B.ndb x hmm) (B.ncd x hmm) he hpl) fun G σ H Q w er q => ?_
  refine ⟨?_, h G σ H _ w er fun vs G1 C1 H1 ds1 f1 w1 r1 z => fun a dx ha hdx hne => ?_⟩
  · obtain ⟨v, g1, g2⟩ := er.2 i d h2
    subst hd'
    cases g2
    exact g1
  · obtain ⟨w3, f3⟩ := made_ok (Cl := Cl) w1 ha hdx hne
    refine toSp_ok (ds := .own a :: ds1) (vs := .ref a :: vs) (k := fun d C2 => d = .non ∧ k (.own a) C2) w3 (.cons (.own a) (r1.mono f3.exG)) hdat (Fr.refl ..) ?_ (z a (w1.ne ha).2)
    rintro v G2 C2 H2 d f2 w2 r2 ⟨rfl, zk⟩
    cases r2
    exact ⟨rfl, q _ _ _ _ _ ((f1.trans f3).trans f2) w2 (.own a) zk⟩
/-- an instance's cell that a name holds is frozen -/
theorem wss_frzIns {X : Cx} {sts : List Stmt} {env : DEnv} {C : CS} {E : DEnds} (i : Nat) {p Cl : Addr} {ks : List Str} {xs : List D} (he : env[i]? = some (some (.own p))) (hc : C p = some (.ins Cl ks xs)) (h : WSs X sts (env.set i (some (.obj Cl ks xs))) (del C p) E) : WSs X sts env C E := fun G σ H D0 w er q => by
  obtain ⟨G', w', f', r'⟩ := w.freezeI hc
  refine h G' σ H D0 w' ?_ (q.after f')
  refine ⟨by rw [List.length_set]; exact er.1, fun j d hj => ?_⟩
  by_cases hij : i = j
  · subst hij
    have hl : i < env.length := (List.getElem?_eq_some_iff.mp he).1
    rw [List.getElem?_set_self hl] at hj
    obtain rfl := Option.some.inj (Option.some.inj hj)
    obtain ⟨v, g1, g2⟩ := er.2 i _ he
    cases g2
    exact ⟨_, g1, r'⟩
  · rw [List.getElem?_set_ne hij] at hj
    obtain ⟨v, g1, g2⟩ := er.2 j d hj
    exact ⟨v, g1, g2.mono f'.exG⟩
end
/-! ### cells that stay: all but bs -/
def Fx (bs : List Addr) (C C' : CS) : Prop := ∀ q, q ∉ bs → C q ≠ none → C' q = C q
theorem Fx.refl {bs : List Addr} (C : CS) : Fx bs C C := fun _ _ _ => rfl
theorem Fx.trans {bs : List Addr} {C C1 C2 : CS} (h1 : Fx bs C C1) (h2 : Fx bs C1 C2) : Fx bs C C2 := fun q a b => by
  have e := h1 q a b
  rw [h2 q a (by rw [e]; exact b), e]
theorem Fx.mono {bs cs : List Addr} {C C1 : CS} (h : Fx bs C C1) (hs : ∀ q, q ∈ bs → q ∈ cs) : Fx cs C C1 := fun q a b => h q (fun z => a (hs q z)) b
theorem Fx.put {bs : List Addr} {C C1 : CS} {a : Addr} {c : Cell} (h : Fx bs C C1) (ha : a ∈ bs ∨ C a = none) : Fx bs C (DL.put C1 a c) := fun q x y => by
  by_cases e : q = a
  · subst e
    rcases ha with ha | ha
    · exact absurd ha x
    · exact absurd ha y
  · rw [put_ne e]; exact h q x y
theorem Fx.at {bs : List Addr} {C C1 : CS} {a : Addr} {c : Cell} (h : Fx bs C C1) (ha : a ∉ bs) (e : C a = some c) : C1 a = some c := by rw [h a ha (by rw [e]; simp)]; exact e
theorem Fx.new {bs : List Addr} {a : Addr} {C C1 C2 : CS} (h2 : Fx (a :: bs) C1 C2) (h : Fx bs C C1) (ha : C a = none) : Fx bs C C2 := fun q x y => by
  have hq : q ≠ a := fun e => y (e ▸ ha)
  have e := h q x y
  rw [h2 q (by simp [hq, x]) (by rw [e]; exact y), e]
theorem Fx.put1 {C : CS} {a : Addr} {c : Cell} : Fx [a] C (DL.put C a c) := (Fx.refl C).put (.inl (by simp))
theorem Fx.del {bs : List Addr} {C C1 : CS} {a : Addr} (h : Fx bs C C1) (ha : a ∈ bs ∨ C a = none) : Fx bs C (DL.del C1 a) := fun q x y => by
  by_cases e : q = a
  · subst e
    rcases ha with ha | ha
    · exact absurd ha x
    · exact absurd ha y
  · rw [del_ne e]; exact h q x y
end DL
/-! DMb: a place where a walk stops. -/
namespace DL
open PySem PySem.Spec PyProof.Rows L2
/-- what follows, not looked into -/
def WSh (X : Cx) (sts : List Stmt) (env : DEnv) (C : CS) (E : DEnds) : Prop := WSs X sts env C E
theorem wss_consH {X : Cx} {st : Stmt} {rest : List Stmt} {env : DEnv} {C : CS} {E : DEnds} (h : WS X st env C { E with nx := fun env' C' => WSh X rest env' C' E }) : WSs X (st :: rest) env C E := wss_cons h
theorem wsh_go {X : Cx} {sts : List Stmt} {env : DEnv} {C : CS} {E : DEnds} (h : WSs X sts env C E) : WSh X sts env C E := h
section
variable {C : CS} {k : KD} {a b : Addr} {xs ys : List D} {n m : Nat}
theorem ne_ol (ha : C a = some (.lst xs)) (hx : ∀ d ∈ xs, d.fit n = true) (hy : ∀ d ∈ ys, d.fit m = true) (hn : n < 64) (hm : m < 64) (q : k (.bl (!eqL xs ys)) C) : dEq true (.own a) (.lst ys) C k := by
  refine .inl ⟨_, .list (pyL ys), pyC_own ha hx, ?_, shaped_lst hx hn, shaped_lst hy hm, q⟩
  unfold pyC
  simp only [D.isPy, fitL_py ys (fitL_all.mpr hy), if_true, D.py]
theorem ne_oo (ha : C a = some (.lst xs)) (hb : C b = some (.lst ys)) (hx : ∀ d ∈ xs, d.fit n = true) (hy : ∀ d ∈ ys, d.fit m = true) (hn : n < 64) (hm : m < 64) (q : k (.bl (!eqL xs ys)) C) : dEq true (.own a) (.own b) C k :=
  .inl ⟨_, _, pyC_own ha hx, pyC_own hb hy, shaped_lst hx hn, shaped_lst hy hm, q⟩
end
/-- *a, b = a tuple -/
theorem wg_starL {X : Cx} {env : DEnv} {C : CS} {pos : Pos} {ts : List Expr} {n : Nat} {T : List D} {l : D} {kE : DEnv → CS → Prop} (hc : X.calm = true) (hm : (assignEach ts X.env).length = 2) (hst : (assignEach ts X.env).findIdx? (·.1) = some 0)
    (h : ∀ q, C q = none → WGs X ts [.own q, l] env (put C q (.lst T)) kE) : WG X (.Tuple ts n pos) (.tup (T ++ [l])) env C kE := by
  refine wg_tupS (m := 2) (i := 0) hc hm hst (by decide) (by simp) fun q hq => ?_
  have e1 : ((T ++ [l]).take 0 ++ [.own q] ++ (T ++ [l]).drop ((T ++ [l]).length - (2 - 1 - 0))) = [.own q, l] := by simp
  have e2 : ((T ++ [l]).drop 0).take ((T ++ [l]).length - (2 - 1)) = T := by simp
  rw [e1, e2]
  exact h q hq
end DL
namespace K31
open PySem L2 DL
def top (i : Nat) : Stmt := PySem.Challenge.pw_chainedreports_k05_chains_along.main.body.getD i (.Pass ⟨0, 0, 0, 0⟩)

/-! _wall -/
abbrev s__wall : Stmt := top 0
abbrev N__wall : List Str := ["k"]
abbrev M__wall : List Str := ["k"]
abbrev P__wall : List Str := ["k"]
abbrev G__wall : List Str := []
theorem sc__wall : FnScope N__wall P__wall (defScope s__wall) := ⟨rfl, rfl, rfl, by decide +kernel, rfl, by decide +kernel, by decide +kernel⟩
theorem v__wall : visC (defScope s__wall) M__wall = true := by decide +kernel
theorem l__wall : locC (defScope s__wall) M__wall = true := by decide +kernel
abbrev D__wall : List Str := []
theorem g__wall : glC (defScope s__wall) D__wall = true := by decide +kernel

/-! NoRecord.__init__ -/
abbrev s_NoRecord___init__ : Stmt := inClass (top 2) 0
abbrev N_NoRecord___init__ : List Str := ["self", "index"]
abbrev M_NoRecord___init__ : List Str := ["self", "index"]
abbrev P_NoRecord___init__ : List Str := ["self", "index"]
abbrev G_NoRecord___init__ : List Str := ["TypeError"]
theorem sc_NoRecord___init__ : FnScope N_NoRecord___init__ P_NoRecord___init__ (defScope s_NoRecord___init__) := ⟨rfl, rfl, rfl, by decide +kernel, rfl, by decide +kernel, by decide +kernel⟩
theorem v_NoRecord___init__ : visC (defScope s_NoRecord___init__) M_NoRecord___init__ = true := by decide +kernel
theorem l_NoRecord___init__ : locC (defScope s_NoRecord___init__) M_NoRecord___init__ = true := by decide +kernel
abbrev D_NoRecord___init__ : List Str := ["TypeError"]
theorem g_NoRecord___init__ : glC (defScope s_NoRecord___init__) D_NoRecord___init__ = true := by decide +kernel

/-! NoLimit.__init__ -/
abbrev s_NoLimit___init__ : Stmt := inClass (top 3) 0
abbrev N_NoLimit___init__ : List Str := ["self", "name"]
abbrev M_NoLimit___init__ : List Str := ["self", "name"]
abbrev P_NoLimit___init__ : List Str := ["self", "name"]
abbrev G_NoLimit___init__ : List Str := ["ArithmeticError"]
theorem sc_NoLimit___init__ : FnScope N_NoLimit___init__ P_NoLimit___init__ (defScope s_NoLimit___init__) := ⟨rfl, rfl, rfl, by decide +kernel, rfl, by decide +kernel, by decide +kernel⟩
theorem v_NoLimit___init__ : visC (defScope s_NoLimit___init__) M_NoLimit___init__ = true := by decide +kernel
theorem l_NoLimit___init__ : locC (defScope s_NoLimit___init__) M_NoLimit___init__ = true := by decide +kernel
abbrev D_NoLimit___init__ : List Str := ["ArithmeticError"]
theorem g_NoLimit___init__ : glC (defScope s_NoLimit___init__) D_NoLimit___init__ = true := by decide +kernel

/-! NoEntry.__init__ -/
abbrev s_NoEntry___init__ : Stmt := inClass (top 4) 0
abbrev N_NoEntry___init__ : List Str := ["self", "number"]
abbrev M_NoEntry___init__ : List Str := ["self", "number"]
abbrev P_NoEntry___init__ : List Str := ["self", "number"]
abbrev G_NoEntry___init__ : List Str := ["IndexError"]
theorem sc_NoEntry___init__ : FnScope N_NoEntry___init__ P_NoEntry___init__ (defScope s_NoEntry___init__) := ⟨rfl, rfl, rfl, by decide +kernel, rfl, by decide +kernel, by decide +kernel⟩
theorem v_NoEntry___init__ : visC (defScope s_NoEntry___init__) M_NoEntry___init__ = true := by decide +kernel
theorem l_NoEntry___init__ : locC (defScope s_NoEntry___init__) M_NoEntry___init__ = true := by decide +kernel
abbrev D_NoEntry___init__ : List Str := ["IndexError"]
theorem g_NoEntry___init__ : glC (defScope s_NoEntry___init__) D_NoEntry___init__ = true := by decide +kernel

/-! is_integer -/
abbrev s_is_integer : Stmt := top 14
abbrev N_is_integer : List Str := ["thing"]
abbrev M_is_integer : List Str := ["thing"]
abbrev P_is_integer : List Str := ["thing"]
abbrev G_is_integer : List Str := ["isinstance", "int", "bool"]
theorem sc_is_integer : FnScope N_is_integer P_is_integer (defScope s_is_integer) := ⟨rfl, rfl, rfl, by decide +kernel, rfl, by decide +kernel, by decide +kernel⟩
theorem v_is_integer : visC (defScope s_is_integer) M_is_integer = true := by decide +kernel
theorem l_is_integer : locC (defScope s_is_integer) M_is_integer = true := by decide +kernel
abbrev D_is_integer : List Str := ["isinstance", "int", "bool"]
theorem g_is_integer : glC (defScope s_is_integer) D_is_integer = true := by decide +kernel

/-! in_range -/
abbrev s_in_range : Stmt := top 15
abbrev N_in_range : List Str := ["thing", "low", "high"]
abbrev M_in_range : List Str := ["thing", "low", "high"]
abbrev P_in_range : List Str := ["thing", "low", "high"]
abbrev G_in_range : List Str := ["is_integer"]
theorem sc_in_range : FnScope N_in_range P_in_range (defScope s_in_range) := ⟨rfl, rfl, rfl, by decide +kernel, rfl, by decide +kernel, by decide +kernel⟩
theorem v_in_range : visC (defScope s_in_range) M_in_range = true := by decide +kernel
theorem l_in_range : locC (defScope s_in_range) M_in_range = true := by decide +kernel
abbrev D_in_range : List Str := ["is_integer"]
theorem g_in_range : glC (defScope s_in_range) D_in_range = true := by decide +kernel

/-! is_from -/
abbrev s_is_from : Stmt := top 16
abbrev N_is_from : List Str := ["thing", "low"]
abbrev M_is_from : List Str := ["thing", "low"]
abbrev P_is_from : List Str := ["thing", "low"]
abbrev G_is_from : List Str := ["is_integer"]
theorem sc_is_from : FnScope N_is_from P_is_from (defScope s_is_from) := ⟨rfl, rfl, rfl, by decide +kernel, rfl, by decide +kernel, by decide +kernel⟩
theorem v_is_from : visC (defScope s_is_from) M_is_from = true := by decide +kernel
theorem l_is_from : locC (defScope s_is_from) M_is_from = true := by decide +kernel
abbrev D_is_from : List Str := ["is_integer"]
theorem g_is_from : glC (defScope s_is_from) D_is_from = true := by decide +kernel

/-! is_name -/
abbrev s_is_name : Stmt := top 17
abbrev N_is_name : List Str := ["thing", "sign"]
abbrev M_is_name : List Str := ["thing"]
abbrev P_is_name : List Str := ["thing"]
abbrev G_is_name : List Str := ["all", "isinstance", "str", "MOST_LETTERS", "LETTERS", "len"]
theorem sc_is_name : FnScope N_is_name P_is_name (defScope s_is_name) := ⟨rfl, rfl, rfl, by decide +kernel, rfl, by decide +kernel, by decide +kernel⟩
theorem v_is_name : visC (defScope s_is_name) M_is_name = true := by decide +kernel
theorem l_is_name : locC (defScope s_is_name) M_is_name = true := by decide +kernel
abbrev D_is_name : List Str := ["all", "isinstance", "str", "MOST_LETTERS", "len"]
theorem g_is_name : glC (defScope s_is_name) D_is_name = true := by decide +kernel
-- comprehension at 38: own ["sign"] reads ["sign", "thing"] globals ["LETTERS"]

/-! is_line -/
abbrev s_is_line : Stmt := top 18
abbrev N_is_line : List Str := ["thing"]
abbrev M_is_line : List Str := ["thing"]
abbrev P_is_line : List Str := ["thing"]
abbrev G_is_line : List Str := ["isinstance", "str", "FEED"]
theorem sc_is_line : FnScope N_is_line P_is_line (defScope s_is_line) := ⟨rfl, rfl, rfl, by decide +kernel, rfl, by decide +kernel, by decide +kernel⟩
theorem v_is_line : visC (defScope s_is_line) M_is_line = true := by decide +kernel
theorem l_is_line : locC (defScope s_is_line) M_is_line = true := by decide +kernel
abbrev D_is_line : List Str := ["isinstance", "str", "FEED"]
theorem g_is_line : glC (defScope s_is_line) D_is_line = true := by decide +kernel

/-! is_text -/
abbrev s_is_text : Stmt := top 19
abbrev N_is_text : List Str := ["thing"]
abbrev M_is_text : List Str := ["thing"]
abbrev P_is_text : List Str := ["thing"]
abbrev G_is_text : List Str := ["isinstance", "str"]
theorem sc_is_text : FnScope N_is_text P_is_text (defScope s_is_text) := ⟨rfl, rfl, rfl, by decide +kernel, rfl, by decide +kernel, by decide +kernel⟩
theorem v_is_text : visC (defScope s_is_text) M_is_text = true := by decide +kernel
theorem l_is_text : locC (defScope s_is_text) M_is_text = true := by decide +kernel
abbrev D_is_text : List Str := ["isinstance", "str"]
theorem g_is_text : glC (defScope s_is_text) D_is_text = true := by decide +kernel

/-! is_shown -/
abbrev s_is_shown : Stmt := top 20
abbrev N_is_shown : List Str := ["thing"]
abbrev M_is_shown : List Str := ["thing"]
abbrev P_is_shown : List Str := ["thing"]
abbrev G_is_shown : List Str := ["TEXT", "is_line", "LACK", "isinstance", "str", "LACKS", "tuple", "len"]
theorem sc_is_shown : FnScope N_is_shown P_is_shown (defScope s_is_shown) := ⟨rfl, rfl, rfl, by decide +kernel, rfl, by decide +kernel, by decide +kernel⟩
theorem v_is_shown : visC (defScope s_is_shown) M_is_shown = true := by decide +kernel
theorem l_is_shown : locC (defScope s_is_shown) M_is_shown = true := by decide +kernel
abbrev D_is_shown : List Str := ["TEXT", "is_line", "LACK", "isinstance", "str", "LACKS", "tuple", "len"]
theorem g_is_shown : glC (defScope s_is_shown) D_is_shown = true := by decide +kernel

/-! is_row -/
abbrev s_is_row : Stmt := top 21
abbrev N_is_row : List Str := ["thing", "file", "edition", "line", "function", "shown"]
abbrev M_is_row : List Str := ["thing", "file", "edition", "line", "function", "shown"]
abbrev P_is_row : List Str := ["thing"]
abbrev G_is_row : List Str := ["is_from", "isinstance", "tuple", "len", "is_name", "is_shown"]
theorem sc_is_row : FnScope N_is_row P_is_row (defScope s_is_row) := ⟨rfl, rfl, rfl, by decide +kernel, rfl, by decide +kernel, by decide +kernel⟩
theorem v_is_row : visC (defScope s_is_row) M_is_row = true := by decide +kernel
theorem l_is_row : locC (defScope s_is_row) M_is_row = true := by decide +kernel
abbrev D_is_row : List Str := ["is_from", "isinstance", "tuple", "len", "is_name", "is_shown"]
theorem g_is_row : glC (defScope s_is_row) D_is_row = true := by decide +kernel

/-! is_gap -/
abbrev s_is_gap : Stmt := top 22
abbrev N_is_gap : List Str := ["thing"]
abbrev M_is_gap : List Str := ["thing"]
abbrev P_is_gap : List Str := ["thing"]
abbrev G_is_gap : List Str := ["isinstance", "str", "GAP", "is_from", "tuple", "len"]
theorem sc_is_gap : FnScope N_is_gap P_is_gap (defScope s_is_gap) := ⟨rfl, rfl, rfl, by decide +kernel, rfl, by decide +kernel, by decide +kernel⟩
theorem v_is_gap : visC (defScope s_is_gap) M_is_gap = true := by decide +kernel
theorem l_is_gap : locC (defScope s_is_gap) M_is_gap = true := by decide +kernel
abbrev D_is_gap : List Str := ["isinstance", "str", "GAP", "is_from", "tuple", "len"]
theorem g_is_gap : glC (defScope s_is_gap) D_is_gap = true := by decide +kernel

/-! bad_row -/
abbrev s_bad_row : Stmt := top 23
abbrev N_bad_row : List Str := ["rows", "at", "item"]
abbrev M_bad_row : List Str := ["rows", "at", "item"]
abbrev P_bad_row : List Str := ["rows"]
abbrev G_bad_row : List Str := ["enumerate", "is_row", "is_gap"]
theorem sc_bad_row : FnScope N_bad_row P_bad_row (defScope s_bad_row) := ⟨rfl, rfl, rfl, by decide +kernel, rfl, by decide +kernel, by decide +kernel⟩
theorem v_bad_row : visC (defScope s_bad_row) M_bad_row = true := by decide +kernel
theorem l_bad_row : locC (defScope s_bad_row) M_bad_row = true := by decide +kernel
abbrev D_bad_row : List Str := ["enumerate", "is_row", "is_gap"]
theorem g_bad_row : glC (defScope s_bad_row) D_bad_row = true := by decide +kernel

/-! size_of -/
abbrev s_size_of : Stmt := top 24
abbrev N_size_of : List Str := ["item"]
abbrev M_size_of : List Str := ["item"]
abbrev P_size_of : List Str := ["item"]
abbrev G_size_of : List Str := ["len"]
theorem sc_size_of : FnScope N_size_of P_size_of (defScope s_size_of) := ⟨rfl, rfl, rfl, by decide +kernel, rfl, by decide +kernel, by decide +kernel⟩
theorem v_size_of : visC (defScope s_size_of) M_size_of = true := by decide +kernel
theorem l_size_of : locC (defScope s_size_of) M_size_of = true := by decide +kernel
abbrev D_size_of : List Str := ["len"]
theorem g_size_of : glC (defScope s_size_of) D_size_of = true := by decide +kernel

/-! closed -/
abbrev s_closed : Stmt := top 25
abbrev N_closed : List Str := ["items", "found", "item"]
abbrev M_closed : List Str := ["items", "found", "item"]
abbrev P_closed : List Str := ["items"]
abbrev G_closed : List Str := ["tuple", "GAP", "len"]
theorem sc_closed : FnScope N_closed P_closed (defScope s_closed) := ⟨rfl, rfl, rfl, by decide +kernel, rfl, by decide +kernel, by decide +kernel⟩
theorem v_closed : visC (defScope s_closed) M_closed = true := by decide +kernel
theorem l_closed : locC (defScope s_closed) M_closed = true := by decide +kernel
abbrev D_closed : List Str := ["tuple", "GAP", "len"]
theorem g_closed : glC (defScope s_closed) D_closed = true := by decide +kernel

/-! shortened -/
abbrev s_shortened : Stmt := top 26
abbrev N_shortened : List Str := ["rows", "first", "last", "whole", "item", "low", "high", "found", "at", "size", "is_kept"]
abbrev M_shortened : List Str := ["rows", "first", "last", "whole", "item", "low", "high", "found", "at", "size", "is_kept"]
abbrev P_shortened : List Str := ["rows", "first", "last"]
abbrev G_shortened : List Str := ["sum", "closed", "size_of", "GAP", "len"]
theorem sc_shortened : FnScope N_shortened P_shortened (defScope s_shortened) := ⟨rfl, rfl, rfl, by decide +kernel, rfl, by decide +kernel, by decide +kernel⟩
theorem v_shortened : visC (defScope s_shortened) M_shortened = true := by decide +kernel
theorem l_shortened : locC (defScope s_shortened) M_shortened = true := by decide +kernel
abbrev D_shortened : List Str := ["sum", "closed", "size_of", "GAP", "len"]
theorem g_shortened : glC (defScope s_shortened) D_shortened = true := by decide +kernel
-- comprehension at 80: own ["item"] reads ["item", "rows"] globals ["size_of"]

/-! is_counted -/
abbrev s_is_counted : Stmt := top 33
abbrev N_is_counted : List Str := ["thing", "word"]
abbrev M_is_counted : List Str := ["thing", "word"]
abbrev P_is_counted : List Str := ["thing", "word"]
abbrev G_is_counted : List Str := ["is_from", "isinstance", "tuple", "len", "str"]
theorem sc_is_counted : FnScope N_is_counted P_is_counted (defScope s_is_counted) := ⟨rfl, rfl, rfl, by decide +kernel, rfl, by decide +kernel, by decide +kernel⟩
theorem v_is_counted : visC (defScope s_is_counted) M_is_counted = true := by decide +kernel
theorem l_is_counted : locC (defScope s_is_counted) M_is_counted = true := by decide +kernel
abbrev D_is_counted : List Str := ["is_from", "isinstance", "tuple", "len", "str"]
theorem g_is_counted : glC (defScope s_is_counted) D_is_counted = true := by decide +kernel

/-! are_members -/
abbrev s_are_members : Stmt := top 34
abbrev N_are_members : List Str := ["thing", "many", "last", "numbers", "number"]
abbrev M_are_members : List Str := ["thing", "many", "last", "numbers"]
abbrev P_are_members : List Str := ["thing", "many"]
abbrev G_are_members : List Str := ["is_counted", "DEEP", "MORE", "all", "isinstance", "tuple", "len", "in_range"]
theorem sc_are_members : FnScope N_are_members P_are_members (defScope s_are_members) := ⟨rfl, rfl, rfl, by decide +kernel, rfl, by decide +kernel, by decide +kernel⟩
theorem v_are_members : visC (defScope s_are_members) M_are_members = true := by decide +kernel
theorem l_are_members : locC (defScope s_are_members) M_are_members = true := by decide +kernel
abbrev D_are_members : List Str := ["is_counted", "DEEP", "MORE", "all", "isinstance", "tuple", "len"]
theorem g_are_members : glC (defScope s_are_members) D_are_members = true := by decide +kernel
-- comprehension at 109: own ["number"] reads ["number", "numbers", "many"] globals ["in_range"]

/-! is_link -/
abbrev s_is_link : Stmt := top 35
abbrev N_is_link : List Str := ["thing", "many"]
abbrev M_is_link : List Str := ["thing", "many"]
abbrev P_is_link : List Str := ["thing", "many"]
abbrev G_is_link : List Str := ["isinstance", "tuple", "len", "str", "CAUSE", "CONTEXT", "in_range"]
theorem sc_is_link : FnScope N_is_link P_is_link (defScope s_is_link) := ⟨rfl, rfl, rfl, by decide +kernel, rfl, by decide +kernel, by decide +kernel⟩
theorem v_is_link : visC (defScope s_is_link) M_is_link = true := by decide +kernel
theorem l_is_link : locC (defScope s_is_link) M_is_link = true := by decide +kernel
abbrev D_is_link : List Str := ["isinstance", "tuple", "len", "str", "CAUSE", "CONTEXT", "in_range"]
theorem g_is_link : glC (defScope s_is_link) D_is_link = true := by decide +kernel

/-! is_entry -/
abbrev s_is_entry : Stmt := top 36
abbrev N_is_entry : List Str := ["thing", "many", "kind", "message", "notes", "rows", "members", "link", "note"]
abbrev M_is_entry : List Str := ["thing", "many", "kind", "message", "notes", "rows", "members", "link"]
abbrev P_is_entry : List Str := ["thing", "many"]
abbrev G_is_entry : List Str := ["MOST_ROWS", "are_members", "is_link", "isinstance", "tuple", "len", "is_name", "is_text", "all", "bad_row"]
theorem sc_is_entry : FnScope N_is_entry P_is_entry (defScope s_is_entry) := ⟨rfl, rfl, rfl, by decide +kernel, rfl, by decide +kernel, by decide +kernel⟩
theorem v_is_entry : visC (defScope s_is_entry) M_is_entry = true := by decide +kernel
theorem l_is_entry : locC (defScope s_is_entry) M_is_entry = true := by decide +kernel
abbrev D_is_entry : List Str := ["MOST_ROWS", "are_members", "is_link", "isinstance", "tuple", "len", "is_name", "is_text", "all", "bad_row"]
theorem g_is_entry : glC (defScope s_is_entry) D_is_entry = true := by decide +kernel
-- comprehension at 122: own ["note"] reads ["note", "notes"] globals ["is_text"]

/-! numbers_in -/
abbrev s_numbers_in : Stmt := top 37
abbrev N_numbers_in : List Str := ["members", "item"]
abbrev M_numbers_in : List Str := ["members"]
abbrev P_numbers_in : List Str := ["members"]
abbrev G_numbers_in : List Str := ["isinstance", "int"]
theorem sc_numbers_in : FnScope N_numbers_in P_numbers_in (defScope s_numbers_in) := ⟨rfl, rfl, rfl, by decide +kernel, rfl, by decide +kernel, by decide +kernel⟩
theorem v_numbers_in : visC (defScope s_numbers_in) M_numbers_in = true := by decide +kernel
theorem l_numbers_in : locC (defScope s_numbers_in) M_numbers_in = true := by decide +kernel
abbrev D_numbers_in : List Str := []
theorem g_numbers_in : glC (defScope s_numbers_in) D_numbers_in = true := by decide +kernel
-- comprehension at 126: own ["item"] reads ["item", "members"] globals ["isinstance", "int"]

/-! left_out -/
abbrev s_left_out : Stmt := top 38
abbrev N_left_out : List Str := ["members", "item"]
abbrev M_left_out : List Str := ["members"]
abbrev P_left_out : List Str := ["members"]
abbrev G_left_out : List Str := ["sum", "isinstance", "tuple"]
theorem sc_left_out : FnScope N_left_out P_left_out (defScope s_left_out) := ⟨rfl, rfl, rfl, by decide +kernel, rfl, by decide +kernel, by decide +kernel⟩
theorem v_left_out : visC (defScope s_left_out) M_left_out = true := by decide +kernel
theorem l_left_out : locC (defScope s_left_out) M_left_out = true := by decide +kernel
abbrev D_left_out : List Str := ["sum"]
theorem g_left_out : glC (defScope s_left_out) D_left_out = true := by decide +kernel
-- comprehension at 128: own ["item"] reads ["item", "members"] globals ["isinstance", "tuple"]

/-! Walk.__init__ -/
abbrev s_Walk___init__ : Stmt := inClass (top 39) 0
abbrev N_Walk___init__ : List Str := ["self", "old", "width", "depth", "chain"]
abbrev M_Walk___init__ : List Str := ["self", "old", "width", "depth", "chain"]
abbrev P_Walk___init__ : List Str := ["self", "old", "width", "depth", "chain"]
abbrev G_Walk___init__ : List Str := []
theorem sc_Walk___init__ : FnScope N_Walk___init__ P_Walk___init__ (defScope s_Walk___init__) := ⟨rfl, rfl, rfl, by decide +kernel, rfl, by decide +kernel, by decide +kernel⟩
theorem v_Walk___init__ : visC (defScope s_Walk___init__) M_Walk___init__ = true := by decide +kernel
theorem l_Walk___init__ : locC (defScope s_Walk___init__) M_Walk___init__ = true := by decide +kernel
abbrev D_Walk___init__ : List Str := []
theorem g_Walk___init__ : glC (defScope s_Walk___init__) D_Walk___init__ = true := by decide +kernel

/-! Walk.meet -/
abbrev s_Walk_meet : Stmt := inClass (top 39) 1
abbrev N_Walk_meet : List Str := ["self", "key", "depth", "distance", "number", "shown", "tied", "kind", "message", "notes", "rows", "members", "link"]
abbrev M_Walk_meet : List Str := ["self", "key", "depth", "distance", "number", "shown", "tied", "kind", "message", "notes", "rows", "members", "link"]
abbrev P_Walk_meet : List Str := ["self", "key", "depth", "distance"]
abbrev G_Walk_meet : List Str := ["len"]
theorem sc_Walk_meet : FnScope N_Walk_meet P_Walk_meet (defScope s_Walk_meet) := ⟨rfl, rfl, rfl, by decide +kernel, rfl, by decide +kernel, by decide +kernel⟩
theorem v_Walk_meet : visC (defScope s_Walk_meet) M_Walk_meet = true := by decide +kernel
theorem l_Walk_meet : locC (defScope s_Walk_meet) M_Walk_meet = true := by decide +kernel
abbrev D_Walk_meet : List Str := ["len"]
theorem g_Walk_meet : glC (defScope s_Walk_meet) D_Walk_meet = true := by decide +kernel

/-! Walk.met_members -/
abbrev s_Walk_met_members : Stmt := inClass (top 39) 2
abbrev N_Walk_met_members : List Str := ["self", "members", "depth", "some", "shown", "many", "keys", "gone", "key"]
abbrev M_Walk_met_members : List Str := ["self", "members", "depth", "some", "shown", "many", "keys", "gone"]
abbrev P_Walk_met_members : List Str := ["self", "members", "depth"]
abbrev G_Walk_met_members : List Str := ["numbers_in", "left_out", "tuple", "DEEP", "len", "MORE"]
theorem sc_Walk_met_members : FnScope N_Walk_met_members P_Walk_met_members (defScope s_Walk_met_members) := ⟨rfl, rfl, rfl, by decide +kernel, rfl, by decide +kernel, by decide +kernel⟩
theorem v_Walk_met_members : visC (defScope s_Walk_met_members) M_Walk_met_members = true := by decide +kernel
theorem l_Walk_met_members : locC (defScope s_Walk_met_members) M_Walk_met_members = true := by decide +kernel
abbrev D_Walk_met_members : List Str := ["numbers_in", "left_out", "tuple", "DEEP", "len", "MORE"]
theorem g_Walk_met_members : glC (defScope s_Walk_met_members) D_Walk_met_members = true := by decide +kernel
-- comprehension at 157: own ["key"] reads ["key", "some", "self", "depth"] globals []

/-! Walk.met_link -/
abbrev s_Walk_met_link : Stmt := inClass (top 39) 3
abbrev N_Walk_met_link : List Str := ["self", "link", "depth", "distance", "word", "key"]
abbrev M_Walk_met_link : List Str := ["self", "link", "depth", "distance", "word", "key"]
abbrev P_Walk_met_link : List Str := ["self", "link", "depth", "distance"]
abbrev G_Walk_met_link : List Str := []
theorem sc_Walk_met_link : FnScope N_Walk_met_link P_Walk_met_link (defScope s_Walk_met_link) := ⟨rfl, rfl, rfl, by decide +kernel, rfl, by decide +kernel, by decide +kernel⟩
theorem v_Walk_met_link : visC (defScope s_Walk_met_link) M_Walk_met_link = true := by decide +kernel
theorem l_Walk_met_link : locC (defScope s_Walk_met_link) M_Walk_met_link = true := by decide +kernel
abbrev D_Walk_met_link : List Str := []
theorem g_Walk_met_link : glC (defScope s_Walk_met_link) D_Walk_met_link = true := by decide +kernel

/-! headline -/
abbrev s_headline : Stmt := top 40
abbrev N_headline : List Str := ["entry", "first", "kind", "message", "others"]
abbrev M_headline : List Str := ["entry", "first", "kind", "message", "others"]
abbrev P_headline : List Str := ["entry"]
abbrev G_headline : List Str := ["FEED"]
theorem sc_headline : FnScope N_headline P_headline (defScope s_headline) := ⟨rfl, rfl, rfl, by decide +kernel, rfl, by decide +kernel, by decide +kernel⟩
theorem v_headline : visC (defScope s_headline) M_headline = true := by decide +kernel
theorem l_headline : locC (defScope s_headline) M_headline = true := by decide +kernel
abbrev D_headline : List Str := ["FEED"]
theorem g_headline : glC (defScope s_headline) D_headline = true := by decide +kernel

/-! look_limits -/
abbrev s_look_limits : Stmt := top 41
abbrev N_look_limits : List Str := ["limits", "name", "value"]
abbrev M_look_limits : List Str := ["limits", "name", "value"]
abbrev P_look_limits : List Str := ["limits"]
abbrev G_look_limits : List Str := ["NoLimit", "is_from"]
theorem sc_look_limits : FnScope N_look_limits P_look_limits (defScope s_look_limits) := ⟨rfl, rfl, rfl, by decide +kernel, rfl, by decide +kernel, by decide +kernel⟩
theorem v_look_limits : visC (defScope s_look_limits) M_look_limits = true := by decide +kernel
theorem l_look_limits : locC (defScope s_look_limits) M_look_limits = true := by decide +kernel
abbrev D_look_limits : List Str := ["NoLimit", "is_from"]
theorem g_look_limits : glC (defScope s_look_limits) D_look_limits = true := by decide +kernel

/-! Record.__init__ -/
abbrev s_Record___init__ : Stmt := inClass (top 42) 0
abbrev N_Record___init__ : List Str := ["self", "entries"]
abbrev M_Record___init__ : List Str := ["self", "entries"]
abbrev P_Record___init__ : List Str := ["self", "entries"]
abbrev G_Record___init__ : List Str := ["tuple", "headline"]
theorem sc_Record___init__ : FnScope N_Record___init__ P_Record___init__ (defScope s_Record___init__) := ⟨rfl, rfl, rfl, by decide +kernel, rfl, by decide +kernel, by decide +kernel⟩
theorem v_Record___init__ : visC (defScope s_Record___init__) M_Record___init__ = true := by decide +kernel
theorem l_Record___init__ : locC (defScope s_Record___init__) M_Record___init__ = true := by decide +kernel
abbrev D_Record___init__ : List Str := ["tuple", "headline"]
theorem g_Record___init__ : glC (defScope s_Record___init__) D_Record___init__ = true := by decide +kernel

/-! Record.of -/
abbrev s_Record_of : Stmt := inClass (top 42) 1
abbrev N_Record_of : List Str := ["cls", "entries", "walk", "at", "entry"]
abbrev M_Record_of : List Str := ["cls", "entries", "walk", "at", "entry"]
abbrev P_Record_of : List Str := ["cls", "entries"]
abbrev G_Record_of : List Str := ["enumerate", "Walk", "isinstance", "NoRecord", "MOST_ENTRIES", "list", "tuple", "is_entry", "len"]
theorem sc_Record_of : FnScope N_Record_of P_Record_of (defScope s_Record_of) := ⟨rfl, rfl, rfl, by decide +kernel, rfl, by decide +kernel, by decide +kernel⟩
theorem v_Record_of : visC (defScope s_Record_of) M_Record_of = true := by decide +kernel
theorem l_Record_of : locC (defScope s_Record_of) M_Record_of = true := by decide +kernel
abbrev D_Record_of : List Str := ["enumerate", "Walk", "isinstance", "NoRecord", "MOST_ENTRIES", "list", "tuple", "is_entry", "len"]
theorem g_Record_of : glC (defScope s_Record_of) D_Record_of = true := by decide +kernel

/-! Record.entries -/
abbrev s_Record_entries : Stmt := inClass (top 42) 2
abbrev N_Record_entries : List Str := ["self"]
abbrev M_Record_entries : List Str := ["self"]
abbrev P_Record_entries : List Str := ["self"]
abbrev G_Record_entries : List Str := []
theorem sc_Record_entries : FnScope N_Record_entries P_Record_entries (defScope s_Record_entries) := ⟨rfl, rfl, rfl, by decide +kernel, rfl, by decide +kernel, by decide +kernel⟩
theorem v_Record_entries : visC (defScope s_Record_entries) M_Record_entries = true := by decide +kernel
theorem l_Record_entries : locC (defScope s_Record_entries) M_Record_entries = true := by decide +kernel
abbrev D_Record_entries : List Str := []
theorem g_Record_entries : glC (defScope s_Record_entries) D_Record_entries = true := by decide +kernel

/-! Record.__eq__ -/
abbrev s_Record___eq__ : Stmt := inClass (top 42) 3
abbrev N_Record___eq__ : List Str := ["self", "other"]
abbrev M_Record___eq__ : List Str := ["self", "other"]
abbrev P_Record___eq__ : List Str := ["self", "other"]
abbrev G_Record___eq__ : List Str := ["isinstance", "Record"]
theorem sc_Record___eq__ : FnScope N_Record___eq__ P_Record___eq__ (defScope s_Record___eq__) := ⟨rfl, rfl, rfl, by decide +kernel, rfl, by decide +kernel, by decide +kernel⟩
theorem v_Record___eq__ : visC (defScope s_Record___eq__) M_Record___eq__ = true := by decide +kernel
theorem l_Record___eq__ : locC (defScope s_Record___eq__) M_Record___eq__ = true := by decide +kernel
abbrev D_Record___eq__ : List Str := ["isinstance", "Record"]
theorem g_Record___eq__ : glC (defScope s_Record___eq__) D_Record___eq__ = true := by decide +kernel

/-! Record.__len__ -/
abbrev s_Record___len__ : Stmt := inClass (top 42) 4
abbrev N_Record___len__ : List Str := ["self"]
abbrev M_Record___len__ : List Str := ["self"]
abbrev P_Record___len__ : List Str := ["self"]
abbrev G_Record___len__ : List Str := ["len"]
theorem sc_Record___len__ : FnScope N_Record___len__ P_Record___len__ (defScope s_Record___len__) := ⟨rfl, rfl, rfl, by decide +kernel, rfl, by decide +kernel, by decide +kernel⟩
theorem v_Record___len__ : visC (defScope s_Record___len__) M_Record___len__ = true := by decide +kernel
theorem l_Record___len__ : locC (defScope s_Record___len__) M_Record___len__ = true := by decide +kernel
abbrev D_Record___len__ : List Str := ["len"]
theorem g_Record___len__ : glC (defScope s_Record___len__) D_Record___len__ = true := by decide +kernel

/-! Record.__str__ -/
abbrev s_Record___str__ : Stmt := inClass (top 42) 5
abbrev N_Record___str__ : List Str := ["self"]
abbrev M_Record___str__ : List Str := ["self"]
abbrev P_Record___str__ : List Str := ["self"]
abbrev G_Record___str__ : List Str := []
theorem sc_Record___str__ : FnScope N_Record___str__ P_Record___str__ (defScope s_Record___str__) := ⟨rfl, rfl, rfl, by decide +kernel, rfl, by decide +kernel, by decide +kernel⟩
theorem v_Record___str__ : visC (defScope s_Record___str__) M_Record___str__ = true := by decide +kernel
theorem l_Record___str__ : locC (defScope s_Record___str__) M_Record___str__ = true := by decide +kernel
abbrev D_Record___str__ : List Str := []
theorem g_Record___str__ : glC (defScope s_Record___str__) D_Record___str__ = true := by decide +kernel

/-! Record.__repr__ -/
abbrev s_Record___repr__ : Stmt := inClass (top 42) 6
abbrev N_Record___repr__ : List Str := ["self"]
abbrev M_Record___repr__ : List Str := ["self"]
abbrev P_Record___repr__ : List Str := ["self"]
abbrev G_Record___repr__ : List Str := ["len"]
theorem sc_Record___repr__ : FnScope N_Record___repr__ P_Record___repr__ (defScope s_Record___repr__) := ⟨rfl, rfl, rfl, by decide +kernel, rfl, by decide +kernel, by decide +kernel⟩
theorem v_Record___repr__ : visC (defScope s_Record___repr__) M_Record___repr__ = true := by decide +kernel
theorem l_Record___repr__ : locC (defScope s_Record___repr__) M_Record___repr__ = true := by decide +kernel
abbrev D_Record___repr__ : List Str := ["len"]
theorem g_Record___repr__ : glC (defScope s_Record___repr__) D_Record___repr__ = true := by decide +kernel

/-! Record.look -/
abbrev s_Record_look : Stmt := inClass (top 42) 7
abbrev N_Record_look : List Str := ["self", "number"]
abbrev M_Record_look : List Str := ["self", "number"]
abbrev P_Record_look : List Str := ["self", "number"]
abbrev G_Record_look : List Str := ["in_range", "NoEntry", "len"]
theorem sc_Record_look : FnScope N_Record_look P_Record_look (defScope s_Record_look) := ⟨rfl, rfl, rfl, by decide +kernel, rfl, by decide +kernel, by decide +kernel⟩
theorem v_Record_look : visC (defScope s_Record_look) M_Record_look = true := by decide +kernel
theorem l_Record_look : locC (defScope s_Record_look) M_Record_look = true := by decide +kernel
abbrev D_Record_look : List Str := ["in_range", "NoEntry", "len"]
theorem g_Record_look : glC (defScope s_Record_look) D_Record_look = true := by decide +kernel

/-! Record.entry -/
abbrev s_Record_entry : Stmt := inClass (top 42) 8
abbrev N_Record_entry : List Str := ["self", "number"]
abbrev M_Record_entry : List Str := ["self", "number"]
abbrev P_Record_entry : List Str := ["self", "number"]
abbrev G_Record_entry : List Str := []
theorem sc_Record_entry : FnScope N_Record_entry P_Record_entry (defScope s_Record_entry) := ⟨rfl, rfl, rfl, by decide +kernel, rfl, by decide +kernel, by decide +kernel⟩
theorem v_Record_entry : visC (defScope s_Record_entry) M_Record_entry = true := by decide +kernel
theorem l_Record_entry : locC (defScope s_Record_entry) M_Record_entry = true := by decide +kernel
abbrev D_Record_entry : List Str := []
theorem g_Record_entry : glC (defScope s_Record_entry) D_Record_entry = true := by decide +kernel

/-! Record.part -/
abbrev s_Record_part : Stmt := inClass (top 42) 9
abbrev N_Record_part : List Str := ["self", "number", "walk"]
abbrev M_Record_part : List Str := ["self", "number", "walk"]
abbrev P_Record_part : List Str := ["self", "number"]
abbrev G_Record_part : List Str := ["Walk", "Record"]
theorem sc_Record_part : FnScope N_Record_part P_Record_part (defScope s_Record_part) := ⟨rfl, rfl, rfl, by decide +kernel, rfl, by decide +kernel, by decide +kernel⟩
theorem v_Record_part : visC (defScope s_Record_part) M_Record_part = true := by decide +kernel
theorem l_Record_part : locC (defScope s_Record_part) M_Record_part = true := by decide +kernel
abbrev D_Record_part : List Str := ["Walk", "Record"]
theorem g_Record_part : glC (defScope s_Record_part) D_Record_part = true := by decide +kernel

/-! Record.cut -/
abbrev s_Record_cut : Stmt := inClass (top 42) 10
abbrev N_Record_cut : List Str := ["self", "first", "last", "width", "depth", "chain", "walk", "entry"]
abbrev M_Record_cut : List Str := ["self", "first", "last", "width", "depth", "chain", "walk"]
abbrev P_Record_cut : List Str := ["self", "first", "last", "width", "depth", "chain"]
abbrev G_Record_cut : List Str := ["look_limits", "Walk", "Record", "shortened"]
theorem sc_Record_cut : FnScope N_Record_cut P_Record_cut (defScope s_Record_cut) := ⟨rfl, rfl, rfl, by decide +kernel, rfl, by decide +kernel, by decide +kernel⟩
theorem v_Record_cut : visC (defScope s_Record_cut) M_Record_cut = true := by decide +kernel
theorem l_Record_cut : locC (defScope s_Record_cut) M_Record_cut = true := by decide +kernel
abbrev D_Record_cut : List Str := ["look_limits", "Walk", "Record"]
theorem g_Record_cut : glC (defScope s_Record_cut) D_Record_cut = true := by decide +kernel
-- comprehension at 231: own ["entry"] reads ["first", "last", "walk", "entry"] globals ["shortened"]

/-! Record.ahead -/
abbrev s_Record_ahead : Stmt := inClass (top 42) 11
abbrev N_Record_ahead : List Str := ["self", "rows"]
abbrev M_Record_ahead : List Str := ["self", "rows"]
abbrev P_Record_ahead : List Str := ["self", "rows"]
abbrev G_Record_ahead : List Str := ["_wall"]
theorem sc_Record_ahead : FnScope N_Record_ahead P_Record_ahead (defScope s_Record_ahead) := ⟨rfl, rfl, rfl, by decide +kernel, rfl, by decide +kernel, by decide +kernel⟩
theorem v_Record_ahead : visC (defScope s_Record_ahead) M_Record_ahead = true := by decide +kernel
theorem l_Record_ahead : locC (defScope s_Record_ahead) M_Record_ahead = true := by decide +kernel
abbrev D_Record_ahead : List Str := ["_wall"]
theorem g_Record_ahead : glC (defScope s_Record_ahead) D_Record_ahead = true := by decide +kernel

/-! Record.along -/
abbrev s_Record_along : Stmt := inClass (top 42) 12
abbrev N_Record_along : List Str := ["self", "found", "link"]
abbrev M_Record_along : List Str := ["self", "found", "link"]
abbrev P_Record_along : List Str := ["self"]
abbrev G_Record_along : List Str := []
theorem sc_Record_along : FnScope N_Record_along P_Record_along (defScope s_Record_along) := ⟨rfl, rfl, rfl, by decide +kernel, rfl, by decide +kernel, by decide +kernel⟩
theorem v_Record_along : visC (defScope s_Record_along) M_Record_along = true := by decide +kernel
theorem l_Record_along : locC (defScope s_Record_along) M_Record_along = true := by decide +kernel
abbrev D_Record_along : List Str := []
theorem g_Record_along : glC (defScope s_Record_along) D_Record_along = true := by decide +kernel

/-! Record.linked -/
abbrev s_Record_linked : Stmt := inClass (top 42) 13
abbrev N_Record_linked : List Str := ["self", "other", "word"]
abbrev M_Record_linked : List Str := ["self", "other", "word"]
abbrev P_Record_linked : List Str := ["self", "other", "word"]
abbrev G_Record_linked : List Str := ["_wall"]
theorem sc_Record_linked : FnScope N_Record_linked P_Record_linked (defScope s_Record_linked) := ⟨rfl, rfl, rfl, by decide +kernel, rfl, by decide +kernel, by decide +kernel⟩
theorem v_Record_linked : visC (defScope s_Record_linked) M_Record_linked = true := by decide +kernel
theorem l_Record_linked : locC (defScope s_Record_linked) M_Record_linked = true := by decide +kernel
abbrev D_Record_linked : List Str := ["_wall"]
theorem g_Record_linked : glC (defScope s_Record_linked) D_Record_linked = true := by decide +kernel

/-! _law_bag -/
abbrev s_bag : Stmt := top 44
abbrev N_bag : List Str := ["_law_script", "_law_at", "_law_cell"]
abbrev M_bag : List Str := ["_law_script", "_law_at", "_law_cell"]
abbrev P_bag : List Str := ["_law_script", "_law_at"]
abbrev G_bag : List Str := ["len", "abs", "int"]
theorem sc_bag : FnScope N_bag P_bag (defScope s_bag) := ⟨rfl, rfl, rfl, by decide +kernel, rfl, by decide +kernel, by decide +kernel⟩
theorem v_bag : visC (defScope s_bag) M_bag = true := by decide +kernel
theorem l_bag : locC (defScope s_bag) M_bag = true := by decide +kernel
abbrev D_bag : List Str := ["len", "abs", "int"]
theorem g_bag : glC (defScope s_bag) D_bag = true := by decide +kernel

/-! _law_take -/
abbrev s_take : Stmt := top 45
abbrev N_take : List Str := ["_law_bag_here", "_law_many", "_law_primes", "_law_step", "_law_base", "_law_mixed", "_law_more", "_law_digit"]
abbrev M_take : List Str := ["_law_bag_here", "_law_many", "_law_primes", "_law_step", "_law_base", "_law_mixed", "_law_more", "_law_digit"]
abbrev P_take : List Str := ["_law_bag_here", "_law_many"]
abbrev G_take : List Str := []
theorem sc_take : FnScope N_take P_take (defScope s_take) := ⟨rfl, rfl, rfl, by decide +kernel, rfl, by decide +kernel, by decide +kernel⟩
theorem v_take : visC (defScope s_take) M_take = true := by decide +kernel
theorem l_take : locC (defScope s_take) M_take = true := by decide +kernel
abbrev D_take : List Str := []
theorem g_take : glC (defScope s_take) D_take = true := by decide +kernel

/-! _law_of -/
abbrev s_of : Stmt := top 46
abbrev N_of : List Str := ["_law_bag_here", "_law_some"]
abbrev M_of : List Str := ["_law_bag_here", "_law_some"]
abbrev P_of : List Str := ["_law_bag_here", "_law_some"]
abbrev G_of : List Str := ["_law_take", "len"]
theorem sc_of : FnScope N_of P_of (defScope s_of) := ⟨rfl, rfl, rfl, by decide +kernel, rfl, by decide +kernel, by decide +kernel⟩
theorem v_of : visC (defScope s_of) M_of = true := by decide +kernel
theorem l_of : locC (defScope s_of) M_of = true := by decide +kernel
abbrev D_of : List Str := ["_law_take", "len"]
theorem g_of : glC (defScope s_of) D_of = true := by decide +kernel

/-! _law_name -/
abbrev s_name : Stmt := top 47
abbrev N_name : List Str := ["_law_bag_here", "_law_words", "_law_letters", "_law_k"]
abbrev M_name : List Str := ["_law_bag_here", "_law_words", "_law_letters"]
abbrev P_name : List Str := ["_law_bag_here"]
abbrev G_name : List Str := ["_law_take", "_law_of", "range"]
theorem sc_name : FnScope N_name P_name (defScope s_name) := ⟨rfl, rfl, rfl, by decide +kernel, rfl, by decide +kernel, by decide +kernel⟩
theorem v_name : visC (defScope s_name) M_name = true := by decide +kernel
theorem l_name : locC (defScope s_name) M_name = true := by decide +kernel
abbrev D_name : List Str := ["_law_take", "_law_of", "range"]
theorem g_name : glC (defScope s_name) D_name = true := by decide +kernel
-- comprehension at 271: own ["_law_k"] reads ["_law_letters", "_law_bag_here"] globals ["_law_take", "range", "_law_of"]

/-! _law_line -/
abbrev s_line : Stmt := top 48
abbrev N_line : List Str := ["_law_bag_here", "_law_lines", "_law_signs", "_law_k"]
abbrev M_line : List Str := ["_law_bag_here", "_law_lines", "_law_signs"]
abbrev P_line : List Str := ["_law_bag_here"]
abbrev G_line : List Str := ["_law_take", "_law_of", "range"]
theorem sc_line : FnScope N_line P_line (defScope s_line) := ⟨rfl, rfl, rfl, by decide +kernel, rfl, by decide +kernel, by decide +kernel⟩
theorem v_line : visC (defScope s_line) M_line = true := by decide +kernel
theorem l_line : locC (defScope s_line) M_line = true := by decide +kernel
abbrev D_line : List Str := ["_law_take", "_law_of", "range"]
theorem g_line : glC (defScope s_line) D_line = true := by decide +kernel
-- comprehension at 277: own ["_law_k"] reads ["_law_signs", "_law_bag_here"] globals ["_law_take", "range"]

/-! _law_text -/
abbrev s_text : Stmt := top 49
abbrev N_text : List Str := ["_law_bag_here", "_law_parts", "_law_k"]
abbrev M_text : List Str := ["_law_bag_here", "_law_parts"]
abbrev P_text : List Str := ["_law_bag_here"]
abbrev G_text : List Str := ["_law_line", "range", "_law_of"]
theorem sc_text : FnScope N_text P_text (defScope s_text) := ⟨rfl, rfl, rfl, by decide +kernel, rfl, by decide +kernel, by decide +kernel⟩
theorem v_text : visC (defScope s_text) M_text = true := by decide +kernel
theorem l_text : locC (defScope s_text) M_text = true := by decide +kernel
abbrev D_text : List Str := ["range", "_law_of"]
theorem g_text : glC (defScope s_text) D_text = true := by decide +kernel
-- comprehension at 279: own ["_law_k"] reads ["_law_bag_here"] globals ["_law_line", "range", "_law_of"]

/-! _law_row -/
abbrev s_row : Stmt := top 50
abbrev N_row : List Str := ["_law_bag_here", "_law_shown", "_law_stand", "_law_spot"]
abbrev M_row : List Str := ["_law_bag_here", "_law_shown", "_law_stand", "_law_spot"]
abbrev P_row : List Str := ["_law_bag_here"]
abbrev G_row : List Str := ["_law_of", "_law_name", "_law_line"]
theorem sc_row : FnScope N_row P_row (defScope s_row) := ⟨rfl, rfl, rfl, by decide +kernel, rfl, by decide +kernel, by decide +kernel⟩
theorem v_row : visC (defScope s_row) M_row = true := by decide +kernel
theorem l_row : locC (defScope s_row) M_row = true := by decide +kernel
abbrev D_row : List Str := ["_law_of", "_law_name", "_law_line"]
theorem g_row : glC (defScope s_row) D_row = true := by decide +kernel

/-! _law_rows -/
abbrev s_rows : Stmt := top 51
abbrev N_rows : List Str := ["_law_bag_here", "_law_most", "_law_found", "_law_some", "_law_road", "_law_block", "_law_k"]
abbrev M_rows : List Str := ["_law_bag_here", "_law_most", "_law_found", "_law_some", "_law_road", "_law_block"]
abbrev P_rows : List Str := ["_law_bag_here", "_law_most"]
abbrev G_rows : List Str := ["tuple", "_law_take", "_law_row", "len", "range", "_law_of"]
theorem sc_rows : FnScope N_rows P_rows (defScope s_rows) := ⟨rfl, rfl, rfl, by decide +kernel, rfl, by decide +kernel, by decide +kernel⟩
theorem v_rows : visC (defScope s_rows) M_rows = true := by decide +kernel
theorem l_rows : locC (defScope s_rows) M_rows = true := by decide +kernel
abbrev D_rows : List Str := ["tuple", "_law_take", "len", "range", "_law_of"]
theorem g_rows : glC (defScope s_rows) D_rows = true := by decide +kernel
-- comprehension at 286: own ["_law_k"] reads ["_law_bag_here"] globals ["_law_row", "range"]
-- comprehension at 292: own ["_law_k"] reads ["_law_bag_here", "_law_some"] globals ["_law_of", "range", "_law_take"]

/-! _law_lead -/
abbrev s_lead : Stmt := top 52
abbrev N_lead : List Str := ["_law_bag_here", "_law_found", "_law_most"]
abbrev M_lead : List Str := ["_law_bag_here", "_law_found", "_law_most"]
abbrev P_lead : List Str := ["_law_bag_here", "_law_found", "_law_most"]
abbrev G_lead : List Str := ["_law_take", "_law_build", "len"]
theorem sc_lead : FnScope N_lead P_lead (defScope s_lead) := ⟨rfl, rfl, rfl, by decide +kernel, rfl, by decide +kernel, by decide +kernel⟩
theorem v_lead : visC (defScope s_lead) M_lead = true := by decide +kernel
theorem l_lead : locC (defScope s_lead) M_lead = true := by decide +kernel
abbrev D_lead : List Str := ["_law_take", "_law_build", "len"]
theorem g_lead : glC (defScope s_lead) D_lead = true := by decide +kernel

/-! _law_members -/
abbrev s_members : Stmt := top 53
abbrev N_members : List Str := ["_law_bag_here", "_law_found", "_law_most", "_law_some", "_law_k"]
abbrev M_members : List Str := ["_law_bag_here", "_law_found", "_law_most", "_law_some"]
abbrev P_members : List Str := ["_law_bag_here", "_law_found", "_law_most"]
abbrev G_members : List Str := ["tuple", "_law_take", "_law_lead", "range", "_law_of"]
theorem sc_members : FnScope N_members P_members (defScope s_members) := ⟨rfl, rfl, rfl, by decide +kernel, rfl, by decide +kernel, by decide +kernel⟩
theorem v_members : visC (defScope s_members) M_members = true := by decide +kernel
theorem l_members : locC (defScope s_members) M_members = true := by decide +kernel
abbrev D_members : List Str := ["tuple", "_law_take", "range", "_law_of"]
theorem g_members : glC (defScope s_members) D_members = true := by decide +kernel
-- comprehension at 304: own ["_law_k"] reads ["_law_bag_here", "_law_found", "_law_most"] globals ["_law_lead", "range", "_law_take"]

/-! _law_build -/
abbrev s_build : Stmt := top 54
abbrev N_build : List Str := ["_law_bag_here", "_law_found", "_law_most", "_law_number", "_law_notes", "_law_members_here", "_law_link", "_law_kind", "_law_message", "_law_rows_here", "_law_word", "_law_road", "_law_k"]
abbrev M_build : List Str := ["_law_bag_here", "_law_found", "_law_most", "_law_number", "_law_notes", "_law_members_here", "_law_link", "_law_kind", "_law_message", "_law_rows_here", "_law_word", "_law_road"]
abbrev P_build : List Str := ["_law_bag_here", "_law_found", "_law_most"]
abbrev G_build : List Str := ["len", "tuple", "_law_name", "_law_of", "_law_rows", "_law_members", "_law_take", "_law_text", "_law_lead", "range"]
theorem sc_build : FnScope N_build P_build (defScope s_build) := ⟨rfl, rfl, rfl, by decide +kernel, rfl, by decide +kernel, by decide +kernel⟩
theorem v_build : visC (defScope s_build) M_build = true := by decide +kernel
theorem l_build : locC (defScope s_build) M_build = true := by decide +kernel
abbrev D_build : List Str := ["len", "tuple", "_law_name", "_law_of", "_law_rows", "_law_members", "_law_take", "_law_lead", "range", "_law_text"]
theorem g_build : glC (defScope s_build) D_build = true := by decide +kernel
-- comprehension at 311: own ["_law_k"] reads ["_law_bag_here"] globals ["_law_text", "range", "_law_of"]

/-! _law_entries -/
abbrev s_entries : Stmt := top 55
abbrev N_entries : List Str := ["_law_bag_here", "_law_most", "_law_found"]
abbrev M_entries : List Str := ["_law_bag_here", "_law_most", "_law_found"]
abbrev P_entries : List Str := ["_law_bag_here", "_law_most"]
abbrev G_entries : List Str := ["_law_build"]
theorem sc_entries : FnScope N_entries P_entries (defScope s_entries) := ⟨rfl, rfl, rfl, by decide +kernel, rfl, by decide +kernel, by decide +kernel⟩
theorem v_entries : visC (defScope s_entries) M_entries = true := by decide +kernel
theorem l_entries : locC (defScope s_entries) M_entries = true := by decide +kernel
abbrev D_entries : List Str := ["_law_build"]
theorem g_entries : glC (defScope s_entries) D_entries = true := by decide +kernel

/-! law -/
abbrev s_law : Stmt := top 56
abbrev N_law : List Str := ["_law_script", "_law_at", "_law_ring", "_law_bag_here", "_law_turn", "_law_entries_here", "_law_told", "_law_record", "_law_due", "_law_link"]
abbrev M_law : List Str := ["_law_script", "_law_at", "_law_ring", "_law_bag_here", "_law_turn", "_law_entries_here", "_law_told", "_law_record", "_law_due", "_law_link"]
abbrev P_law : List Str := ["_law_script"]
abbrev G_law : List Str := ["range", "max", "_law_bag", "min", "_law_entries", "len", "_law_take", "Record", "isinstance", "list", "repr"]
theorem sc_law : FnScope N_law P_law (defScope s_law) := ⟨rfl, rfl, rfl, by decide +kernel, rfl, by decide +kernel, by decide +kernel⟩
theorem v_law : visC (defScope s_law) M_law = true := by decide +kernel
theorem l_law : locC (defScope s_law) M_law = true := by decide +kernel
abbrev D_law : List Str := ["range", "max", "_law_bag", "min", "_law_entries", "len", "_law_take", "Record", "isinstance", "list", "repr"]
theorem g_law : glC (defScope s_law) D_law = true := by decide +kernel
end K31
set_option maxHeartbeats 4000000
open PySem L2 DL
local macro_rules | `(tactic| walk_at "kd") => `(tactic| first | rfl | assumption | exact kind_of_py (by assumption))
local macro_rules | `(tactic| walk_at "ct") => `(tactic| first | trivial | assumption | omega | exact Or.inl ⟨by omega, by omega⟩ | exact Or.inr ⟨by omega, by omega⟩ | decide)
local macro_rules | `(tactic| walk_at "sz") => `(tactic| first | (exact ⟨by omega, by omega, Nat.le_of_ble_eq_true rfl⟩) | (refine Nat.le_trans (Nat.le_of_ble_eq_true (m := 1000) rfl) (by decide)) | (refine Nat.lt_of_le_of_lt (Nat.le_of_ble_eq_true (m := 1000) rfl) (by decide)) | (simp only [rep_len, List.length_append, List.length_cons, List.length_nil]; refine Nat.le_trans (m := 1000) (by omega) (by decide)))
local macro_rules | `(tactic| walk_at "bad") => `(tactic| first
  | (rename_i q; exact Bool.noConfusion (show false = true from q))
  | (rename_i q; exact Bool.noConfusion (show true = false from q))
  | (rename_i q _; exact Bool.noConfusion (show false = true from q))
  | (rename_i q _; exact Bool.noConfusion (show true = false from q))
  | (rename_i q _ _; exact Bool.noConfusion (show false = true from q))
  | (rename_i q _ _; exact Bool.noConfusion (show true = false from q))
  | (rename_i q _ _ _; exact Bool.noConfusion (show false = true from q))
  | (rename_i q _ _ _; exact Bool.noConfusion (show true = false from q))
  | (rename_i q _ _ _ _; exact Bool.noConfusion (show false = true from q))
  | (rename_i q _ _ _ _; exact Bool.noConfusion (show true = false from q)))
local macro_rules | `(tactic| walk_at "fg") => `(tactic| first
  | exact FGet.here _ _ _ _
  | exact FGet.there (by decide +kernel) (FGet.here _ _ _ _)
  | exact FGet.there (by decide +kernel) (FGet.there (by decide +kernel) (FGet.here _ _ _ _))
  | exact FGet.there (by decide +kernel) (FGet.there (by decide +kernel) (FGet.there (by decide +kernel) (FGet.here _ _ _ _)))
  | exact FGet.there (by decide +kernel) (FGet.there (by decide +kernel) (FGet.there (by decide +kernel) (FGet.there (by decide +kernel) (FGet.here _ _ _ _))))
  | exact FGet.there (by decide +kernel) (FGet.there (by decide +kernel) (FGet.there (by decide +kernel) (FGet.there (by decide +kernel) (FGet.there (by decide +kernel) (FGet.here _ _ _ _)))))
  | exact FGet.there (by decide +kernel) (FGet.there (by decide +kernel) (FGet.there (by decide +kernel) (FGet.there (by decide +kernel) (FGet.there (by decide +kernel) (FGet.there (by decide +kernel) (FGet.here _ _ _ _))))))
  | exact FGet.there (by decide +kernel) (FGet.there (by decide +kernel) (FGet.there (by decide +kernel) (FGet.there (by decide +kernel) (FGet.there (by decide +kernel) (FGet.there (by decide +kernel) (FGet.there (by decide +kernel) (FGet.here _ _ _ _)))))))
  | exact FGet.there (by decide +kernel) (FGet.there (by decide +kernel) (FGet.there (by decide +kernel) (FGet.there (by decide +kernel) (FGet.there (by decide +kernel) (FGet.there (by decide +kernel) (FGet.there (by decide +kernel) (FGet.there (by decide +kernel) (FGet.here _ _ _ _))))))))
  | exact FGet.there (by decide +kernel) (FGet.there (by decide +kernel) (FGet.there (by decide +kernel) (FGet.there (by decide +kernel) (FGet.there (by decide +kernel) (FGet.there (by decide +kernel) (FGet.there (by decide +kernel) (FGet.there (by decide +kernel) (FGet.there (by decide +kernel) (FGet.here _ _ _ _))))))))))
local macro_rules | `(tactic| walk_at "nm") => `(tactic| first
  | ((with_reducible show DL.Mem _ _); repeat' (first | with_reducible exact Mem.here _ _ | with_reducible apply Mem.there))
  | ((with_reducible show DL.Get _ _ _ _); repeat' (first | with_reducible exact Get.here _ _ _ _ | with_reducible apply Get.there))
  | ((with_reducible show DL.Put _ _ _ _); repeat' (first | with_reducible exact Put.here _ _ _ _ | with_reducible apply Put.there)))
local macro_rules | `(tactic| walk_at "gl") => `(tactic| (refine Gls.at (by assumption) ?_; repeat' (first | with_reducible exact Mem.here _ _ | with_reducible apply Mem.there)))
local macro_rules | `(tactic| walk_at "wg") => `(tactic| repeat' (first
  | ((with_reducible refine' wgs_consS ?_ ?k1); (case k1 => rfl))
  | ((with_reducible refine' wgs_cons ?_ ?k1); (case k1 => rfl))
  | with_reducible refine wgs_nil ?_
  | ((with_reducible refine' wg_nm ?kb ?k0 ?kp ?_); (case kb => assumption); (case k0 => walk_at "nm"); (case kp => walk_at "nm"))))
local macro_rules | `(tactic| walk_at "py") => `(tactic| repeat' (first
  | ((with_reducible show DL.WE _ _ _ _ _); (first
    | ((with_reducible show DL.WE _ (Expr.BoolOp _ _ _) _ _ _); (first | with_reducible refine we_and ?_ | with_reducible refine we_or ?_ | with_reducible refine we_one ?_))
    | ((with_reducible show DL.WE _ (Expr.UnaryOp _ _ _) _ _ _); (first | with_reducible refine we_not ?_ | with_reducible refine we_neg ?_))
    | ((with_reducible show DL.WE _ (Expr.IfExp _ _ _ _) _ _ _); (first | with_reducible refine we_if ?_))
    | ((with_reducible show DL.WE _ (Expr.Constant _ _ _) _ _ _); (first | with_reducible refine we_int ?_ | with_reducible refine we_bl ?_ | with_reducible refine we_non ?_ | with_reducible refine we_str ?_))
    | ((with_reducible show DL.WE _ (Expr.Tuple _ _ _) _ _ _); (first | with_reducible refine we_tup ?_))
    | ((with_reducible show DL.WE _ (Expr.Name _ _) _ _ _); (first | ((with_reducible refine' we_nm ?k1 ?k0 ?k2 ?_); (case k1 => assumption); (case k0 => walk_at "nm"); (case k2 => walk_at "nm")) | ((with_reducible refine' x_tyInt ?kx ?kz ?kg ?_); (case kx => assumption); (case kz => assumption); (case kg => walk_at "gl")) | ((with_reducible refine' x_tyBool ?kx ?kz ?kg ?_); (case kx => assumption); (case kz => assumption); (case kg => walk_at "gl")) | ((with_reducible refine' x_tyStr ?kx ?kz ?kg ?_); (case kx => assumption); (case kz => assumption); (case kg => walk_at "gl")) | ((with_reducible refine' x_tyList ?kx ?kz ?kg ?_); (case kx => assumption); (case kz => assumption); (case kg => walk_at "gl")) | ((with_reducible refine' x_tyTuple ?kx ?kz ?kg ?_); (case kx => assumption); (case kz => assumption); (case kg => walk_at "gl")) | ((with_reducible refine' x_glob ?kx ?kh ?kg ?_ ?kd); (case kh => assumption); (case kx => assumption); (case kg => walk_at "gl"); (case kd => decide))))
    | ((with_reducible show DL.WE _ (Expr.BinOp _ _ _ _) _ _ _); (first | with_reducible refine we_add ?_ | with_reducible refine we_sub' ?_ | with_reducible refine we_mul ?_ | with_reducible refine we_mod ?_ | with_reducible refine we_fdiv ?_ | with_reducible refine we_pow ?_))
    | ((with_reducible show DL.WE _ (Expr.Compare _ _ _ _) _ _ _); (first | with_reducible refine we_lt ?_ | with_reducible refine we_le ?_ | with_reducible refine we_gt ?_ | with_reducible refine we_ge ?_ | with_reducible refine we_is ?_ | with_reducible refine we_isnot ?_ | ((with_reducible refine' x_eq ?k1 ?_); (case k1 => assumption)) | ((with_reducible refine' x_ne ?k1 ?_); (case k1 => assumption)) | ((with_reducible refine' x_in ?k1 ?_ ?k2); (case k1 => assumption); (case k2 => rfl)) | ((with_reducible refine' x_nin ?k1 ?_ ?k2); (case k1 => assumption); (case k2 => rfl))))
    | ((with_reducible show DL.WE _ (Expr.Subscript _ _ _) _ _ _); (first | ((with_reducible refine' x_ixL ?_ ?k1); (case k1 => (intro _ _; rfl))) | ((with_reducible refine' we_ix ?_ ?k1); (case k1 => (intro _ _; rfl))) | with_reducible refine we_slice ?_))
    | ((with_reducible show DL.WE _ (Expr.Call (Expr.Name _ _) _ _ _) _ _ _); (first | ((with_reducible refine' x_isiT ?kx ?kz ?kg ?_ ?k1 ?k2); (case kx => assumption); (case kz => assumption); (case kg => walk_at "gl"); (case k1 => rfl); (case k2 => rfl)) | ((with_reducible refine' x_isi ?kx ?kz ?kg ?_ ?k1 ?k2); (case kx => assumption); (case kz => assumption); (case kg => walk_at "gl"); (case k1 => rfl); (case k2 => rfl)) | ((with_reducible refine' x_len ?kx ?kz ?kg ?_ ?k1 ?k2); (case kx => assumption); (case kz => assumption); (case kg => walk_at "gl"); (case k1 => rfl); (case k2 => rfl)) | ((with_reducible refine' x_abs ?kx ?kz ?kg ?_ ?k1 ?k2); (case kx => assumption); (case kz => assumption); (case kg => walk_at "gl"); (case k1 => rfl); (case k2 => rfl)) | ((with_reducible refine' x_max2 ?kx ?kz ?kg ?_ ?k1 ?k2); (case kx => assumption); (case kz => assumption); (case kg => walk_at "gl"); (case k1 => rfl); (case k2 => rfl)) | ((with_reducible refine' x_min2 ?kx ?kz ?kg ?_ ?k1 ?k2); (case kx => assumption); (case kz => assumption); (case kg => walk_at "gl"); (case k1 => rfl); (case k2 => rfl)) | ((with_reducible refine' x_minL ?kx ?kz ?kg ?_ ?k1 ?k2); (case kx => assumption); (case kz => assumption); (case kg => walk_at "gl"); (case k1 => rfl); (case k2 => rfl)) | ((with_reducible refine' x_any ?kx ?kz ?kg ?_ ?k1 ?k2); (case kx => assumption); (case kz => assumption); (case kg => walk_at "gl"); (case k1 => rfl); (case k2 => rfl)) | ((with_reducible refine' x_all ?kx ?kz ?kg ?_ ?k1 ?k2); (case kx => assumption); (case kz => assumption); (case kg => walk_at "gl"); (case k1 => rfl); (case k2 => rfl)) | ((with_reducible refine' x_sum ?kx ?kz ?kg ?_ ?k1 ?k2); (case kx => assumption); (case kz => assumption); (case kg => walk_at "gl"); (case k1 => rfl); (case k2 => rfl)) | ((with_reducible refine' x_intC ?kx ?kz ?kg ?_ ?k1 ?k2); (case kx => assumption); (case kz => assumption); (case kg => walk_at "gl"); (case k1 => rfl); (case k2 => rfl)) | ((with_reducible refine' x_strC ?kx ?kz ?kg ?_ ?k1 ?k2); (case kx => assumption); (case kz => assumption); (case kg => walk_at "gl"); (case k1 => rfl); (case k2 => rfl)) | ((with_reducible refine' x_tupleC ?kx ?kz ?kg ?_ ?k1 ?k2); (case kx => assumption); (case kz => assumption); (case kg => walk_at "gl"); (case k1 => rfl); (case k2 => rfl)) | ((with_reducible refine' x_listC ?kx ?kz ?kg ?_ ?k1 ?k2); (case kx => assumption); (case kz => assumption); (case kg => walk_at "gl"); (case k1 => rfl); (case k2 => rfl)) | ((with_reducible refine' x_call ?kx ?kh ?kg ?_ ?kl ?kd ?k1 ?k2); (case kh => assumption); (case kx => assumption); (case kg => walk_at "gl"); (case kl => first | decide | omega); (case kd => decide); (case k1 => rfl); (case k2 => rfl))))
    | ((with_reducible show DL.WE _ (Expr.Call (Expr.Attribute _ _ _) _ _ _) _ _ _); (first | ((with_reducible refine' x_join ?_ ?k1 ?k2 ?k3 ?k4 ?k5); (case k1 => rfl); (case k2 => rfl); (case k3 => rfl); (case k4 => rfl); (case k5 => rfl)) | ((with_reducible refine' x_sindex ?_ ?k1 ?k2 ?k3 ?k4 ?k5); (case k1 => rfl); (case k2 => rfl); (case k3 => rfl); (case k4 => rfl); (case k5 => rfl)) | ((with_reducible refine' x_insert ?_ ?k1 ?k2 ?k3 ?k4 ?k5); (case k1 => rfl); (case k2 => rfl); (case k3 => rfl); (case k4 => rfl); (case k5 => rfl)) | ((with_reducible refine' x_popAt ?_ ?k1 ?k2 ?k3 ?k4 ?k5); (case k1 => rfl); (case k2 => rfl); (case k3 => rfl); (case k4 => rfl); (case k5 => rfl)) | ((with_reducible refine' x_append ?_ ?k1 ?k2 ?k3 ?k4 ?k5); (case k1 => rfl); (case k2 => rfl); (case k3 => rfl); (case k4 => rfl); (case k5 => rfl)) | ((with_reducible refine' x_extend ?_ ?k1 ?k2 ?k3 ?k4 ?k5); (case k1 => rfl); (case k2 => rfl); (case k3 => rfl); (case k4 => rfl); (case k5 => rfl))))))
  | ((with_reducible show DL.WSs _ _ _ _ _); (first | with_reducible refine wss_cons ?_ | with_reducible refine wss_nil ?_))
  | ((with_reducible show DL.WS _ _ _ _ _); (first
    | ((with_reducible show DL.WS _ (Stmt.If _ _ _ _) _ _ _); (first | ((with_reducible refine' x_ifWge ?kb ?k0 ?kp ?_); (case kb => assumption); (case k0 => walk_at "nm"); (case kp => walk_at "nm")) | with_reducible refine ws_if ?_))
    | ((with_reducible show DL.WS _ (Stmt.Return _ _) _ _ _); (first | with_reducible refine ws_ret ?_ | with_reducible refine ws_retN ?_))
    | ((with_reducible show DL.WS _ (Stmt.Pass _) _ _ _); (first | with_reducible refine ws_pass ?_))
    | ((with_reducible show DL.WS _ (Stmt.Break _) _ _ _); (first | with_reducible refine ws_break ?_))
    | ((with_reducible show DL.WS _ (Stmt.Continue _) _ _ _); (first | with_reducible refine ws_continue ?_))
    | ((with_reducible show DL.WS _ (Stmt.Assign _ _ _) _ _ _); (first | ((with_reducible refine' ws_nm ?kb ?k0 ?kp ?_ ?k1); (case kb => assumption); (case k0 => walk_at "nm"); (case kp => walk_at "nm"); (case k1 => rfl)) | ((with_reducible refine' x_par2 ?kd ?k1 ?k2 ?k3 ?k4 ?k5 ?k6 ?_ ?k7); (case kd => assumption); (case k1 => walk_at "nm"); (case k2 => (intro _; walk_at "nm")); (case k3 => decide +kernel); (case k4 => decide +kernel); (case k5 => decide +kernel); (case k6 => rfl); (case k7 => rfl)) | ((with_reducible refine' x_par3 ?kd ?k1 ?k2 ?k3 ?k4 ?k5 ?k6 ?k7 ?_ ?k8); (case kd => assumption); (case k1 => walk_at "nm"); (case k2 => (intro _; walk_at "nm")); (case k3 => (intro _ _; walk_at "nm")); (case k4 => decide +kernel); (case k5 => decide +kernel); (case k6 => decide +kernel); (case k7 => rfl); (case k8 => rfl)) | ((with_reducible refine' ws_asg ?_ ?k1 ?k2 ?k3); (case k1 => rfl); (case k2 => rfl); (case k3 => rfl)) | ((with_reducible refine' ws_asgD ?kd ?_ ?k1 ?k2 ?k3); (case kd => assumption); (case k1 => rfl); (case k2 => rfl); (case k3 => rfl))))
    | ((with_reducible show DL.WS _ (Stmt.AugAssign _ _ _ _) _ _ _); (first | ((with_reducible refine' ws_augAdd ?kb ?k0 ?kg ?kp ?_); (case kb => assumption); (case k0 => walk_at "nm"); (case kg => walk_at "nm"); (case kp => walk_at "nm"))))
    | ((with_reducible show DL.WS _ (Stmt.Expr _ _) _ _ _); (first | ((with_reducible refine' ws_expr ?_ ?k1); (case k1 => rfl))))))
  | ((with_reducible show DL.WA _ _ _ _ _); (first | with_reducible refine wa_nil ?_ | ((with_reducible refine' wa_cons ?_ ?k1); (case k1 => rfl))))
  | ((with_reducible show DL.WT _ _ _ _ _); (first | ((with_reducible refine' xt_eq ?k1 ?_); (case k1 => assumption)) | ((with_reducible refine' xt_ne ?k1 ?_); (case k1 => assumption)) | ((with_reducible refine' xt_in ?k1 ?_ ?k2); (case k1 => assumption); (case k2 => rfl)) | ((with_reducible refine' xt_nin ?k1 ?_ ?k2); (case k1 => assumption); (case k2 => rfl)) | with_reducible refine wt_lt ?_ | with_reducible refine wt_le ?_ | with_reducible refine wt_gt ?_ | with_reducible refine wt_ge ?_ | with_reducible refine wt_is ?_ | with_reducible refine wt_isnot ?_ | with_reducible refine wt_not ?_ | with_reducible refine wt_bo ?_ | ((with_reducible refine' wt_val ?_ ?k1); (case k1 => (intro _; rfl)))))
  | ((with_reducible show DL.WW _ _ _ _ _); (first | with_reducible refine ww_and ?_ | with_reducible refine ww_or ?_ | with_reducible refine ww_and1 ?_ | with_reducible refine ww_or1 ?_))
  | ((with_reducible show DL.WG _ _ _ _ _ _); (first | ((with_reducible refine' wg_nm ?kb ?k0 ?kp ?_); (case kb => assumption); (case k0 => walk_at "nm"); (case kp => walk_at "nm")) | ((with_reducible refine' x_gtup ?kx ?kl ?_ ?k1); (case kx => assumption); (case kl => rfl); (case k1 => rfl)) | ((with_reducible refine' wg_setL ?_ ?k1); (case k1 => (intro _; rfl)))))
  | ((with_reducible show DL.WGs _ _ _ _ _ _); (first | ((with_reducible refine' wgs_cons ?_ ?k1); (case k1 => rfl)) | with_reducible refine wgs_nil ?_))
  | ((with_reducible show DL.WO _ _ _ _ _); (first | with_reducible refine wo_n ?_ | with_reducible refine wo_s ?_))
  | ((with_reducible show DL.tb _ _ _); (first | with_reducible refine tb_ok ?_))
  | ((with_reducible show DL.dIsi _ _ _); (first | ((with_reducible refine' isi_int ?k1 ?_); (case k1 => walk_at "kd")) | ((with_reducible refine' isi_bool ?k1 ?_); (case k1 => walk_at "kd")) | ((with_reducible refine' isi_str ?k1 ?_); (case k1 => walk_at "kd")) | ((with_reducible refine' isi_list ?k1 ?_); (case k1 => walk_at "kd")) | ((with_reducible refine' isi_tuple ?k1 ?_); (case k1 => walk_at "kd")) | ((with_reducible refine' isi_ls ?k1 ?_); (case k1 => assumption)) | ((with_reducible refine' isi_lsT ?k1 ?_); (case k1 => assumption))))
  | ((with_reducible show DL.dIsiT _ _ _); (first | ((with_reducible refine' isi_ltT ?k1 ?k2 ?_); (case k1 => rfl); (case k2 => rfl)) | ((with_reducible refine' isi_ltF ?k1 ?k2 ?_); (case k1 => rfl); (case k2 => rfl)) | ((with_reducible refine' isi_lt ?k1 ?_); (case k1 => walk_at "kd")) | ((with_reducible refine' isiT_ls ?k1 ?_); (case k1 => assumption))))
  | ((with_reducible show DL.dLen _ _ _); (first | ((with_reducible refine' len_ls ?k1 ?_); (case k1 => assumption)) | ((with_reducible refine' len_str ?k1 ?_); (case k1 => walk_at "ct")) | with_reducible refine len_tup ?_ | with_reducible refine len_fr ?_ | with_reducible refine len_sl ?_ | ((with_reducible refine' len_own ?k1 ?_); (case k1 => assumption)) | with_reducible refine len_put ?_))
  | ((with_reducible show DL.dEq _ _ _ _ _); (first | with_reducible refine eq_bb ?_ | with_reducible refine ne_bb ?_ | with_reducible refine eq_ii ?_ | with_reducible refine ne_ii ?_))
  | ((with_reducible show DL.dI2 _ _ _ _ _ _); (first | ((with_reducible refine' i2_ok ?k1 ?_); (case k1 => walk_at "ct"))))
  | ((with_reducible show DL.dB2 _ _ _ _ _); (first | with_reducible refine b2_ok ?_))
  | ((with_reducible show DL.dAdd _ _ _ _); (first | with_reducible refine add_ii ?_ | ((with_reducible refine' add_ss ?k1 ?_); (case k1 => walk_at "ct")) | ((with_reducible refine' add_tt ?k1 ?_); (case k1 => walk_at "ct"))))
  | ((with_reducible show DL.dMul _ _ _ _); (first | ((with_reducible refine' mul_ii ?k1 ?_); (case k1 => walk_at "ct"))))
  | ((with_reducible show DL.dSl _ _ _ _ _); (first | with_reducible refine sl_t ?_ | with_reducible refine sl_f ?_))
  | ((with_reducible show DL.dInt1 _ _ _ _); (first | with_reducible refine int1_ok ?_))
  | ((with_reducible show DL.dInt2 _ _ _ _); (first | with_reducible refine int2_ok ?_))
  | ((with_reducible show DL.dInt _ _ _); (first | with_reducible refine int_i ?_ | with_reducible refine int_b ?_))
  | ((with_reducible show DL.dIn _ _ _ _ _); (first | with_reducible refine ins_c ?_))
  | ((with_reducible show DL.dTuple _ _ _); (first | with_reducible refine tup_t ?_ | with_reducible refine tup_f ?_))
  | ((with_reducible show DL.dIx _ _ _ _); (first | ((with_reducible refine' ix_t ?k1 ?_); (case k1 => rfl)) | ((with_reducible refine' ix_f ?k1 ?_); (case k1 => rfl)) | ((with_reducible refine' ix_s ?k1 ?_); (case k1 => rfl)) | ((with_reducible refine' ix_p ?k1 ?_); (case k1 => rfl)) | ((with_reducible refine' ix_o ?k0 ?k1 ?_); (case k0 => assumption); (case k1 => rfl))))
  | ((with_reducible show DL.dIsN _ _ _ _ _); (first | ((with_reducible refine' isn_k ?k1 ?_); (case k1 => walk_at "kd")) | ((with_reducible refine' nisn_k ?k1 ?_); (case k1 => walk_at "kd"))))
  | with_reducible refine ex_bl ?_
  | with_reducible refine ex_int ?_
  | with_reducible refine ex_2 ?_
  | with_reducible refine ex_3 ?_
  | ((with_reducible refine' setL_p ?k1 ?_); (case k1 => rfl))
  | ((with_reducible refine' setL_o ?k0 ?k1 ?_); (case k0 => assumption); (case k1 => rfl))
  | with_reducible refine and_T ?_
  | with_reducible refine and_F ?_
  | ((with_reducible refine and_S ?_ ?_) <;> intro _)
  | with_reducible refine ty_str ?_
  | with_reducible refine ty_put ?_
  | ((with_reducible refine' ty_own ?k1 ?_); (case k1 => assumption))
  | ((with_reducible refine' sz_ok ?k1 ?_); (case k1 => rfl))
  | ((with_reducible refine' sz_as ?k1 ?_); (case k1 => assumption))))
local macro_rules | `(tactic| walk_at "pyA") => `(tactic| repeat' (first
  | ((with_reducible show DL.WE _ _ _ _ _); (first
    | ((with_reducible show DL.WE _ (Expr.Compare _ _ _ _) _ _ _); (first | ((with_reducible refine' we_lele ?_ ?k1); (case k1 => with_unfolding_all rfl)) | with_reducible refine we_lt ?_ | with_reducible refine we_le ?_ | with_reducible refine we_gt ?_ | with_reducible refine we_ge ?_ | with_reducible refine we_is ?_ | with_reducible refine we_isnot ?_ | ((with_reducible refine' x_eq ?k1 ?_); (case k1 => assumption)) | ((with_reducible refine' x_ne ?k1 ?_); (case k1 => assumption)) | ((with_reducible refine' x_in ?k1 ?_ ?k2); (case k1 => assumption); (case k2 => rfl)) | ((with_reducible refine' x_nin ?k1 ?_ ?k2); (case k1 => assumption); (case k2 => rfl))))
    | ((with_reducible show DL.WE _ (Expr.Subscript _ _ _) _ _ _); (first | with_reducible refine we_revT ?_ | with_reducible refine x_sliceA ?_ | ((with_reducible refine' x_ixL ?_ ?k1); (case k1 => (intro _ _; rfl))) | ((with_reducible refine' we_ix ?_ ?k1); (case k1 => (intro _ _; rfl))) | with_reducible refine we_slice ?_))
    | ((with_reducible show DL.WE _ (Expr.Call (Expr.Attribute _ _ _) _ _ _) _ _ _); (first | ((with_reducible refine' x_upper ?_ ?k1 ?k2); (case k1 => rfl); (case k2 => rfl)) | ((with_reducible refine' x_join ?_ ?k1 ?k2 ?k3 ?k4 ?k5); (case k1 => rfl); (case k2 => rfl); (case k3 => rfl); (case k4 => rfl); (case k5 => rfl)) | ((with_reducible refine' x_sindex ?_ ?k1 ?k2 ?k3 ?k4 ?k5); (case k1 => rfl); (case k2 => rfl); (case k3 => rfl); (case k4 => rfl); (case k5 => rfl)) | ((with_reducible refine' x_insert ?_ ?k1 ?k2 ?k3 ?k4 ?k5); (case k1 => rfl); (case k2 => rfl); (case k3 => rfl); (case k4 => rfl); (case k5 => rfl)) | ((with_reducible refine' x_popAt ?_ ?k1 ?k2 ?k3 ?k4 ?k5); (case k1 => rfl); (case k2 => rfl); (case k3 => rfl); (case k4 => rfl); (case k5 => rfl)) | ((with_reducible refine' x_append ?_ ?k1 ?k2 ?k3 ?k4 ?k5); (case k1 => rfl); (case k2 => rfl); (case k3 => rfl); (case k4 => rfl); (case k5 => rfl)) | ((with_reducible refine' x_extend ?_ ?k1 ?k2 ?k3 ?k4 ?k5); (case k1 => rfl); (case k2 => rfl); (case k3 => rfl); (case k4 => rfl); (case k5 => rfl))))
    | ((with_reducible show DL.WE _ (Expr.BinOp _ _ _ _) _ _ _); (first | with_reducible refine x_mulS ?_ | with_reducible refine x_addA ?_ | with_reducible refine x_mulA ?_ | with_reducible refine we_add ?_ | with_reducible refine we_sub' ?_ | with_reducible refine we_mul ?_ | with_reducible refine we_mod ?_ | with_reducible refine we_fdiv ?_ | with_reducible refine we_pow ?_))
    | ((with_reducible show DL.WE _ (Expr.List _ _) _ _ _); (first | with_reducible refine we_lstF ?_))
    | ((with_reducible show DL.WE _ (Expr.Call (Expr.Name _ _) _ _ _) _ _ _); (first | ((with_reducible refine' x_listA ?kx ?kz ?kg ?_ ?k1 ?k2); (case kx => assumption); (case kz => assumption); (case kg => walk_at "gl"); (case k1 => rfl); (case k2 => rfl)) | ((with_reducible refine' x_repr ?kx ?kz ?kg ?_ ?k1 ?k2); (case kx => assumption); (case kz => assumption); (case kg => walk_at "gl"); (case k1 => rfl); (case k2 => rfl)) | ((with_reducible refine' x_isiT ?kx ?kz ?kg ?_ ?k1 ?k2); (case kx => assumption); (case kz => assumption); (case kg => walk_at "gl"); (case k1 => rfl); (case k2 => rfl)) | ((with_reducible refine' x_isi ?kx ?kz ?kg ?_ ?k1 ?k2); (case kx => assumption); (case kz => assumption); (case kg => walk_at "gl"); (case k1 => rfl); (case k2 => rfl)) | ((with_reducible refine' x_len ?kx ?kz ?kg ?_ ?k1 ?k2); (case kx => assumption); (case kz => assumption); (case kg => walk_at "gl"); (case k1 => rfl); (case k2 => rfl)) | ((with_reducible refine' x_abs ?kx ?kz ?kg ?_ ?k1 ?k2); (case kx => assumption); (case kz => assumption); (case kg => walk_at "gl"); (case k1 => rfl); (case k2 => rfl)) | ((with_reducible refine' x_max2 ?kx ?kz ?kg ?_ ?k1 ?k2); (case kx => assumption); (case kz => assumption); (case kg => walk_at "gl"); (case k1 => rfl); (case k2 => rfl)) | ((with_reducible refine' x_min2 ?kx ?kz ?kg ?_ ?k1 ?k2); (case kx => assumption); (case kz => assumption); (case kg => walk_at "gl"); (case k1 => rfl); (case k2 => rfl)) | ((with_reducible refine' x_minL ?kx ?kz ?kg ?_ ?k1 ?k2); (case kx => assumption); (case kz => assumption); (case kg => walk_at "gl"); (case k1 => rfl); (case k2 => rfl)) | ((with_reducible refine' x_any ?kx ?kz ?kg ?_ ?k1 ?k2); (case kx => assumption); (case kz => assumption); (case kg => walk_at "gl"); (case k1 => rfl); (case k2 => rfl)) | ((with_reducible refine' x_all ?kx ?kz ?kg ?_ ?k1 ?k2); (case kx => assumption); (case kz => assumption); (case kg => walk_at "gl"); (case k1 => rfl); (case k2 => rfl)) | ((with_reducible refine' x_sum ?kx ?kz ?kg ?_ ?k1 ?k2); (case kx => assumption); (case kz => assumption); (case kg => walk_at "gl"); (case k1 => rfl); (case k2 => rfl)) | ((with_reducible refine' x_intC ?kx ?kz ?kg ?_ ?k1 ?k2); (case kx => assumption); (case kz => assumption); (case kg => walk_at "gl"); (case k1 => rfl); (case k2 => rfl)) | ((with_reducible refine' x_strC ?kx ?kz ?kg ?_ ?k1 ?k2); (case kx => assumption); (case kz => assumption); (case kg => walk_at "gl"); (case k1 => rfl); (case k2 => rfl)) | ((with_reducible refine' x_tupleC ?kx ?kz ?kg ?_ ?k1 ?k2); (case kx => assumption); (case kz => assumption); (case kg => walk_at "gl"); (case k1 => rfl); (case k2 => rfl)) | ((with_reducible refine' x_listC ?kx ?kz ?kg ?_ ?k1 ?k2); (case kx => assumption); (case kz => assumption); (case kg => walk_at "gl"); (case k1 => rfl); (case k2 => rfl)) | ((with_reducible refine' x_call ?kx ?kh ?kg ?_ ?kl ?kd ?k1 ?k2); (case kh => assumption); (case kx => assumption); (case kg => walk_at "gl"); (case kl => first | decide | omega); (case kd => decide); (case k1 => rfl); (case k2 => rfl))))
    | ((with_reducible show DL.WE _ (Expr.BoolOp _ _ _) _ _ _); (first | with_reducible refine we_and ?_ | with_reducible refine we_or ?_ | with_reducible refine we_one ?_))
    | ((with_reducible show DL.WE _ (Expr.UnaryOp _ _ _) _ _ _); (first | with_reducible refine we_not ?_ | with_reducible refine we_neg ?_))
    | ((with_reducible show DL.WE _ (Expr.IfExp _ _ _ _) _ _ _); (first | with_reducible refine we_if ?_))
    | ((with_reducible show DL.WE _ (Expr.Constant _ _ _) _ _ _); (first | with_reducible refine we_int ?_ | with_reducible refine we_bl ?_ | with_reducible refine we_non ?_ | with_reducible refine we_str ?_))
    | ((with_reducible show DL.WE _ (Expr.Tuple _ _ _) _ _ _); (first | with_reducible refine we_tup ?_))
    | ((with_reducible show DL.WE _ (Expr.Name _ _) _ _ _); (first | ((with_reducible refine' we_nm ?k1 ?k0 ?k2 ?_); (case k1 => assumption); (case k0 => walk_at "nm"); (case k2 => walk_at "nm")) | ((with_reducible refine' x_tyInt ?kx ?kz ?kg ?_); (case kx => assumption); (case kz => assumption); (case kg => walk_at "gl")) | ((with_reducible refine' x_tyBool ?kx ?kz ?kg ?_); (case kx => assumption); (case kz => assumption); (case kg => walk_at "gl")) | ((with_reducible refine' x_tyStr ?kx ?kz ?kg ?_); (case kx => assumption); (case kz => assumption); (case kg => walk_at "gl")) | ((with_reducible refine' x_tyList ?kx ?kz ?kg ?_); (case kx => assumption); (case kz => assumption); (case kg => walk_at "gl")) | ((with_reducible refine' x_tyTuple ?kx ?kz ?kg ?_); (case kx => assumption); (case kz => assumption); (case kg => walk_at "gl")) | ((with_reducible refine' x_glob ?kx ?kh ?kg ?_ ?kd); (case kh => assumption); (case kx => assumption); (case kg => walk_at "gl"); (case kd => decide))))))
  | ((with_reducible show DL.WSs _ _ _ _ _); (first | with_reducible refine wss_cons ?_ | with_reducible refine wss_nil ?_))
  | ((with_reducible show DL.WS _ _ _ _ _); (first
    | ((with_reducible show DL.WS _ (Stmt.If _ _ _ _) _ _ _); (first | ((with_reducible refine' x_ifWge ?kb ?k0 ?kp ?_); (case kb => assumption); (case k0 => walk_at "nm"); (case kp => walk_at "nm")) | with_reducible refine ws_if ?_))
    | ((with_reducible show DL.WS _ (Stmt.Return _ _) _ _ _); (first | with_reducible refine ws_ret ?_ | with_reducible refine ws_retN ?_))
    | ((with_reducible show DL.WS _ (Stmt.Pass _) _ _ _); (first | with_reducible refine ws_pass ?_))
    | ((with_reducible show DL.WS _ (Stmt.Break _) _ _ _); (first | with_reducible refine ws_break ?_))
    | ((with_reducible show DL.WS _ (Stmt.Continue _) _ _ _); (first | with_reducible refine ws_continue ?_))
    | ((with_reducible show DL.WS _ (Stmt.Assign _ _ _) _ _ _); (first | ((with_reducible refine' ws_nm ?kb ?k0 ?kp ?_ ?k1); (case kb => assumption); (case k0 => walk_at "nm"); (case kp => walk_at "nm"); (case k1 => rfl)) | ((with_reducible refine' x_par2 ?kd ?k1 ?k2 ?k3 ?k4 ?k5 ?k6 ?_ ?k7); (case kd => assumption); (case k1 => walk_at "nm"); (case k2 => (intro _; walk_at "nm")); (case k3 => decide +kernel); (case k4 => decide +kernel); (case k5 => decide +kernel); (case k6 => rfl); (case k7 => rfl)) | ((with_reducible refine' x_par3 ?kd ?k1 ?k2 ?k3 ?k4 ?k5 ?k6 ?k7 ?_ ?k8); (case kd => assumption); (case k1 => walk_at "nm"); (case k2 => (intro _; walk_at "nm")); (case k3 => (intro _ _; walk_at "nm")); (case k4 => decide +kernel); (case k5 => decide +kernel); (case k6 => decide +kernel); (case k7 => rfl); (case k8 => rfl)) | ((with_reducible refine' ws_asg ?_ ?k1 ?k2 ?k3); (case k1 => rfl); (case k2 => rfl); (case k3 => rfl)) | ((with_reducible refine' ws_asgD ?kd ?_ ?k1 ?k2 ?k3); (case kd => assumption); (case k1 => rfl); (case k2 => rfl); (case k3 => rfl))))
    | ((with_reducible show DL.WS _ (Stmt.AugAssign _ _ _ _) _ _ _); (first | ((with_reducible refine' ws_augAdd ?kb ?k0 ?kg ?kp ?_); (case kb => assumption); (case k0 => walk_at "nm"); (case kg => walk_at "nm"); (case kp => walk_at "nm"))))
    | ((with_reducible show DL.WS _ (Stmt.Expr _ _) _ _ _); (first | ((with_reducible refine' ws_expr ?_ ?k1); (case k1 => rfl))))))
  | ((with_reducible show DL.WT _ _ _ _ _); (first | ((with_reducible refine' wt_lele ?_ ?k1); (case k1 => with_unfolding_all rfl)) | ((with_reducible refine' xt_eq ?k1 ?_); (case k1 => assumption)) | ((with_reducible refine' xt_ne ?k1 ?_); (case k1 => assumption)) | ((with_reducible refine' xt_in ?k1 ?_ ?k2); (case k1 => assumption); (case k2 => rfl)) | ((with_reducible refine' xt_nin ?k1 ?_ ?k2); (case k1 => assumption); (case k2 => rfl)) | with_reducible refine wt_lt ?_ | with_reducible refine wt_le ?_ | with_reducible refine wt_gt ?_ | with_reducible refine wt_ge ?_ | with_reducible refine wt_is ?_ | with_reducible refine wt_isnot ?_ | with_reducible refine wt_not ?_ | with_reducible refine wt_bo ?_ | ((with_reducible refine' wt_val ?_ ?k1); (case k1 => (intro _; rfl)))))
  | ((with_reducible show DL.WA _ _ _ _ _); (first | with_reducible refine wa_nil ?_ | ((with_reducible refine' wa_cons ?_ ?k1); (case k1 => rfl))))
  | ((with_reducible show DL.WW _ _ _ _ _); (first | with_reducible refine ww_and ?_ | with_reducible refine ww_or ?_ | with_reducible refine ww_and1 ?_ | with_reducible refine ww_or1 ?_))
  | ((with_reducible show DL.WG _ _ _ _ _ _); (first | ((with_reducible refine' wg_nm ?kb ?k0 ?kp ?_); (case kb => assumption); (case k0 => walk_at "nm"); (case kp => walk_at "nm")) | ((with_reducible refine' x_gtup ?kx ?kl ?_ ?k1); (case kx => assumption); (case kl => rfl); (case k1 => rfl)) | ((with_reducible refine' wg_setL ?_ ?k1); (case k1 => (intro _; rfl)))))
  | ((with_reducible show DL.WGs _ _ _ _ _ _); (first | ((with_reducible refine' wgs_cons ?_ ?k1); (case k1 => rfl)) | with_reducible refine wgs_nil ?_))
  | ((with_reducible show DL.WO _ _ _ _ _); (first | with_reducible refine wo_n ?_ | with_reducible refine wo_s ?_))
  | ((with_reducible show DL.FrzA _ _ _); (first | with_reducible refine fa_int ?_ | with_reducible refine fa_str ?_ | with_reducible refine fa_bl ?_ | with_reducible refine fa_non ?_ | with_reducible refine fa_tup ?_ | with_reducible refine fa_lst ?_ | ((with_reducible refine' fa_put ?k1 ?_); (case k1 => assumption))))
  | ((with_reducible show DL.dSl _ _ _ _ _); (first | with_reducible refine slA_f ?_ | with_reducible refine slA_t ?_ | with_reducible refine slA_p ?_ | ((with_reducible refine' slA_o ?k1 ?_); (case k1 => assumption)) | ((with_reducible refine' slA_z ?k1 ?_); (case k1 => walk_at "ct")) | with_reducible refine sl_t ?_ | with_reducible refine sl_f ?_))
  | ((with_reducible show DL.dAdd _ _ _ _); (first | with_reducible refine addA_ii ?_ | ((with_reducible refine' addA_ss ?k1 ?_); (case k1 => walk_at "ct")) | ((with_reducible refine' addA_tt ?k1 ?_); (case k1 => walk_at "ct")) | ((with_reducible refine' addA_ll ?k1 ?_); (case k1 => walk_at "sz")) | ((with_reducible refine' addA_pl ?k1 ?_); (case k1 => walk_at "sz")) | with_reducible refine add_ii ?_ | ((with_reducible refine' add_ss ?k1 ?_); (case k1 => walk_at "ct")) | ((with_reducible refine' add_tt ?k1 ?_); (case k1 => walk_at "ct"))))
  | ((with_reducible show DL.dList _ _ _); (first | with_reducible refine listA_l ?_ | with_reducible refine listA_t ?_ | with_reducible refine listA_p ?_ | ((with_reducible refine' listA_o ?k1 ?_); (case k1 => assumption))))
  | ((with_reducible show DL.dMul _ _ _ _); (first | ((with_reducible refine' mulA_ii ?k1 ?_); (case k1 => walk_at "ct")) | ((with_reducible refine' mul_ii ?k1 ?_); (case k1 => walk_at "ct"))))
  | ((with_reducible show DL.dMulS _ _ _ _); (first | ((with_reducible refine' mul_s ?k1 ?_); (case k1 => decide +kernel))))
  | ((with_reducible show DL.dAppend _ _ _ _); (first | ((with_reducible refine' app_put ?k1 ?_); (case k1 => walk_at "sz"))))
  | ((with_reducible show DL.tb _ _ _); (first | with_reducible refine tb_ok ?_))
  | ((with_reducible show DL.dIsi _ _ _); (first | ((with_reducible refine' isi_int ?k1 ?_); (case k1 => walk_at "kd")) | ((with_reducible refine' isi_bool ?k1 ?_); (case k1 => walk_at "kd")) | ((with_reducible refine' isi_str ?k1 ?_); (case k1 => walk_at "kd")) | ((with_reducible refine' isi_list ?k1 ?_); (case k1 => walk_at "kd")) | ((with_reducible refine' isi_tuple ?k1 ?_); (case k1 => walk_at "kd")) | ((with_reducible refine' isi_ls ?k1 ?_); (case k1 => assumption)) | ((with_reducible refine' isi_lsT ?k1 ?_); (case k1 => assumption))))
  | ((with_reducible show DL.dIsiT _ _ _); (first | ((with_reducible refine' isi_ltT ?k1 ?k2 ?_); (case k1 => rfl); (case k2 => rfl)) | ((with_reducible refine' isi_ltF ?k1 ?k2 ?_); (case k1 => rfl); (case k2 => rfl)) | ((with_reducible refine' isi_lt ?k1 ?_); (case k1 => walk_at "kd")) | ((with_reducible refine' isiT_ls ?k1 ?_); (case k1 => assumption))))
  | ((with_reducible show DL.dLen _ _ _); (first | ((with_reducible refine' len_ls ?k1 ?_); (case k1 => assumption)) | ((with_reducible refine' len_str ?k1 ?_); (case k1 => walk_at "ct")) | with_reducible refine len_tup ?_ | with_reducible refine len_fr ?_ | with_reducible refine len_sl ?_ | ((with_reducible refine' len_own ?k1 ?_); (case k1 => assumption)) | with_reducible refine len_put ?_))
  | ((with_reducible show DL.dEq _ _ _ _ _); (first | with_reducible refine eq_bb ?_ | with_reducible refine ne_bb ?_ | with_reducible refine eq_ii ?_ | with_reducible refine ne_ii ?_))
  | ((with_reducible show DL.dI2 _ _ _ _ _ _); (first | ((with_reducible refine' i2_ok ?k1 ?_); (case k1 => walk_at "ct"))))
  | ((with_reducible show DL.dB2 _ _ _ _ _); (first | with_reducible refine b2_ok ?_))
  | ((with_reducible show DL.dInt1 _ _ _ _); (first | with_reducible refine int1_ok ?_))
  | ((with_reducible show DL.dInt2 _ _ _ _); (first | with_reducible refine int2_ok ?_))
  | ((with_reducible show DL.dInt _ _ _); (first | with_reducible refine int_i ?_ | with_reducible refine int_b ?_))
  | ((with_reducible show DL.dIn _ _ _ _ _); (first | with_reducible refine ins_c ?_))
  | ((with_reducible show DL.dTuple _ _ _); (first | with_reducible refine tup_t ?_ | with_reducible refine tup_f ?_))
  | ((with_reducible show DL.dIx _ _ _ _); (first | ((with_reducible refine' ix_t ?k1 ?_); (case k1 => rfl)) | ((with_reducible refine' ix_f ?k1 ?_); (case k1 => rfl)) | ((with_reducible refine' ix_s ?k1 ?_); (case k1 => rfl)) | ((with_reducible refine' ix_p ?k1 ?_); (case k1 => rfl)) | ((with_reducible refine' ix_o ?k0 ?k1 ?_); (case k0 => assumption); (case k1 => rfl))))
  | ((with_reducible show DL.dIsN _ _ _ _ _); (first | ((with_reducible refine' isn_k ?k1 ?_); (case k1 => walk_at "kd")) | ((with_reducible refine' nisn_k ?k1 ?_); (case k1 => walk_at "kd"))))
  | with_reducible refine ex_bl ?_
  | with_reducible refine ex_int ?_
  | with_reducible refine ex_2 ?_
  | with_reducible refine ex_3 ?_
  | ((with_reducible refine' setL_p ?k1 ?_); (case k1 => rfl))
  | ((with_reducible refine' setL_o ?k0 ?k1 ?_); (case k0 => assumption); (case k1 => rfl))
  | with_reducible refine and_T ?_
  | with_reducible refine and_F ?_
  | ((with_reducible refine and_S ?_ ?_) <;> intro _)
  | with_reducible refine ty_str ?_
  | with_reducible refine ty_put ?_
  | ((with_reducible refine' ty_own ?k1 ?_); (case k1 => assumption))
  | ((with_reducible refine' sz_ok ?k1 ?_); (case k1 => rfl))
  | ((with_reducible refine' sz_as ?k1 ?_); (case k1 => assumption))))
local macro_rules | `(tactic| walk_at "pyR") => `(tactic| repeat' (first
  | ((with_reducible show DL.WE _ _ _ _ _); (first
    | ((with_reducible show DL.WE _ (Expr.Compare _ _ _ _) _ _ _); (first | ((with_reducible refine' we_lele ?_ ?k1); (case k1 => with_unfolding_all rfl)) | with_reducible refine we_lt ?_ | with_reducible refine we_le ?_ | with_reducible refine we_gt ?_ | with_reducible refine we_ge ?_ | with_reducible refine we_is ?_ | with_reducible refine we_isnot ?_ | ((with_reducible refine' x_eq ?k1 ?_); (case k1 => assumption)) | ((with_reducible refine' x_ne ?k1 ?_); (case k1 => assumption)) | ((with_reducible refine' x_in ?k1 ?_ ?k2); (case k1 => assumption); (case k2 => rfl)) | ((with_reducible refine' x_nin ?k1 ?_ ?k2); (case k1 => assumption); (case k2 => rfl))))
    | ((with_reducible show DL.WE _ (Expr.Subscript _ _ _) _ _ _); (first | with_reducible refine we_revT ?_ | ((with_reducible refine' x_ixL ?_ ?k1); (case k1 => (intro _ _; rfl))) | ((with_reducible refine' we_ix ?_ ?k1); (case k1 => (intro _ _; rfl))) | with_reducible refine we_slice ?_))
    | ((with_reducible show DL.WE _ (Expr.Call (Expr.Attribute _ _ _) _ _ _) _ _ _); (first | ((with_reducible refine' x_upper ?_ ?k1 ?k2); (case k1 => rfl); (case k2 => rfl)) | ((with_reducible refine' x_join ?_ ?k1 ?k2 ?k3 ?k4 ?k5); (case k1 => rfl); (case k2 => rfl); (case k3 => rfl); (case k4 => rfl); (case k5 => rfl)) | ((with_reducible refine' x_sindex ?_ ?k1 ?k2 ?k3 ?k4 ?k5); (case k1 => rfl); (case k2 => rfl); (case k3 => rfl); (case k4 => rfl); (case k5 => rfl)) | ((with_reducible refine' x_insert ?_ ?k1 ?k2 ?k3 ?k4 ?k5); (case k1 => rfl); (case k2 => rfl); (case k3 => rfl); (case k4 => rfl); (case k5 => rfl)) | ((with_reducible refine' x_popAt ?_ ?k1 ?k2 ?k3 ?k4 ?k5); (case k1 => rfl); (case k2 => rfl); (case k3 => rfl); (case k4 => rfl); (case k5 => rfl)) | ((with_reducible refine' x_append ?_ ?k1 ?k2 ?k3 ?k4 ?k5); (case k1 => rfl); (case k2 => rfl); (case k3 => rfl); (case k4 => rfl); (case k5 => rfl)) | ((with_reducible refine' x_extend ?_ ?k1 ?k2 ?k3 ?k4 ?k5); (case k1 => rfl); (case k2 => rfl); (case k3 => rfl); (case k4 => rfl); (case k5 => rfl))))
    | ((with_reducible show DL.WE _ (Expr.Call (Expr.Name _ _) _ _ _) _ _ _); (first | ((with_reducible refine' x_repr ?kx ?kz ?kg ?_ ?k1 ?k2); (case kx => assumption); (case kz => assumption); (case kg => walk_at "gl"); (case k1 => rfl); (case k2 => rfl)) | ((with_reducible refine' x_isiT ?kx ?kz ?kg ?_ ?k1 ?k2); (case kx => assumption); (case kz => assumption); (case kg => walk_at "gl"); (case k1 => rfl); (case k2 => rfl)) | ((with_reducible refine' x_isi ?kx ?kz ?kg ?_ ?k1 ?k2); (case kx => assumption); (case kz => assumption); (case kg => walk_at "gl"); (case k1 => rfl); (case k2 => rfl)) | ((with_reducible refine' x_len ?kx ?kz ?kg ?_ ?k1 ?k2); (case kx => assumption); (case kz => assumption); (case kg => walk_at "gl"); (case k1 => rfl); (case k2 => rfl)) | ((with_reducible refine' x_abs ?kx ?kz ?kg ?_ ?k1 ?k2); (case kx => assumption); (case kz => assumption); (case kg => walk_at "gl"); (case k1 => rfl); (case k2 => rfl)) | ((with_reducible refine' x_max2 ?kx ?kz ?kg ?_ ?k1 ?k2); (case kx => assumption); (case kz => assumption); (case kg => walk_at "gl"); (case k1 => rfl); (case k2 => rfl)) | ((with_reducible refine' x_min2 ?kx ?kz ?kg ?_ ?k1 ?k2); (case kx => assumption); (case kz => assumption); (case kg => walk_at "gl"); (case k1 => rfl); (case k2 => rfl)) | ((with_reducible refine' x_minL ?kx ?kz ?kg ?_ ?k1 ?k2); (case kx => assumption); (case kz => assumption); (case kg => walk_at "gl"); (case k1 => rfl); (case k2 => rfl)) | ((with_reducible refine' x_any ?kx ?kz ?kg ?_ ?k1 ?k2); (case kx => assumption); (case kz => assumption); (case kg => walk_at "gl"); (case k1 => rfl); (case k2 => rfl)) | ((with_reducible refine' x_all ?kx ?kz ?kg ?_ ?k1 ?k2); (case kx => assumption); (case kz => assumption); (case kg => walk_at "gl"); (case k1 => rfl); (case k2 => rfl)) | ((with_reducible refine' x_sum ?kx ?kz ?kg ?_ ?k1 ?k2); (case kx => assumption); (case kz => assumption); (case kg => walk_at "gl"); (case k1 => rfl); (case k2 => rfl)) | ((with_reducible refine' x_intC ?kx ?kz ?kg ?_ ?k1 ?k2); (case kx => assumption); (case kz => assumption); (case kg => walk_at "gl"); (case k1 => rfl); (case k2 => rfl)) | ((with_reducible refine' x_strC ?kx ?kz ?kg ?_ ?k1 ?k2); (case kx => assumption); (case kz => assumption); (case kg => walk_at "gl"); (case k1 => rfl); (case k2 => rfl)) | ((with_reducible refine' x_tupleC ?kx ?kz ?kg ?_ ?k1 ?k2); (case kx => assumption); (case kz => assumption); (case kg => walk_at "gl"); (case k1 => rfl); (case k2 => rfl)) | ((with_reducible refine' x_listC ?kx ?kz ?kg ?_ ?k1 ?k2); (case kx => assumption); (case kz => assumption); (case kg => walk_at "gl"); (case k1 => rfl); (case k2 => rfl)) | ((with_reducible refine' x_call ?kx ?kh ?kg ?_ ?kl ?kd ?k1 ?k2); (case kh => assumption); (case kx => assumption); (case kg => walk_at "gl"); (case kl => first | decide | omega); (case kd => decide); (case k1 => rfl); (case k2 => rfl))))
    | ((with_reducible show DL.WE _ (Expr.BoolOp _ _ _) _ _ _); (first | with_reducible refine we_and ?_ | with_reducible refine we_or ?_ | with_reducible refine we_one ?_))
    | ((with_reducible show DL.WE _ (Expr.UnaryOp _ _ _) _ _ _); (first | with_reducible refine we_not ?_ | with_reducible refine we_neg ?_))
    | ((with_reducible show DL.WE _ (Expr.IfExp _ _ _ _) _ _ _); (first | with_reducible refine we_if ?_))
    | ((with_reducible show DL.WE _ (Expr.Constant _ _ _) _ _ _); (first | with_reducible refine we_int ?_ | with_reducible refine we_bl ?_ | with_reducible refine we_non ?_ | with_reducible refine we_str ?_))
    | ((with_reducible show DL.WE _ (Expr.Tuple _ _ _) _ _ _); (first | with_reducible refine we_tup ?_))
    | ((with_reducible show DL.WE _ (Expr.Name _ _) _ _ _); (first | ((with_reducible refine' we_nm ?k1 ?k0 ?k2 ?_); (case k1 => assumption); (case k0 => walk_at "nm"); (case k2 => walk_at "nm")) | ((with_reducible refine' x_tyInt ?kx ?kz ?kg ?_); (case kx => assumption); (case kz => assumption); (case kg => walk_at "gl")) | ((with_reducible refine' x_tyBool ?kx ?kz ?kg ?_); (case kx => assumption); (case kz => assumption); (case kg => walk_at "gl")) | ((with_reducible refine' x_tyStr ?kx ?kz ?kg ?_); (case kx => assumption); (case kz => assumption); (case kg => walk_at "gl")) | ((with_reducible refine' x_tyList ?kx ?kz ?kg ?_); (case kx => assumption); (case kz => assumption); (case kg => walk_at "gl")) | ((with_reducible refine' x_tyTuple ?kx ?kz ?kg ?_); (case kx => assumption); (case kz => assumption); (case kg => walk_at "gl")) | ((with_reducible refine' x_glob ?kx ?kh ?kg ?_ ?kd); (case kh => assumption); (case kx => assumption); (case kg => walk_at "gl"); (case kd => decide))))
    | ((with_reducible show DL.WE _ (Expr.BinOp _ _ _ _) _ _ _); (first | with_reducible refine we_add ?_ | with_reducible refine we_sub' ?_ | with_reducible refine we_mul ?_ | with_reducible refine we_mod ?_ | with_reducible refine we_fdiv ?_ | with_reducible refine we_pow ?_))))
  | ((with_reducible show DL.WSs _ _ _ _ _); (first | with_reducible refine wss_cons ?_ | with_reducible refine wss_nil ?_))
  | ((with_reducible show DL.WS _ _ _ _ _); (first
    | ((with_reducible show DL.WS _ (Stmt.If _ _ _ _) _ _ _); (first | ((with_reducible refine' x_ifWge ?kb ?k0 ?kp ?_); (case kb => assumption); (case k0 => walk_at "nm"); (case kp => walk_at "nm")) | with_reducible refine ws_if ?_))
    | ((with_reducible show DL.WS _ (Stmt.Return _ _) _ _ _); (first | with_reducible refine ws_ret ?_ | with_reducible refine ws_retN ?_))
    | ((with_reducible show DL.WS _ (Stmt.Pass _) _ _ _); (first | with_reducible refine ws_pass ?_))
    | ((with_reducible show DL.WS _ (Stmt.Break _) _ _ _); (first | with_reducible refine ws_break ?_))
    | ((with_reducible show DL.WS _ (Stmt.Continue _) _ _ _); (first | with_reducible refine ws_continue ?_))
    | ((with_reducible show DL.WS _ (Stmt.Assign _ _ _) _ _ _); (first | ((with_reducible refine' ws_nm ?kb ?k0 ?kp ?_ ?k1); (case kb => assumption); (case k0 => walk_at "nm"); (case kp => walk_at "nm"); (case k1 => rfl)) | ((with_reducible refine' x_par2 ?kd ?k1 ?k2 ?k3 ?k4 ?k5 ?k6 ?_ ?k7); (case kd => assumption); (case k1 => walk_at "nm"); (case k2 => (intro _; walk_at "nm")); (case k3 => decide +kernel); (case k4 => decide +kernel); (case k5 => decide +kernel); (case k6 => rfl); (case k7 => rfl)) | ((with_reducible refine' x_par3 ?kd ?k1 ?k2 ?k3 ?k4 ?k5 ?k6 ?k7 ?_ ?k8); (case kd => assumption); (case k1 => walk_at "nm"); (case k2 => (intro _; walk_at "nm")); (case k3 => (intro _ _; walk_at "nm")); (case k4 => decide +kernel); (case k5 => decide +kernel); (case k6 => decide +kernel); (case k7 => rfl); (case k8 => rfl)) | ((with_reducible refine' ws_asg ?_ ?k1 ?k2 ?k3); (case k1 => rfl); (case k2 => rfl); (case k3 => rfl)) | ((with_reducible refine' ws_asgD ?kd ?_ ?k1 ?k2 ?k3); (case kd => assumption); (case k1 => rfl); (case k2 => rfl); (case k3 => rfl))))
    | ((with_reducible show DL.WS _ (Stmt.AugAssign _ _ _ _) _ _ _); (first | ((with_reducible refine' ws_augAdd ?kb ?k0 ?kg ?kp ?_); (case kb => assumption); (case k0 => walk_at "nm"); (case kg => walk_at "nm"); (case kp => walk_at "nm"))))
    | ((with_reducible show DL.WS _ (Stmt.Expr _ _) _ _ _); (first | ((with_reducible refine' ws_expr ?_ ?k1); (case k1 => rfl))))))
  | ((with_reducible show DL.WT _ _ _ _ _); (first | ((with_reducible refine' wt_lele ?_ ?k1); (case k1 => with_unfolding_all rfl)) | ((with_reducible refine' xt_eq ?k1 ?_); (case k1 => assumption)) | ((with_reducible refine' xt_ne ?k1 ?_); (case k1 => assumption)) | ((with_reducible refine' xt_in ?k1 ?_ ?k2); (case k1 => assumption); (case k2 => rfl)) | ((with_reducible refine' xt_nin ?k1 ?_ ?k2); (case k1 => assumption); (case k2 => rfl)) | with_reducible refine wt_lt ?_ | with_reducible refine wt_le ?_ | with_reducible refine wt_gt ?_ | with_reducible refine wt_ge ?_ | with_reducible refine wt_is ?_ | with_reducible refine wt_isnot ?_ | with_reducible refine wt_not ?_ | with_reducible refine wt_bo ?_ | ((with_reducible refine' wt_val ?_ ?k1); (case k1 => (intro _; rfl)))))
  | ((with_reducible show DL.WA _ _ _ _ _); (first | with_reducible refine wa_nil ?_ | ((with_reducible refine' wa_cons ?_ ?k1); (case k1 => rfl))))
  | ((with_reducible show DL.WW _ _ _ _ _); (first | with_reducible refine ww_and ?_ | with_reducible refine ww_or ?_ | with_reducible refine ww_and1 ?_ | with_reducible refine ww_or1 ?_))
  | ((with_reducible show DL.WG _ _ _ _ _ _); (first | ((with_reducible refine' wg_nm ?kb ?k0 ?kp ?_); (case kb => assumption); (case k0 => walk_at "nm"); (case kp => walk_at "nm")) | ((with_reducible refine' x_gtup ?kx ?kl ?_ ?k1); (case kx => assumption); (case kl => rfl); (case k1 => rfl)) | ((with_reducible refine' wg_setL ?_ ?k1); (case k1 => (intro _; rfl)))))
  | ((with_reducible show DL.WGs _ _ _ _ _ _); (first | ((with_reducible refine' wgs_cons ?_ ?k1); (case k1 => rfl)) | with_reducible refine wgs_nil ?_))
  | ((with_reducible show DL.WO _ _ _ _ _); (first | with_reducible refine wo_n ?_ | with_reducible refine wo_s ?_))
  | ((with_reducible show DL.tb _ _ _); (first | with_reducible refine tb_ok ?_))
  | ((with_reducible show DL.dIsi _ _ _); (first | ((with_reducible refine' isi_int ?k1 ?_); (case k1 => walk_at "kd")) | ((with_reducible refine' isi_bool ?k1 ?_); (case k1 => walk_at "kd")) | ((with_reducible refine' isi_str ?k1 ?_); (case k1 => walk_at "kd")) | ((with_reducible refine' isi_list ?k1 ?_); (case k1 => walk_at "kd")) | ((with_reducible refine' isi_tuple ?k1 ?_); (case k1 => walk_at "kd")) | ((with_reducible refine' isi_ls ?k1 ?_); (case k1 => assumption)) | ((with_reducible refine' isi_lsT ?k1 ?_); (case k1 => assumption))))
  | ((with_reducible show DL.dIsiT _ _ _); (first | ((with_reducible refine' isi_ltT ?k1 ?k2 ?_); (case k1 => rfl); (case k2 => rfl)) | ((with_reducible refine' isi_ltF ?k1 ?k2 ?_); (case k1 => rfl); (case k2 => rfl)) | ((with_reducible refine' isi_lt ?k1 ?_); (case k1 => walk_at "kd")) | ((with_reducible refine' isiT_ls ?k1 ?_); (case k1 => assumption))))
  | ((with_reducible show DL.dLen _ _ _); (first | ((with_reducible refine' len_ls ?k1 ?_); (case k1 => assumption)) | ((with_reducible refine' len_str ?k1 ?_); (case k1 => walk_at "ct")) | with_reducible refine len_tup ?_ | with_reducible refine len_fr ?_ | with_reducible refine len_sl ?_ | ((with_reducible refine' len_own ?k1 ?_); (case k1 => assumption)) | with_reducible refine len_put ?_))
  | ((with_reducible show DL.dEq _ _ _ _ _); (first | with_reducible refine eq_bb ?_ | with_reducible refine ne_bb ?_ | with_reducible refine eq_ii ?_ | with_reducible refine ne_ii ?_))
  | ((with_reducible show DL.dI2 _ _ _ _ _ _); (first | ((with_reducible refine' i2_ok ?k1 ?_); (case k1 => walk_at "ct"))))
  | ((with_reducible show DL.dB2 _ _ _ _ _); (first | with_reducible refine b2_ok ?_))
  | ((with_reducible show DL.dAdd _ _ _ _); (first | with_reducible refine add_ii ?_ | ((with_reducible refine' add_ss ?k1 ?_); (case k1 => walk_at "ct")) | ((with_reducible refine' add_tt ?k1 ?_); (case k1 => walk_at "ct"))))
  | ((with_reducible show DL.dMul _ _ _ _); (first | ((with_reducible refine' mul_ii ?k1 ?_); (case k1 => walk_at "ct"))))
  | ((with_reducible show DL.dSl _ _ _ _ _); (first | with_reducible refine sl_t ?_ | with_reducible refine sl_f ?_))
  | ((with_reducible show DL.dInt1 _ _ _ _); (first | with_reducible refine int1_ok ?_))
  | ((with_reducible show DL.dInt2 _ _ _ _); (first | with_reducible refine int2_ok ?_))
  | ((with_reducible show DL.dInt _ _ _); (first | with_reducible refine int_i ?_ | with_reducible refine int_b ?_))
  | ((with_reducible show DL.dIn _ _ _ _ _); (first | with_reducible refine ins_c ?_))
  | ((with_reducible show DL.dTuple _ _ _); (first | with_reducible refine tup_t ?_ | with_reducible refine tup_f ?_))
  | ((with_reducible show DL.dIx _ _ _ _); (first | ((with_reducible refine' ix_t ?k1 ?_); (case k1 => rfl)) | ((with_reducible refine' ix_f ?k1 ?_); (case k1 => rfl)) | ((with_reducible refine' ix_s ?k1 ?_); (case k1 => rfl)) | ((with_reducible refine' ix_p ?k1 ?_); (case k1 => rfl)) | ((with_reducible refine' ix_o ?k0 ?k1 ?_); (case k0 => assumption); (case k1 => rfl))))
  | ((with_reducible show DL.dIsN _ _ _ _ _); (first | ((with_reducible refine' isn_k ?k1 ?_); (case k1 => walk_at "kd")) | ((with_reducible refine' nisn_k ?k1 ?_); (case k1 => walk_at "kd"))))
  | with_reducible refine ex_bl ?_
  | with_reducible refine ex_int ?_
  | with_reducible refine ex_2 ?_
  | with_reducible refine ex_3 ?_
  | ((with_reducible refine' setL_p ?k1 ?_); (case k1 => rfl))
  | ((with_reducible refine' setL_o ?k0 ?k1 ?_); (case k0 => assumption); (case k1 => rfl))
  | with_reducible refine and_T ?_
  | with_reducible refine and_F ?_
  | ((with_reducible refine and_S ?_ ?_) <;> intro _)
  | with_reducible refine ty_str ?_
  | with_reducible refine ty_put ?_
  | ((with_reducible refine' ty_own ?k1 ?_); (case k1 => assumption))
  | ((with_reducible refine' sz_ok ?k1 ?_); (case k1 => rfl))
  | ((with_reducible refine' sz_as ?k1 ?_); (case k1 => assumption))))
local macro_rules | `(tactic| walk_at "pyC") => `(tactic| repeat' (first
  | ((with_reducible show DL.WE _ _ _ _ _); (first
    | ((with_reducible show DL.WE _ (Expr.Subscript _ _ _) _ _ _); (first | ((with_reducible refine' x_ixD ?kx ?_ ?k1); (case kx => assumption); (case k1 => (intro _ _; rfl))) | with_reducible refine we_revT ?_ | ((with_reducible refine' x_ixL ?_ ?k1); (case k1 => (intro _ _; rfl))) | ((with_reducible refine' we_ix ?_ ?k1); (case k1 => (intro _ _; rfl))) | with_reducible refine we_slice ?_))
    | ((with_reducible show DL.WE _ (Expr.Compare _ _ _ _) _ _ _); (first | ((with_reducible refine' x_inX ?kx ?_ ?k1); (case kx => assumption); (case k1 => rfl)) | ((with_reducible refine' x_ninX ?kx ?_ ?k1); (case kx => assumption); (case k1 => rfl)) | ((with_reducible refine' we_lele ?_ ?k1); (case k1 => with_unfolding_all rfl)) | with_reducible refine we_lt ?_ | with_reducible refine we_le ?_ | with_reducible refine we_gt ?_ | with_reducible refine we_ge ?_ | with_reducible refine we_is ?_ | with_reducible refine we_isnot ?_ | ((with_reducible refine' x_eq ?k1 ?_); (case k1 => assumption)) | ((with_reducible refine' x_ne ?k1 ?_); (case k1 => assumption)) | ((with_reducible refine' x_in ?k1 ?_ ?k2); (case k1 => assumption); (case k2 => rfl)) | ((with_reducible refine' x_nin ?k1 ?_ ?k2); (case k1 => assumption); (case k2 => rfl))))
    | ((with_reducible show DL.WE _ (Expr.Call (Expr.Name _ _) _ _ _) _ _ _); (first | ((with_reducible refine' x_lenX ?kx ?kz ?kg ?_ ?k1 ?k2); (case kx => assumption); (case kz => assumption); (case kg => walk_at "gl"); (case k1 => rfl); (case k2 => rfl)) | ((with_reducible refine' x_dictP ?kx ?kz ?kg ?_ ?k1 ?k2); (case kx => assumption); (case kz => assumption); (case kg => walk_at "gl"); (case k1 => rfl); (case k2 => rfl)) | ((with_reducible refine' x_sortedK ?kx ?kz ?kg ?_ ?k1 ?k2); (case kx => assumption); (case kz => assumption); (case kg => walk_at "gl"); (case k1 => rfl); (case k2 => rfl)) | ((with_reducible refine' x_repr ?kx ?kz ?kg ?_ ?k1 ?k2); (case kx => assumption); (case kz => assumption); (case kg => walk_at "gl"); (case k1 => rfl); (case k2 => rfl)) | ((with_reducible refine' x_isiT ?kx ?kz ?kg ?_ ?k1 ?k2); (case kx => assumption); (case kz => assumption); (case kg => walk_at "gl"); (case k1 => rfl); (case k2 => rfl)) | ((with_reducible refine' x_isi ?kx ?kz ?kg ?_ ?k1 ?k2); (case kx => assumption); (case kz => assumption); (case kg => walk_at "gl"); (case k1 => rfl); (case k2 => rfl)) | ((with_reducible refine' x_len ?kx ?kz ?kg ?_ ?k1 ?k2); (case kx => assumption); (case kz => assumption); (case kg => walk_at "gl"); (case k1 => rfl); (case k2 => rfl)) | ((with_reducible refine' x_abs ?kx ?kz ?kg ?_ ?k1 ?k2); (case kx => assumption); (case kz => assumption); (case kg => walk_at "gl"); (case k1 => rfl); (case k2 => rfl)) | ((with_reducible refine' x_max2 ?kx ?kz ?kg ?_ ?k1 ?k2); (case kx => assumption); (case kz => assumption); (case kg => walk_at "gl"); (case k1 => rfl); (case k2 => rfl)) | ((with_reducible refine' x_min2 ?kx ?kz ?kg ?_ ?k1 ?k2); (case kx => assumption); (case kz => assumption); (case kg => walk_at "gl"); (case k1 => rfl); (case k2 => rfl)) | ((with_reducible refine' x_minL ?kx ?kz ?kg ?_ ?k1 ?k2); (case kx => assumption); (case kz => assumption); (case kg => walk_at "gl"); (case k1 => rfl); (case k2 => rfl)) | ((with_reducible refine' x_any ?kx ?kz ?kg ?_ ?k1 ?k2); (case kx => assumption); (case kz => assumption); (case kg => walk_at "gl"); (case k1 => rfl); (case k2 => rfl)) | ((with_reducible refine' x_all ?kx ?kz ?kg ?_ ?k1 ?k2); (case kx => assumption); (case kz => assumption); (case kg => walk_at "gl"); (case k1 => rfl); (case k2 => rfl)) | ((with_reducible refine' x_sum ?kx ?kz ?kg ?_ ?k1 ?k2); (case kx => assumption); (case kz => assumption); (case kg => walk_at "gl"); (case k1 => rfl); (case k2 => rfl)) | ((with_reducible refine' x_intC ?kx ?kz ?kg ?_ ?k1 ?k2); (case kx => assumption); (case kz => assumption); (case kg => walk_at "gl"); (case k1 => rfl); (case k2 => rfl)) | ((with_reducible refine' x_strC ?kx ?kz ?kg ?_ ?k1 ?k2); (case kx => assumption); (case kz => assumption); (case kg => walk_at "gl"); (case k1 => rfl); (case k2 => rfl)) | ((with_reducible refine' x_tupleC ?kx ?kz ?kg ?_ ?k1 ?k2); (case kx => assumption); (case kz => assumption); (case kg => walk_at "gl"); (case k1 => rfl); (case k2 => rfl)) | ((with_reducible refine' x_listC ?kx ?kz ?kg ?_ ?k1 ?k2); (case kx => assumption); (case kz => assumption); (case kg => walk_at "gl"); (case k1 => rfl); (case k2 => rfl)) | ((with_reducible refine' x_call ?kx ?kh ?kg ?_ ?kl ?kd ?k1 ?k2); (case kh => assumption); (case kx => assumption); (case kg => walk_at "gl"); (case kl => first | decide | omega); (case kd => decide); (case k1 => rfl); (case k2 => rfl))))
    | ((with_reducible show DL.WE _ (Expr.Attribute _ _ _) _ _ _); (first | ((with_reducible refine' x_fld ?kx ?_ ?k1); (case kx => assumption); (case k1 => rfl))))
    | ((with_reducible show DL.WE _ (Expr.Dict _ _ _) _ _ _); (first | with_reducible refine x_dnew ?_))
    | ((with_reducible show DL.WE _ (Expr.Call (Expr.Attribute _ _ _) _ _ _) _ _ _); (first | ((with_reducible refine' x_stripC ?_ ?k1 ?k2 ?k3 ?k4 ?k5); (case k1 => rfl); (case k2 => rfl); (case k3 => rfl); (case k4 => rfl); (case k5 => rfl)) | ((with_reducible refine' x_dget2 ?kx ?_ ?km); (case kx => assumption); (case km => exact ⟨rfl, rfl, rfl, rfl⟩)) | ((with_reducible refine' x_dpop1 ?_ ?km); (case km => exact ⟨rfl, rfl, rfl, rfl⟩)) | ((with_reducible refine' x_upper ?_ ?k1 ?k2); (case k1 => rfl); (case k2 => rfl)) | ((with_reducible refine' x_join ?_ ?k1 ?k2 ?k3 ?k4 ?k5); (case k1 => rfl); (case k2 => rfl); (case k3 => rfl); (case k4 => rfl); (case k5 => rfl)) | ((with_reducible refine' x_sindex ?_ ?k1 ?k2 ?k3 ?k4 ?k5); (case k1 => rfl); (case k2 => rfl); (case k3 => rfl); (case k4 => rfl); (case k5 => rfl)) | ((with_reducible refine' x_insert ?_ ?k1 ?k2 ?k3 ?k4 ?k5); (case k1 => rfl); (case k2 => rfl); (case k3 => rfl); (case k4 => rfl); (case k5 => rfl)) | ((with_reducible refine' x_popAt ?_ ?k1 ?k2 ?k3 ?k4 ?k5); (case k1 => rfl); (case k2 => rfl); (case k3 => rfl); (case k4 => rfl); (case k5 => rfl)) | ((with_reducible refine' x_append ?_ ?k1 ?k2 ?k3 ?k4 ?k5); (case k1 => rfl); (case k2 => rfl); (case k3 => rfl); (case k4 => rfl); (case k5 => rfl)) | ((with_reducible refine' x_extend ?_ ?k1 ?k2 ?k3 ?k4 ?k5); (case k1 => rfl); (case k2 => rfl); (case k3 => rfl); (case k4 => rfl); (case k5 => rfl))))
    | ((with_reducible show DL.WE _ (Expr.BoolOp _ _ _) _ _ _); (first | with_reducible refine we_and ?_ | with_reducible refine we_or ?_ | with_reducible refine we_one ?_))
    | ((with_reducible show DL.WE _ (Expr.UnaryOp _ _ _) _ _ _); (first | with_reducible refine we_not ?_ | with_reducible refine we_neg ?_))
    | ((with_reducible show DL.WE _ (Expr.IfExp _ _ _ _) _ _ _); (first | with_reducible refine we_if ?_))
    | ((with_reducible show DL.WE _ (Expr.Constant _ _ _) _ _ _); (first | with_reducible refine we_int ?_ | with_reducible refine we_bl ?_ | with_reducible refine we_non ?_ | with_reducible refine we_str ?_))
    | ((with_reducible show DL.WE _ (Expr.Tuple _ _ _) _ _ _); (first | with_reducible refine we_tup ?_))
    | ((with_reducible show DL.WE _ (Expr.Name _ _) _ _ _); (first | ((with_reducible refine' we_nm ?k1 ?k0 ?k2 ?_); (case k1 => assumption); (case k0 => walk_at "nm"); (case k2 => walk_at "nm")) | ((with_reducible refine' x_tyInt ?kx ?kz ?kg ?_); (case kx => assumption); (case kz => assumption); (case kg => walk_at "gl")) | ((with_reducible refine' x_tyBool ?kx ?kz ?kg ?_); (case kx => assumption); (case kz => assumption); (case kg => walk_at "gl")) | ((with_reducible refine' x_tyStr ?kx ?kz ?kg ?_); (case kx => assumption); (case kz => assumption); (case kg => walk_at "gl")) | ((with_reducible refine' x_tyList ?kx ?kz ?kg ?_); (case kx => assumption); (case kz => assumption); (case kg => walk_at "gl")) | ((with_reducible refine' x_tyTuple ?kx ?kz ?kg ?_); (case kx => assumption); (case kz => assumption); (case kg => walk_at "gl")) | ((with_reducible refine' x_glob ?kx ?kh ?kg ?_ ?kd); (case kh => assumption); (case kx => assumption); (case kg => walk_at "gl"); (case kd => decide))))
    | ((with_reducible show DL.WE _ (Expr.BinOp _ _ _ _) _ _ _); (first | with_reducible refine we_add ?_ | with_reducible refine we_sub' ?_ | with_reducible refine we_mul ?_ | with_reducible refine we_mod ?_ | with_reducible refine we_fdiv ?_ | with_reducible refine we_pow ?_))))
  | ((with_reducible show DL.WSs _ _ _ _ _); (first | with_reducible refine wss_cons ?_ | with_reducible refine wss_nil ?_))
  | ((with_reducible show DL.WS _ _ _ _ _); (first
    | ((with_reducible show DL.WS _ (Stmt.Assign _ _ _) _ _ _); (first | ((with_reducible refine' x_setFld ?kx ?_ ?k1); (case kx => assumption); (case k1 => rfl)) | ((with_reducible refine' ws_nm ?kb ?k0 ?kp ?_ ?k1); (case kb => assumption); (case k0 => walk_at "nm"); (case kp => walk_at "nm"); (case k1 => rfl)) | ((with_reducible refine' x_par2 ?kd ?k1 ?k2 ?k3 ?k4 ?k5 ?k6 ?_ ?k7); (case kd => assumption); (case k1 => walk_at "nm"); (case k2 => (intro _; walk_at "nm")); (case k3 => decide +kernel); (case k4 => decide +kernel); (case k5 => decide +kernel); (case k6 => rfl); (case k7 => rfl)) | ((with_reducible refine' x_par3 ?kd ?k1 ?k2 ?k3 ?k4 ?k5 ?k6 ?k7 ?_ ?k8); (case kd => assumption); (case k1 => walk_at "nm"); (case k2 => (intro _; walk_at "nm")); (case k3 => (intro _ _; walk_at "nm")); (case k4 => decide +kernel); (case k5 => decide +kernel); (case k6 => decide +kernel); (case k7 => rfl); (case k8 => rfl)) | ((with_reducible refine' ws_asg ?_ ?k1 ?k2 ?k3); (case k1 => rfl); (case k2 => rfl); (case k3 => rfl)) | ((with_reducible refine' ws_asgD ?kd ?_ ?k1 ?k2 ?k3); (case kd => assumption); (case k1 => rfl); (case k2 => rfl); (case k3 => rfl))))
    | ((with_reducible show DL.WS _ (Stmt.Delete _ _) _ _ _); (first | ((with_reducible refine' x_ddel ?_))))
    | ((with_reducible show DL.WS _ (Stmt.If _ _ _ _) _ _ _); (first | ((with_reducible refine' x_ifWge ?kb ?k0 ?kp ?_); (case kb => assumption); (case k0 => walk_at "nm"); (case kp => walk_at "nm")) | with_reducible refine ws_if ?_))
    | ((with_reducible show DL.WS _ (Stmt.Return _ _) _ _ _); (first | with_reducible refine ws_ret ?_ | with_reducible refine ws_retN ?_))
    | ((with_reducible show DL.WS _ (Stmt.Pass _) _ _ _); (first | with_reducible refine ws_pass ?_))
    | ((with_reducible show DL.WS _ (Stmt.Break _) _ _ _); (first | with_reducible refine ws_break ?_))
    | ((with_reducible show DL.WS _ (Stmt.Continue _) _ _ _); (first | with_reducible refine ws_continue ?_))
    | ((with_reducible show DL.WS _ (Stmt.AugAssign _ _ _ _) _ _ _); (first | ((with_reducible refine' ws_augAdd ?kb ?k0 ?kg ?kp ?_); (case kb => assumption); (case k0 => walk_at "nm"); (case kg => walk_at "nm"); (case kp => walk_at "nm"))))
    | ((with_reducible show DL.WS _ (Stmt.Expr _ _) _ _ _); (first | ((with_reducible refine' ws_expr ?_ ?k1); (case k1 => rfl))))))
  | ((with_reducible show DL.WT _ _ _ _ _); (first | ((with_reducible refine' xt_inX ?kx ?_ ?k1); (case kx => assumption); (case k1 => rfl)) | ((with_reducible refine' xt_ninX ?kx ?_ ?k1); (case kx => assumption); (case k1 => rfl)) | ((with_reducible refine' wt_lele ?_ ?k1); (case k1 => with_unfolding_all rfl)) | ((with_reducible refine' xt_eq ?k1 ?_); (case k1 => assumption)) | ((with_reducible refine' xt_ne ?k1 ?_); (case k1 => assumption)) | ((with_reducible refine' xt_in ?k1 ?_ ?k2); (case k1 => assumption); (case k2 => rfl)) | ((with_reducible refine' xt_nin ?k1 ?_ ?k2); (case k1 => assumption); (case k2 => rfl)) | with_reducible refine wt_lt ?_ | with_reducible refine wt_le ?_ | with_reducible refine wt_gt ?_ | with_reducible refine wt_ge ?_ | with_reducible refine wt_is ?_ | with_reducible refine wt_isnot ?_ | with_reducible refine wt_not ?_ | with_reducible refine wt_bo ?_ | ((with_reducible refine' wt_val ?_ ?k1); (case k1 => (intro _; rfl)))))
  | ((with_reducible show DL.WG _ _ _ _ _ _); (first | ((with_reducible refine' x_setX ?kx ?_ ?k1); (case kx => assumption); (case k1 => (intro _; rfl))) | ((with_reducible refine' wg_nm ?kb ?k0 ?kp ?_); (case kb => assumption); (case k0 => walk_at "nm"); (case kp => walk_at "nm")) | ((with_reducible refine' x_gtup ?kx ?kl ?_ ?k1); (case kx => assumption); (case kl => rfl); (case k1 => rfl)) | ((with_reducible refine' wg_setL ?_ ?k1); (case k1 => (intro _; rfl)))))
  | ((with_reducible show DL.WA _ _ _ _ _); (first | with_reducible refine wa_nil ?_ | ((with_reducible refine' wa_cons ?_ ?k1); (case k1 => rfl))))
  | ((with_reducible show DL.WW _ _ _ _ _); (first | with_reducible refine ww_and ?_ | with_reducible refine ww_or ?_ | with_reducible refine ww_and1 ?_ | with_reducible refine ww_or1 ?_))
  | ((with_reducible show DL.WGs _ _ _ _ _ _); (first | ((with_reducible refine' wgs_cons ?_ ?k1); (case k1 => rfl)) | with_reducible refine wgs_nil ?_))
  | ((with_reducible show DL.WO _ _ _ _ _); (first | with_reducible refine wo_n ?_ | with_reducible refine wo_s ?_))
  | ((with_reducible show DL.dIxD _ _ _ _); (first | ((with_reducible refine' ixD_ok ?h1 ?h2 ?_); (case h1 => assumption); (case h2 => assumption)) | ((with_reducible show dIxD (D.own _) (D.int _) _ _); refine Or.inl ?_) | ((with_reducible show dIxD (D.lst _) _ _ _); refine Or.inl ?_) | ((with_reducible show dIxD (D.tup _) _ _ _); refine Or.inl ?_) | ((with_reducible show dIxD (D.str _) _ _ _); refine Or.inl ?_)))
  | ((with_reducible show DL.dInX _ _ _ _ _); (first | ((with_reducible refine' inX_ok ?h1 ?_); (case h1 => assumption)) | ((with_reducible refine' ninX_ok ?h1 ?_); (case h1 => assumption))))
  | ((with_reducible show DL.dLenX _ _ _); (first | ((with_reducible refine' lenX_ok ?h1 ?_); (case h1 => assumption)) | ((with_reducible show dLenX [D.lst _] _ _); refine Or.inl ?_) | ((with_reducible show dLenX [D.tup _] _ _); refine Or.inl ?_) | ((with_reducible show dLenX [D.str _] _ _); refine Or.inl ?_)))
  | ((with_reducible show DL.tb _ _ _); (first | with_reducible refine tb_ok ?_))
  | ((with_reducible show DL.dIsi _ _ _); (first | ((with_reducible refine' isi_int ?k1 ?_); (case k1 => walk_at "kd")) | ((with_reducible refine' isi_bool ?k1 ?_); (case k1 => walk_at "kd")) | ((with_reducible refine' isi_str ?k1 ?_); (case k1 => walk_at "kd")) | ((with_reducible refine' isi_list ?k1 ?_); (case k1 => walk_at "kd")) | ((with_reducible refine' isi_tuple ?k1 ?_); (case k1 => walk_at "kd")) | ((with_reducible refine' isi_ls ?k1 ?_); (case k1 => assumption)) | ((with_reducible refine' isi_lsT ?k1 ?_); (case k1 => assumption))))
  | ((with_reducible show DL.dIsiT _ _ _); (first | ((with_reducible refine' isi_ltT ?k1 ?k2 ?_); (case k1 => rfl); (case k2 => rfl)) | ((with_reducible refine' isi_ltF ?k1 ?k2 ?_); (case k1 => rfl); (case k2 => rfl)) | ((with_reducible refine' isi_lt ?k1 ?_); (case k1 => walk_at "kd")) | ((with_reducible refine' isiT_ls ?k1 ?_); (case k1 => assumption))))
  | ((with_reducible show DL.dLen _ _ _); (first | ((with_reducible refine' len_ls ?k1 ?_); (case k1 => assumption)) | ((with_reducible refine' len_str ?k1 ?_); (case k1 => walk_at "ct")) | with_reducible refine len_tup ?_ | with_reducible refine len_fr ?_ | with_reducible refine len_sl ?_ | ((with_reducible refine' len_own ?k1 ?_); (case k1 => assumption)) | with_reducible refine len_put ?_))
  | ((with_reducible show DL.dEq _ _ _ _ _); (first | with_reducible refine eq_bb ?_ | with_reducible refine ne_bb ?_ | with_reducible refine eq_ii ?_ | with_reducible refine ne_ii ?_))
  | ((with_reducible show DL.dI2 _ _ _ _ _ _); (first | ((with_reducible refine' i2_ok ?k1 ?_); (case k1 => walk_at "ct"))))
  | ((with_reducible show DL.dB2 _ _ _ _ _); (first | with_reducible refine b2_ok ?_))
  | ((with_reducible show DL.dAdd _ _ _ _); (first | with_reducible refine add_ii ?_ | ((with_reducible refine' add_ss ?k1 ?_); (case k1 => walk_at "ct")) | ((with_reducible refine' add_tt ?k1 ?_); (case k1 => walk_at "ct"))))
  | ((with_reducible show DL.dMul _ _ _ _); (first | ((with_reducible refine' mul_ii ?k1 ?_); (case k1 => walk_at "ct"))))
  | ((with_reducible show DL.dSl _ _ _ _ _); (first | with_reducible refine sl_t ?_ | with_reducible refine sl_f ?_))
  | ((with_reducible show DL.dInt1 _ _ _ _); (first | with_reducible refine int1_ok ?_))
  | ((with_reducible show DL.dInt2 _ _ _ _); (first | with_reducible refine int2_ok ?_))
  | ((with_reducible show DL.dInt _ _ _); (first | with_reducible refine int_i ?_ | with_reducible refine int_b ?_))
  | ((with_reducible show DL.dIn _ _ _ _ _); (first | with_reducible refine ins_c ?_))
  | ((with_reducible show DL.dTuple _ _ _); (first | with_reducible refine tup_t ?_ | with_reducible refine tup_f ?_))
  | ((with_reducible show DL.dIx _ _ _ _); (first | ((with_reducible refine' ix_t ?k1 ?_); (case k1 => rfl)) | ((with_reducible refine' ix_f ?k1 ?_); (case k1 => rfl)) | ((with_reducible refine' ix_s ?k1 ?_); (case k1 => rfl)) | ((with_reducible refine' ix_p ?k1 ?_); (case k1 => rfl)) | ((with_reducible refine' ix_o ?k0 ?k1 ?_); (case k0 => assumption); (case k1 => rfl))))
  | ((with_reducible show DL.dIsN _ _ _ _ _); (first | ((with_reducible refine' isn_k ?k1 ?_); (case k1 => walk_at "kd")) | ((with_reducible refine' nisn_k ?k1 ?_); (case k1 => walk_at "kd"))))
  | ((refine' fld_ok ?h1 ?h2 ?h3 ?_); (case h1 => assumption); (case h2 => assumption); (case h3 => walk_at "fg"))
  | with_reducible refine ex_bl ?_
  | with_reducible refine ex_int ?_
  | with_reducible refine ex_2 ?_
  | with_reducible refine ex_3 ?_
  | ((with_reducible refine' setL_p ?k1 ?_); (case k1 => rfl))
  | ((with_reducible refine' setL_o ?k0 ?k1 ?_); (case k0 => assumption); (case k1 => rfl))
  | with_reducible refine and_T ?_
  | with_reducible refine and_F ?_
  | ((with_reducible refine and_S ?_ ?_) <;> intro _)
  | with_reducible refine ty_str ?_
  | with_reducible refine ty_put ?_
  | ((with_reducible refine' ty_own ?k1 ?_); (case k1 => assumption))
  | ((with_reducible refine' sz_ok ?k1 ?_); (case k1 => rfl))
  | ((with_reducible refine' sz_as ?k1 ?_); (case k1 => assumption))))
local macro_rules | `(tactic| walk_at "pyCA") => `(tactic| repeat' (first
  | ((with_reducible show DL.WE _ _ _ _ _); (first
    | ((with_reducible show DL.WE _ (Expr.Subscript _ _ _) _ _ _); (first | ((with_reducible refine' x_ixD ?kx ?_ ?k1); (case kx => assumption); (case k1 => (intro _ _; rfl))) | with_reducible refine we_revT ?_ | with_reducible refine x_sliceA ?_ | ((with_reducible refine' x_ixL ?_ ?k1); (case k1 => (intro _ _; rfl))) | ((with_reducible refine' we_ix ?_ ?k1); (case k1 => (intro _ _; rfl))) | with_reducible refine we_slice ?_))
    | ((with_reducible show DL.WE _ (Expr.Compare _ _ _ _) _ _ _); (first | ((with_reducible refine' x_inX ?kx ?_ ?k1); (case kx => assumption); (case k1 => rfl)) | ((with_reducible refine' x_ninX ?kx ?_ ?k1); (case kx => assumption); (case k1 => rfl)) | ((with_reducible refine' we_lele ?_ ?k1); (case k1 => with_unfolding_all rfl)) | with_reducible refine we_lt ?_ | with_reducible refine we_le ?_ | with_reducible refine we_gt ?_ | with_reducible refine we_ge ?_ | with_reducible refine we_is ?_ | with_reducible refine we_isnot ?_ | ((with_reducible refine' x_eq ?k1 ?_); (case k1 => assumption)) | ((with_reducible refine' x_ne ?k1 ?_); (case k1 => assumption)) | ((with_reducible refine' x_in ?k1 ?_ ?k2); (case k1 => assumption); (case k2 => rfl)) | ((with_reducible refine' x_nin ?k1 ?_ ?k2); (case k1 => assumption); (case k2 => rfl))))
    | ((with_reducible show DL.WE _ (Expr.Call (Expr.Name _ _) _ _ _) _ _ _); (first | ((with_reducible refine' x_lenX ?kx ?kz ?kg ?_ ?k1 ?k2); (case kx => assumption); (case kz => assumption); (case kg => walk_at "gl"); (case k1 => rfl); (case k2 => rfl)) | ((with_reducible refine' x_dictP ?kx ?kz ?kg ?_ ?k1 ?k2); (case kx => assumption); (case kz => assumption); (case kg => walk_at "gl"); (case k1 => rfl); (case k2 => rfl)) | ((with_reducible refine' x_sortedK ?kx ?kz ?kg ?_ ?k1 ?k2); (case kx => assumption); (case kz => assumption); (case kg => walk_at "gl"); (case k1 => rfl); (case k2 => rfl)) | ((with_reducible refine' x_listA ?kx ?kz ?kg ?_ ?k1 ?k2); (case kx => assumption); (case kz => assumption); (case kg => walk_at "gl"); (case k1 => rfl); (case k2 => rfl)) | ((with_reducible refine' x_repr ?kx ?kz ?kg ?_ ?k1 ?k2); (case kx => assumption); (case kz => assumption); (case kg => walk_at "gl"); (case k1 => rfl); (case k2 => rfl)) | ((with_reducible refine' x_isiT ?kx ?kz ?kg ?_ ?k1 ?k2); (case kx => assumption); (case kz => assumption); (case kg => walk_at "gl"); (case k1 => rfl); (case k2 => rfl)) | ((with_reducible refine' x_isi ?kx ?kz ?kg ?_ ?k1 ?k2); (case kx => assumption); (case kz => assumption); (case kg => walk_at "gl"); (case k1 => rfl); (case k2 => rfl)) | ((with_reducible refine' x_len ?kx ?kz ?kg ?_ ?k1 ?k2); (case kx => assumption); (case kz => assumption); (case kg => walk_at "gl"); (case k1 => rfl); (case k2 => rfl)) | ((with_reducible refine' x_abs ?kx ?kz ?kg ?_ ?k1 ?k2); (case kx => assumption); (case kz => assumption); (case kg => walk_at "gl"); (case k1 => rfl); (case k2 => rfl)) | ((with_reducible refine' x_max2 ?kx ?kz ?kg ?_ ?k1 ?k2); (case kx => assumption); (case kz => assumption); (case kg => walk_at "gl"); (case k1 => rfl); (case k2 => rfl)) | ((with_reducible refine' x_min2 ?kx ?kz ?kg ?_ ?k1 ?k2); (case kx => assumption); (case kz => assumption); (case kg => walk_at "gl"); (case k1 => rfl); (case k2 => rfl)) | ((with_reducible refine' x_minL ?kx ?kz ?kg ?_ ?k1 ?k2); (case kx => assumption); (case kz => assumption); (case kg => walk_at "gl"); (case k1 => rfl); (case k2 => rfl)) | ((with_reducible refine' x_any ?kx ?kz ?kg ?_ ?k1 ?k2); (case kx => assumption); (case kz => assumption); (case kg => walk_at "gl"); (case k1 => rfl); (case k2 => rfl)) | ((with_reducible refine' x_all ?kx ?kz ?kg ?_ ?k1 ?k2); (case kx => assumption); (case kz => assumption); (case kg => walk_at "gl"); (case k1 => rfl); (case k2 => rfl)) | ((with_reducible refine' x_sum ?kx ?kz ?kg ?_ ?k1 ?k2); (case kx => assumption); (case kz => assumption); (case kg => walk_at "gl"); (case k1 => rfl); (case k2 => rfl)) | ((with_reducible refine' x_intC ?kx ?kz ?kg ?_ ?k1 ?k2); (case kx => assumption); (case kz => assumption); (case kg => walk_at "gl"); (case k1 => rfl); (case k2 => rfl)) | ((with_reducible refine' x_strC ?kx ?kz ?kg ?_ ?k1 ?k2); (case kx => assumption); (case kz => assumption); (case kg => walk_at "gl"); (case k1 => rfl); (case k2 => rfl)) | ((with_reducible refine' x_tupleC ?kx ?kz ?kg ?_ ?k1 ?k2); (case kx => assumption); (case kz => assumption); (case kg => walk_at "gl"); (case k1 => rfl); (case k2 => rfl)) | ((with_reducible refine' x_listC ?kx ?kz ?kg ?_ ?k1 ?k2); (case kx => assumption); (case kz => assumption); (case kg => walk_at "gl"); (case k1 => rfl); (case k2 => rfl)) | ((with_reducible refine' x_call ?kx ?kh ?kg ?_ ?kl ?kd ?k1 ?k2); (case kh => assumption); (case kx => assumption); (case kg => walk_at "gl"); (case kl => first | decide | omega); (case kd => decide); (case k1 => rfl); (case k2 => rfl))))
    | ((with_reducible show DL.WE _ (Expr.Attribute _ _ _) _ _ _); (first | ((with_reducible refine' x_fld ?kx ?_ ?k1); (case kx => assumption); (case k1 => rfl))))
    | ((with_reducible show DL.WE _ (Expr.Dict _ _ _) _ _ _); (first | with_reducible refine x_dnew ?_))
    | ((with_reducible show DL.WE _ (Expr.Call (Expr.Attribute _ _ _) _ _ _) _ _ _); (first | ((with_reducible refine' x_stripC ?_ ?k1 ?k2 ?k3 ?k4 ?k5); (case k1 => rfl); (case k2 => rfl); (case k3 => rfl); (case k4 => rfl); (case k5 => rfl)) | ((with_reducible refine' x_dget2 ?kx ?_ ?km); (case kx => assumption); (case km => exact ⟨rfl, rfl, rfl, rfl⟩)) | ((with_reducible refine' x_dpop1 ?_ ?km); (case km => exact ⟨rfl, rfl, rfl, rfl⟩)) | ((with_reducible refine' x_upper ?_ ?k1 ?k2); (case k1 => rfl); (case k2 => rfl)) | ((with_reducible refine' x_join ?_ ?k1 ?k2 ?k3 ?k4 ?k5); (case k1 => rfl); (case k2 => rfl); (case k3 => rfl); (case k4 => rfl); (case k5 => rfl)) | ((with_reducible refine' x_sindex ?_ ?k1 ?k2 ?k3 ?k4 ?k5); (case k1 => rfl); (case k2 => rfl); (case k3 => rfl); (case k4 => rfl); (case k5 => rfl)) | ((with_reducible refine' x_insert ?_ ?k1 ?k2 ?k3 ?k4 ?k5); (case k1 => rfl); (case k2 => rfl); (case k3 => rfl); (case k4 => rfl); (case k5 => rfl)) | ((with_reducible refine' x_popAt ?_ ?k1 ?k2 ?k3 ?k4 ?k5); (case k1 => rfl); (case k2 => rfl); (case k3 => rfl); (case k4 => rfl); (case k5 => rfl)) | ((with_reducible refine' x_append ?_ ?k1 ?k2 ?k3 ?k4 ?k5); (case k1 => rfl); (case k2 => rfl); (case k3 => rfl); (case k4 => rfl); (case k5 => rfl)) | ((with_reducible refine' x_extend ?_ ?k1 ?k2 ?k3 ?k4 ?k5); (case k1 => rfl); (case k2 => rfl); (case k3 => rfl); (case k4 => rfl); (case k5 => rfl))))
    | ((with_reducible show DL.WE _ (Expr.BinOp _ _ _ _) _ _ _); (first | with_reducible refine x_mulS ?_ | with_reducible refine x_addA ?_ | with_reducible refine x_mulA ?_ | with_reducible refine we_add ?_ | with_reducible refine we_sub' ?_ | with_reducible refine we_mul ?_ | with_reducible refine we_mod ?_ | with_reducible refine we_fdiv ?_ | with_reducible refine we_pow ?_))
    | ((with_reducible show DL.WE _ (Expr.List _ _) _ _ _); (first | with_reducible refine we_lstF ?_))
    | ((with_reducible show DL.WE _ (Expr.BoolOp _ _ _) _ _ _); (first | with_reducible refine we_and ?_ | with_reducible refine we_or ?_ | with_reducible refine we_one ?_))
    | ((with_reducible show DL.WE _ (Expr.UnaryOp _ _ _) _ _ _); (first | with_reducible refine we_not ?_ | with_reducible refine we_neg ?_))
    | ((with_reducible show DL.WE _ (Expr.IfExp _ _ _ _) _ _ _); (first | with_reducible refine we_if ?_))
    | ((with_reducible show DL.WE _ (Expr.Constant _ _ _) _ _ _); (first | with_reducible refine we_int ?_ | with_reducible refine we_bl ?_ | with_reducible refine we_non ?_ | with_reducible refine we_str ?_))
    | ((with_reducible show DL.WE _ (Expr.Tuple _ _ _) _ _ _); (first | with_reducible refine we_tup ?_))
    | ((with_reducible show DL.WE _ (Expr.Name _ _) _ _ _); (first | ((with_reducible refine' we_nm ?k1 ?k0 ?k2 ?_); (case k1 => assumption); (case k0 => walk_at "nm"); (case k2 => walk_at "nm")) | ((with_reducible refine' x_tyInt ?kx ?kz ?kg ?_); (case kx => assumption); (case kz => assumption); (case kg => walk_at "gl")) | ((with_reducible refine' x_tyBool ?kx ?kz ?kg ?_); (case kx => assumption); (case kz => assumption); (case kg => walk_at "gl")) | ((with_reducible refine' x_tyStr ?kx ?kz ?kg ?_); (case kx => assumption); (case kz => assumption); (case kg => walk_at "gl")) | ((with_reducible refine' x_tyList ?kx ?kz ?kg ?_); (case kx => assumption); (case kz => assumption); (case kg => walk_at "gl")) | ((with_reducible refine' x_tyTuple ?kx ?kz ?kg ?_); (case kx => assumption); (case kz => assumption); (case kg => walk_at "gl")) | ((with_reducible refine' x_glob ?kx ?kh ?kg ?_ ?kd); (case kh => assumption); (case kx => assumption); (case kg => walk_at "gl"); (case kd => decide))))))
  | ((with_reducible show DL.WSs _ _ _ _ _); (first | with_reducible refine wss_cons ?_ | with_reducible refine wss_nil ?_))
  | ((with_reducible show DL.WS _ _ _ _ _); (first
    | ((with_reducible show DL.WS _ (Stmt.Assign _ _ _) _ _ _); (first | ((with_reducible refine' x_setFld ?kx ?_ ?k1); (case kx => assumption); (case k1 => rfl)) | ((with_reducible refine' ws_nm ?kb ?k0 ?kp ?_ ?k1); (case kb => assumption); (case k0 => walk_at "nm"); (case kp => walk_at "nm"); (case k1 => rfl)) | ((with_reducible refine' x_par2 ?kd ?k1 ?k2 ?k3 ?k4 ?k5 ?k6 ?_ ?k7); (case kd => assumption); (case k1 => walk_at "nm"); (case k2 => (intro _; walk_at "nm")); (case k3 => decide +kernel); (case k4 => decide +kernel); (case k5 => decide +kernel); (case k6 => rfl); (case k7 => rfl)) | ((with_reducible refine' x_par3 ?kd ?k1 ?k2 ?k3 ?k4 ?k5 ?k6 ?k7 ?_ ?k8); (case kd => assumption); (case k1 => walk_at "nm"); (case k2 => (intro _; walk_at "nm")); (case k3 => (intro _ _; walk_at "nm")); (case k4 => decide +kernel); (case k5 => decide +kernel); (case k6 => decide +kernel); (case k7 => rfl); (case k8 => rfl)) | ((with_reducible refine' ws_asg ?_ ?k1 ?k2 ?k3); (case k1 => rfl); (case k2 => rfl); (case k3 => rfl)) | ((with_reducible refine' ws_asgD ?kd ?_ ?k1 ?k2 ?k3); (case kd => assumption); (case k1 => rfl); (case k2 => rfl); (case k3 => rfl))))
    | ((with_reducible show DL.WS _ (Stmt.Delete _ _) _ _ _); (first | ((with_reducible refine' x_ddel ?_))))
    | ((with_reducible show DL.WS _ (Stmt.If _ _ _ _) _ _ _); (first | ((with_reducible refine' x_ifWge ?kb ?k0 ?kp ?_); (case kb => assumption); (case k0 => walk_at "nm"); (case kp => walk_at "nm")) | with_reducible refine ws_if ?_))
    | ((with_reducible show DL.WS _ (Stmt.Return _ _) _ _ _); (first | with_reducible refine ws_ret ?_ | with_reducible refine ws_retN ?_))
    | ((with_reducible show DL.WS _ (Stmt.Pass _) _ _ _); (first | with_reducible refine ws_pass ?_))
    | ((with_reducible show DL.WS _ (Stmt.Break _) _ _ _); (first | with_reducible refine ws_break ?_))
    | ((with_reducible show DL.WS _ (Stmt.Continue _) _ _ _); (first | with_reducible refine ws_continue ?_))
    | ((with_reducible show DL.WS _ (Stmt.AugAssign _ _ _ _) _ _ _); (first | ((with_reducible refine' ws_augAdd ?kb ?k0 ?kg ?kp ?_); (case kb => assumption); (case k0 => walk_at "nm"); (case kg => walk_at "nm"); (case kp => walk_at "nm"))))
    | ((with_reducible show DL.WS _ (Stmt.Expr _ _) _ _ _); (first | ((with_reducible refine' ws_expr ?_ ?k1); (case k1 => rfl))))))
  | ((with_reducible show DL.WT _ _ _ _ _); (first | ((with_reducible refine' xt_inX ?kx ?_ ?k1); (case kx => assumption); (case k1 => rfl)) | ((with_reducible refine' xt_ninX ?kx ?_ ?k1); (case kx => assumption); (case k1 => rfl)) | ((with_reducible refine' wt_lele ?_ ?k1); (case k1 => with_unfolding_all rfl)) | ((with_reducible refine' xt_eq ?k1 ?_); (case k1 => assumption)) | ((with_reducible refine' xt_ne ?k1 ?_); (case k1 => assumption)) | ((with_reducible refine' xt_in ?k1 ?_ ?k2); (case k1 => assumption); (case k2 => rfl)) | ((with_reducible refine' xt_nin ?k1 ?_ ?k2); (case k1 => assumption); (case k2 => rfl)) | with_reducible refine wt_lt ?_ | with_reducible refine wt_le ?_ | with_reducible refine wt_gt ?_ | with_reducible refine wt_ge ?_ | with_reducible refine wt_is ?_ | with_reducible refine wt_isnot ?_ | with_reducible refine wt_not ?_ | with_reducible refine wt_bo ?_ | ((with_reducible refine' wt_val ?_ ?k1); (case k1 => (intro _; rfl)))))
  | ((with_reducible show DL.WG _ _ _ _ _ _); (first | ((with_reducible refine' x_setX ?kx ?_ ?k1); (case kx => assumption); (case k1 => (intro _; rfl))) | ((with_reducible refine' wg_nm ?kb ?k0 ?kp ?_); (case kb => assumption); (case k0 => walk_at "nm"); (case kp => walk_at "nm")) | ((with_reducible refine' x_gtup ?kx ?kl ?_ ?k1); (case kx => assumption); (case kl => rfl); (case k1 => rfl)) | ((with_reducible refine' wg_setL ?_ ?k1); (case k1 => (intro _; rfl)))))
  | ((with_reducible show DL.WA _ _ _ _ _); (first | with_reducible refine wa_nil ?_ | ((with_reducible refine' wa_cons ?_ ?k1); (case k1 => rfl))))
  | ((with_reducible show DL.WW _ _ _ _ _); (first | with_reducible refine ww_and ?_ | with_reducible refine ww_or ?_ | with_reducible refine ww_and1 ?_ | with_reducible refine ww_or1 ?_))
  | ((with_reducible show DL.WGs _ _ _ _ _ _); (first | ((with_reducible refine' wgs_cons ?_ ?k1); (case k1 => rfl)) | with_reducible refine wgs_nil ?_))
  | ((with_reducible show DL.WO _ _ _ _ _); (first | with_reducible refine wo_n ?_ | with_reducible refine wo_s ?_))
  | ((with_reducible show DL.dIxD _ _ _ _); (first | ((with_reducible refine' ixD_ok ?h1 ?h2 ?_); (case h1 => assumption); (case h2 => assumption)) | ((with_reducible show dIxD (D.own _) (D.int _) _ _); refine Or.inl ?_) | ((with_reducible show dIxD (D.lst _) _ _ _); refine Or.inl ?_) | ((with_reducible show dIxD (D.tup _) _ _ _); refine Or.inl ?_) | ((with_reducible show dIxD (D.str _) _ _ _); refine Or.inl ?_)))
  | ((with_reducible show DL.dInX _ _ _ _ _); (first | ((with_reducible refine' inX_ok ?h1 ?_); (case h1 => assumption)) | ((with_reducible refine' ninX_ok ?h1 ?_); (case h1 => assumption))))
  | ((with_reducible show DL.dLenX _ _ _); (first | ((with_reducible refine' lenX_ok ?h1 ?_); (case h1 => assumption)) | ((with_reducible show dLenX [D.lst _] _ _); refine Or.inl ?_) | ((with_reducible show dLenX [D.tup _] _ _); refine Or.inl ?_) | ((with_reducible show dLenX [D.str _] _ _); refine Or.inl ?_)))
  | ((with_reducible show DL.FrzA _ _ _); (first | with_reducible refine fa_int ?_ | with_reducible refine fa_str ?_ | with_reducible refine fa_bl ?_ | with_reducible refine fa_non ?_ | with_reducible refine fa_tup ?_ | with_reducible refine fa_lst ?_ | ((with_reducible refine' fa_put ?k1 ?_); (case k1 => assumption))))
  | ((with_reducible show DL.dSl _ _ _ _ _); (first | with_reducible refine slA_f ?_ | with_reducible refine slA_t ?_ | with_reducible refine slA_p ?_ | ((with_reducible refine' slA_o ?k1 ?_); (case k1 => assumption)) | ((with_reducible refine' slA_z ?k1 ?_); (case k1 => walk_at "ct")) | with_reducible refine sl_t ?_ | with_reducible refine sl_f ?_))
  | ((with_reducible show DL.dAdd _ _ _ _); (first | with_reducible refine addA_ii ?_ | ((with_reducible refine' addA_ss ?k1 ?_); (case k1 => walk_at "ct")) | ((with_reducible refine' addA_tt ?k1 ?_); (case k1 => walk_at "ct")) | ((with_reducible refine' addA_ll ?k1 ?_); (case k1 => walk_at "sz")) | ((with_reducible refine' addA_pl ?k1 ?_); (case k1 => walk_at "sz")) | with_reducible refine add_ii ?_ | ((with_reducible refine' add_ss ?k1 ?_); (case k1 => walk_at "ct")) | ((with_reducible refine' add_tt ?k1 ?_); (case k1 => walk_at "ct"))))
  | ((with_reducible show DL.dList _ _ _); (first | with_reducible refine listA_l ?_ | with_reducible refine listA_t ?_ | with_reducible refine listA_p ?_ | ((with_reducible refine' listA_o ?k1 ?_); (case k1 => assumption))))
  | ((with_reducible show DL.dMul _ _ _ _); (first | ((with_reducible refine' mulA_ii ?k1 ?_); (case k1 => walk_at "ct")) | ((with_reducible refine' mul_ii ?k1 ?_); (case k1 => walk_at "ct"))))
  | ((with_reducible show DL.dMulS _ _ _ _); (first | ((with_reducible refine' mul_s ?k1 ?_); (case k1 => decide +kernel))))
  | ((with_reducible show DL.dAppend _ _ _ _); (first | ((with_reducible refine' app_put ?k1 ?_); (case k1 => walk_at "sz"))))
  | ((with_reducible show DL.tb _ _ _); (first | with_reducible refine tb_ok ?_))
  | ((with_reducible show DL.dIsi _ _ _); (first | ((with_reducible refine' isi_int ?k1 ?_); (case k1 => walk_at "kd")) | ((with_reducible refine' isi_bool ?k1 ?_); (case k1 => walk_at "kd")) | ((with_reducible refine' isi_str ?k1 ?_); (case k1 => walk_at "kd")) | ((with_reducible refine' isi_list ?k1 ?_); (case k1 => walk_at "kd")) | ((with_reducible refine' isi_tuple ?k1 ?_); (case k1 => walk_at "kd")) | ((with_reducible refine' isi_ls ?k1 ?_); (case k1 => assumption)) | ((with_reducible refine' isi_lsT ?k1 ?_); (case k1 => assumption))))
  | ((with_reducible show DL.dIsiT _ _ _); (first | ((with_reducible refine' isi_ltT ?k1 ?k2 ?_); (case k1 => rfl); (case k2 => rfl)) | ((with_reducible refine' isi_ltF ?k1 ?k2 ?_); (case k1 => rfl); (case k2 => rfl)) | ((with_reducible refine' isi_lt ?k1 ?_); (case k1 => walk_at "kd")) | ((with_reducible refine' isiT_ls ?k1 ?_); (case k1 => assumption))))
  | ((with_reducible show DL.dLen _ _ _); (first | ((with_reducible refine' len_ls ?k1 ?_); (case k1 => assumption)) | ((with_reducible refine' len_str ?k1 ?_); (case k1 => walk_at "ct")) | with_reducible refine len_tup ?_ | with_reducible refine len_fr ?_ | with_reducible refine len_sl ?_ | ((with_reducible refine' len_own ?k1 ?_); (case k1 => assumption)) | with_reducible refine len_put ?_))
  | ((with_reducible show DL.dEq _ _ _ _ _); (first | with_reducible refine eq_bb ?_ | with_reducible refine ne_bb ?_ | with_reducible refine eq_ii ?_ | with_reducible refine ne_ii ?_))
  | ((with_reducible show DL.dI2 _ _ _ _ _ _); (first | ((with_reducible refine' i2_ok ?k1 ?_); (case k1 => walk_at "ct"))))
  | ((with_reducible show DL.dB2 _ _ _ _ _); (first | with_reducible refine b2_ok ?_))
  | ((with_reducible show DL.dInt1 _ _ _ _); (first | with_reducible refine int1_ok ?_))
  | ((with_reducible show DL.dInt2 _ _ _ _); (first | with_reducible refine int2_ok ?_))
  | ((with_reducible show DL.dInt _ _ _); (first | with_reducible refine int_i ?_ | with_reducible refine int_b ?_))
  | ((with_reducible show DL.dIn _ _ _ _ _); (first | with_reducible refine ins_c ?_))
  | ((with_reducible show DL.dTuple _ _ _); (first | with_reducible refine tup_t ?_ | with_reducible refine tup_f ?_))
  | ((with_reducible show DL.dIx _ _ _ _); (first | ((with_reducible refine' ix_t ?k1 ?_); (case k1 => rfl)) | ((with_reducible refine' ix_f ?k1 ?_); (case k1 => rfl)) | ((with_reducible refine' ix_s ?k1 ?_); (case k1 => rfl)) | ((with_reducible refine' ix_p ?k1 ?_); (case k1 => rfl)) | ((with_reducible refine' ix_o ?k0 ?k1 ?_); (case k0 => assumption); (case k1 => rfl))))
  | ((with_reducible show DL.dIsN _ _ _ _ _); (first | ((with_reducible refine' isn_k ?k1 ?_); (case k1 => walk_at "kd")) | ((with_reducible refine' nisn_k ?k1 ?_); (case k1 => walk_at "kd"))))
  | ((refine' fld_ok ?h1 ?h2 ?h3 ?_); (case h1 => assumption); (case h2 => assumption); (case h3 => walk_at "fg"))
  | with_reducible refine ex_bl ?_
  | with_reducible refine ex_int ?_
  | with_reducible refine ex_2 ?_
  | with_reducible refine ex_3 ?_
  | ((with_reducible refine' setL_p ?k1 ?_); (case k1 => rfl))
  | ((with_reducible refine' setL_o ?k0 ?k1 ?_); (case k0 => assumption); (case k1 => rfl))
  | with_reducible refine and_T ?_
  | with_reducible refine and_F ?_
  | ((with_reducible refine and_S ?_ ?_) <;> intro _)
  | with_reducible refine ty_str ?_
  | with_reducible refine ty_put ?_
  | ((with_reducible refine' ty_own ?k1 ?_); (case k1 => assumption))
  | ((with_reducible refine' sz_ok ?k1 ?_); (case k1 => rfl))
  | ((with_reducible refine' sz_as ?k1 ?_); (case k1 => assumption))))
local macro_rules | `(tactic| walk_at "pyS") => `(tactic| repeat' (first
  | ((with_reducible show DL.WE _ _ _ _ _); (first
    | ((with_reducible show DL.WE _ (Expr.FormattedValue _ _ _ _) _ _ _); (first | with_reducible refine x_fmt ?_))
    | ((with_reducible show DL.WE _ (Expr.JoinedStr _ _) _ _ _); (first | with_reducible refine x_joined ?_))
    | ((with_reducible show DL.WE _ (Expr.Call (Expr.Attribute _ _ _) _ _ _) _ _ _); (first | ((with_reducible refine' x_split ?_ ?k1 ?k2 ?k3 ?k4 ?k5); (case k1 => rfl); (case k2 => rfl); (case k3 => rfl); (case k4 => rfl); (case k5 => rfl)) | ((with_reducible refine' x_stripC ?_ ?k1 ?k2 ?k3 ?k4 ?k5); (case k1 => rfl); (case k2 => rfl); (case k3 => rfl); (case k4 => rfl); (case k5 => rfl)) | ((with_reducible refine' x_dget2 ?kx ?_ ?km); (case kx => assumption); (case km => exact ⟨rfl, rfl, rfl, rfl⟩)) | ((with_reducible refine' x_dpop1 ?_ ?km); (case km => exact ⟨rfl, rfl, rfl, rfl⟩)) | ((with_reducible refine' x_upper ?_ ?k1 ?k2); (case k1 => rfl); (case k2 => rfl)) | ((with_reducible refine' x_join ?_ ?k1 ?k2 ?k3 ?k4 ?k5); (case k1 => rfl); (case k2 => rfl); (case k3 => rfl); (case k4 => rfl); (case k5 => rfl)) | ((with_reducible refine' x_sindex ?_ ?k1 ?k2 ?k3 ?k4 ?k5); (case k1 => rfl); (case k2 => rfl); (case k3 => rfl); (case k4 => rfl); (case k5 => rfl)) | ((with_reducible refine' x_insert ?_ ?k1 ?k2 ?k3 ?k4 ?k5); (case k1 => rfl); (case k2 => rfl); (case k3 => rfl); (case k4 => rfl); (case k5 => rfl)) | ((with_reducible refine' x_popAt ?_ ?k1 ?k2 ?k3 ?k4 ?k5); (case k1 => rfl); (case k2 => rfl); (case k3 => rfl); (case k4 => rfl); (case k5 => rfl)) | ((with_reducible refine' x_append ?_ ?k1 ?k2 ?k3 ?k4 ?k5); (case k1 => rfl); (case k2 => rfl); (case k3 => rfl); (case k4 => rfl); (case k5 => rfl)) | ((with_reducible refine' x_extend ?_ ?k1 ?k2 ?k3 ?k4 ?k5); (case k1 => rfl); (case k2 => rfl); (case k3 => rfl); (case k4 => rfl); (case k5 => rfl))))
    | ((with_reducible show DL.WE _ (Expr.Subscript _ _ _) _ _ _); (first | ((with_reducible refine' x_ixD ?kx ?_ ?k1); (case kx => assumption); (case k1 => (intro _ _; rfl))) | with_reducible refine we_revT ?_ | with_reducible refine x_sliceA ?_ | ((with_reducible refine' x_ixL ?_ ?k1); (case k1 => (intro _ _; rfl))) | ((with_reducible refine' we_ix ?_ ?k1); (case k1 => (intro _ _; rfl))) | with_reducible refine we_slice ?_))
    | ((with_reducible show DL.WE _ (Expr.Compare _ _ _ _) _ _ _); (first | ((with_reducible refine' x_inX ?kx ?_ ?k1); (case kx => assumption); (case k1 => rfl)) | ((with_reducible refine' x_ninX ?kx ?_ ?k1); (case kx => assumption); (case k1 => rfl)) | ((with_reducible refine' we_lele ?_ ?k1); (case k1 => with_unfolding_all rfl)) | with_reducible refine we_lt ?_ | with_reducible refine we_le ?_ | with_reducible refine we_gt ?_ | with_reducible refine we_ge ?_ | with_reducible refine we_is ?_ | with_reducible refine we_isnot ?_ | ((with_reducible refine' x_eq ?k1 ?_); (case k1 => assumption)) | ((with_reducible refine' x_ne ?k1 ?_); (case k1 => assumption)) | ((with_reducible refine' x_in ?k1 ?_ ?k2); (case k1 => assumption); (case k2 => rfl)) | ((with_reducible refine' x_nin ?k1 ?_ ?k2); (case k1 => assumption); (case k2 => rfl))))
    | ((with_reducible show DL.WE _ (Expr.Call (Expr.Name _ _) _ _ _) _ _ _); (first | ((with_reducible refine' x_lenX ?kx ?kz ?kg ?_ ?k1 ?k2); (case kx => assumption); (case kz => assumption); (case kg => walk_at "gl"); (case k1 => rfl); (case k2 => rfl)) | ((with_reducible refine' x_dictP ?kx ?kz ?kg ?_ ?k1 ?k2); (case kx => assumption); (case kz => assumption); (case kg => walk_at "gl"); (case k1 => rfl); (case k2 => rfl)) | ((with_reducible refine' x_sortedK ?kx ?kz ?kg ?_ ?k1 ?k2); (case kx => assumption); (case kz => assumption); (case kg => walk_at "gl"); (case k1 => rfl); (case k2 => rfl)) | ((with_reducible refine' x_listA ?kx ?kz ?kg ?_ ?k1 ?k2); (case kx => assumption); (case kz => assumption); (case kg => walk_at "gl"); (case k1 => rfl); (case k2 => rfl)) | ((with_reducible refine' x_repr ?kx ?kz ?kg ?_ ?k1 ?k2); (case kx => assumption); (case kz => assumption); (case kg => walk_at "gl"); (case k1 => rfl); (case k2 => rfl)) | ((with_reducible refine' x_isiT ?kx ?kz ?kg ?_ ?k1 ?k2); (case kx => assumption); (case kz => assumption); (case kg => walk_at "gl"); (case k1 => rfl); (case k2 => rfl)) | ((with_reducible refine' x_isi ?kx ?kz ?kg ?_ ?k1 ?k2); (case kx => assumption); (case kz => assumption); (case kg => walk_at "gl"); (case k1 => rfl); (case k2 => rfl)) | ((with_reducible refine' x_len ?kx ?kz ?kg ?_ ?k1 ?k2); (case kx => assumption); (case kz => assumption); (case kg => walk_at "gl"); (case k1 => rfl); (case k2 => rfl)) | ((with_reducible refine' x_abs ?kx ?kz ?kg ?_ ?k1 ?k2); (case kx => assumption); (case kz => assumption); (case kg => walk_at "gl"); (case k1 => rfl); (case k2 => rfl)) | ((with_reducible refine' x_max2 ?kx ?kz ?kg ?_ ?k1 ?k2); (case kx => assumption); (case kz => assumption); (case kg => walk_at "gl"); (case k1 => rfl); (case k2 => rfl)) | ((with_reducible refine' x_min2 ?kx ?kz ?kg ?_ ?k1 ?k2); (case kx => assumption); (case kz => assumption); (case kg => walk_at "gl"); (case k1 => rfl); (case k2 => rfl)) | ((with_reducible refine' x_minL ?kx ?kz ?kg ?_ ?k1 ?k2); (case kx => assumption); (case kz => assumption); (case kg => walk_at "gl"); (case k1 => rfl); (case k2 => rfl)) | ((with_reducible refine' x_any ?kx ?kz ?kg ?_ ?k1 ?k2); (case kx => assumption); (case kz => assumption); (case kg => walk_at "gl"); (case k1 => rfl); (case k2 => rfl)) | ((with_reducible refine' x_all ?kx ?kz ?kg ?_ ?k1 ?k2); (case kx => assumption); (case kz => assumption); (case kg => walk_at "gl"); (case k1 => rfl); (case k2 => rfl)) | ((with_reducible refine' x_sum ?kx ?kz ?kg ?_ ?k1 ?k2); (case kx => assumption); (case kz => assumption); (case kg => walk_at "gl"); (case k1 => rfl); (case k2 => rfl)) | ((with_reducible refine' x_intC ?kx ?kz ?kg ?_ ?k1 ?k2); (case kx => assumption); (case kz => assumption); (case kg => walk_at "gl"); (case k1 => rfl); (case k2 => rfl)) | ((with_reducible refine' x_strC ?kx ?kz ?kg ?_ ?k1 ?k2); (case kx => assumption); (case kz => assumption); (case kg => walk_at "gl"); (case k1 => rfl); (case k2 => rfl)) | ((with_reducible refine' x_tupleC ?kx ?kz ?kg ?_ ?k1 ?k2); (case kx => assumption); (case kz => assumption); (case kg => walk_at "gl"); (case k1 => rfl); (case k2 => rfl)) | ((with_reducible refine' x_listC ?kx ?kz ?kg ?_ ?k1 ?k2); (case kx => assumption); (case kz => assumption); (case kg => walk_at "gl"); (case k1 => rfl); (case k2 => rfl)) | ((with_reducible refine' x_call ?kx ?kh ?kg ?_ ?kl ?kd ?k1 ?k2); (case kh => assumption); (case kx => assumption); (case kg => walk_at "gl"); (case kl => first | decide | omega); (case kd => decide); (case k1 => rfl); (case k2 => rfl))))
    | ((with_reducible show DL.WE _ (Expr.Attribute _ _ _) _ _ _); (first | ((with_reducible refine' x_fld ?kx ?_ ?k1); (case kx => assumption); (case k1 => rfl))))
    | ((with_reducible show DL.WE _ (Expr.Dict _ _ _) _ _ _); (first | with_reducible refine x_dnew ?_))
    | ((with_reducible show DL.WE _ (Expr.BinOp _ _ _ _) _ _ _); (first | with_reducible refine x_mulS ?_ | with_reducible refine x_addA ?_ | with_reducible refine x_mulA ?_ | with_reducible refine we_add ?_ | with_reducible refine we_sub' ?_ | with_reducible refine we_mul ?_ | with_reducible refine we_mod ?_ | with_reducible refine we_fdiv ?_ | with_reducible refine we_pow ?_))
    | ((with_reducible show DL.WE _ (Expr.List _ _) _ _ _); (first | with_reducible refine we_lstF ?_))
    | ((with_reducible show DL.WE _ (Expr.BoolOp _ _ _) _ _ _); (first | with_reducible refine we_and ?_ | with_reducible refine we_or ?_ | with_reducible refine we_one ?_))
    | ((with_reducible show DL.WE _ (Expr.UnaryOp _ _ _) _ _ _); (first | with_reducible refine we_not ?_ | with_reducible refine we_neg ?_))
    | ((with_reducible show DL.WE _ (Expr.IfExp _ _ _ _) _ _ _); (first | with_reducible refine we_if ?_))
    | ((with_reducible show DL.WE _ (Expr.Constant _ _ _) _ _ _); (first | with_reducible refine we_int ?_ | with_reducible refine we_bl ?_ | with_reducible refine we_non ?_ | with_reducible refine we_str ?_))
    | ((with_reducible show DL.WE _ (Expr.Tuple _ _ _) _ _ _); (first | with_reducible refine we_tup ?_))
    | ((with_reducible show DL.WE _ (Expr.Name _ _) _ _ _); (first | ((with_reducible refine' we_nm ?k1 ?k0 ?k2 ?_); (case k1 => assumption); (case k0 => walk_at "nm"); (case k2 => walk_at "nm")) | ((with_reducible refine' x_tyInt ?kx ?kz ?kg ?_); (case kx => assumption); (case kz => assumption); (case kg => walk_at "gl")) | ((with_reducible refine' x_tyBool ?kx ?kz ?kg ?_); (case kx => assumption); (case kz => assumption); (case kg => walk_at "gl")) | ((with_reducible refine' x_tyStr ?kx ?kz ?kg ?_); (case kx => assumption); (case kz => assumption); (case kg => walk_at "gl")) | ((with_reducible refine' x_tyList ?kx ?kz ?kg ?_); (case kx => assumption); (case kz => assumption); (case kg => walk_at "gl")) | ((with_reducible refine' x_tyTuple ?kx ?kz ?kg ?_); (case kx => assumption); (case kz => assumption); (case kg => walk_at "gl")) | ((with_reducible refine' x_glob ?kx ?kh ?kg ?_ ?kd); (case kh => assumption); (case kx => assumption); (case kg => walk_at "gl"); (case kd => decide))))))
  | ((with_reducible show DL.WSs _ _ _ _ _); (first | with_reducible refine wss_cons ?_ | with_reducible refine wss_nil ?_))
  | ((with_reducible show DL.WS _ _ _ _ _); (first
    | ((with_reducible show DL.WS _ (Stmt.Assign _ _ _) _ _ _); (first | ((with_reducible refine' x_setFld ?kx ?_ ?k1); (case kx => assumption); (case k1 => rfl)) | ((with_reducible refine' ws_nm ?kb ?k0 ?kp ?_ ?k1); (case kb => assumption); (case k0 => walk_at "nm"); (case kp => walk_at "nm"); (case k1 => rfl)) | ((with_reducible refine' x_par2 ?kd ?k1 ?k2 ?k3 ?k4 ?k5 ?k6 ?_ ?k7); (case kd => assumption); (case k1 => walk_at "nm"); (case k2 => (intro _; walk_at "nm")); (case k3 => decide +kernel); (case k4 => decide +kernel); (case k5 => decide +kernel); (case k6 => rfl); (case k7 => rfl)) | ((with_reducible refine' x_par3 ?kd ?k1 ?k2 ?k3 ?k4 ?k5 ?k6 ?k7 ?_ ?k8); (case kd => assumption); (case k1 => walk_at "nm"); (case k2 => (intro _; walk_at "nm")); (case k3 => (intro _ _; walk_at "nm")); (case k4 => decide +kernel); (case k5 => decide +kernel); (case k6 => decide +kernel); (case k7 => rfl); (case k8 => rfl)) | ((with_reducible refine' ws_asg ?_ ?k1 ?k2 ?k3); (case k1 => rfl); (case k2 => rfl); (case k3 => rfl)) | ((with_reducible refine' ws_asgD ?kd ?_ ?k1 ?k2 ?k3); (case kd => assumption); (case k1 => rfl); (case k2 => rfl); (case k3 => rfl))))
    | ((with_reducible show DL.WS _ (Stmt.Delete _ _) _ _ _); (first | ((with_reducible refine' x_ddel ?_))))
    | ((with_reducible show DL.WS _ (Stmt.If _ _ _ _) _ _ _); (first | ((with_reducible refine' x_ifWge ?kb ?k0 ?kp ?_); (case kb => assumption); (case k0 => walk_at "nm"); (case kp => walk_at "nm")) | with_reducible refine ws_if ?_))
    | ((with_reducible show DL.WS _ (Stmt.Return _ _) _ _ _); (first | with_reducible refine ws_ret ?_ | with_reducible refine ws_retN ?_))
    | ((with_reducible show DL.WS _ (Stmt.Pass _) _ _ _); (first | with_reducible refine ws_pass ?_))
    | ((with_reducible show DL.WS _ (Stmt.Break _) _ _ _); (first | with_reducible refine ws_break ?_))
    | ((with_reducible show DL.WS _ (Stmt.Continue _) _ _ _); (first | with_reducible refine ws_continue ?_))
    | ((with_reducible show DL.WS _ (Stmt.AugAssign _ _ _ _) _ _ _); (first | ((with_reducible refine' ws_augAdd ?kb ?k0 ?kg ?kp ?_); (case kb => assumption); (case k0 => walk_at "nm"); (case kg => walk_at "nm"); (case kp => walk_at "nm"))))
    | ((with_reducible show DL.WS _ (Stmt.Expr _ _) _ _ _); (first | ((with_reducible refine' ws_expr ?_ ?k1); (case k1 => rfl))))))
  | ((with_reducible show DL.WGs _ _ _ _ _ _); (first | ((with_reducible refine' wgs_consS ?_ ?k1); (case k1 => rfl)) | ((with_reducible refine' wgs_cons ?_ ?k1); (case k1 => rfl)) | with_reducible refine wgs_nil ?_))
  | ((with_reducible show DL.WG _ _ _ _ _ _); (first | ((with_reducible refine' wg_tupS ?kc ?km ?ks ?ki ?kl ?_); (case kc => exact Ctx.calm (by assumption)); (case km => rfl); (case ks => rfl); (case ki => decide); (case kl => first | exact Nat.le_of_ble_eq_true rfl | omega | (simp; done))) | ((with_reducible refine' x_setX ?kx ?_ ?k1); (case kx => assumption); (case k1 => (intro _; rfl))) | ((with_reducible refine' wg_nm ?kb ?k0 ?kp ?_); (case kb => assumption); (case k0 => walk_at "nm"); (case kp => walk_at "nm")) | ((with_reducible refine' x_gtup ?kx ?kl ?_ ?k1); (case kx => assumption); (case kl => rfl); (case k1 => rfl)) | ((with_reducible refine' wg_setL ?_ ?k1); (case k1 => (intro _; rfl)))))
  | ((with_reducible show DL.WA _ _ _ _ _); (first | ((with_reducible refine' wa_star ?_ ?k1); (case k1 => rfl)) | with_reducible refine wa_nil ?_ | ((with_reducible refine' wa_cons ?_ ?k1); (case k1 => rfl))))
  | ((with_reducible show DL.WJs _ _ _ _ _ _); (first | with_reducible refine wjs_cons ?_ | with_reducible refine wjs_nil ?_))
  | ((with_reducible show DL.WT _ _ _ _ _); (first | ((with_reducible refine' xt_inX ?kx ?_ ?k1); (case kx => assumption); (case k1 => rfl)) | ((with_reducible refine' xt_ninX ?kx ?_ ?k1); (case kx => assumption); (case k1 => rfl)) | ((with_reducible refine' wt_lele ?_ ?k1); (case k1 => with_unfolding_all rfl)) | ((with_reducible refine' xt_eq ?k1 ?_); (case k1 => assumption)) | ((with_reducible refine' xt_ne ?k1 ?_); (case k1 => assumption)) | ((with_reducible refine' xt_in ?k1 ?_ ?k2); (case k1 => assumption); (case k2 => rfl)) | ((with_reducible refine' xt_nin ?k1 ?_ ?k2); (case k1 => assumption); (case k2 => rfl)) | with_reducible refine wt_lt ?_ | with_reducible refine wt_le ?_ | with_reducible refine wt_gt ?_ | with_reducible refine wt_ge ?_ | with_reducible refine wt_is ?_ | with_reducible refine wt_isnot ?_ | with_reducible refine wt_not ?_ | with_reducible refine wt_bo ?_ | ((with_reducible refine' wt_val ?_ ?k1); (case k1 => (intro _; rfl)))))
  | ((with_reducible show DL.WW _ _ _ _ _); (first | with_reducible refine ww_and ?_ | with_reducible refine ww_or ?_ | with_reducible refine ww_and1 ?_ | with_reducible refine ww_or1 ?_))
  | ((with_reducible show DL.WO _ _ _ _ _); (first | with_reducible refine wo_n ?_ | with_reducible refine wo_s ?_))
  | ((with_reducible show DL.dIxD _ _ _ _); (first | ((with_reducible refine' ixD_ok ?h1 ?h2 ?_); (case h1 => assumption); (case h2 => assumption)) | ((with_reducible show dIxD (D.own _) (D.int _) _ _); refine Or.inl ?_) | ((with_reducible show dIxD (D.lst _) _ _ _); refine Or.inl ?_) | ((with_reducible show dIxD (D.tup _) _ _ _); refine Or.inl ?_) | ((with_reducible show dIxD (D.str _) _ _ _); refine Or.inl ?_)))
  | ((with_reducible show DL.dInX _ _ _ _ _); (first | ((with_reducible refine' inX_ok ?h1 ?_); (case h1 => assumption)) | ((with_reducible refine' ninX_ok ?h1 ?_); (case h1 => assumption))))
  | ((with_reducible show DL.dLenX _ _ _); (first | ((with_reducible refine' lenX_ok ?h1 ?_); (case h1 => assumption)) | ((with_reducible show dLenX [D.lst _] _ _); refine Or.inl ?_) | ((with_reducible show dLenX [D.tup _] _ _); refine Or.inl ?_) | ((with_reducible show dLenX [D.str _] _ _); refine Or.inl ?_)))
  | ((with_reducible show DL.FrzA _ _ _); (first | with_reducible refine fa_int ?_ | with_reducible refine fa_str ?_ | with_reducible refine fa_bl ?_ | with_reducible refine fa_non ?_ | with_reducible refine fa_tup ?_ | with_reducible refine fa_lst ?_ | ((with_reducible refine' fa_put ?k1 ?_); (case k1 => assumption))))
  | ((with_reducible show DL.dSl _ _ _ _ _); (first | with_reducible refine slA_f ?_ | with_reducible refine slA_t ?_ | with_reducible refine slA_p ?_ | ((with_reducible refine' slA_o ?k1 ?_); (case k1 => assumption)) | ((with_reducible refine' slA_z ?k1 ?_); (case k1 => walk_at "ct")) | with_reducible refine sl_t ?_ | with_reducible refine sl_f ?_))
  | ((with_reducible show DL.dAdd _ _ _ _); (first | with_reducible refine addA_ii ?_ | ((with_reducible refine' addA_ss ?k1 ?_); (case k1 => walk_at "ct")) | ((with_reducible refine' addA_tt ?k1 ?_); (case k1 => walk_at "ct")) | ((with_reducible refine' addA_ll ?k1 ?_); (case k1 => walk_at "sz")) | ((with_reducible refine' addA_pl ?k1 ?_); (case k1 => walk_at "sz")) | with_reducible refine add_ii ?_ | ((with_reducible refine' add_ss ?k1 ?_); (case k1 => walk_at "ct")) | ((with_reducible refine' add_tt ?k1 ?_); (case k1 => walk_at "ct"))))
  | ((with_reducible show DL.dList _ _ _); (first | with_reducible refine listA_l ?_ | with_reducible refine listA_t ?_ | with_reducible refine listA_p ?_ | ((with_reducible refine' listA_o ?k1 ?_); (case k1 => assumption))))
  | ((with_reducible show DL.dMul _ _ _ _); (first | ((with_reducible refine' mulA_ii ?k1 ?_); (case k1 => walk_at "ct")) | ((with_reducible refine' mul_ii ?k1 ?_); (case k1 => walk_at "ct"))))
  | ((with_reducible show DL.dMulS _ _ _ _); (first | ((with_reducible refine' mul_s ?k1 ?_); (case k1 => decide +kernel))))
  | ((with_reducible show DL.dAppend _ _ _ _); (first | ((with_reducible refine' app_put ?k1 ?_); (case k1 => walk_at "sz"))))
  | ((with_reducible show DL.tb _ _ _); (first | with_reducible refine tb_ok ?_))
  | ((with_reducible show DL.dIsi _ _ _); (first | ((with_reducible refine' isi_int ?k1 ?_); (case k1 => walk_at "kd")) | ((with_reducible refine' isi_bool ?k1 ?_); (case k1 => walk_at "kd")) | ((with_reducible refine' isi_str ?k1 ?_); (case k1 => walk_at "kd")) | ((with_reducible refine' isi_list ?k1 ?_); (case k1 => walk_at "kd")) | ((with_reducible refine' isi_tuple ?k1 ?_); (case k1 => walk_at "kd")) | ((with_reducible refine' isi_ls ?k1 ?_); (case k1 => assumption)) | ((with_reducible refine' isi_lsT ?k1 ?_); (case k1 => assumption))))
  | ((with_reducible show DL.dIsiT _ _ _); (first | ((with_reducible refine' isi_ltT ?k1 ?k2 ?_); (case k1 => rfl); (case k2 => rfl)) | ((with_reducible refine' isi_ltF ?k1 ?k2 ?_); (case k1 => rfl); (case k2 => rfl)) | ((with_reducible refine' isi_lt ?k1 ?_); (case k1 => walk_at "kd")) | ((with_reducible refine' isiT_ls ?k1 ?_); (case k1 => assumption))))
  | ((with_reducible show DL.dLen _ _ _); (first | ((with_reducible refine' len_ls ?k1 ?_); (case k1 => assumption)) | ((with_reducible refine' len_str ?k1 ?_); (case k1 => walk_at "ct")) | with_reducible refine len_tup ?_ | with_reducible refine len_fr ?_ | with_reducible refine len_sl ?_ | ((with_reducible refine' len_own ?k1 ?_); (case k1 => assumption)) | with_reducible refine len_put ?_))
  | ((with_reducible show DL.dEq _ _ _ _ _); (first | with_reducible refine eq_bb ?_ | with_reducible refine ne_bb ?_ | with_reducible refine eq_ii ?_ | with_reducible refine ne_ii ?_))
  | ((with_reducible show DL.dI2 _ _ _ _ _ _); (first | ((with_reducible refine' i2_ok ?k1 ?_); (case k1 => walk_at "ct"))))
  | ((with_reducible show DL.dB2 _ _ _ _ _); (first | with_reducible refine b2_ok ?_))
  | ((with_reducible show DL.dInt1 _ _ _ _); (first | with_reducible refine int1_ok ?_))
  | ((with_reducible show DL.dInt2 _ _ _ _); (first | with_reducible refine int2_ok ?_))
  | ((with_reducible show DL.dInt _ _ _); (first | with_reducible refine int_i ?_ | with_reducible refine int_b ?_))
  | ((with_reducible show DL.dIn _ _ _ _ _); (first | with_reducible refine ins_c ?_))
  | ((with_reducible show DL.dTuple _ _ _); (first | with_reducible refine tup_t ?_ | with_reducible refine tup_f ?_))
  | ((with_reducible show DL.dIx _ _ _ _); (first | ((with_reducible refine' ix_t ?k1 ?_); (case k1 => rfl)) | ((with_reducible refine' ix_f ?k1 ?_); (case k1 => rfl)) | ((with_reducible refine' ix_s ?k1 ?_); (case k1 => rfl)) | ((with_reducible refine' ix_p ?k1 ?_); (case k1 => rfl)) | ((with_reducible refine' ix_o ?k0 ?k1 ?_); (case k0 => assumption); (case k1 => rfl))))
  | ((with_reducible show DL.dIsN _ _ _ _ _); (first | ((with_reducible refine' isn_k ?k1 ?_); (case k1 => walk_at "kd")) | ((with_reducible refine' nisn_k ?k1 ?_); (case k1 => walk_at "kd"))))
  | ((refine' fld_ok ?h1 ?h2 ?h3 ?_); (case h1 => assumption); (case h2 => assumption); (case h3 => walk_at "fg"))
  | with_reducible refine ex_bl ?_
  | with_reducible refine ex_int ?_
  | with_reducible refine ex_2 ?_
  | with_reducible refine ex_3 ?_
  | ((with_reducible refine' setL_p ?k1 ?_); (case k1 => rfl))
  | ((with_reducible refine' setL_o ?k0 ?k1 ?_); (case k0 => assumption); (case k1 => rfl))
  | with_reducible refine and_T ?_
  | with_reducible refine and_F ?_
  | ((with_reducible refine and_S ?_ ?_) <;> intro _)
  | with_reducible refine ty_str ?_
  | with_reducible refine ty_put ?_
  | ((with_reducible refine' ty_own ?k1 ?_); (case k1 => assumption))
  | ((with_reducible refine' sz_ok ?k1 ?_); (case k1 => rfl))
  | ((with_reducible refine' sz_as ?k1 ?_); (case k1 => assumption))))
local macro_rules | `(tactic| walk_at "pyK") => `(tactic| repeat' (first
  | ((with_reducible show DL.WE _ _ _ _ _); (first
    | ((with_reducible show DL.WE _ (Expr.Subscript _ _ _) _ _ _); (first | ((with_reducible refine' x_ixD ?kx ?_ ?k1); (case kx => assumption); (case k1 => (intro _ _; rfl))) | with_reducible refine we_revT ?_ | ((with_reducible refine' x_ixL ?_ ?k1); (case k1 => (intro _ _; rfl))) | ((with_reducible refine' we_ix ?_ ?k1); (case k1 => (intro _ _; rfl))) | with_reducible refine we_slice ?_))
    | ((with_reducible show DL.WE _ (Expr.Compare _ _ _ _) _ _ _); (first | ((with_reducible refine' x_inX ?kx ?_ ?k1); (case kx => assumption); (case k1 => rfl)) | ((with_reducible refine' x_ninX ?kx ?_ ?k1); (case kx => assumption); (case k1 => rfl)) | ((with_reducible refine' we_lele ?_ ?k1); (case k1 => with_unfolding_all rfl)) | with_reducible refine we_lt ?_ | with_reducible refine we_le ?_ | with_reducible refine we_gt ?_ | with_reducible refine we_ge ?_ | with_reducible refine we_is ?_ | with_reducible refine we_isnot ?_ | ((with_reducible refine' x_eq ?k1 ?_); (case k1 => assumption)) | ((with_reducible refine' x_ne ?k1 ?_); (case k1 => assumption)) | ((with_reducible refine' x_in ?k1 ?_ ?k2); (case k1 => assumption); (case k2 => rfl)) | ((with_reducible refine' x_nin ?k1 ?_ ?k2); (case k1 => assumption); (case k2 => rfl))))
    | ((with_reducible show DL.WE _ (Expr.Call (Expr.Name _ _) _ _ _) _ _ _); (first | ((with_reducible refine' x_lenX ?kx ?kz ?kg ?_ ?k1 ?k2); (case kx => assumption); (case kz => assumption); (case kg => walk_at "gl"); (case k1 => rfl); (case k2 => rfl)) | ((with_reducible refine' x_dictP ?kx ?kz ?kg ?_ ?k1 ?k2); (case kx => assumption); (case kz => assumption); (case kg => walk_at "gl"); (case k1 => rfl); (case k2 => rfl)) | ((with_reducible refine' x_sortedK ?kx ?kz ?kg ?_ ?k1 ?k2); (case kx => assumption); (case kz => assumption); (case kg => walk_at "gl"); (case k1 => rfl); (case k2 => rfl)) | ((with_reducible refine' x_repr ?kx ?kz ?kg ?_ ?k1 ?k2); (case kx => assumption); (case kz => assumption); (case kg => walk_at "gl"); (case k1 => rfl); (case k2 => rfl)) | ((with_reducible refine' x_isiT ?kx ?kz ?kg ?_ ?k1 ?k2); (case kx => assumption); (case kz => assumption); (case kg => walk_at "gl"); (case k1 => rfl); (case k2 => rfl)) | ((with_reducible refine' x_isi ?kx ?kz ?kg ?_ ?k1 ?k2); (case kx => assumption); (case kz => assumption); (case kg => walk_at "gl"); (case k1 => rfl); (case k2 => rfl)) | ((with_reducible refine' x_len ?kx ?kz ?kg ?_ ?k1 ?k2); (case kx => assumption); (case kz => assumption); (case kg => walk_at "gl"); (case k1 => rfl); (case k2 => rfl)) | ((with_reducible refine' x_abs ?kx ?kz ?kg ?_ ?k1 ?k2); (case kx => assumption); (case kz => assumption); (case kg => walk_at "gl"); (case k1 => rfl); (case k2 => rfl)) | ((with_reducible refine' x_max2 ?kx ?kz ?kg ?_ ?k1 ?k2); (case kx => assumption); (case kz => assumption); (case kg => walk_at "gl"); (case k1 => rfl); (case k2 => rfl)) | ((with_reducible refine' x_min2 ?kx ?kz ?kg ?_ ?k1 ?k2); (case kx => assumption); (case kz => assumption); (case kg => walk_at "gl"); (case k1 => rfl); (case k2 => rfl)) | ((with_reducible refine' x_minL ?kx ?kz ?kg ?_ ?k1 ?k2); (case kx => assumption); (case kz => assumption); (case kg => walk_at "gl"); (case k1 => rfl); (case k2 => rfl)) | ((with_reducible refine' x_any ?kx ?kz ?kg ?_ ?k1 ?k2); (case kx => assumption); (case kz => assumption); (case kg => walk_at "gl"); (case k1 => rfl); (case k2 => rfl)) | ((with_reducible refine' x_all ?kx ?kz ?kg ?_ ?k1 ?k2); (case kx => assumption); (case kz => assumption); (case kg => walk_at "gl"); (case k1 => rfl); (case k2 => rfl)) | ((with_reducible refine' x_sum ?kx ?kz ?kg ?_ ?k1 ?k2); (case kx => assumption); (case kz => assumption); (case kg => walk_at "gl"); (case k1 => rfl); (case k2 => rfl)) | ((with_reducible refine' x_intC ?kx ?kz ?kg ?_ ?k1 ?k2); (case kx => assumption); (case kz => assumption); (case kg => walk_at "gl"); (case k1 => rfl); (case k2 => rfl)) | ((with_reducible refine' x_strC ?kx ?kz ?kg ?_ ?k1 ?k2); (case kx => assumption); (case kz => assumption); (case kg => walk_at "gl"); (case k1 => rfl); (case k2 => rfl)) | ((with_reducible refine' x_tupleC ?kx ?kz ?kg ?_ ?k1 ?k2); (case kx => assumption); (case kz => assumption); (case kg => walk_at "gl"); (case k1 => rfl); (case k2 => rfl)) | ((with_reducible refine' x_listC ?kx ?kz ?kg ?_ ?k1 ?k2); (case kx => assumption); (case kz => assumption); (case kg => walk_at "gl"); (case k1 => rfl); (case k2 => rfl)) | ((with_reducible refine' x_call ?kx ?kh ?kg ?_ ?kl ?kd ?k1 ?k2); (case kh => assumption); (case kx => assumption); (case kg => walk_at "gl"); (case kl => first | decide | omega); (case kd => decide); (case k1 => rfl); (case k2 => rfl))))
    | ((with_reducible show DL.WE _ (Expr.Attribute _ _ _) _ _ _); (first | ((with_reducible refine' x_fld ?kx ?_ ?k1); (case kx => assumption); (case k1 => rfl))))
    | ((with_reducible show DL.WE _ (Expr.Dict _ _ _) _ _ _); (first | with_reducible refine x_dnew ?_))
    | ((with_reducible show DL.WE _ (Expr.Call (Expr.Attribute _ _ _) _ _ _) _ _ _); (first | ((with_reducible refine' x_stripC ?_ ?k1 ?k2 ?k3 ?k4 ?k5); (case k1 => rfl); (case k2 => rfl); (case k3 => rfl); (case k4 => rfl); (case k5 => rfl)) | ((with_reducible refine' x_dget2 ?kx ?_ ?km); (case kx => assumption); (case km => exact ⟨rfl, rfl, rfl, rfl⟩)) | ((with_reducible refine' x_dpop1 ?_ ?km); (case km => exact ⟨rfl, rfl, rfl, rfl⟩)) | ((with_reducible refine' x_upper ?_ ?k1 ?k2); (case k1 => rfl); (case k2 => rfl)) | ((with_reducible refine' x_join ?_ ?k1 ?k2 ?k3 ?k4 ?k5); (case k1 => rfl); (case k2 => rfl); (case k3 => rfl); (case k4 => rfl); (case k5 => rfl)) | ((with_reducible refine' x_sindex ?_ ?k1 ?k2 ?k3 ?k4 ?k5); (case k1 => rfl); (case k2 => rfl); (case k3 => rfl); (case k4 => rfl); (case k5 => rfl)) | ((with_reducible refine' x_insert ?_ ?k1 ?k2 ?k3 ?k4 ?k5); (case k1 => rfl); (case k2 => rfl); (case k3 => rfl); (case k4 => rfl); (case k5 => rfl)) | ((with_reducible refine' x_popAt ?_ ?k1 ?k2 ?k3 ?k4 ?k5); (case k1 => rfl); (case k2 => rfl); (case k3 => rfl); (case k4 => rfl); (case k5 => rfl)) | ((with_reducible refine' x_append ?_ ?k1 ?k2 ?k3 ?k4 ?k5); (case k1 => rfl); (case k2 => rfl); (case k3 => rfl); (case k4 => rfl); (case k5 => rfl)) | ((with_reducible refine' x_extend ?_ ?k1 ?k2 ?k3 ?k4 ?k5); (case k1 => rfl); (case k2 => rfl); (case k3 => rfl); (case k4 => rfl); (case k5 => rfl))))
    | ((with_reducible show DL.WE _ (Expr.BoolOp _ _ _) _ _ _); (first | with_reducible refine we_and ?_ | with_reducible refine we_or ?_ | with_reducible refine we_one ?_))
    | ((with_reducible show DL.WE _ (Expr.UnaryOp _ _ _) _ _ _); (first | with_reducible refine we_not ?_ | with_reducible refine we_neg ?_))
    | ((with_reducible show DL.WE _ (Expr.IfExp _ _ _ _) _ _ _); (first | with_reducible refine we_if ?_))
    | ((with_reducible show DL.WE _ (Expr.Constant _ _ _) _ _ _); (first | with_reducible refine we_int ?_ | with_reducible refine we_bl ?_ | with_reducible refine we_non ?_ | with_reducible refine we_str ?_))
    | ((with_reducible show DL.WE _ (Expr.Tuple _ _ _) _ _ _); (first | with_reducible refine we_tup ?_))
    | ((with_reducible show DL.WE _ (Expr.Name _ _) _ _ _); (first | ((with_reducible refine' we_nm ?k1 ?k0 ?k2 ?_); (case k1 => assumption); (case k0 => walk_at "nm"); (case k2 => walk_at "nm")) | ((with_reducible refine' x_tyInt ?kx ?kz ?kg ?_); (case kx => assumption); (case kz => assumption); (case kg => walk_at "gl")) | ((with_reducible refine' x_tyBool ?kx ?kz ?kg ?_); (case kx => assumption); (case kz => assumption); (case kg => walk_at "gl")) | ((with_reducible refine' x_tyStr ?kx ?kz ?kg ?_); (case kx => assumption); (case kz => assumption); (case kg => walk_at "gl")) | ((with_reducible refine' x_tyList ?kx ?kz ?kg ?_); (case kx => assumption); (case kz => assumption); (case kg => walk_at "gl")) | ((with_reducible refine' x_tyTuple ?kx ?kz ?kg ?_); (case kx => assumption); (case kz => assumption); (case kg => walk_at "gl")) | ((with_reducible refine' x_glob ?kx ?kh ?kg ?_ ?kd); (case kh => assumption); (case kx => assumption); (case kg => walk_at "gl"); (case kd => decide))))
    | ((with_reducible show DL.WE _ (Expr.BinOp _ _ _ _) _ _ _); (first | with_reducible refine we_add ?_ | with_reducible refine we_sub' ?_ | with_reducible refine we_mul ?_ | with_reducible refine we_mod ?_ | with_reducible refine we_fdiv ?_ | with_reducible refine we_pow ?_))))
  | ((with_reducible show DL.WSs _ _ _ _ _); (first | with_reducible refine wss_cons ?_ | with_reducible refine wss_nil ?_))
  | ((with_reducible show DL.WS _ _ _ _ _); (first
    | ((with_reducible show DL.WS _ (Stmt.Assign _ _ _) _ _ _); (first | ((with_reducible refine' x_setFld ?kx ?_ ?k1); (case kx => assumption); (case k1 => rfl)) | ((with_reducible refine' ws_nm ?kb ?k0 ?kp ?_ ?k1); (case kb => assumption); (case k0 => walk_at "nm"); (case kp => walk_at "nm"); (case k1 => rfl)) | ((with_reducible refine' x_par2 ?kd ?k1 ?k2 ?k3 ?k4 ?k5 ?k6 ?_ ?k7); (case kd => assumption); (case k1 => walk_at "nm"); (case k2 => (intro _; walk_at "nm")); (case k3 => decide +kernel); (case k4 => decide +kernel); (case k5 => decide +kernel); (case k6 => rfl); (case k7 => rfl)) | ((with_reducible refine' x_par3 ?kd ?k1 ?k2 ?k3 ?k4 ?k5 ?k6 ?k7 ?_ ?k8); (case kd => assumption); (case k1 => walk_at "nm"); (case k2 => (intro _; walk_at "nm")); (case k3 => (intro _ _; walk_at "nm")); (case k4 => decide +kernel); (case k5 => decide +kernel); (case k6 => decide +kernel); (case k7 => rfl); (case k8 => rfl)) | ((with_reducible refine' ws_asg ?_ ?k1 ?k2 ?k3); (case k1 => rfl); (case k2 => rfl); (case k3 => rfl)) | ((with_reducible refine' ws_asgD ?kd ?_ ?k1 ?k2 ?k3); (case kd => assumption); (case k1 => rfl); (case k2 => rfl); (case k3 => rfl))))
    | ((with_reducible show DL.WS _ (Stmt.Delete _ _) _ _ _); (first | ((with_reducible refine' x_ddel ?_))))
    | ((with_reducible show DL.WS _ (Stmt.If _ _ _ _) _ _ _); (first | ((with_reducible refine' x_ifWge ?kb ?k0 ?kp ?_); (case kb => assumption); (case k0 => walk_at "nm"); (case kp => walk_at "nm")) | with_reducible refine ws_if ?_))
    | ((with_reducible show DL.WS _ (Stmt.Return _ _) _ _ _); (first | with_reducible refine ws_ret ?_ | with_reducible refine ws_retN ?_))
    | ((with_reducible show DL.WS _ (Stmt.Pass _) _ _ _); (first | with_reducible refine ws_pass ?_))
    | ((with_reducible show DL.WS _ (Stmt.Break _) _ _ _); (first | with_reducible refine ws_break ?_))
    | ((with_reducible show DL.WS _ (Stmt.Continue _) _ _ _); (first | with_reducible refine ws_continue ?_))
    | ((with_reducible show DL.WS _ (Stmt.AugAssign _ _ _ _) _ _ _); (first | ((with_reducible refine' ws_augAdd ?kb ?k0 ?kg ?kp ?_); (case kb => assumption); (case k0 => walk_at "nm"); (case kg => walk_at "nm"); (case kp => walk_at "nm"))))
    | ((with_reducible show DL.WS _ (Stmt.Expr _ _) _ _ _); (first | ((with_reducible refine' ws_expr ?_ ?k1); (case k1 => rfl))))))
  | ((with_reducible show DL.WT _ _ _ _ _); (first | ((with_reducible refine' xt_inX ?kx ?_ ?k1); (case kx => assumption); (case k1 => rfl)) | ((with_reducible refine' xt_ninX ?kx ?_ ?k1); (case kx => assumption); (case k1 => rfl)) | ((with_reducible refine' wt_lele ?_ ?k1); (case k1 => with_unfolding_all rfl)) | ((with_reducible refine' xt_eq ?k1 ?_); (case k1 => assumption)) | ((with_reducible refine' xt_ne ?k1 ?_); (case k1 => assumption)) | ((with_reducible refine' xt_in ?k1 ?_ ?k2); (case k1 => assumption); (case k2 => rfl)) | ((with_reducible refine' xt_nin ?k1 ?_ ?k2); (case k1 => assumption); (case k2 => rfl)) | with_reducible refine wt_lt ?_ | with_reducible refine wt_le ?_ | with_reducible refine wt_gt ?_ | with_reducible refine wt_ge ?_ | with_reducible refine wt_is ?_ | with_reducible refine wt_isnot ?_ | with_reducible refine wt_not ?_ | with_reducible refine wt_bo ?_ | ((with_reducible refine' wt_val ?_ ?k1); (case k1 => (intro _; rfl)))))
  | ((with_reducible show DL.WG _ _ _ _ _ _); (first | ((with_reducible refine' x_setX ?kx ?_ ?k1); (case kx => assumption); (case k1 => (intro _; rfl))) | ((with_reducible refine' wg_nm ?kb ?k0 ?kp ?_); (case kb => assumption); (case k0 => walk_at "nm"); (case kp => walk_at "nm")) | ((with_reducible refine' x_gtup ?kx ?kl ?_ ?k1); (case kx => assumption); (case kl => rfl); (case k1 => rfl)) | ((with_reducible refine' wg_setL ?_ ?k1); (case k1 => (intro _; rfl)))))
  | ((with_reducible show DL.WA _ _ _ _ _); (first | with_reducible refine wa_nil ?_ | ((with_reducible refine' wa_cons ?_ ?k1); (case k1 => rfl))))
  | ((with_reducible show DL.WW _ _ _ _ _); (first | with_reducible refine ww_and ?_ | with_reducible refine ww_or ?_ | with_reducible refine ww_and1 ?_ | with_reducible refine ww_or1 ?_))
  | ((with_reducible show DL.WGs _ _ _ _ _ _); (first | ((with_reducible refine' wgs_cons ?_ ?k1); (case k1 => rfl)) | with_reducible refine wgs_nil ?_))
  | ((with_reducible show DL.WO _ _ _ _ _); (first | with_reducible refine wo_n ?_ | with_reducible refine wo_s ?_))
  | ((with_reducible show DL.dIxD _ _ _ _); (first | ((with_reducible refine' ixD_ok ?h1 ?h2 ?_); (case h1 => assumption); (case h2 => assumption)) | ((with_reducible show dIxD (D.lst _) _ _ _); refine Or.inl ?_) | ((with_reducible show dIxD (D.tup _) _ _ _); refine Or.inl ?_) | ((with_reducible show dIxD (D.str _) _ _ _); refine Or.inl ?_)))
  | ((with_reducible show DL.dInX _ _ _ _ _); (first | ((with_reducible refine' inX_ok ?h1 ?_); (case h1 => assumption)) | ((with_reducible refine' ninX_ok ?h1 ?_); (case h1 => assumption))))
  | ((with_reducible show DL.dLenX _ _ _); (first | ((with_reducible refine' lenX_ok ?h1 ?_); (case h1 => assumption)) | ((with_reducible show dLenX [D.lst _] _ _); refine Or.inl ?_) | ((with_reducible show dLenX [D.tup _] _ _); refine Or.inl ?_) | ((with_reducible show dLenX [D.str _] _ _); refine Or.inl ?_)))
  | ((with_reducible show DL.tb _ _ _); (first | with_reducible refine tb_ok ?_))
  | ((with_reducible show DL.dIsi _ _ _); (first | ((with_reducible refine' isi_int ?k1 ?_); (case k1 => walk_at "kd")) | ((with_reducible refine' isi_bool ?k1 ?_); (case k1 => walk_at "kd")) | ((with_reducible refine' isi_str ?k1 ?_); (case k1 => walk_at "kd")) | ((with_reducible refine' isi_list ?k1 ?_); (case k1 => walk_at "kd")) | ((with_reducible refine' isi_tuple ?k1 ?_); (case k1 => walk_at "kd")) | ((with_reducible refine' isi_ls ?k1 ?_); (case k1 => assumption)) | ((with_reducible refine' isi_lsT ?k1 ?_); (case k1 => assumption))))
  | ((with_reducible show DL.dIsiT _ _ _); (first | ((with_reducible refine' isi_ltT ?k1 ?k2 ?_); (case k1 => rfl); (case k2 => rfl)) | ((with_reducible refine' isi_ltF ?k1 ?k2 ?_); (case k1 => rfl); (case k2 => rfl)) | ((with_reducible refine' isi_lt ?k1 ?_); (case k1 => walk_at "kd")) | ((with_reducible refine' isiT_ls ?k1 ?_); (case k1 => assumption))))
  | ((with_reducible show DL.dLen _ _ _); (first | ((with_reducible refine' len_ls ?k1 ?_); (case k1 => assumption)) | ((with_reducible refine' len_str ?k1 ?_); (case k1 => walk_at "ct")) | with_reducible refine len_tup ?_ | with_reducible refine len_fr ?_ | with_reducible refine len_sl ?_ | ((with_reducible refine' len_own ?k1 ?_); (case k1 => assumption)) | with_reducible refine len_put ?_))
  | ((with_reducible show DL.dEq _ _ _ _ _); (first | with_reducible refine eq_bb ?_ | with_reducible refine ne_bb ?_ | with_reducible refine eq_ii ?_ | with_reducible refine ne_ii ?_))
  | ((with_reducible show DL.dI2 _ _ _ _ _ _); (first | ((with_reducible refine' i2_ok ?k1 ?_); (case k1 => walk_at "ct"))))
  | ((with_reducible show DL.dB2 _ _ _ _ _); (first | with_reducible refine b2_ok ?_))
  | ((with_reducible show DL.dAdd _ _ _ _); (first | with_reducible refine add_ii ?_ | ((with_reducible refine' add_ss ?k1 ?_); (case k1 => walk_at "ct")) | ((with_reducible refine' add_tt ?k1 ?_); (case k1 => walk_at "ct"))))
  | ((with_reducible show DL.dMul _ _ _ _); (first | ((with_reducible refine' mul_ii ?k1 ?_); (case k1 => walk_at "ct"))))
  | ((with_reducible show DL.dSl _ _ _ _ _); (first | with_reducible refine sl_t ?_ | with_reducible refine sl_f ?_))
  | ((with_reducible show DL.dInt1 _ _ _ _); (first | with_reducible refine int1_ok ?_))
  | ((with_reducible show DL.dInt2 _ _ _ _); (first | with_reducible refine int2_ok ?_))
  | ((with_reducible show DL.dInt _ _ _); (first | with_reducible refine int_i ?_ | with_reducible refine int_b ?_))
  | ((with_reducible show DL.dIn _ _ _ _ _); (first | with_reducible refine ins_c ?_))
  | ((with_reducible show DL.dTuple _ _ _); (first | with_reducible refine tup_t ?_ | with_reducible refine tup_f ?_))
  | ((with_reducible show DL.dIx _ _ _ _); (first | ((with_reducible refine' ix_t ?k1 ?_); (case k1 => rfl)) | ((with_reducible refine' ix_f ?k1 ?_); (case k1 => rfl)) | ((with_reducible refine' ix_s ?k1 ?_); (case k1 => rfl)) | ((with_reducible refine' ix_p ?k1 ?_); (case k1 => rfl)) | ((with_reducible refine' ix_o ?k0 ?k1 ?_); (case k0 => assumption); (case k1 => rfl))))
  | ((with_reducible show DL.dIsN _ _ _ _ _); (first | ((with_reducible refine' isn_k ?k1 ?_); (case k1 => walk_at "kd")) | ((with_reducible refine' nisn_k ?k1 ?_); (case k1 => walk_at "kd"))))
  | ((refine' fld_ok ?h1 ?h2 ?h3 ?_); (case h1 => assumption); (case h2 => assumption); (case h3 => walk_at "fg"))
  | with_reducible refine ex_bl ?_
  | with_reducible refine ex_int ?_
  | with_reducible refine ex_2 ?_
  | with_reducible refine ex_3 ?_
  | ((with_reducible refine' setL_p ?k1 ?_); (case k1 => rfl))
  | ((with_reducible refine' setL_o ?k0 ?k1 ?_); (case k0 => assumption); (case k1 => rfl))
  | with_reducible refine and_T ?_
  | with_reducible refine and_F ?_
  | ((with_reducible refine and_S ?_ ?_) <;> intro _)
  | with_reducible refine ty_str ?_
  | with_reducible refine ty_put ?_
  | ((with_reducible refine' ty_own ?k1 ?_); (case k1 => assumption))
  | ((with_reducible refine' sz_ok ?k1 ?_); (case k1 => rfl))
  | ((with_reducible refine' sz_as ?k1 ?_); (case k1 => assumption))))
namespace K31
section
variable {P : Program} {w : World} {K : PySem.W.Frag} {mg : Str → Option Value} {base : Heap}
/-- data fit for == and for repr -/
structure Ob (d : D) : Prop where
  ex : ∃ n, n ≤ 60 ∧ d.fit n = true
  sh : d.shI = true
  wt : d.wt ≤ 200000
theorem fit_kind {x : D} {n : Nat} (h : x.fit n = true) : x.kind = true := kind_of_py (fit_py x h)
theorem Ob.kind {d : D} (h : Ob d) : d.kind = true := by obtain ⟨n, _, hf⟩ := h.ex; exact fit_kind hf
theorem wt_mem : ∀ {xs : List D} {d : D}, d ∈ xs → d.wt ≤ wtL xs
  | x :: xs, d, h => by
    rcases List.mem_cons.mp h with rfl | h
    · simp only [wtL]; omega
    · have := wt_mem h; simp only [wtL]; omega
theorem Ob.part {xs : List D} (h : Ob (.tup xs)) : ∀ d ∈ xs, Ob d := fun d hd => by
  obtain ⟨n, hn, hf⟩ := h.ex
  obtain ⟨m, rfl, hm⟩ := fit_tup hf
  exact ⟨⟨m, by omega, hm d hd⟩, shL_all.mp (by have := h.sh; simpa [D.shI] using this) d hd, Nat.le_trans (wt_mem hd) (by have := h.wt; simpa [D.wt] using this)⟩
theorem Ob.str {z : Str} (h : Ob (.str z)) : z.length ≤ sizeLine := Nat.le_trans h.wt (by decide)
theorem Ob.eq {C : CS} {k : KD} {x : D} {z : Str} (h : Ob x) (hz : PyData.strOk z = true) (q : k (.bl (PyData.eqv x.py (.str z))) C) : dEq false x (.str z) C k := by
  obtain ⟨n, hn, hf⟩ := h.ex
  exact eq_fit (n := n) (m := 0) hf hz q (by omega)
def isI : D → Bool
  | .int _ => true
  | _ => false
theorem isI_eq {x : D} (h : isI x = true) : ∃ i, x = .int i := by cases x <;> first | exact ⟨_, rfl⟩ | (simp [isI] at h; done)
theorem isI_of {x : D} : isI x = (x.isIntB && !x.isBl) := by cases x <;> rfl
def spIsInt : DSp := fun ds C k => ∃ x, ds = [x] ∧ x.kind = true ∧ k (.bl (isI x)) C
theorem ok_isInt {f : Addr} {fd : FuncData} (F : Fun K "is_integer" "is_integer" s_is_integer f fd) (Z : Zs mg) : FnG P w K mg base CX0 1 f fd P_is_integer (toSp K spIsInt) := by
  refine fnX F sc_is_integer v_is_integer l_is_integer g_is_integer (fun ds C k h => by obtain ⟨x, rfl, _⟩ := h; rfl) fun X hB ds C k h => ?_
  obtain ⟨x, rfl, hk, h⟩ := h
  obtain ⟨hx, hn, hs, hg, hd, hnox⟩ := hB
  change WSs X _ [some x] C _
  refine wss_cons ?_
  walk_at "py"
  · rename_i h1
    show k (.bl (!x.isBl)) C
    rw [isI_of, h1] at h; exact h
  · rename_i h1
    rw [isI_of, h1] at h; exact h
def geB : D → Int → Bool
  | .int i, l => decide (l ≤ i)
  | _, _ => false
def spIsFrom : DSp := fun ds C k => ∃ x l, ds = [x, .int l] ∧ x.kind = true ∧ k (.bl (geB x l)) C
theorem geB_no {x : D} {l : Int} (h : isI x = false) : geB x l = false := by cases x <;> first | rfl | (simp [isI] at h; done)
theorem ok_isFrom {f : Addr} {fd : FuncData} (F : Fun K "is_from" "is_from" s_is_from f fd) (h1 : FnC P w K mg base "is_integer" 1 spIsInt) : FnG P w K mg base CX0 2 f fd P_is_from (toSp K spIsFrom) := by
  refine fnX F sc_is_from v_is_from l_is_from g_is_from (fun ds C k h => by obtain ⟨x, l, rfl, _⟩ := h; rfl) fun X hB ds C k h => ?_
  obtain ⟨x, l, rfl, hk, h⟩ := h
  obtain ⟨hx, hn, hs, hg, hd, hnox⟩ := hB
  change WSs X _ [some x, some (.int l)] C _
  refine wss_cons ?_
  walk_at "py"
  refine ⟨x, rfl, hk, ?_⟩
  walk_at "py"
  · rename_i h1
    obtain ⟨i, rfl⟩ := isI_eq h1
    walk_at "py"
    exact h
  · rename_i h1
    rw [geB_no h1] at h
    exact h
abbrev abc : Str := "abcdefghijklmnopqrstuvwxyz"
def abcB (z : Str) : Bool := z.cps.toList.all fun c => decide (c ∈ abc.cps.toList)
def isNm : D → Bool
  | .str z => (decide (1 ≤ z.length) && decide (z.length ≤ 8)) && abcB z
  | _ => false
theorem isNm_no {x : D} (h : x.isStr = false) : isNm x = false := by cases x <;> first | rfl | (simp [D.isStr] at h; done)
def spIsNm : DSp := fun ds C k => ∃ x, ds = [x] ∧ Ob x ∧ k (.bl (isNm x)) C
def sgB (d : D) : Bool := match d with | .str s => s.cps.toList.all fun c => decide (c ∈ abc.cps.toList) | _ => false
theorem signs_all (z : Str) : (signsOf z).all sgB = abcB z := by
  unfold signsOf abcB
  rw [List.all_map]
  congr 1
  funext c
  simp [sgB]
theorem mem_signs {z : Str} {d : D} (h : d ∈ signsOf z) : ∃ c, d = .str ⟨#[c]⟩ := by
  obtain ⟨c, _, rfl⟩ := List.mem_map.mp h
  exact ⟨c, rfl⟩
theorem signs_len (z : Str) : (signsOf z).length = z.length := by
  unfold signsOf
  rw [List.length_map, Array.length_toList]; rfl
theorem ok_isName {f : Addr} {fd : FuncData} (F : Fun K "is_name" "is_name" s_is_name f fd) (Z : Zs mg) (g1 : MgK K mg "LETTERS" (.str abc)) (g2 : MgK K mg "MOST_LETTERS" (.int 8)) : FnG P w K mg base CX0 1 f fd P_is_name (toSp K spIsNm) := by
  refine fnX F sc_is_name v_is_name l_is_name g_is_name (fun ds C k h => by obtain ⟨x, rfl, _⟩ := h; rfl) fun X hB ds C k h => ?_
  obtain ⟨x, rfl, hO, h⟩ := h
  obtain ⟨hx, hn, hs, hg, hd, hnox⟩ := hB
  have hk := hO.kind
  change WSs X _ [some x, none] C _
  refine wss_cons ?_
  walk_at "pyR"
  · rename_i h2
    rw [isNm_no (by simpa using h2)] at h; exact h
  · rename_i h2
    obtain ⟨z, rfl⟩ := isStr_eq (by simpa using h2)
    have hz := hO.str
    walk_at "pyR"
    · rename_i h3 h4
      have e : isNm (.str z) = false := by
        have : ¬ z.length ≤ 8 := by have h4 := dec_f (by simpa using h4 : decide (((z.length : Nat) : Int) ≤ 8) = false); omega
        simp [isNm, this]
      rw [e] at h; exact h
    · rename_i h3 h4
      have e : isNm (.str z) = abcB z := by
        have h3 := dec_t h3
        have h4 := dec_t (by simpa using h4 : decide (((z.length : Nat) : Int) ≤ 8) = true)
        show ((decide (1 ≤ z.length) && decide (z.length ≤ 8)) && abcB z) = abcB z
        rw [decide_eq_true (by omega), decide_eq_true (by omega)]; rfl
      rw [e] at h
      refine we_fa (lc1 ["sign"] ["LETTERS"] hd (by walk_at "nm") (by decide +kernel) (by decide +kernel) (by decide +kernel) (by decide +kernel) (wi_str ?_))
      walk_at "pyR"
      refine ⟨z, rfl, LcB.map (fun d => .bl (sgB d)) trivial (by rw [signs_len]; exact hz) ?_ fun p hp => fa_put hp ?_⟩
      · intro d hdm X' hX hn' hg'
        have hx' := hx.blk hX
        obtain ⟨c, rfl⟩ := mem_signs hdm
        walk_at "pyR"
        exact ⟨by simp [sgB], rfl⟩
      · walk_at "pyR"
        refine all_map (f := sgB) ?_
        rw [signs_all]; exact h
    · rename_i h3 h4
      have e : isNm (.str z) = false := by
        have : ¬ 1 ≤ z.length := by have h3 := dec_f h3; omega
        simp [isNm, this]
      rw [e] at h; exact h
    · rename_i h3 h4; exact absurd h4 (by decide)
def isLn : D → Bool
  | .str z => !decide (10 ∈ z.cps.toList)
  | _ => false
theorem isLn_no {x : D} (h : x.isStr = false) : isLn x = false := by cases x <;> first | rfl | (simp [D.isStr] at h; done)
def spIsLn : DSp := fun ds C k => ∃ x, ds = [x] ∧ x.kind = true ∧ k (.bl (isLn x)) C
theorem nin_feed {C : CS} {k : KD} {z : Str} (q : k (.bl (!decide (10 ∈ z.cps.toList))) C) : dIn true (.str "\n") (.str z) C k := ⟨10, z, congrArg D.str (show (("\n" : Str)) = ⟨#[10]⟩ by decide +kernel), rfl, q⟩
theorem ok_isLine {f : Addr} {fd : FuncData} (F : Fun K "is_line" "is_line" s_is_line f fd) (Z : Zs mg) (g1 : MgK K mg "FEED" (.str "\n")) : FnG P w K mg base CX0 1 f fd P_is_line (toSp K spIsLn) := by
  refine fnX F sc_is_line v_is_line l_is_line g_is_line (fun ds C k h => by obtain ⟨x, rfl, _⟩ := h; rfl) fun X hB ds C k h => ?_
  obtain ⟨x, rfl, hk, h⟩ := h
  obtain ⟨hx, hn, hs, hg, hd, hnox⟩ := hB
  change WSs X _ [some x] C _
  refine wss_cons ?_
  walk_at "pyR"
  · rename_i h1
    obtain ⟨z, rfl⟩ := isStr_eq h1
    refine nin_feed ?_
    exact h
  · rename_i h1
    rw [isLn_no h1] at h; exact h
abbrev lacks : List Str := ["changed", "gone", "short"]
def isLk : D → Bool
  | .str z => decide (z ∈ lacks)
  | _ => false
theorem isLk_no {x : D} (h : x.isStr = false) : isLk x = false := by cases x <;> first | rfl | (simp [D.isStr] at h; done)
def shB (a b : D) : Bool := if PyData.eqv a.py (.str "text") = true then isLn b else PyData.eqv a.py (.str "lack") && isLk b
def isSh : D → Bool
  | .non => true
  | .tup [a, b] => shB a b
  | _ => false
theorem eqv_str {a : D} {z : Str} (h : a.isStr = false) (hk : a.kind = true) : PyData.eqv a.py (.str z) = false := by
  cases a <;> first | (simp [D.isStr] at h; done) | (simp [D.kind] at hk; done) | (simp [D.py, PyData.eqv])
theorem isSh_no {x : D} (h : x.isTup = false) (hn : x.isNon = false) : isSh x = false := by cases x <;> first | rfl | (simp [D.isTup] at h; done) | (simp [D.isNon] at hn; done)
theorem isSh_len {xs : List D} (h : xs.length ≠ 2) : isSh (.tup xs) = false := by
  unfold isSh
  split
  · rename_i e; cases e
  · rename_i e; injection e with e; subst e; exact absurd rfl h
  · rfl
theorem non_eq {x : D} (h : x.isNon = true) : x = .non := by cases x <;> first | rfl | (simp [D.isNon] at h; done)
theorem strOk_text : PyData.strOk ("text" : Str) = true := by decide +kernel
theorem strOk_lack : PyData.strOk ("lack" : Str) = true := by decide +kernel
theorem strOk_gap : PyData.strOk ("gap" : Str) = true := by decide +kernel
def spIsSh : DSp := fun ds C k => ∃ x, ds = [x] ∧ Ob x ∧ k (.bl (isSh x)) C
theorem len_eq {n m : Nat} (h : ((n : Int) == (m : Nat)) = true) : n = m := by
  have := beq_iff_eq.mp h
  omega
theorem len_ne {n m : Nat} (h : ((n : Int) == (m : Nat)) = false) : n ≠ m := by
  have := beq_eq_false_iff_ne.mp h
  omega
theorem len_of {n m : Nat} (h : (!((n : Int) == (m : Nat))) = false) : n = m := by
  have : ((n : Int) == (m : Nat)) = true := by simpa using h
  have := beq_iff_eq.mp this
  omega
theorem len_nof {n m : Nat} (h : (!((n : Int) == (m : Nat))) = true) : n ≠ m := by
  have : ((n : Int) == (m : Nat)) = false := by simpa using h
  have := beq_eq_false_iff_ne.mp this
  omega
theorem ok_isShown {f : Addr} {fd : FuncData} (F : Fun K "is_shown" "is_shown" s_is_shown f fd) (Z : Zs mg) (h1 : FnC P w K mg base "is_line" 1 spIsLn) (g1 : MgK K mg "TEXT" (.str "text")) (g2 : MgK K mg "LACK" (.str "lack")) (g3 : MgK K mg "LACKS" (.tup (lacks.map D.str))) : FnG P w K mg base CX0 2 f fd P_is_shown (toSp K spIsSh) := by
  refine fnX F sc_is_shown v_is_shown l_is_shown g_is_shown (fun ds C k h => by obtain ⟨x, rfl, _⟩ := h; rfl) fun X hB ds C k h => ?_
  obtain ⟨x, rfl, hO, h⟩ := h
  obtain ⟨hx, hn, hs, hg, hd, hnox⟩ := hB
  have hk := hO.kind
  change WSs X _ [some x] C _
  refine wss_cons ?_
  walk_at "pyR"
  · rename_i h2
    rw [non_eq h2] at h; exact h
  · rename_i h2 h3
    rw [isSh_no (by simpa using h3) h2] at h; exact h
  · rename_i h2 h3
    obtain ⟨xs, rfl⟩ := isTup_eq (by simpa using h3)
    walk_at "pyR"
    · rename_i h4
      rw [isSh_len (len_nof (m := 2) h4)] at h; exact h
    · rename_i h4
      obtain ⟨a, b, rfl⟩ := two_of (len_of (m := 2) h4)
      have oa := hO.part a (by simp)
      have ob := hO.part b (by simp)
      have ka := oa.kind
      have kb := ob.kind
      walk_at "pyR"
      · rename_i h5
        have e : isSh (.tup [a, b]) = false := by
          show shB a b = false
          unfold shB
          rw [eqv_str (by simpa using h5) ka, if_neg (by simp), eqv_str (by simpa using h5) ka]; rfl
        rw [e] at h; exact h
      · rename_i h5
        refine oa.eq strOk_text ?_
        walk_at "pyR"
        · rename_i h6
          refine ⟨b, rfl, kb, ?_⟩
          rw [show isSh (.tup [a, b]) = isLn b from if_pos h6] at h; exact h
        · rename_i h6
          rw [show isSh (.tup [a, b]) = (PyData.eqv a.py (.str "lack") && isLk b) from if_neg (by rw [h6]; simp)] at h
          refine oa.eq strOk_lack ?_
          walk_at "pyR"
          · rename_i h7 h8
            obtain ⟨z, rfl⟩ := isStr_eq h8
            refine in_tup rfl ?_
            rw [h7, Bool.true_and] at h; exact h
          · rename_i h7 h8
            rw [h7, isLk_no h8] at h; exact h
          · rename_i h7
            rw [h7, Bool.false_and] at h; exact h
def isRow : D → Bool
  | .tup [f, e, l, g, s] => isNm f && isNm g && isSh s && (geB e 0 && geB l 1)
  | _ => false
theorem isRow_no {x : D} (h : x.isTup = false) : isRow x = false := by cases x <;> first | rfl | (simp [D.isTup] at h; done)
theorem isRow_len {xs : List D} (h : xs.length ≠ 5) : isRow (.tup xs) = false := by
  unfold isRow
  split
  · rename_i e; injection e with e; subst e; exact absurd rfl h
  · rfl
theorem five_of {α : Type} {xs : List α} (h : xs.length = 5) : ∃ a b c d e, xs = [a, b, c, d, e] := by
  match xs, h with
  | [a, b, c, d, e], _ => exact ⟨a, b, c, d, e, rfl⟩
def spIsRow : DSp := fun ds C k => ∃ x, ds = [x] ∧ Ob x ∧ k (.bl (isRow x)) C
theorem ok_isRow {f : Addr} {fd : FuncData} (F : Fun K "is_row" "is_row" s_is_row f fd) (Z : Zs mg) (h1 : FnC P w K mg base "is_name" 1 spIsNm) (h2 : FnC P w K mg base "is_shown" 2 spIsSh) (h3 : FnC P w K mg base "is_from" 2 spIsFrom) : FnG P w K mg base CX0 3 f fd P_is_row (toSp K spIsRow) := by
  refine fnX F sc_is_row v_is_row l_is_row g_is_row (fun ds C k h => by obtain ⟨x, rfl, _⟩ := h; rfl) fun X hB ds C k h => ?_
  obtain ⟨x, rfl, hO, h⟩ := h
  obtain ⟨hx, hn, hs, hg, hd, hnox⟩ := hB
  have hk := hO.kind
  change WSs X _ [some x, none, none, none, none, none] C _
  refine wss_cons ?_
  walk_at "pyR"
  · rename_i h4
    rw [isRow_no (by simpa using h4)] at h; exact h
  · rename_i h4
    obtain ⟨xs, rfl⟩ := isTup_eq (by simpa using h4)
    walk_at "pyR"
    · rename_i h5
      rw [isRow_len (len_nof (m := 5) h5)] at h; exact h
    · rename_i h5
      obtain ⟨a, b, c, d, e, rfl⟩ := five_of (len_of (m := 5) h5)
      have oa := hO.part a (by simp)
      have ob := hO.part b (by simp)
      have oc := hO.part c (by simp)
      have od := hO.part d (by simp)
      have oe := hO.part e (by simp)
      change k (.bl (isNm a && isNm d && isSh e && (geB b 0 && geB c 1))) C at h
      walk_at "pyR"
      refine ⟨_, rfl, oa, ?_⟩
      walk_at "pyR"
      · rename_i h6
        show k (.bl false) C
        simp_all
      · rename_i h6
        refine ⟨_, rfl, od, ?_⟩
        walk_at "pyR"
        · rename_i h7
          show k (.bl false) C
          simp_all
        · rename_i h7
          refine ⟨_, rfl, oe, ?_⟩
          walk_at "pyR"
          · rename_i h8
            show k (.bl false) C
            simp_all
          · rename_i h8
            refine ⟨b, 0, rfl, ob.kind, ?_⟩
            walk_at "pyR"
            · rename_i h9
              refine ⟨c, 1, rfl, oc.kind, ?_⟩
              show k (.bl _) C
              simp_all
            · rename_i h9
              show k (.bl false) C
              simp_all
def isGap : D → Bool
  | .tup [.str z, .int i] => z == ("gap" : Str) && decide (1 ≤ i)
  | _ => false
theorem isGap_two (a b : D) : isGap (.tup [a, b]) = (PyData.eqv a.py (.str "gap") && geB b 1 && a.isStr) := by
  cases a <;> cases b <;> simp [isGap, D.py, PyData.eqv, geB, D.isStr]
theorem isGap_no {x : D} (h : x.isTup = false) : isGap x = false := by cases x <;> first | rfl | (simp [D.isTup] at h; done)
theorem isGap_len {xs : List D} (h : xs.length ≠ 2) : isGap (.tup xs) = false := by
  unfold isGap
  split
  · rename_i e; injection e with e; subst e; exact absurd rfl h
  · rfl
def spIsGap : DSp := fun ds C k => ∃ x, ds = [x] ∧ Ob x ∧ k (.bl (isGap x)) C
theorem ok_isGap {f : Addr} {fd : FuncData} (F : Fun K "is_gap" "is_gap" s_is_gap f fd) (Z : Zs mg) (h1 : FnC P w K mg base "is_from" 2 spIsFrom) (g1 : MgK K mg "GAP" (.str "gap")) : FnG P w K mg base CX0 3 f fd P_is_gap (toSp K spIsGap) := by
  refine fnX F sc_is_gap v_is_gap l_is_gap g_is_gap (fun ds C k h => by obtain ⟨x, rfl, _⟩ := h; rfl) fun X hB ds C k h => ?_
  obtain ⟨x, rfl, hO, h⟩ := h
  obtain ⟨hx, hn, hs, hg, hd, hnox⟩ := hB
  have hk := hO.kind
  change WSs X _ [some x] C _
  refine wss_cons ?_
  walk_at "pyR"
  · rename_i h2
    rw [isGap_no (by simpa using h2)] at h; exact h
  · rename_i h2
    obtain ⟨xs, rfl⟩ := isTup_eq (by simpa using h2)
    walk_at "pyR"
    · rename_i h3
      rw [isGap_len (len_nof (m := 2) h3)] at h; exact h
    · rename_i h3
      obtain ⟨a, b, rfl⟩ := two_of (len_of (m := 2) h3)
      have oa := hO.part a (by simp)
      have ob := hO.part b (by simp)
      have ka := oa.kind
      have kb := ob.kind
      rw [isGap_two] at h
      walk_at "pyR"
      · rename_i h4
        refine oa.eq strOk_gap ?_
        walk_at "pyR"
        · rename_i h5
          refine ⟨b, 1, rfl, kb, ?_⟩
          show k (.bl _) C
          rw [h5, h4, Bool.true_and, Bool.and_true] at h; exact h
        · rename_i h5
          rw [h5, Bool.false_and, Bool.false_and] at h; exact h
      · rename_i h4
        rw [h4, Bool.and_false] at h; exact h
end
end K31
namespace K31
section
variable {P : Program} {w : World} {K : PySem.W.Frag} {mg : Str → Option Value} {base : Heap}
/-- the bag of draws at b: at most n were mixed -/
def Bag (C : CS) (b : Addr) (n : Nat) : Prop := ∃ x y c : Int, C b = some (.lst [.int x, .int y, .int c]) ∧ 0 ≤ x ∧ 0 ≤ y ∧ y < 4611686018427387904 ∧ 0 ≤ c ∧ c ≤ n
theorem Bag.mono {C : CS} {b : Addr} {n m : Nat} (h : Bag C b n) (hm : n ≤ m) : Bag C b m := by
  obtain ⟨x, y, c, h1, h2, h3, h4, h5, h6⟩ := h
  exact ⟨x, y, c, h1, h2, h3, h4, h5, by omega⟩
theorem Bag.some {C : CS} {b : Addr} {n : Nat} (h : Bag C b n) : ∃ l, C b = some (.lst l) := by
  obtain ⟨x, y, c, h1, _⟩ := h
  exact ⟨_, h1⟩
theorem Bag.put {C : CS} {b p : Addr} {n : Nat} {c : Cell} (h : Bag C b n) (hp : b ≠ p) : Bag (DL.put C p c) b n := by
  obtain ⟨x, y, c, h1, h2⟩ := h
  exact ⟨x, y, c, by rw [put_ne hp]; exact h1, h2⟩
theorem Bag.ne {C : CS} {b p : Addr} {n : Nat} (h : Bag C b n) (hp : C p = none) : b ≠ p := by
  obtain ⟨l, h⟩ := h.some
  exact cell_ne h hp
theorem Bag.of {C C1 : CS} {b : Addr} {n m : Nat} (h : Bag C b n) (e : C1 b = C b) (hm : n ≤ m) : Bag C1 b m := by
  obtain ⟨x, y, c, q1, q2⟩ := Bag.mono h hm
  exact ⟨x, y, c, e.trans q1, q2⟩
/-- any item -/
theorem at_any {xs : List D} {r : Int} (h0 : 0 ≤ r) (h1 : r < (xs.length : Nat)) : ∃ d ∈ xs, atI xs r = some d := by
  have hl : r.toNat < xs.length := by omega
  refine ⟨xs[r.toNat], List.getElem_mem hl, ?_⟩
  unfold atI ixN
  rw [if_pos h0, if_pos h1]
  exact List.getElem?_eq_getElem hl
theorem ix_any {C : CS} {k : KD} {xs : List D} {r : Int} (h0 : 0 ≤ r) (h1 : r < (xs.length : Nat)) (q : ∀ d ∈ xs, k d C) : dIx (.lst xs) (.int r) C k := by
  obtain ⟨d, hm, he⟩ := at_any h0 h1
  exact ix_f he (q d hm)
theorem ix_anyT {C : CS} {k : KD} {xs : List D} {r : Int} (h0 : 0 ≤ r) (h1 : r < (xs.length : Nat)) (q : ∀ d ∈ xs, k d C) : dIx (.tup xs) (.int r) C k := by
  obtain ⟨d, hm, he⟩ := at_any h0 h1
  exact ix_t he (q d hm)
theorem ix_anyO {C : CS} {k : KD} {p : Addr} {xs : List D} {r : Int} (hp : C p = some (.lst xs)) (h0 : 0 ≤ r) (h1 : r < (xs.length : Nat)) (q : ∀ d ∈ xs, k d C) : dIx (.own p) (.int r) C k := by
  obtain ⟨d, hm, he⟩ := at_any h0 h1
  exact ix_o hp he (q d hm)
abbrev primes : List D := [.int 2147483647, .int 2147483629, .int 2147483587, .int 2147483579, .int 2147483563, .int 2147483549, .int 2147483543]
theorem prime_ix {C : CS} {k : KD} {c : Int} (q : ∀ p : Int, 2147483543 ≤ p → p ≤ 2147483647 → k (.int p) C) : dIx (.tup primes) (.int (c % 7)) C k := by
  refine ix_anyT (Int.emod_nonneg _ (by decide)) (Int.emod_lt_of_pos _ (by decide)) fun d hd => ?_
  simp only [primes, List.mem_cons, List.not_mem_nil, or_false] at hd
  rcases hd with rfl | rfl | rfl | rfl | rfl | rfl | rfl <;> exact q _ (by decide) (by decide)
def spTake : DSp := fun ds C k => ∃ (b : Addr) (n : Nat) (m : Int), ds = [.own b, .int m] ∧ Bag C b n ∧ n ≤ 1000000 ∧ 1 ≤ m ∧ m < 1000000 ∧ ∀ r l, 0 ≤ r → r < m → Bag (DL.put C b (.lst l)) b (n + 1) → k (.int r) (DL.put C b (.lst l))
theorem ok_take {f : Addr} {fd : FuncData} (F : Fun K "_law_take" "_law_take" s_take f fd) (Z : Zs mg) : FnG P w K mg base CX0 1 f fd P_take (toSp K spTake) := by
  refine fnX F sc_take v_take l_take g_take (fun ds C k h => by obtain ⟨_, _, _, rfl, _⟩ := h; rfl) fun X hB ds C k h => ?_
  obtain ⟨b, n, m, rfl, ⟨x, y, c, hC, x0, y0, y1, c0, c1⟩, hn30, m1, m2, h⟩ := h
  obtain ⟨hx, hn, hs, hg, hd, hnox⟩ := hB
  change WSs X _ [some (.own b), some (.int m), none, none, none, none, none, none] C _
  refine wss_cons ?_
  have mz : 0 < m := by omega
  have cd : CDiv x m := ⟨by omega, by omega⟩
  have pw : CPowW (y * (2 * (c + 1) + 1) + 5003 * (c + 1) * (c + 1) + 97) 3 := by
    have h1 : y * (2 * (c + 1) + 1) ≤ 4611686018427387904 * 2000003 := Int.mul_le_mul (by omega) (by omega) (by omega) (by omega)
    have h2 : 0 ≤ y * (2 * (c + 1) + 1) := Int.mul_nonneg y0 (by omega)
    have h3 : 5003 * (c + 1) * (c + 1) ≤ 5003 * 1000001 * 1000001 := Int.mul_le_mul (by omega) (by omega) (by omega) (by omega)
    have h4 : 0 ≤ 5003 * (c + 1) * (c + 1) := Int.mul_nonneg (by omega) (by omega)
    refine ⟨by omega, by omega, ?_⟩
    have : (y * (2 * (c + 1) + 1) + 5003 * (c + 1) * (c + 1) + 97).natAbs < 2 ^ 100 := by omega
    exact Nat.lt_trans this (Nat.pow_lt_pow_right (by decide) (by decide))
  walk_at "pyR"
  · rename_i hx0
    have := h (x % m) [.int (x / m), .int y, .int c] (Int.emod_nonneg _ (by omega)) (Int.emod_lt_of_pos _ mz) ⟨x / m, y, c, put_same, Int.ediv_nonneg x0 (by omega), y0, y1, c0, by omega⟩
    exact this
  · refine prime_ix fun p p0 p1 => ?_
    have h1 := Int.emod_nonneg ((y * (2 * (c + 1) + 1) + 5003 * (c + 1) * (c + 1) + 97) ^ (3 : Int).toNat) (show p ≠ 0 by omega)
    have h2 := Int.emod_lt_of_pos ((y * (2 * (c + 1) + 1) + 5003 * (c + 1) * (c + 1) + 97) ^ (3 : Int).toNat) (show 0 < p by omega)
    have cm : ∀ j, CMul ((y * (2 * (c + 1) + 1) + 5003 * (c + 1) * (c + 1) + 97) ^ (3 : Int).toNat % p) j := fun j => .inl ⟨by omega, by omega⟩
    walk_at "pyR"
    refine prime_ix fun p' p0' p1' => ?_
    walk_at "pyR"
    exact h _ [.int x, .int y, .int (c + 1)] (Int.emod_nonneg _ (by omega)) (Int.emod_lt_of_pos _ mz) ⟨x, y, c + 1, put_same, x0, y0, y1, by omega, by omega⟩
/-- the bag that a cell of the script gives -/
def spBag : DSp := fun ds C k => ∃ (ns : List Int) (a : Nat), ds = [.slst (ns.map D.int), .int (a : Nat)] ∧ a ≤ 100 ∧ ∀ p l, C p = none → Bag (DL.put C p (.lst l)) p 0 → k (.own p) (DL.put C p (.lst l))
theorem at_map {ns : List Int} {a : Nat} (h : a < ns.length) : atI (ns.map D.int) (a : Int) = some (.int ns[a]) := by
  unfold atI ixN
  rw [if_pos (by omega), if_pos (by rw [List.length_map]; omega)]
  simp [h]
theorem ok_bag {f : Addr} {fd : FuncData} (F : Fun K "_law_bag" "_law_bag" s_bag f fd) (Z : Zs mg) : FnG P w K mg base CX0 1 f fd P_bag (toSp K spBag) := by
  refine fnX F sc_bag v_bag l_bag g_bag (fun ds C k h => by obtain ⟨_, _, rfl, _⟩ := h; rfl) fun X hB ds C k h => ?_
  obtain ⟨ns, a, rfl, ha, h⟩ := h
  obtain ⟨hx, hn, hs, hg, hd, hnox⟩ := hB
  change WSs X _ [some (.slst (ns.map D.int)), some (.int a), none] C _
  refine wss_cons ?_
  have pw : CPowW 10 18 := ⟨by decide, by decide, Nat.lt_of_lt_of_le (by decide : (10 : Int).natAbs < 2 ^ 10) (Nat.pow_le_pow_right (by decide) (by decide))⟩
  have e18 : (10 : Int) ^ Int.toNat 18 = 1000000000000000000 := by decide
  have nn : ∀ (i : Int) (t : Bool), 0 ≤ i → 0 ≤ i * (if t = true then (1 : Int) else 0) := fun i t hi => Int.mul_nonneg hi (by split <;> decide)
  have aa : (a : Int) * 8191 * a ≤ 8191 * 100 * 100 := Int.mul_le_mul (by omega) (by omega) (by omega) (by omega)
  have ab : (0 : Int) ≤ 8191 * a * a := Int.mul_nonneg (by omega) (by omega)
  have ac : (8191 : Int) * a * a ≤ 8191 * 100 * 100 := Int.mul_le_mul (by omega) (by omega) (by omega) (by omega)
  walk_at "pyR"
  · rename_i hlt
    have hlt : a < ns.length := by have := dec_t hlt; rw [List.length_map] at this; omega
    refine ix_s (at_map hlt) ?_
    walk_at "pyR"
    refine we_lst ?_
    walk_at "pyR"
    intro p hp
    refine h p _ hp ⟨_, _, _, put_same, nn _ _ (by split <;> omega), ?_, ?_, by decide, by decide⟩ <;> omega
  · refine we_lst ?_
    walk_at "pyR"
    intro p hp
    refine h p _ hp ⟨_, _, _, put_same, nn _ _ (by decide), ?_, ?_, by decide, by decide⟩ <;> omega
/-- any item of a list -/
def spOf : DSp := fun ds C k => ∃ (b : Addr) (n : Nat) (xs : List D), ds = [.own b, .lst xs] ∧ Bag C b n ∧ n ≤ 1000000 ∧ 1 ≤ xs.length ∧ xs.length < 1000 ∧ ∀ d l, d ∈ xs → Bag (DL.put C b (.lst l)) b (n + 1) → k d (DL.put C b (.lst l))
theorem ok_of {f : Addr} {fd : FuncData} (F : Fun K "_law_of" "_law_of" s_of f fd) (Z : Zs mg) (h1 : FnC P w K mg base "_law_take" 1 spTake) : FnG P w K mg base CX0 2 f fd P_of (toSp K spOf) := by
  refine fnX F sc_of v_of l_of g_of (fun ds C k h => by obtain ⟨_, _, _, rfl, _⟩ := h; rfl) fun X hB ds C k h => ?_
  obtain ⟨b, n, xs, rfl, hBag, hn6, x1, x2, h⟩ := h
  obtain ⟨hx, hn, hs, hg, hd, hnox⟩ := hB
  change WSs X _ [some (.own b), some (.lst xs)] C _
  refine wss_cons ?_
  walk_at "pyR"
  refine ⟨b, n, (xs.length : Nat), rfl, hBag, hn6, by omega, by omega, fun r l r0 r1 hB1 => ?_⟩
  refine ix_any r0 r1 fun d hd => ?_
  exact h d l hd hB1
end
end K31
namespace K31
/-! plain data: texts below 128, ints below a bound; t: truths and lists too -/
mutual
def gd (t : Bool) (B : Nat) : Nat → D → Bool
  | _, .non => true
  | _, .bl _ => t
  | _, .int i => decide (i.natAbs < B)
  | _, .str z => z.cps.toList.all fun c => decide (c < 128)
  | n + 1, .lst xs => t && gdL t B n xs
  | n + 1, .tup xs => gdL t B n xs
  | _, _ => false
def gdL (t : Bool) (B : Nat) : Nat → List D → Bool
  | _, [] => true
  | n, d :: ds => gd t B n d && gdL t B n ds
end
theorem gdL_all {t : Bool} {B n : Nat} : ∀ {ds : List D}, gdL t B n ds = true ↔ ∀ d ∈ ds, gd t B n d = true
  | [] => by simp [gdL]
  | d :: ds => by simp [gdL, gdL_all (ds := ds)]
theorem asc_ok {z : Str} (h : (z.cps.toList.all fun c => decide (c < 128)) = true) : PyData.strOk z = true := by
  unfold PyData.strOk
  rw [← Array.all_toList, List.all_eq_true]
  rw [List.all_eq_true] at h
  exact fun c hc => decide_eq_true (by have := of_decide_eq_true (h c hc); omega)
mutual
theorem gd_fit {t : Bool} {B : Nat} (hB : B ≤ 10 ^ 60) : ∀ (d : D) {n : Nat}, gd t B n d = true → d.fit n = true ∧ d.shI = true
  | .non, _, _ | .bl _, _, _ => by simp [D.fit, D.shI]
  | .int i, n, h => by
    have h : i.natAbs < B := by cases n <;> simpa [gd] using h
    refine ⟨by cases n <;> rfl, ?_⟩
    simp only [D.shI, decide_eq_true_eq]; omega
  | .str z, n, h => by
    have h : (z.cps.toList.all fun c => decide (c < 128)) = true := by cases n <;> exact h
    exact ⟨by cases n <;> exact asc_ok h, rfl⟩
  | .lst xs, 0, h | .tup xs, 0, h => by simp [gd] at h
  | .lst xs, n + 1, h => by
    simp only [gd, Bool.and_eq_true] at h
    obtain ⟨a, b⟩ := gdL_fit hB xs h.2
    exact ⟨by simpa [D.fit] using a, by simpa [D.shI] using b⟩
  | .tup xs, n + 1, h => by
    simp only [gd] at h
    obtain ⟨a, b⟩ := gdL_fit hB xs h
    exact ⟨by simpa [D.fit] using a, by simpa [D.shI] using b⟩
  | .slst _, n, h | .obj _ _ _, n, h | .own _, n, h | .opq _, n, h => by cases n <;> simp [gd] at h
theorem gdL_fit {t : Bool} {B : Nat} (hB : B ≤ 10 ^ 60) : ∀ (ds : List D) {n : Nat}, gdL t B n ds = true → fitL n ds = true ∧ shL ds = true
  | [], _, _ => ⟨rfl, rfl⟩
  | d :: ds, n, h => by
    simp only [gdL, Bool.and_eq_true] at h
    obtain ⟨a, b⟩ := gd_fit hB d h.1
    obtain ⟨c, e⟩ := gdL_fit hB ds h.2
    exact ⟨by simp [fitL, a, c], by simp [shL, b, e]⟩
end
theorem gd_ob {t : Bool} {B n : Nat} {d : D} (h : gd t B n d = true) (hB : B ≤ 10 ^ 60 := by decide) (hn : n ≤ 60 := by omega) (hw : d.wt ≤ 200000 := by omega) : Ob d :=
  ⟨⟨n, hn, (gd_fit hB d h).1⟩, (gd_fit hB d h).2, hw⟩
mutual
theorem gd_up {t : Bool} {B B' : Nat} (hB : B ≤ B') : ∀ (d : D) {n m : Nat}, gd t B n d = true → n ≤ m → gd true B' m d = true
  | .non, _, _, _, _ | .bl _, _, _, _, _ => by simp [gd]
  | .int i, n, m, h, _ => by
    have h : i.natAbs < B := by cases n <;> simpa [gd] using h
    have : decide (i.natAbs < B') = true := decide_eq_true (by omega)
    cases m <;> exact this
  | .str z, n, m, h, _ => by
    have h : (z.cps.toList.all fun c => decide (c < 128)) = true := by cases n <;> exact h
    cases m <;> exact h
  | .lst xs, 0, _, h, _ | .tup xs, 0, _, h, _ => by simp [gd] at h
  | .lst xs, n + 1, 0, h, l | .tup xs, n + 1, 0, h, l => absurd l (by omega)
  | .lst xs, n + 1, m + 1, h, l => by
    simp only [gd, Bool.and_eq_true] at h ⊢
    exact ⟨trivial, gdL_up hB xs h.2 (by omega)⟩
  | .tup xs, n + 1, m + 1, h, l => by
    simp only [gd] at h ⊢
    exact gdL_up hB xs h (by omega)
  | .slst _, n, _, h, _ | .obj _ _ _, n, _, h, _ | .own _, n, _, h, _ | .opq _, n, _, h, _ => by cases n <;> simp [gd] at h
theorem gdL_up {t : Bool} {B B' : Nat} (hB : B ≤ B') : ∀ (ds : List D) {n m : Nat}, gdL t B n ds = true → n ≤ m → gdL true B' m ds = true
  | [], _, _, _, _ => rfl
  | d :: ds, n, m, h, l => by
    simp only [gdL, Bool.and_eq_true] at h ⊢
    exact ⟨gd_up hB d h.1 l, gdL_up hB ds h.2 l⟩
end
theorem gd_parts {t : Bool} {B n : Nat} {xs : List D} (h : gd t B n (.tup xs) = true) : ∃ m, n = m + 1 ∧ ∀ d ∈ xs, gd t B m d = true := by
  cases n with
  | zero => simp [gd] at h
  | succ m => exact ⟨m, rfl, gdL_all.mp (by simpa [gd] using h)⟩
theorem gd_tup {t : Bool} {B n : Nat} {xs : List D} (h : ∀ d ∈ xs, gd t B n d = true) : gd t B (n + 1) (.tup xs) = true := by simp only [gd]; exact gdL_all.mpr h
theorem gd_lst {B n : Nat} {xs : List D} (h : ∀ d ∈ xs, gd true B n d = true) : gd true B (n + 1) (.lst xs) = true := by simp only [gd, Bool.true_and]; exact gdL_all.mpr h
theorem gd_str {t : Bool} {B n : Nat} {z : Str} (h : ∀ c ∈ z.cps.toList, c < 128) : gd t B n (.str z) = true := by
  have : (z.cps.toList.all fun c => decide (c < 128)) = true := List.all_eq_true.mpr fun c hc => decide_eq_true (h c hc)
  cases n <;> exact this
theorem gd_str' {t : Bool} {B n : Nat} {z : Str} (h : gd t B n (.str z) = true) : ∀ c ∈ z.cps.toList, c < 128 := by
  have h : (z.cps.toList.all fun c => decide (c < 128)) = true := by cases n <;> exact h
  exact fun c hc => of_decide_eq_true (List.all_eq_true.mp h c hc)
theorem gd_int {t : Bool} {B n : Nat} {i : Int} (h : i.natAbs < B) : gd t B n (.int i) = true := by cases n <;> simpa [gd] using h
theorem gd_int' {t : Bool} {B n : Nat} {i : Int} (h : gd t B n (.int i) = true) : i.natAbs < B := by cases n <;> simpa [gd] using h
theorem gd_non {t : Bool} {B n : Nat} : gd t B n .non = true := by cases n <;> rfl
/-! weights -/
theorem wtL_app : ∀ (xs ys : List D), wtL (xs ++ ys) = wtL xs + wtL ys
  | [], ys => by simp [wtL]
  | x :: xs, ys => by simp only [List.cons_append, wtL, wtL_app xs ys]; omega
theorem wtL_rev : ∀ xs : List D, wtL xs.reverse = wtL xs
  | [] => rfl
  | x :: xs => by rw [List.reverse_cons, wtL_app, wtL_rev xs]; simp only [wtL]; omega
theorem wtL_set : ∀ (xs : List D) (j : Nat) (d x : D), xs[j]? = some x → wtL (xs.set j d) + x.wt = wtL xs + d.wt
  | [], j, d, x, h => by simp at h
  | y :: xs, 0, d, x, h => by
    simp at h; subst h
    simp only [List.set_cons_zero, wtL]; omega
  | y :: xs, j + 1, d, x, h => by
    have := wtL_set xs j d x (by simpa using h)
    simp only [List.set_cons_succ, wtL]; omega
theorem wtL_erase : ∀ (xs : List D) (j : Nat), wtL (xs.eraseIdx j) ≤ wtL xs
  | [], j => by simp [wtL]
  | y :: xs, 0 => by simp only [List.eraseIdx_cons_zero, wtL]; omega
  | y :: xs, j + 1 => by
    have := wtL_erase xs j
    simp only [List.eraseIdx_cons_succ, wtL]; omega
theorem wtL_ins (xs : List D) (j : Nat) (d : D) : wtL (xs.take j ++ [d] ++ xs.drop j) = wtL xs + d.wt + 1 := by
  have := wtL_app (xs.take j) (xs.drop j)
  rw [List.take_append_drop] at this
  rw [wtL_app, wtL_app, this]
  simp only [wtL]; omega
theorem wtL_drop (xs : List D) (j : Nat) : wtL (xs.drop j) ≤ wtL xs := by
  have := wtL_app (xs.take j) (xs.drop j)
  rw [List.take_append_drop] at this
  omega
theorem wt_len {z : Str} : (D.str z).wt = z.length := rfl
theorem asc_num (i : Int) : ∀ c ∈ (toString i : Str).cps.toList, c < 128 := PySem.W.KSb.asc_num i
theorem num_len {i : Int} (h : i.natAbs < 10 ^ 60) : (toString i : Str).length ≤ 61 := by
  have e := int_text_length_le10 (k := 60) (by decide) h
  show (Str.ofString (toString i)).length ≤ 61
  rw [PySem.ofString_length]; exact e
end K31
namespace K31
section
variable {P : Program} {w : World} {K : PySem.W.Frag} {mg : Str → Option Value} {base : Heap}
/-- texts of few signs below 128 -/
def As (n : Nat) (z : Str) : Prop := z.length ≤ n ∧ ∀ c ∈ z.cps.toList, c < 128
instance (n : Nat) (z : Str) : Decidable (As n z) := by unfold As; infer_instance
/-- names; texts of one line -/
def Nm (z : Str) : Prop := As 8 z ∧ isNm (.str z) = true
instance (z : Str) : Decidable (Nm z) := by unfold Nm; infer_instance
def Ln (z : Str) : Prop := As 20 z ∧ 10 ∉ z.cps.toList
instance (z : Str) : Decidable (Ln z) := by unfold Ln; infer_instance
theorem at_abc {r : Int} (h0 : 0 ≤ r) (h1 : r < 26) : ∃ c, atI abc.cps.toList r = some c ∧ c ∈ abc.cps.toList := by
  have hl : abc.cps.toList.length = 26 := by decide +kernel
  have hr : r.toNat < abc.cps.toList.length := by omega
  refine ⟨abc.cps.toList[r.toNat], ?_, List.getElem_mem hr⟩
  unfold atI ixN
  rw [if_pos h0, if_pos (by omega)]
  exact List.getElem?_eq_getElem hr
abbrev sgs : Str := "ab #:>+=?|.09"
theorem at_sgs {r : Int} (h0 : 0 ≤ r) (h1 : r < 13) : ∃ c, atI sgs.cps.toList r = some c ∧ c < 128 ∧ c ≠ 10 := by
  have hl : sgs.cps.toList.length = 13 := by decide +kernel
  have ha : ∀ c ∈ sgs.cps.toList, c < 128 ∧ c ≠ 10 := by decide +kernel
  have hr : r.toNat < sgs.cps.toList.length := by omega
  refine ⟨sgs.cps.toList[r.toNat], ?_, ha _ (List.getElem_mem hr)⟩
  unfold atI ixN
  rw [if_pos h0, if_pos (by omega)]
  exact List.getElem?_eq_getElem hr
def spStr (R : Str → Prop) (m : Nat) : DSp := fun ds C k => ∃ (b : Addr) (n : Nat), ds = [.own b] ∧ Bag C b n ∧ n + m ≤ 1000000 ∧ ∀ l z, R z → Bag (DL.put C b (.lst l)) b (n + m) → k (.str z) (DL.put C b (.lst l))
theorem strs_of (R : Str → Prop) {zs : List Str} {d : D} (h : d ∈ zs.map D.str) (ha : ∀ z ∈ zs, R z) : ∃ z, d = .str z ∧ R z := by
  obtain ⟨z, hz, rfl⟩ := List.mem_map.mp h
  exact ⟨z, rfl, ha z hz⟩
theorem nm_of {z : Str} {cs : List Nat} (hz : z.cps.toList = cs) (h1 : 1 ≤ cs.length) (h8 : cs.length ≤ 8) (h : ∀ c ∈ cs, c ∈ abc.cps.toList) : Nm z := by
  have hl : z.length = cs.length := by rw [str_len, hz]
  have ha : ∀ c ∈ abc.cps.toList, c < 128 := by decide +kernel
  refine ⟨⟨by omega, fun c hc => ha c (h c (by rw [← hz]; exact hc))⟩, ?_⟩
  show ((decide (1 ≤ z.length) && decide (z.length ≤ 8)) && abcB z) = true
  rw [decide_eq_true (by omega), decide_eq_true (by omega), abcB, hz]
  simpa using h
abbrev words : List Str := ["a", "main", "at", "gap", "times", "rows", "member", "cause", "context", "cut", "more", "deep", "text"]
theorem ok_name {f : Addr} {fd : FuncData} (F : Fun K "_law_name" "_law_name" s_name f fd) (Z : Zs mg) (h1 : FnC P w K mg base "_law_take" 1 spTake) (h2 : FnC P w K mg base "_law_of" 2 spOf) : FnG P w K mg base CX0 3 f fd P_name (toSp K (spStr Nm 20)) := by
  refine fnX F sc_name v_name l_name g_name (fun ds C k h => by obtain ⟨_, _, rfl, _⟩ := h; rfl) fun X hB ds C k h => ?_
  obtain ⟨b, n, rfl, hBag, hn6, h⟩ := h
  obtain ⟨hx, hn, hs, hg, hd, hnox⟩ := hB
  change WSs X _ [some (.own b), none, none, none] C _
  refine wss_cons ?_
  walk_at "pyA"
  refine ⟨b, n, 3, rfl, hBag, by omega, by omega, by omega, fun r l1 r0 r1 hB1 => ?_⟩
  walk_at "pyA"
  · refine ⟨b, _, words.map D.str, rfl, hB1, by omega, by decide, by decide, fun d l2 hd2 hB2 => ?_⟩
    obtain ⟨z, rfl, hz⟩ := strs_of Nm hd2 (by decide +kernel)
    rw [put_put] at hB2 ⊢
    exact h l2 z hz (hB2.mono (by omega))
  · refine we_fa (lc1 ["_law_letters", "_law_bag_here"] ["_law_take"] hd (by walk_at "nm") (by decide +kernel) (by decide +kernel) (by decide +kernel) (by decide +kernel) (x_range1 hx Z (by walk_at "gl") ?_))
    walk_at "pyA"
    refine ⟨b, _, [.int 1, .int 1, .int 2, .int 3, .int 8], rfl, hB1, by omega, by decide, by decide, fun d l2 hd2 hB2 => ?_⟩
    obtain ⟨m, rfl, m1, m8⟩ : ∃ m : Int, d = .int m ∧ 1 ≤ m ∧ m ≤ 8 := by
      simp only [List.mem_cons, List.not_mem_nil, or_false] at hd2
      rcases hd2 with rfl | rfl | rfl | rfl | rfl <;> exact ⟨_, rfl, by decide, by decide⟩
    rw [put_put] at hB2 ⊢
    walk_at "pyA"
    refine ⟨m, rfl, by omega, by omega, ?_⟩
    refine ⟨fun j acc C' => ∃ l cs, C' = DL.put C b (.lst l) ∧ Bag C' b (n + 2 + j) ∧ acc = cs.map (fun c => D.str (sg c)) ∧ cs.length = j ∧ ∀ c ∈ cs, c ∈ abc.cps.toList, ⟨l2, [], rfl, hB2, rfl, rfl, fun _ h => by simp at h⟩, fun _ _ _ _ => trivial, ?_, ?_⟩
    · rintro j d acc C2 hj ⟨l3, cs, rfl, hB3, rfl, hcl, hcs⟩ X' hX hn' hg'
      obtain ⟨hj, rfl⟩ := intsFrom_get hj
      refine wif_nil ⟨fun _ X' hX hn' hg' => ?_, fun h => Bool.noConfusion h⟩
      have hx' := hx.blk hX
      walk_at "pyA"
      refine ⟨b, _, 26, rfl, hB3, by omega, by omega, by omega, fun r' l4 r0' r1' hB4 => ?_⟩
      rw [put_put] at hB4 ⊢
      obtain ⟨c, hc, hc8⟩ := at_abc r0' r1'
      refine ix_z (by decide +kernel) hc ?_
      refine ⟨by rw [List.length_map]; exact Nat.lt_of_lt_of_le (by omega : cs.length < 100) (by decide), l4, cs ++ [c], rfl, hB4.mono (by omega), by rw [List.map_append]; rfl, by rw [List.length_append, hcl]; rfl, fun x hx => ?_⟩
      rcases List.mem_append.mp hx with hx | hx
      · exact hcs x hx
      · rw [List.mem_singleton.mp hx]; exact hc8
    · rintro acc C2 ⟨l3, cs, rfl, hB3, rfl, hcl, hcs⟩ q hq
      rw [intsFrom_length] at hcl hB3
      refine fa_put hq ?_
      walk_at "pyA"
      refine join_ok (cs := cs) rfl (by omega) fun z hz => ?_
      exact h l3 z (nm_of hz (by omega) (by omega) hcs) (hB3.mono (by omega))
abbrev lines : List Str := ["", " ", "#0 low", "  at main 1 2 go", "| x", "  > x", "  + y", "cause #0", "    = z", ": ", "low: "]
theorem ok_line {f : Addr} {fd : FuncData} (F : Fun K "_law_line" "_law_line" s_line f fd) (Z : Zs mg) (h1 : FnC P w K mg base "_law_take" 1 spTake) (h2 : FnC P w K mg base "_law_of" 2 spOf) : FnG P w K mg base CX0 3 f fd P_line (toSp K (spStr Ln 20)) := by
  refine fnX F sc_line v_line l_line g_line (fun ds C k h => by obtain ⟨_, _, rfl, _⟩ := h; rfl) fun X hB ds C k h => ?_
  obtain ⟨b, n, rfl, hBag, hn6, h⟩ := h
  obtain ⟨hx, hn, hs, hg, hd, hnox⟩ := hB
  change WSs X _ [some (.own b), none, none, none] C _
  refine wss_cons ?_
  walk_at "pyA"
  refine ⟨b, n, 3, rfl, hBag, by omega, by omega, by omega, fun r l1 r0 r1 hB1 => ?_⟩
  walk_at "pyA"
  · refine ⟨b, _, lines.map D.str, rfl, hB1, by omega, by decide, by decide, fun d l2 hd2 hB2 => ?_⟩
    obtain ⟨z, rfl, hz⟩ := strs_of Ln hd2 (by decide +kernel)
    rw [put_put] at hB2 ⊢
    exact h l2 z hz (hB2.mono (by omega))
  · refine we_fa (lc1 ["_law_signs", "_law_bag_here"] ["_law_take"] hd (by walk_at "nm") (by decide +kernel) (by decide +kernel) (by decide +kernel) (by decide +kernel) (x_range1 hx Z (by walk_at "gl") ?_))
    walk_at "pyA"
    refine ⟨b, _, 7, rfl, hB1, by omega, by omega, by omega, fun m l2 m0 m7 hB2 => ?_⟩
    rw [put_put] at hB2 ⊢
    walk_at "pyA"
    refine ⟨m, rfl, by omega, by omega, ?_⟩
    refine ⟨fun j acc C' => ∃ l cs, C' = DL.put C b (.lst l) ∧ Bag C' b (n + 2 + j) ∧ acc = cs.map (fun c => D.str (sg c)) ∧ cs.length = j ∧ ∀ c ∈ cs, c < 128 ∧ c ≠ 10, ⟨l2, [], rfl, hB2, rfl, rfl, fun _ h => by simp at h⟩, fun _ _ _ _ => trivial, ?_, ?_⟩
    · rintro j d acc C2 hj ⟨l3, cs, rfl, hB3, rfl, hcl, hcs⟩ X' hX hn' hg'
      obtain ⟨hj, rfl⟩ := intsFrom_get hj
      refine wif_nil ⟨fun _ X' hX hn' hg' => ?_, fun h => Bool.noConfusion h⟩
      have hx' := hx.blk hX
      walk_at "pyA"
      refine ⟨b, _, 13, rfl, hB3, by omega, by omega, by omega, fun r' l4 r0' r1' hB4 => ?_⟩
      rw [put_put] at hB4 ⊢
      obtain ⟨c, hc, hc8⟩ := at_sgs r0' r1'
      refine ix_z (by decide +kernel) hc ?_
      refine ⟨by rw [List.length_map]; exact Nat.lt_of_lt_of_le (by omega : cs.length < 100) (by decide), l4, cs ++ [c], rfl, hB4.mono (by omega), by rw [List.map_append]; rfl, by rw [List.length_append, hcl]; rfl, fun x hx => ?_⟩
      rcases List.mem_append.mp hx with hx | hx
      · exact hcs x hx
      · rw [List.mem_singleton.mp hx]; exact hc8
    · rintro acc C2 ⟨l3, cs, rfl, hB3, rfl, hcl, hcs⟩ q hq
      rw [intsFrom_length] at hcl hB3
      refine fa_put hq ?_
      walk_at "pyA"
      refine join_ok (cs := cs) rfl (by omega) fun z hz => ?_
      exact h l3 z ⟨⟨by rw [str_len, hz]; omega, fun c hc => (hcs c (by rw [← hz]; exact hc)).1⟩, fun hc => (hcs 10 (by rw [← hz]; exact hc)).2 rfl⟩ (hB3.mono (by omega))
/-- rows that are drawn -/
structure RowG (d : D) : Prop where
  row : isRow d = true
  gd : gd false (10 ^ 10) 2 d = true
  wt : d.wt ≤ 1000
def spRow : DSp := fun ds C k => ∃ (b : Addr) (n : Nat), ds = [.own b] ∧ Bag C b n ∧ n + 100 ≤ 1000000 ∧ ∀ l d, RowG d → Bag (DL.put C b (.lst l)) b (n + 100) → k d (DL.put C b (.lst l))
theorem shn_gd {z y : Str} (hy : As 20 y) (hz : z = "lack" ∨ z = "text") : gd false (10 ^ 10) 1 (.tup [.str z, .str y]) = true ∧ (D.tup [.str z, .str y]).wt ≤ 50 := by
  have h1 : As 4 z := by rcases hz with rfl | rfl <;> decide +kernel
  refine ⟨gd_tup fun d hd => ?_, ?_⟩
  · simp only [List.mem_cons, List.not_mem_nil, or_false] at hd
    rcases hd with rfl | rfl
    · exact gd_str h1.2
    · exact gd_str hy.2
  · have := h1.1
    have := hy.1
    simp only [D.wt, wtL]
    unfold Str.length at *
    omega
theorem sh_lack {z : Str} (h : z ∈ lacks) : isSh (.tup [.str "lack", .str z]) = true := by
  have ht : PyData.eqv (D.str "lack").py (.str "text") = false := by decide +kernel
  have hl : PyData.eqv (D.str "lack").py (.str "lack") = true := by decide +kernel
  show shB (.str "lack") (.str z) = true
  unfold shB
  rw [ht, hl, if_neg (by decide)]
  simpa [isLk] using h
theorem sh_text {z : Str} (h : 10 ∉ z.cps.toList) : isSh (.tup [.str "text", .str z]) = true := by
  have ht : PyData.eqv (D.str "text").py (.str "text") = true := by decide +kernel
  show shB (.str "text") (.str z) = true
  unfold shB
  rw [ht, if_pos rfl]
  simpa [isLn] using h
theorem ok_row {f : Addr} {fd : FuncData} (F : Fun K "_law_row" "_law_row" s_row f fd) (Z : Zs mg) (h1 : FnC P w K mg base "_law_name" 3 (spStr Nm 20)) (h2 : FnC P w K mg base "_law_of" 2 spOf) (h3 : FnC P w K mg base "_law_line" 3 (spStr Ln 20)) : FnG P w K mg base CX0 4 f fd P_row (toSp K spRow) := by
  refine fnX F sc_row v_row l_row g_row (fun ds C k h => by obtain ⟨_, _, rfl, _⟩ := h; rfl) fun X hB ds C k h => ?_
  obtain ⟨b, n, rfl, hBag, hn6, h⟩ := h
  obtain ⟨hx, hn, hs, hg, hd, hnox⟩ := hB
  have pw : CPowW 10 9 := ⟨by decide, by decide, Nat.lt_of_lt_of_le (by decide : (10 : Int).natAbs < 2 ^ 10) (Nat.pow_le_pow_right (by decide) (by decide))⟩
  have e9 : (10 : Int) ^ Int.toNat 9 = 1000000000 := by decide
  change WSs X _ [some (.own b), none, none, none] C _
  refine wss_cons ?_
  walk_at "pyA"
  refine ⟨b, n, lacks.map D.str, rfl, hBag, by omega, by decide, by decide, fun d l1 hd1 hB1 => ?_⟩
  obtain ⟨wd, rfl, hw⟩ := strs_of (fun z => As 20 z ∧ z ∈ lacks) hd1 (by decide +kernel)
  walk_at "pyA"
  refine ⟨b, _, rfl, hB1, by omega, fun l2 ln hln hB2 => ?_⟩
  rw [put_put] at hB2 ⊢
  walk_at "pyA"
  refine ⟨b, _, _, rfl, hB2, by omega, by simp, by simp, fun sd l3 hsd hB3 => ?_⟩
  have hsd : (gd false (10 ^ 10) 1 sd = true ∧ sd.wt ≤ 50) ∧ isSh sd = true := by
    simp only [List.mem_cons, List.not_mem_nil, or_false] at hsd
    rcases hsd with rfl | rfl | rfl | rfl
    · exact ⟨⟨rfl, by decide⟩, rfl⟩
    · exact ⟨⟨rfl, by decide⟩, rfl⟩
    · exact ⟨shn_gd hw.1 (.inl rfl), sh_lack hw.2⟩
    · exact ⟨shn_gd hln.1 (.inr rfl), sh_text hln.2⟩
  rw [put_put] at hB3 ⊢
  walk_at "pyA"
  rw [e9]
  refine ⟨b, _, [.int 0, .int 1, .int 2, .int 10, .int 1000000000], rfl, hB3, by omega, by decide, by decide, fun e l4 he hB4 => ?_⟩
  obtain ⟨e, rfl, e1, e0⟩ : ∃ i : Int, e = .int i ∧ i.natAbs < 10 ^ 10 ∧ 0 ≤ i := by
    simp only [List.mem_cons, List.not_mem_nil, or_false] at he
    rcases he with rfl | rfl | rfl | rfl | rfl <;> exact ⟨_, rfl, by decide, by decide⟩
  rw [put_put] at hB4 ⊢
  walk_at "pyA"
  rw [e9]
  refine ⟨b, _, [.int 1, .int 2, .int 9, .int 10, .int 1000000000], rfl, hB4, by omega, by decide, by decide, fun i l5 hi hB5 => ?_⟩
  obtain ⟨i, rfl, i1, i0⟩ : ∃ i' : Int, i = .int i' ∧ i'.natAbs < 10 ^ 10 ∧ 1 ≤ i' := by
    simp only [List.mem_cons, List.not_mem_nil, or_false] at hi
    rcases hi with rfl | rfl | rfl | rfl | rfl <;> exact ⟨_, rfl, by decide, by decide⟩
  rw [put_put] at hB5 ⊢
  walk_at "pyA"
  refine ⟨b, _, rfl, hB5, by omega, fun l6 x hx1 hB6 => ?_⟩
  rw [put_put] at hB6 ⊢
  walk_at "pyA"
  refine ⟨b, _, rfl, hB6, by omega, fun l7 y hy1 hB7 => ?_⟩
  rw [put_put] at hB7 ⊢
  walk_at "pyA"
  refine h l7 _ ⟨?_, gd_tup fun d hd => ?_, ?_⟩ (hB7.mono (by omega))
  · show (isNm (.str x) && isNm (.str y) && isSh sd && (geB (.int e) 0 && geB (.int i) 1)) = true
    rw [hx1.2, hy1.2, hsd.2]
    simp [geB, e0, i0]
  · simp only [List.mem_cons, List.not_mem_nil, or_false] at hd
    rcases hd with rfl | rfl | rfl | rfl | rfl
    · exact gd_str hx1.1.2
    · exact gd_int e1
    · exact gd_int i1
    · exact gd_str hy1.1.2
    · exact hsd.1.1
  · have := hx1.1.1
    have := hy1.1.1
    have := hsd.1.2
    simp only [D.wt, wtL]
    unfold Str.length at *
    omega
end
end K31
namespace K31
/-! texts of some lines -/
theorem joinL_len (S : List Nat) : ∀ ps : List (List Nat), (TL.joinL S ps).length ≤ (ps.map List.length).sum + ps.length * S.length
  | [] => by simp [TL.joinL]
  | [p] => by simp [TL.joinL]
  | p :: q :: r => by
    have ih := joinL_len S (q :: r)
    show (p ++ (S ++ TL.joinL S (q :: r))).length ≤ _
    simp only [List.length_append, List.map_cons, List.sum_cons, List.length_cons, Nat.succ_mul] at ih ⊢
    omega
theorem joinL_mem {S : List Nat} {c : Nat} : ∀ {ps : List (List Nat)}, c ∈ TL.joinL S ps → c ∈ S ∨ ∃ p ∈ ps, c ∈ p
  | [], h => by simp [TL.joinL] at h
  | [p], h => .inr ⟨p, by simp, h⟩
  | p :: q :: r, h => by
    have h : c ∈ p ++ (S ++ TL.joinL S (q :: r)) := h
    rcases List.mem_append.mp h with h | h
    · exact .inr ⟨p, by simp, h⟩
    rcases List.mem_append.mp h with h | h
    · exact .inl h
    rcases joinL_mem h with h | ⟨p', h1, h2⟩
    · exact .inl h
    · exact .inr ⟨p', by simp at h1 ⊢; exact .inr h1, h2⟩
theorem join_tl (y : Str) (zs : List Str) : (Txt.join y zs).cps.toList = TL.joinL y.cps.toList (zs.map fun z => z.cps.toList) := by
  refine (congrArg TL.tl (TL.join_eq y zs)).trans ?_
  rw [TL.tl_join]
theorem sum_le {N : Nat} : ∀ {zs : List Str}, (∀ z ∈ zs, z.length ≤ N) → (zs.map (·.length)).sum ≤ zs.length * N
  | [], _ => by simp
  | z :: zs, h => by
    have := sum_le (zs := zs) fun y hy => h y (List.mem_cons_of_mem _ hy)
    have := h z List.mem_cons_self
    simp only [List.map_cons, List.sum_cons, List.length_cons, Nat.succ_mul]
    omega
abbrev Tx (z : Str) : Prop := As 100 z
theorem feed_tl : ("\n" : Str).cps.toList = [10] := by decide +kernel
theorem tx_join {zs : List Str} (h : ∀ z ∈ zs, Ln z) (h3 : zs.length ≤ 3) : Tx (Txt.join "\n" zs) := by
  refine ⟨?_, fun c hc => ?_⟩
  · rw [str_len, join_tl]
    refine Nat.le_trans (joinL_len _ _) ?_
    rw [List.map_map]
    have e : (zs.map (List.length ∘ fun z => z.cps.toList)) = zs.map (·.length) := List.map_congr_left fun z _ => (str_len z).symm
    rw [e, feed_tl, List.length_map]
    have := sum_le (N := 20) fun z hz => (h z hz).1.1
    simp only [List.length_cons, List.length_nil]
    omega
  · rw [join_tl] at hc
    rcases joinL_mem hc with hc | ⟨p, hp, hc⟩
    · rw [feed_tl] at hc; simp at hc; omega
    · obtain ⟨z, hz, rfl⟩ := List.mem_map.mp hp
      exact (h z hz).1.2 c hc
theorem join_nl {C : CS} {k : KD} {x : D} {zs : List Str} (hs : seqR C x = some (zs.map D.str)) (h : ∀ z ∈ zs, Ln z) (h3 : zs.length ≤ 3) (q : ∀ z, Tx z → k (.str z) C) : dJoin (.str "\n") [x] C k := by
  refine ⟨"\n", x, zs, rfl, rfl, hs, ?_, q _ (tx_join h h3)⟩
  have := sum_le (N := 20) fun z hz => (h z hz).1.1
  have e : ("\n" : Str).length = 1 := by decide +kernel
  rw [e]
  omega
section
variable {P : Program} {w : World} {K : PySem.W.Frag} {mg : Str → Option Value} {base : Heap}
theorem one_of {d : D} {B : Int} {ns : List Int} (h : d ∈ ns.map D.int) (hn : ∀ i ∈ ns, 0 ≤ i ∧ i ≤ B) : ∃ i : Int, d = .int i ∧ i ∈ ns ∧ 0 ≤ i ∧ i ≤ B := by
  obtain ⟨i, hi, rfl⟩ := List.mem_map.mp h
  exact ⟨i, rfl, hi, hn i hi⟩
theorem ok_text {f : Addr} {fd : FuncData} (F : Fun K "_law_text" "_law_text" s_text f fd) (Z : Zs mg) (h1 : FnC P w K mg base "_law_line" 3 (spStr Ln 20)) (h2 : FnC P w K mg base "_law_of" 2 spOf) : FnG P w K mg base CX0 4 f fd P_text (toSp K (spStr Tx 100)) := by
  refine fnX F sc_text v_text l_text g_text (fun ds C k h => by obtain ⟨_, _, rfl, _⟩ := h; rfl) fun X hB ds C k h => ?_
  obtain ⟨b, n, rfl, hBag, hn6, h⟩ := h
  obtain ⟨hx, hn, hs, hg, hd, hnox⟩ := hB
  change WSs X _ [some (.own b), none, none] C _
  refine wss_cons ?_
  refine ws_lc1 (M0 := []) ["_law_bag_here"] ["_law_line"] hd (by walk_at "nm") (by decide +kernel) (by walk_at "nm") (by decide +kernel) (by decide +kernel) (by decide +kernel) (by decide +kernel) ((sww_env hd.sc _ _ _).trans (by rfl)) (x_range1 hx Z (by walk_at "gl") ?_)
  walk_at "pyA"
  refine ⟨b, n, ([1, 1, 1, 2, 3] : List Int).map D.int, rfl, hBag, by omega, by decide, by decide, fun d l1 hd1 hB1 => ?_⟩
  obtain ⟨m, rfl, _, m0, m3⟩ := one_of (B := 3) hd1 (by decide)
  walk_at "pyA"
  refine ⟨m, rfl, by omega, by omega, ?_⟩
  refine ⟨fun j acc C' => ∃ (l : List D) (zs : List Str), C' = DL.put C b (.lst l) ∧ Bag C' b (n + 1 + 20 * j) ∧ acc = zs.map D.str ∧ zs.length = j ∧ ∀ z ∈ zs, Ln z, ⟨l1, [], rfl, hB1, rfl, rfl, fun _ h => by simp at h⟩, fun _ _ _ _ => trivial, ?_, ?_⟩
  · rintro j d acc C2 hj ⟨l3, zs, rfl, hB3, rfl, hcl, hzs⟩ X' hX hn' hg'
    obtain ⟨hj, rfl⟩ := intsFrom_get hj
    refine wif_nil ⟨fun _ X' hX hn' hg' => ?_, fun h => Bool.noConfusion h⟩
    have hx' := hx.blk hX
    walk_at "pyA"
    refine ⟨b, _, rfl, hB3, by omega, fun l4 z hz hB4 => ?_⟩
    rw [put_put] at hB4 ⊢
    refine ⟨by rw [List.length_map]; exact Nat.lt_of_lt_of_le (by omega : zs.length < 100) (by decide), l4, zs ++ [z], rfl, hB4.mono (by omega), by rw [List.map_append]; rfl, by rw [List.length_append, hcl]; rfl, fun x hx => ?_⟩
    rcases List.mem_append.mp hx with hx | hx
    · exact hzs x hx
    · rw [List.mem_singleton.mp hx]; exact hz
  · rintro acc C2 ⟨l3, zs, rfl, hB3, rfl, hcl, hzs⟩ q hq
    rw [intsFrom_length] at hcl hB3
    refine wss_frzI 1 rfl put_same ?_
    rw [del_put hq]
    simp only [List.set_cons_succ, List.set_cons_zero]
    walk_at "pyA"
    refine join_nl (x := .lst (zs.map D.str)) rfl hzs (by omega) fun z hz => ?_
    exact h l3 z hz (hB3.mono (by omega))
end
end K31
namespace K31
/-! rows that are drawn -/
/-- the first item that cannot stand there; prev: a gap stands ahead -/
def badF (prev : Bool) (i : Nat) : List D → Option Nat
  | [] => none
  | d :: ds => if (!isRow d && (!isGap d || prev)) = true then some i else badF (isGap d) (i + 1) ds
def lastG (prev : Bool) : List D → Bool
  | [] => prev
  | d :: ds => lastG (isGap d) ds
theorem badF_app : ∀ (xs ys : List D) (p : Bool) (i : Nat), badF p i (xs ++ ys) = match badF p i xs with
    | some j => some j
    | none => badF (lastG p xs) (i + xs.length) ys
  | [], ys, p, i => by simp [badF, lastG]
  | d :: xs, ys, p, i => by
    have ih := badF_app xs ys (isGap d) (i + 1)
    simp only [List.cons_append, badF, lastG]
    split
    · rfl
    · rw [ih, List.length_cons, show i + 1 + xs.length = i + (xs.length + 1) by omega]
theorem lastG_app : ∀ (xs ys : List D) (p : Bool), lastG p (xs ++ ys) = lastG (lastG p xs) ys
  | [], _, _ => rfl
  | d :: xs, ys, p => lastG_app xs ys (isGap d)
theorem badF_rows : ∀ (xs : List D) (p : Bool) (i : Nat), (∀ d ∈ xs, isRow d = true) → badF p i xs = none
  | [], _, _, _ => rfl
  | d :: xs, p, i, h => by
    have h1 := h d List.mem_cons_self
    simp only [badF, h1, Bool.not_true, Bool.false_and, Bool.false_eq_true, if_false]
    exact badF_rows xs _ _ fun y hy => h y (List.mem_cons_of_mem _ hy)
theorem lastG_last : ∀ (xs : List D) (x : D) (p : Bool) (d : D), (x :: xs)[xs.length]? = some d → lastG p (x :: xs) = isGap d
  | [], x, p, d, h => by simp at h; subst h; rfl
  | y :: ys, x, p, d, h => lastG_last ys y (isGap x) d (by simpa using h)
theorem at_last {xs : List D} {d : D} (h : atI xs (-1) = some d) : ∀ p, lastG p xs = isGap d ∧ d ∈ xs := by
  unfold atI ixN at h
  cases xs with
  | nil => simp at h
  | cons x xs =>
    rw [if_neg (by decide), if_pos (by rw [List.length_cons]; omega)] at h
    have e : (-1 + (((x :: xs).length : Nat) : Int)).toNat = xs.length := by rw [List.length_cons]; omega
    have h : (x :: xs)[(-1 + (((x :: xs).length : Nat) : Int)).toNat]? = some d := h
    rw [e] at h
    exact fun p => ⟨lastG_last xs x p d h, List.mem_of_getElem? h⟩
theorem last_ex {xs : List D} (h : xs ≠ []) : ∃ d, atI xs (-1) = some d := by
  cases xs with
  | nil => exact absurd rfl h
  | cons x xs =>
    unfold atI ixN
    rw [if_neg (by decide), if_pos (by rw [List.length_cons]; omega)]
    have e : (-1 + (((x :: xs).length : Nat) : Int)).toNat = xs.length := by rw [List.length_cons]; omega
    show ∃ d, (x :: xs)[(-1 + (((x :: xs).length : Nat) : Int)).toNat]? = some d
    rw [e]
    exact ⟨_, List.getElem?_eq_getElem (by simp)⟩
def GapG (d : D) : Prop := ∃ i : Int, d = .tup [.str "gap", .int i] ∧ 1 ≤ i ∧ i ≤ 70
theorem GapG.gap {d : D} (h : GapG d) : isGap d = true := by
  obtain ⟨i, rfl, h1, _⟩ := h
  simp [isGap, h1]
theorem RowG.tup {d : D} (h : RowG d) : ∃ f e l g s, d = .tup [f, e, l, g, s] := by
  have := h.row
  unfold isRow at this
  split at this
  · exact ⟨_, _, _, _, _, rfl⟩
  · cases this
theorem RowG.ngap {d : D} (h : RowG d) : isGap d = false := by
  obtain ⟨f, e, l, g, s, rfl⟩ := h.tup
  exact isGap_len (by simp)
/-- rows and gaps that are drawn -/
structure RsG (xs : List D) : Prop where
  it : ∀ d ∈ xs, RowG d ∨ GapG d
  gg : badF false 0 xs = none
theorem GapG.fit {d : D} (h : GapG d) : d.fit 3 = true := by
  obtain ⟨i, rfl, _⟩ := h
  have : PyData.strOk ("gap" : Str) = true := by decide +kernel
  simp [D.fit, fitL, this]
theorem RsG.fit {xs : List D} (h : RsG xs) : ∀ d ∈ xs, d.fit 3 = true := fun d hd => by
  rcases h.it d hd with h | h
  · exact fit_mono _ (gd_fit (by decide) d h.gd).1 (by omega)
  · exact h.fit
theorem eqL_nil {xs : List D} (h : eqL xs [] = true) : xs = [] := List.length_eq_zero_iff.mp (eqL_length h)
theorem RsG.nil : RsG [] := ⟨fun _ h => (by simp at h), rfl⟩
theorem RsG.rows {xs ys : List D} (h : RsG xs) (hy : ∀ d ∈ ys, RowG d) : RsG (xs ++ ys) := by
  refine ⟨fun d hd => ?_, ?_⟩
  · rcases List.mem_append.mp hd with hd | hd
    · exact h.it d hd
    · exact .inl (hy d hd)
  · rw [badF_app, h.gg]
    exact badF_rows _ _ _ fun d hd => (hy d hd).row
theorem RsG.gap {xs : List D} {d : D} (h : RsG xs) (hl : lastG false xs = false) (hd : GapG d) : RsG (xs ++ [d]) := by
  refine ⟨fun y hy => ?_, ?_⟩
  · rcases List.mem_append.mp hy with hy | hy
    · exact h.it y hy
    · rw [List.mem_singleton.mp hy]; exact .inr hd
  · rw [badF_app, h.gg]
    simp [badF, hl, hd.gap]
section
variable {C C' : CS} {b p : Addr} {n : Nat} {xs : List D} {kk : KD}
/-- since C: the bag at b, a new list at p -/
structure Dr (C : CS) (b p : Addr) (n : Nat) (xs : List D) (C' : CS) : Prop where
  fx : Fx [b] C C'
  bag : Bag C' b n
  cell : C' p = some (.lst xs)
  ne : b ≠ p
  hp : C p = none
theorem Dr.start (h : Bag C' b n) (hf : Fx [b] C C') (hp : C' p = none) (hp0 : C p = none) : Dr C b p n xs (DL.put C' p (.lst xs)) :=
  ⟨hf.put (.inr hp0), h.put (h.ne hp), put_same, h.ne hp, hp0⟩
theorem Dr.set {ys : List D} (h : Dr C b p n xs C') : Dr C b p n ys (DL.put C' p (.lst ys)) := ⟨h.fx.put (.inr h.hp), h.bag.put h.ne, put_same, h.ne, h.hp⟩
theorem Dr.mono {m : Nat} (h : Dr C b p n xs C') (hm : n ≤ m) : Dr C b p m xs C' := ⟨h.fx, h.bag.mono hm, h.cell, h.ne, h.hp⟩
theorem Dr.step {m : Nat} {c : Cell} (h : Dr C b p n xs C') (hb : Bag (DL.put C' b c) b m) : Dr C b p m xs (DL.put C' b c) := ⟨h.fx.put (.inl (by simp)), hb, by rw [put_ne h.ne.symm]; exact h.cell, h.ne, h.hp⟩
theorem Dr.fxs {m : Nat} {C2 : CS} (h : Dr C b p n xs C') (hf : Fx [b] C' C2) (hb : Bag C2 b m) : Dr C b p m xs C2 := ⟨h.fx.trans hf, hb, hf.at (by simp [h.ne.symm]) h.cell, h.ne, h.hp⟩
theorem Dr.take {m : Int} (h : Dr C b p n xs C') (hn : n ≤ 1000000) (m1 : 1 ≤ m) (m2 : m < 1000000) (q : ∀ r C2, 0 ≤ r → r < m → Dr C b p (n + 1) xs C2 → kk (.int r) C2) : spTake [.own b, .int m] C' kk :=
  ⟨b, n, m, rfl, h.bag, hn, m1, m2, fun r l r0 r1 hB => q r _ r0 r1 (h.step hB)⟩
theorem Dr.of {ys : List D} (h : Dr C b p n xs C') (hn : n ≤ 1000000) (h1 : 1 ≤ ys.length) (h2 : ys.length < 1000) (q : ∀ d C2, d ∈ ys → Dr C b p (n + 1) xs C2 → kk d C2) : spOf [.own b, .lst ys] C' kk :=
  ⟨b, n, ys, rfl, h.bag, hn, h1, h2, fun d l hd hB => q d _ hd (h.step hB)⟩
theorem Dr.str {R : Str → Prop} {m : Nat} (h : Dr C b p n xs C') (hn : n + m ≤ 1000000) (q : ∀ z C2, R z → Dr C b p (n + m) xs C2 → kk (.str z) C2) : spStr R m [.own b] C' kk :=
  ⟨b, n, rfl, h.bag, hn, fun l z hz hB => q z _ hz (h.step hB)⟩
theorem Dr.row (h : Dr C b p n xs C') (hn : n + 100 ≤ 1000000) (q : ∀ d C2, RowG d → Dr C b p (n + 100) xs C2 → kk d C2) : spRow [.own b] C' kk :=
  ⟨b, n, rfl, h.bag, hn, fun l d hd hB => q d _ hd (h.step hB)⟩
end
section
variable {P : Program} {w : World} {K : PySem.W.Frag} {mg : Str → Option Value} {base : Heap}
def spRows : DSp := fun ds C k => ∃ (b : Addr) (n m : Nat), ds = [.own b, .int (m : Nat)] ∧ Bag C b n ∧ m ≤ 100 ∧ n + 3000 ≤ 1000000 ∧ ∀ xs C', RsG xs → xs.length ≤ m + 24 → Fx [b] C C' → Bag C' b (n + 3000) → k (.tup xs) C'
theorem lt_of {a b : Nat} (h : decide ((a : Int) < (b : Int)) = true) : a < b := by have := of_decide_eq_true h; omega
theorem rep_mem {α : Type} {d : α} {n : Nat} {ys : List α} (h : d ∈ (List.replicate n ys).flatten) : d ∈ ys := by
  obtain ⟨l, hl, hd⟩ := List.mem_flatten.mp h
  rw [(List.mem_replicate.mp hl).2] at hd
  exact hd
theorem ok_rows {f : Addr} {fd : FuncData} (F : Fun K "_law_rows" "_law_rows" s_rows f fd) (Z : Zs mg) (h1 : FnC P w K mg base "_law_take" 1 spTake) (h2 : FnC P w K mg base "_law_of" 2 spOf) (h3 : FnC P w K mg base "_law_row" 4 spRow) : FnG P w K mg base CX0 5 f fd P_rows (toSp K spRows) := by
  refine fnX F sc_rows v_rows l_rows g_rows (fun ds C k h => by obtain ⟨_, _, _, rfl, _⟩ := h; rfl) fun X hB ds C k h => ?_
  obtain ⟨b, n, m, rfl, hBag, hm, hn6, h⟩ := h
  obtain ⟨hx, hn, hs, hg, hd, hnox⟩ := hB
  change WSs X _ [some (.own b), some (.int m), none, none, none, none, none] C _
  refine wss_cons ?_
  walk_at "pyR"
  refine we_nil fun p hp => ?_
  have D0 : Dr C b p n [] (DL.put C p (.lst [])) := Dr.start hBag (Fx.refl C) hp hp
  generalize DL.put C p (.lst []) = C0 at D0 ⊢
  walk_at "pyR"
  refine we_fz (lc1 ["_law_bag_here"] ["_law_row"] hd (by walk_at "nm") (by decide +kernel) (by decide +kernel) (by decide +kernel) (by decide +kernel) (x_range1 hx Z (by walk_at "gl") ?_))
  walk_at "pyR"
  refine ⟨3, rfl, by decide, by decide, ?_⟩
  refine ⟨fun j acc C' => Dr C b p (n + 100 * j) [] C' ∧ acc.length = j ∧ ∀ d ∈ acc, RowG d, ⟨D0, rfl, fun _ h => by simp at h⟩, fun _ _ _ _ => trivial, ?_, ?_⟩
  · rintro j d acc C2 hj ⟨D1, hal, hacc⟩ X' hX hn' hg'
    obtain ⟨hj3, rfl⟩ := intsFrom_get hj
    have hj3 : j < 3 := hj3
    refine wif_nil ⟨fun _ X' hX hn' hg' => ?_, fun h => Bool.noConfusion h⟩
    have hx' := hx.blk hX
    walk_at "pyR"
    refine D1.row (by omega) fun d C3 hd3 D2 => ?_
    refine ⟨Nat.lt_of_lt_of_le (by omega : acc.length < 100) (by decide), D2.mono (by omega), by rw [List.length_append, hal]; rfl, fun x hx => ?_⟩
    rcases List.mem_append.mp hx with hx | hx
    · exact hacc x hx
    · rw [List.mem_singleton.mp hx]; exact hd3
  · rintro some C2 ⟨D1, hsl, hsome⟩ q hq
    have hsl : some.length = 3 := hsl
    have D1 : Dr C b p (n + 300) [] C2 := D1
    refine frz_ok hq ?_
    clear D0 hp
    walk_at "pyR"
    refine x_while hnox (fun mm env C' => ∃ (xs : List D) (o1 o2 : Option D), Dr C b p (n + 300 + 20 * xs.length) xs C' ∧ env = [Option.some (.own b), Option.some (.int m), Option.some (.own p), Option.some (.lst some), o1, o2, none] ∧ mm = m + 24 - xs.length ∧ xs.length ≤ m + 24 ∧ RsG xs)
      ⟨_, [], none, none, D1, rfl, rfl, by simp, RsG.nil⟩ ?_
    rintro mm env C1 ⟨xs, o1, o2, D2, rfl, rfl, hxl, hxs⟩
    have hc := D2.cell
    walk_at "pyR"
    · rename_i hlt
      have hlt := lt_of hlt
      refine D2.take (by omega) (by omega) (by omega) fun r C3 r0 r1 D3 => ?_
      have hc3 := D3.cell
      walk_at "pyR"
      · refine D3.take (by omega) (by omega) (by omega) fun r2 C4 r20 r21 D4 => ?_
        have hc4 := D4.cell
        have hgap : ∀ {C5 : CS} {i : Int} {nn : Nat}, Dr C b p nn xs C5 → nn ≤ n + 300 + 20 * xs.length + 20 → lastG false xs = false → 1 ≤ i → i ≤ 70 → ∃ xs' : List D, xs' = xs ++ [.tup [.str "gap", .int i]] ∧ Dr C b p (n + 300 + 20 * xs'.length) xs' (DL.put C5 p (.lst xs')) ∧ RsG xs' ∧ xs'.length ≤ m + 24 ∧ m + 24 - xs'.length < m + 24 - xs.length := fun {C5 i nn} D5 hn5 hl i1 i2 =>
          ⟨_, rfl, (D5.set).mono (by rw [List.length_append, List.length_singleton]; omega), hxs.gap hl ⟨i, rfl, i1, i2⟩, by rw [List.length_append, List.length_singleton]; omega, by rw [List.length_append, List.length_singleton]; omega⟩
        have hrow : ∀ {C5 : CS} {ys : List D} {nn : Nat}, Dr C b p nn xs C5 → nn ≤ n + 300 + 20 * xs.length + 20 → ys ≠ [] → ys.length ≤ 24 → (∀ d ∈ ys, RowG d) → ∃ xs' : List D, xs' = xs ++ ys ∧ Dr C b p (n + 300 + 20 * xs'.length) xs' (DL.put C5 p (.lst xs')) ∧ RsG xs' ∧ xs'.length ≤ m + 24 ∧ m + 24 - xs'.length < m + 24 - xs.length := fun {C5 ys nn} D5 hn5 hy hl hr => by
          have h1 : 1 ≤ ys.length := by cases ys with
            | nil => exact absurd rfl hy
            | cons _ _ => simp
          exact ⟨_, rfl, (D5.set).mono (by rw [List.length_append]; omega), hxs.rows hr, by rw [List.length_append]; omega, by rw [List.length_append]; omega⟩
        walk_at "pyA"
        · refine eq_ol hc4 hxs.fit (fun d hd => by simp at hd) (by decide) (by decide) (m := 0) ?_
          walk_at "pyA"
          · rename_i hq
            have HL : lastG false xs = false := by rw [eqL_nil hq]; rfl
            refine D4.of (ys := [.int 1, .int 2, .int 3, .int 70]) (by omega) (by decide) (by decide) fun d5 C5 hd5 D5 => ?_
            obtain ⟨i, rfl, i1, i2⟩ : ∃ i : Int, d5 = .int i ∧ 1 ≤ i ∧ i ≤ 70 := by
              simp only [List.mem_cons, List.not_mem_nil, or_false] at hd5
              rcases hd5 with rfl | rfl | rfl | rfl <;> exact ⟨_, rfl, by decide, by decide⟩
            walk_at "pyA"
            refine app_ok D5.cell (Nat.lt_of_lt_of_le (by omega : xs.length < 1000) (by decide)) ?_
            obtain ⟨xs', e, g1, g2, g3, g4⟩ := hgap D5 (by omega) HL i1 i2
            rw [← e]
            walk_at "pyA"
            exact ⟨_, g4, xs', Option.some (.int r2), o2, g1, rfl, rfl, g3, g2⟩
          · rename_i h0 hq
            have hne : xs ≠ [] := fun e => by rw [e] at hq; exact absurd hq (by decide)
            obtain ⟨dl, hdl⟩ := last_ex hne
            obtain ⟨HL0, hmem⟩ := at_last hdl false
            refine ix_o hc4 hdl ?_
            rcases hxs.it dl hmem with hr | hr
            · have HL : lastG false xs = false := by rw [HL0]; exact hr.ngap
              obtain ⟨f1, f2, f3, f4, f5, rfl⟩ := hr.tup
              walk_at "pyA"
              all_goals try walk_at "bad"
              all_goals try (exfalso; rename_i q1; exact absurd q1 (by decide))
              refine D4.of (ys := [.int 1, .int 2, .int 3, .int 70]) (by omega) (by decide) (by decide) fun d5 C5 hd5 D5 => ?_
              obtain ⟨i, rfl, i1, i2⟩ : ∃ i : Int, d5 = .int i ∧ 1 ≤ i ∧ i ≤ 70 := by
                simp only [List.mem_cons, List.not_mem_nil, or_false] at hd5
                rcases hd5 with rfl | rfl | rfl | rfl <;> exact ⟨_, rfl, by decide, by decide⟩
              walk_at "pyA"
              refine app_ok D5.cell (Nat.lt_of_lt_of_le (by omega : xs.length < 1000) (by decide)) ?_
              obtain ⟨xs', e, g1, g2, g3, g4⟩ := hgap D5 (by omega) HL i1 i2
              rw [← e]
              walk_at "pyA"
              exact ⟨_, g4, xs', Option.some (.int r2), o2, g1, rfl, rfl, g3, g2⟩
            · obtain ⟨i, rfl, _⟩ := hr
              walk_at "pyA"
              · rename_i q1; simp at q1
              · rename_i q1 q2
                have := eq_of_beq h0
                have := eq_of_beq q2
                omega
              · refine D4.of (by omega) (by omega) (by omega) fun d5 C5 hd5 D5 => ?_
                refine app_ok D5.cell (Nat.lt_of_lt_of_le (by omega : xs.length < 1000) (by decide)) ?_
                obtain ⟨xs', e, g1, g2, g3, g4⟩ := hrow (ys := [d5]) D5 (by omega) (by simp) (by simp) (fun y hy => by rw [List.mem_singleton.mp hy]; exact hsome d5 hd5)
                rw [← e]
                walk_at "pyA"
                exact ⟨_, g4, xs', Option.some (.int r2), o2, g1, rfl, rfl, g3, g2⟩
        · refine ws_lc1 (M0 := []) ["_law_bag_here", "_law_some"] ["_law_of"] hd (by walk_at "nm") (by decide +kernel) (by walk_at "nm") (by decide +kernel) (by decide +kernel) (by decide +kernel) (by decide +kernel) ((sww_env hd.sc _ _ _).trans (by rfl)) (x_range1 hx Z (by walk_at "gl") ?_)
          walk_at "pyA"
          refine D4.take (by omega) (by omega) (by omega) fun r3 C5 r30 r31 D5 => ?_
          walk_at "pyA"
          refine ⟨1 + r3, rfl, by omega, by omega, ?_⟩
          refine ⟨fun j acc C' => Dr C b p (n + 300 + 20 * xs.length + 3 + j) xs C' ∧ acc.length = j ∧ ∀ d ∈ acc, RowG d, ⟨D5, rfl, fun _ h => by simp at h⟩, fun _ _ _ _ => trivial, ?_, ?_⟩
          · rintro j d acc C2' hj ⟨D6, hal, hacc⟩ X' hX hn' hg'
            obtain ⟨hj4, rfl⟩ := intsFrom_get hj
            refine wif_nil ⟨fun _ X' hX hn' hg' => ?_, fun h => Bool.noConfusion h⟩
            have hx' := hx.blk hX
            walk_at "pyA"
            refine D6.of (by omega) (by omega) (by omega) fun d5 C7 hd5 D7 => ?_
            refine ⟨Nat.lt_of_lt_of_le (by omega : acc.length < 100) (by decide), D7, by rw [List.length_append, hal]; rfl, fun x hx => ?_⟩
            rcases List.mem_append.mp hx with hx | hx
            · exact hacc x hx
            · rw [List.mem_singleton.mp hx]; exact hsome d5 hd5
          · rintro block C6 ⟨D6, hbl, hblk⟩ q hq
            rw [intsFrom_length] at D6 hbl
            refine wss_frzI 5 rfl put_same ?_
            rw [del_put hq]
            simp only [List.set_cons_succ, List.set_cons_zero]
            have hc6 := D6.cell
            walk_at "pyA"
            refine D6.take (by omega) (by omega) (by omega) fun r4 C7 r40 r41 D7 => ?_
            walk_at "pyA"
            refine mulA_li ⟨by omega, by omega, by omega⟩ ?_
            walk_at "pyA"
            have hlen : ((List.replicate (2 + r4).toNat block).flatten).length = (2 + r4).toNat * block.length := rep_len _ _
            have hle : (2 + r4).toNat * block.length ≤ 6 * 4 := Nat.mul_le_mul (by omega) (by omega)
            have hge : 2 * 1 ≤ (2 + r4).toNat * block.length := Nat.mul_le_mul (by omega) (by omega)
            obtain ⟨xs', e, g1, g2, g3, g4⟩ := hrow (ys := (List.replicate (2 + r4).toNat block).flatten) D7 (by omega) (fun e => by rw [e] at hlen; simp at hlen; omega) (by omega) (fun y hy => hblk y (rep_mem hy))
            refine ⟨p, xs, _, (List.replicate (2 + r4).toNat block).flatten, rfl, rfl, D7.cell, rfl, Nat.le_trans (by omega : _ ≤ 1000) (by decide), ?_⟩
            rw [← e]
            walk_at "pyA"
            exact ⟨_, g4, xs', Option.some (.int r2), Option.some (.lst block), g1, rfl, rfl, g3, g2⟩
        · refine D4.of (by omega) (by omega) (by omega) fun d5 C5 hd5 D5 => ?_
          refine app_ok D5.cell (Nat.lt_of_lt_of_le (by omega : xs.length < 1000) (by decide)) ?_
          obtain ⟨xs', e, g1, g2, g3, g4⟩ := hrow (ys := [d5]) D5 (by omega) (by simp) (by simp) (fun y hy => by rw [List.mem_singleton.mp hy]; exact hsome d5 hd5)
          rw [← e]
          walk_at "pyA"
          exact ⟨_, g4, xs', Option.some (.int r2), o2, g1, rfl, rfl, g3, g2⟩
      · exact tup_o hc3 (h xs C3 hxs hxl D3.fx (D3.bag.mono (by omega)))
    · exact tup_o hc (h xs C1 hxs hxl D2.fx (D2.bag.mono (by omega)))
end
end K31
namespace K31
/-! entries as data -/
inductive Mem where
  | non
  | deep (n : Int)
  | some (ns : List Nat) (more : Option Int)
structure Ent where
  kind : Str
  msg : Str
  notes : List Str
  rows : List D
  mem : Mem
  link : Option (Str × Option Nat)
def intsD (ns : List Nat) : List D := ns.map fun (x : Nat) => D.int x
def memD : Mem → D
  | .non => .non
  | .deep n => .tup [.tup [.str "deep", .int n]]
  | .some ns none => .tup (intsD ns)
  | .some ns (some k) => .tup (intsD ns ++ [.tup [.str "more", .int k]])
def lnkD : Option (Str × Option Nat) → D
  | none => .non
  | some (w, none) => .tup [.str w, .non]
  | some (w, some x) => .tup [.str w, .int (x : Nat)]
def entD (e : Ent) : D := .tup [.str e.kind, .str e.msg, .tup (e.notes.map D.str), .tup e.rows, memD e.mem, lnkD e.link]
def Mem.nums : Mem → List Nat
  | .some ns _ => ns
  | _ => []
def lnkN : Option (Str × Option Nat) → Option Nat
  | some (_, o) => o
  | none => none
def MemG : Mem → Prop
  | .non => True
  | .deep n => 1 ≤ n ∧ n ≤ 30
  | .some ns mo => ns ≠ [] ∧ ns.length ≤ 3 ∧ ∀ k, mo = Option.some k → 1 ≤ k ∧ k ≤ 30
def LnkG (o : Option (Str × Option Nat)) : Prop := ∀ w x, o = some (w, x) → w = "cause" ∨ w = "context"
/-- entries that are drawn -/
structure EntG (e : Ent) : Prop where
  kind : Nm e.kind
  msg : Tx e.msg
  notes : ∀ z ∈ e.notes, Tx z
  nl : e.notes.length ≤ 2
  rows : RsG e.rows
  rl : e.rows.length ≤ 29
  mem : MemG e.mem
  link : LnkG e.link
/-! numbers in the order in which entries are met -/
def LeadR (B : Nat → List Ent → Prop) (n x : Nat) (seg : List Ent) : Prop := (x < n ∧ seg = []) ∨ (x = n ∧ B n seg)
def LeadsR (B : Nat → List Ent → Prop) : Nat → List Nat → List Ent → Prop
  | _, [], seg => seg = []
  | n, x :: xs, seg => ∃ s1 s2, seg = s1 ++ s2 ∧ LeadR B n x s1 ∧ LeadsR B (n + s1.length) xs s2
def LnkR (B : Nat → List Ent → Prop) (n : Nat) : Option Nat → List Ent → Prop
  | none, seg => seg = []
  | some x, seg => LeadR B n x seg
/-- the entries seg are just those that are met from the n-th on, for the first time -/
def Bld : Nat → Nat → List Ent → Prop
  | 0, _, _ => False
  | d + 1, n, seg => ∃ e s1 s2, seg = e :: (s1 ++ s2) ∧ LeadsR (Bld d) (n + 1) e.mem.nums s1 ∧ LnkR (Bld d) (n + 1 + s1.length) (lnkN e.link) s2
theorem leads_app {B : Nat → List Ent → Prop} {x : Nat} {s2 : List Ent} : ∀ {xs : List Nat} {n : Nat} {s1 : List Ent}, LeadsR B n xs s1 → LeadR B (n + s1.length) x s2 → LeadsR B n (xs ++ [x]) (s1 ++ s2)
  | [], n, s1, h, h2 => by
    obtain rfl : s1 = [] := h
    exact ⟨s2, [], by simp, by simpa using h2, rfl⟩
  | y :: xs, n, s1, h, h2 => by
    obtain ⟨t1, t2, rfl, h3, h4⟩ := h
    refine ⟨t1, t2 ++ s2, by simp, h3, leads_app h4 ?_⟩
    rw [List.length_append] at h2
    rwa [Nat.add_assoc]
section
variable {C C' : CS} {b p : Addr} {n : Nat} {xs : List D} {kk : KD}
/-- since C: the bag at b, the entries at f -/
structure Bf (C : CS) (b f : Addr) (n : Nat) (L : List D) (C' : CS) : Prop where
  fx : Fx [b, f] C C'
  bag : Bag C' b n
  cell : C' f = some (.lst L)
  ne : b ≠ f
variable {f : Addr} {L : List D}
theorem Bf.mono {m : Nat} (h : Bf C b f n L C') (hm : n ≤ m) : Bf C b f m L C' := ⟨h.fx, h.bag.mono hm, h.cell, h.ne⟩
theorem Bf.set {L' : List D} (h : Bf C b f n L C') : Bf C b f n L' (DL.put C' f (.lst L')) := ⟨h.fx.put (.inl (by simp)), h.bag.put h.ne, put_same, h.ne⟩
theorem Bf.step {m : Nat} {c : Cell} (h : Bf C b f n L C') (hb : Bag (DL.put C' b c) b m) : Bf C b f m L (DL.put C' b c) := ⟨h.fx.put (.inl (by simp)), hb, by rw [put_ne h.ne.symm]; exact h.cell, h.ne⟩
theorem Bf.fxs {m : Nat} {C2 : CS} (h : Bf C b f n L C') (hf : Fx [b] C' C2) (hb : Bag C2 b m) : Bf C b f m L C2 := ⟨h.fx.trans (hf.mono fun q hq => by simp at hq ⊢; exact .inl hq), hb, hf.at (by simp [h.ne.symm]) h.cell, h.ne⟩
theorem Bf.trans {m : Nat} {L' : List D} {C2 : CS} (h : Bf C b f n L C') (h2 : Bf C' b f m L' C2) : Bf C b f m L' C2 := ⟨h.fx.trans h2.fx, h2.bag, h2.cell, h.ne⟩
theorem Bf.nw {c : Cell} {q : Addr} (h : Bf C b f n L C') (hq : C' q = none) : Bf C' b f n L (DL.put C' q c) := ⟨(Fx.refl C').put (.inr hq), h.bag.put (h.bag.ne hq), by rw [put_ne (cell_ne h.cell hq)]; exact h.cell, h.ne⟩
theorem Bf.none {q : Addr} (h : Bf C b f n L C') (hq : C' q = none) : C q = none := by
  cases e : C q with
  | none => rfl
  | some c =>
    by_cases hm : q ∈ [b, f]
    · simp only [List.mem_cons, List.not_mem_nil, or_false] at hm
      rcases hm with rfl | rfl
      · obtain ⟨l, hl⟩ := h.bag.some
        rw [hq] at hl; cases hl
      · have := h.cell
        rw [hq] at this; cases this
    · have := h.fx q hm (by rw [e]; simp)
      rw [hq, e] at this; cases this
theorem Bf.putN {c : Cell} {q : Addr} (h : Bf C b f n L C') (hq : C q = Option.none) (hb : b ≠ q) (hf : f ≠ q) : Bf C b f n L (DL.put C' q c) := ⟨h.fx.put (.inr hq), h.bag.put hb, by rw [put_ne hf]; exact h.cell, h.ne⟩
theorem Bf.self (hb : Bag C b n) (hc : C f = some (.lst L)) (hne : b ≠ f) : Bf C b f n L C := ⟨Fx.refl C, hb, hc, hne⟩
theorem Bf.take {m : Int} (h : Bf C b f n L C') (hn : n ≤ 1000000) (m1 : 1 ≤ m) (m2 : m < 1000000) (q : ∀ r C2, 0 ≤ r → r < m → Fx [b] C' C2 → Bf C b f (n + 1) L C2 → kk (.int r) C2) : spTake [.own b, .int m] C' kk :=
  ⟨b, n, m, rfl, h.bag, hn, m1, m2, fun r l r0 r1 hB => q r _ r0 r1 Fx.put1 (h.step hB)⟩
theorem Bf.of {ys : List D} (h : Bf C b f n L C') (hn : n ≤ 1000000) (h1 : 1 ≤ ys.length) (h2 : ys.length < 1000) (q : ∀ d C2, d ∈ ys → Fx [b] C' C2 → Bf C b f (n + 1) L C2 → kk d C2) : spOf [.own b, .lst ys] C' kk :=
  ⟨b, n, ys, rfl, h.bag, hn, h1, h2, fun d l hd hB => q d _ hd Fx.put1 (h.step hB)⟩
theorem Bf.str {R : Str → Prop} {m : Nat} (h : Bf C b f n L C') (hn : n + m ≤ 1000000) (q : ∀ z C2, R z → Fx [b] C' C2 → Bf C b f (n + m) L C2 → kk (.str z) C2) : spStr R m [.own b] C' kk :=
  ⟨b, n, rfl, h.bag, hn, fun l z hz hB => q z _ hz Fx.put1 (h.step hB)⟩
theorem Bf.rows {m : Nat} (h : Bf C b f n L C') (hm : m ≤ 100) (hn : n + 3000 ≤ 1000000) (q : ∀ xs C2, RsG xs → xs.length ≤ m + 24 → Fx [b] C' C2 → Bf C b f (n + 3000) L C2 → kk (.tup xs) C2) : spRows [.own b, .int (m : Nat)] C' kk :=
  ⟨b, n, m, rfl, h.bag, hm, hn, fun xs C2 h1 h2 h3 h4 => q xs C2 h1 h2 h3 (h.fxs h3 h4)⟩
end
/-! ### the drawing of entries -/
structure Seg (d most : Nat) (b f : Addr) (n : Nat) (L : List D) (C C' : CS) (seg : List Ent) : Prop where
  bf : Bf C b f (n + 6000 * seg.length) (L ++ seg.map entD) C'
  ent : ∀ e ∈ seg, EntG e
  len : L.length + seg.length ≤ most
/-- what the drawing takes -/
structure In (B d most : Nat) (b f : Addr) (n : Nat) (L : List D) (C : CS) : Prop where
  bag : Bag C b n
  cell : C f = some (.lst L)
  ne : b ≠ f
  ml : most ≤ L.length + d
  m20 : most ≤ 20
  lm : L.length ≤ most
  nn : n + 6000 * (most - L.length) ≤ B
def spBuild (d : Nat) : DSp := fun ds C k => ∃ (b f : Addr) (n most : Nat) (L : List D), ds = [.own b, .own f, .int (most : Nat)] ∧ In 900000 d most b f n L C ∧ L.length < most ∧
  ∀ C' seg, Seg d most b f n L C C' seg → Bld d L.length seg → k (.int (L.length : Nat)) C'
def spLead (d : Nat) : DSp := fun ds C k => ∃ (b f : Addr) (n most : Nat) (L : List D), ds = [.own b, .own f, .int (most : Nat)] ∧ In 899000 d most b f n L C ∧ L ≠ [] ∧
  ∀ C' seg x, Seg d most b f (n + 2) L C C' seg → LeadR (Bld d) L.length x seg → k (.int (x : Nat)) C'
def spMembers (d : Nat) : DSp := fun ds C k => ∃ (b f : Addr) (n most : Nat) (L : List D), ds = [.own b, .own f, .int (most : Nat)] ∧ In 898000 d most b f n L C ∧ L ≠ [] ∧
  ∀ C' seg m, Seg d most b f (n + 20) L C C' seg → LeadsR (Bld d) L.length m.nums seg → MemG m → m.nums.length ≤ 3 → k (memD m) C'
section
variable {P : Program} {w : World} {K : PySem.W.Frag} {mg : Str → Option Value} {base : Heap}
theorem fnG_no {f : Addr} {fd : FuncData} {ps : List Str} {n : Nat} {S : DSp} (h : ∀ ds C k, ¬ S ds C k) : FnG P w K mg base CX0 n f fd ps (toSp K S) :=
  ⟨fun _ _ _ _ ⟨_, _, _, _, _, _, z, _⟩ => (h _ _ _ z).elim, fun _ _ _ _ _ ⟨_, _, _, _, _, _, z, _⟩ => (h _ _ _ z).elim⟩
theorem ok_build0 {f : Addr} {fd : FuncData} {ps : List Str} {n : Nat} : FnG P w K mg base CX0 n f fd ps (toSp K (spBuild 0)) := fnG_no fun ds C k h => by
  obtain ⟨_, _, _, _, _, _, hI, hl, _⟩ := h
  have := hI.ml
  omega
theorem ok_lead {f : Addr} {fd : FuncData} (d : Nat) (F : Fun K "_law_lead" "_law_lead" s_lead f fd) (Z : Zs mg) (h1 : FnC P w K mg base "_law_take" 1 spTake) (h2 : FnC P w K mg base "_law_build" (3 * d + 5) (spBuild d)) : FnG P w K mg base CX0 (3 * d + 6) f fd P_lead (toSp K (spLead d)) := by
  refine fnX F sc_lead v_lead l_lead g_lead (fun ds C k h => by obtain ⟨_, _, _, _, _, rfl, _⟩ := h; rfl) fun X hB ds C k h => ?_
  obtain ⟨b, f', n, most, L, rfl, hI, hL, h⟩ := h
  obtain ⟨hx, hn, hs, hg, hd, hnox⟩ := hB
  obtain ⟨hBag, hc, hbf, hml, hm20, hlm, hnn⟩ := hI
  change WSs X _ [some (.own b), some (.own f'), some (.int most)] C _
  have B0 := Bf.self hBag hc hbf
  have hL1 : 1 ≤ L.length := by cases L with
    | nil => exact absurd rfl hL
    | cons _ _ => simp
  refine wss_cons ?_
  walk_at "pyR"
  · rename_i hlt
    have hlt := lt_of hlt
    refine B0.take (by omega) (by omega) (by omega) fun r C1 r0 r1 f1 B1 => ?_
    walk_at "pyR"
    · refine ⟨b, f', n + 1, most, L, rfl, ⟨B1.bag, B1.cell, hbf, hml, hm20, hlm, ?_⟩, hlt, fun C2 seg hS hB => ?_⟩
      · omega
      · refine h C2 seg L.length ⟨(B1.trans hS.bf).mono (by omega), hS.ent, hS.len⟩ (.inr ⟨rfl, hB⟩)
    · have hc1 := B1.cell
      walk_at "pyR"
      refine B1.take (by omega) (by omega) (by omega) fun r' C2 r0' r1' f2 B2 => ?_
      obtain ⟨x, rfl⟩ := Int.eq_ofNat_of_zero_le r0'
      refine h C2 [] x ⟨?_, fun _ h => by simp at h, by simpa using hlm⟩ (.inl ⟨by omega, rfl⟩)
      simpa using B2.mono (by omega)
  · refine B0.take (by omega) (by omega) (by omega) fun r' C2 r0' r1' f2 B2 => ?_
    obtain ⟨x, rfl⟩ := Int.eq_ofNat_of_zero_le r0'
    refine h C2 [] x ⟨?_, fun _ h => by simp at h, by simpa using hlm⟩ (.inl ⟨by omega, rfl⟩)
    simpa using B2.mono (by omega)
theorem seg_nil {d most : Nat} {b f : Addr} {n : Nat} {L : List D} {C C' : CS} (h : Bf C b f n L C') (hl : L.length ≤ most) : Seg d most b f n L C C' [] := ⟨by simpa using h, fun _ h => by simp at h, by simpa using hl⟩
theorem Seg.app {d most : Nat} {b f : Addr} {n m : Nat} {L : List D} {C C1 C2 : CS} {s1 s2 : List Ent} (h : Seg d most b f n L C C1 s1) (h2 : Seg d most b f (m + 6000 * s1.length) (L ++ s1.map entD) C1 C2 s2) (hm : n ≤ m) : Seg d most b f m L C C2 (s1 ++ s2) := by
  refine ⟨(h.bf.trans ?_), fun e he => ?_, ?_⟩
  · have := h2.bf
    rw [List.append_assoc, ← List.map_append] at this
    refine this.mono ?_
    rw [List.length_append]; omega
  · rcases List.mem_append.mp he with he | he
    · exact h.ent e he
    · exact h2.ent e he
  · have := h2.len
    rw [List.length_append, List.length_map] at this
    rw [List.length_append]; omega
theorem ok_members {f : Addr} {fd : FuncData} (d : Nat) (F : Fun K "_law_members" "_law_members" s_members f fd) (Z : Zs mg) (h1 : FnC P w K mg base "_law_take" 1 spTake) (h2 : FnC P w K mg base "_law_of" 2 spOf) (h3 : FnC P w K mg base "_law_lead" (3 * d + 6) (spLead d)) : FnG P w K mg base CX0 (3 * d + 7) f fd P_members (toSp K (spMembers d)) := by
  refine fnX F sc_members v_members l_members g_members (fun ds C k h => by obtain ⟨_, _, _, _, _, rfl, _⟩ := h; rfl) fun X hB ds C k h => ?_
  obtain ⟨b, f', n, most, L, rfl, hI, hL, h⟩ := h
  obtain ⟨hx, hn, hs, hg, hd, hnox⟩ := hB
  obtain ⟨hBag, hc, hbf, hml, hm20, hlm, hnn⟩ := hI
  change WSs X _ [some (.own b), some (.own f'), some (.int most), none, none] C _
  have B0 := Bf.self hBag hc hbf
  refine wss_cons ?_
  walk_at "pyA"
  refine B0.take (by omega) (by omega) (by omega) fun r C1 r0 r1 f1 B1 => ?_
  walk_at "pyA"
  · refine B1.of (ys := [.int 1, .int 2, .int 30]) (by omega) (by decide) (by decide) fun d2 C2 hd2 f2 B2 => ?_
    obtain ⟨i, rfl, i1, i2⟩ : ∃ i : Int, d2 = .int i ∧ 1 ≤ i ∧ i ≤ 30 := by
      simp only [List.mem_cons, List.not_mem_nil, or_false] at hd2
      rcases hd2 with rfl | rfl | rfl <;> exact ⟨_, rfl, by decide, by decide⟩
    walk_at "pyA"
    exact h C2 [] (.deep i) (seg_nil (B2.mono (by omega)) hlm) rfl ⟨i1, i2⟩ (by simp [Mem.nums])
  · refine ws_lc1 (M0 := []) ["_law_bag_here", "_law_found", "_law_most"] ["_law_lead"] hd (by walk_at "nm") (by decide +kernel) (by walk_at "nm") (by decide +kernel) (by decide +kernel) (by decide +kernel) (by decide +kernel) ((sww_env hd.sc _ _ _).trans (by rfl)) (x_range1 hx Z (by walk_at "gl") ?_)
    walk_at "pyA"
    refine B1.take (by omega) (by omega) (by omega) fun r3 C2 r30 r31 f2 B2 => ?_
    walk_at "pyA"
    refine ⟨1 + r3, rfl, by omega, by omega, ?_⟩
    refine ⟨fun j acc C' => ∃ (ns : List Nat) (seg : List Ent), acc = intsD ns ∧ ns.length = j ∧ Seg d most b f' (n + 2 + 2 * j) L C C' seg ∧ LeadsR (Bld d) L.length ns seg, ⟨[], [], rfl, rfl, seg_nil B2 hlm, rfl⟩, fun _ _ _ _ => trivial, ?_, ?_⟩
    · rintro j dd acc C3 hj ⟨ns, seg, rfl, hnl, hS, hR⟩ X' hX hn' hg'
      obtain ⟨hj4, rfl⟩ := intsFrom_get hj
      refine wif_nil ⟨fun _ X' hX hn' hg' => ?_, fun h => Bool.noConfusion h⟩
      have hx' := hx.blk hX
      walk_at "pyA"
      have hsl := hS.len
      refine ⟨b, f', _, most, _, rfl, ⟨hS.bf.bag, hS.bf.cell, hbf, ?_, hm20, ?_, ?_⟩, by simp [hL], fun C4 seg2 x hS2 hR2 => ?_⟩
      · rw [List.length_append, List.length_map]; omega
      · rw [List.length_append, List.length_map]; omega
      · rw [List.length_append, List.length_map]; omega
      · refine ⟨?_, ns ++ [x], seg ++ seg2, by simp [intsD], by rw [List.length_append, hnl]; rfl, ?_, ?_⟩
        · rw [show (intsD ns).length = ns.length from List.length_map ..]
          exact Nat.lt_of_lt_of_le (by omega : ns.length < 100) (by decide)
        · refine hS.app ?_ (by omega)
          rw [show n + 2 + 2 * (j + 1) + 6000 * seg.length = n + 2 + 2 * j + 6000 * seg.length + 2 by omega]
          exact hS2
        · rw [List.length_append, List.length_map] at hR2
          exact leads_app hR hR2
    · rintro acc C3 ⟨ns, seg, rfl, hnl, hS, hR⟩ q hq
      rw [intsFrom_length] at hnl hS
      have hq0 := hS.bf.none hq
      have hbq : b ≠ q := hS.bf.bag.ne hq
      have hfq : f' ≠ q := cell_ne hS.bf.cell hq
      have hnn3 : ns.length ≤ 3 := by omega
      have hn1 : ns ≠ [] := fun e => by rw [e] at hnl; simp at hnl; omega
      have hsl := hS.len
      have B3 := hS.bf.putN (c := .lst (intsD ns)) hq0 hbq hfq
      have hcq : (DL.put C3 q (.lst (intsD ns))) q = some (.lst (intsD ns)) := put_same
      generalize DL.put C3 q (.lst (intsD ns)) = C4 at B3 hcq ⊢
      show WSs X _ _ _ _
      walk_at "pyA"
      refine B3.take (by omega) (by omega) (by omega) fun r5 C5 r50 r51 f5 B5 => ?_
      have hq5 : C5 q = some (.lst (intsD ns)) := f5.at (by simp [hbq.symm]) hcq
      walk_at "pyA"
      · refine B5.of (ys := [.int 1, .int 2, .int 30]) (by omega) (by decide) (by decide) fun d6 C6 hd6 f6 B6 => ?_
        obtain ⟨i, rfl, i1, i2⟩ : ∃ i : Int, d6 = .int i ∧ 1 ≤ i ∧ i ≤ 30 := by
          simp only [List.mem_cons, List.not_mem_nil, or_false] at hd6
          rcases hd6 with rfl | rfl | rfl <;> exact ⟨_, rfl, by decide, by decide⟩
        have hq6 : C6 q = some (.lst (intsD ns)) := f6.at (by simp [hbq.symm]) hq5
        walk_at "pyA"
        refine app_ok hq6 (by rw [show (intsD ns).length = ns.length from List.length_map ..]; exact Nat.lt_of_lt_of_le (by omega : ns.length < 100) (by decide)) ?_
        walk_at "pyA"
        refine tup_o put_same ?_
        refine h _ seg (.some ns (some i)) ⟨(B6.putN hq0 hbq hfq).mono (by omega), hS.ent, hS.len⟩ hR ⟨hn1, hnn3, fun k hk => by cases hk; exact ⟨i1, i2⟩⟩ hnn3
      · refine tup_o hq5 ?_
        exact h _ seg (.some ns none) ⟨B5.mono (by omega), hS.ent, hS.len⟩ hR ⟨hn1, hnn3, fun k hk => by cases hk⟩ hnn3
end
end K31
namespace K31
section
variable {P : Program} {w : World} {K : PySem.W.Frag} {mg : Str → Option Value} {base : Heap}
theorem set_mid {α : Type} (L : List α) (x y : α) (R : List α) : (L ++ [x] ++ R).set L.length y = L ++ y :: R := by
  rw [List.append_assoc, List.set_append_right _ _ (Nat.le_refl _), Nat.sub_self]
  rfl
theorem ix_len {α : Type} (L : List α) (x : α) (R : List α := []) : ixN (L ++ [x] ++ R).length (L.length : Nat) = some L.length := by
  unfold ixN
  rw [if_pos (by omega), if_pos (by simp; omega)]
  simp
theorem ok_build {f : Addr} {fd : FuncData} (d : Nat) (F : Fun K "_law_build" "_law_build" s_build f fd) (Z : Zs mg) (h1 : FnC P w K mg base "_law_take" 1 spTake) (h2 : FnC P w K mg base "_law_of" 2 spOf) (h3 : FnC P w K mg base "_law_name" 3 (spStr Nm 20)) (h4 : FnC P w K mg base "_law_text" 4 (spStr Tx 100))
    (h5 : FnC P w K mg base "_law_rows" 5 spRows) (h6 : FnC P w K mg base "_law_members" (3 * d + 7) (spMembers d)) (h7 : FnC P w K mg base "_law_lead" (3 * d + 6) (spLead d)) : FnG P w K mg base CX0 (3 * d + 8) f fd P_build (toSp K (spBuild (d + 1))) := by
  refine fnX F sc_build v_build l_build g_build (fun ds C k h => by obtain ⟨_, _, _, _, _, rfl, _⟩ := h; rfl) fun X hB ds C k h => ?_
  obtain ⟨b, f', n, most, L, rfl, hI, hL, h⟩ := h
  obtain ⟨hx, hn, hs, hg, hd, hnox⟩ := hB
  obtain ⟨hBag, hc, hbf, hml, hm20, hlm, hnn⟩ := hI
  change WSs X _ [some (.own b), some (.own f'), some (.int most), none, none, none, none, none, none, none, none, none, none] C _
  have B0 := Bf.self hBag hc hbf
  refine wss_cons ?_
  walk_at "pyA"
  refine app_ok hc (Nat.lt_of_lt_of_le (by omega : L.length < 1000) (by decide)) ?_
  have B1 := B0.set (L' := L ++ [.tup []])
  generalize DL.put C f' (.lst (L ++ [.tup []])) = C1 at B1 ⊢
  walk_at "pyA"
  refine we_fa (lc1 ["_law_bag_here"] ["_law_text"] hd (by walk_at "nm") (by decide +kernel) (by decide +kernel) (by decide +kernel) (by decide +kernel) (x_range1 hx Z (by walk_at "gl") ?_))
  walk_at "pyA"
  refine B1.of (ys := ([0, 0, 0, 1, 2] : List Int).map D.int) (by omega) (by decide) (by decide) fun d2 C2 hd2 f2 B2 => ?_
  obtain ⟨i, rfl, _, i1, i2⟩ := one_of (B := 2) hd2 (by decide)
  walk_at "pyA"
  refine ⟨i, rfl, by omega, by omega, ?_⟩
  refine ⟨fun j acc C' => ∃ zs : List Str, Bf C b f' (n + 1 + 100 * j) (L ++ [.tup []]) C' ∧ acc = zs.map D.str ∧ zs.length = j ∧ ∀ z ∈ zs, Tx z, ⟨[], B2, rfl, rfl, fun _ h => by simp at h⟩, fun _ _ _ _ => trivial, ?_, ?_⟩
  · rintro j dd acc C3 hj ⟨zs, B3, rfl, hzl, hzs⟩ X' hX hn' hg'
    obtain ⟨hj4, rfl⟩ := intsFrom_get hj
    refine wif_nil ⟨fun _ X' hX hn' hg' => ?_, fun h => Bool.noConfusion h⟩
    have hx' := hx.blk hX
    walk_at "pyA"
    refine B3.str (by omega) fun z C4 hz f4 B4 => ?_
    refine ⟨by rw [List.length_map]; exact Nat.lt_of_lt_of_le (by omega : zs.length < 100) (by decide), zs ++ [z], B4.mono (by omega), by rw [List.map_append]; rfl, by rw [List.length_append, hzl]; rfl, fun x hx => ?_⟩
    rcases List.mem_append.mp hx with hx | hx
    · exact hzs x hx
    · rw [List.mem_singleton.mp hx]; exact hz
  rintro acc C3 ⟨notes, B3, rfl, hzl, hzs⟩ q hq
  rw [intsFrom_length] at B3 hzl
  refine fa_put hq ?_
  have hnl2 : notes.length ≤ 2 := by omega
  walk_at "pyA"
  refine B3.str (by omega) fun kd C4 hkd f4 B4 => ?_
  walk_at "pyA"
  refine B4.str (by omega) fun ms C5 hms f5 B5 => ?_
  walk_at "pyA"
  refine B5.of (ys := [.str "", .str ms]) (by omega) (by simp) (by simp) fun d6 C6 hd6 f6 B6 => ?_
  obtain ⟨msg, rfl, hmsg⟩ : ∃ z, d6 = .str z ∧ Tx z := by
    simp only [List.mem_cons, List.not_mem_nil, or_false] at hd6
    rcases hd6 with rfl | rfl
    · exact ⟨_, rfl, by decide +kernel⟩
    · exact ⟨_, rfl, hms⟩
  walk_at "pyA"
  refine B6.rows (m := 5) (by omega) (by omega) fun rows C7 hr hrl f7 B7 => ?_
  refine wa_nil (ex_3 ?_)
  show WSs X _ _ _ _
  refine wss_consH ?_
  walk_at "pyA"
  refine B7.take (by omega) (by omega) (by omega) fun r8 C8 r80 r81 f8 B8 => ?_
  have hml1 : (L ++ [D.tup []]).length = L.length + 1 := by simp
  -- behind the members
  have rest : ∀ (mm : Mem) (seg : List Ent) (C9 : CS), Seg d most b f' (n + 3700) (L ++ [.tup []]) C C9 seg → LeadsR (Bld d) (L.length + 1) mm.nums seg → MemG mm →
      WSs X ((defBody s_build).drop 5) [some (.own b), some (.own f'), some (.int most), some (.int (L.length : Nat)), some (.tup (notes.map D.str)), some (memD mm), none, some (.str kd), some (.str msg), some (.tup rows), none, none, none] C9 { nx := fun _ C' => k .non C', rt := k } := by
    intro mm seg C9 hS hR hM
    have hsl := hS.len
    rw [hml1] at hsl
    have B9 := hS.bf
    refine wss_cons ?_
    walk_at "pyA"
    refine B9.of (ys := [.str "cause", .str "context"]) (by omega) (by simp) (by simp) fun dw C10 hdw f10 B10 => ?_
    obtain ⟨wd, rfl, hwd⟩ : ∃ z : Str, dw = .str z ∧ (z = "cause" ∨ z = "context") := by
      simp only [List.mem_cons, List.not_mem_nil, or_false] at hdw
      rcases hdw with rfl | rfl
      · exact ⟨_, rfl, .inl rfl⟩
      · exact ⟨_, rfl, .inr rfl⟩
    walk_at "pyA"
    refine B10.take (by omega) (by omega) (by omega) fun r11 C11 r110 r111 f11 B11 => ?_
    -- the end
    have fin : ∀ (lk : Option (Str × Option Nat)) (seg2 : List Ent) (C12 : CS), Bf C b f' (n + 4000 + 6000 * (seg.length + seg2.length)) (L ++ [D.tup []] ++ (seg ++ seg2).map entD) C12 → (∀ e ∈ seg2, EntG e) → L.length + 1 + seg.length + seg2.length ≤ most → LnkR (Bld d) (L.length + 1 + seg.length) (lnkN lk) seg2 → LnkG lk →
        k (.int (L.length : Nat)) (DL.put C12 f' (.lst ((L ++ [D.tup []] ++ (seg ++ seg2).map entD).set L.length (entD ⟨kd, msg, notes, rows, mm, lk⟩)))) := by
      intro lk seg2 C12 B12 hE2 hl2 hR2 hLk
      rw [set_mid]
      refine h _ (⟨kd, msg, notes, rows, mm, lk⟩ :: (seg ++ seg2)) ⟨?_, ?_, ?_⟩ ⟨_, seg, seg2, rfl, hR, hR2⟩
      · refine (B12.set (L' := L ++ entD ⟨kd, msg, notes, rows, mm, lk⟩ :: (seg ++ seg2).map entD)).mono ?_
        simp only [List.length_cons, List.length_append]; omega
      · intro e he
        rcases List.mem_cons.mp he with rfl | he
        · exact ⟨hkd, hmsg, hzs, hnl2, hr, by omega, hM, hLk⟩
        · rcases List.mem_append.mp he with he | he
          · exact hS.ent e he
          · exact hE2 e he
      · simp only [List.length_cons, List.length_append]; omega
    have hc11 := B11.cell
    have hml2 : (L ++ [D.tup []] ++ seg.map entD).length = L.length + 1 + seg.length := by simp; omega
    walk_at "pyA"
    · refine ⟨b, f', _, most, _, rfl, ⟨B11.bag, B11.cell, hbf, by rw [hml2]; omega, hm20, by rw [hml2]; omega, by rw [hml2]; omega⟩, by simp, fun C12 seg2 x hS2 hR2 => ?_⟩
      have hsl2 := hS2.len
      rw [hml2] at hR2 hsl2
      have hc12 := hS2.bf.cell
      rw [List.append_assoc, ← List.map_append] at hc12
      walk_at "pyA"
      refine setL_o hc12 (ix_len _ _ _) ?_
      walk_at "pyA"
      have B12 := B11.trans hS2.bf
      rw [List.append_assoc, ← List.map_append] at B12
      exact fin (some (wd, some x)) seg2 C12 (B12.mono (by omega)) hS2.ent (by omega) hR2 (fun w' x' e => by cases e; exact hwd)
    · refine setL_o hc11 (ix_len _ _ _) ?_
      walk_at "pyA"
      have := fin (some (wd, none)) [] C11 (by rw [List.append_nil]; exact B11.mono (by simp only [List.length_nil]; omega)) (fun _ h => by simp at h) (by rw [List.length_nil]; omega) rfl (fun w' x' e => by cases e; exact hwd)
      rw [List.append_nil] at this
      exact this
    · refine ⟨b, f', _, most, _, rfl, ⟨B11.bag, B11.cell, hbf, by rw [hml2]; omega, hm20, by rw [hml2]; omega, by rw [hml2]; omega⟩, by simp, fun C12 seg2 x hS2 hR2 => ?_⟩
      have hsl2 := hS2.len
      rw [hml2] at hR2 hsl2
      have hc12 := hS2.bf.cell
      rw [List.append_assoc, ← List.map_append] at hc12
      walk_at "pyA"
      refine setL_o hc12 (ix_len _ _ _) ?_
      walk_at "pyA"
      have B12 := B11.trans hS2.bf
      rw [List.append_assoc, ← List.map_append] at B12
      exact fin (some (wd, some x)) seg2 C12 (B12.mono (by omega)) hS2.ent (by omega) hR2 (fun w' x' e => by cases e; exact hwd)
    · refine setL_o hc11 (ix_len _ _ _) ?_
      walk_at "pyA"
      have := fin none [] C11 (by rw [List.append_nil]; exact B11.mono (by simp only [List.length_nil]; omega)) (fun _ h => by simp at h) (by rw [List.length_nil]; omega) rfl (fun w' x' e => by cases e)
      rw [List.append_nil] at this
      exact this
  walk_at "pyA"
  · refine ⟨b, f', _, most, _, rfl, ⟨B8.bag, B8.cell, hbf, by rw [hml1]; omega, hm20, by rw [hml1]; omega, by rw [hml1]; omega⟩, by simp, fun C9 seg mm hS hR hM hm3 => ?_⟩
    rw [hml1] at hR
    exact rest mm seg C9 ⟨(B8.trans hS.bf).mono (by omega), hS.ent, hS.len⟩ hR hM
  · exact rest .non [] C8 (seg_nil (B8.mono (by omega)) (by rw [hml1]; omega)) rfl trivial
/-- the entries of a drawn record -/
def spEntries : DSp := fun ds C k => ∃ (b : Addr) (n most : Nat), ds = [.own b, .int (most : Nat)] ∧ Bag C b n ∧ 1 ≤ most ∧ most ≤ 20 ∧ n + 6000 * most ≤ 900000 ∧
  ∀ C' p E, C p = none → Fx [b] C C' → Bag C' b (n + 6000 * most) → b ≠ p → C' p = some (.lst (E.map entD)) → Bld most 0 E → (∀ e ∈ E, EntG e) → E.length ≤ most → k (.own p) C'
theorem ok_entries {f : Addr} {fd : FuncData} (F : Fun K "_law_entries" "_law_entries" s_entries f fd) (Z : Zs mg) (h1 : ∀ d, d ≤ 20 → FnC P w K mg base "_law_build" (3 * d + 5) (spBuild d)) : FnG P w K mg base CX0 66 f fd P_entries (toSp K spEntries) := by
  refine fnX F sc_entries v_entries l_entries g_entries (fun ds C k h => by obtain ⟨_, _, _, rfl, _⟩ := h; rfl) fun X hB ds C k h => ?_
  obtain ⟨b, n, most, rfl, hBag, hm1, hm20, hnn, h⟩ := h
  obtain ⟨hx, hn, hs, hg, hd, hnox⟩ := hB
  have h2 := h1 most hm20
  change WSs X _ [some (.own b), some (.int most), none] C _
  refine wss_cons ?_
  walk_at "pyR"
  refine we_nil fun p hp => ?_
  have hbp := hBag.ne hp
  have B0 : Bf (DL.put C p (.lst [])) b p n [] (DL.put C p (.lst [])) := Bf.self (hBag.put hbp) put_same hbp
  have F0 : Fx [b] C (DL.put C p (.lst [])) := (Fx.refl C).put (.inr hp)
  generalize DL.put C p (.lst []) = C0 at B0 F0 ⊢
  walk_at "pyR"
  refine ⟨b, p, n, most, [], rfl, ⟨B0.bag, B0.cell, hbp, by simp, hm20, by simp, by simpa using hnn⟩, by rw [List.length_nil]; omega, fun C1 seg hS hR => ?_⟩
  have hsl := hS.len
  have B1 := hS.bf
  rw [List.nil_append] at B1
  rw [List.length_nil, Nat.zero_add] at hsl
  walk_at "pyR"
  refine h C1 p seg hp ?_ (B1.bag.mono (by have := Nat.mul_le_mul_left 6000 hsl; omega)) hbp B1.cell hR hS.ent hsl
  refine Fx.new (a := p) (C1 := C0) ?_ F0 hp
  exact B1.fx.mono fun q hq => by simp at hq ⊢; exact hq.symm
end
end K31
namespace K31
section
variable {P : Program} {w : World} {K : PySem.W.Frag} {mg : Str → Option Value} {base : Heap}
def spIsTx : DSp := fun ds C k => ∃ x, ds = [x] ∧ x.kind = true ∧ k (.bl x.isStr) C
theorem ok_isText {f : Addr} {fd : FuncData} (F : Fun K "is_text" "is_text" s_is_text f fd) (Z : Zs mg) : FnG P w K mg base CX0 1 f fd P_is_text (toSp K spIsTx) := by
  refine fnX F sc_is_text v_is_text l_is_text g_is_text (fun ds C k h => by obtain ⟨x, rfl, _⟩ := h; rfl) fun X hB ds C k h => ?_
  obtain ⟨x, rfl, hk, h⟩ := h
  obtain ⟨hx, hn, hs, hg, hd, hnox⟩ := hB
  change WSs X _ [some x] C _
  refine wss_cons ?_
  walk_at "pyR"
  exact h
def inR : D → Int → Int → Bool
  | .int i, lo, hi => decide (lo ≤ i) && decide (i ≤ hi)
  | _, _, _ => false
theorem inR_no {x : D} {lo hi : Int} (h : isI x = false) : inR x lo hi = false := by cases x <;> first | rfl | (simp [isI] at h; done)
def spInR : DSp := fun ds C k => ∃ x lo hi, ds = [x, .int lo, .int hi] ∧ x.kind = true ∧ k (.bl (inR x lo hi)) C
theorem ok_inRange {f : Addr} {fd : FuncData} (F : Fun K "in_range" "in_range" s_in_range f fd) (h1 : FnC P w K mg base "is_integer" 1 spIsInt) : FnG P w K mg base CX0 2 f fd P_in_range (toSp K spInR) := by
  refine fnX F sc_in_range v_in_range l_in_range g_in_range (fun ds C k h => by obtain ⟨_, _, _, rfl, _⟩ := h; rfl) fun X hB ds C k h => ?_
  obtain ⟨x, lo, hi, rfl, hk, h⟩ := h
  obtain ⟨hx, hn, hs, hg, hd, hnox⟩ := hB
  change WSs X _ [some x, some (.int lo), some (.int hi)] C _
  refine wss_cons ?_
  walk_at "pyR"
  refine ⟨x, rfl, hk, ?_⟩
  walk_at "pyR"
  · rename_i h1
    obtain ⟨i, rfl⟩ := isI_eq h1
    walk_at "pyR"
    · rename_i h2
      rw [show inR (.int i) lo hi = (decide (lo ≤ i) && decide (i ≤ hi)) from rfl, h2] at h
      exact h
    · rename_i h2
      rw [show inR (.int i) lo hi = (decide (lo ≤ i) && decide (i ≤ hi)) from rfl, h2] at h
      exact h
  · rename_i h1
    rw [inR_no h1] at h; exact h
def spCnt : DSp := fun ds C k => ∃ x w, ds = [x, .str w] ∧ ((∃ i, x = .int i ∧ k (.bl false) C) ∨ ∃ z n, x = .tup [.str z, .int n] ∧ k (.bl (z == w && decide (1 ≤ n))) C)
theorem ok_isCounted {f : Addr} {fd : FuncData} (F : Fun K "is_counted" "is_counted" s_is_counted f fd) (Z : Zs mg) (h1 : FnC P w K mg base "is_from" 2 spIsFrom) : FnG P w K mg base CX0 3 f fd P_is_counted (toSp K spCnt) := by
  refine fnX F sc_is_counted v_is_counted l_is_counted g_is_counted (fun ds C k h => by obtain ⟨_, _, rfl, _⟩ := h; rfl) fun X hB ds C k h => ?_
  obtain ⟨x, wd, rfl, h⟩ := h
  obtain ⟨hx, hn, hs, hg, hd, hnox⟩ := hB
  rcases h with ⟨i, rfl, h⟩ | ⟨z, n, rfl, h⟩
  · change WSs X _ [some (.int i), some (.str wd)] C _
    refine wss_cons ?_
    walk_at "pyR"
    all_goals try walk_at "bad"
    exact h
  · change WSs X _ [some (.tup [.str z, .int n]), some (.str wd)] C _
    refine wss_cons ?_
    walk_at "pyR"
    all_goals try walk_at "bad"
    refine eq_sS ?_
    walk_at "pyR"
    · rename_i h2
      refine ⟨_, 1, rfl, rfl, ?_⟩
      rw [h2, Bool.true_and] at h
      exact h
    · rename_i h2
      rw [h2, Bool.false_and] at h
      exact h
/-- members that may stand in an entry of so many entries -/
def MemV (many : Nat) : Mem → Prop
  | .non => True
  | .deep n => 1 ≤ n
  | .some ns mo => ns ≠ [] ∧ ns.length ≤ 1000 ∧ (∀ x ∈ ns, x < many) ∧ ∀ k, mo = Option.some k → 1 ≤ k
def spMem : DSp := fun ds C k => ∃ m many, ds = [memD m, .int (many : Nat)] ∧ MemV many m ∧ k (.bl true) C
end
end K31
namespace K31
section
variable {P : Program} {w : World} {K : PySem.W.Frag} {mg : Str → Option Value} {base : Heap}
theorem strOk_deep : PyData.strOk ("deep" : Str) = true := by decide +kernel
theorem strOk_more : PyData.strOk ("more" : Str) = true := by decide +kernel
theorem memD_fit {m : Mem} : (memD m).fit 3 = true := by
  have hi : ∀ ns : List Nat, ∀ d ∈ intsD ns, d.fit 2 = true := fun ns d hd => by
    obtain ⟨x, _, rfl⟩ := List.mem_map.mp hd
    rfl
  cases m with
  | non => rfl
  | deep n => simp [memD, D.fit, fitL, strOk_deep]
  | some ns mo => cases mo with
    | none => exact fit_tupI (hi ns)
    | some k =>
      refine fit_tupI fun d hd => ?_
      rcases List.mem_append.mp hd with hd | hd
      · exact hi ns d hd
      · rw [List.mem_singleton.mp hd]; simp [D.fit, fitL, strOk_more]
theorem nil_fit : (D.tup []).fit 1 = true := rfl
theorem ne_nil {xs : List D} (h : xs ≠ []) : PyData.eqv (D.tup xs).py (D.tup []).py = false := by
  cases xs with
  | nil => exact absurd rfl h
  | cons x xs => simp [D.py, pyL, PyData.eqv, PyData.eqvAll]
theorem eqT_nil {C : CS} {k : KD} {xs : List D} {n : Nat} (h : xs ≠ []) (hf : (D.tup xs).fit n = true) (hn : n ≤ 64) (q : k (.bl false) C) : dEq false (.tup xs) (.tup []) C k := by
  refine eq_fit hf nil_fit ?_ hn
  rw [ne_nil h]; exact q
theorem at0_len1 {T : List D} {l : D} (h : (((T ++ [l]).length : Int) == 1) = true) : T = [] ∧ atI (T ++ [l]) 0 = some l := by
  have := eq_of_beq h
  have h0 : T = [] := List.length_eq_zero_iff.mp (by simp at this; omega)
  subst h0
  exact ⟨rfl, rfl⟩
theorem mem_tail {X : Cx} (hx : DL.Ctx P w K mg base 3 X) (hn : Nms X N_are_members M_are_members) (hs : Sts X N_are_members M_are_members) (hg : Gls X D_are_members) (hd : Dfc X N_are_members (defScope s_are_members)) (Z : Zs mg) (h2 : FnC P w K mg base "in_range" 2 spInR)
    {q : Addr} {C : CS} {o l : Option D} {ns : List Nat} {many : Nat} {k : KD} (hq : C q = some (.lst (intsD ns))) (hne : ns ≠ []) (hl : ns.length ≤ 1000) (hlt : ∀ x ∈ ns, x < many) (h : k (.bl true) C) :
    WSh X ((defBody s_are_members).drop 5) [o, some (.int (many : Nat)), l, some (.own q), none] C { nx := fun _ C' => k .non C', rt := k } := by
  refine wsh_go (wss_cons ?_)
  walk_at "pyS"
  refine ne_ol (n := 0) (m := 0) hq (fun d hd => ?_) (fun d hd => by simp at hd) (by decide) (by decide) ?_
  · obtain ⟨x, _, rfl⟩ := List.mem_map.mp hd
    rfl
  have e : eqL (intsD ns) [] = false := by
    cases ns with
    | nil => exact absurd rfl hne
    | cons x xs => rfl
  rw [e]
  walk_at "pyS"
  all_goals try walk_at "bad"
  refine we_fa (lc1 ["number", "many"] ["in_range"] hd (by walk_at "nm") (by decide +kernel) (by decide +kernel) (by decide +kernel) (by decide +kernel) (wi_ls ?_))
  walk_at "pyS"
  refine ⟨_, seqR_own hq, LcB.map (fun d => .bl (inR d 0 ((many : Int) - 1))) (fun a ha => by cases ha; exact hq) (by rw [show (intsD ns).length = ns.length from List.length_map ..]; exact Nat.le_trans hl (by decide)) ?_ fun p hp => fa_put hp ?_⟩
  · intro d hdm X' hX hn' hg'
    have hx' := hx.blk hX
    obtain ⟨x, _, rfl⟩ := List.mem_map.mp hdm
    walk_at "pyS"
    refine ⟨_, _, _, rfl, rfl, ?_⟩
    exact ⟨rfl, rfl⟩
  · walk_at "pyS"
    refine all_map (f := fun d => inR d 0 ((many : Int) - 1)) ?_
    have : (intsD ns).all (fun d => inR d 0 ((many : Int) - 1)) = true := by
      rw [List.all_eq_true]
      intro d hd
      obtain ⟨x, hx, rfl⟩ := List.mem_map.mp hd
      have := hlt x hx
      simp only [inR, Bool.and_eq_true, decide_eq_true_eq]
      omega
    rw [this]; exact h
theorem ok_areMembers {f : Addr} {fd : FuncData} (F : Fun K "are_members" "are_members" s_are_members f fd) (Z : Zs mg) (h1 : FnC P w K mg base "is_counted" 3 spCnt) (h2 : FnC P w K mg base "in_range" 2 spInR) (g1 : MgK K mg "DEEP" (.str "deep")) (g2 : MgK K mg "MORE" (.str "more")) : FnG P w K mg base CX0 4 f fd P_are_members (toSp K spMem) := by
  refine fnS F sc_are_members v_are_members l_are_members g_are_members (fun ds C k h => by obtain ⟨_, _, rfl, _⟩ := h; rfl) fun X hB ds C k h => ?_
  obtain ⟨m, many, rfl, hV, h⟩ := h
  obtain ⟨hx, hn, hs, hg, hd, hnox⟩ := hB
  change WSs X _ [some (memD m), some (.int many), none, none, none] C _
  cases m with
  | non =>
    show WSs X _ [some .non, some (.int many), none, none, none] C _
    refine wss_cons ?_
    walk_at "pyS"
    all_goals try walk_at "bad"
    exact ⟨C, Sub.refl C, h⟩
  | deep n =>
    show WSs X _ [some (.tup [.tup [.str "deep", .int n]]), some (.int many), none, none, none] C _
    have hV : 1 ≤ n := hV
    refine wss_cons ?_
    walk_at "pyS"
    all_goals try walk_at "bad"
    refine eqT_nil (by simp) (memD_fit (m := .deep n)) (by decide) ?_
    walk_at "pyS"
    all_goals try walk_at "bad"
    refine ⟨_, _, rfl, .inr ⟨_, _, rfl, ?_⟩⟩
    rw [show (("deep" : Str) == "deep" && decide (1 ≤ n)) = true by simp [hV]]
    walk_at "pyS"
    exact ⟨C, Sub.refl C, h⟩
  | some ns mo =>
    obtain ⟨hne, hl, hlt, hmo⟩ := hV
    obtain ⟨T, l, e, hT, hTl⟩ : ∃ (T : List D) (l : D), memD (.some ns mo) = .tup (T ++ [l]) ∧ ((mo = none ∧ T ++ [l] = intsD ns ∧ ∃ x : Nat, l = .int x) ∨ ∃ k, mo = some k ∧ T = intsD ns ∧ l = .tup [.str "more", .int k]) ∧ T.length ≤ 1000 := by
      cases mo with
      | none =>
        have hne' : intsD ns ≠ [] := by simpa [intsD] using hne
        refine ⟨(intsD ns).dropLast, (intsD ns).getLast hne', by rw [List.dropLast_concat_getLast]; rfl, .inl ⟨rfl, List.dropLast_concat_getLast hne', ?_⟩, by rw [List.length_dropLast, show (intsD ns).length = ns.length from List.length_map ..]; omega⟩
        obtain ⟨x, _, hx⟩ := List.mem_map.mp (List.getLast_mem hne')
        exact ⟨x, hx.symm⟩
      | some k => exact ⟨intsD ns, _, rfl, .inr ⟨k, rfl, rfl, rfl⟩, by rw [show (intsD ns).length = ns.length from List.length_map ..]; omega⟩
    have hfit := memD_fit (m := .some ns mo)
    rw [e] at hfit ⊢
    refine wss_cons ?_
    walk_at "pyS"
    all_goals try walk_at "bad"
    refine eqT_nil (by simp) hfit (by decide) ?_
    walk_at "pyS"
    all_goals try walk_at "bad"
    · rename_i h3
      obtain ⟨hT0, h0⟩ := at0_len1 h3
      refine ix_t h0 ?_
      walk_at "pyS"
      rcases hT with ⟨rfl, hTe, x, rfl⟩ | ⟨k', rfl, rfl, rfl⟩
      · refine ⟨_, _, rfl, .inl ⟨_, rfl, ?_⟩⟩
        walk_at "pyS"
        refine wg_starL hx.calm rfl rfl fun q hq => ?_
        walk_at "wg"
        show WSs X _ _ _ _
        refine wss_consH ?_
        walk_at "pyS"
        refine ⟨_, _, rfl, .inl ⟨_, rfl, ?_⟩⟩
        walk_at "pyS"
        all_goals try walk_at "bad"
        refine app_put (Nat.lt_of_le_of_lt hTl (by decide)) ?_
        rw [hTe]
        walk_at "pyS"
        exact mem_tail (k := fun d C1 => ∃ C2, Sub C2 C1 ∧ k d C2) hx hn hs hg hd Z h2 put_same hne hl hlt ⟨C, Sub.new (Sub.refl C) hq, h⟩
      · exact absurd (List.map_eq_nil_iff.mp hT0) hne
    · refine wg_starL hx.calm rfl rfl fun q hq => ?_
      walk_at "wg"
      show WSs X _ _ _ _
      refine wss_consH ?_
      walk_at "pyS"
      rcases hT with ⟨rfl, hTe, x, rfl⟩ | ⟨k', rfl, rfl, rfl⟩
      · refine ⟨_, _, rfl, .inl ⟨_, rfl, ?_⟩⟩
        walk_at "pyS"
        all_goals try walk_at "bad"
        refine app_put (Nat.lt_of_le_of_lt hTl (by decide)) ?_
        rw [hTe]
        walk_at "pyS"
        exact mem_tail (k := fun d C1 => ∃ C2, Sub C2 C1 ∧ k d C2) hx hn hs hg hd Z h2 put_same hne hl hlt ⟨C, Sub.new (Sub.refl C) hq, h⟩
      · refine ⟨_, _, rfl, .inr ⟨_, _, rfl, ?_⟩⟩
        rw [show (("more" : Str) == "more" && decide (1 ≤ k')) = true by simp [hmo k' rfl]]
        walk_at "pyS"
        all_goals try walk_at "bad"
        exact mem_tail (k := fun d C1 => ∃ C2, Sub C2 C1 ∧ k d C2) hx hn hs hg hd Z h2 put_same hne hl hlt ⟨C, Sub.new (Sub.refl C) hq, h⟩
end
end K31
namespace K31
section
variable {P : Program} {w : World} {K : PySem.W.Frag} {mg : Str → Option Value} {base : Heap}
/-- a link that may stand in an entry of so many entries -/
def LnkV (many : Nat) (o : Option (Str × Option Nat)) : Prop := ∀ w x, o = some (w, x) → (w = "cause" ∨ w = "context") ∧ ∀ y, x = some y → y < many
def spLnk : DSp := fun ds C k => ∃ o many, ds = [lnkD o, .int (many : Nat)] ∧ LnkV many o ∧ k (.bl true) C
theorem ok_isLink {f : Addr} {fd : FuncData} (F : Fun K "is_link" "is_link" s_is_link f fd) (Z : Zs mg) (h2 : FnC P w K mg base "in_range" 2 spInR) (g1 : MgK K mg "CAUSE" (.str "cause")) (g2 : MgK K mg "CONTEXT" (.str "context")) : FnG P w K mg base CX0 3 f fd P_is_link (toSp K spLnk) := by
  refine fnX F sc_is_link v_is_link l_is_link g_is_link (fun ds C k h => by obtain ⟨_, _, rfl, _⟩ := h; rfl) fun X hB ds C k h => ?_
  obtain ⟨o, many, rfl, hV, h⟩ := h
  obtain ⟨hx, hn, hs, hg, hd, hnox⟩ := hB
  have hin : ∀ w x, o = some (w, x) → decide (w ∈ (["cause", "context"] : List Str)) = true := fun w x e => by
    rcases (hV w x e).1 with rfl | rfl <;> decide +kernel
  rcases o with _ | ⟨w, _ | y⟩
  · show WSs X _ [some .non, some (.int many)] C _
    refine wss_cons ?_
    walk_at "pyR"
    all_goals try walk_at "bad"
    exact h
  · show WSs X _ [some (.tup [.str w, .non]), some (.int many)] C _
    refine wss_cons ?_
    walk_at "pyR"
    all_goals try walk_at "bad"
    refine in_tup (zs := ["cause", "context"]) rfl ?_
    rw [hin w none rfl]
    walk_at "pyR"
    all_goals try walk_at "bad"
    exact h
  · show WSs X _ [some (.tup [.str w, .int y]), some (.int many)] C _
    refine wss_cons ?_
    walk_at "pyR"
    all_goals try walk_at "bad"
    refine in_tup (zs := ["cause", "context"]) rfl ?_
    rw [hin w (some y) rfl]
    walk_at "pyR"
    all_goals try walk_at "bad"
    refine ⟨_, _, _, rfl, rfl, ?_⟩
    have := (hV w (some y) rfl).2 y rfl
    rw [show inR (.int (y : Nat)) 0 ((many : Int) - 1) = true by simp only [inR, Bool.and_eq_true, decide_eq_true_eq]; omega]
    walk_at "pyR"
    exact h
/-- the first item that cannot stand among rows -/
def spBad : DSp := fun ds C k => ∃ xs, ds = [.tup xs] ∧ (∀ d ∈ xs, Ob d) ∧ xs.length ≤ 100000 ∧ badF false 0 xs = none ∧ k .non C
theorem badF_at : ∀ (xs : List D) (p : Bool) (i j : Nat) (d : D), badF p i xs = none → xs[j]? = some d → isRow d = true ∨ isGap d = true ∧ ((j = 0 ∧ p = false) ∨ ∃ d', xs[j - 1]? = some d' ∧ 0 < j ∧ isGap d' = false)
  | [], _, _, j, d, _, h => by simp at h
  | x :: xs, p, i, 0, d, h, e => by
    simp only [List.getElem?_cons_zero, Option.some.injEq] at e
    subst e
    simp only [badF] at h
    split at h
    · cases h
    · rename_i hc
      cases h1 : isRow x with
      | true => exact .inl rfl
      | false =>
        right
        rw [h1] at hc
        cases h2 : isGap x with
        | false => rw [h2] at hc; simp at hc
        | true =>
          rw [h2] at hc
          cases p with
          | true => simp at hc
          | false => exact ⟨rfl, .inl ⟨rfl, rfl⟩⟩
  | x :: xs, p, i, j + 1, d, h, e => by
    simp only [badF] at h
    split at h
    · cases h
    · have e' : xs[j]? = some d := by simpa using e
      rcases badF_at xs (isGap x) (i + 1) j d h e' with h1 | ⟨h1, ⟨rfl, h2⟩ | ⟨d', h3, h4, h5⟩⟩
      · exact .inl h1
      · exact .inr ⟨h1, .inr ⟨x, rfl, by omega, h2⟩⟩
      · exact .inr ⟨h1, .inr ⟨d', by obtain ⟨j', rfl⟩ : ∃ j', j = j' + 1 := ⟨j - 1, by omega⟩
                                     simpa using h3, by omega, h5⟩⟩
theorem at_nat {xs : List D} {i : Nat} {d : D} (h : xs[i]? = some d) : atI xs (i : Nat) = some d := by
  have hl := (List.getElem?_eq_some_iff.mp h).1
  unfold atI ixN
  rw [if_pos (by omega), if_pos (by omega)]
  exact h
theorem ok_badRow {f : Addr} {fd : FuncData} (F : Fun K "bad_row" "bad_row" s_bad_row f fd) (Z : Zs mg) (h1 : FnC P w K mg base "is_row" 3 spIsRow) (h2 : FnC P w K mg base "is_gap" 3 spIsGap) : FnG P w K mg base CX0 4 f fd P_bad_row (toSp K spBad) := by
  refine fnX F sc_bad_row v_bad_row l_bad_row g_bad_row (fun ds C k h => by obtain ⟨_, rfl, _⟩ := h; rfl) fun X hB ds C k h => ?_
  obtain ⟨xs, rfl, hO, hl, hbad, h⟩ := h
  obtain ⟨hx, hn, hs, hg, hd, hnox⟩ := hB
  change WSs X _ [some (.tup xs), none, none] C _
  refine wss_cons ?_
  refine x_for hx hnox (wi_enum (hx.zs Z).enum (by walk_at "gl") ?_)
  walk_at "pyR"
  refine ⟨_, xs, rfl, .inr ⟨rfl, ?_⟩⟩
  refine ⟨fun i env C' => C' = C ∧ ∃ o1 o2, env = [some (.tup xs), o1, o2], ⟨rfl, _, _, rfl⟩, fun _ _ _ _ => trivial, ?_, ?_⟩
  · rintro i d env C1 hd ⟨rfl, o1, o2, rfl⟩
    obtain ⟨x, hxi, rfl⟩ := enumD_get hd
    have hOx := hO x (List.mem_of_getElem? hxi)
    walk_at "pyR"
    refine ⟨x, rfl, hOx, ?_⟩
    walk_at "pyR"
    · rename_i hr
      refine ⟨x, rfl, hOx, ?_⟩
      rcases badF_at xs false 0 i x hbad hxi with h3 | ⟨h3, h4⟩
      · rw [h3] at hr; exact absurd hr (by decide)
      · rw [h3]
        walk_at "pyR"
        all_goals try walk_at "bad"
        · rename_i hi
          rcases h4 with ⟨rfl, _⟩ | ⟨d', h5, h6, h7⟩
          · exact absurd hi (by decide)
          · refine ix_t (d := d') (by rw [show ((i : Int) - 1) = ((i - 1 : Nat) : Int) by omega]; exact at_nat h5) ?_
            walk_at "pyR"
            refine ⟨d', rfl, hO d' (List.mem_of_getElem? h5), ?_⟩
            rw [h7]
            walk_at "pyR"
            all_goals try walk_at "bad"
            exact ⟨rfl, _, _, rfl⟩
        · exact ⟨rfl, _, _, rfl⟩
    · exact ⟨rfl, _, _, rfl⟩
  · rintro env C1 ⟨rfl, o1, o2, rfl⟩
    walk_at "pyR"
    exact h
end
end K31
namespace K31
theorem spl_hd (S : List Nat) : ∀ (l : List Nat) (k : Nat) (acc : List Nat), ∃ p rest, TL.spl S k acc l = p :: rest ∧ p.length ≤ acc.length + l.length
  | [], k, acc => ⟨acc, [], TL.spl_nil S k acc, by simp⟩
  | c :: r, 0, acc => by
    cases h : TL.pre S (c :: r) with
    | true => exact ⟨acc, _, TL.spl_hit h, by omega⟩
    | false =>
      obtain ⟨p, rest, h1, h2⟩ := spl_hd S r 0 (acc ++ [c])
      exact ⟨p, rest, (TL.spl_miss h).trans h1, by rw [List.length_append] at h2; simp only [List.length_cons, List.length_nil] at h2 ⊢; omega⟩
  | c :: r, k + 1, acc => by
    obtain ⟨p, rest, h1, h2⟩ := spl_hd S r k acc
    exact ⟨p, rest, h1, by rw [List.length_cons]; omega⟩
theorem split_hd (z : Str) : ∃ y rest, Txt.split z "\n" = y :: rest ∧ y.length ≤ z.length := by
  have hy : TL.tl ("\n" : Str) ≠ [] := by decide +kernel
  have e := TL.split_spl z "\n" hy (TL.kind_ok (by decide +kernel))
  obtain ⟨p, rest, h1, h2⟩ := spl_hd (TL.tl ("\n" : Str)) (TL.tl z) 0 []
  rw [h1] at e
  cases hs : Txt.split z "\n" with
  | nil => rw [hs] at e; cases e
  | cons y ys =>
    rw [hs] at e
    simp only [List.map_cons, List.cons.injEq] at e
    refine ⟨y, ys, rfl, ?_⟩
    rw [str_len, str_len]
    have e1 : TL.tl y = p := e.1
    have : (TL.tl y).length ≤ (TL.tl z).length := by rw [e1]; simpa using h2
    exact this
/-- the kind, and the first line of the message -/
def headS (kd msg : Str) : Str := if (msg == "") = true then kd else kd ++ ": " ++ (Txt.split msg "\n").headD ""
/-- an entry that may stand among so many -/
structure EntV (many : Nat) (e : Ent) : Prop where
  kd : isNm (.str e.kind) = true
  ob : Ob (.str e.kind)
  rows : ∀ d ∈ e.rows, Ob d
  bad : badF false 0 e.rows = none
  rl : e.rows.length ≤ 1000
  nl : e.notes.length ≤ 1000
  ml : e.msg.length ≤ 1000000
  mem : MemV many e.mem
  lnk : LnkV many e.link
/-- how many members are left out -/
def goneM : Mem → Int
  | .non => 0
  | .deep n => n
  | .some _ mo => mo.getD 0
section
variable {P : Program} {w : World} {K : PySem.W.Frag} {mg : Str → Option Value} {base : Heap}
def spIsEnt : DSp := fun ds C k => ∃ e many, ds = [entD e, .int (many : Nat)] ∧ EntV many e ∧ k (.bl true) C
theorem ok_isEntry {f : Addr} {fd : FuncData} (F : Fun K "is_entry" "is_entry" s_is_entry f fd) (Z : Zs mg) (h1 : FnC P w K mg base "is_name" 1 spIsNm) (h2 : FnC P w K mg base "is_text" 1 spIsTx) (h3 : FnC P w K mg base "bad_row" 4 spBad) (h4 : FnC P w K mg base "are_members" 4 spMem) (h5 : FnC P w K mg base "is_link" 3 spLnk)
    (g1 : MgK K mg "MOST_ROWS" (.int 1000)) : FnG P w K mg base CX0 5 f fd P_is_entry (toSp K spIsEnt) := by
  refine fnX F sc_is_entry v_is_entry l_is_entry g_is_entry (fun ds C k h => by obtain ⟨_, _, rfl, _⟩ := h; rfl) fun X hB ds C k h => ?_
  obtain ⟨e, many, rfl, hV, h⟩ := h
  obtain ⟨hx, hn, hs, hg, hd, hnox⟩ := hB
  show WSs X _ [some (.tup [.str e.kind, .str e.msg, .tup (e.notes.map D.str), .tup e.rows, memD e.mem, lnkD e.link]), some (.int many), none, none, none, none, none, none, none] C _
  refine wss_cons ?_
  walk_at "pyA"
  all_goals try walk_at "bad"
  refine ⟨_, rfl, hV.ob, ?_⟩
  rw [hV.kd]
  walk_at "pyA"
  all_goals try walk_at "bad"
  refine ⟨_, rfl, rfl, ?_⟩
  walk_at "pyA"
  all_goals try walk_at "bad"
  refine we_fa (lc1 ["note"] ["is_text"] hd (by walk_at "nm") (by decide +kernel) (by decide +kernel) (by decide +kernel) (by decide +kernel) (wi_tup ?_))
  walk_at "pyA"
  refine ⟨_, rfl, LcB.map (fun d => .bl d.isStr) trivial (by rw [List.length_map]; exact Nat.le_trans hV.nl (by decide)) ?_ fun p hp => fa_put hp ?_⟩
  · intro d hdm X' hX hn' hg'
    have hx' := hx.blk hX
    obtain ⟨z, _, rfl⟩ := List.mem_map.mp hdm
    walk_at "pyA"
    exact ⟨_, rfl, rfl, rfl, rfl⟩
  · walk_at "pyA"
    refine all_map (f := fun d => d.isStr) ?_
    have : (e.notes.map D.str).all (fun d => d.isStr) = true := by
      rw [List.all_eq_true]
      intro d hd
      obtain ⟨z, _, rfl⟩ := List.mem_map.mp hd
      rfl
    rw [this]
    walk_at "pyA"
    all_goals try walk_at "bad"
    refine ⟨_, rfl, hV.rows, Nat.le_trans hV.rl (by decide), hV.bad, ?_⟩
    walk_at "pyA"
    all_goals try walk_at "bad"
    · rename_i hq
      have := of_decide_eq_true hq
      have := hV.rl
      omega
    · refine ⟨_, _, rfl, hV.mem, ?_⟩
      walk_at "pyA"
      all_goals try walk_at "bad"
      refine ⟨_, _, rfl, hV.lnk, ?_⟩
      exact h
def spNums : DSp := fun ds C k => ∃ m, ds = [memD m] ∧ m ≠ .non ∧ m.nums.length ≤ 1000 ∧ ∀ p, C p = none → k (.own p) (DL.put C p (.lst (intsD m.nums)))
theorem mem_tup {m : Mem} (h : m ≠ .non) : ∃ T, memD m = .tup (intsD m.nums ++ T) ∧ (T = [] ∧ goneM m = 0 ∨ ∃ z, T = [.tup [.str z, .int (goneM m)]]) := by
  cases m with
  | non => exact absurd rfl h
  | deep n => exact ⟨_, rfl, .inr ⟨_, rfl⟩⟩
  | some ns mo => cases mo with
    | none => exact ⟨[], by simp [memD, Mem.nums], .inl ⟨rfl, rfl⟩⟩
    | some k => exact ⟨_, rfl, .inr ⟨_, rfl⟩⟩
theorem ints_fil (ns : List Nat) : (intsD ns).filter D.isIntB = intsD ns := List.filter_eq_self.mpr fun d hd => by
  obtain ⟨x, _, rfl⟩ := List.mem_map.mp hd
  rfl
theorem ints_filT (ns : List Nat) : (intsD ns).filter D.isTup = [] := List.filter_eq_nil_iff.mpr fun d hd => by
  obtain ⟨x, _, rfl⟩ := List.mem_map.mp hd
  simp [D.isTup]
theorem ints_len (ns : List Nat) : (intsD ns).length = ns.length := List.length_map ..
theorem mem_kind {m : Mem} {T : List D} (h : memD m = .tup T) : ∀ d ∈ T, d.kind = true := by
  have hf := memD_fit (m := m)
  rw [h] at hf
  obtain ⟨n, _, hf⟩ := fit_tup hf
  exact fun d hd => fit_kind (hf d hd)
theorem ok_numbersIn {f : Addr} {fd : FuncData} (F : Fun K "numbers_in" "numbers_in" s_numbers_in f fd) (Z : Zs mg) : FnG P w K mg base CX0 1 f fd P_numbers_in (toSp K spNums) := by
  refine fnX F sc_numbers_in v_numbers_in l_numbers_in g_numbers_in (fun ds C k h => by obtain ⟨_, rfl, _⟩ := h; rfl) fun X hB ds C k h => ?_
  obtain ⟨m, rfl, hm, hl, h⟩ := h
  obtain ⟨hx, hn, hs, hg, hd, hnox⟩ := hB
  obtain ⟨T, e, hT⟩ := mem_tup hm
  have hk := mem_kind e
  rw [e]
  change WSs X _ [some (.tup (intsD m.nums ++ T)), none] C _
  have hTl : T.length ≤ 1 := by rcases hT with ⟨rfl, _⟩ | ⟨z, rfl⟩ <;> simp
  have hfil : (intsD m.nums ++ T).filter D.isIntB = intsD m.nums := by
    rw [List.filter_append, ints_fil]
    rcases hT with ⟨rfl, _⟩ | ⟨z, rfl⟩ <;> simp [D.isIntB]
  refine wss_cons ?_
  walk_at "pyR"
  refine lc1 ["item"] ["isinstance", "int"] hd (by walk_at "nm") (by decide +kernel) (by decide +kernel) (by decide +kernel) (by decide +kernel) (wi_tup ?_)
  walk_at "pyR"
  refine ⟨_, rfl, LcB.filter D.isIntB id trivial (by rw [List.length_append, ints_len]; exact Nat.le_trans (by omega : _ ≤ 2000) (by decide)) ?_ ?_ fun p hp => ?_⟩
  · intro d hdm X' hX hn' hg'
    have hx' := hx.blk hX
    have hkd := hk d hdm
    walk_at "pyR"
    exact ⟨rfl, rfl⟩
  · intro d hdm _ X' hX hn' hg'
    have hx' := hx.blk hX
    walk_at "pyR"
    exact ⟨rfl, rfl⟩
  · rw [hfil, List.map_id]
    exact h p hp
def spGone : DSp := fun ds C k => ∃ m, ds = [memD m] ∧ m ≠ .non ∧ m.nums.length ≤ 1000 ∧ k (.int (goneM m)) C
theorem ok_leftOut {f : Addr} {fd : FuncData} (F : Fun K "left_out" "left_out" s_left_out f fd) (Z : Zs mg) : FnG P w K mg base CX0 1 f fd P_left_out (toSp K spGone) := by
  refine fnX F sc_left_out v_left_out l_left_out g_left_out (fun ds C k h => by obtain ⟨_, rfl, _⟩ := h; rfl) fun X hB ds C k h => ?_
  obtain ⟨m, rfl, hm, hl, h⟩ := h
  obtain ⟨hx, hn, hs, hg, hd, hnox⟩ := hB
  obtain ⟨T, e, hT⟩ := mem_tup hm
  have hk := mem_kind e
  rw [e]
  change WSs X _ [some (.tup (intsD m.nums ++ T)), none] C _
  have hTl : T.length ≤ 1 := by rcases hT with ⟨rfl, _⟩ | ⟨z, rfl⟩ <;> simp
  have hTt : T.filter D.isTup = T := by rcases hT with ⟨rfl, _⟩ | ⟨z, rfl⟩ <;> simp [D.isTup]
  have hfil : (intsD m.nums ++ T).filter D.isTup = T := by rw [List.filter_append, ints_filT, List.nil_append, hTt]
  obtain ⟨g, hg2⟩ : ∃ g : D → D, g = fun d => match d with | .tup [_, y] => y | _ => .non := ⟨_, rfl⟩
  refine wss_cons ?_
  walk_at "pyR"
  refine we_fz (lc1 ["item"] ["isinstance", "tuple"] hd (by walk_at "nm") (by decide +kernel) (by decide +kernel) (by decide +kernel) (by decide +kernel) (wi_tup ?_))
  walk_at "pyR"
  refine ⟨_, rfl, LcB.filter D.isTup g trivial (by rw [List.length_append, ints_len]; exact Nat.le_trans (by omega : _ ≤ 2000) (by decide)) ?_ ?_ fun p hp => frz_ok hp ?_⟩
  · intro d hdm X' hX hn' hg'
    have hx' := hx.blk hX
    have hkd := hk d hdm
    walk_at "pyR"
    exact ⟨rfl, rfl⟩
  · intro d hdm ht X' hX hn' hg'
    have hx' := hx.blk hX
    have hdT : d ∈ T := by rw [← hfil]; exact List.mem_filter.mpr ⟨hdm, ht⟩
    rcases hT with ⟨rfl, _⟩ | ⟨z, rfl⟩
    · simp at hdT
    · rw [List.mem_singleton.mp hdT]
      walk_at "pyR"
      exact ⟨by rw [hg2], rfl⟩
  · rw [hfil]
    walk_at "pyR"
    rcases hT with ⟨rfl, h0⟩ | ⟨z, rfl⟩
    · refine ⟨_, [], rfl, rfl, ?_⟩
      rw [h0] at h; exact h
    · refine ⟨_, [goneM m], rfl, by rw [hg2]; rfl, ?_⟩
      rw [show ([goneM m] : List Int).sum = goneM m by simp]; exact h
end
end K31
namespace K31
section
variable {P : Program} {w : World} {K : PySem.W.Frag} {mg : Str → Option Value} {base : Heap}
theorem slen_app (x y : Str) : (x ++ y).length = x.length + y.length := by rw [str_len, str_len, str_len, str_app, List.length_append]
theorem emp_app (x : Str) : Str.empty ++ x = x := str_ext (by rw [str_app]; rfl)
def spHead : DSp := fun ds C k => ∃ e, ds = [entD e] ∧ e.kind.length ≤ 1000 ∧ e.msg.length ≤ 1000000 ∧ k (.str (headS e.kind e.msg)) C
theorem ok_headline {f : Addr} {fd : FuncData} (F : Fun K "headline" "headline" s_headline f fd) (Z : Zs mg) (g1 : MgK K mg "FEED" (.str "\n")) : FnG P w K mg base CX0 1 f fd P_headline (toSp K spHead) := by
  refine fnS F sc_headline v_headline l_headline g_headline (fun ds C k h => by obtain ⟨_, rfl, _⟩ := h; rfl) fun X hB ds C k h => ?_
  obtain ⟨e, rfl, hk, hm, h⟩ := h
  obtain ⟨hx, hn, hs, hg, hd, hnox⟩ := hB
  show WSs X _ [some (.tup [.str e.kind, .str e.msg, .tup (e.notes.map D.str), .tup e.rows, memD e.mem, lnkD e.link]), none, none, none, none] C _
  refine wss_cons ?_
  walk_at "pyS"
  refine wg_tupS (m := 3) (i := 2) hx.calm rfl rfl (by decide) (Nat.le_of_ble_eq_true rfl) fun q hq => ?_
  show WGs X _ [.str e.kind, .str e.msg, .own q] _ _ _
  walk_at "pyS"
  refine ⟨e.msg, "\n", rfl, rfl, by decide +kernel, Nat.le_trans (by omega : _ ≤ 2000000) (by decide), fun p hp => ?_⟩
  obtain ⟨y, rest, hsp, hyl⟩ := split_hd e.msg
  have hhd : (Txt.split e.msg "\n").headD "" = y := by rw [hsp]; rfl
  rw [hsp]
  walk_at "pyS"
  refine ix_p (d := .str y) (at_nat (i := 0) rfl) ?_
  show WSs X _ _ _ _
  walk_at "pyS"
  refine eq_sS ?_
  walk_at "pyS"
  · rename_i hq2
    refine ⟨C, (Sub.new (Sub.refl C) hq).trans (Sub.new (Sub.refl _) hp), ?_⟩
    rw [show headS e.kind e.msg = e.kind from if_pos hq2] at h
    exact h
  · rename_i hq2
    have l1 : (Str.empty ++ e.kind).length ≤ 1000 := by rw [slen_app]; exact Nat.le_trans (by rw [show Str.empty.length = 0 from rfl]; omega) hk
    have l2 : (Str.empty ++ e.kind ++ ": ").length ≤ 1002 := by rw [slen_app, show ((": " : Str)).length = 2 by decide +kernel]; omega
    have l3 : (Str.empty ++ e.kind ++ ": " ++ y).length ≤ 1001002 := by rw [slen_app]; omega
    refine .inl ⟨_, rfl, Nat.le_trans hk (by decide), _, rfl, Nat.le_trans l1 (by decide), ?_⟩
    walk_at "pyS"
    refine ⟨_, rfl, Nat.le_trans l2 (by decide), ?_⟩
    walk_at "pyS"
    refine .inl ⟨_, rfl, Nat.le_trans hyl (Nat.le_trans hm (by decide)), _, rfl, Nat.le_trans l3 (by decide), ?_⟩
    walk_at "pyS"
    refine ⟨C, (Sub.new (Sub.refl C) hq).trans (Sub.new (Sub.refl _) hp), ?_⟩
    rw [show headS e.kind e.msg = Str.empty ++ e.kind ++ ": " ++ y by rw [show headS e.kind e.msg = e.kind ++ ": " ++ (Txt.split e.msg "\n").headD "" from if_neg (by rw [hq2]; simp), hhd, emp_app]] at h
    exact h
end
end K31
namespace K31
/-! walks over entries -/
structure Lim where
  w : Option Nat := none
  d : Option Nat := none
  c : Option Nat := none
def limD : Option Nat → D
  | none => .non
  | some n => .int (n : Nat)
def over (o : Option Nat) (n : Nat) : Bool := match o with
  | none => false
  | some m => decide (m ≤ n)
abbrev WSt := List Nat × List D
def allF (M : Nat → WSt → Option (Nat × WSt)) : List Nat → WSt → Option (List Nat × WSt)
  | [], s => some ([], s)
  | x :: xs, s => (M x s).bind fun r => (allF M xs r.2).bind fun rs => some (r.1 :: rs.1, rs.2)
def cutN (o : Option Nat) (ns : List Nat) : List Nat := match o with
  | none => ns
  | some n => ns.take n
def moreM (rs : List Nat) (many : Int) : Mem := if 0 < many then .some rs (some many) else .some rs none
def memF (L : Lim) (dep : Nat) (M : Nat → WSt → Option (Nat × WSt)) (m : Mem) (s : WSt) : Option (Mem × WSt) := match m with
  | .non => some (.non, s)
  | m => if m.nums = [] ∨ over L.d dep = true then some (.deep (m.nums.length + goneM m), s)
    else (allF M (cutN L.w m.nums) s).bind fun r => some (moreM r.1 (m.nums.length - (cutN L.w m.nums).length + goneM m), r.2)
def lnkF (L : Lim) (dis : Nat) (M : Nat → WSt → Option (Nat × WSt)) (l : Option (Str × Option Nat)) (s : WSt) : Option (Option (Str × Option Nat) × WSt) := match l with
  | none => some (none, s)
  | some (w, none) => some (some (w, none), s)
  | some (w, some x) => if over L.c dis = true then some (some (w, none), s) else (M x s).bind fun r => some (some (w, some r.1), r.2)
/-- an entry is met -/
def meetF (L : Lim) (E : List Ent) : Nat → Nat → Nat → Nat → WSt → Option (Nat × WSt)
  | 0, _, _, _, _ => none
  | n + 1, key, dep, dis, s => if key ∈ s.1 then some (s.1.idxOf key, s) else (E[key]?).bind fun e =>
    (memF L dep (fun x s => meetF L E n x (dep + 1) 0 s) e.mem (s.1 ++ [key], s.2 ++ [.non])).bind fun m =>
    (lnkF L dis (fun x s => meetF L E n x dep (dis + 1) s) e.link m.2).bind fun l =>
    some (s.2.length, (l.2.1, l.2.2.set s.2.length (entD { e with mem := m.1, link := l.1 })))
/-! the numbers as a dict -/
def numFrom (i : Nat) : List Nat → List (Key × D)
  | [] => []
  | k :: ks => (Sum.inl (k : Int), .int (i : Nat)) :: numFrom (i + 1) ks
abbrev numD (ks : List Nat) : List (Key × D) := numFrom 0 ks
theorem numF_len : ∀ (ks : List Nat) (i : Nat), (numFrom i ks).length = ks.length
  | [], _ => rfl
  | k :: ks, i => by simp [numFrom, numF_len ks]
theorem num_val (x : Nat) : ∀ (ks : List Nat) (i : Nat), valD (numFrom i ks) (Sum.inl (x : Int)) = if x ∈ ks then some (.int ((i + ks.idxOf x : Nat) : Int)) else none
  | [], i => rfl
  | k :: ks, i => by
    have ih := num_val x ks (i + 1)
    unfold valD at ih ⊢
    rw [numFrom, List.find?_cons]
    by_cases h : k = x
    · subst h; simp
    · have h' : ¬ ((Sum.inl (k : Int) : Key) = Sum.inl (x : Int)) := fun e => h (by have := Sum.inl.inj e; omega)
      have h2 : ¬ x = k := fun e => h e.symm
      simp only [h', decide_false]
      rw [ih]
      by_cases hm : x ∈ ks
      · rw [if_pos hm, if_pos (List.mem_cons_of_mem _ hm), List.idxOf_cons, beq_eq_false_iff_ne.mpr h, cond_false]
        congr 2; omega
      · rw [if_neg hm, if_neg (by simp [h2, hm])]
theorem num_app (x : Nat) : ∀ (ks : List Nat) (i : Nat), numFrom i ks ++ [(Sum.inl (x : Int), .int ((i + ks.length : Nat) : Int))] = numFrom i (ks ++ [x])
  | [], i => rfl
  | k :: ks, i => by
    rw [numFrom, List.cons_append, List.cons_append, numFrom, ← num_app x ks (i + 1), List.length_cons, show i + 1 + ks.length = i + (ks.length + 1) by omega]
theorem num_any (x : Nat) : ∀ (ks : List Nat) (i : Nat), x ∉ ks → ((numFrom i ks).any fun kv => decide (kv.1 = Sum.inl (x : Int))) = false
  | [], _, _ => rfl
  | k :: ks, i, h => by
    have h' : ¬ ((Sum.inl (k : Int) : Key) = Sum.inl (x : Int)) := fun e => h (by have := Sum.inl.inj e; simp; omega)
    rw [numFrom, List.any_cons, num_any x ks (i + 1) fun z => h (List.mem_cons_of_mem _ z)]
    simp [h']
theorem num_put {x : Nat} {ks : List Nat} (h : x ∉ ks) : putD (numD ks) (Sum.inl (x : Int)) (.int (ks.length : Nat)) = numD (ks ++ [x]) := by
  unfold putD
  rw [num_any x ks 0 h, if_neg (by simp)]
  have := num_app x ks 0
  rw [Nat.zero_add] at this
  exact this
/-! the walk as an object -/
abbrev wkKs : List Str := ["old", "most_members", "most_depth", "most_links", "numbers", "found"]
def OldIs (C : CS) (old : D) (E : List Ent) : Prop := old = .tup (E.map entD) ∨ old = .lst (E.map entD) ∨ ∃ o, old = .own o ∧ C o = some (.lst (E.map entD))
structure Wk (Cl p a f : Addr) (old : D) (L : Lim) (E : List Ent) (s : WSt) (C : CS) : Prop where
  ho : C p = some (.ins Cl wkKs [old, limD L.w, limD L.d, limD L.c, .own a, .own f])
  ha : C a = some (.dic (numD s.1))
  hf : C f = some (.lst s.2)
  hl : s.2.length = s.1.length
  nd : s.1.Nodup
  lt : ∀ x ∈ s.1, x < E.length
  olds : OldIs C old E
  onf : old ≠ .own f
  el : E.length ≤ 1000
  en : ∀ e ∈ E, e.mem.nums.length ≤ 1000
section
variable {Cl p a f q : Addr} {old : D} {L : Lim} {E : List Ent} {s : WSt} {C C' : CS} {k : KD}
theorem Wk.pa (h : Wk Cl p a f old L E s C) : p ≠ a := fun e => by have := h.ho; rw [e, h.ha] at this; cases this
theorem Wk.pf (h : Wk Cl p a f old L E s C) : p ≠ f := fun e => by have := h.ho; rw [e, h.hf] at this; cases this
theorem Wk.af (h : Wk Cl p a f old L E s C) : a ≠ f := fun e => by have := h.ha; rw [e, h.hf] at this; cases this
theorem Wk.ins (h : Wk Cl p a f old L E s C) : insD C (.own p) = some (Cl, wkKs, [old, limD L.w, limD L.d, limD L.c, .own a, .own f]) := insD_own h.ho
theorem OldIs.fx {bs : List Addr} (h : OldIs C old E) (hf : Fx bs C C') (ho : ∀ o, old = .own o → o ∉ bs) : OldIs C' old E := by
  rcases h with h | h | ⟨o, h1, h2⟩
  · exact .inl h
  · exact .inr (.inl h)
  · exact .inr (.inr ⟨o, h1, hf.at (ho o h1) h2⟩)
theorem Wk.oa (h : Wk Cl p a f old L E s C) (o : Addr) (e : old = .own o) : o ∉ [a, f] := fun hm => by
  rcases h.olds with h1 | h1 | ⟨o', h1, h2⟩
  · rw [e] at h1; cases h1
  · rw [e] at h1; cases h1
  · rw [e] at h1; cases h1
    simp only [List.mem_cons, List.not_mem_nil, or_false] at hm
    rcases hm with rfl | rfl
    · rw [h.ha] at h2; cases h2
    · exact h.onf e
theorem Wk.nw (h : Wk Cl p a f old L E s C) {c : Cell} (hq : C q = none) : Wk Cl p a f old L E s (DL.put C q c) := by
  have fx : Fx [] C (DL.put C q c) := (Fx.refl C).put (.inr hq)
  exact ⟨fx.at (by simp) h.ho, fx.at (by simp) h.ha, fx.at (by simp) h.hf, h.hl, h.nd, h.lt, h.olds.fx fx (fun _ _ => by simp), h.onf, h.el, h.en⟩
theorem Wk.ksl (h : Wk Cl p a f old L E s C) : s.1.length ≤ E.length := by
  have := nodup_sub s.1 (List.range E.length) h.nd fun x hx => List.mem_range.mpr (h.lt x hx)
  rwa [List.length_range] at this
theorem old_ix {i : Nat} {e : Ent} (h : OldIs C old E) (he : E[i]? = some e) (q : k (entD e) C) : dIx old (.int (i : Nat)) C k := by
  have hx : atI (E.map entD) (i : Nat) = some (entD e) := at_nat (by rw [List.getElem?_map, he]; rfl)
  rcases h with rfl | rfl | ⟨o, rfl, h2⟩
  · exact ix_t hx q
  · exact ix_f hx q
  · exact ix_o h2 hx q
end
/-- what the text says of the class -/
structure Twc (K : PySem.W.Frag) (Cl : Addr) : Prop where
  f1 : FldC K Cl "old"
  f2 : FldC K Cl "most_members"
  f3 : FldC K Cl "most_depth"
  f4 : FldC K Cl "most_links"
  f5 : FldC K Cl "numbers"
  f6 : FldC K Cl "found"
section
variable {P : Program} {w : World} {K : PySem.W.Frag} {mg : Str → Option Value} {base : Heap} {Cl : Addr}
def spWInit (Cl : Addr) : DSp := fun ds C k => ∃ p old L E, ds = [.own p, old, limD L.w, limD L.d, limD L.c] ∧ C p = some (.ins Cl [] []) ∧ OldIs C old E ∧ E.length ≤ 1000 ∧ (∀ e ∈ E, e.mem.nums.length ≤ 1000) ∧
  ∀ C' a f, Wk Cl p a f old L E ([], []) C' → Fx [p] C C' → C a = none → C f = none → k .non C'
theorem fp_app {f : Str} {d : D} : ∀ {ks : List Str} {xs : List D}, ks.length = xs.length → f ∉ ks → FPut f d ks xs (ks ++ [f]) (xs ++ [d])
  | [], [], _, _ => .nil
  | g :: ks, x :: xs, hl, h => .there (beq_eq_false_iff_ne.mpr fun e => h (by simp [e])) (fp_app (by simpa using hl) fun z => h (by simp [z]))
  | [], _ :: _, hl, _ => by simp at hl
  | _ :: _, [], hl, _ => by simp at hl
theorem wInit_end {p a f' : Addr} {C : CS} {old : D} {L : Lim} {E : List Ent} (hp : C p = some (.ins Cl [] [])) (ha0 : C a = none) (hf : C f' = none) (hpa : p ≠ a) (hpf : p ≠ f') (haf : a ≠ f') (hold : OldIs C old E) (hel : E.length ≤ 1000) (hen : ∀ e ∈ E, e.mem.nums.length ≤ 1000) (c1 c3 : Cell) :
    Wk Cl p a f' old L E ([], []) (DL.put (DL.put (DL.put (DL.put (DL.put C p c1) a (.dic [])) p c3) f' (.lst [])) p (.ins Cl wkKs [old, limD L.w, limD L.d, limD L.c, .own a, .own f'])) ∧
    Fx [p] C (DL.put (DL.put (DL.put (DL.put (DL.put C p c1) a (.dic [])) p c3) f' (.lst [])) p (.ins Cl wkKs [old, limD L.w, limD L.d, limD L.c, .own a, .own f'])) := by
  have F : Fx [p] C (DL.put (DL.put (DL.put (DL.put (DL.put C p c1) a (.dic [])) p c3) f' (.lst [])) p (.ins Cl wkKs [old, limD L.w, limD L.d, limD L.c, .own a, .own f'])) :=
    (((((Fx.refl C).put (.inl (by simp))).put (.inr ha0)).put (.inl (by simp))).put (.inr hf)).put (.inl (by simp))
  refine ⟨⟨put_same, ?_, ?_, rfl, List.nodup_nil, fun _ hx => by simp at hx, hold.fx F fun o e => ?_, fun e => ?_, hel, hen⟩, F⟩
  · rw [put_ne hpa.symm, put_ne haf, put_ne hpa.symm]; exact put_same
  · rw [put_ne hpf.symm]; exact put_same
  · rcases hold with h1 | h1 | ⟨o', h1, h2⟩
    · rw [e] at h1; cases h1
    · rw [e] at h1; cases h1
    · rw [e] at h1; cases h1
      intro z
      rw [List.mem_singleton.mp z, hp] at h2; cases h2
  · rcases hold with h1 | h1 | ⟨o', h1, h2⟩
    · rw [e] at h1; cases h1
    · rw [e] at h1; cases h1
    · rw [e] at h1; cases h1
      rw [hf] at h2; cases h2
theorem ok_wInit {f : Addr} {fd : FuncData} (F : Fun K "__init__" "Walk.__init__" s_Walk___init__ f fd) (T : Twc K Cl) : FnG P w K mg base CX0 1 f fd P_Walk___init__ (toSp K (spWInit Cl)) := by
  refine fnX F sc_Walk___init__ v_Walk___init__ l_Walk___init__ g_Walk___init__ (fun ds C k h => by obtain ⟨_, _, _, _, rfl, _⟩ := h; rfl) fun X hB ds C k h => ?_
  obtain ⟨p, old, L, E, rfl, hp, hold, hel, hen, h⟩ := h
  obtain ⟨hx, hn, hs, hg, hd, hnox⟩ := hB
  change WSs X _ [some (.own p), some old, some (limD L.w), some (limD L.d), some (limD L.c)] C _
  refine wss_cons ?_
  walk_at "pyC"
  refine ⟨p, Cl, [], [], _, _, rfl, hp, T.f1, by decide, fp_app rfl (by decide), ?_⟩
  walk_at "pyC"
  refine ⟨p, Cl, _, _, _, _, rfl, put_same, T.f2, by decide, fp_app rfl (by decide +kernel), ?_⟩
  rw [put_put]
  walk_at "pyC"
  refine ⟨p, Cl, _, _, _, _, rfl, put_same, T.f3, by decide, fp_app rfl (by decide +kernel), ?_⟩
  rw [put_put]
  walk_at "pyC"
  refine ⟨p, Cl, _, _, _, _, rfl, put_same, T.f4, by decide, fp_app rfl (by decide +kernel), ?_⟩
  rw [put_put]
  walk_at "pyC"
  intro a ha
  have hpa : p ≠ a := fun e => by rw [e, put_same] at ha; cases ha
  have ha0 : C a = none := by rw [put_ne hpa.symm] at ha; exact ha
  walk_at "pyC"
  refine ⟨p, Cl, _, _, _, _, rfl, by rw [put_ne hpa]; exact put_same, T.f5, by decide, fp_app rfl (by decide +kernel), ?_⟩
  walk_at "pyC"
  refine we_nil fun f' hf => ?_
  have hpf : p ≠ f' := fun e => by rw [e, put_same] at hf; cases hf
  rw [put_ne hpf.symm] at hf
  have haf : a ≠ f' := fun e => by rw [e, put_same] at hf; cases hf
  rw [put_ne haf.symm, put_ne hpf.symm] at hf
  walk_at "pyC"
  refine ⟨p, Cl, _, _, _, _, rfl, by rw [put_ne hpf]; exact put_same, T.f6, by decide, fp_app rfl (by decide +kernel), ?_⟩
  walk_at "pyC"
  have z := wInit_end (L := L) hp ha0 hf hpa hpf haf hold hel hen
  exact h _ a f' (z _ _).1 (z _ _).2 ha0 hf
end
end K31
namespace K31
section
variable {P : Program} {w : World} {K : PySem.W.Frag} {mg : Str → Option Value} {base : Heap} {Cl : Addr}
/-- an entry is met, n deep -/
def spMeet (Cl : Addr) (n : Nat) : DSp := fun ds C k => ∃ (p a f : Addr) (old : D) (L : Lim) (E : List Ent) (s : WSt) (key dep dis : Nat), ds = [.own p, .int (key : Nat), .int (dep : Nat), .int (dis : Nat)] ∧ Wk Cl p a f old L E s C ∧ ∃ r s', meetF L E n key dep dis s = some (r, s') ∧
  ∀ C', Wk Cl p a f old L E s' C' → Fx [a, f] C C' → k (.int (r : Nat)) C'
def spMLink (Cl : Addr) (n : Nat) : DSp := fun ds C k => ∃ (p a f : Addr) (old : D) (L : Lim) (E : List Ent) (s : WSt) (l : Option (Str × Option Nat)) (dep dis : Nat), ds = [.own p, lnkD l, .int (dep : Nat), .int (dis : Nat)] ∧ Wk Cl p a f old L E s C ∧
  ∃ r s', lnkF L dis (fun x s => meetF L E n x dep (dis + 1) s) l s = some (r, s') ∧ ∀ C', Wk Cl p a f old L E s' C' → Fx [a, f] C C' → k (lnkD r) C'
def spMMem (Cl : Addr) (n : Nat) : DSp := fun ds C k => ∃ (p a f : Addr) (old : D) (L : Lim) (E : List Ent) (s : WSt) (m : Mem) (dep : Nat), ds = [.own p, memD m, .int (dep : Nat)] ∧ Wk Cl p a f old L E s C ∧ m.nums.length ≤ 1000 ∧
  ∃ r s', memF L dep (fun x s => meetF L E n x (dep + 1) 0 s) m s = some (r, s') ∧ ∀ C', Wk Cl p a f old L E s' C' → Fx [a, f] C C' → k (memD r) C'
theorem ok_meet0 {f : Addr} {fd : FuncData} {ps : List Str} {n : Nat} : FnG P w K mg base CX0 n f fd ps (toSp K (spMeet Cl 0)) := fnG_no fun ds C k h => by
  obtain ⟨_, _, _, _, _, _, _, _, _, _, _, _, _, _, hm, _⟩ := h
  cases hm
theorem ok_mLink {f : Addr} {fd : FuncData} (n : Nat) (F : Fun K "met_link" "Walk.met_link" s_Walk_met_link f fd) (T : Twc K Cl) (h1 : MthC P w K mg base Cl "meet" (2 * n + 2) [] (spMeet Cl n)) : FnG P w K mg base CX0 (2 * n + 3) f fd P_Walk_met_link (toSp K (spMLink Cl n)) := by
  refine fnX F sc_Walk_met_link v_Walk_met_link l_Walk_met_link g_Walk_met_link (fun ds C k h => by obtain ⟨_, _, _, _, _, _, _, _, _, _, rfl, _⟩ := h; rfl) fun X hB ds C k h => ?_
  obtain ⟨p, a, f', old, L, E, s, l, dep, dis, rfl, hW, r, s', hr, h⟩ := h
  obtain ⟨hx, hn, hs, hg, hd, hnox⟩ := hB
  have hI := hW.ins
  have tf := T.f4
  rcases l with _ | ⟨wd, _ | x⟩
  · show WSs X _ [some (.own p), some .non, some (.int dep), some (.int dis), none, none] C _
    cases hr
    refine wss_cons ?_
    walk_at "pyC"
    all_goals try walk_at "bad"
    exact h C hW (Fx.refl C)
  · show WSs X _ [some (.own p), some (.tup [.str wd, .non]), some (.int dep), some (.int dis), none, none] C _
    cases hr
    refine wss_cons ?_
    walk_at "pyC"
    all_goals try walk_at "bad"
    exact h C hW (Fx.refl C)
  · show WSs X _ [some (.own p), some (.tup [.str wd, .int x]), some (.int dep), some (.int dis), none, none] C _
    unfold lnkF at hr
    simp only at hr
    cases hc : L.c with
    | none =>
      rw [hc] at hI hr
      have hI : insD C (.own p) = some (Cl, wkKs, [old, limD L.w, limD L.d, .non, .own a, .own f']) := hI
      rw [if_neg (by simp [over])] at hr
      refine wss_cons ?_
      walk_at "pyC"
      all_goals try walk_at "bad"
      refine x_meth hx h1 ?_ (by omega)
      walk_at "pyC"
      refine ⟨⟨_, _, hI, by decide +kernel⟩, ?_⟩
      walk_at "pyC"
      cases hm : meetF L E n x dep (dis + 1) s with
      | none => rw [hm] at hr; cases hr
      | some v =>
        rw [hm] at hr
        cases hr
        refine ⟨p, a, f', old, L, E, s, x, dep, dis + 1, rfl, hW, v.1, v.2, hm, fun C' hW' hF => ?_⟩
        walk_at "pyC"
        exact h C' hW' hF
    | some c =>
      rw [hc] at hI hr
      have hI : insD C (.own p) = some (Cl, wkKs, [old, limD L.w, limD L.d, .int c, .own a, .own f']) := hI
      refine wss_cons ?_
      walk_at "pyC"
      all_goals try walk_at "bad"
      · rename_i hq
        rw [if_pos (show over (some c) dis = true from decide_eq_true (by have := of_decide_eq_true hq; omega))] at hr
        cases hr
        exact h C hW (Fx.refl C)
      · rename_i hq
        have ho : over (some c) dis = false := decide_eq_false (by have := of_decide_eq_false hq; omega)
        rw [if_neg (by rw [ho]; simp)] at hr
        refine x_meth hx h1 ?_ (by omega)
        walk_at "pyC"
        refine ⟨⟨_, _, hI, by decide +kernel⟩, ?_⟩
        walk_at "pyC"
        cases hm : meetF L E n x dep (dis + 1) s with
        | none => rw [hm] at hr; cases hr
        | some v =>
          rw [hm] at hr
          cases hr
          refine ⟨p, a, f', old, L, E, s, x, dep, dis + 1, rfl, hW, v.1, v.2, hm, fun C' hW' hF => ?_⟩
          walk_at "pyC"
          exact h C' hW' hF
end
end K31
namespace K31
theorem cut_take (ns : List Nat) (n : Nat) : cutD (intsD ns) none (some (n : Int)) = intsD (ns.take n) := by
  unfold cutD
  have e1 : HT.sIx (intsD ns).length 0 none = 0 := rfl
  rw [e1, sIx_nat', List.drop_zero, Nat.sub_zero, ints_len]
  unfold intsD
  rw [List.map_take]
  rcases Nat.le_total n ns.length with h | h
  · rw [Nat.min_eq_left h]
  · rw [Nat.min_eq_right h, List.take_of_length_le (by simp), List.take_of_length_le (by simpa using h)]
theorem ints_fit (ns : List Nat) : ∀ d ∈ intsD ns, d.fit 0 = true := fun d hd => by
  obtain ⟨x, _, rfl⟩ := List.mem_map.mp hd
  rfl
theorem ints_nil (ns : List Nat) : eqL (intsD ns) [] = decide (ns = []) := by
  cases ns <;> rfl
theorem ints_at {ns : List Nat} {j : Nat} {d : D} (h : (intsD ns)[j]? = some d) : ∃ x, ns.drop j = x :: ns.drop (j + 1) ∧ d = .int (x : Nat) := by
  unfold intsD at h
  rw [List.getElem?_map] at h
  cases e : ns[j]? with
  | none => rw [e] at h; cases h
  | some x =>
    rw [e] at h
    cases h
    obtain ⟨hj, hx⟩ := List.getElem?_eq_some_iff.mp e
    exact ⟨x, by rw [← hx]; exact List.drop_eq_getElem_cons hj, rfl⟩
theorem cutN_len (o : Option Nat) (ns : List Nat) : (cutN o ns).length ≤ ns.length := by
  cases o with
  | none => exact Nat.le_refl _
  | some n => exact List.length_take_le' ..
section
variable {P : Program} {w : World} {K : PySem.W.Frag} {mg : Str → Option Value} {base : Heap} {Cl : Addr}
theorem ok_mMem {f : Addr} {fd : FuncData} (n : Nat) (F : Fun K "met_members" "Walk.met_members" s_Walk_met_members f fd) (T : Twc K Cl) (Z : Zs mg) (h1 : MthC P w K mg base Cl "meet" (2 * n + 2) [] (spMeet Cl n)) (h2 : FnC P w K mg base "numbers_in" 1 spNums) (h3 : FnC P w K mg base "left_out" 1 spGone)
    (g1 : MgK K mg "DEEP" (.str "deep")) (g2 : MgK K mg "MORE" (.str "more")) : FnG P w K mg base CX0 (2 * n + 3) f fd P_Walk_met_members (toSp K (spMMem Cl n)) := by
  refine fnX F sc_Walk_met_members v_Walk_met_members l_Walk_met_members g_Walk_met_members (fun ds C k h => by obtain ⟨_, _, _, _, _, _, _, _, _, rfl, _⟩ := h; rfl) fun X hB ds C k h => ?_
  obtain ⟨p, a, f', old, L, E, s, m, dep, rfl, hW, hml, r, s', hr, h⟩ := h
  obtain ⟨hx, hn, hs, hg, hd, hnox⟩ := hB
  have hI := hW.ins
  by_cases hm : m = .non
  · subst hm
    cases hr
    show WSs X _ [some (.own p), some .non, some (.int dep), none, none, none, none, none, none] C _
    refine wss_cons ?_
    walk_at "pyC"
    all_goals try walk_at "bad"
    exact h C hW (Fx.refl C)
  obtain ⟨T', e, hT⟩ := mem_tup hm
  have hr : (if m.nums = [] ∨ over L.d dep = true then some (Mem.deep (m.nums.length + goneM m), s)
    else (allF (fun x s => meetF L E n x (dep + 1) 0 s) (cutN L.w m.nums) s).bind fun r => some (moreM r.1 (m.nums.length - (cutN L.w m.nums).length + goneM m), r.2)) = some (r, s') := by
    cases m with
    | non => exact absurd rfl hm
    | deep n => exact hr
    | some ns mo => exact hr
  show WSs X _ [some (.own p), some (memD m), some (.int dep), none, none, none, none, none, none] C _
  rw [e]
  refine wss_cons ?_
  walk_at "py"
  all_goals try walk_at "bad"
  refine ⟨m, by rw [e], hm, hml, fun q hq => ?_⟩
  walk_at "py"
  refine ⟨m, by rw [e], hm, hml, ?_⟩
  refine wa_nil (ex_2 ?_)
  show WSs X _ _ _ _
  refine wss_frzI 6 rfl put_same ?_
  rw [del_put hq]
  simp only [List.set_cons_succ, List.set_cons_zero]
  have t2 := T.f2
  have t3 := T.f3
  have rest2 : m.nums ≠ [] → over L.d dep = false → ∀ o : Option D, WSh X ((defBody s_Walk_met_members).drop 4) [some (.own p), some (.tup (intsD m.nums ++ T')), some (.int dep), some (.lst (intsD (cutN L.w m.nums))), none, none, some (.lst (intsD m.nums)), some (.int (goneM m)), o] C { nx := fun _ C' => k .non C', rt := k } := by
    intro hne hov o
    rw [if_neg (by simp [hne, hov])] at hr
    cases ha : allF (fun x s => meetF L E n x (dep + 1) 0 s) (cutN L.w m.nums) s with
    | none => rw [ha] at hr; cases hr
    | some v =>
      rw [ha] at hr
      cases hr
      obtain ⟨R, sE⟩ := v
      refine wsh_go (wss_cons ?_)
      refine ws_lc1 (M0 := []) ["self", "depth", "key"] [] hd (by walk_at "nm") (by decide +kernel) (by walk_at "nm") (by decide +kernel) (by decide +kernel) (by decide +kernel) (by decide +kernel) ((sww_env hd.sc _ _ _).trans (by rfl)) (wi_ls ?_)
      walk_at "py"
      refine ⟨_, rfl, ?_⟩
      refine ⟨fun j acc C' => ∃ (rs rest : List Nat) (s1 : WSt), acc = intsD rs ∧ rs.length = j ∧ j ≤ (cutN L.w m.nums).length ∧ Wk Cl p a f' old L E s1 C' ∧ Fx [a, f'] C C' ∧ allF (fun x s => meetF L E n x (dep + 1) 0 s) ((cutN L.w m.nums).drop j) s1 = some (rest, sE) ∧ rs ++ rest = R,
        ⟨[], R, s, rfl, rfl, Nat.zero_le _, hW, Fx.refl C, ha, rfl⟩, fun _ _ _ _ a ha => (by cases ha), ?_, ?_⟩
      · rintro j d acc C2 hj ⟨rs, rest, s1, rfl, hrl, hjl, hW1, hF1, hA, hR⟩ X' hX hn' hg'
        obtain ⟨x, hdr, rfl⟩ := ints_at hj
        have hj2 := (List.getElem?_eq_some_iff.mp hj).1
        rw [ints_len] at hj2
        refine wif_nil ⟨fun _ X' hX hn' hg' => ?_, fun h => Bool.noConfusion h⟩
        have hx' := hx.blk hX
        rw [hdr] at hA
        simp only [allF] at hA
        cases hm1 : meetF L E n x (dep + 1) 0 s1 with
        | none => rw [hm1] at hA; cases hA
        | some v1 =>
          rw [hm1] at hA
          simp only [Option.bind_some] at hA
          cases hm2 : allF (fun x s => meetF L E n x (dep + 1) 0 s) ((cutN L.w m.nums).drop (j + 1)) v1.2 with
          | none => rw [hm2] at hA; cases hA
          | some v2 =>
            rw [hm2] at hA
            cases hA
            refine x_meth hx' h1 ?_ (by omega)
            walk_at "py"
            refine ⟨⟨_, _, hW1.ins, by decide +kernel⟩, ?_⟩
            walk_at "py"
            refine ⟨p, a, f', old, L, E, s1, x, dep + 1, 0, rfl, hW1, v1.1, v1.2, hm1, fun C3 hW3 hF3 => ?_⟩
            refine ⟨by rw [ints_len]; exact Nat.lt_of_lt_of_le (by have := cutN_len L.w m.nums; omega : rs.length < 1000) (by decide), rs ++ [v1.1], v2.1, v1.2, by simp [intsD], by rw [List.length_append, hrl]; rfl, by omega, hW3, hF1.trans hF3, hm2, by simpa using hR⟩
      · rintro acc C2 ⟨rs, rest, s1, rfl, hrl, hjl, hW1, hF1, hA, hR⟩ q2 hq2
        rw [ints_len, List.drop_length] at hA
        cases hA
        rw [List.append_nil] at hR
        subst hR
        refine wss_frzI 4 rfl put_same ?_
        rw [del_put hq2]
        simp only [List.set_cons_succ, List.set_cons_zero]
        have hk := h C2 hW1 hF1
        have hcl := cutN_len L.w m.nums
        rw [ints_len] at hrl
        walk_at "pyS"
        · rename_i hq3
          rw [ints_len, ints_len] at hq3
          unfold moreM at hk
          rw [if_pos (of_decide_eq_true hq3)] at hk
          refine ⟨_, rfl, ?_⟩
          have hsz : (intsD rs ++ [D.tup [D.str "more", D.int (((intsD m.nums).length : Nat) - ((intsD (cutN L.w m.nums)).length : Nat) + goneM m)]]).length ≤ sizeLine := by
            rw [List.length_append, ints_len]; exact Nat.le_trans (by simp only [List.length_cons, List.length_nil]; omega : _ ≤ 2000) (by decide)
          walk_at "pyS"
          rw [ints_len, ints_len]
          exact hk
        · rename_i hq3
          rw [ints_len, ints_len] at hq3
          unfold moreM at hk
          rw [if_neg (of_decide_eq_false hq3)] at hk
          exact hk
  have rest : m.nums ≠ [] → over L.d dep = false → WSh X ((defBody s_Walk_met_members).drop 3) [some (.own p), some (.tup (intsD m.nums ++ T')), some (.int dep), none, none, none, some (.lst (intsD m.nums)), some (.int (goneM m)), none] C { nx := fun _ C' => k .non C', rt := k } := by
    intro hne hov
    have r2 := rest2 hne hov none
    refine wsh_go (wss_consH ?_)
    cases hL : L.w with
    | none =>
      rw [hL] at hI r2
      have hI : insD C (.own p) = some (Cl, wkKs, [old, .non, limD L.d, limD L.c, .own a, .own f']) := hI
      walk_at "pyS"
      all_goals try walk_at "bad"
      exact r2
    | some c =>
      rw [hL] at hI r2
      have hI : insD C (.own p) = some (Cl, wkKs, [old, .int c, limD L.d, limD L.c, .own a, .own f']) := hI
      walk_at "pyS"
      all_goals try walk_at "bad"
      rw [cut_take]
      exact r2
  have hdp : (m.nums = [] ∨ over L.d dep = true) → k (.tup [.tup [.str "deep", .int (((intsD m.nums).length : Nat) + goneM m)]]) C := fun hc => by
    rw [if_pos hc] at hr
    cases hr
    rw [ints_len]
    exact h C hW (Fx.refl C)
  -- cut by depth
  refine wss_consH ?_
  walk_at "pyS"
  refine eq_ll (ints_fit _) (fun d hd => by simp at hd) (by decide) (by decide) (m := 0) ?_
  rw [ints_nil]
  cases hL : L.d with
  | none =>
    rw [hL] at hI
    have hI : insD C (.own p) = some (Cl, wkKs, [old, limD L.w, .non, limD L.c, .own a, .own f']) := hI
    walk_at "pyS"
    all_goals try walk_at "bad"
    · rename_i hq; exact hdp (.inl (of_decide_eq_true hq))
    · rename_i hq _; exact rest (of_decide_eq_false hq) (by rw [hL]; rfl)
  | some c =>
    rw [hL] at hI
    have hI : insD C (.own p) = some (Cl, wkKs, [old, limD L.w, .int c, limD L.c, .own a, .own f']) := hI
    walk_at "pyS"
    all_goals try walk_at "bad"
    · rename_i hq; exact hdp (.inl (of_decide_eq_true hq))
    · rename_i hq; exact hdp (.inr (by rw [hL]; exact decide_eq_true (by have := of_decide_eq_true hq; omega)))
    · rename_i hq0 _ hq; exact rest (of_decide_eq_false hq0) (by rw [hL]; exact decide_eq_false (by have := of_decide_eq_false hq; omega))
end
end K31
namespace K31
section
variable {P : Program} {w : World} {K : PySem.W.Frag} {mg : Str → Option Value} {base : Heap} {Cl : Addr}
def Ext (s s' : WSt) : Prop := ∃ t, s'.1 = s.1 ++ t
theorem Ext.refl (s : WSt) : Ext s s := ⟨[], by simp⟩
theorem Ext.trans {s s1 s2 : WSt} (h : Ext s s1) (h2 : Ext s1 s2) : Ext s s2 := by
  obtain ⟨t, e⟩ := h
  obtain ⟨t2, e2⟩ := h2
  exact ⟨t ++ t2, by rw [e2, e, List.append_assoc]⟩
theorem allF_ext {M : Nat → WSt → Option (Nat × WSt)} (hM : ∀ x s r s', M x s = some (r, s') → Ext s s') : ∀ {xs : List Nat} {s : WSt} {rs : List Nat} {s' : WSt}, allF M xs s = some (rs, s') → Ext s s'
  | [], s, rs, s', h => by cases h; exact Ext.refl _
  | x :: xs, s, rs, s', h => by
    simp only [allF] at h
    cases h1 : M x s with
    | none => rw [h1] at h; cases h
    | some v =>
      rw [h1] at h
      simp only [Option.bind_some] at h
      cases h2 : allF M xs v.2 with
      | none => rw [h2] at h; cases h
      | some v2 =>
        rw [h2] at h
        cases h
        exact (hM x s v.1 v.2 h1).trans (allF_ext hM h2)
theorem memF_ext {L : Lim} {dep : Nat} {M : Nat → WSt → Option (Nat × WSt)} (hM : ∀ x s r s', M x s = some (r, s') → Ext s s') {m : Mem} {s : WSt} {r : Mem × WSt} (h : memF L dep M m s = some r) : Ext s r.2 := by
  have key : ∀ m : Mem, (if m.nums = [] ∨ over L.d dep = true then some (Mem.deep (m.nums.length + goneM m), s)
    else (allF M (cutN L.w m.nums) s).bind fun r => some (moreM r.1 (m.nums.length - (cutN L.w m.nums).length + goneM m), r.2)) = some r → Ext s r.2 := by
    intro m h
    split at h
    · cases h; exact Ext.refl _
    · cases h1 : allF M (cutN L.w m.nums) s with
      | none => rw [h1] at h; cases h
      | some v =>
        rw [h1] at h
        cases h
        exact allF_ext hM h1
  cases m with
  | non => cases h; exact Ext.refl _
  | deep n => exact key (.deep n) h
  | some ns mo => exact key (.some ns mo) h
theorem lnkF_ext {L : Lim} {dis : Nat} {M : Nat → WSt → Option (Nat × WSt)} (hM : ∀ x s r s', M x s = some (r, s') → Ext s s') {l : Option (Str × Option Nat)} {s : WSt} {r : Option (Str × Option Nat) × WSt} (h : lnkF L dis M l s = some r) : Ext s r.2 := by
  rcases l with _ | ⟨wd, _ | x⟩
  · cases h; exact Ext.refl _
  · cases h; exact Ext.refl _
  · simp only [lnkF] at h
    split at h
    · cases h; exact Ext.refl _
    · cases h1 : M x s with
      | none => rw [h1] at h; cases h
      | some v =>
        rw [h1] at h
        cases h
        exact hM x s v.1 v.2 h1
theorem meetF_ext {L : Lim} {E : List Ent} : ∀ (n : Nat) {key dep dis : Nat} {s : WSt} {r : Nat} {s' : WSt}, meetF L E n key dep dis s = some (r, s') → Ext s s'
  | 0, _, _, _, _, _, _, h => by cases h
  | n + 1, key, dep, dis, s, r, s', h => by
    unfold meetF at h
    split at h
    · cases h; exact Ext.refl _
    · cases he : E[key]? with
      | none => rw [he] at h; cases h
      | some e =>
        rw [he] at h
        simp only [Option.bind_some] at h
        cases hm1 : memF L dep (fun x s => meetF L E n x (dep + 1) 0 s) e.mem (s.1 ++ [key], s.2 ++ [.non]) with
        | none => rw [hm1] at h; cases h
        | some m =>
          rw [hm1] at h
          simp only [Option.bind_some] at h
          cases hm2 : lnkF L dis (fun x s => meetF L E n x dep (dis + 1) s) e.link m.2 with
          | none => rw [hm2] at h; cases h
          | some l =>
            rw [hm2] at h
            simp only [Option.bind_some, Option.some.injEq, Prod.mk.injEq] at h
            obtain ⟨rfl, rfl⟩ := h
            obtain ⟨t1, e1⟩ := memF_ext (fun x s r s' h => meetF_ext n h) hm1
            obtain ⟨t2, e2⟩ := lnkF_ext (fun x s r s' h => meetF_ext n h) hm2
            exact ⟨key :: (t1 ++ t2), by rw [e2, e1]; simp⟩
theorem ok_meet {f : Addr} {fd : FuncData} (n : Nat) (F : Fun K "meet" "Walk.meet" s_Walk_meet f fd) (T : Twc K Cl) (Z : Zs mg) (h1 : MthC P w K mg base Cl "met_members" (2 * n + 3) [] (spMMem Cl n)) (h2 : MthC P w K mg base Cl "met_link" (2 * n + 3) [] (spMLink Cl n)) : FnG P w K mg base CX0 (2 * n + 4) f fd P_Walk_meet (toSp K (spMeet Cl (n + 1))) := by
  refine fnX F sc_Walk_meet v_Walk_meet l_Walk_meet g_Walk_meet (fun ds C k h => by obtain ⟨_, _, _, _, _, _, _, _, _, _, rfl, _⟩ := h; rfl) fun X hB ds C k h => ?_
  obtain ⟨p, a, f', old, L, E, s, key, dep, dis, rfl, hW, r, s', hr, h⟩ := h
  obtain ⟨hx, hn, hs, hg, hd, hnox⟩ := hB
  have hI := hW.ins
  have t1 := T.f1
  have t5 := T.f5
  have t6 := T.f6
  change WSs X _ [some (.own p), some (.int key), some (.int dep), some (.int dis), none, none, none, none, none, none, none, none, none] C _
  have hA := hW.ha
  have hF := hW.hf
  unfold meetF at hr
  refine wss_cons ?_
  by_cases hk : key ∈ s.1
  · rw [if_pos hk] at hr
    cases hr
    have hv : valD (numD s.1) (Sum.inl (key : Int)) = some (.int (s.1.idxOf key : Nat)) := by rw [num_val, if_pos hk, Nat.zero_add]
    walk_at "pyK"
    refine .inr ⟨_, _, Sum.inl (key : Int), rfl, rfl, hA, ?_⟩
    rw [hv]
    walk_at "pyK"
    all_goals try walk_at "bad"
    refine .inr ⟨_, _, Sum.inl (key : Int), _, rfl, rfl, hA, hv, ?_⟩
    exact h C hW (Fx.refl C)
  · rw [if_neg hk] at hr
    have hv : valD (numD s.1) (Sum.inl (key : Int)) = none := by rw [num_val, if_neg hk]
    cases he : E[key]? with
    | none => rw [he] at hr; cases hr
    | some e =>
    rw [he] at hr
    simp only [Option.bind_some] at hr
    cases hm1 : memF L dep (fun x s => meetF L E n x (dep + 1) 0 s) e.mem (s.1 ++ [key], s.2 ++ [.non]) with
    | none => rw [hm1] at hr; cases hr
    | some m =>
    rw [hm1] at hr
    simp only [Option.bind_some] at hr
    cases hm2 : lnkF L dis (fun x s => meetF L E n x dep (dis + 1) s) e.link m.2 with
    | none => rw [hm2] at hr; cases hr
    | some l =>
    rw [hm2] at hr
    simp only [Option.bind_some, Option.some.injEq, Prod.mk.injEq] at hr
    obtain ⟨rfl, rfl⟩ := hr
    obtain ⟨hkl, hke⟩ := List.getElem?_eq_some_iff.mp he
    walk_at "pyK"
    refine .inr ⟨_, _, Sum.inl (key : Int), rfl, rfl, hA, ?_⟩
    rw [hv]
    walk_at "pyK"
    all_goals try walk_at "bad"
    refine .inl (len_own hF ?_)
    walk_at "pyK"
    refine .inr ⟨_, _, Sum.inl (key : Int), rfl, rfl, hA, by rw [numF_len]; exact Nat.lt_of_le_of_lt (Nat.le_trans hW.ksl hW.el) (by decide), ?_⟩
    rw [hW.hl, num_put hk]
    have ho1 : (DL.put C a (.dic (numD (s.1 ++ [key])))) p = some (.ins Cl wkKs [old, limD L.w, limD L.d, limD L.c, .own a, .own f']) := by rw [put_ne hW.pa]; exact hW.ho
    have ha1 : (DL.put C a (.dic (numD (s.1 ++ [key])))) a = some (.dic (numD (s.1 ++ [key]))) := put_same
    have hf1 : (DL.put C a (.dic (numD (s.1 ++ [key])))) f' = some (.lst s.2) := by rw [put_ne hW.af.symm]; exact hW.hf
    have F1 : Fx [a, f'] C (DL.put C a (.dic (numD (s.1 ++ [key])))) := (Fx.refl C).put (.inl (by simp))
    generalize DL.put C a (.dic (numD (s.1 ++ [key]))) = C1 at ho1 ha1 hf1 F1 ⊢
    have hI1 := insD_own ho1
    have ol1 := hW.olds.fx F1 hW.oa
    walk_at "pyK"
    refine .inl (old_ix ol1 he ?_)
    show WG X _ (.tup [.str e.kind, .str e.msg, .tup (e.notes.map D.str), .tup e.rows, memD e.mem, lnkD e.link]) _ _ _
    walk_at "pyK"
    refine app_ok hf1 (by have := hW.hl; have := hW.ksl; have := hW.el; exact Nat.lt_of_le_of_lt (by omega : _ ≤ 1000) (by decide)) ?_
    have W2 : Wk Cl p a f' old L E (s.1 ++ [key], s.2 ++ [.non]) (DL.put C1 f' (.lst (s.2 ++ [.non]))) := by
      have F2 : Fx [a, f'] C (DL.put C1 f' (.lst (s.2 ++ [.non]))) := F1.put (.inl (by simp))
      refine ⟨by rw [put_ne hW.pf]; exact ho1, by rw [put_ne hW.af]; exact ha1, put_same, by simp [hW.hl], ?_, fun x hx => ?_, hW.olds.fx F2 hW.oa, hW.onf, hW.el, hW.en⟩
      · refine List.nodup_append.mpr ⟨hW.nd, by simp, fun x hx y hy e => ?_⟩
        rw [List.mem_singleton.mp hy] at e
        exact hk (e ▸ hx)
      · rcases List.mem_append.mp hx with hx | hx
        · exact hW.lt x hx
        · rw [List.mem_singleton.mp hx]; exact hkl
    have F2 : Fx [a, f'] C (DL.put C1 f' (.lst (s.2 ++ [.non]))) := F1.put (.inl (by simp))
    generalize DL.put C1 f' (.lst (s.2 ++ [.non])) = C2 at W2 F2 ⊢
    walk_at "pyK"
    refine x_meth hx h1 ?_ (by omega)
    walk_at "pyK"
    refine ⟨⟨_, _, W2.ins, by decide +kernel⟩, ?_⟩
    walk_at "pyK"
    refine ⟨p, a, f', old, L, E, _, e.mem, dep, rfl, W2, hW.en e (by rw [← hke]; exact List.getElem_mem hkl), m.1, m.2, hm1, fun C3 W3 F3 => ?_⟩
    walk_at "pyK"
    refine x_meth hx h2 ?_ (by omega)
    walk_at "pyK"
    refine ⟨⟨_, _, W3.ins, by decide +kernel⟩, ?_⟩
    walk_at "pyK"
    refine ⟨p, a, f', old, L, E, _, e.link, dep, dis, rfl, W3, l.1, l.2, hm2, fun C4 W4 F4 => ?_⟩
    have hI4 := W4.ins
    walk_at "pyK"
    -- the keys that were met
    obtain ⟨t1', e1⟩ := memF_ext (fun x s r s' h => meetF_ext n h) hm1
    obtain ⟨t2', e2⟩ := lnkF_ext (fun x s r s' h => meetF_ext n h) hm2
    have e3 : l.2.1 = s.1 ++ key :: (t1' ++ t2') := by rw [e2, e1]; simp
    have hlen : s.2.length < l.2.2.length := by rw [W4.hl, hW.hl, e3, List.length_append, List.length_cons]; omega
    have hix : l.2.1.idxOf key = s.2.length := by rw [e3, List.idxOf_append, if_neg hk, hW.hl]; simp
    have hmem : key ∈ l.2.1 := by rw [e3]; simp
    rw [hW.hl] at hlen hix
    refine .inl ⟨f', _, _, s.1.length, rfl, rfl, W4.hf, by unfold ixN; rw [if_pos (by omega), if_pos (by omega)]; simp, ?_⟩
    have W5 : Wk Cl p a f' old L E (l.2.1, l.2.2.set s.1.length (entD { e with mem := m.1, link := l.1 })) (DL.put C4 f' (.lst (l.2.2.set s.1.length (entD { e with mem := m.1, link := l.1 })))) := by
      have F5 : Fx [a, f'] C4 (DL.put C4 f' (.lst (l.2.2.set s.1.length (entD { e with mem := m.1, link := l.1 })))) := (Fx.refl C4).put (.inl (by simp))
      exact ⟨by rw [put_ne W4.pf]; exact W4.ho, by rw [put_ne W4.af]; exact W4.ha, put_same, by simp [W4.hl], W4.nd, W4.lt, W4.olds.fx F5 W4.oa, W4.onf, W4.el, W4.en⟩
    have F5 : Fx [a, f'] C (DL.put C4 f' (.lst (l.2.2.set s.1.length (entD { e with mem := m.1, link := l.1 })))) := ((F2.trans F3).trans F4).put (.inl (by simp))
    rw [hW.hl] at h
    have hv5 : valD (numD l.2.1) (Sum.inl (key : Int)) = some (.int (s.1.length : Nat)) := by rw [num_val, if_pos hmem, hix, Nat.zero_add]
    have hk5 := h _ W5 F5
    change WSs X _ _ (DL.put C4 f' (.lst (l.2.2.set s.1.length (entD { e with mem := m.1, link := l.1 })))) _
    generalize DL.put C4 f' (.lst (l.2.2.set s.1.length (entD { e with mem := m.1, link := l.1 }))) = C5 at W5 hk5 ⊢
    have hI5 := W5.ins
    have ha5 := W5.ha
    walk_at "pyK"
    refine .inr ⟨_, _, Sum.inl (key : Int), _, rfl, rfl, ha5, hv5, ?_⟩
    exact hk5
end
end K31
namespace K31
section
variable {C : CS} {k : KD} {x : D} {E : List Ent}
theorem OldIs.seqA (h : OldIs C x E) : DL.seqA C x = some (E.map entD) := by
  rcases h with rfl | rfl | ⟨o, rfl, h2⟩
  · rfl
  · rfl
  · exact seqR_own h2
theorem OldIs.isi (h : OldIs C x E) (q : k (.bl true) C) : dIsiT [x, .tup [.opq (.ty "list"), .opq (.ty "tuple")]] C k := by
  rcases h with rfl | rfl | ⟨o, rfl, h2⟩
  · exact isi_ltT rfl rfl q
  · exact isi_ltT rfl rfl q
  · exact isi_ownLT h2 q
theorem OldIs.len (h : OldIs C x E) (q : k (.int (E.length : Nat)) C) : dLen [x] C k := by
  have e : ((E.map entD).length : Int) = (E.length : Nat) := by rw [List.length_map]
  rcases h with rfl | rfl | ⟨o, rfl, h2⟩
  · exact len_tup (by rw [e]; exact q)
  · exact len_fr (by rw [e]; exact q)
  · exact len_own h2 (by rw [e]; exact q)
theorem OldIs.list (h : OldIs C x E) (q : k (.lst (E.map entD)) C) : dList [x] C (FrzA k) := by
  rcases h with rfl | rfl | ⟨o, rfl, h2⟩
  · exact listA_t q
  · exact listA_l q
  · exact listA_o h2 q
end
theorem wi_enumO {X : Cx} {a : Expr} {env : DEnv} {C : CS} {kI : KI} {ts : List Expr} {n : Nat} {tpos p pos : Pos} (hm : X.mg "enumerate" = none) (hg : Gl X "enumerate") (h : WA X [a] env C fun ds C1 => ∃ x E, ds = [x] ∧ OldIs C1 x E ∧ ∀ Pc : CS → Prop, Pc C1 → kI (enumD (E.map entD)) Pc C1)
    (hs : starEach [a] X.env = [(false, eval a X.env)] := by rfl) : WI X (.Tuple ts n tpos) (.Call (.Name "enumerate" p) [a] [] pos) env C kI := by
  refine wi_enum hm hg (h.imp ?_) hs
  rintro ds C1 ⟨x, E, rfl, hE, hk⟩
  rcases hE with rfl | rfl | ⟨o, rfl, h2⟩
  · exact ⟨_, _, rfl, .inr ⟨rfl, hk _ trivial⟩⟩
  · exact ⟨_, _, rfl, .inl ⟨rfl, hk _ fun a ha => by cases ha⟩⟩
  · exact ⟨_, _, rfl, .inl ⟨seqR_own h2, hk _ fun a ha => by cases ha; exact h2⟩⟩
theorem Fx.via {bs bs' : List Addr} {C C1 C2 : CS} (h2 : Fx bs' C1 C2) (h : Fx bs C C1) (hb : ∀ q ∈ bs', q ∈ bs ∨ C q = none) : Fx bs C C2 := fun q x y => by
  have e := h q x y
  rw [h2 q (fun z => (hb q z).elim x y) (by rw [e]; exact y), e]
theorem Fx.none {C C1 : CS} (h : Fx [] C C1) {r : Addr} (hr : C1 r = Option.none) : C r = Option.none := by
  cases e : C r with
  | none => rfl
  | some c => have := h.at (by simp) e; rw [hr] at this; cases this
theorem put_none {C : CS} {a b : Addr} {c : Cell} (h : (DL.put C b c) a = Option.none) : C a = Option.none := by
  by_cases e : a = b
  · subst e; rw [put_same] at h; cases h
  · rwa [put_ne e] at h
abbrev recKs : List Str := ["kept", "head"]
def recFs (E : List Ent) : List D := [.tup (E.map entD), .str (match E with | [] => "" | e :: _ => headS e.kind e.msg)]
/-- a record: its cell, or frozen -/
def RecIs (Cr : Addr) (C : CS) (x : D) (E : List Ent) : Prop := insD C x = some (Cr, recKs, recFs E)
structure Trc (K : PySem.W.Frag) (Cl : Addr) : Prop where
  f1 : FldC K Cl "kept"
  f2 : FldC K Cl "head"
section
variable {P : Program} {w : World} {K : PySem.W.Frag} {mg : Str → Option Value} {base : Heap} {Cr Cw : Addr}
def spRInit (Cr : Addr) : DSp := fun ds C k => ∃ p x E, ds = [.own p, x] ∧ C p = some (.ins Cr [] []) ∧ OldIs C x E ∧ E ≠ [] ∧ (∀ e ∈ E, e.kind.length ≤ 1000 ∧ e.msg.length ≤ 1000000) ∧ ∀ C', C' p = some (.ins Cr recKs (recFs E)) → Fx [p] C C' → k .non C'
theorem ok_rInit {f : Addr} {fd : FuncData} (F : Fun K "__init__" "Record.__init__" s_Record___init__ f fd) (T : Trc K Cr) (Z : Zs mg) (h1 : FnC P w K mg base "headline" 1 spHead) : FnG P w K mg base CX0 2 f fd P_Record___init__ (toSp K (spRInit Cr)) := by
  refine fnX F sc_Record___init__ v_Record___init__ l_Record___init__ g_Record___init__ (fun ds C k h => by obtain ⟨_, _, _, rfl, _⟩ := h; rfl) fun X hB ds C k h => ?_
  obtain ⟨p, x, E, rfl, hp, hE, hne, hlen, h⟩ := h
  obtain ⟨hx, hn, hs, hg, hd, hnox⟩ := hB
  have tf1 := T.f1
  have tf2 := T.f2
  cases E with
  | nil => exact absurd rfl hne
  | cons e es =>
  change WSs X _ [some (.own p), some x] C _
  refine wss_cons ?_
  walk_at "pyK"
  refine tuple_A hE.seqA ?_
  walk_at "pyK"
  refine ⟨p, Cr, [], [], _, _, rfl, hp, T.f1, by decide, fp_app rfl (by decide), ?_⟩
  have hI1 : insD (DL.put C p (.ins Cr (([] : List Str) ++ (["kept"] : List Str)) (([] : List D) ++ [D.tup ((e :: es).map entD)]))) (.own p) = some (Cr, ([] : List Str) ++ (["kept"] : List Str), ([] : List D) ++ [D.tup ((e :: es).map entD)]) := insD_own put_same
  walk_at "pyK"
  walk_at "pyK"
  refine ix_t (at_nat (i := 0) rfl) ?_
  walk_at "pyK"
  have hl := hlen e (by simp)
  refine ⟨e, rfl, hl.1, hl.2, ?_⟩
  walk_at "pyK"
  refine ⟨p, Cr, _, _, _, _, rfl, put_same, T.f2, by decide, fp_app rfl (by decide +kernel), ?_⟩
  rw [put_put]
  walk_at "pyK"
  exact h _ put_same ((Fx.refl C).put (.inl (by simp)))
/-- entries that a record may have, in order -/
structure EsV (N : Nat) (E : List Ent) : Prop where
  l1 : 1 ≤ E.length
  l2 : E.length ≤ 100
  ev : ∀ e ∈ E, EntV E.length e
  fit : ∀ e ∈ E, (entD e).fit 10 = true
  kl : ∀ e ∈ E, e.kind.length ≤ 1000
  nl : ∀ e ∈ E, e.mem.nums.length ≤ 1000
  met : ∃ n ks, n ≤ N ∧ meetF {} E n 0 0 0 ([], []) = some (0, (ks, E.map entD))
def spROf (Cr : Addr) (N : Nat) : DSp := fun ds C k => ∃ x E, ds = [.opq (.ref Cr), x] ∧ OldIs C x E ∧ EsV N E ∧ ∀ C' r, C r = none → C' r = some (.ins Cr recKs (recFs E)) → Fx [] C C' → k (.own r) C'
theorem ok_rOf {f : Addr} {fd : FuncData} (N : Nat) (hN : 5 ≤ N) (F : Fun K "of" "Record.of" s_Record_of f fd) (Tw : Twc K Cw) (Z : Zs mg) (h1 : FnC P w K mg base "is_entry" 5 spIsEnt) (h2 : MakC P w K mg base "Walk" Cw 1 [.non, .non, .non] (spWInit Cw)) (h3 : ∀ n, n ≤ N → MthC P w K mg base Cw "meet" (2 * n + 2) [] (spMeet Cw n))
    (h4 : MakC P w K mg base "Record" Cr 2 [] (spRInit Cr)) (g1 : MgK K mg "MOST_ENTRIES" (.int 100)) : FnG P w K mg base CX0 (2 * N + 3) f fd P_Record_of (toSp K (spROf Cr N)) := by
  refine fnX F sc_Record_of v_Record_of l_Record_of g_Record_of (fun ds C k h => by obtain ⟨_, _, rfl, _⟩ := h; rfl) fun X hB ds C k h => ?_
  obtain ⟨x, E, rfl, hE, hV, h⟩ := h
  obtain ⟨hx, hn, hs, hg, hd, hnox⟩ := hB
  obtain ⟨n, ks, hnN, hmet⟩ := hV.met
  have hM := h3 n hnN
  have tw6 := Tw.f6
  change WSs X _ [some (.opq (.ref Cr)), some x, none, none, none] C _
  refine wss_cons ?_
  walk_at "pyA"
  refine hE.isi ?_
  walk_at "pyA"
  all_goals try walk_at "bad"
  refine x_for hx hnox (wi_enumO (hx.zs Z).enum (by walk_at "gl") ?_)
  walk_at "pyA"
  refine ⟨x, E, rfl, hE, fun Pc hPc => ?_⟩
  refine ⟨fun i env C' => C' = C ∧ ∃ o1 o2, env = [some (.opq (.ref Cr)), some x, none, o1, o2], ⟨rfl, _, _, rfl⟩, fun _ _ _ h => by rw [h.1]; exact hPc, ?_, ?_⟩
  · rintro i d env C1 hd ⟨rfl, o1, o2, rfl⟩
    obtain ⟨y, hyi, rfl⟩ := enumD_get hd
    obtain ⟨e, he, rfl⟩ := List.mem_map.mp (List.mem_of_getElem? hyi)
    walk_at "pyA"
    refine hE.len ?_
    walk_at "pyA"
    refine ⟨e, E.length, rfl, hV.ev e he, ?_⟩
    walk_at "pyA"
    all_goals try walk_at "bad"
    exact ⟨rfl, _, _, rfl⟩
  rintro env C1 ⟨rfl, o1, o2, rfl⟩
  walk_at "pyA"
  refine hE.len ?_
  walk_at "pyA"
  · rename_i q1 q2
    have := hV.l2
    simp at q2; omega
  · rename_i q1 q2
    refine x_make hx h2 (by walk_at "gl") ?_ (by omega)
    walk_at "pyA"
    intro wk hwk
    refine ⟨wk, x, {}, E, rfl, put_same, hE.fx ((Fx.refl C1).put (.inr hwk)) (fun _ _ => List.not_mem_nil), by have := hV.l2; omega, hV.nl, fun C2 a f W0 F0 ha hf => ⟨rfl, ?_⟩⟩
    have F1 : Fx [] C1 C2 := Fx.via F0 ((Fx.refl C1).put (.inr hwk)) fun q hq => by rw [List.mem_singleton.mp hq]; exact .inr hwk
    have ha := put_none ha
    have hf := put_none hf
    walk_at "pyA"
    refine x_meth hx hM ?_ (by omega)
    walk_at "pyA"
    refine ⟨⟨_, _, W0.ins, by decide +kernel⟩, ?_⟩
    walk_at "pyA"
    refine ⟨wk, a, f, x, {}, E, ([], []), 0, 0, 0, rfl, W0, 0, _, hmet, fun C3 W3 F3 => ?_⟩
    have F2 : Fx [] C1 C3 := Fx.via F3 F1 fun q hq => by
      simp only [List.mem_cons, List.not_mem_nil, or_false] at hq
      rcases hq with rfl | rfl
      · exact .inr ha
      · exact .inr hf
    have hI3 := W3.ins
    have hfit : ∀ d ∈ E.map entD, d.fit 10 = true := fun d hd => by
      obtain ⟨e, he, rfl⟩ := List.mem_map.mp hd
      exact hV.fit e he
    walk_at "pyCA"
    refine W3.olds.list ?_
    refine ne_ol W3.hf hfit hfit (by decide) (by decide) ?_
    rw [eqL_refl hfit]
    walk_at "pyCA"
    all_goals try walk_at "bad"
    refine x_makeL hx h4 hn (by walk_at "nm") (by walk_at "nm") rfl ?_ (by omega)
    walk_at "pyCA"
    intro r hr
    refine ⟨r, x, E, rfl, put_same, W3.olds.fx ((Fx.refl C3).put (.inr hr)) (fun _ _ => List.not_mem_nil), (fun e => by have := hV.l1; rw [e] at this; simp at this), fun e he => ⟨hV.kl e he, (hV.ev e he).ml⟩, fun C4 h5 F4 => ⟨rfl, ?_⟩⟩
    have hr1 := Fx.none F2 hr
    exact h C4 r hr1 h5 (Fx.via F4 (F2.put (.inr hr1)) fun q hq => by rw [List.mem_singleton.mp hq]; exact .inr hr1)
  · rename_i q1 q2
    have := of_decide_eq_false q1
    have := hV.l1
    omega
  · rename_i q1 q2
    exact absurd q2 (by decide)
end
end K31
namespace K31
/-! the chain -/
def chainF (E : List Ent) : Nat → List Nat → Option (Str × Option Nat) → List Nat
  | n + 1, fs, some (_, some x) => if x ∈ fs then fs else chainF E n (fs ++ [x]) ((E[x]?).bind (·.link))
  | _, fs, _ => fs
def alongF (E : List Ent) : List Nat := chainF E 200 [0] ((E[0]?).bind (·.link))
theorem any_ints (x : Nat) : ∀ fs : List Nat, ((pyL (intsD fs)).any fun z => PyData.eqv z (.int (x : Int))) = decide (x ∈ fs)
  | [] => rfl
  | y :: fs => by
    have ih := any_ints x fs
    unfold intsD at *
    rw [List.map_cons, pyL, List.any_cons, ih]
    have : PyData.eqv (D.int (y : Nat)).py (.int (x : Int)) = decide (y = x) := by
      simp only [D.py, PyData.eqv]
      by_cases h : y = x
      · subst h; simp
      · have h' : ¬ ((y : Int) = (x : Int)) := fun e => h (by omega)
        simp [h, h']
    rw [this]
    by_cases h1 : y = x
    · subst h1; simp
    · have h2 : ¬ x = y := fun e => h1 e.symm
      simp [h1, h2]
theorem nin_ints {C : CS} {k : KD} {q : Addr} {x : Nat} {fs : List Nat} (hq : C q = some (.lst (intsD fs))) (h : k (.bl (!decide (x ∈ fs))) C) : dIn true (.int (x : Nat)) (.own q) C k := by
  refine ⟨.int (x : Nat), pyL (intsD fs), rfl, pyC_own hq (ints_fit fs), rfl, shaped_lst (ints_fit fs) (by decide), ?_⟩
  rw [any_ints]
  exact h
theorem fld_rec {K : PySem.W.Frag} {C : CS} {x : D} {E : List Ent} {Cr : Addr} {q : D → Prop} (h : RecIs Cr C x E) (T : Trc K Cr) (hk : q (.tup (E.map entD))) : ∃ Cl ks xs v, insD C x = some (Cl, ks, xs) ∧ FldC K Cl "kept" ∧ FGet ks xs "kept" v ∧ q v := ⟨_, _, _, _, h, T.f1, .here _ _ _ _, hk⟩
theorem RecIs.nw {Cr q : Addr} {C : CS} {x : D} {E : List Ent} {c : Cell} (h : RecIs Cr C x E) (hq : C q = none) : RecIs Cr (DL.put C q c) x E := by
  cases x with
  | own a =>
    have h : insD C (.own a) = some (Cr, recKs, recFs E) := h
    show insD (DL.put C q c) (.own a) = _
    have hne : a ≠ q := fun e => by subst e; simp [insD, hq] at h
    have e : insD (DL.put C q c) (.own a) = insD C (.own a) := by simp only [insD, put_ne hne]
    rw [e]; exact h
  | _ => exact h
theorem chain_stop (E : List Ent) (n : Nat) (fs : List Nat) (l : Option (Str × Option Nat)) (h : lnkN l = none) : chainF E n fs l = fs := by
  rcases l with _ | ⟨w, _ | x⟩
  · cases n <;> rfl
  · cases n <;> rfl
  · cases h
theorem chain_in (E : List Ent) (n : Nat) (fs : List Nat) (w : Str) (x : Nat) (h : x ∈ fs) : chainF E n fs (some (w, some x)) = fs := by
  cases n with
  | zero => rfl
  | succ n => simp [chainF, h]
theorem nodup_len {fs : List Nat} {n : Nat} (h : fs.Nodup) (hl : ∀ x ∈ fs, x < n) : fs.length ≤ n := by
  have := nodup_sub fs (List.range n) h fun x hx => List.mem_range.mpr (hl x hx)
  rwa [List.length_range] at this
/-- a chain that is gone along -/
structure Chn (E : List Ent) (m : Nat) (fs : List Nat) (l : Option (Str × Option Nat)) : Prop where
  eq : alongF E = chainF E m fs l
  sum : m + fs.length = 201
  nd : fs.Nodup
  lt : ∀ x ∈ fs, x < E.length
  ll : ∀ x, lnkN l = some x → x < E.length
theorem Chn.start {E : List Ent} {e : Ent} (h : E[0]? = some e) (hl : ∀ e ∈ E, ∀ x, lnkN e.link = some x → x < E.length) : Chn E 200 [0] e.link :=
  ⟨by unfold alongF; rw [h]; rfl, rfl, by simp, fun x hx => by rw [List.mem_singleton.mp hx]; exact (List.getElem?_eq_some_iff.mp h).1, hl e (List.mem_of_getElem? h)⟩
theorem Chn.next {E : List Ent} {m x : Nat} {fs : List Nat} {w : Str} {e : Ent} (h : Chn E m fs (some (w, some x))) (hE : E.length ≤ 100) (hx : x ∉ fs) (he : E[x]? = some e) (hl : ∀ e ∈ E, ∀ x, lnkN e.link = some x → x < E.length) : Chn E (m - 1) (fs ++ [x]) e.link := by
  have h1 := nodup_len h.nd h.lt
  have h2 := h.sum
  obtain ⟨m', rfl⟩ : ∃ m', m = m' + 1 := ⟨m - 1, by omega⟩
  refine ⟨?_, by simp; omega, ?_, fun y hy => ?_, hl e (List.mem_of_getElem? he)⟩
  · rw [h.eq]
    simp only [chainF, if_neg hx, he]
    rfl
  · refine List.nodup_append.mpr ⟨h.nd, by simp, fun a ha b hb e => ?_⟩
    rw [List.mem_singleton.mp hb] at e
    exact hx (e ▸ ha)
  · rcases List.mem_append.mp hy with hy | hy
    · exact h.lt y hy
    · rw [List.mem_singleton.mp hy]; exact (List.getElem?_eq_some_iff.mp he).1
theorem ent_ix {C : CS} {k : KD} {E : List Ent} {i : Nat} {e : Ent} (he : E[i]? = some e) (q : k (entD e) C) : dIx (.tup (E.map entD)) (.int (i : Nat)) C k := ix_t (at_nat (by rw [List.getElem?_map, he]; rfl)) q
theorem lnk_ix {C : CS} {k : KD} {e : Ent} (q : k (lnkD e.link) C) : dIx (entD e) (.int 5) C k := ix_t (at_nat (i := 5) rfl) q
section
variable {P : Program} {w : World} {K : PySem.W.Frag} {mg : Str → Option Value} {base : Heap} {Cr Cw : Addr}
/-- links lead to entries -/
def LkV (E : List Ent) : Prop := ∀ e ∈ E, ∀ x, lnkN e.link = some x → x < E.length
def spAlong (Cr : Addr) : DSp := fun ds C k => ∃ x E, ds = [x] ∧ RecIs Cr C x E ∧ 1 ≤ E.length ∧ E.length ≤ 100 ∧ LkV E ∧ ∀ q, C q = none → k (.own q) (DL.put C q (.lst (intsD (alongF E))))
theorem ok_along {f : Addr} {fd : FuncData} (F : Fun K "along" "Record.along" s_Record_along f fd) (T : Trc K Cr) (Z : Zs mg) : FnG P w K mg base CX0 1 f fd P_Record_along (toSp K (spAlong Cr)) := by
  refine fnX F sc_Record_along v_Record_along l_Record_along g_Record_along (fun ds C k h => by obtain ⟨_, _, rfl, _⟩ := h; rfl) fun X hB ds C k h => ?_
  obtain ⟨x, E, rfl, hR, h1, h2, hlk, h⟩ := h
  obtain ⟨hx, hn, hs, hg, hd, hnox⟩ := hB
  have tf1 := T.f1
  change WSs X _ [some x, none, none] C _
  refine wss_cons ?_
  walk_at "pyK"
  refine we_lst ?_
  walk_at "pyK"
  intro q hq
  have hRq : ∀ c, RecIs Cr (DL.put C q c) x E := fun c => hR.nw hq
  obtain ⟨e0, he0⟩ : ∃ e, E[0]? = some e := ⟨_, List.getElem?_eq_getElem (by omega)⟩
  walk_at "pyK"
  refine fld_rec (hRq _) T ?_
  walk_at "pyK"
  refine ent_ix (i := 0) he0 ?_
  walk_at "pyK"
  refine .inl (lnk_ix ?_)
  refine wss_cons ?_
  refine x_while hnox (fun mm env C' => ∃ (m : Nat) (fs : List Nat) (l : Option (Str × Option Nat)), mm = m ∧ C' = DL.put C q (.lst (intsD fs)) ∧ env = [some x, some (.own q), some (lnkD l)] ∧ Chn E m fs l) ⟨200, 200, [0], e0.link, rfl, rfl, rfl, Chn.start he0 hlk⟩ ?_
  rintro mm env C1 ⟨m, fs, l, rfl, rfl, rfl, hC⟩
  have hfl := nodup_len hC.nd hC.lt
  have hsm := hC.sum
  rcases l with _ | ⟨wd, _ | y⟩
  · show WT X _ [some x, some (.own q), some .non] _ _
    walk_at "pyK"
    all_goals try walk_at "bad"
    have := h q hq
    rw [hC.eq, chain_stop _ _ _ _ rfl] at this
    exact this
  · show WT X _ [some x, some (.own q), some (.tup [.str wd, .non])] _ _
    walk_at "pyK"
    all_goals try walk_at "bad"
    have := h q hq
    rw [hC.eq, chain_stop _ _ _ _ rfl] at this
    exact this
  · show WT X _ [some x, some (.own q), some (.tup [.str wd, .int y])] _ _
    have hy := hC.ll y rfl
    obtain ⟨e, he⟩ : ∃ e, E[y]? = some e := ⟨_, List.getElem?_eq_getElem hy⟩
    walk_at "pyK"
    all_goals try walk_at "bad"
    refine .inl (nin_ints put_same ?_)
    by_cases hm : y ∈ fs
    · rw [decide_eq_true hm]
      walk_at "pyK"
      all_goals try walk_at "bad"
      have := h q hq
      rw [hC.eq, chain_in _ _ _ _ _ hm] at this
      exact this
    · rw [decide_eq_false hm]
      walk_at "pyK"
      all_goals try walk_at "bad"
      show dIxD (.tup [.str wd, .int y]) (.int 1) _ _
      walk_at "pyK"
      refine app_put (by rw [ints_len]; exact Nat.lt_of_le_of_lt (by omega : fs.length ≤ 1000) (by decide)) ?_
      walk_at "pyK"
      refine fld_rec (hRq _) T ?_
      walk_at "pyK"
      show dIxD (.tup [.str wd, .int y]) (.int 1) _ _
      walk_at "pyK"
      refine ent_ix he ?_
      walk_at "pyK"
      refine .inl (lnk_ix ?_)
      walk_at "pyK"
      exact ⟨mm - 1, by omega, mm - 1, fs ++ [y], e.link, rfl, by simp [intsD], rfl, hC.next h2 hm he hlk⟩
def spLook (Cr : Addr) : DSp := fun ds C k => ∃ x E i, ds = [x, .int (i : Nat)] ∧ RecIs Cr C x E ∧ i < E.length ∧ k .non C
theorem ok_look {f : Addr} {fd : FuncData} (F : Fun K "look" "Record.look" s_Record_look f fd) (T : Trc K Cr) (Z : Zs mg) (h1 : FnC P w K mg base "in_range" 2 spInR) : FnG P w K mg base CX0 3 f fd P_Record_look (toSp K (spLook Cr)) := by
  refine fnX F sc_Record_look v_Record_look l_Record_look g_Record_look (fun ds C k h => by obtain ⟨_, _, _, rfl, _⟩ := h; rfl) fun X hB ds C k h => ?_
  obtain ⟨x, E, i, rfl, hR, hi, h⟩ := h
  obtain ⟨hx, hn, hs, hg, hd, hnox⟩ := hB
  change WSs X _ [some x, some (.int i)] C _
  refine wss_cons ?_
  walk_at "pyK"
  refine fld_rec hR T ?_
  walk_at "pyK"
  refine ⟨_, _, _, rfl, rfl, ?_⟩
  rw [show inR (.int (i : Nat)) 0 (((E.map entD).length : Nat) - 1) = true by simp only [inR, List.length_map, Bool.and_eq_true, decide_eq_true_eq]; omega]
  walk_at "pyK"
  all_goals try walk_at "bad"
  exact h
def spPart (Cr : Addr) (N : Nat) : DSp := fun ds C k => ∃ x E E' i n ks r, ds = [x, .int (i : Nat)] ∧ RecIs Cr C x E ∧ i < E.length ∧ E.length ≤ 1000 ∧ (∀ e ∈ E, e.mem.nums.length ≤ 1000) ∧ n ≤ N ∧ meetF {} E n i 0 0 ([], []) = some (r, (ks, E'.map entD)) ∧ E' ≠ [] ∧ (∀ e ∈ E', e.kind.length ≤ 1000 ∧ e.msg.length ≤ 1000000) ∧
  ∀ C' r, C r = none → C' r = some (.ins Cr recKs (recFs E')) → Fx [] C C' → k (.own r) C'
theorem ok_part {f : Addr} {fd : FuncData} (N : Nat) (hN : 5 ≤ N) (F : Fun K "part" "Record.part" s_Record_part f fd) (T : Trc K Cr) (Tw : Twc K Cw) (Z : Zs mg) (h1 : MthC P w K mg base Cr "look" 3 [] (spLook Cr)) (h2 : MakC P w K mg base "Walk" Cw 1 [.non, .non, .non] (spWInit Cw)) (h3 : ∀ n, n ≤ N → MthC P w K mg base Cw "meet" (2 * n + 2) [] (spMeet Cw n))
    (h4 : MakC P w K mg base "Record" Cr 2 [] (spRInit Cr)) : FnG P w K mg base CX0 (2 * N + 3) f fd P_Record_part (toSp K (spPart Cr N)) := by
  refine fnX F sc_Record_part v_Record_part l_Record_part g_Record_part (fun ds C k h => by obtain ⟨_, _, _, _, _, _, _, rfl, _⟩ := h; rfl) fun X hB ds C k h => ?_
  obtain ⟨x, E, E', i, n, ks, r0, rfl, hR, hi, hl, hen, hnN, hmet, hne, hlen, h⟩ := h
  obtain ⟨hx, hn, hs, hg, hd, hnox⟩ := hB
  have hM := h3 n hnN
  have tf1 := T.f1
  have tw6 := Tw.f6
  change WSs X _ [some x, some (.int i), none] C _
  refine wss_cons ?_
  walk_at "pyK"
  refine x_meth hx h1 ?_ (by omega)
  walk_at "pyK"
  refine ⟨⟨_, _, hR, by decide +kernel⟩, ?_⟩
  walk_at "pyK"
  refine ⟨x, E, i, rfl, hR, hi, ?_⟩
  walk_at "pyK"
  refine x_make hx h2 (by walk_at "gl") ?_ (by omega)
  walk_at "pyK"
  intro wk hwk
  refine ⟨wk, _, {}, E, rfl, put_same, .inl rfl, hl, hen, fun C2 a f W0 F0 ha hf => ⟨rfl, ?_⟩⟩
  have F1 : Fx [] C C2 := Fx.via F0 ((Fx.refl C).put (.inr hwk)) fun q hq => by rw [List.mem_singleton.mp hq]; exact .inr hwk
  have ha := put_none ha
  have hf := put_none hf
  walk_at "pyK"
  refine x_meth hx hM ?_ (by omega)
  walk_at "pyK"
  refine ⟨⟨_, _, W0.ins, by decide +kernel⟩, ?_⟩
  walk_at "pyK"
  refine ⟨wk, a, f, _, {}, E, ([], []), i, 0, 0, rfl, W0, r0, _, hmet, fun C3 W3 F3 => ?_⟩
  have F2 : Fx [] C C3 := Fx.via F3 F1 fun q hq => by
    simp only [List.mem_cons, List.not_mem_nil, or_false] at hq
    rcases hq with rfl | rfl
    · exact .inr ha
    · exact .inr hf
  have hI3 := W3.ins
  walk_at "pyK"
  refine x_make hx h4 (by walk_at "gl") ?_ (by omega)
  walk_at "pyK"
  intro r hr
  have hO : OldIs C3 (.own f) E' := .inr (.inr ⟨f, rfl, W3.hf⟩)
  refine ⟨r, _, E', rfl, put_same, hO.fx ((Fx.refl C3).put (.inr hr)) (fun _ _ => List.not_mem_nil), hne, hlen, fun C4 h5 F4 => ⟨rfl, ?_⟩⟩
  have hr1 := Fx.none F2 hr
  exact h C4 r hr1 h5 (Fx.via F4 (F2.put (.inr hr1)) fun q hq => by rw [List.mem_singleton.mp hq]; exact .inr hr1)
end
end K31
namespace K31
/-! drawn entries are met in their own order -/
def MemW : Mem → Prop
  | .some ns mo => ns ≠ [] ∧ ∀ k, mo = Option.some k → 0 < k
  | _ => True
theorem range_ix {n x : Nat} (h : x < n) : (List.range n).idxOf x = x := by
  have hm : (List.range n)[x]? = some x := by rw [List.getElem?_range h]
  exact idxOf_of List.nodup_range hm
theorem meet_old {E : List Ent} {L : Lim} {d x dep dis n : Nat} {fs : List D} (h : x < n) : meetF L E (d + 1) x dep dis (List.range n, fs) = some (x, (List.range n, fs)) := by
  unfold meetF
  rw [if_pos (List.mem_range.mpr h), range_ix h]
def MeetsAt (E : List Ent) (d : Nat) (B : Nat → List Ent → Prop) : Prop := ∀ (n : Nat) (pre seg post : List Ent) (fs : List D) (dep dis : Nat), B n seg → E = pre ++ (seg ++ post) → pre.length = n → fs.length = n → (∀ e ∈ seg, MemW e.mem) →
  meetF {} E d n dep dis (List.range n, fs) = some (n, (List.range (n + seg.length), fs ++ seg.map entD))
theorem lead_meets {E : List Ent} {d : Nat} {B : Nat → List Ent → Prop} (hB : MeetsAt E (d + 1) B) {n x : Nat} {pre seg post : List Ent} {fs : List D} {dep dis : Nat} (h : LeadR B n x seg) (hE : E = pre ++ (seg ++ post)) (hp : pre.length = n) (hf : fs.length = n) (hm : ∀ e ∈ seg, MemW e.mem) :
    meetF {} E (d + 1) x dep dis (List.range n, fs) = some (x, (List.range (n + seg.length), fs ++ seg.map entD)) := by
  rcases h with ⟨h1, rfl⟩ | ⟨rfl, h1⟩
  · rw [meet_old h1]; simp
  · exact hB x pre seg post fs dep dis h1 hE hp hf hm
theorem leads_meets {E : List Ent} {d : Nat} {B : Nat → List Ent → Prop} (hB : MeetsAt E (d + 1) B) {dep : Nat} : ∀ {xs : List Nat} {n : Nat} {pre seg post : List Ent} {fs : List D}, LeadsR B n xs seg → E = pre ++ (seg ++ post) → pre.length = n → fs.length = n → (∀ e ∈ seg, MemW e.mem) →
    allF (fun x s => meetF {} E (d + 1) x (dep + 1) 0 s) xs (List.range n, fs) = some (xs, (List.range (n + seg.length), fs ++ seg.map entD))
  | [], n, pre, seg, post, fs, h, _, _, _, _ => by
    obtain rfl : seg = [] := h
    simp [allF]
  | x :: xs, n, pre, seg, post, fs, h, hE, hp, hf, hm => by
    obtain ⟨s1, s2, rfl, h1, h2⟩ := h
    have e1 := lead_meets hB (dep := dep + 1) (dis := 0) h1 (post := s2 ++ post) (by rw [hE, List.append_assoc]) hp hf (fun e he => hm e (List.mem_append_left _ he))
    have e2 := leads_meets hB (dep := dep) (pre := pre ++ s1) (post := post) (fs := fs ++ s1.map entD) h2 (by rw [hE]; simp) (by rw [List.length_append, hp]) (by rw [List.length_append, List.length_map, hf]) (fun e he => hm e (List.mem_append_right _ he))
    simp only [allF, e1, e2, Option.bind_some]
    simp [Nat.add_assoc]
theorem bld_meets {E : List Ent} : ∀ d : Nat, MeetsAt E (d + 1) (Bld d)
  | 0, n, pre, seg, post, fs, dep, dis, h, _, _, _, _ => h.elim
  | d + 1, n, pre, seg, post, fs, dep, dis, h, hE, hp, hf, hm => by
    obtain ⟨e, s1, s2, rfl, h1, h2⟩ := h
    have ih := bld_meets (E := E) d
    have he : E[n]? = some e := by rw [hE, ← hp]; simp
    have hme := hm e (by simp)
    have hr : List.range n ++ [n] = List.range (n + 1) := List.range_succ.symm
    have eM := leads_meets ih (dep := dep) (pre := pre ++ [e]) (post := s2 ++ post) (fs := fs ++ [.non]) h1 (by rw [hE]; simp) (by simp [hp]) (by simp [hf]) (fun x hx => hm x (by simp [hx]))
    have eM2 : memF {} dep (fun x s => meetF {} E (d + 1) x (dep + 1) 0 s) e.mem (List.range (n + 1), fs ++ [.non]) = some (e.mem, (List.range (n + 1 + s1.length), fs ++ [.non] ++ s1.map entD)) := by
      cases hmm : e.mem with
      | non =>
        rw [hmm] at h1
        obtain rfl : s1 = [] := h1
        simp [memF]
      | deep k =>
        rw [hmm] at h1
        obtain rfl : s1 = [] := h1
        simp [memF, Mem.nums, goneM]
      | some ns mo =>
        rw [hmm] at eM hme
        have eM : allF (fun x s => meetF {} E (d + 1) x (dep + 1) 0 s) ns (List.range (n + 1), fs ++ [.non]) = some (ns, (List.range (n + 1 + s1.length), fs ++ [.non] ++ s1.map entD)) := eM
        obtain ⟨hne, hk⟩ := hme
        show (if ns = [] ∨ false = true then _ else _) = _
        rw [if_neg (by simp [hne])]
        show ((allF (fun x s => meetF {} E (d + 1) x (dep + 1) 0 s) ns (List.range (n + 1), fs ++ [.non])).bind _) = _
        rw [eM]
        simp only [Option.bind_some, Option.some.injEq, Prod.mk.injEq, and_true]
        show moreM ns ((ns.length : Int) - (ns.length : Int) + (mo.getD 0)) = Mem.some ns mo
        rw [Int.sub_self, Int.zero_add]
        unfold moreM
        cases mo with
        | none => rfl
        | some k => rw [if_pos (by simpa using hk k rfl)]; rfl
    have eL : lnkF {} dis (fun x s => meetF {} E (d + 1) x dep (dis + 1) s) e.link (List.range (n + 1 + s1.length), fs ++ [.non] ++ s1.map entD) = some (e.link, (List.range (n + 1 + s1.length + s2.length), fs ++ [.non] ++ s1.map entD ++ s2.map entD)) := by
      rcases hl : e.link with _ | ⟨wd, _ | x⟩
      · rw [hl] at h2
        obtain rfl : s2 = [] := h2
        simp [lnkF]
      · rw [hl] at h2
        obtain rfl : s2 = [] := h2
        simp [lnkF]
      · rw [hl] at h2
        have e2 := lead_meets ih (dep := dep) (dis := dis + 1) (pre := pre ++ e :: s1) (seg := s2) (post := post) (fs := fs ++ [.non] ++ s1.map entD) h2 (by rw [hE]; simp) (by simp [hp]; omega) (by simp [hf]; omega) (fun x hx => hm x (by simp [hx]))
        simp only [lnkF]
        rw [if_neg (by simp [over]), e2]
        rfl
    unfold meetF
    rw [if_neg (by simp), he]
    simp only [Option.bind_some]
    rw [hr, eM2]
    simp only [Option.bind_some]
    rw [eL]
    simp only [Option.bind_some, Option.some.injEq, Prod.mk.injEq]
    refine ⟨hf, ?_, ?_⟩
    · congr 1; simp; omega
    · rw [List.append_assoc, List.append_assoc, ← List.append_assoc fs, set_mid]
      simp
/-- numbers stay below what stands behind -/
theorem lead_lt {B : Nat → List Ent → Prop} (hB : ∀ n seg, B n seg → seg ≠ []) {n x : Nat} {seg : List Ent} (h : LeadR B n x seg) : x < n + seg.length := by
  rcases h with ⟨h1, rfl⟩ | ⟨rfl, h1⟩
  · simpa using h1
  · have := List.length_pos_iff.mpr (hB _ _ h1)
    omega
theorem leads_lt {B : Nat → List Ent → Prop} (hB : ∀ n seg, B n seg → seg ≠ []) : ∀ {xs : List Nat} {n : Nat} {seg : List Ent}, LeadsR B n xs seg → ∀ x ∈ xs, x < n + seg.length
  | [], _, _, _, _, hx => by simp at hx
  | y :: ys, n, seg, h, x, hx => by
    obtain ⟨s1, s2, rfl, h1, h2⟩ := h
    rw [List.length_append]
    rcases List.mem_cons.mp hx with rfl | hx
    · have := lead_lt hB h1; omega
    · have := leads_lt hB h2 x hx; omega
def LtE (m : Nat) (e : Ent) : Prop := (∀ x ∈ e.mem.nums, x < m) ∧ ∀ x, lnkN e.link = some x → x < m
theorem bld_ne : ∀ d n seg, Bld d n seg → seg ≠ []
  | 0, _, _, h => h.elim
  | d + 1, n, seg, h => by
    obtain ⟨e, s1, s2, rfl, _⟩ := h
    simp
theorem lead_all {B : Nat → List Ent → Prop} (hB : ∀ n seg, B n seg → ∀ e ∈ seg, LtE (n + seg.length) e) {n x : Nat} {seg : List Ent} (h : LeadR B n x seg) : ∀ e ∈ seg, LtE (n + seg.length) e := by
  rcases h with ⟨_, rfl⟩ | ⟨rfl, h1⟩
  · intro e he; simp at he
  · exact hB _ _ h1
theorem LtE.mono {m m' : Nat} {e : Ent} (h : LtE m e) (hm : m ≤ m') : LtE m' e := ⟨fun x hx => Nat.lt_of_lt_of_le (h.1 x hx) hm, fun x hx => Nat.lt_of_lt_of_le (h.2 x hx) hm⟩
theorem leads_all {B : Nat → List Ent → Prop} (hB : ∀ n seg, B n seg → ∀ e ∈ seg, LtE (n + seg.length) e) : ∀ {xs : List Nat} {n : Nat} {seg : List Ent}, LeadsR B n xs seg → ∀ e ∈ seg, LtE (n + seg.length) e
  | [], _, _, h, e, he => by
    obtain rfl := (show _ = [] from h)
    simp at he
  | y :: ys, n, seg, h, e, he => by
    obtain ⟨s1, s2, rfl, h1, h2⟩ := h
    rw [List.length_append]
    rcases List.mem_append.mp he with he | he
    · exact (lead_all hB h1 e he).mono (by omega)
    · exact (leads_all hB h2 e he).mono (by omega)
theorem bld_lt : ∀ d n seg, Bld d n seg → ∀ e ∈ seg, LtE (n + seg.length) e
  | 0, _, _, h, _, _ => h.elim
  | d + 1, n, seg, h, e, he => by
    obtain ⟨e0, s1, s2, rfl, h1, h2⟩ := h
    simp only [List.length_cons, List.length_append]
    rcases List.mem_cons.mp he with rfl | he
    · refine ⟨fun x hx => ?_, fun x hx => ?_⟩
      · have := leads_lt (bld_ne d) h1 x hx; omega
      · rw [hx] at h2
        have := lead_lt (bld_ne d) (h2 : LeadR _ _ _ _); omega
    · rcases List.mem_append.mp he with he | he
      · exact (leads_all (bld_lt d) h1 e he).mono (by omega)
      · cases hl : lnkN e0.link with
        | none => rw [hl] at h2; obtain rfl := (show s2 = [] from h2); simp at he
        | some x =>
          rw [hl] at h2
          exact (lead_all (bld_lt d) (h2 : LeadR _ _ _ _) e he).mono (by omega)
/-! drawn entries make a record -/
theorem RowG.ob {d : D} (h : RowG d) : Ob d := gd_ob h.gd (hw := by have := h.wt; omega)
theorem GapG.ob {d : D} (h : GapG d) : Ob d := by
  obtain ⟨i, rfl, h1, h2⟩ := h
  refine gd_ob (t := false) (B := 100) (n := 2) ?_ (hw := ?_)
  · refine gd_tup fun d hd => ?_
    simp only [List.mem_cons, List.not_mem_nil, or_false] at hd
    rcases hd with rfl | rfl
    · exact gd_str (by decide +kernel)
    · exact gd_int (by omega)
  · have hg : (("gap" : Str)).cps.size = 3 := by decide +kernel
    simp only [D.wt, wtL, hg]
    omega
theorem asc_fit {z : Str} {n : Nat} {N : Nat} (h : As N z) : (D.str z).fit n = true := by
  have := (gd_fit (t := false) (B := 1) (by decide) (.str z) (n := n) (gd_str h.2)).1
  exact this
theorem EntG.fit {e : Ent} (h : EntG e) : (entD e).fit 10 = true := by
  refine fit_tupI (n := 9) fun d hd => ?_
  simp only [List.mem_cons, List.not_mem_nil, or_false] at hd
  rcases hd with rfl | rfl | rfl | rfl | rfl | rfl
  · exact asc_fit h.kind.1
  · exact asc_fit h.msg
  · refine fit_tupI fun d hd => ?_
    obtain ⟨z, hz, rfl⟩ := List.mem_map.mp hd
    exact asc_fit (h.notes z hz)
  · exact fit_tupI fun d hd => fit_mono _ (h.rows.fit d hd) (by omega)
  · exact fit_mono _ memD_fit (by omega)
  · rcases hl : e.link with _ | ⟨wd, _ | x⟩
    · rfl
    · rcases h.link wd none hl with rfl | rfl <;> decide +kernel
    · have : PyData.strOk wd = true := by rcases h.link wd (some x) hl with rfl | rfl <;> decide +kernel
      simp [lnkD, D.fit, fitL, this]
theorem EntG.v {e : Ent} {m : Nat} (h : EntG e) (hl : LtE m e) : EntV m e where
  kd := h.kind.2
  ob := gd_ob (t := false) (B := 1) (n := 0) (gd_str h.kind.1.2) (hw := by have := h.kind.1.1; rw [wt_len]; omega)
  rows := fun d hd => (h.rows.it d hd).elim RowG.ob GapG.ob
  bad := h.rows.gg
  rl := by have := h.rl; omega
  nl := by have := h.nl; omega
  ml := by have := h.msg.1; omega
  mem := by
    have h1 := h.mem
    have h2 := hl.1
    cases hm : e.mem with
    | non => trivial
    | deep n => rw [hm] at h1; exact h1.1
    | some ns mo =>
      rw [hm] at h1 h2
      exact ⟨h1.1, by have := h1.2.1; omega, h2, fun k hk => (h1.2.2 k hk).1⟩
  lnk := fun w x e' => ⟨h.link w x e', fun y hy => hl.2 y (by rw [e', hy]; rfl)⟩
theorem EntG.w {e : Ent} (h : EntG e) : MemW e.mem := by
  have h1 := h.mem
  cases hm : e.mem with
  | non => trivial
  | deep n => trivial
  | some ns mo => rw [hm] at h1; exact ⟨h1.1, fun k hk => by have := (h1.2.2 k hk).1; omega⟩
theorem EntG.nums {e : Ent} (h : EntG e) : e.mem.nums.length ≤ 3 := by
  have h1 := h.mem
  cases hm : e.mem with
  | non => simp [Mem.nums]
  | deep n => simp [Mem.nums]
  | some ns mo => rw [hm] at h1; exact h1.2.1
theorem esV_of {d N : Nat} {E : List Ent} (h : Bld d 0 E) (hG : ∀ e ∈ E, EntG e) (hl : E.length ≤ 100) (hN : d + 1 ≤ N) : EsV N E where
  l1 := List.length_pos_iff.mpr (bld_ne _ _ _ h)
  l2 := hl
  ev := fun e he => (hG e he).v (by have := bld_lt _ _ _ h e he; rwa [Nat.zero_add] at this)
  fit := fun e he => (hG e he).fit
  kl := fun e he => by have := (hG e he).kind.1.1; omega
  nl := fun e he => by have := (hG e he).nums; omega
  met := ⟨d + 1, List.range E.length, hN, by
    have := bld_meets (E := E) d 0 [] E [] [] 0 0 h (by simp) rfl rfl (fun e he => (hG e he).w)
    simpa using this⟩
end K31
namespace K31
section
variable {P : Program} {w : World} {K : PySem.W.Frag} {mg : Str → Option Value} {base : Heap} {Cr Cw : Addr}
def spLaw : DSp := fun ds C k => ∃ ns : List Int, ds = [.slst (ns.map D.int)] ∧ ns.length ≤ 63 ∧ (∀ a, C a = none) ∧ k (.bl true) C
abbrev ringE : List Ent := [⟨"a", "", [], [], .non, some ("cause", some 1)⟩, ⟨"b", "", [], [], .non, some ("context", some 1)⟩]
abbrev ringP : List Ent := [⟨"b", "", [], [], .non, some ("context", some 0)⟩]
theorem ring_bld : Bld 2 0 ringE := ⟨_, [], [_], rfl, rfl, .inr ⟨rfl, _, [], [], rfl, rfl, .inl ⟨by decide, rfl⟩⟩⟩
theorem ring_g : ∀ e ∈ ringE, EntG e := fun e he => by
  simp only [List.mem_cons, List.not_mem_nil, or_false] at he
  rcases he with rfl | rfl
  · exact ⟨by decide +kernel, by decide +kernel, fun _ h => by simp at h, by decide, RsG.nil, by decide, trivial, fun w x e => by cases e; exact .inl rfl⟩
  · exact ⟨by decide +kernel, by decide +kernel, fun _ h => by simp at h, by decide, RsG.nil, by decide, trivial, fun w x e => by cases e; exact .inr rfl⟩
theorem ring_v : EsV 21 ringE := esV_of ring_bld ring_g (by decide) (by decide)
theorem ring_part : meetF {} ringE 2 1 0 0 ([], []) = some (0, ([1], ringP.map entD)) := rfl
theorem ring_along : alongF ringE = [0, 1] := by decide +kernel
theorem ringP_along : alongF ringP = [0] := by decide +kernel
theorem lkV_of {d : Nat} {E : List Ent} (h : Bld d 0 E) : LkV E := fun e he x hx => by
  have := (bld_lt d 0 E h e he).2 x hx
  rwa [Nat.zero_add] at this
theorem ringP_lk : LkV ringP := fun e he x hx => by
  rw [List.mem_singleton.mp he] at hx
  cases hx
  decide
theorem ints_sh (ns : List Nat) (h : ∀ x ∈ ns, x < 1000) : ∀ d ∈ intsD ns, d.shI = true := fun d hd => by
  obtain ⟨x, hx, rfl⟩ := List.mem_map.mp hd
  have := h x hx
  simp only [D.shI, decide_eq_true_eq]
  exact Nat.lt_of_lt_of_le (by omega : ((x : Int)).natAbs < 1000) (by decide)
theorem ints_wt : ∀ ns : List Nat, wtL (intsD ns) = 201 * ns.length
  | [] => rfl
  | x :: ns => by
    have ih := ints_wt ns
    unfold intsD at ih ⊢
    rw [List.map_cons, wtL, ih, List.length_cons]
    simp only [D.wt]
    omega
/-- what is known of a chain that was gone along -/
structure AlV (E : List Ent) : Prop where
  lt : ∀ x ∈ alongF E, x < E.length
  len : (alongF E).length ≤ E.length
theorem chain_v {E : List Ent} (hE : E.length ≤ 100) (hl : LkV E) : ∀ (m : Nat) (fs : List Nat) (l : Option (Str × Option Nat)), Chn E m fs l → AlV E
  | 0, fs, l, h => by
    have := nodup_len h.nd h.lt
    have := h.sum
    omega
  | m + 1, fs, l, h => by
    have stop : alongF E = fs → AlV E := fun e => ⟨by rw [e]; exact h.lt, by rw [e]; exact nodup_len h.nd h.lt⟩
    rcases hl' : l with _ | ⟨wd, _ | y⟩
    · exact stop (by rw [h.eq, hl', chain_stop _ _ _ _ rfl])
    · exact stop (by rw [h.eq, hl', chain_stop _ _ _ _ rfl])
    · subst hl'
      by_cases hm : y ∈ fs
      · exact stop (by rw [h.eq, chain_in _ _ _ _ _ hm])
      · have hy := h.ll y rfl
        exact chain_v hE hl m _ _ (h.next hE hm (List.getElem?_eq_getElem hy) hl)
theorem alV {E : List Ent} (h1 : 1 ≤ E.length) (hE : E.length ≤ 100) (hl : LkV E) : AlV E := chain_v hE hl 200 [0] _ (Chn.start (List.getElem?_eq_getElem (by omega)) hl)
theorem lst_ix {C : CS} {k : KD} {E : List Ent} {i : Nat} {e : Ent} (he : E[i]? = some e) (q : k (entD e) C) : dIx (.lst (E.map entD)) (.int (i : Nat)) C k := ix_f (at_nat (by rw [List.getElem?_map, he]; rfl)) q
/-- one turn: a record is drawn, its chain is gone along -/
theorem ok_law {f : Addr} {fd : FuncData} (F : Fun K "law" "law" s_law f fd) (T : Trc K Cr) (Z : Zs mg) (h1 : FnC P w K mg base "_law_take" 1 spTake) (h2 : FnC P w K mg base "_law_bag" 1 spBag) (h3 : FnC P w K mg base "_law_entries" 66 spEntries)
    (h4 : CmtC P w K mg base "Record" Cr "of" 45 [] (spROf Cr 21)) (h5 : MthC P w K mg base Cr "along" 1 [] (spAlong Cr)) (h6 : MthC P w K mg base Cr "part" 45 [] (spPart Cr 21)) : FnG P w K mg base CX0 67 f fd P_law (toSp K spLaw) := by
  refine fnS F sc_law v_law l_law g_law (fun ds C k h => by obtain ⟨_, rfl, _⟩ := h; rfl) fun X hB ds C k h => ?_
  obtain ⟨ns, rfl, hns, hC, h⟩ := h
  obtain ⟨hx, hn, hs, hg, hd, hnox⟩ := hB
  have fin : ∀ C', ∃ C2, Sub C2 C' ∧ k (.bl true) C2 := fun C' => ⟨C, (show Sub C C' from fun a c e => by rw [hC a] at e; cases e), h⟩
  clear h
  change WSs X _ [some (.slst (ns.map D.int)), none, none, none, none, none, none, none, none, none] C _
  refine wss_cons ?_
  refine x_for hx hnox (x_range1 hx Z (by walk_at "gl") ?_)
  walk_at "pyA"
  refine ⟨_, rfl, by rw [List.length_map]; split <;> split <;> omega, by rw [List.length_map]; split <;> split <;> omega, ?_⟩
  refine ⟨fun i env C' => ∃ o1 o3 o4 o5 o6 o7 o8 o9 : Option D, env = [some (.slst (ns.map D.int)), o1, none, o3, o4, o5, o6, o7, o8, o9], ⟨_, _, _, _, _, _, _, _, rfl⟩, fun _ _ _ _ => trivial, ?_, ?_⟩
  · rintro i d env C1 hi ⟨o1, o3, o4, o5, o6, o7, o8, o9, rfl⟩
    obtain ⟨hi, rfl⟩ := intsFrom_get hi
    have hi : i < 64 := by
      rw [List.length_map] at hi
      revert hi
      split <;> split <;> omega
    rw [Int.zero_add]
    walk_at "pyA"
    refine ⟨ns, i, rfl, by omega, fun b l hb hB => ?_⟩
    generalize DL.put C1 b (.lst l) = C2 at *
    walk_at "pyA"
    refine x_for hx hnox (x_range1 hx Z (by walk_at "gl") ?_)
    walk_at "pyA"
    refine ⟨3, rfl, by decide, by decide, ?_⟩
    refine ⟨fun t env C' => Bag C' b (60000 * t) ∧ ∃ o4 o5 o6 o7 o8 o9 : Option D, env = [some (.slst (ns.map D.int)), some (.int (i : Nat)), none, some (.own b), o4, o5, o6, o7, o8, o9], ⟨hB, _, _, _, _, _, _, rfl⟩, fun _ _ _ _ => trivial, ?_, ?_⟩
    · clear hB
      rintro t d env C3 ht ⟨hB, o4, o5, o6, o7, o8, o9, rfl⟩
      obtain ⟨ht3, rfl⟩ := intsFrom_get ht
      have ht3 : t < 3 := ht3
      walk_at "pyA"
      refine ⟨b, _, 9, rfl, hB, by omega, by omega, by omega, fun r l1 r0 r1 hB1 => ?_⟩
      generalize DL.put C3 b (.lst l1) = C4 at *
      obtain ⟨m, rfl⟩ := Int.eq_ofNat_of_zero_le r0
      walk_at "pyA"
      refine ⟨b, _, 1 + m, rfl, hB1, by omega, by omega, by omega, fun C5 pE E hpE F5 hB5 hbE hcE hBld hG hEl => ?_⟩
      have hV : EsV 21 E := esV_of hBld hG (by omega) (by omega)
      have hLk := lkV_of hBld
      have hA := alV hV.l1 hV.l2 hLk
      show WSs X _ _ _ _
      refine wss_frzI 5 rfl hcE ?_
      simp only [List.set_cons_succ, List.set_cons_zero]
      have hB6 : Bag (DL.del C5 pE) b (60000 * t + 1 + 6000 * (1 + m)) := hB5.of (del_ne hbE) (Nat.le_refl _)
      generalize DL.del C5 pE = C6 at hB6 ⊢
      refine wss_cons ?_
      walk_at "py"
      refine x_cmeth hx h4 (by walk_at "gl") ?_ (by omega)
      walk_at "py"
      refine ⟨_, E, rfl, .inr (.inl rfl), hV, fun C7 r hr hR F7 => ?_⟩
      walk_at "py"
      refine we_lst ?_
      walk_at "py"
      intro q1 hq1
      obtain ⟨e0, he0⟩ : ∃ e, E[0]? = some e := ⟨_, List.getElem?_eq_getElem hV.l1⟩
      have hB7 : Bag C7 b (60000 * t + 1 + 6000 * (1 + m)) := by
        obtain ⟨l', hl'⟩ := hB6.some
        exact hB6.of (F7 b (by simp) (by rw [hl']; simp)) (Nat.le_refl _)
      have hR7 : RecIs Cr C7 (.own r) E := insD_own hR
      have hR8 : ∀ c, RecIs Cr (DL.put C7 q1 c) (.own r) E := fun c => hR7.nw hq1
      have hB8 : ∀ c, Bag (DL.put C7 q1 c) b (60000 * t + 1 + 6000 * (1 + m)) := fun c => hB7.put (hB7.ne hq1)
      have hA1 : ∀ x ∈ alongF E, x < 1000 := fun x hx => by have := hA.lt x hx; have := hV.l2; omega
      have hA2 : (alongF E).length ≤ 100 := by have := hA.len; have := hV.l2; omega
      walk_at "py"
      refine lst_ix (i := 0) he0 ?_
      walk_at "py"
      refine lnk_ix ?_
      walk_at "py"
      refine x_while hnox (fun mm env C' => ∃ (fs : List Nat) (lk : Option (Str × Option Nat)), C' = DL.put C7 q1 (.lst (intsD fs)) ∧ env = [some (.slst (ns.map D.int)), some (.int (i : Nat)), none, some (.own b), some (.int (0 + (t : Nat))), some (.lst (E.map entD)), o6, some (.own r), some (.own q1), some (lnkD lk)] ∧ Chn E mm fs lk) ⟨200, [0], e0.link, rfl, rfl, Chn.start he0 hLk⟩ ?_
      rintro mm env C' ⟨fs, lk, rfl, rfl, hCh⟩
      have hfl := nodup_len hCh.nd hCh.lt
      have hsm := hCh.sum
      have hl2 := hV.l2
      rcases lk with _ | ⟨wd, _ | y⟩
      · obtain rfl : alongF E = fs := by rw [hCh.eq, chain_stop _ _ _ _ rfl]
        show WT X _ [some (.slst (ns.map D.int)), some (.int (i : Nat)), none, some (.own b), some (.int (0 + (t : Nat))), some (.lst (E.map entD)), o6, some (.own r), some (.own q1), some .non] _ _
        walk_at "py"
        all_goals try walk_at "bad"
        refine x_meth0 hx h5 ?_ (by omega)
        walk_at "py"
        refine ⟨⟨_, _, hR8 _, by decide +kernel⟩, ?_⟩
        refine ⟨.own r, E, rfl, hR8 _, hV.l1, hV.l2, hLk, fun q2 hq2 => ?_⟩
        obtain ⟨C9, hC9⟩ : ∃ C9, C9 = DL.put (DL.put C7 q1 (.lst (intsD (alongF E)))) q2 (.lst (intsD (alongF E))) := ⟨_, rfl⟩
        rw [← hC9]
        have hbq := (hB8 (.lst (intsD (alongF E)))).ne hq2
        have n1 : q1 ≠ q2 := fun e => by rw [← e, put_same] at hq2; cases hq2
        have c1 : C9 q1 = some (.lst (intsD (alongF E))) := by rw [hC9, put_ne n1]; exact put_same
        have c2 : C9 q2 = some (.lst (intsD (alongF E))) := by rw [hC9]; exact put_same
        have hR9 : RecIs Cr C9 (.own r) E := by rw [hC9]; exact (hR8 _).nw hq2
        have hB9 : Bag C9 b (60000 * t + 1 + 6000 * (1 + m)) := by rw [hC9]; exact (hB8 _).put ((hB8 _).ne hq2)
        clear hC9 hq2
        have s2 := seqR_own c2
        walk_at "pyR"
        all_goals try walk_at "bad"
        refine repr_o c2 (ints_fit _) (by decide) (ints_sh _ hA1) (by rw [ints_wt]; omega) ?_
        walk_at "pyR"
        refine repr_o c1 (ints_fit _) (by decide) (ints_sh _ hA1) (by rw [ints_wt]; omega) ?_
        refine ne_sS ?_
        rw [beq_self_eq_true]
        walk_at "pyR"
        all_goals try walk_at "bad"
        refine app_ok c2 (by rw [ints_len]; exact Nat.lt_of_le_of_lt (by omega : (alongF E).length ≤ 1000) (by decide)) ?_
        have hR10 : RecIs Cr (DL.put C9 q2 (.lst (intsD (alongF E) ++ [.int 7]))) (.own r) E := by
          show insD _ _ = _
          have hn2 : r ≠ q2 := fun e => by rw [e] at hR9; simp [RecIs, insD, c2] at hR9
          simp only [insD, put_ne hn2]
          exact hR9
        have c10 : (DL.put C9 q2 (.lst (intsD (alongF E) ++ [.int 7]))) q1 = some (.lst (intsD (alongF E))) := by rw [put_ne n1]; exact c1
        have hB10 := hB9.put (c := .lst (intsD (alongF E) ++ [.int 7])) hbq
        generalize DL.put C9 q2 (.lst (intsD (alongF E) ++ [.int 7])) = C10 at hR10 c10 hB10 ⊢
        walk_at "pyR"
        refine x_meth0 hx h5 ?_ (by omega)
        walk_at "pyR"
        refine ⟨⟨_, _, hR10, by decide +kernel⟩, ?_⟩
        refine ⟨.own r, E, rfl, hR10, hV.l1, hV.l2, hLk, fun q3 hq3 => ?_⟩
        have n3 : q1 ≠ q3 := cell_ne c10 hq3
        walk_at "pyR"
        refine ne_oo put_same (by rw [put_ne n3]; exact c10) (ints_fit _) (ints_fit _) (by decide) (by decide) ?_
        rw [eqL_refl (ints_fit _)]
        walk_at "pyR"
        all_goals try walk_at "bad"
        exact ⟨(hB10.put (hB10.ne hq3)).mono (by omega), _, _, _, _, _, _, rfl⟩
      · obtain rfl : alongF E = fs := by rw [hCh.eq, chain_stop _ _ _ _ rfl]
        show WT X _ [some (.slst (ns.map D.int)), some (.int (i : Nat)), none, some (.own b), some (.int (0 + (t : Nat))), some (.lst (E.map entD)), o6, some (.own r), some (.own q1), some (.tup [.str wd, .non])] _ _
        walk_at "py"
        all_goals try walk_at "bad"
        refine x_meth0 hx h5 ?_ (by omega)
        walk_at "py"
        refine ⟨⟨_, _, hR8 _, by decide +kernel⟩, ?_⟩
        refine ⟨.own r, E, rfl, hR8 _, hV.l1, hV.l2, hLk, fun q2 hq2 => ?_⟩
        obtain ⟨C9, hC9⟩ : ∃ C9, C9 = DL.put (DL.put C7 q1 (.lst (intsD (alongF E)))) q2 (.lst (intsD (alongF E))) := ⟨_, rfl⟩
        rw [← hC9]
        have hbq := (hB8 (.lst (intsD (alongF E)))).ne hq2
        have n1 : q1 ≠ q2 := fun e => by rw [← e, put_same] at hq2; cases hq2
        have c1 : C9 q1 = some (.lst (intsD (alongF E))) := by rw [hC9, put_ne n1]; exact put_same
        have c2 : C9 q2 = some (.lst (intsD (alongF E))) := by rw [hC9]; exact put_same
        have hR9 : RecIs Cr C9 (.own r) E := by rw [hC9]; exact (hR8 _).nw hq2
        have hB9 : Bag C9 b (60000 * t + 1 + 6000 * (1 + m)) := by rw [hC9]; exact (hB8 _).put ((hB8 _).ne hq2)
        clear hC9 hq2
        have s2 := seqR_own c2
        walk_at "pyR"
        all_goals try walk_at "bad"
        refine repr_o c2 (ints_fit _) (by decide) (ints_sh _ hA1) (by rw [ints_wt]; omega) ?_
        walk_at "pyR"
        refine repr_o c1 (ints_fit _) (by decide) (ints_sh _ hA1) (by rw [ints_wt]; omega) ?_
        refine ne_sS ?_
        rw [beq_self_eq_true]
        walk_at "pyR"
        all_goals try walk_at "bad"
        refine app_ok c2 (by rw [ints_len]; exact Nat.lt_of_le_of_lt (by omega : (alongF E).length ≤ 1000) (by decide)) ?_
        have hR10 : RecIs Cr (DL.put C9 q2 (.lst (intsD (alongF E) ++ [.int 7]))) (.own r) E := by
          show insD _ _ = _
          have hn2 : r ≠ q2 := fun e => by rw [e] at hR9; simp [RecIs, insD, c2] at hR9
          simp only [insD, put_ne hn2]
          exact hR9
        have c10 : (DL.put C9 q2 (.lst (intsD (alongF E) ++ [.int 7]))) q1 = some (.lst (intsD (alongF E))) := by rw [put_ne n1]; exact c1
        have hB10 := hB9.put (c := .lst (intsD (alongF E) ++ [.int 7])) hbq
        generalize DL.put C9 q2 (.lst (intsD (alongF E) ++ [.int 7])) = C10 at hR10 c10 hB10 ⊢
        walk_at "pyR"
        refine x_meth0 hx h5 ?_ (by omega)
        walk_at "pyR"
        refine ⟨⟨_, _, hR10, by decide +kernel⟩, ?_⟩
        refine ⟨.own r, E, rfl, hR10, hV.l1, hV.l2, hLk, fun q3 hq3 => ?_⟩
        have n3 : q1 ≠ q3 := cell_ne c10 hq3
        walk_at "pyR"
        refine ne_oo put_same (by rw [put_ne n3]; exact c10) (ints_fit _) (ints_fit _) (by decide) (by decide) ?_
        rw [eqL_refl (ints_fit _)]
        walk_at "pyR"
        all_goals try walk_at "bad"
        exact ⟨(hB10.put (hB10.ne hq3)).mono (by omega), _, _, _, _, _, _, rfl⟩
      · show WT X _ [some (.slst (ns.map D.int)), some (.int (i : Nat)), none, some (.own b), some (.int (0 + (t : Nat))), some (.lst (E.map entD)), o6, some (.own r), some (.own q1), some (.tup [.str wd, .int y])] _ _
        have hy := hCh.ll y rfl
        obtain ⟨e, he⟩ : ∃ e, E[y]? = some e := ⟨_, List.getElem?_eq_getElem hy⟩
        walk_at "py"
        all_goals try walk_at "bad"
        refine nin_ints put_same ?_
        by_cases hm : y ∈ fs
        · obtain rfl : alongF E = fs := by rw [hCh.eq, chain_in _ _ _ _ _ hm]
          rw [decide_eq_true hm]
          walk_at "py"
          all_goals try walk_at "bad"
          refine x_meth0 hx h5 ?_ (by omega)
          walk_at "py"
          refine ⟨⟨_, _, hR8 _, by decide +kernel⟩, ?_⟩
          refine ⟨.own r, E, rfl, hR8 _, hV.l1, hV.l2, hLk, fun q2 hq2 => ?_⟩
          obtain ⟨C9, hC9⟩ : ∃ C9, C9 = DL.put (DL.put C7 q1 (.lst (intsD (alongF E)))) q2 (.lst (intsD (alongF E))) := ⟨_, rfl⟩
          rw [← hC9]
          have hbq := (hB8 (.lst (intsD (alongF E)))).ne hq2
          have n1 : q1 ≠ q2 := fun e => by rw [← e, put_same] at hq2; cases hq2
          have c1 : C9 q1 = some (.lst (intsD (alongF E))) := by rw [hC9, put_ne n1]; exact put_same
          have c2 : C9 q2 = some (.lst (intsD (alongF E))) := by rw [hC9]; exact put_same
          have hR9 : RecIs Cr C9 (.own r) E := by rw [hC9]; exact (hR8 _).nw hq2
          have hB9 : Bag C9 b (60000 * t + 1 + 6000 * (1 + m)) := by rw [hC9]; exact (hB8 _).put ((hB8 _).ne hq2)
          clear hC9 hq2
          have s2 := seqR_own c2
          walk_at "pyR"
          all_goals try walk_at "bad"
          refine repr_o c2 (ints_fit _) (by decide) (ints_sh _ hA1) (by rw [ints_wt]; omega) ?_
          walk_at "pyR"
          refine repr_o c1 (ints_fit _) (by decide) (ints_sh _ hA1) (by rw [ints_wt]; omega) ?_
          refine ne_sS ?_
          rw [beq_self_eq_true]
          walk_at "pyR"
          all_goals try walk_at "bad"
          refine app_ok c2 (by rw [ints_len]; exact Nat.lt_of_le_of_lt (by omega : (alongF E).length ≤ 1000) (by decide)) ?_
          have hR10 : RecIs Cr (DL.put C9 q2 (.lst (intsD (alongF E) ++ [.int 7]))) (.own r) E := by
            show insD _ _ = _
            have hn2 : r ≠ q2 := fun e => by rw [e] at hR9; simp [RecIs, insD, c2] at hR9
            simp only [insD, put_ne hn2]
            exact hR9
          have c10 : (DL.put C9 q2 (.lst (intsD (alongF E) ++ [.int 7]))) q1 = some (.lst (intsD (alongF E))) := by rw [put_ne n1]; exact c1
          have hB10 := hB9.put (c := .lst (intsD (alongF E) ++ [.int 7])) hbq
          generalize DL.put C9 q2 (.lst (intsD (alongF E) ++ [.int 7])) = C10 at hR10 c10 hB10 ⊢
          walk_at "pyR"
          refine x_meth0 hx h5 ?_ (by omega)
          walk_at "pyR"
          refine ⟨⟨_, _, hR10, by decide +kernel⟩, ?_⟩
          refine ⟨.own r, E, rfl, hR10, hV.l1, hV.l2, hLk, fun q3 hq3 => ?_⟩
          have n3 : q1 ≠ q3 := cell_ne c10 hq3
          walk_at "pyR"
          refine ne_oo put_same (by rw [put_ne n3]; exact c10) (ints_fit _) (ints_fit _) (by decide) (by decide) ?_
          rw [eqL_refl (ints_fit _)]
          walk_at "pyR"
          all_goals try walk_at "bad"
          exact ⟨(hB10.put (hB10.ne hq3)).mono (by omega), _, _, _, _, _, _, rfl⟩
        · rw [decide_eq_false hm]
          walk_at "py"
          all_goals try walk_at "bad"
          show dIx (.tup [.str wd, .int y]) (.int 1) _ _
          walk_at "py"
          refine app_put (by rw [ints_len]; exact Nat.lt_of_le_of_lt (by omega : fs.length ≤ 1000) (by decide)) ?_
          walk_at "py"
          show dIx (.tup [.str wd, .int y]) (.int 1) _ _
          walk_at "py"
          refine lst_ix he ?_
          walk_at "py"
          refine lnk_ix ?_
          walk_at "py"
          exact ⟨mm - 1, by omega, fs ++ [y], e.link, by simp [intsD], rfl, hCh.next hl2 hm he hLk⟩
    · rintro env C3 ⟨hB3, o4, o5, o6, o7, o8, o9, rfl⟩
      walk_at "py"
      exact ⟨_, _, _, _, _, _, _, _, rfl⟩
  · rintro env C1 ⟨o1, o3, o4, o5, o6, o7, o8, o9, rfl⟩
    walk_at "pyA"
    refine x_meth0 hx h5 ?_ (by omega)
    refine x_cmeth hx h4 (by walk_at "gl") ?_ (by omega)
    walk_at "py"
    refine ⟨_, ringE, rfl, .inr (.inl rfl), ring_v, fun C2 r hr hR F2 => ?_⟩
    have hR2 : RecIs Cr C2 (.own r) ringE := insD_own hR
    refine ⟨⟨_, _, hR2, by decide +kernel⟩, ?_⟩
    refine ⟨.own r, ringE, rfl, hR2, by decide, by decide, lkV_of ring_bld, fun q hq => ?_⟩
    rw [ring_along]
    walk_at "pyA"
    refine eq_ol put_same (ints_fit _) (ints_fit [0, 1]) (by decide) (by decide) ?_
    rw [show eqL (intsD [0, 1]) [.int 0, .int 1] = true from rfl]
    walk_at "pyA"
    all_goals try walk_at "bad"
    refine x_meth0 hx h5 ?_ (by omega)
    refine x_meth hx h6 ?_ (by omega)
    refine x_cmeth hx h4 (by walk_at "gl") ?_ (by omega)
    walk_at "py"
    refine ⟨_, ringE, rfl, .inr (.inl rfl), ring_v, fun C3 r3 hr3 hR3 F3 => ?_⟩
    have hR4 : RecIs Cr C3 (.own r3) ringE := insD_own hR3
    refine ⟨⟨_, _, hR4, by decide +kernel⟩, ?_⟩
    walk_at "py"
    refine ⟨.own r3, ringE, ringP, 1, 2, [1], 0, rfl, hR4, by decide, by decide, by decide, by decide, ring_part, by simp, by decide, fun C5 r5 hr5 hR5 F5 => ?_⟩
    have hR6 : RecIs Cr C5 (.own r5) ringP := insD_own hR5
    refine ⟨⟨_, _, hR6, by decide +kernel⟩, ?_⟩
    refine ⟨.own r5, ringP, rfl, hR6, by decide, by decide, ringP_lk, fun q5 hq5 => ?_⟩
    rw [ringP_along]
    walk_at "pyA"
    refine eq_ol put_same (ints_fit _) (ints_fit [0]) (by decide) (by decide) ?_
    rw [show eqL (intsD [0]) [.int 0] = true from rfl]
    exact fin _
end
end K31
namespace K31
section
variable {P : Program} {w : World} {K : PySem.W.Frag} {mg : Str → Option Value} {base : Heap}
/-- the drawing of entries, however deep -/
theorem all_build {fl fm fb : Addr} {dl dm db : FuncData} (Fl : Fun K "_law_lead" "_law_lead" s_lead fl dl) (bl : Binds K dl P_lead []) (ml : mg "_law_lead" = some (.ref fl)) (kl : PySem.W.keepIn K (.ref fl) = true)
    (Fm : Fun K "_law_members" "_law_members" s_members fm dm) (bm : Binds K dm P_members []) (mm : mg "_law_members" = some (.ref fm)) (km : PySem.W.keepIn K (.ref fm) = true)
    (Fb : Fun K "_law_build" "_law_build" s_build fb db) (bb : Binds K db P_build []) (mb : mg "_law_build" = some (.ref fb)) (kb : PySem.W.keepIn K (.ref fb) = true)
    (Z : Zs mg) (h1 : FnC P w K mg base "_law_take" 1 spTake) (h2 : FnC P w K mg base "_law_of" 2 spOf) (h3 : FnC P w K mg base "_law_name" 3 (spStr Nm 20)) (h4 : FnC P w K mg base "_law_text" 4 (spStr Tx 100)) (h5 : FnC P w K mg base "_law_rows" 5 spRows) :
    ∀ d : Nat, FnC P w K mg base "_law_build" (3 * d + 5) (spBuild d)
  | 0 => ⟨fb, db, P_build, ok_build0, mb, kb, bb⟩
  | d + 1 => by
    have hb := all_build Fl bl ml kl Fm bm mm km Fb bb mb kb Z h1 h2 h3 h4 h5 d
    have hl : FnC P w K mg base "_law_lead" (3 * d + 6) (spLead d) := ⟨fl, dl, P_lead, ok_lead d Fl Z h1 hb, ml, kl, bl⟩
    have hm : FnC P w K mg base "_law_members" (3 * d + 7) (spMembers d) := ⟨fm, dm, P_members, ok_members d Fm Z h1 h2 hl, mm, km, bm⟩
    exact ⟨fb, db, P_build, ok_build d Fb Z h1 h2 h3 h4 h5 hm hl, mb, kb, bb⟩
/-- the meeting of entries, however deep -/
theorem all_meet {Cw : Addr} {f1 f2 f3 : Addr} {d1 d2 d3 : FuncData} (c : Cls K Cw) (T : Twc K Cw) (F1 : Fun K "meet" "Walk.meet" s_Walk_meet f1 d1) (b1 : Binds K d1 P_Walk_meet []) (m1 : Meth K Cw "meet" f1)
    (F2 : Fun K "met_members" "Walk.met_members" s_Walk_met_members f2 d2) (b2 : Binds K d2 P_Walk_met_members []) (m2 : Meth K Cw "met_members" f2)
    (F3 : Fun K "met_link" "Walk.met_link" s_Walk_met_link f3 d3) (b3 : Binds K d3 P_Walk_met_link []) (m3 : Meth K Cw "met_link" f3)
    (Z : Zs mg) (h2 : FnC P w K mg base "numbers_in" 1 spNums) (h3 : FnC P w K mg base "left_out" 1 spGone) (g1 : MgK K mg "DEEP" (.str "deep")) (g2 : MgK K mg "MORE" (.str "more")) :
    ∀ n : Nat, MthC P w K mg base Cw "meet" (2 * n + 2) [] (spMeet Cw n)
  | 0 => ⟨c, f1, m1, d1, P_Walk_meet, [], [], ok_meet0, b1, .nil, fun _ => .nil⟩
  | n + 1 => by
    have h := all_meet c T F1 b1 m1 F2 b2 m2 F3 b3 m3 Z h2 h3 g1 g2 n
    have hm : MthC P w K mg base Cw "met_members" (2 * n + 3) [] (spMMem Cw n) := ⟨c, f2, m2, d2, P_Walk_met_members, [], [], ok_mMem n F2 T Z h h2 h3 g1 g2, b2, .nil, fun _ => .nil⟩
    have hl : MthC P w K mg base Cw "met_link" (2 * n + 3) [] (spMLink Cw n) := ⟨c, f3, m3, d3, P_Walk_met_link, [], [], ok_mLink n F3 T h, b3, .nil, fun _ => .nil⟩
    exact ⟨c, f1, m1, d1, P_Walk_meet, [], [], ok_meet n F1 T Z hm hl, b1, .nil, fun _ => .nil⟩
theorem bd_wInit {f kd : Addr} {oc cdv ct doc pm : Value} {od an : Option Addr} {osl : Array (Option Value)} (l : K.lookup f = some ⟨oc, od, .func (PySem.W.fnOf "__init__" "Walk.__init__" (defArgs s_Walk___init__) (defBody s_Walk___init__) (defScope s_Walk___init__) .none (.ref kd) doc pm an cdv ct), osl⟩)
    (c : PySem.W.codeIn K cdv "Walk.__init__" = true) (k : PySem.W.keepIn K (.ref f) = true) (w1 : PySem.W.nsIn K kd "width" = some (some .none)) (w2 : PySem.W.nsIn K kd "depth" = some (some .none)) (w3 : PySem.W.nsIn K kd "chain" = some (some .none)) :
    ∃ ds, Vals [V.non, .non, .non] ds ∧ Binds K (PySem.W.fnOf "__init__" "Walk.__init__" (defArgs s_Walk___init__) (defBody s_Walk___init__) (defScope s_Walk___init__) .none (.ref kd) doc pm an cdv ct) P_Walk___init__ ds := by
  have FD : FunD K "__init__" "Walk.__init__" (defArgs s_Walk___init__) (defBody s_Walk___init__) (defScope s_Walk___init__) [] [("width", .non), ("depth", .non), ("chain", .non)] f (PySem.W.fnOf "__init__" "Walk.__init__" (defArgs s_Walk___init__) (defBody s_Walk___init__) (defScope s_Walk___init__) .none (.ref kd) doc pm an cdv ct) :=
    ⟨⟨oc, od, .none, .ref kd, doc, pm, an, cdv, ct, osl, rfl, l, c, .inl ⟨rfl, rfl⟩, .inr ⟨kd, rfl, fun q hq => by
      simp only [List.mem_cons, List.not_mem_nil, or_false] at hq
      rcases hq with rfl | rfl | rfl
      · exact ⟨_, w1, rfl⟩
      · exact ⟨_, w2, rfl⟩
      · exact ⟨_, w3, rfl⟩⟩⟩, k⟩
  exact FD.binds0 (ps := P_Walk___init__) 2 (by simp) rfl fun D doc pm an cdv ct us ks h1 h2 => match us, ks, h1, h2 with
    | [_, _], [_, _, _], _, _ => ⟨_, _, _, _, _, _, rfl, rfl, _, _, _, _, _, _, rfl, rfl, _, _, _, _, _, _, rfl, rfl, rfl⟩
end
end K31
namespace K31
section
theorem dat_ints {K : PySem.W.Frag} {G : Hp} : ∀ ns : List Int, DatAll K G (ns.map V.int) (ns.map D.int)
  | [] => .nil
  | _ :: ns => .cons (.int _) (dat_ints ns)
theorem wld0 {K : PySem.W.Frag} {H : Hp} : Wld K H (fun _ => none) H := ⟨fun _ _ h => h, fun _ _ e => by cases e⟩

theorem all_mk {l : PySem.W.OpenLaw} {w : World} {K : PySem.W.Frag} {h : Heap} {mg : Str → Option Value} {fa : Addr} (X : K.In h) (G : h.Ns mainGlobals mg) (hfa : mg "law" = some (.ref fa))
    {C1 : Addr}
    {C2 : Addr}
    {f1 : Addr} {od1 an1 : Option Addr} {sl1 : Array (Option Value)} {oc1 kV1 dc1 pm1 cd1 ct1 : Value}
    {f2 : Addr} {od2 an2 : Option Addr} {sl2 : Array (Option Value)} {oc2 kV2 dc2 pm2 cd2 ct2 : Value}
    {f3 : Addr} {od3 an3 : Option Addr} {sl3 : Array (Option Value)} {oc3 kV3 dc3 pm3 cd3 ct3 : Value}
    {f4 : Addr} {od4 an4 : Option Addr} {sl4 : Array (Option Value)} {oc4 kV4 dc4 pm4 cd4 ct4 : Value}
    {f5 : Addr} {od5 an5 : Option Addr} {sl5 : Array (Option Value)} {oc5 kV5 dc5 pm5 cd5 ct5 : Value}
    {f6 : Addr} {od6 an6 : Option Addr} {sl6 : Array (Option Value)} {oc6 kV6 dc6 pm6 cd6 ct6 : Value}
    {f7 : Addr} {od7 an7 : Option Addr} {sl7 : Array (Option Value)} {oc7 kV7 dc7 pm7 cd7 ct7 : Value}
    {f8 : Addr} {od8 an8 : Option Addr} {sl8 : Array (Option Value)} {oc8 kV8 dc8 pm8 cd8 ct8 : Value}
    {f9 : Addr} {od9 an9 : Option Addr} {sl9 : Array (Option Value)} {oc9 kV9 dc9 pm9 cd9 ct9 : Value}
    {f10 : Addr} {od10 an10 : Option Addr} {sl10 : Array (Option Value)} {oc10 kV10 dc10 pm10 cd10 ct10 : Value}
    {f11 : Addr} {od11 an11 : Option Addr} {sl11 : Array (Option Value)} {oc11 kV11 dc11 pm11 cd11 ct11 : Value}
    {f12 : Addr} {od12 an12 : Option Addr} {sl12 : Array (Option Value)} {oc12 kV12 dc12 pm12 cd12 ct12 : Value}
    {f13 : Addr} {od13 an13 : Option Addr} {sl13 : Array (Option Value)} {oc13 kV13 dc13 pm13 cd13 ct13 : Value}
    {f14 : Addr} {od14 an14 : Option Addr} {sl14 : Array (Option Value)} {oc14 kV14 dc14 pm14 cd14 ct14 : Value}
    {f15 : Addr} {od15 an15 : Option Addr} {sl15 : Array (Option Value)} {oc15 kV15 dc15 pm15 cd15 ct15 : Value}
    {f16 : Addr} {od16 an16 : Option Addr} {sl16 : Array (Option Value)} {oc16 kV16 dc16 pm16 cd16 ct16 : Value}
    {f17 : Addr} {od17 an17 : Option Addr} {sl17 : Array (Option Value)} {oc17 kV17 dc17 pm17 cd17 ct17 : Value}
    {f18 : Addr} {od18 an18 : Option Addr} {sl18 : Array (Option Value)} {oc18 kV18 dc18 pm18 cd18 ct18 : Value}
    {f19 : Addr} {od19 an19 : Option Addr} {sl19 : Array (Option Value)} {oc19 kV19 dc19 pm19 cd19 ct19 : Value}
    {f20 : Addr} {od20 an20 : Option Addr} {sl20 : Array (Option Value)} {oc20 kV20 dc20 pm20 cd20 ct20 : Value}
    {f21 : Addr} {od21 an21 : Option Addr} {sl21 : Array (Option Value)} {oc21 kV21 dc21 pm21 cd21 ct21 : Value}
    {f22 : Addr} {od22 an22 : Option Addr} {sl22 : Array (Option Value)} {oc22 kV22 dc22 pm22 cd22 ct22 : Value}
    {f23 : Addr} {od23 an23 : Option Addr} {sl23 : Array (Option Value)} {oc23 kV23 dc23 pm23 cd23 ct23 : Value}
    {f24 : Addr} {od24 an24 : Option Addr} {sl24 : Array (Option Value)} {oc24 kV24 dc24 pm24 cd24 ct24 : Value}
    {f25 : Addr} {od25 an25 : Option Addr} {sl25 : Array (Option Value)} {oc25 kV25 dc25 pm25 cd25 ct25 : Value}
    {f26 : Addr} {od26 an26 : Option Addr} {sl26 : Array (Option Value)} {oc26 kV26 dc26 pm26 cd26 ct26 : Value}
    {f27 : Addr} {od27 an27 : Option Addr} {sl27 : Array (Option Value)} {oc27 kV27 dc27 pm27 cd27 ct27 : Value}
    {f28 : Addr} {od28 an28 : Option Addr} {sl28 : Array (Option Value)} {oc28 kV28 dc28 pm28 cd28 ct28 : Value}
    {f29 : Addr} {od29 an29 : Option Addr} {sl29 : Array (Option Value)} {oc29 kV29 dc29 pm29 cd29 ct29 : Value}
    {f30 : Addr} {od30 an30 : Option Addr} {sl30 : Array (Option Value)} {oc30 dc30 pm30 cd30 ct30 : Value}
    {kd30 : Addr}
    {f31 : Addr} {od31 an31 : Option Addr} {sl31 : Array (Option Value)} {oc31 kV31 dc31 pm31 cd31 ct31 : Value}
    {f32 : Addr} {od32 an32 : Option Addr} {sl32 : Array (Option Value)} {oc32 kV32 dc32 pm32 cd32 ct32 : Value}
    {f33 : Addr} {od33 an33 : Option Addr} {sl33 : Array (Option Value)} {oc33 kV33 dc33 pm33 cd33 ct33 : Value}
    {f34 : Addr} {od34 an34 : Option Addr} {sl34 : Array (Option Value)} {oc34 kV34 dc34 pm34 cd34 ct34 : Value}
    {f35 : Addr} {od35 an35 : Option Addr} {sl35 : Array (Option Value)} {oc35 kV35 dc35 pm35 cd35 ct35 : Value}
    {pp35 : Addr}
    {f36 : Addr} {od36 an36 : Option Addr} {sl36 : Array (Option Value)} {oc36 kV36 dc36 pm36 cd36 ct36 : Value}
    {f37 : Addr} {od37 an37 : Option Addr} {sl37 : Array (Option Value)} {oc37 kV37 dc37 pm37 cd37 ct37 : Value}
    {f38 : Addr} {od38 an38 : Option Addr} {sl38 : Array (Option Value)} {oc38 kV38 dc38 pm38 cd38 ct38 : Value}
    {f39 : Addr} {od39 an39 : Option Addr} {sl39 : Array (Option Value)} {oc39 kV39 dc39 pm39 cd39 ct39 : Value}
    {tk0 : Tok}
    {tk1 : Tok}
    {tk2 : Tok}
    {tk3 : Tok}
    {tk4 : Tok}
    {tk5 : Tok}
    {ta6 : Addr} {od06 : Option Addr} {nn6 : Nat} {ss6 : Array (Option Value)} {tk6_0 tk6_1 tk6_2 : Tok}
    {tk7 : Tok}
    {tk8 : Tok}
    {tk9 : Tok}
    {tk10 : Tok}
    {tk11 : Tok}
    {tk12 : Tok}
    (aC1 : PySem.W.nsIn K mainGlobals "Walk" = some (some (.ref C1))) (cg1 : PySem.W.plainGet K C1 Str.empty = true) (ch1 : PySem.W.hasDictIn K C1 = true) (co1 : PySem.W.plainOver K C1 = true) (cx1 : PySem.W.findIn K (.ref C1) "__setattr__" = some (some (.builtin "object.__setattr__"))) (cm1 : PySem.W.makesIn K C1 = true) (ck1 : PySem.W.keepIn K (.ref C1) = true) (n1_0 : PySem.W.findIn K (.ref C1) "old" = some none) (n1_1 : PySem.W.findIn K (.ref C1) "most_members" = some none) (n1_2 : PySem.W.findIn K (.ref C1) "most_depth" = some none) (n1_3 : PySem.W.findIn K (.ref C1) "most_links" = some none) (n1_4 : PySem.W.findIn K (.ref C1) "numbers" = some none) (n1_5 : PySem.W.findIn K (.ref C1) "found" = some none)
    (aC2 : PySem.W.nsIn K mainGlobals "Record" = some (some (.ref C2))) (cg2 : PySem.W.plainGet K C2 Str.empty = true) (ch2 : PySem.W.hasDictIn K C2 = true) (co2 : PySem.W.plainOver K C2 = true) (cx2 : PySem.W.findIn K (.ref C2) "__setattr__" = some (some (.builtin "object.__setattr__"))) (cm2 : PySem.W.makesIn K C2 = true) (ck2 : PySem.W.keepIn K (.ref C2) = true) (n2_0 : PySem.W.findIn K (.ref C2) "kept" = some none) (n2_1 : PySem.W.findIn K (.ref C2) "head" = some none)
    (a1 : PySem.W.nsIn K mainGlobals "is_integer" = some (some (.ref f1))) (l1 : K.lookup f1 = some ⟨oc1, od1, .func (PySem.W.fnOf "is_integer" "is_integer" (defArgs s_is_integer) (defBody s_is_integer) (defScope s_is_integer) .none kV1 dc1 pm1 an1 cd1 ct1), sl1⟩) (c1 : PySem.W.codeIn K cd1 "is_integer" = true) (k1 : PySem.W.keepIn K (.ref f1) = true)
    (a2 : PySem.W.nsIn K mainGlobals "is_from" = some (some (.ref f2))) (l2 : K.lookup f2 = some ⟨oc2, od2, .func (PySem.W.fnOf "is_from" "is_from" (defArgs s_is_from) (defBody s_is_from) (defScope s_is_from) .none kV2 dc2 pm2 an2 cd2 ct2), sl2⟩) (c2 : PySem.W.codeIn K cd2 "is_from" = true) (k2 : PySem.W.keepIn K (.ref f2) = true)
    (a3 : PySem.W.nsIn K mainGlobals "is_name" = some (some (.ref f3))) (l3 : K.lookup f3 = some ⟨oc3, od3, .func (PySem.W.fnOf "is_name" "is_name" (defArgs s_is_name) (defBody s_is_name) (defScope s_is_name) .none kV3 dc3 pm3 an3 cd3 ct3), sl3⟩) (c3 : PySem.W.codeIn K cd3 "is_name" = true) (k3 : PySem.W.keepIn K (.ref f3) = true)
    (a4 : PySem.W.nsIn K mainGlobals "is_line" = some (some (.ref f4))) (l4 : K.lookup f4 = some ⟨oc4, od4, .func (PySem.W.fnOf "is_line" "is_line" (defArgs s_is_line) (defBody s_is_line) (defScope s_is_line) .none kV4 dc4 pm4 an4 cd4 ct4), sl4⟩) (c4 : PySem.W.codeIn K cd4 "is_line" = true) (k4 : PySem.W.keepIn K (.ref f4) = true)
    (a5 : PySem.W.nsIn K mainGlobals "is_shown" = some (some (.ref f5))) (l5 : K.lookup f5 = some ⟨oc5, od5, .func (PySem.W.fnOf "is_shown" "is_shown" (defArgs s_is_shown) (defBody s_is_shown) (defScope s_is_shown) .none kV5 dc5 pm5 an5 cd5 ct5), sl5⟩) (c5 : PySem.W.codeIn K cd5 "is_shown" = true) (k5 : PySem.W.keepIn K (.ref f5) = true)
    (a6 : PySem.W.nsIn K mainGlobals "is_row" = some (some (.ref f6))) (l6 : K.lookup f6 = some ⟨oc6, od6, .func (PySem.W.fnOf "is_row" "is_row" (defArgs s_is_row) (defBody s_is_row) (defScope s_is_row) .none kV6 dc6 pm6 an6 cd6 ct6), sl6⟩) (c6 : PySem.W.codeIn K cd6 "is_row" = true) (k6 : PySem.W.keepIn K (.ref f6) = true)
    (a7 : PySem.W.nsIn K mainGlobals "is_gap" = some (some (.ref f7))) (l7 : K.lookup f7 = some ⟨oc7, od7, .func (PySem.W.fnOf "is_gap" "is_gap" (defArgs s_is_gap) (defBody s_is_gap) (defScope s_is_gap) .none kV7 dc7 pm7 an7 cd7 ct7), sl7⟩) (c7 : PySem.W.codeIn K cd7 "is_gap" = true) (k7 : PySem.W.keepIn K (.ref f7) = true)
    (a8 : PySem.W.nsIn K mainGlobals "is_text" = some (some (.ref f8))) (l8 : K.lookup f8 = some ⟨oc8, od8, .func (PySem.W.fnOf "is_text" "is_text" (defArgs s_is_text) (defBody s_is_text) (defScope s_is_text) .none kV8 dc8 pm8 an8 cd8 ct8), sl8⟩) (c8 : PySem.W.codeIn K cd8 "is_text" = true) (k8 : PySem.W.keepIn K (.ref f8) = true)
    (a9 : PySem.W.nsIn K mainGlobals "in_range" = some (some (.ref f9))) (l9 : K.lookup f9 = some ⟨oc9, od9, .func (PySem.W.fnOf "in_range" "in_range" (defArgs s_in_range) (defBody s_in_range) (defScope s_in_range) .none kV9 dc9 pm9 an9 cd9 ct9), sl9⟩) (c9 : PySem.W.codeIn K cd9 "in_range" = true) (k9 : PySem.W.keepIn K (.ref f9) = true)
    (a10 : PySem.W.nsIn K mainGlobals "bad_row" = some (some (.ref f10))) (l10 : K.lookup f10 = some ⟨oc10, od10, .func (PySem.W.fnOf "bad_row" "bad_row" (defArgs s_bad_row) (defBody s_bad_row) (defScope s_bad_row) .none kV10 dc10 pm10 an10 cd10 ct10), sl10⟩) (c10 : PySem.W.codeIn K cd10 "bad_row" = true) (k10 : PySem.W.keepIn K (.ref f10) = true)
    (a11 : PySem.W.nsIn K mainGlobals "is_counted" = some (some (.ref f11))) (l11 : K.lookup f11 = some ⟨oc11, od11, .func (PySem.W.fnOf "is_counted" "is_counted" (defArgs s_is_counted) (defBody s_is_counted) (defScope s_is_counted) .none kV11 dc11 pm11 an11 cd11 ct11), sl11⟩) (c11 : PySem.W.codeIn K cd11 "is_counted" = true) (k11 : PySem.W.keepIn K (.ref f11) = true)
    (a12 : PySem.W.nsIn K mainGlobals "are_members" = some (some (.ref f12))) (l12 : K.lookup f12 = some ⟨oc12, od12, .func (PySem.W.fnOf "are_members" "are_members" (defArgs s_are_members) (defBody s_are_members) (defScope s_are_members) .none kV12 dc12 pm12 an12 cd12 ct12), sl12⟩) (c12 : PySem.W.codeIn K cd12 "are_members" = true) (k12 : PySem.W.keepIn K (.ref f12) = true)
    (a13 : PySem.W.nsIn K mainGlobals "is_link" = some (some (.ref f13))) (l13 : K.lookup f13 = some ⟨oc13, od13, .func (PySem.W.fnOf "is_link" "is_link" (defArgs s_is_link) (defBody s_is_link) (defScope s_is_link) .none kV13 dc13 pm13 an13 cd13 ct13), sl13⟩) (c13 : PySem.W.codeIn K cd13 "is_link" = true) (k13 : PySem.W.keepIn K (.ref f13) = true)
    (a14 : PySem.W.nsIn K mainGlobals "is_entry" = some (some (.ref f14))) (l14 : K.lookup f14 = some ⟨oc14, od14, .func (PySem.W.fnOf "is_entry" "is_entry" (defArgs s_is_entry) (defBody s_is_entry) (defScope s_is_entry) .none kV14 dc14 pm14 an14 cd14 ct14), sl14⟩) (c14 : PySem.W.codeIn K cd14 "is_entry" = true) (k14 : PySem.W.keepIn K (.ref f14) = true)
    (a15 : PySem.W.nsIn K mainGlobals "numbers_in" = some (some (.ref f15))) (l15 : K.lookup f15 = some ⟨oc15, od15, .func (PySem.W.fnOf "numbers_in" "numbers_in" (defArgs s_numbers_in) (defBody s_numbers_in) (defScope s_numbers_in) .none kV15 dc15 pm15 an15 cd15 ct15), sl15⟩) (c15 : PySem.W.codeIn K cd15 "numbers_in" = true) (k15 : PySem.W.keepIn K (.ref f15) = true)
    (a16 : PySem.W.nsIn K mainGlobals "left_out" = some (some (.ref f16))) (l16 : K.lookup f16 = some ⟨oc16, od16, .func (PySem.W.fnOf "left_out" "left_out" (defArgs s_left_out) (defBody s_left_out) (defScope s_left_out) .none kV16 dc16 pm16 an16 cd16 ct16), sl16⟩) (c16 : PySem.W.codeIn K cd16 "left_out" = true) (k16 : PySem.W.keepIn K (.ref f16) = true)
    (a17 : PySem.W.nsIn K mainGlobals "headline" = some (some (.ref f17))) (l17 : K.lookup f17 = some ⟨oc17, od17, .func (PySem.W.fnOf "headline" "headline" (defArgs s_headline) (defBody s_headline) (defScope s_headline) .none kV17 dc17 pm17 an17 cd17 ct17), sl17⟩) (c17 : PySem.W.codeIn K cd17 "headline" = true) (k17 : PySem.W.keepIn K (.ref f17) = true)
    (a18 : PySem.W.nsIn K mainGlobals "_law_bag" = some (some (.ref f18))) (l18 : K.lookup f18 = some ⟨oc18, od18, .func (PySem.W.fnOf "_law_bag" "_law_bag" (defArgs s_bag) (defBody s_bag) (defScope s_bag) .none kV18 dc18 pm18 an18 cd18 ct18), sl18⟩) (c18 : PySem.W.codeIn K cd18 "_law_bag" = true) (k18 : PySem.W.keepIn K (.ref f18) = true)
    (a19 : PySem.W.nsIn K mainGlobals "_law_take" = some (some (.ref f19))) (l19 : K.lookup f19 = some ⟨oc19, od19, .func (PySem.W.fnOf "_law_take" "_law_take" (defArgs s_take) (defBody s_take) (defScope s_take) .none kV19 dc19 pm19 an19 cd19 ct19), sl19⟩) (c19 : PySem.W.codeIn K cd19 "_law_take" = true) (k19 : PySem.W.keepIn K (.ref f19) = true)
    (a20 : PySem.W.nsIn K mainGlobals "_law_of" = some (some (.ref f20))) (l20 : K.lookup f20 = some ⟨oc20, od20, .func (PySem.W.fnOf "_law_of" "_law_of" (defArgs s_of) (defBody s_of) (defScope s_of) .none kV20 dc20 pm20 an20 cd20 ct20), sl20⟩) (c20 : PySem.W.codeIn K cd20 "_law_of" = true) (k20 : PySem.W.keepIn K (.ref f20) = true)
    (a21 : PySem.W.nsIn K mainGlobals "_law_name" = some (some (.ref f21))) (l21 : K.lookup f21 = some ⟨oc21, od21, .func (PySem.W.fnOf "_law_name" "_law_name" (defArgs s_name) (defBody s_name) (defScope s_name) .none kV21 dc21 pm21 an21 cd21 ct21), sl21⟩) (c21 : PySem.W.codeIn K cd21 "_law_name" = true) (k21 : PySem.W.keepIn K (.ref f21) = true)
    (a22 : PySem.W.nsIn K mainGlobals "_law_line" = some (some (.ref f22))) (l22 : K.lookup f22 = some ⟨oc22, od22, .func (PySem.W.fnOf "_law_line" "_law_line" (defArgs s_line) (defBody s_line) (defScope s_line) .none kV22 dc22 pm22 an22 cd22 ct22), sl22⟩) (c22 : PySem.W.codeIn K cd22 "_law_line" = true) (k22 : PySem.W.keepIn K (.ref f22) = true)
    (a23 : PySem.W.nsIn K mainGlobals "_law_text" = some (some (.ref f23))) (l23 : K.lookup f23 = some ⟨oc23, od23, .func (PySem.W.fnOf "_law_text" "_law_text" (defArgs s_text) (defBody s_text) (defScope s_text) .none kV23 dc23 pm23 an23 cd23 ct23), sl23⟩) (c23 : PySem.W.codeIn K cd23 "_law_text" = true) (k23 : PySem.W.keepIn K (.ref f23) = true)
    (a24 : PySem.W.nsIn K mainGlobals "_law_row" = some (some (.ref f24))) (l24 : K.lookup f24 = some ⟨oc24, od24, .func (PySem.W.fnOf "_law_row" "_law_row" (defArgs s_row) (defBody s_row) (defScope s_row) .none kV24 dc24 pm24 an24 cd24 ct24), sl24⟩) (c24 : PySem.W.codeIn K cd24 "_law_row" = true) (k24 : PySem.W.keepIn K (.ref f24) = true)
    (a25 : PySem.W.nsIn K mainGlobals "_law_rows" = some (some (.ref f25))) (l25 : K.lookup f25 = some ⟨oc25, od25, .func (PySem.W.fnOf "_law_rows" "_law_rows" (defArgs s_rows) (defBody s_rows) (defScope s_rows) .none kV25 dc25 pm25 an25 cd25 ct25), sl25⟩) (c25 : PySem.W.codeIn K cd25 "_law_rows" = true) (k25 : PySem.W.keepIn K (.ref f25) = true)
    (a26 : PySem.W.nsIn K mainGlobals "_law_lead" = some (some (.ref f26))) (l26 : K.lookup f26 = some ⟨oc26, od26, .func (PySem.W.fnOf "_law_lead" "_law_lead" (defArgs s_lead) (defBody s_lead) (defScope s_lead) .none kV26 dc26 pm26 an26 cd26 ct26), sl26⟩) (c26 : PySem.W.codeIn K cd26 "_law_lead" = true) (k26 : PySem.W.keepIn K (.ref f26) = true)
    (a27 : PySem.W.nsIn K mainGlobals "_law_members" = some (some (.ref f27))) (l27 : K.lookup f27 = some ⟨oc27, od27, .func (PySem.W.fnOf "_law_members" "_law_members" (defArgs s_members) (defBody s_members) (defScope s_members) .none kV27 dc27 pm27 an27 cd27 ct27), sl27⟩) (c27 : PySem.W.codeIn K cd27 "_law_members" = true) (k27 : PySem.W.keepIn K (.ref f27) = true)
    (a28 : PySem.W.nsIn K mainGlobals "_law_build" = some (some (.ref f28))) (l28 : K.lookup f28 = some ⟨oc28, od28, .func (PySem.W.fnOf "_law_build" "_law_build" (defArgs s_build) (defBody s_build) (defScope s_build) .none kV28 dc28 pm28 an28 cd28 ct28), sl28⟩) (c28 : PySem.W.codeIn K cd28 "_law_build" = true) (k28 : PySem.W.keepIn K (.ref f28) = true)
    (a29 : PySem.W.nsIn K mainGlobals "_law_entries" = some (some (.ref f29))) (l29 : K.lookup f29 = some ⟨oc29, od29, .func (PySem.W.fnOf "_law_entries" "_law_entries" (defArgs s_entries) (defBody s_entries) (defScope s_entries) .none kV29 dc29 pm29 an29 cd29 ct29), sl29⟩) (c29 : PySem.W.codeIn K cd29 "_law_entries" = true) (k29 : PySem.W.keepIn K (.ref f29) = true)
    (a30 : PySem.W.findIn K (.ref C1) "__init__" = some (some (.ref f30))) (i30 : PySem.W.isFn K (.ref f30) = true) (l30 : K.lookup f30 = some ⟨oc30, od30, .func (PySem.W.fnOf "__init__" "Walk.__init__" (defArgs s_Walk___init__) (defBody s_Walk___init__) (defScope s_Walk___init__) .none (.ref kd30) dc30 pm30 an30 cd30 ct30), sl30⟩) (c30 : PySem.W.codeIn K cd30 "Walk.__init__" = true) (k30 : PySem.W.keepIn K (.ref f30) = true) (w30_0 : PySem.W.nsIn K kd30 "width" = some (some .none)) (w30_1 : PySem.W.nsIn K kd30 "depth" = some (some .none)) (w30_2 : PySem.W.nsIn K kd30 "chain" = some (some .none))
    (a31 : PySem.W.findIn K (.ref C1) "meet" = some (some (.ref f31))) (i31 : PySem.W.isFn K (.ref f31) = true) (l31 : K.lookup f31 = some ⟨oc31, od31, .func (PySem.W.fnOf "meet" "Walk.meet" (defArgs s_Walk_meet) (defBody s_Walk_meet) (defScope s_Walk_meet) .none kV31 dc31 pm31 an31 cd31 ct31), sl31⟩) (c31 : PySem.W.codeIn K cd31 "Walk.meet" = true) (k31 : PySem.W.keepIn K (.ref f31) = true)
    (a32 : PySem.W.findIn K (.ref C1) "met_members" = some (some (.ref f32))) (i32 : PySem.W.isFn K (.ref f32) = true) (l32 : K.lookup f32 = some ⟨oc32, od32, .func (PySem.W.fnOf "met_members" "Walk.met_members" (defArgs s_Walk_met_members) (defBody s_Walk_met_members) (defScope s_Walk_met_members) .none kV32 dc32 pm32 an32 cd32 ct32), sl32⟩) (c32 : PySem.W.codeIn K cd32 "Walk.met_members" = true) (k32 : PySem.W.keepIn K (.ref f32) = true)
    (a33 : PySem.W.findIn K (.ref C1) "met_link" = some (some (.ref f33))) (i33 : PySem.W.isFn K (.ref f33) = true) (l33 : K.lookup f33 = some ⟨oc33, od33, .func (PySem.W.fnOf "met_link" "Walk.met_link" (defArgs s_Walk_met_link) (defBody s_Walk_met_link) (defScope s_Walk_met_link) .none kV33 dc33 pm33 an33 cd33 ct33), sl33⟩) (c33 : PySem.W.codeIn K cd33 "Walk.met_link" = true) (k33 : PySem.W.keepIn K (.ref f33) = true)
    (a34 : PySem.W.findIn K (.ref C2) "__init__" = some (some (.ref f34))) (i34 : PySem.W.isFn K (.ref f34) = true) (l34 : K.lookup f34 = some ⟨oc34, od34, .func (PySem.W.fnOf "__init__" "Record.__init__" (defArgs s_Record___init__) (defBody s_Record___init__) (defScope s_Record___init__) .none kV34 dc34 pm34 an34 cd34 ct34), sl34⟩) (c34 : PySem.W.codeIn K cd34 "Record.__init__" = true) (k34 : PySem.W.keepIn K (.ref f34) = true)
    (rd35 : PySem.W.readsIn K C2 (.type "type") = true) (ga35 : PySem.W.specialIn K (.ref C2) "__getattribute__" = some (some (.builtin "type.__getattribute__"))) (a35 : PySem.W.findCls K (.ref C2) (.type "type") "of" = some (.get (.builtin "classmethod.__get__") (.ref pp35) .none (.ref C2))) (pr35 : ∃ rest, PySem.W.recIn K pp35 "classmethod" = some (.ref f35 :: rest)) (fi35 : PySem.W.fnIn K f35 = true) (l35 : K.lookup f35 = some ⟨oc35, od35, .func (PySem.W.fnOf "of" "Record.of" (defArgs s_Record_of) (defBody s_Record_of) (defScope s_Record_of) .none kV35 dc35 pm35 an35 cd35 ct35), sl35⟩) (c35 : PySem.W.codeIn K cd35 "Record.of" = true) (k35 : PySem.W.keepIn K (.ref f35) = true)
    (a36 : PySem.W.findIn K (.ref C2) "along" = some (some (.ref f36))) (i36 : PySem.W.isFn K (.ref f36) = true) (l36 : K.lookup f36 = some ⟨oc36, od36, .func (PySem.W.fnOf "along" "Record.along" (defArgs s_Record_along) (defBody s_Record_along) (defScope s_Record_along) .none kV36 dc36 pm36 an36 cd36 ct36), sl36⟩) (c36 : PySem.W.codeIn K cd36 "Record.along" = true) (k36 : PySem.W.keepIn K (.ref f36) = true)
    (a37 : PySem.W.findIn K (.ref C2) "look" = some (some (.ref f37))) (i37 : PySem.W.isFn K (.ref f37) = true) (l37 : K.lookup f37 = some ⟨oc37, od37, .func (PySem.W.fnOf "look" "Record.look" (defArgs s_Record_look) (defBody s_Record_look) (defScope s_Record_look) .none kV37 dc37 pm37 an37 cd37 ct37), sl37⟩) (c37 : PySem.W.codeIn K cd37 "Record.look" = true) (k37 : PySem.W.keepIn K (.ref f37) = true)
    (a38 : PySem.W.findIn K (.ref C2) "part" = some (some (.ref f38))) (i38 : PySem.W.isFn K (.ref f38) = true) (l38 : K.lookup f38 = some ⟨oc38, od38, .func (PySem.W.fnOf "part" "Record.part" (defArgs s_Record_part) (defBody s_Record_part) (defScope s_Record_part) .none kV38 dc38 pm38 an38 cd38 ct38), sl38⟩) (c38 : PySem.W.codeIn K cd38 "Record.part" = true) (k38 : PySem.W.keepIn K (.ref f38) = true)
    (a39 : PySem.W.nsIn K mainGlobals "law" = some (some (.ref f39))) (l39 : K.lookup f39 = some ⟨oc39, od39, .func (PySem.W.fnOf "law" "law" (defArgs s_law) (defBody s_law) (defScope s_law) .none kV39 dc39 pm39 an39 cd39 ct39), sl39⟩) (c39 : PySem.W.codeIn K cd39 "law" = true) (k39 : PySem.W.keepIn K (.ref f39) = true)
    (m0 : PySem.W.nsIn K mainGlobals "LETTERS" = some (some (.str "abcdefghijklmnopqrstuvwxyz" tk0)))
    (m1 : PySem.W.nsIn K mainGlobals "MOST_LETTERS" = some (some (.int 8 tk1)))
    (m2 : PySem.W.nsIn K mainGlobals "TEXT" = some (some (.str "text" tk2)))
    (m3 : PySem.W.nsIn K mainGlobals "LACK" = some (some (.str "lack" tk3)))
    (m4 : PySem.W.nsIn K mainGlobals "GAP" = some (some (.str "gap" tk4)))
    (m5 : PySem.W.nsIn K mainGlobals "FEED" = some (some (.str "\n" tk5)))
    (m6 : PySem.W.nsIn K mainGlobals "LACKS" = some (some (.ref ta6)))
    (t6 : K.lookup ta6 = some ⟨.type "tuple", od06, .seq #[.str "changed" tk6_0, .str "gone" tk6_1, .str "short" tk6_2] nn6, ss6⟩)
    (m7 : PySem.W.nsIn K mainGlobals "MOST_ROWS" = some (some (.int 1000 tk7)))
    (m8 : PySem.W.nsIn K mainGlobals "CAUSE" = some (some (.str "cause" tk8)))
    (m9 : PySem.W.nsIn K mainGlobals "CONTEXT" = some (some (.str "context" tk9)))
    (m10 : PySem.W.nsIn K mainGlobals "MORE" = some (some (.str "more" tk10)))
    (m11 : PySem.W.nsIn K mainGlobals "DEEP" = some (some (.str "deep" tk11)))
    (m12 : PySem.W.nsIn K mainGlobals "MOST_ENTRIES" = some (some (.int 100 tk12)))
    (z0 : PySem.W.nsIn K mainGlobals "int" = some none)
    (z1 : PySem.W.nsIn K mainGlobals "bool" = some none)
    (z2 : PySem.W.nsIn K mainGlobals "str" = some none)
    (z3 : PySem.W.nsIn K mainGlobals "list" = some none)
    (z4 : PySem.W.nsIn K mainGlobals "tuple" = some none)
    (z5 : PySem.W.nsIn K mainGlobals "len" = some none)
    (z6 : PySem.W.nsIn K mainGlobals "isinstance" = some none)
    (z7 : PySem.W.nsIn K mainGlobals "abs" = some none)
    (z8 : PySem.W.nsIn K mainGlobals "min" = some none)
    (z9 : PySem.W.nsIn K mainGlobals "max" = some none)
    (z10 : PySem.W.nsIn K mainGlobals "any" = some none)
    (z11 : PySem.W.nsIn K mainGlobals "all" = some none)
    (z12 : PySem.W.nsIn K mainGlobals "sum" = some none)
    (z13 : PySem.W.nsIn K mainGlobals "range" = some none)
    (z14 : PySem.W.nsIn K mainGlobals "zip" = some none)
    (z15 : PySem.W.nsIn K mainGlobals "enumerate" = some none)
    (z16 : PySem.W.nsIn K mainGlobals "repr" = some none)
    (z17 : PySem.W.nsIn K mainGlobals "sorted" = some none)
    (z18 : PySem.W.nsIn K mainGlobals "dict" = some none) :
    ∃ fd : FuncData, (∀ (s : Shared) (v : Value), BindsTo s fd ⟨[v], []⟩ [("_law_script", v)]) ∧ ∀ base : Heap, K.In base → base.Ns mainGlobals mg → FnG l.prog w K mg base CX0 67 fa fd ["_law_script"] (toSp K spLaw) := by
  have e := hfa.symm.trans (PySem.W.mg_of X G a39)
  cases e
  have Z : Zs mg := ⟨PySem.W.mg_none_of X G z0, PySem.W.mg_none_of X G z1, PySem.W.mg_none_of X G z2, PySem.W.mg_none_of X G z3, PySem.W.mg_none_of X G z4, PySem.W.mg_none_of X G z5, PySem.W.mg_none_of X G z6, PySem.W.mg_none_of X G z7, PySem.W.mg_none_of X G z8, PySem.W.mg_none_of X G z9, PySem.W.mg_none_of X G z10, PySem.W.mg_none_of X G z11, PySem.W.mg_none_of X G z12, PySem.W.mg_none_of X G z13, PySem.W.mg_none_of X G z14, PySem.W.mg_none_of X G z15, PySem.W.mg_none_of X G z16, PySem.W.mg_none_of X G z17, PySem.W.mg_none_of X G z18⟩
  have g0 : MgK K mg "LETTERS" (.str "abcdefghijklmnopqrstuvwxyz") := mgk_str (PySem.W.mg_of X G m0)
  have g1 : MgK K mg "MOST_LETTERS" (.int 8) := mgk_int (PySem.W.mg_of X G m1)
  have g2 : MgK K mg "TEXT" (.str "text") := mgk_str (PySem.W.mg_of X G m2)
  have g3 : MgK K mg "LACK" (.str "lack") := mgk_str (PySem.W.mg_of X G m3)
  have g4 : MgK K mg "GAP" (.str "gap") := mgk_str (PySem.W.mg_of X G m4)
  have g5 : MgK K mg "FEED" (.str "\n") := mgk_str (PySem.W.mg_of X G m5)
  have g6 : MgK K mg "LACKS" (.tup ((["changed", "gone", "short"] : List Str).map D.str)) := mgk_tup (xs := (["changed", "gone", "short"] : List Str).map V.str) (PySem.W.mg_of X G m6) t6 rfl rfl (Nat.le_trans (Nat.le_of_ble_eq_true (m := 1000) rfl) (by decide)) (.cons ⟨_, rfl⟩ (.cons ⟨_, rfl⟩ (.cons ⟨_, rfl⟩ .nil))) fun G => datAll_strsI _
  have g7 : MgK K mg "MOST_ROWS" (.int 1000) := mgk_int (PySem.W.mg_of X G m7)
  have g8 : MgK K mg "CAUSE" (.str "cause") := mgk_str (PySem.W.mg_of X G m8)
  have g9 : MgK K mg "CONTEXT" (.str "context") := mgk_str (PySem.W.mg_of X G m9)
  have g10 : MgK K mg "MORE" (.str "more") := mgk_str (PySem.W.mg_of X G m10)
  have g11 : MgK K mg "DEEP" (.str "deep") := mgk_str (PySem.W.mg_of X G m11)
  have g12 : MgK K mg "MOST_ENTRIES" (.int 100) := mgk_int (PySem.W.mg_of X G m12)
  have cls1 : Cls K C1 := ⟨cg1, ch1, co1, cx1⟩
  have T1 := (⟨⟨cls1, n1_0⟩, ⟨cls1, n1_1⟩, ⟨cls1, n1_2⟩, ⟨cls1, n1_3⟩, ⟨cls1, n1_4⟩, ⟨cls1, n1_5⟩⟩ : Twc K C1)
  have cls2 : Cls K C2 := ⟨cg2, ch2, co2, cx2⟩
  have T2 := (⟨⟨cls2, n2_0⟩, ⟨cls2, n2_1⟩⟩ : Trc K C2)
  have F1 := fun_mk (st := s_is_integer) l1 c1 k1
  have b1 := F1.binds (ps := ["thing"]) fun _ _ _ _ _ _ us hl => match us, hl with | [_], _ => rfl
  have F2 := fun_mk (st := s_is_from) l2 c2 k2
  have b2 := F2.binds (ps := ["thing", "low"]) fun _ _ _ _ _ _ us hl => match us, hl with | [_, _], _ => rfl
  have F3 := fun_mk (st := s_is_name) l3 c3 k3
  have b3 := F3.binds (ps := ["thing"]) fun _ _ _ _ _ _ us hl => match us, hl with | [_], _ => rfl
  have F4 := fun_mk (st := s_is_line) l4 c4 k4
  have b4 := F4.binds (ps := ["thing"]) fun _ _ _ _ _ _ us hl => match us, hl with | [_], _ => rfl
  have F5 := fun_mk (st := s_is_shown) l5 c5 k5
  have b5 := F5.binds (ps := ["thing"]) fun _ _ _ _ _ _ us hl => match us, hl with | [_], _ => rfl
  have F6 := fun_mk (st := s_is_row) l6 c6 k6
  have b6 := F6.binds (ps := ["thing"]) fun _ _ _ _ _ _ us hl => match us, hl with | [_], _ => rfl
  have F7 := fun_mk (st := s_is_gap) l7 c7 k7
  have b7 := F7.binds (ps := ["thing"]) fun _ _ _ _ _ _ us hl => match us, hl with | [_], _ => rfl
  have F8 := fun_mk (st := s_is_text) l8 c8 k8
  have b8 := F8.binds (ps := ["thing"]) fun _ _ _ _ _ _ us hl => match us, hl with | [_], _ => rfl
  have F9 := fun_mk (st := s_in_range) l9 c9 k9
  have b9 := F9.binds (ps := ["thing", "low", "high"]) fun _ _ _ _ _ _ us hl => match us, hl with | [_, _, _], _ => rfl
  have F10 := fun_mk (st := s_bad_row) l10 c10 k10
  have b10 := F10.binds (ps := ["rows"]) fun _ _ _ _ _ _ us hl => match us, hl with | [_], _ => rfl
  have F11 := fun_mk (st := s_is_counted) l11 c11 k11
  have b11 := F11.binds (ps := ["thing", "word"]) fun _ _ _ _ _ _ us hl => match us, hl with | [_, _], _ => rfl
  have F12 := fun_mk (st := s_are_members) l12 c12 k12
  have b12 := F12.binds (ps := ["thing", "many"]) fun _ _ _ _ _ _ us hl => match us, hl with | [_, _], _ => rfl
  have F13 := fun_mk (st := s_is_link) l13 c13 k13
  have b13 := F13.binds (ps := ["thing", "many"]) fun _ _ _ _ _ _ us hl => match us, hl with | [_, _], _ => rfl
  have F14 := fun_mk (st := s_is_entry) l14 c14 k14
  have b14 := F14.binds (ps := ["thing", "many"]) fun _ _ _ _ _ _ us hl => match us, hl with | [_, _], _ => rfl
  have F15 := fun_mk (st := s_numbers_in) l15 c15 k15
  have b15 := F15.binds (ps := ["members"]) fun _ _ _ _ _ _ us hl => match us, hl with | [_], _ => rfl
  have F16 := fun_mk (st := s_left_out) l16 c16 k16
  have b16 := F16.binds (ps := ["members"]) fun _ _ _ _ _ _ us hl => match us, hl with | [_], _ => rfl
  have F17 := fun_mk (st := s_headline) l17 c17 k17
  have b17 := F17.binds (ps := ["entry"]) fun _ _ _ _ _ _ us hl => match us, hl with | [_], _ => rfl
  have F18 := fun_mk (st := s_bag) l18 c18 k18
  have b18 := F18.binds (ps := ["_law_script", "_law_at"]) fun _ _ _ _ _ _ us hl => match us, hl with | [_, _], _ => rfl
  have F19 := fun_mk (st := s_take) l19 c19 k19
  have b19 := F19.binds (ps := ["_law_bag_here", "_law_many"]) fun _ _ _ _ _ _ us hl => match us, hl with | [_, _], _ => rfl
  have F20 := fun_mk (st := s_of) l20 c20 k20
  have b20 := F20.binds (ps := ["_law_bag_here", "_law_some"]) fun _ _ _ _ _ _ us hl => match us, hl with | [_, _], _ => rfl
  have F21 := fun_mk (st := s_name) l21 c21 k21
  have b21 := F21.binds (ps := ["_law_bag_here"]) fun _ _ _ _ _ _ us hl => match us, hl with | [_], _ => rfl
  have F22 := fun_mk (st := s_line) l22 c22 k22
  have b22 := F22.binds (ps := ["_law_bag_here"]) fun _ _ _ _ _ _ us hl => match us, hl with | [_], _ => rfl
  have F23 := fun_mk (st := s_text) l23 c23 k23
  have b23 := F23.binds (ps := ["_law_bag_here"]) fun _ _ _ _ _ _ us hl => match us, hl with | [_], _ => rfl
  have F24 := fun_mk (st := s_row) l24 c24 k24
  have b24 := F24.binds (ps := ["_law_bag_here"]) fun _ _ _ _ _ _ us hl => match us, hl with | [_], _ => rfl
  have F25 := fun_mk (st := s_rows) l25 c25 k25
  have b25 := F25.binds (ps := ["_law_bag_here", "_law_most"]) fun _ _ _ _ _ _ us hl => match us, hl with | [_, _], _ => rfl
  have F26 := fun_mk (st := s_lead) l26 c26 k26
  have b26 := F26.binds (ps := ["_law_bag_here", "_law_found", "_law_most"]) fun _ _ _ _ _ _ us hl => match us, hl with | [_, _, _], _ => rfl
  have F27 := fun_mk (st := s_members) l27 c27 k27
  have b27 := F27.binds (ps := ["_law_bag_here", "_law_found", "_law_most"]) fun _ _ _ _ _ _ us hl => match us, hl with | [_, _, _], _ => rfl
  have F28 := fun_mk (st := s_build) l28 c28 k28
  have b28 := F28.binds (ps := ["_law_bag_here", "_law_found", "_law_most"]) fun _ _ _ _ _ _ us hl => match us, hl with | [_, _, _], _ => rfl
  have F29 := fun_mk (st := s_entries) l29 c29 k29
  have b29 := F29.binds (ps := ["_law_bag_here", "_law_most"]) fun _ _ _ _ _ _ us hl => match us, hl with | [_, _], _ => rfl
  have F30 := fun_mk (st := s_Walk___init__) l30 c30 k30
  obtain ⟨ds30, vd30, b30⟩ := bd_wInit l30 c30 k30 w30_0 w30_1 w30_2
  have F31 := fun_mk (st := s_Walk_meet) l31 c31 k31
  have b31 := F31.binds (ps := ["self", "key", "depth", "distance"]) fun _ _ _ _ _ _ us hl => match us, hl with | [_, _, _, _], _ => rfl
  have F32 := fun_mk (st := s_Walk_met_members) l32 c32 k32
  have b32 := F32.binds (ps := ["self", "members", "depth"]) fun _ _ _ _ _ _ us hl => match us, hl with | [_, _, _], _ => rfl
  have F33 := fun_mk (st := s_Walk_met_link) l33 c33 k33
  have b33 := F33.binds (ps := ["self", "link", "depth", "distance"]) fun _ _ _ _ _ _ us hl => match us, hl with | [_, _, _, _], _ => rfl
  have F34 := fun_mk (st := s_Record___init__) l34 c34 k34
  have b34 := F34.binds (ps := ["self", "entries"]) fun _ _ _ _ _ _ us hl => match us, hl with | [_, _], _ => rfl
  have F35 := fun_mk (st := s_Record_of) l35 c35 k35
  have b35 := F35.binds (ps := ["cls", "entries"]) fun _ _ _ _ _ _ us hl => match us, hl with | [_, _], _ => rfl
  have F36 := fun_mk (st := s_Record_along) l36 c36 k36
  have b36 := F36.binds (ps := ["self"]) fun _ _ _ _ _ _ us hl => match us, hl with | [_], _ => rfl
  have F37 := fun_mk (st := s_Record_look) l37 c37 k37
  have b37 := F37.binds (ps := ["self", "number"]) fun _ _ _ _ _ _ us hl => match us, hl with | [_, _], _ => rfl
  have F38 := fun_mk (st := s_Record_part) l38 c38 k38
  have b38 := F38.binds (ps := ["self", "number"]) fun _ _ _ _ _ _ us hl => match us, hl with | [_, _], _ => rfl
  refine ⟨PySem.W.fnOf "law" "law" (defArgs s_law) (defBody s_law) (defScope s_law) .none kV39 dc39 pm39 an39 cd39 ct39, fun s v => .of_eq rfl, fun base _ _ => ?_⟩
  have h1 : FnC l.prog w K mg base "is_integer" 1 spIsInt := ⟨_, _, _, ok_isInt F1 Z, PySem.W.mg_of X G a1, k1, b1⟩
  have h2 : FnC l.prog w K mg base "is_from" 2 spIsFrom := ⟨_, _, _, ok_isFrom F2 h1, PySem.W.mg_of X G a2, k2, b2⟩
  have h3 : FnC l.prog w K mg base "is_name" 1 spIsNm := ⟨_, _, _, ok_isName F3 Z g0 g1, PySem.W.mg_of X G a3, k3, b3⟩
  have h4 : FnC l.prog w K mg base "is_line" 1 spIsLn := ⟨_, _, _, ok_isLine F4 Z g5, PySem.W.mg_of X G a4, k4, b4⟩
  have h5 : FnC l.prog w K mg base "is_shown" 2 spIsSh := ⟨_, _, _, ok_isShown F5 Z h4 g2 g3 g6, PySem.W.mg_of X G a5, k5, b5⟩
  have h6 : FnC l.prog w K mg base "is_row" 3 spIsRow := ⟨_, _, _, ok_isRow F6 Z h3 h5 h2, PySem.W.mg_of X G a6, k6, b6⟩
  have h7 : FnC l.prog w K mg base "is_gap" 3 spIsGap := ⟨_, _, _, ok_isGap F7 Z h2 g4, PySem.W.mg_of X G a7, k7, b7⟩
  have h8 : FnC l.prog w K mg base "is_text" 1 spIsTx := ⟨_, _, _, ok_isText F8 Z, PySem.W.mg_of X G a8, k8, b8⟩
  have h9 : FnC l.prog w K mg base "in_range" 2 spInR := ⟨_, _, _, ok_inRange F9 h1, PySem.W.mg_of X G a9, k9, b9⟩
  have h10 : FnC l.prog w K mg base "bad_row" 4 spBad := ⟨_, _, _, ok_badRow F10 Z h6 h7, PySem.W.mg_of X G a10, k10, b10⟩
  have h11 : FnC l.prog w K mg base "is_counted" 3 spCnt := ⟨_, _, _, ok_isCounted F11 Z h2, PySem.W.mg_of X G a11, k11, b11⟩
  have h12 : FnC l.prog w K mg base "are_members" 4 spMem := ⟨_, _, _, ok_areMembers F12 Z h11 h9 g11 g10, PySem.W.mg_of X G a12, k12, b12⟩
  have h13 : FnC l.prog w K mg base "is_link" 3 spLnk := ⟨_, _, _, ok_isLink F13 Z h9 g8 g9, PySem.W.mg_of X G a13, k13, b13⟩
  have h14 : FnC l.prog w K mg base "is_entry" 5 spIsEnt := ⟨_, _, _, ok_isEntry F14 Z h3 h8 h10 h12 h13 g7, PySem.W.mg_of X G a14, k14, b14⟩
  have h15 : FnC l.prog w K mg base "numbers_in" 1 spNums := ⟨_, _, _, ok_numbersIn F15 Z, PySem.W.mg_of X G a15, k15, b15⟩
  have h16 : FnC l.prog w K mg base "left_out" 1 spGone := ⟨_, _, _, ok_leftOut F16 Z, PySem.W.mg_of X G a16, k16, b16⟩
  have h17 : FnC l.prog w K mg base "headline" 1 spHead := ⟨_, _, _, ok_headline F17 Z g5, PySem.W.mg_of X G a17, k17, b17⟩
  have h18 : FnC l.prog w K mg base "_law_bag" 1 spBag := ⟨_, _, _, ok_bag F18 Z, PySem.W.mg_of X G a18, k18, b18⟩
  have h19 : FnC l.prog w K mg base "_law_take" 1 spTake := ⟨_, _, _, ok_take F19 Z, PySem.W.mg_of X G a19, k19, b19⟩
  have h20 : FnC l.prog w K mg base "_law_of" 2 spOf := ⟨_, _, _, ok_of F20 Z h19, PySem.W.mg_of X G a20, k20, b20⟩
  have h21 : FnC l.prog w K mg base "_law_name" 3 (spStr Nm 20) := ⟨_, _, _, ok_name F21 Z h19 h20, PySem.W.mg_of X G a21, k21, b21⟩
  have h22 : FnC l.prog w K mg base "_law_line" 3 (spStr Ln 20) := ⟨_, _, _, ok_line F22 Z h19 h20, PySem.W.mg_of X G a22, k22, b22⟩
  have h23 : FnC l.prog w K mg base "_law_text" 4 (spStr Tx 100) := ⟨_, _, _, ok_text F23 Z h22 h20, PySem.W.mg_of X G a23, k23, b23⟩
  have h24 : FnC l.prog w K mg base "_law_row" 4 spRow := ⟨_, _, _, ok_row F24 Z h21 h20 h22, PySem.W.mg_of X G a24, k24, b24⟩
  have h25 : FnC l.prog w K mg base "_law_rows" 5 spRows := ⟨_, _, _, ok_rows F25 Z h19 h20 h24, PySem.W.mg_of X G a25, k25, b25⟩
  have hbu := all_build (P := l.prog) (w := w) (base := base) F26 b26 (PySem.W.mg_of X G a26) k26 F27 b27 (PySem.W.mg_of X G a27) k27 F28 b28 (PySem.W.mg_of X G a28) k28 Z h19 h20 h21 h23 h25
  have h29 : FnC l.prog w K mg base "_law_entries" 66 spEntries := ⟨_, _, _, ok_entries F29 Z (fun d _ => hbu d), PySem.W.mg_of X G a29, k29, b29⟩
  have h30 : MakC l.prog w K mg base "Walk" C1 1 [.non, .non, .non] (spWInit C1) := ⟨PySem.W.mg_of X G aC1, _, ⟨cm1, a30, i30, ck1⟩, ⟨_, _, ds30, _, ok_wInit F30 T1, b30, vd30, fun _ => (.cons .non (.cons .non (.cons .non .nil)))⟩⟩
  have hme := all_meet (P := l.prog) (w := w) (base := base) cls1 T1 F31 b31 ⟨a31, i31, k31⟩ F32 b32 ⟨a32, i32, k32⟩ F33 b33 ⟨a33, i33, k33⟩ Z h15 h16 g11 g10
  have h34 : MakC l.prog w K mg base "Record" C2 2 [] (spRInit C2) := ⟨PySem.W.mg_of X G aC2, _, ⟨cm2, a34, i34, ck2⟩, ⟨_, _, _, _, ok_rInit F34 T2 Z h17, b34, .nil, fun _ => .nil⟩⟩
  have h35 : CmtC l.prog w K mg base "Record" C2 "of" 45 [] (spROf C2 21) := ⟨PySem.W.mg_of X G aC2, _, _, _, ⟨rd35, ga35⟩, ⟨a35, pr35, fi35⟩, ⟨_, _, _, _, ok_rOf 21 (by decide) F35 T1 Z h14 h30 (fun n _ => hme n) h34 g12, b35, .nil, fun _ => .nil⟩⟩
  have h36 : MthC l.prog w K mg base C2 "along" 1 [] (spAlong C2) := ⟨cls2, _, ⟨a36, i36, k36⟩, ⟨_, _, _, _, ok_along F36 T2 Z, b36, .nil, fun _ => .nil⟩⟩
  have h37 : MthC l.prog w K mg base C2 "look" 3 [] (spLook C2) := ⟨cls2, _, ⟨a37, i37, k37⟩, ⟨_, _, _, _, ok_look F37 T2 Z h9, b37, .nil, fun _ => .nil⟩⟩
  have h38 : MthC l.prog w K mg base C2 "part" 45 [] (spPart C2 21) := ⟨cls2, _, ⟨a38, i38, k38⟩, ⟨_, _, _, _, ok_part 21 (by decide) F38 T2 T1 Z h37 h30 (fun n _ => hme n) h34, b38, .nil, fun _ => .nil⟩⟩
  exact ok_law (fun_mk (st := s_law) l39 c39 k39) T2 Z h19 h18 h29 h35 h36 h38
theorem walk {l : PySem.W.OpenLaw} {q : Program} {loose : List Str} {XP : (Str → Option Value) → Heap → Prop} {YP : World → Heap → Prop} {d : DefRec} {K : Params → PySem.W.Frag} (hn : l.most = some 63) (hdf : d.params.defaults = [])
    (hY : ∀ (w : World) (h : Heap), YP w h → (K w.params).In h)
    (F : ∀ (w : World) (mg : Str → Option Value) (fa : Addr) (h : Heap), (K w.params).In h → h.Ns mainGlobals mg → mg d.name = some (.ref fa) →
      ∃ fd : FuncData, (∀ (s : Shared) (u : Value), BindsTo s fd ⟨[u], []⟩ [("_law_script", u)]) ∧ ∀ base : Heap, (K w.params).In base → base.Ns mainGlobals mg → FnG l.prog w (K w.params) mg base CX0 67 fa fd ["_law_script"] (toSp (K w.params) spLaw)) :
    PySem.W.WalkO q loose XP YP l.row.toRowW d [] (fun f vs => PySem.call f vs) :=
  walk_ofG (z := 63) (n := 67) (x := "_law_script") (CT := fun _ => CX0) (sp := fun w => toSp (K w.params) spLaw) hn (by decide) hdf ⟨rfl, by decide, by decide⟩ hY F
    (fun w H a ns hl hbits _ hS => ⟨H, fun _ => none, [.slst (ns.map D.int)], fun d _ => d = .bl true, wld0, .cons (.slst hS (dat_ints ns)) .nil, ⟨ns, rfl, hl, fun _ => rfl, rfl⟩, fun v G' C' H' d f w' r z => by subst z; cases r; rfl⟩) fun _ _ _ _ _ z => z
end
end K31

open PySem PySem.W PyProof.Rows in
set_option maxRecDepth 100000 in
set_option maxHeartbeats 0 in
theorem PySem.Challenge.cw_chainedreports_k05_chains_along_holds : PySem.Challenge.rw_chainedreports_k05_chains_along.Holds := by
  w_on; o_law; k_head; (case hw => w_witness2)
  k_fill
  refine K31.walk (l := PySem.Challenge.rw_chainedreports_k05_chains_along) rfl rfl (fun w h Y => PySem.W.kIn_of Y) ?F
  case F =>
    intro w mg fa h KX G hmg
    refine' K31.all_mk KX G hmg ?aC1 ?cg1 ?ch1 ?co1 ?cx1 ?cm1 ?ck1 ?n1_0 ?n1_1 ?n1_2 ?n1_3 ?n1_4 ?n1_5 ?aC2 ?cg2 ?ch2 ?co2 ?cx2 ?cm2 ?ck2 ?n2_0 ?n2_1 ?a1 ?l1 ?c1 ?k1 ?a2 ?l2 ?c2 ?k2 ?a3 ?l3 ?c3 ?k3 ?a4 ?l4 ?c4 ?k4 ?a5 ?l5 ?c5 ?k5 ?a6 ?l6 ?c6 ?k6 ?a7 ?l7 ?c7 ?k7 ?a8 ?l8 ?c8 ?k8 ?a9 ?l9 ?c9 ?k9 ?a10 ?l10 ?c10 ?k10 ?a11 ?l11 ?c11 ?k11 ?a12 ?l12 ?c12 ?k12 ?a13 ?l13 ?c13 ?k13 ?a14 ?l14 ?c14 ?k14 ?a15 ?l15 ?c15 ?k15 ?a16 ?l16 ?c16 ?k16 ?a17 ?l17 ?c17 ?k17 ?a18 ?l18 ?c18 ?k18 ?a19 ?l19 ?c19 ?k19 ?a20 ?l20 ?c20 ?k20 ?a21 ?l21 ?c21 ?k21 ?a22 ?l22 ?c22 ?k22 ?a23 ?l23 ?c23 ?k23 ?a24 ?l24 ?c24 ?k24 ?a25 ?l25 ?c25 ?k25 ?a26 ?l26 ?c26 ?k26 ?a27 ?l27 ?c27 ?k27 ?a28 ?l28 ?c28 ?k28 ?a29 ?l29 ?c29 ?k29 ?a30 ?i30 ?l30 ?c30 ?k30 ?w30_0 ?w30_1 ?w30_2 ?a31 ?i31 ?l31 ?c31 ?k31 ?a32 ?i32 ?l32 ?c32 ?k32 ?a33 ?i33 ?l33 ?c33 ?k33 ?a34 ?i34 ?l34 ?c34 ?k34 ?rd35 ?ga35 ?a35 ?pr35 ?fi35 ?l35 ?c35 ?k35 ?a36 ?i36 ?l36 ?c36 ?k36 ?a37 ?i37 ?l37 ?c37 ?k37 ?a38 ?i38 ?l38 ?c38 ?k38 ?a39 ?l39 ?c39 ?k39 ?m0 ?m1 ?m2 ?m3 ?m4 ?m5 ?m6 ?t6 ?m7 ?m8 ?m9 ?m10 ?m11 ?m12 ?z0 ?z1 ?z2 ?z3 ?z4 ?z5 ?z6 ?z7 ?z8 ?z9 ?z10 ?z11 ?z12 ?z13 ?z14 ?z15 ?z16 ?z17 ?z18
    (case aC1 => k_is)
    (case cg1 => k_is)
    (case ch1 => k_is)
    (case co1 => k_is)
    (case cx1 => k_is)
    (case cm1 => k_is)
    (case ck1 => k_is)
    (case n1_0 => k_is)
    (case n1_1 => k_is)
    (case n1_2 => k_is)
    (case n1_3 => k_is)
    (case n1_4 => k_is)
    (case n1_5 => k_is)
    (case aC2 => k_is)
    (case cg2 => k_is)
    (case ch2 => k_is)
    (case co2 => k_is)
    (case cx2 => k_is)
    (case cm2 => k_is)
    (case ck2 => k_is)
    (case n2_0 => k_is)
    (case n2_1 => k_is)
    (case a1 => k_is)
    (case l1 => k_is)
    (case c1 => k_is)
    (case k1 => k_is)
    (case a2 => k_is)
    (case l2 => k_is)
    (case c2 => k_is)
    (case k2 => k_is)
    (case a3 => k_is)
    (case l3 => k_is)
    (case c3 => k_is)
    (case k3 => k_is)
    (case a4 => k_is)
    (case l4 => k_is)
    (case c4 => k_is)
    (case k4 => k_is)
    (case a5 => k_is)
    (case l5 => k_is)
    (case c5 => k_is)
    (case k5 => k_is)
    (case a6 => k_is)
    (case l6 => k_is)
    (case c6 => k_is)
    (case k6 => k_is)
    (case a7 => k_is)
    (case l7 => k_is)
    (case c7 => k_is)
    (case k7 => k_is)
    (case a8 => k_is)
    (case l8 => k_is)
    (case c8 => k_is)
    (case k8 => k_is)
    (case a9 => k_is)
    (case l9 => k_is)
    (case c9 => k_is)
    (case k9 => k_is)
    (case a10 => k_is)
    (case l10 => k_is)
    (case c10 => k_is)
    (case k10 => k_is)
    (case a11 => k_is)
    (case l11 => k_is)
    (case c11 => k_is)
    (case k11 => k_is)
    (case a12 => k_is)
    (case l12 => k_is)
    (case c12 => k_is)
    (case k12 => k_is)
    (case a13 => k_is)
    (case l13 => k_is)
    (case c13 => k_is)
    (case k13 => k_is)
    (case a14 => k_is)
    (case l14 => k_is)
    (case c14 => k_is)
    (case k14 => k_is)
    (case a15 => k_is)
    (case l15 => k_is)
    (case c15 => k_is)
    (case k15 => k_is)
    (case a16 => k_is)
    (case l16 => k_is)
    (case c16 => k_is)
    (case k16 => k_is)
    (case a17 => k_is)
    (case l17 => k_is)
    (case c17 => k_is)
    (case k17 => k_is)
    (case a18 => k_is)
    (case l18 => k_is)
    (case c18 => k_is)
    (case k18 => k_is)
    (case a19 => k_is)
    (case l19 => k_is)
    (case c19 => k_is)
    (case k19 => k_is)
    (case a20 => k_is)
    (case l20 => k_is)
    (case c20 => k_is)
    (case k20 => k_is)
    (case a21 => k_is)
    (case l21 => k_is)
    (case c21 => k_is)
    (case k21 => k_is)
    (case a22 => k_is)
    (case l22 => k_is)
    (case c22 => k_is)
    (case k22 => k_is)
    (case a23 => k_is)
    (case l23 => k_is)
    (case c23 => k_is)
    (case k23 => k_is)
    (case a24 => k_is)
    (case l24 => k_is)
    (case c24 => k_is)
    (case k24 => k_is)
    (case a25 => k_is)
    (case l25 => k_is)
    (case c25 => k_is)
    (case k25 => k_is)
    (case a26 => k_is)
    (case l26 => k_is)
    (case c26 => k_is)
    (case k26 => k_is)
    (case a27 => k_is)
    (case l27 => k_is)
    (case c27 => k_is)
    (case k27 => k_is)
    (case a28 => k_is)
    (case l28 => k_is)
    (case c28 => k_is)
    (case k28 => k_is)
    (case a29 => k_is)
    (case l29 => k_is)
    (case c29 => k_is)
    (case k29 => k_is)
    (case a30 => k_is)
    (case i30 => k_is)
    (case l30 => k_is)
    (case c30 => k_is)
    (case k30 => k_is)
    (case w30_0 => k_is)
    (case w30_1 => k_is)
    (case w30_2 => k_is)
    (case a31 => k_is)
    (case i31 => k_is)
    (case l31 => k_is)
    (case c31 => k_is)
    (case k31 => k_is)
    (case a32 => k_is)
    (case i32 => k_is)
    (case l32 => k_is)
    (case c32 => k_is)
    (case k32 => k_is)
    (case a33 => k_is)
    (case i33 => k_is)
    (case l33 => k_is)
    (case c33 => k_is)
    (case k33 => k_is)
    (case a34 => k_is)
    (case i34 => k_is)
    (case l34 => k_is)
    (case c34 => k_is)
    (case k34 => k_is)
    (case rd35 => k_is)
    (case ga35 => k_is)
    (case a35 => k_is)
    (case pr35 => exact ⟨_, by k_is⟩)
    (case fi35 => k_is)
    (case l35 => k_is)
    (case c35 => k_is)
    (case k35 => k_is)
    (case a36 => k_is)
    (case i36 => k_is)
    (case l36 => k_is)
    (case c36 => k_is)
    (case k36 => k_is)
    (case a37 => k_is)
    (case i37 => k_is)
    (case l37 => k_is)
    (case c37 => k_is)
    (case k37 => k_is)
    (case a38 => k_is)
    (case i38 => k_is)
    (case l38 => k_is)
    (case c38 => k_is)
    (case k38 => k_is)
    (case a39 => k_is)
    (case l39 => k_is)
    (case c39 => k_is)
    (case k39 => k_is)
    (case m0 => k_is)
    (case m1 => k_is)
    (case m2 => k_is)
    (case m3 => k_is)
    (case m4 => k_is)
    (case m5 => k_is)
    (case m6 => k_is)
    (case t6 => k_is)
    (case m7 => k_is)
    (case m8 => k_is)
    (case m9 => k_is)
    (case m10 => k_is)
    (case m11 => k_is)
    (case m12 => k_is)
    (case z0 => k_is)
    (case z1 => k_is)
    (case z2 => k_is)
    (case z3 => k_is)
    (case z4 => k_is)
    (case z5 => k_is)
    (case z6 => k_is)
    (case z7 => k_is)
    (case z8 => k_is)
    (case z9 => k_is)
    (case z10 => k_is)
    (case z11 => k_is)
    (case z12 => k_is)
    (case z13 => k_is)
    (case z14 => k_is)
    (case z15 => k_is)
    (case z16 => k_is)
    (case z17 => k_is)
    (case z18 => k_is)
