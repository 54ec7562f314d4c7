import PyProof.Rows.All
import Wide.All
import OpenK.AllK
import Wide.FinOn
import HandS.ForMost
import HandS.Property
import HandS.EndBits
import HandS.IsInst
import HandS.Zip
import HandS.Flow
import HandS.Wide
import HandS.Lambda
import HandS.Deep
import HandS.TupAny
import HandS.TupMul
import HandS.WideBits
import HandS.Replace
import HandS.StrMore
import HandS.More
import HandS.TryOnly
import PyProof.ReprRoads
import PyProof.ReprLen
import PyProof.Rows.StrBoot
import HandS.Comp
import PyProof.P3Eq
import HandS.Style
import HandS.WordsDict
import HandS.Dict
import KE.GoesEnum
import HandS.Star
import PyProof.CollectIter
import PyProof.WalksMore
import HandS.FStr
import HandS.ClsMeth
import HandS.MakeKwOnly
import HandS.OwnEq
import PyProof.InstNe
import HandS.Iter
import HandS.Codes
import HandS.Exc
import HandS.ExcOwn
import HandS.ExcInit
import HandS.ExcField
import HandS.ExcIs
import HandS.ExcBuiltin
import KE.KExcInit
import KE.KExcIs
import HandS.TryMany
import PyProof.ExcBaseAll.LookupError
import PyProof.P3In
import PyProof.ExcClass
import PyProof.RulesRaise
import PyProof.FactsTree
import PyProof.Rows.FactsExc_KeyError
import PyProof.InstStoreFacts
import HandS.Zip0
import PySem.Challenge.RW_chainedreports_k39_styles_refused
import KE.KStrBytes
set_option Elab.async false
set_option linter.all false
set_option maxRecDepth 100000
set_option maxHeartbeats 4000000
/-! DG0: promises of defs that are called where no text of a list is being made (no guard stands around). -/
namespace DL
open PySem PySem.Spec PyProof.Rows L2
/-- FnOk, where no guard stands around -/
structure FnG (P : Program) (w : World) (K : PySem.W.Frag) (mg : Str → Option Value) (base : Heap) (CT : CXT) (n : Nat) (fa : Addr) (fd : FuncData) (ps : List Str) (sp : Sp) : Prop where
  len : ∀ as H Q E, sp as H Q E → as.length = ps.length
  run : ∀ {A : Around} {out : List Env} {s : Shared} {H : Hp} {ar : Args} {us : List Value} {as : List V} {Q : VK} {E : XK}, A.guards = some [] → Room n A → Env0 P w K mg base A out s H →
    BindsTo s fd ar (ps.zip us) → Vals as us → sp as H Q E → codeAny (model P w) A (.call (.ref fa) ar) (CR CT out P w H s Q E) s
section
variable {P : Program} {w : World} {K : PySem.W.Frag} {mg : Str → Option Value} {base : Heap} {CT : CXT} {n m : Nat} {fa : Addr} {fd : FuncData} {ps : List Str} {sp : Sp}
theorem FnG.mono (F : FnG P w K mg base CT n fa fd ps sp) (h : n ≤ m) : FnG P w K mg base CT m fa fd ps sp := ⟨F.len, fun g r => F.run g (r.mono h)⟩
/-- from the body -/
theorem fnG_of {x qual : Str} {st : Stmt} {N : List Str} (F : Fun K x qual st fa fd) (S : FnScope N ps (defScope st)) (len : ∀ as H Q E, sp as H Q E → as.length = ps.length)
    (hb : ∀ (cdv : Value) (A : Around) (out : List Env) (s : Shared) (H : Hp) (as : List V) (Q : VK) (E : XK), A.guards = some [] → Room n (A.deeper (envOfC qual (defScope st) s.heap.objs.size fa cdv)) → sp as H Q E →
      ∃ t, PSs (cxOf CT P w K mg base N qual (defScope st) fa cdv A out s H E) (defBody st) t ∧ t { nx := fun _ H1 => Q .non H1, rt := Q } (start N as) H) : FnG P w K mg base CT (n + 1) fa fd ps sp := by
  obtain ⟨oc, od, kV, doc, pm, an, cdv, ct, osl, rfl, hlook, hcode⟩ := F.ex
  refine ⟨len, ?_⟩
  intro A out s H ar us as Q E hguard hroom env0 hbind hvals hsp
  have inK : K.In s.heap := env0.mod.kin.keeps fun a o q => (env0.bs a o q).1
  have noLim : s.heap.NoLimit := env0.mod.nolimit.keeps fun a o q => (env0.bs a o q).1
  refine codeAny_call_function hroom.depth (inK _ _ hlook) rfl S.co S.gen rfl (PySem.W.codeRec_of inK hcode) (hbind _ _ _ _ ?_)
  refine wpAny_newFunctionEnv_cells S.kind ?_ ?_
  · rintro ⟨nm, v⟩ hin
    rcases S.par nm (List.of_mem_zip hin).1 with q | q
    · exact .inl q
    · exact .inr ⟨q, PySem.W.cellsFrom_some _ _ _ (.inl q)⟩
  · intro env henv s1 inc
    subst henv
    refine ⟨noLim.keeps inc.toInCall.keep, codeAny_func ?_⟩
    obtain ⟨t, pt, qt⟩ := hb cdv A out s H as Q E hguard (hroom.deeper _) hsp
    have inv := inv_start (E := E) (CX := CT) S hroom.hd env0 (len _ _ _ _ hsp) hvals inc
    refine wpAny_mono (pt.run [] s1 (start N as) H _ inv qt) ?_ fun e s' z => z
    intro fl s' z
    cases fl with
    | ret u =>
      obtain ⟨v, _, H1, J, rv, q⟩ := z
      exact ⟨v, H1, J.os, J.bare, J.base, J.hok, rv, q⟩
    | next =>
      obtain ⟨_, H1, J, q⟩ := z
      exact ⟨V.non, H1, J.os, J.bare, J.base, J.hok, rfl, q⟩
    | brk => exact z.elim fun _ z => z.elim fun _ z => z.2.elim
    | cont => exact z.elim fun _ z => z.elim fun _ z => z.2.elim
end
section
variable {X : Cx} {CT : CXT} {n : Nat} {fa Ca : Addr} {fd : FuncData} {ps : List Str} {sp : Sp} {E : XK} {x m : Str} {p pos apos : Pos} {e o : Expr} {es : List Expr} {ta : TE} {t : TA}
theorem goG {pins : List (Addr × Obj)} {σ : L2.St} {H : Hp} {s : Shared} {Q : VK} {us : List Value} {as : List V} (F : FnG X.prog X.w X.K X.mg X.base CT n fa fd ps sp) (hgd : X.A.guards = some []) (hr : Room n X.A) (hb : Binds X.K fd ps []) (hx : Passes CT X E)
    (I : Inv X pins σ H s) (r : Vals as us) (h : sp as H Q E) : wpAny (model X.prog X.w) X.A (call (.ref fa) us) (EP X pins σ Q) X.xe s := by
  have hlen : (us ++ ([] : List Value)).length = ps.length := by
    rw [List.append_nil, ← r.length]
    exact F.len _ _ _ _ h
  have hbind := hb s us I.kIn hlen
  rw [List.append_nil] at hbind
  refine wpAny_call (codeAny_mono (F.run hgd hr I.env0 hbind r h) ?_)
  intro res s' z
  match res, z with
  | .error e, z => exact hx pins σ H s e s' I z
  | .ok (.ret u), z => exact I.after z
theorem pe_callG (F : FnG X.prog X.w X.K X.mg X.base CT n fa fd ps sp) (hgd : X.A.guards = some []) (hr : Room n X.A) (hg : Gl X x) (hm : X.mg x = some (.ref fa)) (hk : PySem.W.keepIn X.K (.ref fa) = true) (hb : Binds X.K fd ps []) (hx : Passes CT X E)
    (ha : PA X (e :: es) t) (hdb : (x == ("__debug__" : Str)) = false := by decide) (he : starEach (e :: es) X.env = (false, eval e X.env) :: starEach es X.env := by rfl) (hpl : (backTo pos (starEach es X.env)).any (·.1) = false := by rfl) :
    PE X (.Call (.Name x p) (e :: es) [] pos) (tCall sp [] E t) := ⟨fun pins s σ H Q I h => wpAny_Call_Name_kw (ld_glob I hg hm (PySem.W.callWith_K (h₀ := X.base) I.ok.mod.kin hk (thn (ha.run pos pins s σ H _ I h) fun us s1 z => by
      obtain ⟨as, H1, I1, r, q⟩ := z
      refine ⟨I1.kIn, goG F hgd hr hb hx I1 r ?_⟩
      rwa [List.append_nil] at q) he hpl) hdb)⟩
end
/-! ### the law's own call -/
section
variable {P : Program} {w : World} {K : PySem.W.Frag} {mg mb : Str → Option Value} {CT : CXT} {n : Nat} {fa a : Addr} {fd : FuncData} {x : Str} {sp : Sp} {s : Shared} {vs : List Value} {ns : List Int}
def EndT (s : Shared) (r : Result) (s' : Shared) : Prop := r = .ok (.ret (.bool true)) ∧ OldK s.heap s'.heap ∧ s'.os = s.os ∧ AllBare s'.gens
end
end DL
/-! DLa: a layer of data over the hand layer: data as trees, cells that change, readings by data. -/
namespace DL
open PySem PySem.Spec PyProof.Rows L2

/-- data: trees of what does not change; slst: a list of the module or the script; own: a cell that may change; opq: anything else -/
inductive D where
  | non | bl (b : Bool) | int (i : Int) | str (x : Str)
  | lst (xs : List D) | tup (xs : List D) | slst (xs : List D)
  | obj (C : Addr) (ks : List Str) (xs : List D)
  | own (a : Addr)
  | opq (v : V)

/-- what stands in a cell -/
inductive Cell where
  | lst (xs : List D)
  | dic (kvs : List (Key × D))
  | ins (C : Addr) (ks : List Str) (xs : List D)
  /-- a table of code objects of the name q; cs: some of them -/
  | tbl (q : Str) (cs : List Addr)

abbrev CS := Addr → Option Cell
def put (C : CS) (a : Addr) (c : Cell) : CS := fun b => if b = a then some c else C b
def del (C : CS) (a : Addr) : CS := fun b => if b = a then none else C b
theorem put_same {C : CS} {a : Addr} {c : Cell} : put C a c a = some c := by unfold put; rw [if_pos rfl]
theorem put_ne {C : CS} {a b : Addr} {c : Cell} (h : b ≠ a) : put C a c b = C b := by unfold put; rw [if_neg h]
theorem put_put {C : CS} {a : Addr} {c d : Cell} : put (put C a c) a d = put C a d := by
  funext b; unfold put; split <;> rfl
theorem del_same {C : CS} {a : Addr} : del C a a = none := by unfold del; rw [if_pos rfl]
theorem del_ne {C : CS} {a b : Addr} (h : b ≠ a) : del C a b = C b := by unfold del; rw [if_neg h]
theorem del_put {C : CS} {a : Addr} {c : Cell} (h : C a = none) : del (put C a c) a = C := by
  funext b; unfold del put; split
  · rename_i e; rw [e, h]
  · rfl
theorem cell_ne {C : CS} {a b : Addr} {c : Cell} (h : C a = some c) (h' : C b = none) : a ≠ b := by
  intro e; subst e; rw [h] at h'; cases h'

mutual
inductive Dat (K : PySem.W.Frag) (G : Hp) : V → D → Prop
  | non : Dat K G .non .non
  | bl (b : Bool) : Dat K G (.bl b) (.bl b)
  | int (i : Int) : Dat K G (.int i) (.int i)
  | str (x : Str) : Dat K G (.str x) (.str x)
  | lst {a : Addr} {xs : List V} {ds : List D} : G a = some (.lst xs) → DatAll K G xs ds → Dat K G (.ref a) (.lst ds)
  | slst {a : Addr} {xs : List V} {ds : List D} : SqL K G a xs → DatAll K G xs ds → Dat K G (.ref a) (.slst ds)
  | tup {a : Addr} {xs : List V} {ds : List D} : SqT K G a xs → DatAll K G xs ds → Dat K G (.ref a) (.tup ds)
  | obj {a C dx : Addr} {fs : List (Str × V)} {ks : List Str} {ds : List D} : G a = some (.ins C dx fs) → fs.map (·.1) = ks → DatAll K G (fs.map (·.2)) ds → Dat K G (.ref a) (.obj C ks ds)
  | own (a : Addr) : Dat K G (.ref a) (.own a)
  | opq (v : V) : Dat K G v (.opq v)
inductive DatAll (K : PySem.W.Frag) (G : Hp) : List V → List D → Prop
  | nil : DatAll K G [] []
  | cons {v : V} {vs : List V} {d : D} {ds : List D} : Dat K G v d → DatAll K G vs ds → DatAll K G (v :: vs) (d :: ds)
end

theorem Same.sqT {K : PySem.W.Frag} {H H' : Hp} {a : Addr} {xs : List V} (e : Same H H') (h : SqT K H a xs) : SqT K H' a xs := by
  rcases h with (h | ⟨o, h⟩) | h
  · exact .inl (.inl (e _ _ h))
  · exact .inl (.inr ⟨o, e _ _ h⟩)
  · exact .inr h

section
variable {K : PySem.W.Frag} {G G' : Hp}
mutual
theorem Dat.mono (e : Same G G') : ∀ (d : D) {v : V}, Dat K G v d → Dat K G' v d
  | .non, _, h => by cases h; exact .non
  | .bl _, _, h => by cases h; exact .bl _
  | .int _, _, h => by cases h; exact .int _
  | .str _, _, h => by cases h; exact .str _
  | .lst ds, _, h => by
    cases h with
    | lst a b => exact .lst (e _ _ a) (DatAll.mono e ds b)
  | .slst ds, _, h => by
    cases h with
    | slst a b => exact .slst (e.seq a) (DatAll.mono e ds b)
  | .tup ds, _, h => by
    cases h with
    | tup a b => exact .tup (Same.sqT e a) (DatAll.mono e ds b)
  | .obj _ _ ds, _, h => by
    cases h with
    | obj a b c => exact .obj (e _ _ a) b (DatAll.mono e ds c)
  | .own _, _, h => by cases h; exact .own _
  | .opq _, _, h => by cases h; exact .opq _
theorem DatAll.mono (e : Same G G') : ∀ (ds : List D) {vs : List V}, DatAll K G vs ds → DatAll K G' vs ds
  | [], _, h => by cases h; exact .nil
  | d :: ds, _, h => by
    cases h with
    | cons a b => exact .cons (Dat.mono e d a) (DatAll.mono e ds b)
end
theorem DatAll.length : ∀ {vs : List V} {ds : List D}, DatAll K G vs ds → vs.length = ds.length
  | _, [], h => by cases h; rfl
  | _, d :: ds, h => by
    cases h with
    | cons a b => simp [DatAll.length b]
theorem DatAll.get : ∀ {vs : List V} {ds : List D} {i : Nat} {d : D}, DatAll K G vs ds → ds[i]? = some d → ∃ v, vs[i]? = some v ∧ Dat K G v d
  | _, [], i, d, h, e => by simp at e
  | _, x :: ds, i, d, h, e => by
    cases h with
    | cons a b =>
      cases i with
      | zero => simp at e; subst e; exact ⟨_, rfl, a⟩
      | succ i =>
        obtain ⟨v, h1, h2⟩ := DatAll.get (i := i) b (by simpa using e)
        exact ⟨v, by simpa using h1, h2⟩
theorem DatAll.append : ∀ {vs ws : List V} {ds es : List D}, DatAll K G vs ds → DatAll K G ws es → DatAll K G (vs ++ ws) (ds ++ es)
  | _, _, [], _, h, k => by cases h; exact k
  | _, _, d :: ds, _, h, k => by
    cases h with
    | cons a b => exact .cons a (DatAll.append b k)
theorem DatAll.take : ∀ {vs : List V} {ds : List D} (n : Nat), DatAll K G vs ds → DatAll K G (vs.take n) (ds.take n)
  | _, [], n, h => by cases h; simp; exact .nil
  | _, d :: ds, 0, h => by simp; exact .nil
  | _, d :: ds, n + 1, h => by
    cases h with
    | cons a b => exact .cons a (DatAll.take n b)
theorem DatAll.drop : ∀ {vs : List V} {ds : List D} (n : Nat), DatAll K G vs ds → DatAll K G (vs.drop n) (ds.drop n)
  | _, [], n, h => by cases h; simp; exact .nil
  | _, d :: ds, 0, h => h
  | _, d :: ds, n + 1, h => by
    cases h with
    | cons a b => exact DatAll.drop n b
theorem DatAll.set : ∀ {vs : List V} {ds : List D} {v : V} {d : D} (i : Nat), DatAll K G vs ds → Dat K G v d → DatAll K G (vs.set i v) (ds.set i d)
  | _, [], _, _, i, h, k => by cases h; simp; exact .nil
  | _, x :: ds, _, _, 0, h, k => by
    cases h with
    | cons a b => exact .cons k b
  | _, x :: ds, _, _, i + 1, h, k => by
    cases h with
    | cons a b => exact .cons a (DatAll.set i b k)
theorem DatAll.rev {vs : List V} {ds : List D} (h : DatAll K G vs ds) : DatAll K G vs.reverse ds.reverse := by
  induction ds generalizing vs with
  | nil => cases h; exact .nil
  | cons d ds ih =>
    cases h with
    | cons a b => simpa using DatAll.append (ih b) (.cons a .nil)
end

/-! ### the world -/
/-- a table of code objects; each of them bears the name q, and stands still -/
def TabG (G H : Hp) (a : Addr) (q : Str) (cs : List Addr) : Prop := ∃ ps : Array Value, H a = some (.tbl ps) ∧ TriplesOk ps.toList ∧ (∀ (pos : Pos) (cv : Value), codeAmong pos ps.toList = some cv → ∃ c, cv = .ref c ∧ G c = some (LamX.CodeO c q)) ∧ ∀ c ∈ cs, G c = some (LamX.CodeO c q)
def CellR (K : PySem.W.Frag) (G H : Hp) (a : Addr) : Cell → Prop
  | .lst ds => ∃ vs, H a = some (.lst vs) ∧ DatAll K G vs ds
  | .dic kvs => ∃ kw : List (Key × V), H a = some (.dK kw) ∧ kw.map (·.1) = kvs.map (·.1) ∧ DatAll K G (kw.map (·.2)) (kvs.map (·.2))
  | .ins C ks ds => ∃ (dx : Addr) (fs : List (Str × V)), H a = some (.ins C dx fs) ∧ fs.map (·.1) = ks ∧ DatAll K G (fs.map (·.2)) ds
  | .tbl q cs => TabG G H a q cs
theorem CellR.mono {K : PySem.W.Frag} {G G' H H' : Hp} {a : Addr} {c : Cell} (e : Same G G') (h : H' a = H a) (r : CellR K G H a c) : CellR K G' H' a c := by
  cases c with
  | lst ds => obtain ⟨vs, h1, h2⟩ := r; exact ⟨vs, h.trans h1, h2.mono e⟩
  | dic kvs => obtain ⟨vs, h1, h2, h3⟩ := r; exact ⟨vs, h.trans h1, h2, h3.mono e⟩
  | ins C ks ds => obtain ⟨dx, fs, h1, h2, h3⟩ := r; exact ⟨dx, fs, h.trans h1, h2, h3.mono e⟩
  | tbl q cs =>
    obtain ⟨ps, h1, h2, h3, h4⟩ := r
    refine ⟨ps, h.trans h1, h2, fun pos cv hc => ?_, fun c hc => e _ _ (h4 c hc)⟩
    obtain ⟨c, e1, e2⟩ := h3 pos cv hc
    exact ⟨c, e1, e _ _ e2⟩
theorem CellR.some {K : PySem.W.Frag} {G H : Hp} {a : Addr} {c : Cell} (r : CellR K G H a c) : ∃ o, H a = some o := by
  cases c with
  | lst ds => obtain ⟨vs, h1, h2⟩ := r; exact ⟨_, h1⟩
  | dic kvs => obtain ⟨vs, h1, h2, h3⟩ := r; exact ⟨_, h1⟩
  | ins C ks ds => obtain ⟨dx, fs, h1, h2, h3⟩ := r; exact ⟨_, h1⟩
  | tbl q cs => obtain ⟨ps, h1, _⟩ := r; exact ⟨_, h1⟩

structure Wld (K : PySem.W.Frag) (G : Hp) (C : CS) (H : Hp) : Prop where
  ex : Same G H
  cell : ∀ a c, C a = some c → G a = none ∧ CellR K G H a c
  /-- no table stands still -/
  nt : ∀ a ps, G a ≠ some (.tbl ps)

/-- what a piece of code leaves as it was -/
structure Fr (G : Hp) (C : CS) (H G' : Hp) (C' : CS) (H' : Hp) : Prop where
  exG : Same G G'
  /-- all but the tables of code objects -/
  keep : ∀ a o, H a = some o → C a = none → (∀ ps, o ≠ .tbl ps) → H' a = some o
  dom : ∀ a, H a ≠ none → H' a ≠ none
  newC : ∀ a, H a ≠ none → C' a ≠ none → C a ≠ none
  newG : ∀ a, H a ≠ none → G' a ≠ none → G a ≠ none ∨ C a ≠ none

section
variable {K : PySem.W.Frag} {G G1 G2 H H1 H2 : Hp} {C C1 C2 : CS} {a : Addr}
theorem Fr.refl (G : Hp) (C : CS) (H : Hp) : Fr G C H G C H := ⟨fun _ _ h => h, fun _ _ h _ _ => h, fun _ h => h, fun _ _ h => h, fun _ _ h => .inl h⟩
theorem Fr.trans (x : Fr G C H G1 C1 H1) (y : Fr G1 C1 H1 G2 C2 H2) : Fr G C H G2 C2 H2 where
  exG := x.exG.trans y.exG
  keep := fun a o h1 h2 h3 => y.keep a o (x.keep a o h1 h2 h3) (by
    cases q : C1 a with
    | none => rfl
    | some c => exact absurd h2 (x.newC a (by rw [h1]; simp) (by rw [q]; simp))) h3
  dom := fun a h => y.dom a (x.dom a h)
  newC := fun a h k => x.newC a h (y.newC a (x.dom a h) k)
  newG := fun a h k => (y.newG a (x.dom a h) k).elim (x.newG a h) fun k => .inr (x.newC a h k)
theorem Wld.ne (w : Wld K G C H) {a : Addr} (h : H a = none) : G a = none ∧ C a = none := by
  refine ⟨w.ex.free h, ?_⟩
  cases q : C a with
  | none => rfl
  | some c =>
    obtain ⟨o, e⟩ := (w.cell a c q).2.some
    rw [h] at e; cases e
/-- a new object that will not change -/
theorem Wld.newG (w : Wld K G C H) {p : Addr} (h : H p = none) (o : HO) (ho : ∀ ps, o ≠ .tbl ps := by intro _ z; cases z) : Wld K (upd G p o) C (upd H p o) ∧ Fr G C H (upd G p o) C (upd H p o) ∧ Same G (upd G p o) := by
  obtain ⟨g, c⟩ := w.ne h
  have sG : Same G (upd G p o) := fun b u e => by rw [upd_ne (ne_of_none e g)]; exact e
  refine ⟨⟨fun b u e => ?_, fun b c' e => ?_, fun b ps z => ?_⟩, ⟨sG, fun b u e _ _ => by rw [upd_ne (ne_of_none e h)]; exact e, fun b e => ?_, fun _ _ k => k, fun b hb k => ?_⟩, sG⟩
  · by_cases q : b = p
    · subst q; rw [upd_same] at e ⊢; exact e
    · rw [upd_ne q] at e ⊢; exact w.ex b u e
  · have ne : b ≠ p := cell_ne e c
    obtain ⟨h1, h2⟩ := w.cell b c' e
    exact ⟨by rw [upd_ne ne]; exact h1, h2.mono sG (upd_ne ne)⟩
  · by_cases q : b = p
    · subst q; rw [upd_same] at z; exact ho ps (Option.some.inj z)
    · rw [upd_ne q] at z; exact w.nt b ps z
  · by_cases q : b = p
    · subst q; exact absurd h e
    · rw [upd_ne q]; exact e
  · by_cases q : b = p
    · subst q; exact absurd h hb
    · rw [upd_ne q] at k; exact .inl k
/-- a new cell -/
theorem Wld.newC (w : Wld K G C H) {p : Addr} (h : H p = none) {o : HO} {c : Cell} (r : ∀ H', H' p = some o → CellR K G H' p c) : Wld K G (put C p c) (upd H p o) ∧ Fr G C H G (put C p c) (upd H p o) := by
  obtain ⟨g, c0⟩ := w.ne h
  refine ⟨⟨fun b u e => ?_, fun b c' e => ?_, w.nt⟩, ⟨fun _ _ h => h, fun b u e _ _ => by rw [upd_ne (ne_of_none e h)]; exact e, fun b e => ?_, fun b hb k => ?_, fun b _ k => .inl k⟩⟩
  · rw [upd_ne (ne_of_none e g)]; exact w.ex b u e
  · by_cases q : b = p
    · subst q; rw [put_same] at e; cases e; exact ⟨g, r _ upd_same⟩
    · rw [put_ne q] at e
      obtain ⟨h1, h2⟩ := w.cell b c' e
      exact ⟨h1, h2.mono (fun _ _ h => h) (upd_ne q)⟩
  · by_cases q : b = p
    · subst q; exact absurd h e
    · rw [upd_ne q]; exact e
  · by_cases q : b = p
    · subst q; exact absurd h hb
    · rw [put_ne q] at k; exact k
/-- a cell is changed -/
theorem Wld.write (w : Wld K G C H) {p : Addr} {c c' : Cell} (h : C p = some c) {o : HO} (r : ∀ H', H' p = some o → CellR K G H' p c') : Wld K G (put C p c') (upd H p o) ∧ Fr G C H G (put C p c') (upd H p o) := by
  obtain ⟨g, r0⟩ := w.cell p c h
  refine ⟨⟨fun b u e => ?_, fun b d e => ?_, w.nt⟩, ⟨fun _ _ h => h, fun b u e k _ => ?_, fun b e => ?_, fun b hb k => ?_, fun b _ k => .inl k⟩⟩
  · rw [upd_ne (ne_of_none e g)]; exact w.ex b u e
  · by_cases q : b = p
    · subst q; rw [put_same] at e; cases e; exact ⟨g, r _ upd_same⟩
    · rw [put_ne q] at e
      obtain ⟨h1, h2⟩ := w.cell b d e
      exact ⟨h1, h2.mono (fun _ _ h => h) (upd_ne q)⟩
  · have : b ≠ p := fun q => by subst q; rw [h] at k; cases k
    rw [upd_ne this]; exact e
  · by_cases q : b = p
    · subst q; rw [upd_same]; simp
    · rw [upd_ne q]; exact e
  · by_cases q : b = p
    · subst q; rw [h]; simp
    · rw [put_ne q] at k; exact k
/-- cells are forgotten -/
theorem Wld.sub (w : Wld K G C H) (h : ∀ a c, C1 a = some c → C a = some c) : Wld K G C1 H ∧ Fr G C H G C1 H :=
  ⟨⟨w.ex, fun a c e => w.cell a c (h a c e), w.nt⟩, ⟨fun _ _ h => h, fun _ _ h _ _ => h, fun _ h => h, fun a _ k => by
    cases q : C1 a with
    | none => exact absurd q k
    | some c => rw [h a c q]; simp, fun _ _ h => .inl h⟩⟩
/-- a list's cell is frozen -/
theorem Wld.freeze (w : Wld K G C H) {p : Addr} {ds : List D} (h : C p = some (.lst ds)) : ∃ G', Wld K G' (del C p) H ∧ Fr G C H G' (del C p) H ∧ Dat K G' (.ref p) (.lst ds) := by
  obtain ⟨g, vs, e, r⟩ := w.cell p _ h
  have sG : Same G (upd G p (.lst vs)) := fun b u e => by rw [upd_ne (ne_of_none e g)]; exact e
  refine ⟨upd G p (.lst vs), ⟨fun b u q => ?_, fun b c q => ?_, fun b ps z => ?_⟩, ⟨sG, fun _ _ h _ _ => h, fun _ h => h, fun b _ k => ?_, fun b _ k => ?_⟩, .lst upd_same (r.mono sG)⟩
  · by_cases z : b = p
    · subst z; rw [upd_same] at q; rw [e]; exact q
    · rw [upd_ne z] at q; exact w.ex b u q
  · have ne : b ≠ p := fun z => by subst z; rw [del_same] at q; cases q
    rw [del_ne ne] at q
    obtain ⟨h1, h2⟩ := w.cell b c q
    exact ⟨by rw [upd_ne ne]; exact h1, h2.mono sG rfl⟩
  · by_cases q : b = p
    · subst q; rw [upd_same] at z; cases z
    · rw [upd_ne q] at z; exact w.nt b ps z
  · by_cases z : b = p
    · subst z; rw [h]; simp
    · rw [del_ne z] at k; exact k
  · by_cases z : b = p
    · subst z; right; rw [h]; simp
    · rw [upd_ne z] at k; exact .inl k
end
end DL
/-! DLb: judgements by data: expressions, tests, arguments, statements. -/
namespace DL
open PySem PySem.Spec PyProof.Rows L2

abbrev DEnv := List (Option D)
def EnvR (K : PySem.W.Frag) (G : Hp) (env : DEnv) (σ : L2.St) : Prop := env.length = σ.length ∧ ∀ (i : Nat) (d : D), env[i]? = some (some d) → ∃ v, σ[i]? = some (some v) ∧ Dat K G v d
abbrev KD := D → CS → Prop
def Kont (K : PySem.W.Frag) (G : Hp) (C : CS) (H : Hp) (k : KD) (Q : VK) : Prop :=
  ∀ v G' C' H' d, Fr G C H G' C' H' → Wld K G' C' H' → Dat K G' v d → k d C' → Q v H'
def KontB (K : PySem.W.Frag) (G : Hp) (C : CS) (H : Hp) (k : Bool → CS → Prop) (Q : Bool → Hp → Prop) : Prop :=
  ∀ b G' C' H', Fr G C H G' C' H' → Wld K G' C' H' → k b C' → Q b H'
def KontA (K : PySem.W.Frag) (G : Hp) (C : CS) (H : Hp) (k : List D → CS → Prop) (Q : List V → Hp → Prop) : Prop :=
  ∀ vs G' C' H' ds, Fr G C H G' C' H' → Wld K G' C' H' → DatAll K G' vs ds → k ds C' → Q vs H'
def Ev (K : PySem.W.Frag) (te : TE) (env : DEnv) (C : CS) (k : KD) : Prop := ∀ G σ H Q, Wld K G C H → EnvR K G env σ → Kont K G C H k Q → te σ H Q
def EvB (K : PySem.W.Frag) (te : TT) (env : DEnv) (C : CS) (k : Bool → CS → Prop) : Prop := ∀ G σ H Q, Wld K G C H → EnvR K G env σ → KontB K G C H k Q → te σ H Q
def EvA (K : PySem.W.Frag) (te : TA) (env : DEnv) (C : CS) (k : List D → CS → Prop) : Prop := ∀ G σ H Q, Wld K G C H → EnvR K G env σ → KontA K G C H k Q → te σ H Q

/-- the widest readings -/
def tS (X : Cx) (e : Expr) : TE := fun σ H Q => ∀ pins s, Inv X pins σ H s → wpAny (model X.prog X.w) X.A (eval e X.env) (EP X pins σ Q) X.xe s
def tT (X : Cx) (e : Expr) : TT := fun σ H Q => ∀ pins s, Inv X pins σ H s → wpAny (model X.prog X.w) X.A (isTrue e X.env (eval e X.env)) (TP X pins σ Q) X.xe s
def tW (X : Cx) (e : Expr) : TT := fun σ H Q => ∀ whole pins s, Inv X pins σ H s → wpAny (model X.prog X.w) X.A (isTrue e X.env whole) (TP X pins σ Q) X.xe s
def tAr (X : Cx) (es : List Expr) : TA := fun σ H Q => ∀ (pos : Pos) pins s, Inv X pins σ H s → wpAny (model X.prog X.w) X.A (spliced (backTo pos (starEach es X.env))) (AP X pins σ Q) X.xe s
def tX (X : Cx) (st : Stmt) : TS := fun D σ H => ∀ pins s, Inv X pins σ H s → wpAny (model X.prog X.w) X.A (exec st X.env) (SP X pins D) X.xe s
def tXs (X : Cx) (st : List Stmt) : TS := fun D σ H => ∀ pins s, Inv X pins σ H s → wpAny (model X.prog X.w) X.A (execs st X.env) (SP X pins D) X.xe s
section
variable {X : Cx} {e : Expr} {es : List Expr} {st : Stmt} {sts : List Stmt}
theorem pe_tS : PE X e (tS X e) := ⟨fun pins s σ H Q I h => h pins s I⟩
theorem pt_tT : PT X e (tT X e) := ⟨fun pins s σ H Q I h => h pins s I⟩
theorem pw_tW : PW X e (tW X e) := ⟨fun wh pins s σ H Q I h => h wh pins s I⟩
theorem pa_tAr : PA X es (tAr X es) := ⟨fun pos pins s σ H Q I h => h pos pins s I⟩
theorem ps_tX : PS X st (tX X st) := ⟨fun pins s σ H D I h => h pins s I⟩
theorem pss_tXs : PSs X sts (tXs X sts) := ⟨fun pins s σ H D I h => h pins s I⟩
end
def WE (X : Cx) (e : Expr) (env : DEnv) (C : CS) (k : KD) : Prop := Ev X.K (tS X e) env C k
def WT (X : Cx) (e : Expr) (env : DEnv) (C : CS) (k : Bool → CS → Prop) : Prop := EvB X.K (tT X e) env C k
def WW (X : Cx) (e : Expr) (env : DEnv) (C : CS) (k : Bool → CS → Prop) : Prop := EvB X.K (tW X e) env C k
def WA (X : Cx) (es : List Expr) (env : DEnv) (C : CS) (k : List D → CS → Prop) : Prop := EvA X.K (tAr X es) env C k

structure DEnds where
  nx : DEnv → CS → Prop
  rt : KD
  bk : DEnv → CS → Prop := fun _ _ => False
  ct : DEnv → CS → Prop := fun _ _ => False
def KontE (K : PySem.W.Frag) (G : Hp) (C : CS) (H : Hp) (k : DEnv → CS → Prop) (Q : L2.St → Hp → Prop) : Prop :=
  ∀ G' C' H' σ env, Fr G C H G' C' H' → Wld K G' C' H' → EnvR K G' env σ → k env C' → Q σ H'
structure KontS (K : PySem.W.Frag) (G : Hp) (C : CS) (H : Hp) (E : DEnds) (D : Ends) : Prop where
  nx : KontE K G C H E.nx D.nx
  rt : Kont K G C H E.rt D.rt
  bk : KontE K G C H E.bk D.bk
  ct : KontE K G C H E.ct D.ct
def EvS (K : PySem.W.Frag) (ts : TS) (env : DEnv) (C : CS) (E : DEnds) : Prop := ∀ G σ H D, Wld K G C H → EnvR K G env σ → KontS K G C H E D → ts D σ H
def WS (X : Cx) (st : Stmt) (env : DEnv) (C : CS) (E : DEnds) : Prop := EvS X.K (tX X st) env C E
def WSs (X : Cx) (sts : List Stmt) (env : DEnv) (C : CS) (E : DEnds) : Prop := EvS X.K (tXs X sts) env C E

section
variable {K : PySem.W.Frag} {G G1 H H1 : Hp} {C C1 : CS} {env : DEnv} {σ : L2.St}
theorem EnvR.mono (h : EnvR K G env σ) (e : Same G G1) : EnvR K G1 env σ := ⟨h.1, fun i d q => let ⟨v, a, b⟩ := h.2 i d q; ⟨v, a, b.mono e⟩⟩
theorem Kont.after {k : KD} {Q : VK} (q : Kont K G C H k Q) (f : Fr G C H G1 C1 H1) : Kont K G1 C1 H1 k Q := fun v G' C' H' d f' => q v G' C' H' d (f.trans f')
theorem KontB.after {k : Bool → CS → Prop} {Q : Bool → Hp → Prop} (q : KontB K G C H k Q) (f : Fr G C H G1 C1 H1) : KontB K G1 C1 H1 k Q := fun v G' C' H' f' => q v G' C' H' (f.trans f')
theorem KontA.after {k : List D → CS → Prop} {Q : List V → Hp → Prop} (q : KontA K G C H k Q) (f : Fr G C H G1 C1 H1) : KontA K G1 C1 H1 k Q := fun v G' C' H' d f' => q v G' C' H' d (f.trans f')
theorem KontE.after {k : DEnv → CS → Prop} {Q : L2.St → Hp → Prop} (q : KontE K G C H k Q) (f : Fr G C H G1 C1 H1) : KontE K G1 C1 H1 k Q := fun G' C' H' s d f' => q G' C' H' s d (f.trans f')
theorem KontS.after {E : DEnds} {D : Ends} (q : KontS K G C H E D) (f : Fr G C H G1 C1 H1) : KontS K G1 C1 H1 E D := ⟨q.nx.after f, q.rt.after f, q.bk.after f, q.ct.after f⟩
theorem EnvR.set (h : EnvR K G env σ) {v : V} {d : D} (i : Nat) (r : Dat K G v d) : EnvR K G (env.set i (some d)) (σ.set i (some v)) := by
  refine ⟨by simp [h.1], fun j d' q => ?_⟩
  by_cases e : i = j
  · subst e
    by_cases l : i < env.length
    · rw [List.getElem?_set_self l] at q
      cases q
      exact ⟨v, by rw [List.getElem?_set_self (by rw [← h.1]; exact l)], r⟩
    · rw [List.getElem?_eq_none (by simp; omega)] at q; cases q
  · rw [List.getElem?_set_ne e] at q ⊢
    exact h.2 j d' q
end

/-! ### from a rule of the hand layer -/
section
variable {X : Cx} {e : Expr} {es : List Expr} {st : Stmt} {sts : List Stmt} {env : DEnv} {C : CS}
theorem WE.of {te : TE} {k : KD} (h : PE X e te) (hv : Ev X.K te env C k) : WE X e env C k := fun G σ H Q w er q pins s I => h.run pins s σ H Q I (hv G σ H Q w er q)
theorem WT.of {te : TT} {k : Bool → CS → Prop} (h : PT X e te) (hv : EvB X.K te env C k) : WT X e env C k := fun G σ H Q w er q pins s I => h.run pins s σ H Q I (hv G σ H Q w er q)
theorem WW.of {te : TT} {k : Bool → CS → Prop} (h : PW X e te) (hv : EvB X.K te env C k) : WW X e env C k := fun G σ H Q w er q wh pins s I => h.run wh pins s σ H Q I (hv G σ H Q w er q)
theorem WA.of {te : TA} {k : List D → CS → Prop} (h : PA X es te) (hv : EvA X.K te env C k) : WA X es env C k := fun G σ H Q w er q pos pins s I => h.run pos pins s σ H Q I (hv G σ H Q w er q)
theorem WS.of {te : TS} {E : DEnds} (h : PS X st te) (hv : EvS X.K te env C E) : WS X st env C E := fun G σ H D w er q pins s I => h.run pins s σ H D I (hv G σ H D w er q)
theorem WSs.of {te : TS} {E : DEnds} (h : PSs X sts te) (hv : EvS X.K te env C E) : WSs X sts env C E := fun G σ H D w er q pins s I => h.run pins s σ H D I (hv G σ H D w er q)
theorem WE.imp {k k' : KD} (h : WE X e env C k) (hk : ∀ d C', k d C' → k' d C') : WE X e env C k' := fun G σ H Q w er q => h G σ H Q w er fun v G' C' H' d f w' r z => q v G' C' H' d f w' r (hk d C' z)
theorem WT.imp {k k' : Bool → CS → Prop} (h : WT X e env C k) (hk : ∀ d C', k d C' → k' d C') : WT X e env C k' := fun G σ H Q w er q => h G σ H Q w er fun v G' C' H' f w' z => q v G' C' H' f w' (hk v C' z)
theorem WA.imp {k k' : List D → CS → Prop} (h : WA X es env C k) (hk : ∀ d C', k d C' → k' d C') : WA X es env C k' := fun G σ H Q w er q => h G σ H Q w er fun v G' C' H' d f w' r z => q v G' C' H' d f w' r (hk d C' z)
end

/-! ### readings by data, compositionally -/
abbrev OpD := D → D → CS → KD → Prop
/-- a two-place operation on values is one on data -/
def R2D (K : PySem.W.Frag) (r : R2) (p : OpD) : Prop := ∀ (x y : V) (a b : D) (G : Hp) (C : CS) (H : Hp) (k : KD) (Q : VK), Wld K G C H → Dat K G x a → Dat K G y b → p a b C k → Kont K G C H k Q → r x y H Q
def R1D (K : PySem.W.Frag) (r : V → Hp → VK → Prop) (p : D → CS → KD → Prop) : Prop := ∀ (x : V) (a : D) (G : Hp) (C : CS) (H : Hp) (k : KD) (Q : VK), Wld K G C H → Dat K G x a → p a C k → Kont K G C H k Q → r x H Q
def RLD (K : PySem.W.Frag) (r : List V → Hp → VK → Prop) (p : List D → CS → KD → Prop) : Prop := ∀ (xs : List V) (ds : List D) (G : Hp) (C : CS) (H : Hp) (k : KD) (Q : VK), Wld K G C H → DatAll K G xs ds → p ds C k → Kont K G C H k Q → r xs H Q
def RMD (K : PySem.W.Frag) (r : V → List V → Hp → VK → Prop) (p : D → List D → CS → KD → Prop) : Prop := ∀ (x : V) (a : D) (xs : List V) (ds : List D) (G : Hp) (C : CS) (H : Hp) (k : KD) (Q : VK), Wld K G C H → Dat K G x a → DatAll K G xs ds → p a ds C k → Kont K G C H k Q → r x xs H Q
section
variable {K : PySem.W.Frag} {env : DEnv} {C : CS} {ta tb te : TE} {k : KD} {r : R2} {p : OpD} {t u : TT} {kb : Bool → CS → Prop} {tr : TA}
theorem ev_op (hr : R2D K r p) (h : Ev K ta env C fun x C1 => Ev K tb env C1 fun y C2 => p x y C2 k) : Ev K (tOp r ta tb) env C k := fun G σ H Q w er q =>
  h G σ H _ w er fun v G1 C1 H1 x f1 w1 d1 hb => hb G1 σ H1 _ w1 (er.mono f1.exG) fun y' G2 C2 H2 y f2 w2 d2 hp => hr v y' x y G2 C2 H2 k Q w2 (d1.mono f2.exG) d2 hp (q.after (f1.trans f2))
theorem ev_un {r : V → Hp → VK → Prop} {p : D → CS → KD → Prop} (hr : R1D K r p) (h : Ev K ta env C fun x C1 => p x C1 k) : Ev K (tUn r ta) env C k := fun G σ H Q w er q =>
  h G σ H _ w er fun v G1 C1 H1 x f1 w1 d1 hb => hr v x G1 C1 H1 k Q w1 d1 hb (q.after f1)
theorem ev_cb {r : List V → Hp → VK → Prop} {p : List D → CS → KD → Prop} (hr : RLD K r p) (h : EvA K tr env C fun ds C1 => p ds C1 k) : Ev K (tCB r tr) env C k := fun G σ H Q w er q =>
  h G σ H _ w er fun vs G1 C1 H1 ds f1 w1 d1 hb => hr vs ds G1 C1 H1 k Q w1 d1 hb (q.after f1)
theorem eb_test (h : Ev K te env C fun x C1 => ∃ b, x = .bl b ∧ kb b C1) : EvB K (tTest te) env C kb := fun G σ H Q w er q =>
  h G σ H _ w er fun v G1 C1 H1 x f1 w1 d1 hb => by
    obtain ⟨b, rfl, hb⟩ := hb
    cases d1
    exact ⟨b, rfl, q b G1 C1 H1 f1 w1 hb⟩
theorem eb_B (h : Ev K te env C fun x C1 => ∃ b, x = .bl b ∧ kb b C1) : EvB K (tB te) env C kb := eb_test h
theorem eb_not (h : EvB K t env C fun b C1 => kb (!b) C1) : EvB K (tNot t) env C kb := fun G σ H Q w er q => h G σ H _ w er fun b G1 C1 H1 f1 w1 hb => q _ G1 C1 H1 f1 w1 hb
end
end DL
/-! DLc: the rules by data: names, operators, comparisons, displays, subscripts, tests. -/
namespace DL
open PySem PySem.Spec PyProof.Rows L2

/-! ### views of data -/
def seqL (C : CS) : D → Option (List D)
  | .lst xs => some xs
  | .own a => match C a with
    | some (.lst xs) => some xs
    | _ => none
  | _ => none
def seqR (C : CS) : D → Option (List D)
  | .slst xs => some xs
  | .lst xs => some xs
  | .own a => match C a with
    | some (.lst xs) => some xs
    | _ => none
  | _ => none
theorem seqL_own {C : CS} {a : Addr} {xs : List D} (h : C a = some (.lst xs)) : seqL C (.own a) = some xs := by unfold seqL; simp only [h]
theorem seqR_own {C : CS} {a : Addr} {xs : List D} (h : C a = some (.lst xs)) : seqR C (.own a) = some xs := by unfold seqR; simp only [h]
theorem own_seqL {C : CS} {a : Addr} {xs : List D} (h : seqL C (.own a) = some xs) : C a = some (.lst xs) := by
  unfold seqL at h
  cases q : C a with
  | none => simp [q] at h
  | some c => cases c <;> simp [q] at h; subst h; rfl
theorem own_seqR {C : CS} {a : Addr} {xs : List D} (h : seqR C (.own a) = some xs) : C a = some (.lst xs) := by
  unfold seqR at h
  cases q : C a with
  | none => simp [q] at h
  | some c => cases c <;> simp [q] at h; subst h; rfl
section
variable {K : PySem.W.Frag} {G H : Hp} {C : CS} {v : V} {d : D} {ds : List D}
theorem Wld.lst (w : Wld K G C H) (r : Dat K G v d) (e : seqL C d = some ds) : ∃ a xs, v = .ref a ∧ H a = some (.lst xs) ∧ DatAll K G xs ds := by
  cases r with
  | lst a b => simp [seqL] at e; subst e; exact ⟨_, _, rfl, w.ex _ _ a, b⟩
  | own a =>
    obtain ⟨_, vs, h1, h2⟩ := w.cell a _ (own_seqL e)
    exact ⟨a, vs, rfl, h1, h2⟩
  | _ => simp [seqL] at e
theorem Wld.seq (w : Wld K G C H) (r : Dat K G v d) (e : seqR C d = some ds) : ∃ a xs, v = .ref a ∧ SqL K H a xs ∧ DatAll K G xs ds := by
  cases r with
  | lst a b => simp [seqR] at e; subst e; exact ⟨_, _, rfl, SqL.of (w.ex _ _ a), b⟩
  | slst a b => simp [seqR] at e; subst e; exact ⟨_, _, rfl, w.ex.seq a, b⟩
  | own a =>
    obtain ⟨_, vs, h1, h2⟩ := w.cell a _ (own_seqR e)
    exact ⟨a, vs, rfl, SqL.of h1, h2⟩
  | _ => simp [seqR] at e
theorem Wld.tup (w : Wld K G C H) (r : Dat K G v (.tup ds)) : ∃ a xs, v = .ref a ∧ SqT K H a xs ∧ DatAll K G xs ds := by
  cases r with
  | tup a b => exact ⟨_, _, rfl, Same.sqT w.ex a, b⟩
end

mutual
def D.py : D → PyData
  | .non => .none
  | .bl b => .bool b
  | .int i => .int i
  | .str x => .str x
  | .lst xs => .list (pyL xs)
  | .slst xs => .list (pyL xs)
  | .tup xs => .tuple (pyL xs)
  | _ => .none
def pyL : List D → List PyData
  | [] => []
  | d :: ds => d.py :: pyL ds
end
mutual
def D.isPy : D → Bool
  | .non | .bl _ | .int _ | .str _ => true
  | .lst xs => allPy xs
  | .slst xs => allPy xs
  | .tup xs => allPy xs
  | _ => false
def allPy : List D → Bool
  | [] => true
  | d :: ds => d.isPy && allPy ds
end
section
variable {K : PySem.W.Frag} {G H : Hp}
mutual
theorem Dat.dp (e : Same G H) : ∀ (d : D) {v : V}, Dat K G v d → d.isPy = true → Dp K H v d.py
  | .non, _, h, _ => by cases h; exact .non
  | .bl _, _, h, _ => by cases h; exact .bl _
  | .int _, _, h, _ => by cases h; exact .int _
  | .str _, _, h, _ => by cases h; exact .str _
  | .lst ds, _, h, p => by
    cases h with
    | lst a b => exact .lst (SqL.of (e _ _ a)) (DatAll.dp e ds b (by simpa [D.isPy] using p))
  | .slst ds, _, h, p => by
    cases h with
    | slst a b => exact .lst (e.seq a) (DatAll.dp e ds b (by simpa [D.isPy] using p))
  | .tup ds, _, h, p => by
    cases h with
    | tup a b => exact .tup (Same.sqT e a) (DatAll.dp e ds b (by simpa [D.isPy] using p))
  | .obj _ _ ds, _, h, p => by simp [D.isPy] at p
  | .own _, _, h, p => by simp [D.isPy] at p
  | .opq _, _, h, p => by simp [D.isPy] at p
theorem DatAll.dp (e : Same G H) : ∀ (ds : List D) {vs : List V}, DatAll K G vs ds → allPy ds = true → DpAll K H vs (pyL ds)
  | [], _, h, _ => by cases h; exact .nil
  | d :: ds, _, h, p => by
    rw [allPy, Bool.and_eq_true] at p
    cases h with
    | cons a b => exact .cons (Dat.dp e d a p.1) (DatAll.dp e ds b p.2)
end
end
/-- the data that an operand stands for -/
def pyC (C : CS) : D → Option PyData
  | .own a => match C a with
    | some (.lst ds) => if allPy ds = true then some (.list (pyL ds)) else none
    | _ => none
  | d => if d.isPy = true then some d.py else none
theorem Wld.dp {K : PySem.W.Frag} {G H : Hp} {C : CS} {v : V} {d : D} {y : PyData} (w : Wld K G C H) (r : Dat K G v d) (e : pyC C d = some y) : Dp K H v y := by
  cases d with
  | own a =>
    cases r
    unfold pyC at e
    cases q : C a with
    | none => simp [q] at e
    | some c =>
      cases c with
      | lst ds =>
        simp [q] at e
        obtain ⟨p, rfl⟩ := e
        obtain ⟨_, vs, h1, h2⟩ := w.cell a _ q
        exact .lst (SqL.of h1) (h2.dp w.ex _ p)
      | _ => simp [q] at e
  | _ =>
    unfold pyC at e
    simp only [Option.ite_none_right_eq_some, Option.some.injEq] at e
    obtain ⟨p, rfl⟩ := e
    exact r.dp w.ex _ p

/-! ### more readings -/
section
variable {K : PySem.W.Frag} {env : DEnv} {C : CS} {ta tb te : TE} {k : KD} {t u : TT} {kb : Bool → CS → Prop} {tr : TA} {ka : List D → CS → Prop}
theorem eb_and2 (h : EvB K t env C fun b C1 => (b = true → EvB K u env C1 kb) ∧ (b = false → kb false C1)) : EvB K (tAnd t u) env C kb := fun G σ H Q w er q => h G σ H _ w er fun b G1 C1 H1 f1 w1 hb => by
  cases b with
  | true => exact iteT (hb.1 rfl G1 σ H1 Q w1 (er.mono f1.exG) (q.after f1))
  | false => exact iteF (q _ G1 C1 H1 f1 w1 (hb.2 rfl))
theorem eb_or2 (h : EvB K t env C fun b C1 => (b = true → kb true C1) ∧ (b = false → EvB K u env C1 kb)) : EvB K (tOr t u) env C kb := fun G σ H Q w er q => h G σ H _ w er fun b G1 C1 H1 f1 w1 hb => by
  cases b with
  | true => exact iteT (q _ G1 C1 H1 f1 w1 (hb.1 rfl))
  | false => exact iteF (hb.2 rfl G1 σ H1 Q w1 (er.mono f1.exG) (q.after f1))
theorem ev_andV (h : Ev K ta env C fun x C1 => ∃ b, x = .bl b ∧ (b = true → Ev K tb env C1 k) ∧ (b = false → k (.bl false) C1)) : Ev K (tAndV ta tb) env C k := fun G σ H Q w er q => h G σ H _ w er fun v G1 C1 H1 x f1 w1 d1 hb => by
  obtain ⟨b, rfl, h1, h2⟩ := hb
  cases d1
  refine ⟨b, rfl, ?_⟩
  cases b with
  | true => exact iteT (h1 rfl G1 σ H1 Q w1 (er.mono f1.exG) (q.after f1))
  | false => exact iteF (q _ G1 C1 H1 _ f1 w1 (.bl false) (h2 rfl))
theorem ev_orV (h : Ev K ta env C fun x C1 => ∃ b, x = .bl b ∧ (b = true → k (.bl true) C1) ∧ (b = false → Ev K tb env C1 k)) : Ev K (tOrV ta tb) env C k := fun G σ H Q w er q => h G σ H _ w er fun v G1 C1 H1 x f1 w1 d1 hb => by
  obtain ⟨b, rfl, h1, h2⟩ := hb
  cases d1
  refine ⟨b, rfl, ?_⟩
  cases b with
  | true => exact iteT (q _ G1 C1 H1 _ f1 w1 (.bl true) (h1 rfl))
  | false => exact iteF (h2 rfl G1 σ H1 Q w1 (er.mono f1.exG) (q.after f1))
theorem ev_notV (h : Ev K ta env C fun x C1 => ∃ b, x = .bl b ∧ k (.bl (!b)) C1) : Ev K (tNotV ta) env C k := fun G σ H Q w er q => h G σ H _ w er fun v G1 C1 H1 x f1 w1 d1 hb => by
  obtain ⟨b, rfl, h1⟩ := hb
  cases d1
  exact ⟨b, rfl, q _ G1 C1 H1 _ f1 w1 (.bl _) h1⟩
theorem ev_if (h : EvB K t env C fun b C1 => (b = true → Ev K ta env C1 k) ∧ (b = false → Ev K tb env C1 k)) : Ev K (tIf t ta tb) env C k := fun G σ H Q w er q => h G σ H _ w er fun b G1 C1 H1 f1 w1 hb => by
  cases b with
  | true => exact iteT (hb.1 rfl G1 σ H1 Q w1 (er.mono f1.exG) (q.after f1))
  | false => exact iteF (hb.2 rfl G1 σ H1 Q w1 (er.mono f1.exG) (q.after f1))
theorem ea_nil (h : ka [] C) : EvA K tNil env C ka := fun G σ H Q w er q => q [] G C H [] (Fr.refl ..) w .nil h
theorem ea_cons (h : Ev K ta env C fun x C1 => EvA K tr env C1 fun ds C2 => ka (x :: ds) C2) : EvA K (tCons ta tr) env C ka := fun G σ H Q w er q =>
  h G σ H _ w er fun v G1 C1 H1 x f1 w1 d1 hb => hb G1 σ H1 _ w1 (er.mono f1.exG) fun vs G2 C2 H2 ds f2 w2 d2 hp => q (v :: vs) G2 C2 H2 (x :: ds) (f1.trans f2) w2 (.cons (d1.mono f2.exG) d2) hp
theorem ev_tup (h : EvA K tr env C fun ds C1 => ds.length ≤ sizeLine ∧ k (.tup ds) C1) : Ev K (tTup tr) env C k := fun G σ H Q w er q =>
  h G σ H _ w er fun vs G1 C1 H1 ds f1 w1 d1 hb => ⟨by rw [d1.length]; exact hb.1, fun p hp => by
    obtain ⟨w2, f2, s2⟩ := w1.newG hp (.tup vs)
    exact q _ _ _ _ _ (f1.trans f2) w2 (.tup (SqT.of upd_same) (d1.mono s2)) hb.2⟩
theorem ev_lst (h : EvA K tr env C fun ds C1 => ds.length ≤ sizeLine ∧ ∀ p, C1 p = none → k (.own p) (put C1 p (.lst ds))) : Ev K (tLst tr) env C k := fun G σ H Q w er q =>
  h G σ H _ w er fun vs G1 C1 H1 ds f1 w1 d1 hb => ⟨by rw [d1.length]; exact hb.1, fun p hp => by
    obtain ⟨w2, f2⟩ := w1.newC hp (o := .lst vs) (c := .lst ds) fun H' e => ⟨vs, e, d1⟩
    exact q _ _ _ _ _ (f1.trans f2) w2 (.own p) (hb.2 p (w1.ne hp).2)⟩
theorem ev_lstF (h : EvA K tr env C fun ds C1 => ds.length ≤ sizeLine ∧ k (.lst ds) C1) : Ev K (tLst tr) env C k := fun G σ H Q w er q =>
  h G σ H _ w er fun vs G1 C1 H1 ds f1 w1 d1 hb => ⟨by rw [d1.length]; exact hb.1, fun p hp => by
    obtain ⟨w2, f2, s2⟩ := w1.newG hp (.lst vs)
    exact q _ _ _ _ _ (f1.trans f2) w2 (.lst upd_same (d1.mono s2)) hb.2⟩
/-- a list that an expression gives is frozen -/
theorem ev_frz (h : Ev K te env C fun d C1 => ∃ ds, seqL C1 d = some ds ∧ ((∃ a, d = .own a ∧ k (.lst ds) (del C1 a)) ∨ (d = .lst ds ∧ k (.lst ds) C1))) : Ev K te env C k := fun G σ H Q w er q =>
  h G σ H _ w er fun v G1 C1 H1 d f1 w1 d1 hb => by
    obtain ⟨ds, e, h2⟩ := hb
    rcases h2 with ⟨a, rfl, h2⟩ | ⟨rfl, h2⟩
    · cases d1
      obtain ⟨G2, w2, f2, r2⟩ := w1.freeze (own_seqL e)
      exact q _ _ _ _ _ (f1.trans f2) w2 r2 h2
    · exact q _ _ _ _ _ f1 w1 d1 h2
end

/-! ### names, constants -/
section
variable {X : Cx} {e a b : Expr} {es : List Expr} {env : DEnv} {C : CS} {k : KD} {kb : Bool → CS → Prop} {ka : List D → CS → Prop} {pos : Pos}
theorem we_var {i : Nat} {x : Str} {d : D} (hN : X.N[i]? = some x) (hv : Vis X.env.scope x) (he : env[i]? = some (some d)) (h : k d C) (hd : (x == ("__debug__" : Str)) = false := by decide) (hcd : (x == ("__classdict__" : Str)) = false := by decide) : WE X (.Name x pos) env C k :=
  .of (pe_var hN hv hd hcd) fun G σ H Q w er q => by
    obtain ⟨v, h1, h2⟩ := er.2 i d he
    exact ⟨v, h1, q v G C H d (Fr.refl ..) w h2 h⟩
theorem we_int {i j} (h : k (.int i) C) : WE X (.Constant (.int i) j pos) env C k := .of pe_int fun G σ H Q w er q => q _ G C H _ (Fr.refl ..) w (.int i) h
theorem we_bl {b j} (h : k (.bl b) C) : WE X (.Constant (.bool b) j pos) env C k := .of pe_bl fun G σ H Q w er q => q _ G C H _ (Fr.refl ..) w (.bl b) h
theorem we_non {j} (h : k .non C) : WE X (.Constant .none j pos) env C k := .of pe_non fun G σ H Q w er q => q _ G C H _ (Fr.refl ..) w .non h
theorem we_str {x j} (h : k (.str x) C) : WE X (.Constant (.str x) j pos) env C k := .of pe_str fun G σ H Q w er q => q _ G C H _ (Fr.refl ..) w (.str x) h
/-- a constant of the module -/
def MgD (X : Cx) (x : Str) (d : D) : Prop := ∃ u v, X.mg x = some u ∧ RelV v u ∧ ∀ G, Dat X.K G v d
theorem we_glob {x : Str} {d : D} (hm : MgD X x d) (hg : Gl X x) (h : k d C) (hd : (x == ("__debug__" : Str)) = false := by decide) : WE X (.Name x pos) env C k := by
  obtain ⟨u, v, h1, h2, h3⟩ := hm
  exact .of (pe_glob hg h1 h2 hd) fun G σ H Q w er q => q _ G C H _ (Fr.refl ..) w (h3 G) h
/-- the name of a built-in class -/
theorem we_bty {x : Str} {T : String} (hm : X.mg x = none) (hg : Gl X x) (hv : bootBuiltins x = some (.type T)) (h : k (.opq (.ty T)) C) (hn : x ≠ "__name__" := by decide) (hd : (x == ("__debug__" : Str)) = false := by decide) : WE X (.Name x pos) env C k :=
  .of (pe_bltn hg hm hv (v := .ty T) rfl hn hd) fun G σ H Q w er q => q _ G C H _ (Fr.refl ..) w (.opq _) h

theorem we_op {op : Operator} {r : R2} {p : OpD} (ho : OpR X (binaryOp op) r) (hr : R2D X.K r p) (h : WE X a env C fun x C1 => WE X b env C1 fun y C2 => p x y C2 k) : WE X (.BinOp a op b pos) env C k := .of (pe_op ho pe_tS pe_tS) (ev_op hr h)
theorem we_un {op : UnaryOp} {r : V → Hp → VK → Prop} {p : D → CS → KD → Prop} (ho : UnR X (unaryOp op) r) (hr : R1D X.K r p) (h : WE X a env C fun x C1 => p x C1 k) : WE X (.UnaryOp op a pos) env C k := .of (pe_un ho pe_tS) (ev_un hr h)
theorem we_cmp {op : CmpOp} {r : R2} {p : OpD} (ho : OpR X (compareOp op) r) (hr : R2D X.K r p) (h : WE X a env C fun x C1 => WE X b env C1 fun y C2 => p x y C2 k) (hm : behindInMarks op b = false) : WE X (.Compare a [op] [b] pos) env C k := .of (pe_cmpR ho pe_tS pe_tS hm) (ev_op hr h)
theorem wt_cmp {op : CmpOp} {r : R2} {p : OpD} (ho : OpR X (compareOp op) r) (hr : R2D X.K r p) (h : WE X a env C fun x C1 => WE X b env C1 fun y C2 => p x y C2 fun d C3 => ∃ t, d = .bl t ∧ kb t C3) (hm : behindInMarks op b = false) : WT X (.Compare a [op] [b] pos) env C kb := .of (pt_cmpR ho pe_tS pe_tS hm) (eb_test (ev_op hr h))
theorem wt_val (h : WE X e env C fun d C1 => ∃ t, d = .bl t ∧ kb t C1) (he : ∀ whole, isTrue e X.env whole = (do let v ← whole; standAt e.pos; holding [v] (truthy v)) := by intro _; rfl) : WT X e env C kb := .of (pt_val pe_tS he) (eb_B h)
theorem wt_not (h : WT X a env C fun t C1 => kb (!t) C1) : WT X (.UnaryOp .Not a pos) env C kb := .of (pt_not pt_tT) (eb_not h)
theorem wt_ww (h : WW X e env C kb) : WT X e env C kb := .of (PW.pt pw_tW) h
theorem ww_and1 (h : WT X a env C kb) : WW X (.BoolOp .And [a] pos) env C kb := .of (pw_and1 pt_tT) h
theorem ww_or1 (h : WT X a env C kb) : WW X (.BoolOp .Or [a] pos) env C kb := .of (pw_or1 pt_tT) h
theorem ww_and {rest : List Expr} (h : WT X a env C fun t C1 => (t = true → WW X (.BoolOp .And (b :: rest) pos) env C1 kb) ∧ (t = false → kb false C1)) : WW X (.BoolOp .And (a :: b :: rest) pos) env C kb := .of (pw_and pt_tT pw_tW) (eb_and2 h)
theorem ww_or {rest : List Expr} (h : WT X a env C fun t C1 => (t = true → kb true C1) ∧ (t = false → WW X (.BoolOp .Or (b :: rest) pos) env C1 kb)) : WW X (.BoolOp .Or (a :: b :: rest) pos) env C kb := .of (pw_or pt_tT pw_tW) (eb_or2 h)
theorem we_one {op} (h : WE X a env C k) : WE X (.BoolOp op [a] pos) env C k := .of (pe_one pe_tS) h
theorem we_and {rest : List Expr} (h : WE X a env C fun x C1 => ∃ t, x = .bl t ∧ (t = true → WE X (.BoolOp .And (b :: rest) pos) env C1 k) ∧ (t = false → k (.bl false) C1)) : WE X (.BoolOp .And (a :: b :: rest) pos) env C k := .of (pe_and pe_tS pe_tS) (ev_andV h)
theorem we_or {rest : List Expr} (h : WE X a env C fun x C1 => ∃ t, x = .bl t ∧ (t = true → k (.bl true) C1) ∧ (t = false → WE X (.BoolOp .Or (b :: rest) pos) env C1 k)) : WE X (.BoolOp .Or (a :: b :: rest) pos) env C k := .of (pe_or pe_tS pe_tS) (ev_orV h)
theorem we_not (h : WE X a env C fun x C1 => ∃ t, x = .bl t ∧ k (.bl (!t)) C1) : WE X (.UnaryOp .Not a pos) env C k := .of (pe_not pe_tS) (ev_notV h)
theorem we_if {c : Expr} (h : WT X c env C fun t C1 => (t = true → WE X a env C1 k) ∧ (t = false → WE X b env C1 k)) : WE X (.IfExp c a b pos) env C k := .of (pe_ifExp pt_tT pe_tS pe_tS) (ev_if h)
theorem wa_nil (h : ka [] C) : WA X [] env C ka := .of pa_nil (ea_nil h)
theorem we_tup {x1} (h : WA X es env C fun ds C1 => ds.length ≤ sizeLine ∧ k (.tup ds) C1) : WE X (.Tuple es x1 pos) env C k := .of (pe_tup pa_tAr) (ev_tup h)
theorem we_lst (h : WA X es env C fun ds C1 => ds.length ≤ sizeLine ∧ ∀ p, C1 p = none → k (.own p) (put C1 p (.lst ds))) : WE X (.List es pos) env C k := .of (pe_lst pa_tAr) (ev_lst h)
theorem we_lstF (h : WA X es env C fun ds C1 => ds.length ≤ sizeLine ∧ k (.lst ds) C1) : WE X (.List es pos) env C k := .of (pe_lst pa_tAr) (ev_lstF h)
theorem we_frz (h : WE X e env C fun d C1 => ∃ ds, seqL C1 d = some ds ∧ ((∃ a, d = .own a ∧ k (.lst ds) (del C1 a)) ∨ (d = .lst ds ∧ k (.lst ds) C1))) : WE X e env C k := ev_frz h
end
end DL
/-! DLd: operators, subscripts, built-in calls and methods by data; statements; loops; calls of defs. -/
namespace DL
open PySem PySem.Spec PyProof.Rows L2

section
variable {K : PySem.W.Frag}
/-! ### operators -/
def dI2 (f : Int → Int → Int) (P : Int → Int → Prop) : OpD := fun x y C k => ∃ i j, x = .int i ∧ y = .int j ∧ P i j ∧ k (.int (f i j)) C
theorem r2_I {f : Int → Int → Int} {P : Int → Int → Prop} : R2D K (rI P fun i j => .int (f i j)) (dI2 f P) := by
  rintro x y a b G C H k Q w da db ⟨i, j, rfl, rfl, hp, hk⟩ q
  cases da; cases db
  exact ⟨i, j, rfl, rfl, hp, q _ _ _ _ _ (Fr.refl ..) w (.int _) hk⟩
theorem r2_I0 {f : Int → Int → Int} : R2D K (rI0 fun i j => .int (f i j)) (dI2 f fun _ _ => True) := by
  rintro x y a b G C H k Q w da db ⟨i, j, rfl, rfl, hp, hk⟩ q
  cases da; cases db
  exact ⟨i, j, rfl, rfl, q _ _ _ _ _ (Fr.refl ..) w (.int _) hk⟩
def dB2 (f : Int → Int → Bool) : OpD := fun x y C k => ∃ i j, x = .int i ∧ y = .int j ∧ k (.bl (f i j)) C
theorem r2_B {f : Int → Int → Bool} : R2D K (rI0 fun i j => .bl (f i j)) (dB2 f) := by
  rintro x y a b G C H k Q w da db ⟨i, j, rfl, rfl, hk⟩ q
  cases da; cases db
  exact ⟨i, j, rfl, rfl, q _ _ _ _ _ (Fr.refl ..) w (.bl _) hk⟩
/-- + of ints, texts, tuples, lists -/
def dAdd : OpD := fun x y C k => match x, y with
  | .int i, .int j => k (.int (i + j)) C
  | .str a, .str b => a.length + b.length ≤ sizeLine ∧ k (.str (a ++ b)) C
  | .tup xs, .tup ys => xs.length + ys.length ≤ sizeLine ∧ k (.tup (xs ++ ys)) C
  | x, y => ∃ xs ys, seqL C x = some xs ∧ seqL C y = some ys ∧ xs.length + ys.length ≤ sizeLine ∧ ∀ p, C p = none → k (.own p) (put C p (.lst (xs ++ ys)))
def rAddA (K : PySem.W.Frag) : R2 := fun x y H Q => (∃ i j, x = .int i ∧ y = .int j ∧ Q (.int (i + j)) H) ∨ (∃ i j, x = .str i ∧ y = .str j ∧ i.length + j.length ≤ sizeLine ∧ Q (.str (i ++ j)) H) ∨ rCatA K x y H Q ∨ rCat x y H Q
theorem op_addA {X : Cx} : OpR X (binaryOp .Add) (rAddA X.K) := OpR.or op_add (OpR.or op_add_str (OpR.or op_catA op_cat))
theorem seqL_ints {C : CS} {x : D} {xs : List D} (h : seqL C x = some xs) : (∀ i, x ≠ .int i) ∧ (∀ s, x ≠ .str s) ∧ ∀ ts, x ≠ .tup ts := by
  refine ⟨fun i e => ?_, fun i e => ?_, fun i e => ?_⟩ <;> (subst e; simp [seqL] at h)
theorem catL {x y : V} {a b : D} {xs ys : List D} {G : Hp} {C : CS} {H : Hp} {k : KD} {Q : VK} (w : Wld K G C H) (da : Dat K G x a) (db : Dat K G y b) (e1 : seqL C a = some xs) (e2 : seqL C b = some ys) (hl : xs.length + ys.length ≤ sizeLine)
    (hk : ∀ p, C p = none → k (.own p) (put C p (.lst (xs ++ ys)))) (q : Kont K G C H k Q) : rCat x y H Q := by
  obtain ⟨l, vs, rfl, h1, r1⟩ := w.lst da e1
  obtain ⟨m, us, rfl, h2, r2⟩ := w.lst db e2
  refine ⟨l, m, vs, us, rfl, rfl, h1, h2, by rw [r1.length, r2.length]; exact hl, fun p hp => ?_⟩
  obtain ⟨w2, f2⟩ := w.newC hp (o := .lst (vs ++ us)) (c := .lst (xs ++ ys)) fun H' e => ⟨_, e, r1.append r2⟩
  exact q _ _ _ _ _ f2 w2 (.own p) (hk p (w.ne hp).2)
theorem r2_add : R2D K (rAddA K) dAdd := by
  intro x y a b G C H k Q w da db h q
  unfold dAdd at h
  split at h
  · cases da; cases db
    exact .inl ⟨_, _, rfl, rfl, q _ _ _ _ _ (Fr.refl ..) w (.int _) h⟩
  · cases da; cases db
    exact .inr (.inl ⟨_, _, rfl, rfl, h.1, q _ _ _ _ _ (Fr.refl ..) w (.str _) h.2⟩)
  · rename_i xs ys
    obtain ⟨l, vs, rfl, h1, r1⟩ := w.tup da
    obtain ⟨m, us, rfl, h2, r2⟩ := w.tup db
    refine .inr (.inr (.inl ⟨l, m, vs, us, rfl, rfl, h1, h2, by rw [r1.length, r2.length]; exact h.1, fun e => ?_, fun _ e => ?_, fun _ _ p hp => ?_⟩))
    · subst e; cases xs with
      | nil => exact q _ _ _ _ _ (Fr.refl ..) w db h.2
      | cons _ _ => cases r1
    · subst e; cases ys with
      | nil => exact q _ _ _ _ _ (Fr.refl ..) w da (by simpa using h.2)
      | cons _ _ => cases r2
    · obtain ⟨w2, f2, s2⟩ := w.newG hp (.tup (vs ++ us))
      exact q _ _ _ _ _ f2 w2 (.tup (SqT.of upd_same) ((r1.append r2).mono s2)) h.2
  · obtain ⟨xs, ys, e1, e2, hl, hk⟩ := h
    exact .inr (.inr (.inr (catL w da db e1 e2 hl hk q)))
theorem add_lst {x y : D} {C : CS} {k : KD} {xs ys : List D} (e1 : seqL C x = some xs) (e2 : seqL C y = some ys) (hl : xs.length + ys.length ≤ sizeLine) (h : ∀ p, C p = none → k (.own p) (put C p (.lst (xs ++ ys)))) : dAdd x y C k := by
  obtain ⟨n1, n2, n3⟩ := seqL_ints e1
  unfold dAdd
  split
  · exact absurd rfl (n1 _)
  · exact absurd rfl (n2 _)
  · exact absurd rfl (n3 _)
  · exact ⟨xs, ys, e1, e2, hl, h⟩
/-- * of ints; a list by an int -/
def dMul : OpD := fun x y C k => match x, y with
  | .int i, .int j => CMul i j ∧ k (.int (i * j)) C
  | x, .int n => ∃ xs, seqL C x = some xs ∧ -(2 ^ 63) ≤ n ∧ n < 2 ^ 63 ∧ xs.length * n.toNat ≤ sizeLine ∧ ∀ p, C p = none → k (.own p) (put C p (.lst (List.replicate n.toNat xs).flatten))
  | _, _ => False
theorem datAll_rep {G : Hp} {vs : List V} {ds : List D} (r : DatAll K G vs ds) : ∀ n : Nat, DatAll K G (List.replicate n vs).flatten (List.replicate n ds).flatten
  | 0 => .nil
  | n + 1 => by
    rw [List.replicate_succ, List.replicate_succ, List.flatten_cons, List.flatten_cons]
    exact r.append (datAll_rep r n)
def rMulA : R2 := fun x y H Q => rI CMul (fun i j => .int (i * j)) x y H Q ∨ rRep x y H Q
theorem op_mulA {X : Cx} : OpR X (binaryOp .Mult) rMulA := OpR.or op_mul op_rep
theorem r2_mul : R2D K rMulA dMul := by
  intro x y a b G C H k Q w da db h q
  unfold dMul at h
  split at h
  · cases da; cases db
    exact .inl ⟨_, _, rfl, rfl, h.1, q _ _ _ _ _ (Fr.refl ..) w (.int _) h.2⟩
  · obtain ⟨xs, e, h1, h2, h3, h4⟩ := h
    obtain ⟨l, vs, rfl, hH, r1⟩ := w.lst da e
    cases db
    refine .inr ⟨l, _, vs, rfl, rfl, hH, h1, h2, by rw [r1.length]; exact h3, fun p hp => ?_⟩
    obtain ⟨w2, f2⟩ := w.newC hp (o := .lst _) (c := .lst _) fun H' e => ⟨_, e, datAll_rep r1 _⟩
    exact q _ _ _ _ _ f2 w2 (.own p) (h4 p (w.ne hp).2)
  · exact h.elim

/-! ### comparisons -/
def dEq0 (neg : Bool) : OpD := fun x y C k => ∃ a b, pyC C x = some a ∧ pyC C y = some b ∧ SeqAt.shaped a = true ∧ SeqAt.shaped b = true ∧ k (.bl (if neg = true then !PyData.eqv a b else PyData.eqv a b)) C
theorem r2_eq0 : R2D K (rEqD K) (dEq0 false) := by
  rintro x y a b G C H k Q w da db ⟨d, e, h1, h2, h3, h4, h5⟩ q
  exact ⟨d, e, w.dp da h1, w.dp db h2, h3, h4, q _ _ _ _ _ (Fr.refl ..) w (.bl _) h5⟩
theorem r2_ne0 : R2D K (rNeD K) (dEq0 true) := by
  rintro x y a b G C H k Q w da db ⟨d, e, h1, h2, h3, h4, h5⟩ q
  exact ⟨d, e, w.dp da h1, w.dp db h2, h3, h4, q _ _ _ _ _ (Fr.refl ..) w (.bl _) h5⟩
/-- .. of texts, whatever their signs -/
def dEqS (neg : Bool) : OpD := fun x y C k => ∃ s t, x = .str s ∧ y = .str t ∧ k (.bl (if neg = true then !(s == t) else s == t)) C
def dEq (neg : Bool) : OpD := fun x y C k => dEq0 neg x y C k ∨ dEqS neg x y C k
theorem dec_st {s t : Str} : decide (V.str s = V.str t) = (s == t) := by
  by_cases h : s = t
  · subst h; simp
  · simp [h]
theorem r2_eq : R2D K (fun x y H Q => rEqD K x y H Q ∨ rEq x y H Q) (dEq false) := by
  rintro x y a b G C H k Q w da db (h | ⟨s, t, rfl, rfl, h⟩) q
  · exact .inl (r2_eq0 x y a b G C H k Q w da db h q)
  · cases da; cases db
    refine .inr ⟨rfl, ?_⟩
    rw [dec_st]
    exact q _ _ _ _ _ (Fr.refl ..) w (.bl _) h
theorem r2_ne : R2D K (fun x y H Q => rNeD K x y H Q ∨ rNe x y H Q) (dEq true) := by
  rintro x y a b G C H k Q w da db (h | ⟨s, t, rfl, rfl, h⟩) q
  · exact .inl (r2_ne0 x y a b G C H k Q w da db h q)
  · cases da; cases db
    refine .inr ⟨rfl, ?_⟩
    rw [dec_st]
    exact q _ _ _ _ _ (Fr.refl ..) w (.bl _) h
/-- is None -/
def dIsN (neg : Bool) : OpD := fun x y C k => y = .non ∧ match x with
  | .opq _ => False
  | .non => k (.bl (!neg)) C
  | _ => k (.bl neg) C
theorem r2_isN : R2D K (fun x y H Q => y = .non ∧ Q (.bl (decide (x = .non))) H) (dIsN false) := by
  rintro x y a b G C H k Q w da db ⟨rfl, h⟩ q
  cases db
  refine ⟨rfl, ?_⟩
  cases da <;> first | exact h.elim | exact q _ _ _ _ _ (Fr.refl ..) w (.bl _) h
theorem r2_notN : R2D K (fun x y H Q => y = .non ∧ Q (.bl (!decide (x = .non))) H) (dIsN true) := by
  rintro x y a b G C H k Q w da db ⟨rfl, h⟩ q
  cases db
  refine ⟨rfl, ?_⟩
  cases da <;> first | exact h.elim | exact q _ _ _ _ _ (Fr.refl ..) w (.bl _) h
/-- in, not in: a list of data; one sign in a text -/
def dInL (neg : Bool) : OpD := fun x y C k => ∃ a ds, pyC C x = some a ∧ pyC C y = some (.list ds) ∧ SeqAt.shaped a = true ∧ SeqAt.shaped (.list ds) = true ∧ k (.bl (if neg = true then !ds.any fun z => PyData.eqv z a else ds.any fun z => PyData.eqv z a)) C
theorem r2_inL : R2D K (rInD K) (dInL false) := by
  rintro x y a b G C H k Q w da db ⟨d, e, h1, h2, h3, h4, h5⟩ q
  exact ⟨d, e, w.dp da h1, w.dp db h2, h3, h4, q _ _ _ _ _ (Fr.refl ..) w (.bl _) h5⟩
theorem r2_ninL : R2D K (rNotInD K) (dInL true) := by
  rintro x y a b G C H k Q w da db ⟨d, e, h1, h2, h3, h4, h5⟩ q
  exact ⟨d, e, w.dp da h1, w.dp db h2, h3, h4, q _ _ _ _ _ (Fr.refl ..) w (.bl _) h5⟩
def dInS (neg : Bool) : OpD := fun x y C k => ∃ (c : Nat) (z : Str), x = .str ⟨#[c]⟩ ∧ y = .str z ∧ k (.bl (if neg = true then !decide (c ∈ z.cps.toList) else decide (c ∈ z.cps.toList))) C
theorem r2_inS : R2D K (fun x y H Q => ∃ (c : Nat) (z : Str), x = .str ⟨#[c]⟩ ∧ y = .str z ∧ Q (.bl (decide (c ∈ z.cps.toList))) H) (dInS false) := by
  rintro x y a b G C H k Q w da db ⟨c, z, rfl, rfl, h⟩ q
  cases da; cases db
  exact ⟨c, z, rfl, rfl, q _ _ _ _ _ (Fr.refl ..) w (.bl _) h⟩
theorem r2_ninS : R2D K (fun x y H Q => ∃ (c : Nat) (z : Str), x = .str ⟨#[c]⟩ ∧ y = .str z ∧ Q (.bl (!decide (c ∈ z.cps.toList))) H) (dInS true) := by
  rintro x y a b G C H k Q w da db ⟨c, z, rfl, rfl, h⟩ q
  cases da; cases db
  exact ⟨c, z, rfl, rfl, q _ _ _ _ _ (Fr.refl ..) w (.bl _) h⟩

/-! ### subscripts -/
def dIx : OpD := fun x y C k => match x, y with
  | .tup xs, .int i => ∃ d, atI xs i = some d ∧ k d C
  | .str z, .int i => z.length ≤ sizeLine ∧ ∃ c, atI z.cps.toList i = some c ∧ k (.str ⟨#[c]⟩) C
  | x, .int i => ∃ xs d, seqR C x = some xs ∧ atI xs i = some d ∧ k d C
  | _, _ => False
theorem datAll_at {G : Hp} {vs : List V} {ds : List D} {i : Int} {d : D} (r : DatAll K G vs ds) (h : atI ds i = some d) : ∃ v, atI vs i = some v ∧ Dat K G v d := by
  unfold atI at h ⊢
  rw [r.length]
  cases q : ixN ds.length i with
  | none => rw [q] at h; cases h
  | some j =>
    rw [q] at h
    exact r.get (show ds[j]? = some d from h)
theorem r2_ix : R2D K (rIx K) dIx := by
  intro x y a b G C H k Q w da db h q
  unfold dIx at h
  split at h
  · obtain ⟨d, h1, h2⟩ := h
    obtain ⟨l, vs, rfl, h3, r1⟩ := w.tup da
    cases db
    obtain ⟨v, h4, h5⟩ := datAll_at r1 h1
    exact .inr (.inl ⟨l, vs, _, v, rfl, rfl, h3, h4, q _ _ _ _ _ (Fr.refl ..) w h5 h2⟩)
  · obtain ⟨hz, c, h1, h2⟩ := h
    cases da; cases db
    exact .inr (.inr ⟨_, _, c, rfl, rfl, hz, h1, q _ _ _ _ _ (Fr.refl ..) w (.str _) h2⟩)
  · obtain ⟨xs, d, e, h1, h2⟩ := h
    obtain ⟨l, vs, rfl, h3, r1⟩ := w.seq da e
    cases db
    obtain ⟨v, h4, h5⟩ := datAll_at r1 h1
    exact .inl ⟨l, vs, _, v, rfl, rfl, h3, h4, q _ _ _ _ _ (Fr.refl ..) w h5 h2⟩
  · exact h.elim
theorem ix_lst {x : D} {i : Int} {C : CS} {k : KD} {xs : List D} {d : D} (e : seqR C x = some xs) (h : atI xs i = some d) (hk : k d C) : dIx x (.int i) C k := by
  cases x <;> first | exact ⟨xs, d, e, h, hk⟩ | (simp [seqR] at e)

def cutD (xs : List D) (lo hi : Option Int) : List D := (xs.drop (HT.sIx xs.length 0 lo)).take (HT.sIx xs.length xs.length hi - HT.sIx xs.length 0 lo)
theorem cut_datAll {G : Hp} {vs : List V} {ds : List D} (r : DatAll K G vs ds) (lo hi : Option Int) : DatAll K G (cutV vs lo hi) (cutD ds lo hi) := by
  unfold cutV cutD
  rw [r.length]
  exact (r.drop _).take _
def dSl (x : D) (lo hi : Option Int) (C : CS) (k : KD) : Prop := match x with
  | .tup xs => k (.tup (cutD xs lo hi)) C
  | .str z => z.length ≤ sizeLine ∧ k (.str (cutS z lo hi)) C
  | x => ∃ xs, seqR C x = some xs ∧ ∀ p, C p = none → k (.own p) (put C p (.lst (cutD xs lo hi)))
def rSlAll (K : PySem.W.Frag) : V → Option Int → Option Int → Hp → VK → Prop := fun x lo hi H Q => rSlL K x lo hi H Q ∨ (rSlS x lo hi H Q ∨ rSlA K x lo hi H Q)
theorem sl_all {X : Cx} : SlR X (rSlAll X.K) := SlR.or sl_list (SlR.or sl_str sl_tupA)
theorem sl_ok {x : V} {a : D} {lo hi : Option Int} {G : Hp} {C : CS} {H : Hp} {k : KD} {Q : VK} (w : Wld K G C H) (da : Dat K G x a) (h : dSl a lo hi C k) (q : Kont K G C H k Q) : rSlAll K x lo hi H Q := by
  unfold dSl at h
  split at h
  · rename_i xs
    obtain ⟨l, vs, rfl, h3, r1⟩ := w.tup da
    refine .inr (.inr ⟨l, vs, rfl, h3, fun e => ?_, fun _ p hp => ?_⟩)
    · rw [r1.length] at e
      have : cutD xs lo hi = xs := by
        unfold cutD
        rw [e.1, e.2]
        simp
      rw [this] at h
      exact q _ _ _ _ _ (Fr.refl ..) w da h
    · obtain ⟨w2, f2, s2⟩ := w.newG hp (.tup (cutV vs lo hi))
      exact q _ _ _ _ _ f2 w2 (.tup (SqT.of upd_same) ((cut_datAll r1 lo hi).mono s2)) h
  · cases da
    exact .inr (.inl ⟨_, rfl, h.1, q _ _ _ _ _ (Fr.refl ..) w (.str _) h.2⟩)
  · obtain ⟨xs, e, h⟩ := h
    obtain ⟨l, vs, rfl, h3, r1⟩ := w.seq da e
    refine .inl ⟨l, vs, rfl, h3, fun p hp => ?_⟩
    obtain ⟨w2, f2⟩ := w.newC hp (o := .lst (cutV vs lo hi)) (c := .lst (cutD xs lo hi)) fun H' e => ⟨_, e, cut_datAll r1 lo hi⟩
    exact q _ _ _ _ _ f2 w2 (.own p) (h p (w.ne hp).2)
end
section
variable {X : Cx} {e a b : Expr} {es : List Expr} {env : DEnv} {C : CS} {k : KD} {kb : Bool → CS → Prop} {ka : List D → CS → Prop} {pos : Pos}
theorem we_ix (h : WE X a env C fun x C1 => WE X b env C1 fun y C2 => dIx x y C2 k) (hs : PlainIx b := by intro _ _; rfl) : WE X (.Subscript a b pos) env C k := .of (pe_ix ix_seq pe_tS pe_tS hs) (ev_op r2_ix h)
/-- a part of a slice -/
def WO (X : Cx) (e : Option Expr) (env : DEnv) (C : CS) (k : Option Int → CS → Prop) : Prop := match e with
  | none => k none C
  | some e => WE X e env C fun d C1 => ∃ i, d = .int i ∧ k (some i) C1
def tO (X : Cx) (e : Option Expr) : TO := match e with
  | none => tNoPart
  | some e => tPart (tS X e)
theorem po_tO {o : Option Expr} : PO X o (tO X o) := by
  cases o with
  | none => exact po_none
  | some e => exact po_some pe_tS
theorem wo_use {o : Option Expr} {ko : Option Int → CS → Prop} (h : WO X o env C ko) {G : Hp} {σ : L2.St} {H : Hp} {Q : Option Int → Hp → Prop} (w : Wld X.K G C H) (er : EnvR X.K G env σ) (q : ∀ i G' C' H', Fr G C H G' C' H' → Wld X.K G' C' H' → ko i C' → Q i H') : tO X o σ H Q := by
  cases o with
  | none => exact q none G C H (Fr.refl ..) w h
  | some e =>
    refine h G σ H _ w er fun v G' C' H' d f w' r z => ?_
    obtain ⟨i, rfl, z⟩ := z
    cases r
    exact ⟨i, rfl, q _ _ _ _ f w' z⟩
theorem we_slice {lo hi : Option Expr} {p2 : Pos} (h : WE X a env C fun x C1 => WO X lo env C1 fun l C2 => WO X hi env C2 fun u C3 => dSl x l u C3 k) : WE X (.Subscript a (.Slice lo hi none p2) pos) env C k :=
  .of (pe_slice sl_all pe_tS po_tO po_tO) fun G σ H Q w er q => h G σ H _ w er fun v G1 C1 H1 x f1 w1 d1 h1 =>
    wo_use h1 w1 (er.mono f1.exG) fun l G2 C2 H2 f2 w2 h2 => wo_use h2 w2 (er.mono (f1.trans f2).exG) fun u G3 C3 H3 f3 w3 h3 =>
      sl_ok w3 (d1.mono (f2.trans f3).exG) h3 (q.after ((f1.trans f2).trans f3))
theorem wa_cons (h : WE X e env C fun x C1 => WA X es env C1 fun ds C2 => ka (x :: ds) C2) (hs : starEach (e :: es) X.env = (false, eval e X.env) :: starEach es X.env := by rfl) : WA X (e :: es) env C ka := .of (pa_cons pe_tS pa_tAr hs) (ea_cons h)

/-! ### built-in calls -/
theorem we_cb {x : Str} {id : String} {p0 : Pos} {r : List V → Hp → VK → Prop} {p : List D → CS → KD → Prop} (hm : X.mg x = none) (hc : CallR X (.builtin id) r) (hr : RLD X.K r p) (hg : Gl X x) (hv : bootBuiltins x = some (.builtin id)) (h : WA X (e :: es) env C fun ds C1 => p ds C1 k)
    (hn : x ≠ "__name__" := by decide) (hdb : (x == ("__debug__" : Str)) = false := by decide)
    (he : starEach (e :: es) X.env = (false, eval e X.env) :: starEach es X.env := by rfl) (hpl : (backTo pos (starEach es X.env)).any (·.1) = false := by rfl) : WE X (.Call (.Name x p0) (e :: es) [] pos) env C k :=
  .of (pe_callB hc hg hm hv pa_tAr hn hdb he hpl) (ev_cb hr h)
theorem we_ct {x : Str} {T : String} {p0 : Pos} {r : List V → Hp → VK → Prop} {p : List D → CS → KD → Prop} (hm : X.mg x = none) (hc : CallR X (.type T) r) (hr : RLD X.K r p) (hg : Gl X x) (hv : bootBuiltins x = some (.type T)) (h : WA X (e :: es) env C fun ds C1 => p ds C1 k)
    (hn : x ≠ "__name__" := by decide) (hdb : (x == ("__debug__" : Str)) = false := by decide)
    (he : starEach (e :: es) X.env = (false, eval e X.env) :: starEach es X.env := by rfl) (hpl : (backTo pos (starEach es X.env)).any (·.1) = false := by rfl) : WE X (.Call (.Name x p0) (e :: es) [] pos) env C k :=
  .of (pe_callTy hc hg hm hv pa_tAr hn hdb he hpl) (ev_cb hr h)
end
end DL
/-! DLe: statements, loops, comprehensions, calls of defs. -/
namespace DL
open PySem PySem.Spec PyProof.Rows L2

section
variable {X : Cx} {e a b : Expr} {es : List Expr} {st : Stmt} {sts rest : List Stmt} {env : DEnv} {C : CS} {k : KD} {kb : Bool → CS → Prop} {ka : List D → CS → Prop} {pos : Pos} {E : DEnds}

/-! ### statements -/
theorem wss_nil (h : E.nx env C) : WSs X [] env C E := .of pss_nil fun G σ H D w er q => q.nx G C H σ env (Fr.refl ..) w er h
theorem wss_cons (h : WS X st env C { E with nx := fun env' C' => WSs X rest env' C' E }) : WSs X (st :: rest) env C E :=
  .of (pss_cons ps_tX pss_tXs) fun G σ H D w er q => h G σ H { D with nx := tXs X rest D } w er
    ⟨fun G1 C1 H1 σ1 env1 f1 w1 er1 h1 => h1 G1 σ1 H1 D w1 er1 (q.after f1), q.rt, q.bk, q.ct⟩
theorem ws_pass (h : E.nx env C) : WS X (.Pass pos) env C E := .of ps_pass fun G σ H D w er q => q.nx G C H σ env (Fr.refl ..) w er h
theorem ws_break (h : E.bk env C) : WS X (.Break pos) env C E := .of ps_break fun G σ H D w er q => q.bk G C H σ env (Fr.refl ..) w er h
theorem ws_continue (h : E.ct env C) : WS X (.Continue pos) env C E := .of ps_continue fun G σ H D w er q => q.ct G C H σ env (Fr.refl ..) w er h
theorem ws_expr (h : WE X e env C fun _ C1 => E.nx env C1) (hs : swapsWith e none pos.line X.env = pure false := by rfl) : WS X (.Expr e pos) env C E :=
  .of (ps_expr pe_tS hs) fun G σ H D w er q => h G σ H _ w er fun v G1 C1 H1 d f1 w1 r1 z => q.nx G1 C1 H1 σ env f1 w1 (er.mono f1.exG) z
theorem ws_ret (h : WE X e env C E.rt) : WS X (.Return (some e) pos) env C E := .of (ps_ret pe_tS) fun G σ H D w er q => h G σ H _ w er q.rt
theorem ws_retN (h : E.rt .non C) : WS X (.Return none pos) env C E := .of ps_retN fun G σ H D w er q => q.rt .non G C H .non (Fr.refl ..) w .non h
theorem ws_if {c : Expr} {s1 s2 : List Stmt} (h : WT X c env C fun t C1 => (t = true → WSs X s1 env C1 E) ∧ (t = false → WSs X s2 env C1 E)) : WS X (.If c s1 s2 pos) env C E :=
  .of (ps_if pt_tT pss_tXs pss_tXs) fun G σ H D w er q => h G σ H _ w er fun b G1 C1 H1 f1 w1 hb => by
    cases b with
    | true => exact iteT (hb.1 rfl G1 σ H1 D w1 (er.mono f1.exG) (q.after f1))
    | false => exact iteF (hb.2 rfl G1 σ H1 D w1 (er.mono f1.exG) (q.after f1))
/-! ### targets -/
def EvG (K : PySem.W.Frag) (g : TG) (d : D) (env : DEnv) (C : CS) (k : DEnv → CS → Prop) : Prop := ∀ G σ H v Q, Wld K G C H → EnvR K G env σ → Dat K G v d → KontE K G C H k Q → g v σ H Q
def tGt (X : Cx) (target : Expr) : TG := fun v σ H Q => ∀ pins s u, Inv X pins σ H s → RelV v u → wpAny (model X.prog X.w) X.A (assign target X.env u) (fun _ s' => ∃ σ' H', Inv X pins σ' H' s' ∧ Q σ' H') X.xe s
theorem pg_tGt {tg : Expr} : PG X tg (tGt X tg) := ⟨fun pins s σ H v u Q I r h => h pins s u I r⟩
def tGts (X : Cx) (ts : List Expr) : TGs := fun vs σ H Q => ∀ pins s us, Inv X pins σ H s → Vals vs us → wpAny (model X.prog X.w) X.A (assignInOrder ((assignEach ts X.env).map (·.2)) us) (fun _ s' => ∃ σ' H', Inv X pins σ' H' s' ∧ Q σ' H') X.xe s
theorem pgs_tGts {ts : List Expr} : PGs X ts (tGts X ts) := ⟨fun pins s σ H vs us Q I r h => h pins s us I r⟩
def WG (X : Cx) (tg : Expr) (d : D) (env : DEnv) (C : CS) (k : DEnv → CS → Prop) : Prop := EvG X.K (tGt X tg) d env C k
def WGs (X : Cx) (ts : List Expr) (ds : List D) (env : DEnv) (C : CS) (k : DEnv → CS → Prop) : Prop := ∀ G σ H vs Q, Wld X.K G C H → EnvR X.K G env σ → DatAll X.K G vs ds → KontE X.K G C H k Q → tGts X ts vs σ H Q
theorem WG.of {tg : Expr} {g : TG} {d : D} {kE : DEnv → CS → Prop} (h : PG X tg g) (hv : EvG X.K g d env C kE) : WG X tg d env C kE := fun G σ H v Q w er r q pins s u I ru => h.run pins s σ H v u Q I ru (hv G σ H v Q w er r q)
theorem wg_name {i : Nat} {x : Str} {d : D} {kE : DEnv → CS → Prop} (hN : X.N.Nodup) (hi : X.N[i]? = some x) (hx : Loc X.env.scope x) (h : kE (env.set i (some d)) C) (hf : X.fn x = true ∨ X.env.scope.names.lookup x = some .local := by first | exact .inl rfl | exact .inr rfl | assumption) : WG X (.Name x pos) d env C kE :=
  .of (pg_name hN hi hx hf) fun G σ H v Q w er r q => q G C H _ _ (Fr.refl ..) w (er.set i r) h
theorem wgs_nil {kE : DEnv → CS → Prop} (h : kE env C) : WGs X [] [] env C kE := fun G σ H vs Q w er r q pins s us I ru => by
  cases r; cases ru
  exact (pgs_nil (X := X)).run pins s σ H [] [] Q I .nil ⟨rfl, q G C H σ env (Fr.refl ..) w er h⟩
theorem wgs_cons {t : Expr} {ts : List Expr} {d : D} {ds : List D} {kE : DEnv → CS → Prop} (h : WG X t d env C fun env1 C1 => WGs X ts ds env1 C1 kE) (hs : (assignEach (t :: ts) X.env).map (·.2) = assign t X.env :: (assignEach ts X.env).map (·.2) := by rfl) : WGs X (t :: ts) (d :: ds) env C kE := fun G σ H vs Q w er r q pins s us I ru => by
  cases r with
  | @cons v vr _ _ r1 r2 =>
    refine (pgs_cons (X := X) pg_tGt pgs_tGts hs).run pins s σ H (v :: vr) us Q I ru ⟨v, vr, rfl, ?_⟩
    exact h G σ H v _ w er r1 fun G1 C1 H1 σ1 env1 f1 w1 er1 h1 => h1 G1 σ1 H1 vr Q w1 er1 (r2.mono f1.exG) (q.after f1)
theorem wg_tup {ts : List Expr} {n : Nat} {ds : List D} {kE : DEnv → CS → Prop} (hc : X.calm = true) (hl : ds.length = (assignEach ts X.env).length) (h : WGs X ts ds env C kE) (hst : (assignEach ts X.env).findIdx? (·.1) = none := by rfl) : WG X (.Tuple ts n pos) (.tup ds) env C kE :=
  .of (pg_tup hc pgs_tGts rfl hst) fun G σ H v Q w er r q => by
    cases r with
    | tup h1 h2 => exact ⟨_, _, rfl, Same.sqT w.ex h1, by rw [h2.length]; exact hl, h G σ H _ Q w er h2 q⟩
theorem ws_asg {tg : Expr} (h : WE X e env C fun d C1 => WG X tg d env C1 E.nx) (hs : swapsWithSole [tg] e pos.line X.env = pure false := by rfl) (hw : swappedStores [tg] e X.env = pure none := by rfl)
    (h1 : (assignEach [tg] X.env).map (·.2) = [assign tg X.env] := by rfl) : WS X (.Assign [tg] e pos) env C E :=
  .of (ps_asg pe_tS pg_tGt hs hw h1) fun G σ H D w er q => h G σ H _ w er fun v G1 C1 H1 d f1 w1 r1 z => z G1 σ H1 v _ w1 (er.mono f1.exG) r1 (q.nx.after f1)
/-- name = value -/
theorem ws_set {i : Nat} {x : Str} {pos' : Pos} (hN : X.N.Nodup) (hi : X.N[i]? = some x) (hx : Loc X.env.scope x) (h : WE X e env C fun d C1 => E.nx (env.set i (some d)) C1) (hs : swapsWith e (some (.Name x pos')) pos.line X.env = pure false := by rfl) (hf : X.fn x = true ∨ X.env.scope.names.lookup x = some .local := by first | exact .inl rfl | exact .inr rfl | assumption) :
    WS X (.Assign [.Name x pos'] e pos) env C E :=
  .of (ps_set hN hi hx pe_tS hs hf) fun G σ H D w er q => h G σ H _ w er fun v G1 C1 H1 d f1 w1 r1 z => q.nx G1 C1 H1 _ _ f1 w1 ((er.mono f1.exG).set i r1) z
/-- a, b = x, y: two plain local names -/
theorem ws_par {i j : Nat} {x y : Str} {px py pt : Pos} {kt k2 : Nat} {pt2 : Pos} (hc : X.calm = true) (hN : X.N.Nodup) (hi : X.N[i]? = some x) (hj : X.N[j]? = some y) (hij : i ≠ j)
    (hx : X.env.scope.names.lookup x = some .local) (hy : X.env.scope.names.lookup y = some .local) (h : WA X [a, b] env C fun ds C1 => ∃ u v, ds = [u, v] ∧ E.nx ((env.set i (some u)).set j (some v)) C1)
    (hw : swappedStores [.Tuple [.Name x px, .Name y py] kt pt] (.Tuple [a, b] k2 pt2) X.env = pure (some [x, y]))
    (hs : swapsWithSole [.Tuple [.Name x px, .Name y py] kt pt] (.Tuple [a, b] k2 pt2) pos.line X.env = pure false := by rfl) :
    WS X (.Assign [.Tuple [.Name x px, .Name y py] kt pt] (.Tuple [a, b] k2 pt2) pos) env C E :=
  .of (ps_par hc hN hi hj hij hx hy pa_tAr hw hs) fun G σ H D w er q => h G σ H _ w er fun vs G1 C1 H1 ds f1 w1 r1 z => by
    obtain ⟨u, v, rfl, z⟩ := z
    cases r1 with
    | @cons u' _ _ _ r1 r2 =>
      cases r2 with
      | @cons v' _ _ _ r2 r3 =>
        cases r3
        exact ⟨u', v', rfl, q.nx G1 C1 H1 _ _ f1 w1 (((er.mono f1.exG).set i r1).set j r2) z⟩
/-- name op= value -/
def RID (K : PySem.W.Frag) (r : TIp) (p : OpD) : Prop := R2D K r p
theorem ws_aug {i : Nat} {x : Str} {op : Operator} {ti : TIp} {p : OpD} {d : D} {pos' : Pos} (hN : X.N.Nodup) (hi : X.N[i]? = some x) (hx : Loc X.env.scope x) (ho : PIp X op ti) (hr : RID X.K ti p) (he : env[i]? = some (some d)) (h : WE X e env C fun y C1 => p d y C1 fun z C2 => E.nx (env.set i (some z)) C2)
    (hf : X.fn x = true ∨ X.env.scope.names.lookup x = some .local := by first | exact .inl rfl | exact .inr rfl | assumption) : WS X (.AugAssign (.Name x pos') op e pos) env C E :=
  .of (ps_aug hN hi hx pe_tS ho hf) fun G σ H D w er q => by
    obtain ⟨v, h1, h2⟩ := er.2 i d he
    refine ⟨v, h1, ?_⟩
    exact h G σ H _ w er fun y' G1 C1 H1 y f1 w1 r1 z => hr v y' d y G1 C1 H1 _ _ w1 (h2.mono f1.exG) r1 z fun z' G2 C2 H2 z f2 w2 r2 hz => q.nx G2 C2 H2 _ _ (f1.trans f2) w2 ((er.mono (f1.trans f2).exG).set i r2) hz
/-- o[i] = value, a list -/
theorem set_ok {p : Addr} {xs : List D} {G : Hp} {H : Hp} {n : Int} {j : Nat} {x i v : V} {d : D} {Q : Hp → Prop} {K : PySem.W.Frag} (w : Wld K G C H) (hp : C p = some (.lst xs)) (hx : Dat K G x (.own p)) (hi : Dat K G i (.int n)) (hv : Dat K G v d) (hj : ixN xs.length n = some j)
    (q : ∀ H', Fr G C H G (put C p (.lst (xs.set j d))) H' → Wld K G (put C p (.lst (xs.set j d))) H' → Q H') : rSetL x i v H Q := by
  cases hx; cases hi
  obtain ⟨_, vs, h1, h2⟩ := w.cell p _ hp
  refine ⟨p, vs, n, j, rfl, rfl, h1, by rw [h2.length]; exact hj, ?_⟩
  obtain ⟨w2, f2⟩ := w.write hp (o := .lst (vs.set j v)) (c' := .lst (xs.set j d)) fun H' e => ⟨_, e, h2.set j hv⟩
  exact q _ f2 w2
theorem wg_setL {o i : Expr} {d : D} {kE : DEnv → CS → Prop} (h : WE X o env C fun x C1 => WE X i env C1 fun y C2 => ∃ p n xs j, x = .own p ∧ y = .int n ∧ C2 p = some (.lst xs) ∧ ixN xs.length n = some j ∧ kE env (put C2 p (.lst (xs.set j d))))
    (ha : ∀ v, assign (.Subscript o i pos) X.env v = (do
      let ov ← holding [v] (eval o X.env)
      let iv ← holding [v, ov] (eval i X.env)
      standAt pos
      holding [v, ov, iv] (setItem ov iv v)
      release [v, ov, iv] []) := by intro _; rfl) : WG X (.Subscript o i pos) d env C kE :=
  .of (pg_sub pe_tS pe_tS set_list ha) fun G σ H v Q w er r q => h G σ H _ w er fun x' G1 C1 H1 x f1 w1 r1 h1 => h1 G1 σ H1 _ w1 (er.mono f1.exG) fun y' G2 C2 H2 y f2 w2 r2 h2 => by
    obtain ⟨p, n, xs, j, rfl, rfl, hp, hj, hk⟩ := h2
    exact set_ok w2 hp (r1.mono f2.exG) r2 (r.mono (f1.trans f2).exG) hj fun H' f3 w3 => q _ _ _ _ _ ((f1.trans f2).trans f3) w3 (er.mono (f1.trans f2).exG) hk

/-! ### while -/
end

/-! ### what is walked -/
/-- while Pc holds of the cells, the walk J gives these data -/
def IterD (K : PySem.W.Frag) (J : It) (xs : List D) (Pc : CS → Prop) (G : Hp) : Prop := ∀ G' C' H', Same G G' → Wld K G' C' H' → Pc C' →
  (∀ i d, xs[i]? = some d → J.go i H' ∧ ∀ x H2, J.yld i H' x H2 → ∃ G2, Fr G' C' H' G2 C' H2 ∧ Wld K G2 C' H2 ∧ Dat K G2 x d) ∧ (∀ i, xs.length ≤ i → J.stop i H')
abbrev KI := List D → (CS → Prop) → CS → Prop
def EvI (K : PySem.W.Frag) (wi : TI) (env : DEnv) (C : CS) (kI : KI) : Prop := ∀ G σ H R, Wld K G C H → EnvR K G env σ → (∀ J G' C' H' xs Pc, Fr G C H G' C' H' → Wld K G' C' H' → IterD K J xs Pc G' → kI xs Pc C' → R J H') → wi σ H R
def WI (X : Cx) (tg iter : Expr) (env : DEnv) (C : CS) (kI : KI) : Prop := ∃ wi, PI X tg iter wi ∧ EvI X.K wi env C kI
theorem iterD_list {K : PySem.W.Frag} {G : Hp} {a : Addr} {vs : List V} {ds : List D} (h : SqL K G a vs) (r : DatAll K G vs ds) : IterD K (Itl K a) ds (fun _ => True) G := by
  intro G' C' H' e w _
  have hq : SqL K H' a vs := w.ex.seq (e.seq h)
  refine ⟨fun i d hd => ?_, fun i hi => ⟨vs, hq, by rw [r.length]; exact hi⟩⟩
  obtain ⟨v, h1, h2⟩ := r.get hd
  refine ⟨⟨vs, v, hq, h1⟩, ?_⟩
  rintro x H2 ⟨rfl, hx⟩
  have e1 := hx vs hq
  rw [h1] at e1; cases e1
  exact ⟨G', Fr.refl .., w, h2.mono e⟩
theorem iterD_own {K : PySem.W.Frag} {G : Hp} {a : Addr} {ds : List D} : IterD K (Itl K a) ds (fun C => C a = some (.lst ds)) G := by
  intro G' C' H' e w p
  obtain ⟨_, vs, h1, r⟩ := w.cell a _ p
  have hq : SqL K H' a vs := SqL.of h1
  refine ⟨fun i d hd => ?_, fun i hi => ⟨vs, hq, by rw [r.length]; exact hi⟩⟩
  obtain ⟨v, g1, h2⟩ := r.get hd
  refine ⟨⟨vs, v, hq, g1⟩, ?_⟩
  rintro x H2 ⟨rfl, hx⟩
  have e1 := hx vs hq
  rw [g1] at e1; cases e1
  exact ⟨G', Fr.refl .., w, h2⟩
theorem iterD_tup {K : PySem.W.Frag} {G : Hp} {a : Addr} {vs : List V} {ds : List D} (h : SqT K G a vs) (r : DatAll K G vs ds) : IterD K (Itt K a) ds (fun _ => True) G := by
  intro G' C' H' e w _
  have hq : SqT K H' a vs := Same.sqT w.ex (Same.sqT e h)
  refine ⟨fun i d hd => ?_, fun i hi => ⟨vs, hq, by rw [r.length]; exact hi⟩⟩
  obtain ⟨v, h1, h2⟩ := r.get hd
  refine ⟨⟨vs, v, hq, h1⟩, ?_⟩
  rintro x H2 ⟨rfl, hx⟩
  have e1 := hx vs hq
  rw [h1] at e1; cases e1
  exact ⟨G', Fr.refl .., w, h2.mono e⟩
def intsFrom (lo : Int) (n : Nat) : List D := (List.range n).map fun i => D.int (lo + (i : Nat))
theorem intsFrom_get {lo : Int} {n i : Nat} {d : D} (h : (intsFrom lo n)[i]? = some d) : i < n ∧ d = .int (lo + (i : Nat)) := by
  unfold intsFrom at h
  rw [List.getElem?_map] at h
  by_cases hi : i < n
  · rw [List.getElem?_range hi] at h; exact ⟨hi, (Option.some.inj h).symm⟩
  · rw [List.getElem?_eq_none (by simpa using hi)] at h; cases h
theorem intsFrom_length {lo : Int} {n : Nat} : (intsFrom lo n).length = n := by unfold intsFrom; simp
theorem iterD_rng {K : PySem.W.Frag} {G : Hp} {lo : Int} {n : Nat} : IterD K (Itr lo n) (intsFrom lo n) (fun _ => True) G := by
  intro G' C' H' e w _
  refine ⟨fun i d hd => ?_, fun i hi => by rw [intsFrom_length] at hi; exact hi⟩
  obtain ⟨h1, rfl⟩ := intsFrom_get hd
  refine ⟨h1, ?_⟩
  rintro x H2 ⟨rfl, rfl⟩
  exact ⟨G', Fr.refl .., w, .int _⟩
def signsOf (x : Str) : List D := x.cps.toList.map fun c => D.str ⟨#[c]⟩
theorem iterD_str {K : PySem.W.Frag} {G : Hp} {x : Str} : IterD K (Its x) (signsOf x) (fun _ => True) G := by
  intro G' C' H' e w _
  refine ⟨fun i d hd => ?_, fun i hi => show x.cps.size ≤ i by simpa [signsOf] using hi⟩
  unfold signsOf at hd
  rw [List.getElem?_map] at hd
  cases q : x.cps.toList[i]? with
  | none => rw [q] at hd; cases hd
  | some c =>
    rw [q] at hd
    obtain rfl := Option.some.inj hd
    have hc : x.cps[i]? = some c := by simpa using q
    refine ⟨(Array.getElem?_eq_some_iff.mp hc).1, ?_⟩
    rintro v H2 ⟨rfl, c', h1, rfl⟩
    rw [hc] at h1; cases h1
    exact ⟨G', Fr.refl .., w, .str _⟩
section
variable {X : Cx} {e a b : Expr} {es : List Expr} {tg iter : Expr} {body : List Stmt} {env : DEnv} {C : CS} {k : KD} {pos : Pos} {E : DEnds} {kI : KI}
theorem wi_list (h : WE X e env C fun d C1 => (∃ xs, seqR C1 d = some xs ∧ match d with
    | .own a => kI xs (fun C => C a = some (.lst xs)) C1
    | _ => kI xs (fun _ => True) C1)) : WI X tg e env C kI := by
  refine ⟨_, pi_list pe_tS, fun G σ H R w er q => h G σ H _ w er fun v G1 C1 H1 d f1 w1 r1 z => ?_⟩
  obtain ⟨xs, hs, z⟩ := z
  cases r1 with
  | lst x1 x2 =>
    simp [seqR] at hs; subst hs
    exact ⟨_, rfl, ⟨_, w1.ex.seq (SqL.of x1)⟩, q _ _ _ _ _ _ f1 w1 (iterD_list (SqL.of x1) x2) z⟩
  | slst x1 x2 =>
    simp [seqR] at hs; subst hs
    exact ⟨_, rfl, ⟨_, w1.ex.seq x1⟩, q _ _ _ _ _ _ f1 w1 (iterD_list x1 x2) z⟩
  | own a =>
    have hc := own_seqR hs
    obtain ⟨_, vs, y1, y2⟩ := w1.cell a _ hc
    exact ⟨_, rfl, ⟨_, SqL.of y1⟩, q _ _ _ _ _ _ f1 w1 iterD_own z⟩
  | _ => simp [seqR] at hs
theorem wi_tup (h : WE X e env C fun d C1 => ∃ xs, d = .tup xs ∧ kI xs (fun _ => True) C1) : WI X tg e env C kI := by
  refine ⟨_, pi_tup pe_tS, fun G σ H R w er q => h G σ H _ w er fun v G1 C1 H1 d f1 w1 r1 z => ?_⟩
  obtain ⟨xs, rfl, z⟩ := z
  cases r1 with
  | tup x1 x2 => exact ⟨_, rfl, ⟨_, Same.sqT w1.ex x1⟩, q _ _ _ _ _ _ f1 w1 (iterD_tup x1 x2) z⟩
theorem wi_str (h : WE X e env C fun d C1 => ∃ x, d = .str x ∧ kI (signsOf x) (fun _ => True) C1) : WI X tg e env C kI := by
  refine ⟨_, pi_str pe_tS, fun G σ H R w er q => h G σ H _ w er fun v G1 C1 H1 d f1 w1 r1 z => ?_⟩
  obtain ⟨x, rfl, z⟩ := z
  cases r1
  exact ⟨_, rfl, q _ _ _ _ _ _ f1 w1 iterD_str z⟩
theorem wi_range1 {p : Pos} (hm : X.mg "range" = none) (hg : Gl X "range") (h : WA X [a] env C fun ds C1 => ∃ j : Int, ds = [.int j] ∧ -(2 ^ 62) ≤ j ∧ j < 2 ^ 62 ∧ kI (intsFrom 0 j.toNat) (fun _ => True) C1) (hs : starEach [a] X.env = [(false, eval a X.env)] := by rfl) :
    WI X tg (.Call (.Name "range" p) [a] [] pos) env C kI := by
  refine ⟨_, pi_range1 hg hm pa_tAr hs, fun G σ H R w er q => h G σ H _ w er fun v G1 C1 H1 d f1 w1 r1 z => ?_⟩
  obtain ⟨j, rfl, z1, z2, z⟩ := z
  cases r1 with
  | cons r1 r2 => cases r1; cases r2; exact ⟨j, rfl, z1, z2, q _ _ _ _ _ _ f1 w1 iterD_rng z⟩
/-- for: an invariant over the turn -/
theorem ws_for (hp : PassesOwn (model X.prog X.w) X.A X.env X.xe) (hc : X.calm = true)
    (h : WI X tg iter env C fun xs Pc C1 => ∃ Iv : Nat → DEnv → CS → Prop, Iv 0 env C1 ∧ (∀ i env C, Iv i env C → Pc C) ∧
      (∀ i d env C, xs[i]? = some d → Iv i env C → WG X tg d env C fun env' C' => WSs X body env' C' { nx := Iv (i + 1), rt := E.rt, bk := E.nx, ct := Iv (i + 1) }) ∧ (∀ env C, Iv xs.length env C → E.nx env C))
    (hs : ∀ x, foldedSetIterable iter X.env x = pure x := by intro _; rfl) : WS X (.For tg iter body [] pos) env C E := by
  obtain ⟨wi, hi, h⟩ := h
  refine .of (ps_for hp hc hi pg_tGt pss_tXs hs) fun G σ H D w er q => h G σ H _ w er fun J G1 C1 H1 xs Pc f1 w1 it z => ?_
  obtain ⟨Iv, i0, hP, turn, done⟩ := z
  let Wn : Nat → L2.St → Hp → Prop := fun i σ2 H2 => i ≤ xs.length ∧ ∃ G2 C2 env2, Fr G C H G2 C2 H2 ∧ Same G1 G2 ∧ Wld X.K G2 C2 H2 ∧ EnvR X.K G2 env2 σ2 ∧ Iv i env2 C2
  refine ⟨fun i m σ2 H2 => m = xs.length - i ∧ Wn i σ2 H2, ⟨xs.length, rfl, Nat.zero_le _, G1, C1, env, f1, fun _ _ h => h, w1, er.mono f1.exG, i0⟩, ?_⟩
  rintro i m σ2 H2 ⟨rfl, hi2, G2, C2, env2, f2, s2, w2, er2, i2⟩
  obtain ⟨go, stop⟩ := it G2 C2 H2 s2 w2 (hP _ _ _ i2)
  by_cases hlt : i < xs.length
  · obtain ⟨hgo, hy⟩ := go i xs[i] (by simp [hlt])
    refine .inr ⟨hgo, Wn (i + 1), fun σ' H' h' => ⟨xs.length - (i + 1), by omega, rfl, h'⟩, fun x H3 hx => ?_⟩
    obtain ⟨G3, f3, w3, r3⟩ := hy x H3 hx
    refine turn i xs[i] env2 C2 (by simp [hlt]) i2 G3 σ2 H3 x _ w3 (er2.mono f3.exG) r3 fun G4 C4 H4 σ4 env4 f4 w4 er4 h4 => ?_
    have nx : KontE X.K G4 C4 H4 (Iv (i + 1)) (Wn (i + 1)) := fun G5 C5 H5 σ5 env5 f5 w5 er5 h5 => ⟨hlt, G5, C5, env5, ((f2.trans f3).trans f4).trans f5, ((s2.trans f3.exG).trans f4.exG).trans f5.exG, w5, er5, h5⟩
    exact h4 G4 σ4 H4 _ w4 er4 ⟨nx, q.rt.after ((f2.trans f3).trans f4), q.nx.after ((f2.trans f3).trans f4), nx⟩
  · have e : i = xs.length := by omega
    subst e
    exact .inl ⟨stop _ (Nat.le_refl _), q.nx G2 C2 H2 σ2 env2 f2 w2 er2 (done _ _ i2)⟩
end
end DL
/-! DLf: comprehensions, defs and their calls, built-in calls and methods. -/
namespace DL
open PySem PySem.Spec PyProof.Rows L2

/-! ### comprehensions -/
theorem wipe_get (σ : L2.St) (j : Nat) : ∀ vs : List Nat, (wipe σ vs)[j]? = if j ∈ vs then (if j < σ.length then some none else none) else σ[j]?
  | [] => by simp [wipe]
  | v :: vs => by
    unfold wipe
    by_cases e : v = j
    · subst e
      simp only [List.mem_cons, true_or, if_true]
      by_cases l : v < σ.length
      · rw [List.getElem?_set_self (by rw [wipe_length]; exact l), if_pos l]
      · rw [List.getElem?_eq_none (by rw [List.length_set, wipe_length]; omega), if_neg l]
    · rw [List.getElem?_set_ne e, wipe_get σ j vs]
      have : (j ∈ v :: vs) = (j ∈ vs) := by simp [List.mem_cons, Ne.symm e]
      simp only [this]
theorem wipe_ext {σ σ' : L2.St} {vs : List Nat} (hl : σ'.length = σ.length) (h : ∀ j, j ∉ vs → σ'[j]? = σ[j]?) : wipe σ' vs = wipe σ vs := by
  apply List.ext_getElem?
  intro j
  rw [wipe_get, wipe_get, hl]
  by_cases e : j ∈ vs
  · rw [if_pos e, if_pos e]
  · rw [if_neg e, if_neg e, h j e]
theorem wipe_wipe_set {σ : L2.St} {vs : List Nat} {i : Nat} {x : Option V} (hi : i ∈ vs) : wipe ((wipe σ vs).set i x) vs = wipe σ vs := by
  apply wipe_ext
  · rw [List.length_set, wipe_length]
  · intro j hj
    have : i ≠ j := fun e => hj (e ▸ hi)
    rw [List.getElem?_set_ne this, wipe_get, if_neg hj]
def wipeD (env : DEnv) : List Nat → DEnv
  | [] => env
  | v :: vs => (wipeD env vs).set v none
theorem EnvR.wipe {K : PySem.W.Frag} {G : Hp} {env : DEnv} {σ : L2.St} (h : EnvR K G env σ) : ∀ vs : List Nat, EnvR K G (wipeD env vs) (L2.wipe σ vs)
  | [] => h
  | v :: vs => by
    have ih := EnvR.wipe h vs
    refine ⟨by simp [wipeD, L2.wipe, ih.1], fun i d q => ?_⟩
    unfold wipeD at q
    unfold L2.wipe
    by_cases e : v = i
    · subst e
      by_cases l : v < (wipeD env vs).length
      · rw [List.getElem?_set_self l] at q; cases q
      · rw [List.getElem?_eq_none (by simpa using l)] at q; cases q
    · rw [List.getElem?_set_ne e] at q ⊢
      exact ih.2 i d q

/-- the contexts of a comprehension's block -/
def Blk (X : Cx) (scope : Scope) (X' : Cx) : Prop := ∃ (s : Shared) (H : Hp) (C : Addr) (cl : List (Str × Addr)) (fp : List Addr), X' = X.blk s H scope (compEnvC scope cl C X.env) fp
/-- a target of a comprehension -/
def EvGW (K : PySem.W.Frag) (g : TG) (vs : List Nat) (d : D) (env : DEnv) (C : CS) (kE : DEnv → CS → Prop) : Prop :=
  ∀ G σ H v Q, Wld K G C H → EnvR K G env σ → Dat K G v d → KontE K G C H kE Q → g v (wipe σ vs) H fun σ2 H2 => wipe σ2 vs = wipe σ vs ∧ Q σ2 H2
theorem gw_name {K : PySem.W.Frag} {i : Nat} {vs : List Nat} {d : D} {env : DEnv} {C : CS} {kE : DEnv → CS → Prop} (hi : i ∈ vs) (h : kE ((wipeD env vs).set i (some d)) C) : EvGW K (gName i) vs d env C kE := fun G σ H v Q w er r q =>
  ⟨wipe_wipe_set hi, q G C H _ _ (Fr.refl ..) w ((er.wipe vs).set i r) h⟩
def tPIf (X : Cx) (ifs : List Expr) : TT := fun σ H Q => ∀ pins s, Inv X pins σ H s → wpAny (model X.prog X.w) X.A (forIn ifs true fun c r => if r = true then do let ok ← isTrue c X.env (eval c X.env); pure (ForInStep.yield ok) else pure (ForInStep.yield r)) (TP X pins σ Q) X.xe s
def WIf (X : Cx) (ifs : List Expr) (env : DEnv) (C : CS) (k : Bool → CS → Prop) : Prop := EvB X.K (tPIf X ifs) env C k
theorem wif_nil {X : Cx} {env : DEnv} {C : CS} {k : Bool → CS → Prop} (h : k true C) : WIf X [] env C k := fun G σ H Q w er q pins s I => pts_nil.run pins s σ H Q I (q true G C H (Fr.refl ..) w h)
theorem WIf.imp {X : Cx} {ifs : List Expr} {env : DEnv} {C : CS} {k k' : Bool → CS → Prop} (h : WIf X ifs env C k) (hk : ∀ t C', k t C' → k' t C') : WIf X ifs env C k' := fun G σ H Q w er q => h G σ H Q w er fun b G' C' H' f w z => q b G' C' H' f w (hk b C' z)
theorem wif_one {X : Cx} {c : Expr} {env : DEnv} {C : CS} {k : Bool → CS → Prop} (h : WT X c env C k) : WIf X [c] env C k := fun G σ H Q w er q pins s I => (pts_one pt_tT).run pins s σ H Q I (h G σ H Q w er q)
section
variable {X : Cx} {elt tg iter : Expr} {ifs : List Expr} {scope : Scope} {own : List (Str × Nat)} {env : DEnv} {C : CS} {k : KD} {pos : Pos} {g : TG}
/-- an invariant over the turn and what is made so far -/
def LcI (X : Cx) (elt : Expr) (ifs : List Expr) (scope : Scope) (vs : List Nat) (g : TG) (env : DEnv) (xs : List D) (Pc : CS → Prop) (C1 : CS) (k : KD) : Prop := ∃ Iv : Nat → List D → CS → Prop, Iv 0 [] C1 ∧ (∀ j acc C, Iv j acc C → Pc C) ∧
  (∀ j d acc C, xs[j]? = some d → Iv j acc C → EvGW X.K g vs d env C fun env2 C2 => ∀ X', Blk X scope X' → WIf X' ifs env2 C2 fun t C3 => (t = true → ∀ X', Blk X scope X' → WE X' elt env2 C3 fun y C4 => acc.length < sizeLine ∧ Iv (j + 1) (acc ++ [y]) C4) ∧ (t = false → Iv (j + 1) acc C3)) ∧
  (∀ acc C, Iv xs.length acc C → ∀ p, C p = none → k (.own p) (put C p (.lst acc)))
theorem Fr.fresh {G H : Hp} {C : CS} {p : Addr} {o : HO} (h : H p = none) : Fr G C H G C (upd H p o) :=
  ⟨fun _ _ h => h, fun b u e _ _ => by rw [upd_ne (ne_of_none e h)]; exact e, fun b e => by
    by_cases q : b = p
    · subst q; exact absurd h e
    · rw [upd_ne q]; exact e, fun _ _ k => k, fun _ _ k => .inl k⟩
/-- a fresh list becomes a cell -/
theorem Wld.claim {K : PySem.W.Frag} {G G1 H H1 : Hp} {C C1 : CS} {p : Addr} {vs : List V} {ds : List D} (f : Fr G C H G1 C1 H1) (w : Wld K G1 C1 H1) (h0 : H p = none) (h1 : H1 p = some (.lst vs)) (r : DatAll K G1 vs ds) (c : C1 p = none) (g : G1 p = none) :
    Fr G C H G1 (put C1 p (.lst ds)) H1 ∧ Wld K G1 (put C1 p (.lst ds)) H1 := by
  refine ⟨⟨f.exG, f.keep, f.dom, fun a ha k => ?_, f.newG⟩, ⟨w.ex, fun a c' e => ?_, w.nt⟩⟩
  · by_cases q : a = p
    · subst q; exact absurd h0 ha
    · rw [put_ne q] at k; exact f.newC a ha k
  · by_cases q : a = p
    · subst q; rw [put_same] at e; cases e; exact ⟨g, vs, h1, r⟩
    · rw [put_ne q] at e; exact w.cell a c' e
theorem ev_lc {wi : TI} (hwi : EvI X.K wi env C fun xs Pc C1 => LcI X elt ifs scope (own.map (·.2)) g env xs Pc C1 k) :
    Ev X.K (tLc wi g (fun σ H Q => ∀ X', Blk X scope X' → tPIf X' ifs σ H Q) (fun σ H Q => ∀ X', Blk X scope X' → tS X' elt σ H Q) (own.map (·.2))) env C k := fun G σ H Q w er q => by
  refine hwi G σ H _ w er fun J G1 C1 H1 xs Pc f1 w1 it z Da hD => ?_
  obtain ⟨Iv, i0, hP, turn, done⟩ := z
  have hn := w1.ne hD
  let Wn : Nat → Hp → Prop := fun i H2 => i ≤ xs.length ∧ ∃ G2 C2 acc vs, Fr G1 C1 H1 G2 C2 H2 ∧ Wld X.K G2 C2 H2 ∧ H2 Da = some (.lst vs) ∧ DatAll X.K G2 vs acc ∧ Iv i acc C2 ∧ C2 Da = none ∧ G2 Da = none
  have wD : Wld X.K G1 C1 (upd H1 Da (.lst [])) := ⟨fun a o e => by rw [upd_ne (ne_of_none e hn.1)]; exact w1.ex a o e, fun a c e => by
    obtain ⟨h1, h2⟩ := w1.cell a c e
    exact ⟨h1, h2.mono (fun _ _ h => h) (upd_ne (cell_ne e hn.2))⟩, w1.nt⟩
  refine ⟨fun i m H2 => m = xs.length - i ∧ Wn i H2, ⟨xs.length, rfl, Nat.zero_le _, G1, C1, [], [], Fr.fresh hD, wD, upd_same, .nil, i0, hn.2, hn.1⟩, ?_⟩
  rintro i m H2 ⟨rfl, hi2, G2, C2, acc, vs, f2, w2, hd2, r2, i2, c2, g2⟩
  obtain ⟨go, stop⟩ := it G2 C2 H2 f2.exG w2 (hP _ _ _ i2)
  have keepD : ∀ {G3 C3 H3}, Fr G2 C2 H2 G3 C3 H3 → H3 Da = some (.lst vs) ∧ C3 Da = none ∧ G3 Da = none := fun {G3 C3 H3} f => by
    refine ⟨f.keep _ _ hd2 c2 (by intro _ z; cases z), ?_, ?_⟩
    · cases e : C3 Da with
      | none => rfl
      | some c => exact absurd c2 (f.newC Da (by rw [hd2]; simp) (by rw [e]; simp))
    · cases e : G3 Da with
      | none => rfl
      | some c => exact ((f.newG Da (by rw [hd2]; simp) (by rw [e]; simp)).elim (fun z => z g2) fun z => z c2).elim
  by_cases hlt : i < xs.length
  · obtain ⟨hgo, hy⟩ := go i xs[i] (by simp [hlt])
    refine .inr ⟨hgo, Wn (i + 1), fun H' h' => ⟨xs.length - (i + 1), by omega, rfl, h'⟩, fun x H3 hx => ?_⟩
    obtain ⟨G3, f3, w3, r3⟩ := hy x H3 hx
    refine turn i xs[i] acc C2 (by simp [hlt]) i2 G3 σ H3 x _ w3 (er.mono (f1.exG.trans (f2.exG.trans f3.exG))) r3 fun G4 C4 H4 σ4 env4 f4 w4 er4 h4 X' hX => ?_
    have h5 := h4 X' hX
    obtain ⟨s0, H0, Ca, cl, fp, rfl⟩ := hX
    refine h5 G4 σ4 H4 _ w4 er4 fun t G5 C5 H5 f5 w5 ht => ?_
    have f35 := (f3.trans f4).trans f5
    cases t with
    | true =>
      refine iteT fun X' hX => ?_
      have h6 := ht.1 rfl X' hX
      obtain ⟨s1, H01, Ca1, cl1, fp1, rfl⟩ := hX
      refine h6 G5 σ4 H5 _ w5 (er4.mono f5.exG) fun y G6 C6 H6 d6 f6 w6 r6 h7 => ?_
      obtain ⟨hd6, c6, g6⟩ := keepD (f35.trans f6)
      have rr := r2.mono (f35.trans f6).exG
      refine ⟨vs, hd6, by rw [rr.length]; exact h7.1, hlt, G6, C6, acc ++ [d6], vs ++ [y], ?_, ?_, upd_same, rr.append (.cons r6 .nil), h7.2, c6, g6⟩
      · have F := f2.trans (f35.trans f6)
        refine ⟨F.exG, fun a o e c nt => ?_, fun a e => ?_, F.newC, F.newG⟩
        · by_cases q : a = Da
          · subst q; rw [hD] at e; cases e
          · rw [upd_ne q]; exact F.keep a o e c nt
        · by_cases q : a = Da
          · subst q; rw [upd_same]; simp
          · rw [upd_ne q]; exact F.dom a e
      · exact ⟨fun a o e => by rw [upd_ne (ne_of_none e g6)]; exact w6.ex a o e, fun a c e => by
          obtain ⟨h1, h2⟩ := w6.cell a c e
          exact ⟨h1, h2.mono (fun _ _ h => h) (upd_ne (cell_ne e c6))⟩, w6.nt⟩
    | false =>
      obtain ⟨hd5, c5, g5⟩ := keepD f35
      exact iteF ⟨hlt, G5, C5, acc, vs, f2.trans f35, w5, hd5, r2.mono f35.exG, ht.2 rfl, c5, g5⟩
  · have e : i = xs.length := by omega
    subst e
    have h0 : H Da = none := by
      cases e : H Da with
      | none => rfl
      | some o => exact absurd hD (f1.dom Da (by rw [e]; simp))
    obtain ⟨F, w3⟩ := w2.claim (f1.trans f2) h0 hd2 r2 c2 g2
    exact .inl ⟨stop _ (Nat.le_refl _), q _ _ _ _ _ F w3 (.own Da) (done acc C2 i2 Da c2)⟩
end
end DL
/-! DLg: comprehensions as expressions, defs and their calls, built-in calls and methods. -/
namespace DL
open PySem PySem.Spec PyProof.Rows L2

section
variable {X : Cx} {elt tg iter : Expr} {ifs : List Expr} {scope : Scope} {own : List (Str × Nat)} {env : DEnv} {C : CS} {k : KD} {pos : Pos} {g : TG} {E : DEnds}
theorem we_lc (own : List (Str × Nat)) (hc : X.calm = true) (hN : X.N.Nodup) (ok : BlkOk X.N X.env.scope scope own) (hg : ∀ (s : Shared) (H : Hp) (C : Addr) (cl : List (Str × Addr)) (fp : List Addr), PG (X.blk s H scope (compEnvC scope cl C X.env) fp) tg g)
    (h : WI X tg iter env C fun xs Pc C1 => LcI X elt ifs scope (own.map (·.2)) g env xs Pc C1 k) (hs : ∀ x, foldedSetIterable iter X.env x = pure x := by intro _; rfl) : WE X (.ListComp elt [⟨tg, iter, ifs, 0⟩] scope pos) env C k := by
  obtain ⟨wi, hi, hw⟩ := h
  refine .of (pe_lc (own := own) (g := g) (tt := fun σ H Q => ∀ X', Blk X scope X' → tPIf X' ifs σ H Q) (te := fun σ H Q => ∀ X', Blk X scope X' → tS X' elt σ H Q) hc hN hi ok hg ?_ ?_ hs) (ev_lc hw)
  · exact fun s H C cl fp => ⟨fun pins s' σ H Q I h => h _ ⟨_, _, _, _, _, rfl⟩ pins s' I⟩
  · exact fun s H C cl fp => ⟨fun pins s' σ H Q I h => h _ ⟨_, _, _, _, _, rfl⟩ pins s' I⟩
theorem ws_setLc (own : List (Str × Nat)) {i : Nat} {y : Str} {py spos : Pos} (hc : X.calm = true) (hN : X.N.Nodup) (hy : X.N[i]? = some y) (hyl : X.env.scope.names.lookup y = some .local)
    (hsw : swapsWith (.ListComp elt [⟨tg, iter, ifs, 0⟩] scope pos) (some (.Name y py)) spos.line X.env = pure true) (ok : BlkOk X.N X.env.scope scope own) (hg : ∀ (s : Shared) (H : Hp) (C : Addr) (cl : List (Str × Addr)) (fp : List Addr), PG (X.blk s H scope (compEnvC scope cl C X.env) fp) tg g)
    (h : WI X tg iter env C fun xs Pc C1 => LcI X elt ifs scope (own.map (·.2)) g env xs Pc C1 fun d C2 => E.nx (env.set i (some d)) C2) (hs : ∀ x, foldedSetIterable iter X.env x = pure x := by intro _; rfl) :
    WS X (.Assign [.Name y py] (.ListComp elt [⟨tg, iter, ifs, 0⟩] scope pos) spos) env C E := by
  obtain ⟨wi, hi, hw⟩ := h
  refine .of (ps_setLc (i := i) (own := own) (g := g) (tt := fun σ H Q => ∀ X', Blk X scope X' → tPIf X' ifs σ H Q) (te := fun σ H Q => ∀ X', Blk X scope X' → tS X' elt σ H Q) hc hN hy hyl hsw hi ok hg ?_ ?_ hs) ?_
  · exact fun s H C cl fp => ⟨fun pins s' σ H Q I h => h _ ⟨_, _, _, _, _, rfl⟩ pins s' I⟩
  · exact fun s H C cl fp => ⟨fun pins s' σ H Q I h => h _ ⟨_, _, _, _, _, rfl⟩ pins s' I⟩
  · exact fun G σ H D w er q => ev_lc hw G σ H _ w er fun v G1 C1 H1 d f1 w1 r1 z => q.nx G1 C1 H1 _ _ f1 w1 ((er.mono f1.exG).set i r1) z
end

/-! ### defs -/
abbrev DSp := List D → CS → KD → Prop
def toSp (K : PySem.W.Frag) (S : DSp) : Sp := fun vs H Q _ => ∃ G C ds k, Wld K G C H ∧ DatAll K G vs ds ∧ S ds C k ∧ Kont K G C H k Q
def startD (N : List Str) (ds : List D) : DEnv := ds.map some ++ List.replicate (N.length - ds.length) none
theorem envR_start {K : PySem.W.Frag} {G : Hp} {N : List Str} {vs : List V} {ds : List D} (r : DatAll K G vs ds) : EnvR K G (startD N ds) (L2.start N vs) := by
  refine ⟨by unfold startD L2.start; simp [r.length], fun i d h => ?_⟩
  unfold startD at h
  unfold L2.start
  have hl := r.length
  by_cases hi : i < ds.length
  · rw [List.getElem?_append_left (by simpa using hi), List.getElem?_map] at h
    rw [List.getElem?_append_left (by simpa [hl] using hi), List.getElem?_map]
    cases q : ds[i]? with
    | none => rw [q] at h; cases h
    | some d' =>
      rw [q] at h
      obtain rfl := Option.some.inj (Option.some.inj h)
      obtain ⟨v, h1, h2⟩ := r.get q
      exact ⟨v, by rw [h1]; rfl, h2⟩
  · rw [List.getElem?_append_right (by simpa using hi)] at h
    rw [List.getElem?_replicate] at h
    split at h <;> cases h
section
variable {P : Program} {w : World} {K : PySem.W.Frag} {mg : Str → Option Value} {base : Heap}
theorem fnD {x qual : Str} {st : Stmt} {f : Addr} {fd : FuncData} {N ps : List Str} {n : Nat} {S : DSp} (F : Fun K x qual st f fd) (sc : FnScope N ps (defScope st)) (hl : ∀ ds C k, S ds C k → ds.length = ps.length)
    (hb : ∀ (cdv : Value) (A : Around) (outer : List Env) (s : Shared) (H : Hp) (E : XK) (ds : List D) (C : CS) (k : KD), A.guards = some [] → Room n (A.deeper (envOfC qual (defScope st) s.heap.objs.size f cdv)) → S ds C k →
      WSs (cxOf CX0 P w K mg base N qual (defScope st) f cdv A outer s H E).nox (defBody st) (startD N ds) C { nx := fun _ C' => k .non C', rt := k }) : FnG P w K mg base CX0 (n + 1) f fd ps (toSp K S) := by
  refine fnG_of F sc (fun vs H Q E h => ?_) (fun cdv A outer s H vs Q E hgd hr h => ?_)
  · obtain ⟨G, C, ds, k, _, r, hS, _⟩ := h
    rw [r.length]
    exact hl _ _ _ hS
  · obtain ⟨G, C, ds, k, wl, r, hS, q⟩ := h
    refine ⟨_, PSs.nox pss_tXs, ?_⟩
    refine hb cdv A outer s H E ds C k hgd hr hS G _ H _ wl (envR_start r) ⟨?_, q, ?_, ?_⟩
    · exact fun G' C' H' σ env f w' er z => q .non G' C' H' .non f w' .non z
    · exact fun G' C' H' σ env f w' er z => z.elim
    · exact fun G' C' H' σ env f w' er z => z.elim
/-- a def that keeps a promise by data -/
def FnC (P : Program) (w : World) (K : PySem.W.Frag) (mg : Str → Option Value) (base : Heap) (x : Str) (n : Nat) (S : DSp) : Prop :=
  ∃ (f : Addr) (fd : FuncData) (ps : List Str), FnG P w K mg base CX0 n f fd ps (toSp K S) ∧ mg x = some (.ref f) ∧ PySem.W.keepIn K (.ref f) = true ∧ Binds K fd ps []
end
section
variable {X : Cx} {e a b o : Expr} {es : List Expr} {env : DEnv} {C : CS} {k : KD} {pos : Pos}
theorem call_ok {n : Nat} {f : Addr} {fd : FuncData} {ps : List Str} {S : DSp} {ta : TA} (h : EvA X.K ta env C fun ds C1 => S ds C1 k) : Ev X.K (tCall (toSp X.K S) [] E0 ta) env C k := fun G σ H Q w er q =>
  h G σ H _ w er fun vs G1 C1 H1 ds f1 w1 r1 z => ⟨G1, C1, ds, k, w1, by rw [List.append_nil]; exact r1, z, q.after f1⟩
theorem we_call {x : Str} {n m : Nat} {S : DSp} {p : Pos} (h : FnC X.prog X.w X.K X.mg X.base x n S) (hgd : X.A.guards = some []) (hr : Room m X.A) (hg : Gl X x) (ha : WA X (e :: es) env C fun ds C1 => S ds C1 k) (hle : n ≤ m := by decide)
    (hdb : (x == ("__debug__" : Str)) = false := by decide) (he : starEach (e :: es) X.env = (false, eval e X.env) :: starEach es X.env := by rfl) (hpl : (backTo pos (starEach es X.env)).any (·.1) = false := by rfl) : WE X (.Call (.Name x p) (e :: es) [] pos) env C k := by
  obtain ⟨f, fd, ps, F, hm, hk, hb⟩ := h
  exact .of (pe_callG F hgd (hr.mono hle) hg hm hk hb pass0 pa_tAr hdb he hpl) (call_ok (n := n) (f := f) (fd := fd) (ps := ps) ha)
/-! ### methods of built-in types -/
def tyD (T : String) (C : CS) (x : D) : Prop := match x with
  | .str _ => T = "str"
  | .lst _ => T = "list"
  | .own a => (T = "list" ∧ ∃ xs, C a = some (.lst xs)) ∨ (T = "dict" ∧ ∃ kvs, C a = some (.dic kvs))
  | _ => False
theorem tyD_ok {K : PySem.W.Frag} {T : String} {G H : Hp} {x : V} {d : D} (w : Wld K G C H) (r : Dat K G x d) (h : tyD T C d) : tyV K T x H := by
  cases r with
  | str x => exact h
  | lst h1 h2 => exact .inl ⟨h, _, SqL.of (w.ex _ _ h1)⟩
  | own a =>
    rcases h with ⟨h, xs, hx⟩ | ⟨h, kvs, hx⟩
    · obtain ⟨_, vs, h1, _⟩ := w.cell a _ hx
      exact .inl ⟨h, vs, SqL.of h1⟩
    · obtain ⟨_, vs, h1, _⟩ := w.cell a _ hx
      exact .inr (.inr (.inl ⟨h, .inl ⟨vs, h1⟩⟩))
  | _ => exact h.elim
theorem we_bm {T : String} {name : Str} {id : String} {apos cpos : Pos} {r : V → List V → Hp → VK → Prop} {p : D → List D → CS → KD → Prop} (pa : PlainAttrs T) (slot : Slot T name id) (hty : typeOf (.builtin id) = pure (.type "method_descriptor")) (hm : MtR X id r) (hr : RMD X.K r p)
    (h : WE X o env C fun x C1 => tyD T C1 x ∧ WA X (e :: es) env C1 fun ds C2 => p x ds C2 k)
    (hbase : attributeBase o name X.env (eval o X.env) = eval o X.env := by rfl)
    (hfew : ((backTo cpos (starEach (e :: es) X.env)).all (fun x => !x.1) && (backToKw cpos (keywordEach [] X.env)).all (fun x => x.1.isSome)
      && decide ((e :: es).length + ([] : List Keyword).length + (if ([] : List Keyword).isEmpty then 0 else 1) < 30)) = true := by rfl)
    (hline : (apos.endLine == cpos.line) = true := by rfl) (hs : starEach (e :: es) X.env = (false, eval e X.env) :: starEach es X.env := by rfl) (hplain : (backTo cpos (starEach es X.env)).any (·.1) = false := by rfl) :
    WE X (.Call (.Attribute o name apos) (e :: es) [] cpos) env C k :=
  .of (pe_bm pa slot hty hm pe_tS pa_tAr hbase hfew hline hs hplain) fun G σ H Q w er q => h G σ H _ w er fun v G1 C1 H1 d f1 w1 r1 z => ⟨tyD_ok w1 r1 z.1, z.2 G1 σ H1 _ w1 (er.mono f1.exG) fun vs G2 C2 H2 ds f2 w2 r2 hp => hr v d vs ds G2 C2 H2 k Q w2 (r1.mono f2.exG) r2 hp (q.after (f1.trans f2))⟩
theorem we_bm0 {T : String} {name : Str} {id : String} {apos cpos : Pos} {r : V → List V → Hp → VK → Prop} {p : D → List D → CS → KD → Prop} (pa : PlainAttrs T) (slot : Slot T name id) (hty : typeOf (.builtin id) = pure (.type "method_descriptor")) (hm : MtR X id r) (hr : RMD X.K r p)
    (h : WE X o env C fun x C1 => tyD T C1 x ∧ p x [] C1 k) (hbase : attributeBase o name X.env (eval o X.env) = eval o X.env := by rfl) (hline : (apos.endLine == cpos.line) = true := by rfl) : WE X (.Call (.Attribute o name apos) [] [] cpos) env C k :=
  .of (pe_bm0 pa slot hty hm pe_tS hbase hline) fun G σ H Q w er q => h G σ H _ w er fun v G1 C1 H1 d f1 w1 r1 z => ⟨tyD_ok w1 r1 z.1, hr v d [] [] G1 C1 H1 k Q w1 r1 .nil z.2 (q.after f1)⟩
end

/-! ### what built-ins and methods give -/
section
variable {K : PySem.W.Frag}
def dAppend : D → List D → CS → KD → Prop := fun x ds C k => ∃ a xs y, x = .own a ∧ ds = [y] ∧ C a = some (.lst xs) ∧ xs.length < sizeLine ∧ k .non (put C a (.lst (xs ++ [y])))
theorem rm_append : RMD K rAppend dAppend := by
  rintro x a xs ds G C H k Q w r rs ⟨p, ys, y, rfl, rfl, hp, hl, hk⟩ q
  cases r
  cases rs with
  | cons r1 r2 =>
    cases r2
    obtain ⟨_, vs, h1, h2⟩ := w.cell p _ hp
    refine ⟨p, vs, _, rfl, rfl, h1, by rw [h2.length]; exact hl, ?_⟩
    obtain ⟨w2, f2⟩ := w.write hp (o := .lst _) (c' := .lst _) fun H' e => ⟨_, e, h2.append (.cons r1 .nil)⟩
    exact q _ _ _ _ _ f2 w2 .non hk
def dInsert : D → List D → CS → KD → Prop := fun x ds C k => ∃ a xs y i, x = .own a ∧ ds = [.int i, y] ∧ C a = some (.lst xs) ∧ xs.length < sizeLine ∧ 0 ≤ i ∧ i < 2 ^ 63 ∧ k .non (put C a (.lst (xs.take i.toNat ++ [y] ++ xs.drop i.toNat)))
theorem rm_insert : RMD K (fun x vs H Q => ∃ (l : Addr) (xs : List V) (i : Int) (y : V), x = .ref l ∧ vs = [.int i, y] ∧ H l = some (.lst xs) ∧ xs.length < sizeLine ∧ 0 ≤ i ∧ i < 2 ^ 63 ∧ Q .non (upd H l (.lst (xs.take i.toNat ++ [y] ++ xs.drop i.toNat)))) dInsert := by
  rintro x a xs ds G C H k Q w r rs ⟨p, ys, y, i, rfl, rfl, hp, hl, h0, h63, hk⟩ q
  cases r
  cases rs with
  | cons r1 r2 =>
    cases r2 with
    | cons r2 r3 =>
      cases r3; cases r1
      obtain ⟨_, vs, h1, h2⟩ := w.cell p _ hp
      refine ⟨p, vs, i, _, rfl, rfl, h1, by rw [h2.length]; exact hl, h0, h63, ?_⟩
      obtain ⟨w2, f2⟩ := w.write hp (o := .lst _) (c' := .lst _) fun H' e => ⟨_, e, ((h2.take i.toNat).append (.cons r2 .nil)).append (h2.drop i.toNat)⟩
      exact q _ _ _ _ _ f2 w2 .non hk
def dPopAt : D → List D → CS → KD → Prop := fun x ds C k => ∃ a xs i j y, x = .own a ∧ ds = [.int i] ∧ C a = some (.lst xs) ∧ -(2 ^ 63) ≤ i ∧ i < 2 ^ 63 ∧ seqIndex? i xs.length = some j ∧ xs[j]? = some y ∧ k y (put C a (.lst (xs.eraseIdx j)))
theorem datAll_erase {G : Hp} : ∀ {vs : List V} {ds : List D} (i : Nat), DatAll K G vs ds → DatAll K G (vs.eraseIdx i) (ds.eraseIdx i)
  | _, [], i, h => by cases h; simp; exact .nil
  | _, d :: ds, 0, h => by
    cases h with
    | cons a b => exact b
  | _, d :: ds, i + 1, h => by
    cases h with
    | cons a b => exact .cons a (datAll_erase i b)
theorem rm_popAt : RMD K rPopAt dPopAt := by
  rintro x a xs ds G C H k Q w r rs ⟨p, ys, i, j, y, rfl, rfl, hp, h0, h63, hj, hy, hk⟩ q
  cases r
  cases rs with
  | cons r1 r2 =>
    cases r2; cases r1
    obtain ⟨_, vs, h1, h2⟩ := w.cell p _ hp
    obtain ⟨v, g1, g2⟩ := h2.get hy
    refine ⟨p, vs, i, j, v, rfl, rfl, h1, h0, h63, by rw [h2.length]; exact hj, g1, ?_⟩
    obtain ⟨w2, f2⟩ := w.write hp (o := .lst _) (c' := .lst _) fun H' e => ⟨_, e, datAll_erase j h2⟩
    exact q _ _ _ _ _ f2 w2 g2 hk
theorem datAll_strs {G : Hp} : ∀ {vs : List V} {ys : List Str}, DatAll K G vs (ys.map D.str) → vs = ys.map V.str
  | _, [], h => by cases h; rfl
  | _, y :: ys, h => by
    cases h with
    | cons a b => cases a; rw [datAll_strs b]; rfl
theorem datAll_ints {G : Hp} : ∀ {vs : List V} {ys : List Int}, DatAll K G vs (ys.map D.int) → vs = ys.map V.int
  | _, [], h => by cases h; rfl
  | _, y :: ys, h => by
    cases h with
    | cons a b => cases a; rw [datAll_ints b]; rfl
theorem datAll_bls {G : Hp} : ∀ {vs : List V} {ys : List Bool}, DatAll K G vs (ys.map D.bl) → vs = ys.map V.bl
  | _, [], h => by cases h; rfl
  | _, y :: ys, h => by
    cases h with
    | cons a b => cases a; rw [datAll_bls b]; rfl
def dJoin : D → List D → CS → KD → Prop := fun x ds C k => ∃ a y, ∃ ys : List Str, x = .str a ∧ ds = [y] ∧ seqR C y = some (ys.map D.str) ∧ (ys.map (·.length)).sum + ys.length * a.length ≤ 16777216 ∧ k (.str (Txt.join a ys)) C
theorem rm_join : RMD K (fun x xs H Q => ∃ a p, ∃ ys : List Str, x = .str a ∧ xs = [.ref p] ∧ (SqL K H p (ys.map V.str) ∨ SqT K H p (ys.map V.str)) ∧ (ys.map (·.length)).sum + ys.length * a.length ≤ 16777216 ∧ Q (.str (Txt.join a ys)) H) dJoin := by
  rintro x a xs ds G C H k Q w r rs ⟨b, y, ys, rfl, rfl, hs, hl, hk⟩ q
  cases r
  cases rs with
  | cons r1 r2 =>
    cases r2
    obtain ⟨p, vs, rfl, h1, h2⟩ := w.seq r1 hs
    have := datAll_strs h2
    subst this
    exact ⟨b, p, ys, rfl, rfl, .inl h1, hl, q _ _ _ _ _ (Fr.refl ..) w (.str _) hk⟩
def dSIndex : D → List D → CS → KD → Prop := fun x ds C k => ∃ a b i rest, x = .str a ∧ ds = [.str b] ∧ Builtin.Str.occurrences a b 0 a.length 1 = i :: rest ∧ k (.int (i : Nat)) C
theorem rm_sindex : RMD K (fun x xs H Q => ∃ a b i rest, x = .str a ∧ xs = [.str b] ∧ Builtin.Str.occurrences a b 0 a.length 1 = i :: rest ∧ Q (.int (i : Nat)) H) dSIndex := by
  rintro x a xs ds G C H k Q w r rs ⟨b, c, i, rest, rfl, rfl, ho, hk⟩ q
  cases r
  cases rs with
  | cons r1 r2 => cases r2; cases r1; exact ⟨b, c, i, rest, rfl, rfl, ho, q _ _ _ _ _ (Fr.refl ..) w (.int _) hk⟩

def lenD (C : CS) (x : D) (n : Nat) : Prop := match x with
  | .str y => y.length ≤ sizeLine ∧ n = y.length
  | .tup xs => n = xs.length
  | x => ∃ xs, seqR C x = some xs ∧ n = xs.length
def dLen : List D → CS → KD → Prop := fun ds C k => ∃ x n, ds = [x] ∧ lenD C x n ∧ k (.int (n : Nat)) C
theorem rl_len : RLD K (fun xs H Q => ∃ x n, xs = [x] ∧ LenV K x H n ∧ Q (.int n) H) dLen := by
  rintro xs ds G C H k Q w rs ⟨x, n, rfl, hl, hk⟩ q
  cases rs with
  | @cons v _ _ _ r1 r2 =>
    cases r2
    refine ⟨v, n, rfl, ?_, q _ _ _ _ _ (Fr.refl ..) w (.int _) hk⟩
    unfold lenD at hl
    split at hl
    · cases r1; exact hl
    · obtain ⟨a, vs, rfl, h1, h2⟩ := w.tup r1
      exact .inr ⟨vs, h1, by rw [h2.length]; exact hl⟩
    · obtain ⟨ys, h0, h3⟩ := hl
      obtain ⟨a, vs, rfl, h1, h2⟩ := w.seq r1 h0
      exact .inl ⟨vs, h1, by rw [h2.length]; exact h3⟩
def dInt1 (f : Int → Int) : List D → CS → KD → Prop := fun ds C k => ∃ i, ds = [.int i] ∧ k (.int (f i)) C
theorem rl_int1 {f : Int → Int} : RLD K (fun xs H Q => ∃ i, xs = [.int i] ∧ Q (.int (f i)) H) (dInt1 f) := by
  rintro xs ds G C H k Q w rs ⟨i, rfl, hk⟩ q
  cases rs with
  | cons r1 r2 => cases r2; cases r1; exact ⟨i, rfl, q _ _ _ _ _ (Fr.refl ..) w (.int _) hk⟩
def dInt2 (f : Int → Int → Int) : List D → CS → KD → Prop := fun ds C k => ∃ i j, ds = [.int i, .int j] ∧ k (.int (f i j)) C
theorem rl_int2 {f : Int → Int → Int} : RLD K (fun xs H Q => ∃ i j, xs = [.int i, .int j] ∧ Q (.int (f i j)) H) (dInt2 f) := by
  rintro xs ds G C H k Q w rs ⟨i, j, rfl, hk⟩ q
  cases rs with
  | cons r1 r2 =>
    cases r2 with
    | cons r2 r3 => cases r3; cases r1; cases r2; exact ⟨i, j, rfl, q _ _ _ _ _ (Fr.refl ..) w (.int _) hk⟩
/-- int(n), int(flag) -/
def dInt : List D → CS → KD → Prop := fun ds C k => (∃ i, ds = [.int i] ∧ k (.int i) C) ∨ ∃ b : Bool, ds = [.bl b] ∧ k (.int (if b then 1 else 0)) C
theorem rl_int : RLD K (fun xs H Q => (∃ i, xs = [.int i] ∧ Q (.int i) H) ∨ ∃ k, xs = [.bl k] ∧ Q (.int (if k then 1 else 0)) H) dInt := by
  rintro xs ds G C H k Q w rs (⟨i, rfl, hk⟩ | ⟨i, rfl, hk⟩) q
  · cases rs with
    | cons r1 r2 => cases r2; cases r1; exact .inl ⟨i, rfl, q _ _ _ _ _ (Fr.refl ..) w (.int _) hk⟩
  · cases rs with
    | cons r1 r2 => cases r2; cases r1; exact .inr ⟨i, rfl, q _ _ _ _ _ (Fr.refl ..) w (.int _) hk⟩
def dStrInt : List D → CS → KD → Prop := fun ds C k => ∃ i : Int, ds = [.int i] ∧ i.natAbs.log2 < 1920 ∧ k (.str (toString i)) C
theorem rl_str : RLD K (fun xs H Q => ∃ i : Int, xs = [.int i] ∧ i.natAbs.log2 < 1920 ∧ Q (.str (toString i)) H) dStrInt := by
  rintro xs ds G C H k Q w rs ⟨i, rfl, h, hk⟩ q
  cases rs with
  | cons r1 r2 => cases r2; cases r1; exact ⟨i, rfl, h, q _ _ _ _ _ (Fr.refl ..) w (.str _) hk⟩
/-- tuple(xs) -/
def dTuple : List D → CS → KD → Prop := fun ds C k => ∃ x, ds = [x] ∧ match x with
  | .tup xs => k (.tup xs) C
  | x => ∃ xs, seqR C x = some xs ∧ k (.tup xs) C
theorem rl_tuple : RLD K (fun xs H Q => ∃ p ys, xs = [.ref p] ∧ ((SqL K H p ys ∧ ∀ l, H l = none → Q (.ref l) (upd H l (.tup ys))) ∨ (SqT K H p ys ∧ Q (.ref p) H))) dTuple := by
  rintro xs ds G C H k Q w rs ⟨x, rfl, hk⟩ q
  cases rs with
  | cons r1 r2 =>
    cases r2
    split at hk
    · obtain ⟨a, vs, rfl, h1, h2⟩ := w.tup r1
      exact ⟨a, vs, rfl, .inr ⟨h1, q _ _ _ _ _ (Fr.refl ..) w r1 hk⟩⟩
    · obtain ⟨ys, h0, hk⟩ := hk
      obtain ⟨a, vs, rfl, h1, h2⟩ := w.seq r1 h0
      refine ⟨a, vs, rfl, .inl ⟨h1, fun p hp => ?_⟩⟩
      obtain ⟨w2, f2, s2⟩ := w.newG hp (.tup vs)
      exact q _ _ _ _ _ f2 w2 (.tup (SqT.of upd_same) (h2.mono s2)) hk
/-- list(xs) -/
def seqA (C : CS) : D → Option (List D)
  | .tup xs => some xs
  | d => seqR C d
theorem Wld.seqA {G H : Hp} {C : CS} {v : V} {d : D} {ds : List D} (w : Wld K G C H) (r : Dat K G v d) (e : seqA C d = some ds) : ∃ a xs, v = .ref a ∧ (SqL K H a xs ∨ SqT K H a xs) ∧ DatAll K G xs ds := by
  unfold DL.seqA at e
  split at e
  · cases e
    obtain ⟨a, vs, rfl, h1, h2⟩ := w.tup r
    exact ⟨a, vs, rfl, .inr h1, h2⟩
  · obtain ⟨a, vs, rfl, h1, h2⟩ := w.seq r e
    exact ⟨a, vs, rfl, .inl h1, h2⟩
def dList : List D → CS → KD → Prop := fun ds C k => ∃ x xs, ds = [x] ∧ seqA C x = some xs ∧ ∀ p, C p = none → k (.own p) (put C p (.lst xs))
theorem rl_list : RLD K (fun xs H Q => ∃ p ys, xs = [.ref p] ∧ (SqL K H p ys ∨ SqT K H p ys) ∧ ∀ l, H l = none → Q (.ref l) (upd H l (.lst ys))) dList := by
  rintro xs ds G C H k Q w rs ⟨x, ys, rfl, hs, hk⟩ q
  cases rs with
  | cons r1 r2 =>
    cases r2
    obtain ⟨a, vs, rfl, h1, h2⟩ := w.seqA r1 hs
    refine ⟨a, vs, rfl, h1, fun p hp => ?_⟩
    obtain ⟨w2, f2⟩ := w.newC hp (o := .lst vs) (c := .lst ys) fun H' e => ⟨vs, e, h2⟩
    exact q _ _ _ _ _ f2 w2 (.own p) (hk p (w.ne hp).2)
def dAny : List D → CS → KD → Prop := fun ds C k => ∃ x, ∃ bs : List Bool, ds = [x] ∧ seqR C x = some (bs.map D.bl) ∧ k (.bl (bs.any id)) C
theorem rl_any : RLD K (rAny K) dAny := by
  rintro xs ds G C H k Q w rs ⟨x, bs, rfl, hs, hk⟩ q
  cases rs with
  | cons r1 r2 =>
    cases r2
    obtain ⟨a, vs, rfl, h1, h2⟩ := w.seq r1 hs
    have := datAll_bls h2
    subst this
    exact ⟨a, bs, rfl, h1, q _ _ _ _ _ (Fr.refl ..) w (.bl _) hk⟩
def dAll : List D → CS → KD → Prop := fun ds C k => ∃ x, ∃ bs : List Bool, ds = [x] ∧ seqR C x = some (bs.map D.bl) ∧ k (.bl (bs.all id)) C
theorem rl_all : RLD K (rAll K) dAll := by
  rintro xs ds G C H k Q w rs ⟨x, bs, rfl, hs, hk⟩ q
  cases rs with
  | cons r1 r2 =>
    cases r2
    obtain ⟨a, vs, rfl, h1, h2⟩ := w.seq r1 hs
    have := datAll_bls h2
    subst this
    exact ⟨a, bs, rfl, h1, q _ _ _ _ _ (Fr.refl ..) w (.bl _) hk⟩
def dSum : List D → CS → KD → Prop := fun ds C k => ∃ x, ∃ ns : List Int, ds = [x] ∧ seqR C x = some (ns.map D.int) ∧ k (.int ns.sum) C
theorem rl_sum : RLD K (rSum K) dSum := by
  rintro xs ds G C H k Q w rs ⟨x, ns, rfl, hs, hk⟩ q
  cases rs with
  | cons r1 r2 =>
    cases r2
    obtain ⟨a, vs, rfl, h1, h2⟩ := w.seq r1 hs
    have := datAll_ints h2
    subst this
    exact ⟨a, ns, rfl, h1, q _ _ _ _ _ (Fr.refl ..) w (.int _) hk⟩
def dMinL : List D → CS → KD → Prop := fun ds C k => ∃ x, ∃ ns : List Int, ds = [x] ∧ seqR C x = some (ns.map D.int) ∧ 0 < ns.length ∧ ∀ m, m ∈ ns → (∀ y, y ∈ ns → m ≤ y) → k (.int m) C
theorem rl_minL : RLD K (rMin K) dMinL := by
  rintro xs ds G C H k Q w rs ⟨x, ns, rfl, hs, h0, hk⟩ q
  cases rs with
  | cons r1 r2 =>
    cases r2
    obtain ⟨a, vs, rfl, h1, h2⟩ := w.seq r1 hs
    have := datAll_ints h2
    subst this
    exact ⟨a, ns, rfl, h1, h0, fun m hm hy => q _ _ _ _ _ (Fr.refl ..) w (.int _) (hk m hm hy)⟩
/-- isinstance -/
def tyN (C : CS) : D → Option String
  | .non => some "NoneType"
  | .bl _ => some "bool"
  | .int _ => some "int"
  | .str _ => some "str"
  | .lst _ => some "list"
  | .slst _ => some "list"
  | .tup _ => some "tuple"
  | .own a => match C a with
    | some (.lst _) => some "list"
    | some (.dic _) => some "dict"
    | _ => none
  | _ => none
theorem sqL_ty {H : Hp} {a : Addr} {vs : List V} (h : SqL K H a vs) : TyX K H (.ref a) (.type "list") := by
  rcases h with (h | ⟨o, h⟩) | ⟨o, its, n, h, h1, _⟩
  · exact .base (.lst h)
  · exact .base (.frz h)
  · exact .kList h h1
theorem sqT_ty {H : Hp} {a : Addr} {vs : List V} (h : SqT K H a vs) : TyX K H (.ref a) (.type "tuple") := by
  rcases h with (h | ⟨o, h⟩) | ⟨o, its, n, h, h1, _⟩
  · exact .base (.tup h)
  · exact .fTuple h
  · exact .kTuple h h1
theorem tyN_ok {G H : Hp} {C : CS} {v : V} {d : D} {T : String} (w : Wld K G C H) (r : Dat K G v d) (e : tyN C d = some T) : TyX K H v (.type T) := by
  cases r with
  | non => simp [tyN] at e; subst e; exact .base .non
  | bl b => simp [tyN] at e; subst e; exact .base (.bl b)
  | int b => simp [tyN] at e; subst e; exact .base (.int b)
  | str b => simp [tyN] at e; subst e; exact .base (.str b)
  | lst a b => simp [tyN] at e; subst e; exact .base (.lst (w.ex _ _ a))
  | slst a b => simp [tyN] at e; subst e; exact sqL_ty (w.ex.seq a)
  | tup a b => simp [tyN] at e; subst e; exact sqT_ty (Same.sqT w.ex a)
  | own a =>
    unfold tyN at e
    cases q : C a with
    | none => simp [q] at e
    | some c =>
      obtain ⟨_, hc⟩ := w.cell a c q
      cases c with
      | lst ds => simp [q] at e; subst e; obtain ⟨vs, h1, _⟩ := hc; exact .base (.lst h1)
      | dic ds => simp [q] at e; subst e; obtain ⟨vs, h1, _⟩ := hc; exact .base (.dK h1)
      | ins _ _ _ => simp [q] at e
      | tbl _ _ => simp [q] at e
  | _ => simp [tyN] at e
def dIsi : List D → CS → KD → Prop := fun ds C k => ∃ x T U b, ds = [x, .opq (.ty U)] ∧ tyN C x = some T ∧ kitB T U = some b ∧ k (.bl b) C
theorem rl_isi : RLD K (rIsi K) dIsi := by
  rintro xs ds G C H k Q w rs ⟨x, T, U, b, rfl, ht, hb, hk⟩ q
  cases rs with
  | cons r1 r2 =>
    cases r2 with
    | cons r2 r3 =>
      cases r3; cases r2
      exact ⟨_, _, .type T, .type U, b, rfl, .ty U, tyN_ok w r1 ht, kit_ty hb, q _ _ _ _ _ (Fr.refl ..) w (.bl _) hk⟩
end
end DL
/-! DLh: the rules in the forms that a walk by syntax applies. -/
namespace DL
open PySem PySem.Spec PyProof.Rows L2

/-- the module leaves these built-in names alone -/
structure Zs (mg : Str → Option Value) : Prop where
  int : mg "int" = none
  bool : mg "bool" = none
  str : mg "str" = none
  list : mg "list" = none
  tuple : mg "tuple" = none
  len : mg "len" = none
  isi : mg "isinstance" = none
  abs : mg "abs" = none
  min : mg "min" = none
  max : mg "max" = none
  any : mg "any" = none
  all : mg "all" = none
  sum : mg "sum" = none
  range : mg "range" = none
  zip : mg "zip" = none
  enum : mg "enumerate" = none
  repr : mg "repr" = none
  sorted : mg "sorted" = none
  dict : mg "dict" = none
theorem bt_int : bootBuiltins "int" = some (.type "int") := by first | exact boot_int | exact PyProof.Rows.boot_int | decide +kernel
theorem bt_bool : bootBuiltins "bool" = some (.type "bool") := boot_bool
theorem bt_str : bootBuiltins "str" = some (.type "str") := boot_str
theorem bt_list : bootBuiltins "list" = some (.type "list") := boot_list
theorem bt_tuple : bootBuiltins "tuple" = some (.type "tuple") := by first | exact boot_tuple | exact PyProof.Rows.boot_tuple | decide +kernel
theorem bt_len : bootBuiltins "len" = some (.builtin "len") := PySem.boot_len
theorem bt_isi : bootBuiltins "isinstance" = some (.builtin "isinstance") := PyProof.Rows.boot_isinstance
theorem bt_abs : bootBuiltins "abs" = some (.builtin "abs") := boot_abs
theorem bt_min : bootBuiltins "min" = some (.builtin "min") := boot_min
theorem bt_max : bootBuiltins "max" = some (.builtin "max") := boot_max
theorem bt_any : bootBuiltins "any" = some (.builtin "any") := boot_any
theorem bt_all : bootBuiltins "all" = some (.builtin "all") := boot_all
theorem bt_sum : bootBuiltins "sum" = some (.builtin "sum") := boot_sum

/-- ** of ints of at most a thousand bits -/
def CPowW (i j : Int) : Prop := 0 ≤ j ∧ j ≤ 100 ∧ i.natAbs < 2 ^ 1000
theorem op_powW {X : Cx} : OpR X (binaryOp .Pow) (rI CPowW fun i j => .int (i ^ j.toNat)) := opI fun i j _ _ _ _ _ hc q => pow_int hc.1 (by
  obtain ⟨h0, h1, h2⟩ := hc
  have b : Builtin.Int.intBits i ≤ 1000 := by
    unfold Builtin.Int.intBits
    split
    · exact Nat.zero_le _
    · rename_i h
      have := (Nat.log2_lt (n := i.natAbs) (k := 1000) (by simpa using h)).mpr h2
      omega
  have : (Builtin.Int.intBits i : Int) * j ≤ 1000 * 100 := Int.mul_le_mul (by omega) h1 h0 (by decide)
  exact Int.le_trans this (by decide)) q
section
variable {X : Cx} {e a b : Expr} {es : List Expr} {env : DEnv} {C : CS} {k : KD} {pos p p1 p2 : Pos} {kb : Bool → CS → Prop}
theorem we_len (Z : Zs X.mg) (hg : Gl X "len") (h : WA X (e :: es) env C fun ds C1 => dLen ds C1 k) (he : starEach (e :: es) X.env = (false, eval e X.env) :: starEach es X.env := by rfl) (hpl : (backTo pos (starEach es X.env)).any (·.1) = false := by rfl) : WE X (.Call (.Name "len" p) (e :: es) [] pos) env C k := we_cb Z.len call_len rl_len hg bt_len h (he := he) (hpl := hpl)
theorem we_isi (Z : Zs X.mg) (hg : Gl X "isinstance") (h : WA X (e :: es) env C fun ds C1 => dIsi ds C1 k) (he : starEach (e :: es) X.env = (false, eval e X.env) :: starEach es X.env := by rfl) (hpl : (backTo pos (starEach es X.env)).any (·.1) = false := by rfl) : WE X (.Call (.Name "isinstance" p) (e :: es) [] pos) env C k := we_cb Z.isi call_isi rl_isi hg bt_isi h (he := he) (hpl := hpl)
theorem we_abs (Z : Zs X.mg) (hg : Gl X "abs") (h : WA X (e :: es) env C fun ds C1 => dInt1 (fun i => if i < 0 then -i else i) ds C1 k) (he : starEach (e :: es) X.env = (false, eval e X.env) :: starEach es X.env := by rfl) (hpl : (backTo pos (starEach es X.env)).any (·.1) = false := by rfl) : WE X (.Call (.Name "abs" p) (e :: es) [] pos) env C k := we_cb Z.abs call_abs rl_int1 hg bt_abs h (he := he) (hpl := hpl)
theorem we_max2 (hc : X.calm = true) (Z : Zs X.mg) (hg : Gl X "max") (h : WA X [a, b] env C fun ds C1 => dInt2 (fun i j => if j > i then j else i) ds C1 k) (he : starEach [a, b] X.env = (false, eval a X.env) :: starEach [b] X.env := by rfl) (hpl : (backTo pos (starEach [b] X.env)).any (·.1) = false := by rfl) : WE X (.Call (.Name "max" p) [a, b] [] pos) env C k := we_cb Z.max (call_max2 hc) rl_int2 hg bt_max h (he := he) (hpl := hpl)
theorem we_min2 (hc : X.calm = true) (Z : Zs X.mg) (hg : Gl X "min") (h : WA X [a, b] env C fun ds C1 => dInt2 (fun i j => if j < i then j else i) ds C1 k) (he : starEach [a, b] X.env = (false, eval a X.env) :: starEach [b] X.env := by rfl) (hpl : (backTo pos (starEach [b] X.env)).any (·.1) = false := by rfl) : WE X (.Call (.Name "min" p) [a, b] [] pos) env C k := we_cb Z.min (call_min2 hc) rl_int2 hg bt_min h (he := he) (hpl := hpl)
theorem we_minL (hc : X.calm = true) (Z : Zs X.mg) (hg : Gl X "min") (h : WA X [a] env C fun ds C1 => dMinL ds C1 k) (he : starEach [a] X.env = (false, eval a X.env) :: starEach [] X.env := by rfl) (hpl : (backTo pos (starEach [] X.env)).any (·.1) = false := by rfl) : WE X (.Call (.Name "min" p) [a] [] pos) env C k := we_cb Z.min (cr_min hc) rl_minL hg bt_min h (he := he) (hpl := hpl)
theorem we_any (hc : X.calm = true) (Z : Zs X.mg) (hg : Gl X "any") (h : WA X (e :: es) env C fun ds C1 => dAny ds C1 k) (he : starEach (e :: es) X.env = (false, eval e X.env) :: starEach es X.env := by rfl) (hpl : (backTo pos (starEach es X.env)).any (·.1) = false := by rfl) : WE X (.Call (.Name "any" p) (e :: es) [] pos) env C k := we_cb Z.any (cr_any hc) rl_any hg bt_any h (he := he) (hpl := hpl)
theorem we_all (hc : X.calm = true) (Z : Zs X.mg) (hg : Gl X "all") (h : WA X (e :: es) env C fun ds C1 => dAll ds C1 k) (he : starEach (e :: es) X.env = (false, eval e X.env) :: starEach es X.env := by rfl) (hpl : (backTo pos (starEach es X.env)).any (·.1) = false := by rfl) : WE X (.Call (.Name "all" p) (e :: es) [] pos) env C k := we_cb Z.all (cr_all hc) rl_all hg bt_all h (he := he) (hpl := hpl)
theorem we_sum (hc : X.calm = true) (Z : Zs X.mg) (hg : Gl X "sum") (h : WA X (e :: es) env C fun ds C1 => dSum ds C1 k) (he : starEach (e :: es) X.env = (false, eval e X.env) :: starEach es X.env := by rfl) (hpl : (backTo pos (starEach es X.env)).any (·.1) = false := by rfl) : WE X (.Call (.Name "sum" p) (e :: es) [] pos) env C k := we_cb Z.sum (cr_sum hc) rl_sum hg bt_sum h (he := he) (hpl := hpl)
theorem we_intC (Z : Zs X.mg) (hg : Gl X "int") (h : WA X (e :: es) env C fun ds C1 => dInt ds C1 k) (he : starEach (e :: es) X.env = (false, eval e X.env) :: starEach es X.env := by rfl) (hpl : (backTo pos (starEach es X.env)).any (·.1) = false := by rfl) : WE X (.Call (.Name "int" p) (e :: es) [] pos) env C k := we_ct Z.int call_int1 rl_int hg bt_int h (he := he) (hpl := hpl)
theorem we_strC (Z : Zs X.mg) (hg : Gl X "str") (h : WA X (e :: es) env C fun ds C1 => dStrInt ds C1 k) (he : starEach (e :: es) X.env = (false, eval e X.env) :: starEach es X.env := by rfl) (hpl : (backTo pos (starEach es X.env)).any (·.1) = false := by rfl) : WE X (.Call (.Name "str" p) (e :: es) [] pos) env C k := we_ct Z.str call_str_int rl_str hg bt_str h (he := he) (hpl := hpl)
theorem we_tupleC (Z : Zs X.mg) (hg : Gl X "tuple") (h : WA X (e :: es) env C fun ds C1 => dTuple ds C1 k) (he : starEach (e :: es) X.env = (false, eval e X.env) :: starEach es X.env := by rfl) (hpl : (backTo pos (starEach es X.env)).any (·.1) = false := by rfl) : WE X (.Call (.Name "tuple" p) (e :: es) [] pos) env C k := we_ct Z.tuple call_tuple_of rl_tuple hg bt_tuple h (he := he) (hpl := hpl)
theorem we_listC (Z : Zs X.mg) (hg : Gl X "list") (h : WA X (e :: es) env C fun ds C1 => dList ds C1 k) (he : starEach (e :: es) X.env = (false, eval e X.env) :: starEach es X.env := by rfl) (hpl : (backTo pos (starEach es X.env)).any (·.1) = false := by rfl) : WE X (.Call (.Name "list" p) (e :: es) [] pos) env C k := we_ct Z.list call_list_of rl_list hg bt_list h (he := he) (hpl := hpl)
theorem we_tyInt (Z : Zs X.mg) (hg : Gl X "int") (h : k (.opq (.ty "int")) C) : WE X (.Name "int" pos) env C k := we_bty Z.int hg bt_int h
theorem we_tyBool (Z : Zs X.mg) (hg : Gl X "bool") (h : k (.opq (.ty "bool")) C) : WE X (.Name "bool" pos) env C k := we_bty Z.bool hg bt_bool h
theorem we_tyStr (Z : Zs X.mg) (hg : Gl X "str") (h : k (.opq (.ty "str")) C) : WE X (.Name "str" pos) env C k := we_bty Z.str hg bt_str h
theorem we_tyList (Z : Zs X.mg) (hg : Gl X "list") (h : k (.opq (.ty "list")) C) : WE X (.Name "list" pos) env C k := we_bty Z.list hg bt_list h
theorem we_tyTuple (Z : Zs X.mg) (hg : Gl X "tuple") (h : k (.opq (.ty "tuple")) C) : WE X (.Name "tuple" pos) env C k := we_bty Z.tuple hg bt_tuple h

/-! operators by their sign -/
theorem we_add (h : WE X a env C fun x C1 => WE X b env C1 fun y C2 => dAdd x y C2 k) : WE X (.BinOp a .Add b pos) env C k := we_op op_addA r2_add h
theorem we_sub' (h : WE X a env C fun x C1 => WE X b env C1 fun y C2 => dI2 (fun i j => i - j) (fun _ _ => True) x y C2 k) : WE X (.BinOp a .Sub b pos) env C k := we_op op_sub r2_I0 h
theorem we_mul (h : WE X a env C fun x C1 => WE X b env C1 fun y C2 => dMul x y C2 k) : WE X (.BinOp a .Mult b pos) env C k := we_op op_mulA r2_mul h
theorem we_mod (h : WE X a env C fun x C1 => WE X b env C1 fun y C2 => dI2 (fun i j => i % j) (fun _ j => 0 < j) x y C2 k) : WE X (.BinOp a .Mod b pos) env C k := we_op op_mod r2_I h
theorem we_fdiv (h : WE X a env C fun x C1 => WE X b env C1 fun y C2 => dI2 (fun i j => i / j) CDiv x y C2 k) : WE X (.BinOp a .FloorDiv b pos) env C k := we_op op_fdiv r2_I h
theorem we_pow (h : WE X a env C fun x C1 => WE X b env C1 fun y C2 => dI2 (fun i j => i ^ j.toNat) CPowW x y C2 k) : WE X (.BinOp a .Pow b pos) env C k := we_op op_powW r2_I h
theorem we_neg (h : WE X a env C fun x C1 => ∃ i, x = .int i ∧ k (.int (-i)) C1) : WE X (.UnaryOp .USub a pos) env C k := we_un (p := fun x C k => ∃ i, x = .int i ∧ k (.int (-i)) C) un_neg (by
  rintro x d G C H k Q w r ⟨i, rfl, hk⟩ q
  cases r
  exact ⟨i, rfl, q _ _ _ _ _ (Fr.refl ..) w (.int _) hk⟩) h
theorem we_lt (h : WE X a env C fun x C1 => WE X b env C1 fun y C2 => dB2 (fun i j => decide (i < j)) x y C2 k) : WE X (.Compare a [.Lt] [b] pos) env C k := we_cmp op_lt r2_B h (nomark _)
theorem we_le (h : WE X a env C fun x C1 => WE X b env C1 fun y C2 => dB2 (fun i j => decide (i ≤ j)) x y C2 k) : WE X (.Compare a [.LtE] [b] pos) env C k := we_cmp op_le r2_B h (nomark _)
theorem we_gt (h : WE X a env C fun x C1 => WE X b env C1 fun y C2 => dB2 (fun i j => decide (j < i)) x y C2 k) : WE X (.Compare a [.Gt] [b] pos) env C k := we_cmp op_gt r2_B h (nomark _)
theorem we_ge (h : WE X a env C fun x C1 => WE X b env C1 fun y C2 => dB2 (fun i j => decide (j ≤ i)) x y C2 k) : WE X (.Compare a [.GtE] [b] pos) env C k := we_cmp op_ge r2_B h (nomark _)
theorem we_eq {m : Nat} (hr : Room m X.A) (h : WE X a env C fun x C1 => WE X b env C1 fun y C2 => dEq false x y C2 k) : WE X (.Compare a [.Eq] [b] pos) env C k := we_cmp (OpR.or (op_eqD hr.units) op_eq) r2_eq h (nomark _)
theorem we_ne {m : Nat} (hr : Room m X.A) (h : WE X a env C fun x C1 => WE X b env C1 fun y C2 => dEq true x y C2 k) : WE X (.Compare a [.NotEq] [b] pos) env C k := we_cmp (OpR.or (op_neD hr.units) op_ne) r2_ne h (nomark _)
theorem we_is (h : WE X a env C fun x C1 => WE X b env C1 fun y C2 => dIsN false x y C2 k) : WE X (.Compare a [.Is] [b] pos) env C k := we_cmp op_isN r2_isN h (nomark _)
theorem we_isnot (h : WE X a env C fun x C1 => WE X b env C1 fun y C2 => dIsN true x y C2 k) : WE X (.Compare a [.IsNot] [b] pos) env C k := we_cmp op_notN r2_notN h (nomark _)
theorem Room.u65 {m : Nat} {A : Around} (r : Room m A) : A.units + 65 < cLine := by have := r.un; omega
/-! ### a text in a tuple of texts -/
def dInT (neg : Bool) : OpD := fun x y C k => ∃ (z : Str) (zs : List Str), x = .str z ∧ y = .tup (zs.map D.str) ∧ k (.bl (if neg = true then !decide (z ∈ zs) else decide (z ∈ zs))) C
theorem inV_strs (z : Str) : ∀ zs : List Str, inV (.str z) (zs.map V.str) = decide (z ∈ zs)
  | [] => rfl
  | y :: zs => by
    unfold inV
    rw [List.map_cons, List.any_cons]
    have ih := inV_strs z zs
    unfold inV at ih
    rw [ih]
    by_cases h : y = z
    · subst h; simp [eqV]
    · have h' : ¬ z = y := fun e => h e.symm
      simp [eqV, h, h']
theorem flat_strs : ∀ zs : List Str, (zs.map V.str).all flatV = true
  | [] => rfl
  | y :: zs => by rw [List.map_cons, List.all_cons, flat_strs zs]; rfl
theorem r2_inT {K : PySem.W.Frag} : R2D K (rIn K false) (dInT false) := by
  rintro x y a b G C H k Q w da db ⟨z, zs, rfl, rfl, h⟩ q
  cases da
  obtain ⟨l, vs, rfl, h1, h2⟩ := w.tup db
  have := datAll_strs h2
  subst this
  refine ⟨l, _, rfl, .inr h1, rfl, flat_strs zs, ?_⟩
  rw [if_neg (by decide), inV_strs]
  exact q _ _ _ _ _ (Fr.refl ..) w (.bl _) h
theorem r2_ninT {K : PySem.W.Frag} : R2D K (rIn K true) (dInT true) := by
  rintro x y a b G C H k Q w da db ⟨z, zs, rfl, rfl, h⟩ q
  cases da
  obtain ⟨l, vs, rfl, h1, h2⟩ := w.tup db
  have := datAll_strs h2
  subst this
  refine ⟨l, _, rfl, .inr h1, rfl, flat_strs zs, ?_⟩
  rw [if_pos rfl, inV_strs]
  exact q _ _ _ _ _ (Fr.refl ..) w (.bl _) h
def dIn (neg : Bool) : OpD := fun x y C k => match y with
  | .str _ => dInS neg x y C k
  | .tup _ => dInT neg x y C k
  | _ => dInL neg x y C k
theorem r2_in {K : PySem.W.Frag} : R2D K (fun x y H Q => rInD K x y H Q ∨ (∃ (c : Nat) (z : Str), x = .str ⟨#[c]⟩ ∧ y = .str z ∧ Q (.bl (decide (c ∈ z.cps.toList))) H) ∨ rIn K false x y H Q) (dIn false) := by
  intro x y a b G C H k Q w da db h q
  unfold dIn at h
  split at h
  · exact .inr (.inl (r2_inS (K := K) x y a _ G C H k Q w da db h q))
  · exact .inr (.inr (r2_inT x y a _ G C H k Q w da db h q))
  · exact .inl (r2_inL x y a _ G C H k Q w da db h q)
theorem r2_nin {K : PySem.W.Frag} : R2D K (fun x y H Q => rNotInD K x y H Q ∨ (∃ (c : Nat) (z : Str), x = .str ⟨#[c]⟩ ∧ y = .str z ∧ Q (.bl (!decide (c ∈ z.cps.toList))) H) ∨ rIn K true x y H Q) (dIn true) := by
  intro x y a b G C H k Q w da db h q
  unfold dIn at h
  split at h
  · exact .inr (.inl (r2_ninS (K := K) x y a _ G C H k Q w da db h q))
  · exact .inr (.inr (r2_ninT x y a _ G C H k Q w da db h q))
  · exact .inl (r2_ninL x y a _ G C H k Q w da db h q)
theorem we_in {m : Nat} (hr : Room m X.A) (h : WE X a env C fun x C1 => WE X b env C1 fun y C2 => dIn false x y C2 k) (hm : behindInMarks .In b = false := by rfl) : WE X (.Compare a [.In] [b] pos) env C k := we_cmp (OpR.or (op_inD (Room.u65 hr)) (OpR.or op_in_sign op_in_seq)) r2_in h hm
theorem we_nin {m : Nat} (hr : Room m X.A) (h : WE X a env C fun x C1 => WE X b env C1 fun y C2 => dIn true x y C2 k) (hm : behindInMarks .NotIn b = false := by rfl) : WE X (.Compare a [.NotIn] [b] pos) env C k := we_cmp (OpR.or (op_notInD (Room.u65 hr)) (OpR.or op_notIn_sign op_notIn_seq)) r2_nin h hm
abbrev tb (kb : Bool → CS → Prop) : KD := fun d C => ∃ t, d = .bl t ∧ kb t C
theorem wt_lt (h : WE X a env C fun x C1 => WE X b env C1 fun y C2 => dB2 (fun i j => decide (i < j)) x y C2 (tb kb)) : WT X (.Compare a [.Lt] [b] pos) env C kb := wt_cmp op_lt r2_B h (nomark _)
theorem wt_le (h : WE X a env C fun x C1 => WE X b env C1 fun y C2 => dB2 (fun i j => decide (i ≤ j)) x y C2 (tb kb)) : WT X (.Compare a [.LtE] [b] pos) env C kb := wt_cmp op_le r2_B h (nomark _)
theorem wt_gt (h : WE X a env C fun x C1 => WE X b env C1 fun y C2 => dB2 (fun i j => decide (j < i)) x y C2 (tb kb)) : WT X (.Compare a [.Gt] [b] pos) env C kb := wt_cmp op_gt r2_B h (nomark _)
theorem wt_ge (h : WE X a env C fun x C1 => WE X b env C1 fun y C2 => dB2 (fun i j => decide (j ≤ i)) x y C2 (tb kb)) : WT X (.Compare a [.GtE] [b] pos) env C kb := wt_cmp op_ge r2_B h (nomark _)
theorem wt_eq {m : Nat} (hr : Room m X.A) (h : WE X a env C fun x C1 => WE X b env C1 fun y C2 => dEq false x y C2 (tb kb)) : WT X (.Compare a [.Eq] [b] pos) env C kb := wt_cmp (OpR.or (op_eqD hr.units) op_eq) r2_eq h (nomark _)
theorem wt_ne {m : Nat} (hr : Room m X.A) (h : WE X a env C fun x C1 => WE X b env C1 fun y C2 => dEq true x y C2 (tb kb)) : WT X (.Compare a [.NotEq] [b] pos) env C kb := wt_cmp (OpR.or (op_neD hr.units) op_ne) r2_ne h (nomark _)
theorem wt_is (h : WE X a env C fun x C1 => WE X b env C1 fun y C2 => dIsN false x y C2 (tb kb)) : WT X (.Compare a [.Is] [b] pos) env C kb := wt_cmp op_isN r2_isN h (nomark _)
theorem wt_isnot (h : WE X a env C fun x C1 => WE X b env C1 fun y C2 => dIsN true x y C2 (tb kb)) : WT X (.Compare a [.IsNot] [b] pos) env C kb := wt_cmp op_notN r2_notN h (nomark _)
theorem wt_in {m : Nat} (hr : Room m X.A) (h : WE X a env C fun x C1 => WE X b env C1 fun y C2 => dIn false x y C2 (tb kb)) (hm : behindInMarks .In b = false := by rfl) : WT X (.Compare a [.In] [b] pos) env C kb := wt_cmp (OpR.or (op_inD (Room.u65 hr)) (OpR.or op_in_sign op_in_seq)) r2_in h hm
theorem wt_nin {m : Nat} (hr : Room m X.A) (h : WE X a env C fun x C1 => WE X b env C1 fun y C2 => dIn true x y C2 (tb kb)) (hm : behindInMarks .NotIn b = false := by rfl) : WT X (.Compare a [.NotIn] [b] pos) env C kb := wt_cmp (OpR.or (op_notInD (Room.u65 hr)) (OpR.or op_notIn_sign op_notIn_seq)) r2_nin h hm
end

/-! ### names by place -/
/-- a name's value, found by syntax -/
inductive Get : List Str → Str → DEnv → D → Prop where
  | here (x : Str) (N : List Str) (d : D) (l : DEnv) : Get (x :: N) x (some d :: l) d
  | there (y : Str) (o : Option D) {x : Str} {N : List Str} {l : DEnv} {d : D} (h : Get N x l d) : Get (y :: N) x (o :: l) d
/-- the places behind a store -/
inductive Put : List Str → Str → DEnv → (D → DEnv) → Prop where
  | here (x : Str) (N : List Str) (o : Option D) (l : DEnv) : Put (x :: N) x (o :: l) fun d => some d :: l
  | there (y : Str) (o : Option D) {x : Str} {N : List Str} {l : DEnv} {f : D → DEnv} (h : Put N x l f) : Put (y :: N) x (o :: l) fun d => o :: f d
theorem Get.get {N : List Str} {x : Str} {env : DEnv} {d : D} (h : Get N x env d) : ∃ i : Nat, N[i]? = some x ∧ env[i]? = some (some d) := by
  induction h with
  | here => exact ⟨0, rfl, rfl⟩
  | there y o _ ih => obtain ⟨i, h1, h2⟩ := ih; exact ⟨i + 1, by simpa using h1, by simpa using h2⟩
theorem Put.set {N : List Str} {x : Str} {env : DEnv} {f : D → DEnv} (h : Put N x env f) : ∃ i : Nat, N[i]? = some x ∧ (∀ d, env.set i (some d) = f d) ∧ ∀ d, (wipeD env [i]).set i (some d) = f d := by
  induction h with
  | here => exact ⟨0, rfl, fun _ => rfl, fun _ => rfl⟩
  | there y o _ ih =>
    obtain ⟨i, h1, h2, h3⟩ := ih
    refine ⟨i + 1, by simpa using h1, fun d => by simpa using h2 d, fun d => ?_⟩
    have := h3 d
    simp only [wipeD] at this ⊢
    simpa using this
/-- x stands in a written list -/
inductive Mem : Str → List Str → Prop where
  | here (x : Str) (l : List Str) : Mem x (x :: l)
  | there (y : Str) {x : Str} {l : List Str} (h : Mem x l) : Mem x (y :: l)
theorem Mem.mem {x : Str} {l : List Str} (h : Mem x l) : x ∈ l := by
  induction h with
  | here => exact List.mem_cons_self
  | there y _ ih => exact List.mem_cons_of_mem _ ih
/-- a context's own names: by place; those that are read -/
structure Nms (X : Cx) (N M : List Str) : Prop where
  n : X.N = N
  nd : X.N.Nodup
  vis : ∀ y ∈ M, Vis X.env.scope y
  ndb : ∀ y ∈ M, (y == ("__debug__" : Str)) = false
  ncd : ∀ y ∈ M, (y == ("__classdict__" : Str)) = false
/-- .. those that may be stored -/
structure Sts (X : Cx) (N M : List Str) : Prop where
  n : X.N = N
  nd : X.N.Nodup
  loc : ∀ y ∈ M, Loc X.env.scope y
  fn : ∀ y ∈ M, X.fn y = true ∨ X.env.scope.names.lookup y = some .local
section
variable {X : Cx} {e : Expr} {env : DEnv} {C : CS} {k : KD} {pos pos' : Pos} {E : DEnds} {N M : List Str} {i : Nat} {x : Str} {d : D} {f : D → DEnv}
theorem we_nm (B : Nms X N M) (hm' : Mem x M) (hi : Get N x env d) (h : k d C) : WE X (.Name x pos) env C k := by
  obtain ⟨i, h1, h2⟩ := hi.get
  have hm : x ∈ M := hm'.mem
  exact we_var (by rw [B.n]; exact h1) (B.vis x hm) h2 h (B.ndb x hm) (B.ncd x hm)
theorem ws_nm (B : Sts X N M) (hm' : Mem x M) (hi : Put N x env f) (h : WE X e env C fun d C1 => E.nx (f d) C1) (hs : swapsWith e (some (.Name x pos')) pos.line X.env = pure false := by rfl) : WS X (.Assign [.Name x pos'] e pos) env C E := by
  obtain ⟨i, h1, h2, _⟩ := hi.set
  have hm : x ∈ M := hm'.mem
  exact ws_set (i := i) B.nd (by rw [B.n]; exact h1) (B.loc x hm) (h.imp fun d C' z => by rw [h2]; exact z) hs (B.fn x hm)
theorem wg_nm {kE : DEnv → CS → Prop} (B : Sts X N M) (hm' : Mem x M) (hi : Put N x env f) (h : kE (f d) C) : WG X (.Name x pos) d env C kE := by
  obtain ⟨i, h1, h2, _⟩ := hi.set
  have hm : x ∈ M := hm'.mem
  exact wg_name (i := i) B.nd (by rw [B.n]; exact h1) (B.loc x hm) (by rw [h2]; exact h) (B.fn x hm)
theorem ws_augNm {op : Operator} {ti : TIp} {p : OpD} (B : Sts X N M) (hm' : Mem x M) (hg : Get N x env d) (hi : Put N x env f) (ho : PIp X op ti) (hr : RID X.K ti p) (h : WE X e env C fun y C1 => p d y C1 fun z C2 => E.nx (f z) C2) : WS X (.AugAssign (.Name x pos') op e pos) env C E := by
  obtain ⟨i, h1, h2, _⟩ := hi.set
  obtain ⟨j, h3, h4⟩ := hg.get
  have hm : x ∈ M := hm'.mem
  have nd := B.nd
  rw [B.n] at nd
  have hij : i = j := nodup_ix nd h1 h3
  subst hij
  exact ws_aug (i := i) B.nd (by rw [B.n]; exact h1) (B.loc x hm) ho hr h4 (by simpa only [h2] using h) (B.fn x hm)
theorem ws_augAdd (B : Sts X N M) (hm' : Mem x M) (hg : Get N x env d) (hi : Put N x env f) (h : WE X e env C fun y C1 => dI2 (fun i j => i + j) (fun _ _ => True) d y C1 fun z C2 => E.nx (f z) C2) : WS X (.AugAssign (.Name x pos') .Add e pos) env C E :=
  ws_augNm B hm' hg hi ip_add (p := dI2 (fun i j => i + j) fun _ _ => True) (by
    rintro x y a b G C H k Q w da db ⟨i, j, rfl, rfl, _, hk⟩ q
    cases da; cases db
    exact ⟨i, j, rfl, rfl, q _ _ _ _ _ (Fr.refl ..) w (.int _) hk⟩) h
/-- the globals that a context reads -/
structure Gls (X : Cx) (gs : List Str) : Prop where
  gl : ∀ y ∈ gs, Gl X y
end
theorem Gls.at {X : Cx} {gs : List Str} {x : Str} (B : Gls X gs) (h : Mem x gs) : Gl X x := B.gl x h.mem

/-- looks at a scope, by computation -/
def locC (sc : Scope) (N : List Str) : Bool := N.all fun y => (sc.names.lookup y == some .local || sc.names.lookup y == some .cell) && !(y == ("__debug__" : Str)) && !(y == ("__classdict__" : Str))
def visC (sc : Scope) (N : List Str) : Bool := N.all fun y => (sc.names.lookup y == some .local || sc.names.lookup y == some .cell || sc.names.lookup y == some .free) && !(y == ("__debug__" : Str)) && !(y == ("__classdict__" : Str))
def onlyC (sc : Scope) (N : List Str) : Bool := N.all fun y => sc.names.lookup y == some .local
def glC (sc : Scope) (gs : List Str) : Bool := gs.all fun y => sc.names.lookup y == some .globalImplicit
theorem nk_eq {a b : Option NameKind} (h : (a == b) = true) : a = b := by
  cases a <;> cases b <;> first | rfl | (rename_i x y; cases x <;> cases y <;> first | rfl | (exact absurd h (by decide))) | (exact absurd h (by decide)) | (rename_i x; cases x <;> exact absurd h (by decide))
theorem nms_of {X : Cx} {N M : List Str} {sc : Scope} (hn : X.N = N) (hs : X.env.scope = sc) (nd : X.N.Nodup) (h : visC sc M = true) : Nms X N M := by
  unfold visC at h
  rw [List.all_eq_true] at h
  refine ⟨hn, nd, fun y hy => ?_, fun y hy => ?_, fun y hy => ?_⟩
  · have q := h y hy
    simp only [Bool.and_eq_true, Bool.or_eq_true] at q
    rw [hs]
    rcases q.1.1 with (q | q) | q
    · exact .inl (nk_eq q)
    · exact .inr (.inl (nk_eq q))
    · exact .inr (.inr (nk_eq q))
  · have q := h y hy
    simp only [Bool.and_eq_true, Bool.not_eq_true'] at q
    exact q.1.2
  · have q := h y hy
    simp only [Bool.and_eq_true, Bool.not_eq_true'] at q
    exact q.2
theorem sts_of {X : Cx} {N M : List Str} {sc : Scope} (hn : X.N = N) (hs : X.env.scope = sc) (nd : X.N.Nodup) (h : locC sc M = true) (hf : ∀ y, X.fn y = true) : Sts X N M := by
  unfold locC at h
  rw [List.all_eq_true] at h
  refine ⟨hn, nd, fun y hy => ?_, fun y _ => .inl (hf y)⟩
  have q := h y hy
  simp only [Bool.and_eq_true, Bool.or_eq_true] at q
  rw [hs]
  rcases q.1.1 with q | q
  · exact .inl (nk_eq q)
  · exact .inr (nk_eq q)
theorem gls_of {X : Cx} {gs : List Str} {sc : Scope} (hs : X.env.scope = sc) (h : glC sc gs = true) : Gls X gs := by
  unfold glC at h
  rw [List.all_eq_true] at h
  refine ⟨fun y hy => ?_⟩
  show X.env.kindOf y = some .globalImplicit
  unfold Env.kindOf
  rw [hs]
  exact nk_eq (h y hy)
end DL
/-! DLi: small steps by data. -/
namespace DL
open PySem PySem.Spec PyProof.Rows L2

def D.isIntB : D → Bool
  | .int _ => true
  | .bl _ => true
  | _ => false
def D.isBl : D → Bool
  | .bl _ => true
  | _ => false
def D.isStr : D → Bool
  | .str _ => true
  | _ => false
def D.isLst : D → Bool
  | .lst _ => true
  | .slst _ => true
  | _ => false
def D.isTup : D → Bool
  | .tup _ => true
  | _ => false
def D.isNon : D → Bool
  | .non => true
  | _ => false
/-- data whose kind shows -/
def D.kind : D → Bool
  | .non | .bl _ | .int _ | .str _ | .lst _ | .slst _ | .tup _ => true
  | _ => false
theorem kind_of_py {x : D} (h : x.isPy = true) : x.kind = true := by cases x <;> first | rfl | (simp [D.isPy] at h)
section
variable {C : CS} {k : KD} {kb : Bool → CS → Prop} {x y : D} {i j : Int} {b : Bool} {xs ys : List D} {s t : Str} {a : Addr}
theorem isi_int (h : x.kind = true) (q : k (.bl x.isIntB) C) : dIsi [x, .opq (.ty "int")] C k := by
  cases x <;> first | exact ⟨_, _, _, true, rfl, rfl, by decide +kernel, q⟩ | exact ⟨_, _, _, false, rfl, rfl, by decide +kernel, q⟩ | (simp [D.kind] at h; done)
theorem isi_bool (h : x.kind = true) (q : k (.bl x.isBl) C) : dIsi [x, .opq (.ty "bool")] C k := by
  cases x <;> first | exact ⟨_, _, _, true, rfl, rfl, by decide +kernel, q⟩ | exact ⟨_, _, _, false, rfl, rfl, by decide +kernel, q⟩ | (simp [D.kind] at h; done)
theorem isi_str (h : x.kind = true) (q : k (.bl x.isStr) C) : dIsi [x, .opq (.ty "str")] C k := by
  cases x <;> first | exact ⟨_, _, _, true, rfl, rfl, by decide +kernel, q⟩ | exact ⟨_, _, _, false, rfl, rfl, by decide +kernel, q⟩ | (simp [D.kind] at h; done)
theorem isi_list (h : x.kind = true) (q : k (.bl x.isLst) C) : dIsi [x, .opq (.ty "list")] C k := by
  cases x <;> first | exact ⟨_, _, _, true, rfl, rfl, by decide +kernel, q⟩ | exact ⟨_, _, _, false, rfl, rfl, by decide +kernel, q⟩ | (simp [D.kind] at h; done)
theorem isi_tuple (h : x.kind = true) (q : k (.bl x.isTup) C) : dIsi [x, .opq (.ty "tuple")] C k := by
  cases x <;> first | exact ⟨_, _, _, true, rfl, rfl, by decide +kernel, q⟩ | exact ⟨_, _, _, false, rfl, rfl, by decide +kernel, q⟩ | (simp [D.kind] at h; done)
theorem i2_ok {f : Int → Int → Int} {P : Int → Int → Prop} (h : P i j) (q : k (.int (f i j)) C) : dI2 f P (.int i) (.int j) C k := ⟨i, j, rfl, rfl, h, q⟩
theorem b2_ok {f : Int → Int → Bool} (q : k (.bl (f i j)) C) : dB2 f (.int i) (.int j) C k := ⟨i, j, rfl, rfl, q⟩
theorem add_ii (q : k (.int (i + j)) C) : dAdd (.int i) (.int j) C k := q
theorem add_ss (h : s.length + t.length ≤ sizeLine) (q : k (.str (s ++ t)) C) : dAdd (.str s) (.str t) C k := ⟨h, q⟩
theorem add_tt (h : xs.length + ys.length ≤ sizeLine) (q : k (.tup (xs ++ ys)) C) : dAdd (.tup xs) (.tup ys) C k := ⟨h, q⟩
theorem mul_ii (h : CMul i j) (q : k (.int (i * j)) C) : dMul (.int i) (.int j) C k := ⟨h, q⟩
theorem tb_ok (q : kb b C) : tb kb (.bl b) C := ⟨b, rfl, q⟩
theorem len_tup (q : k (.int (xs.length : Nat)) C) : dLen [.tup xs] C k := ⟨_, _, rfl, rfl, q⟩
theorem len_str (h : s.length ≤ sizeLine) (q : k (.int (s.length : Nat)) C) : dLen [.str s] C k := ⟨_, _, rfl, ⟨h, rfl⟩, q⟩
theorem len_fr (q : k (.int (xs.length : Nat)) C) : dLen [.lst xs] C k := ⟨_, _, rfl, ⟨xs, rfl, rfl⟩, q⟩
theorem len_sl (q : k (.int (xs.length : Nat)) C) : dLen [.slst xs] C k := ⟨_, _, rfl, ⟨xs, rfl, rfl⟩, q⟩
theorem len_own (h : C a = some (.lst xs)) (q : k (.int (xs.length : Nat)) C) : dLen [.own a] C k := ⟨_, _, rfl, ⟨xs, seqR_own h, rfl⟩, q⟩
theorem ix_t {d : D} (h : atI xs i = some d) (q : k d C) : dIx (.tup xs) (.int i) C k := ⟨d, h, q⟩
theorem ix_f {d : D} (h : atI xs i = some d) (q : k d C) : dIx (.lst xs) (.int i) C k := ⟨xs, d, rfl, h, q⟩
theorem ix_s {d : D} (h : atI xs i = some d) (q : k d C) : dIx (.slst xs) (.int i) C k := ⟨xs, d, rfl, h, q⟩
theorem ix_o {d : D} (hc : C a = some (.lst xs)) (h : atI xs i = some d) (q : k d C) : dIx (.own a) (.int i) C k := ⟨xs, d, seqR_own hc, h, q⟩
theorem sl_t {lo hi : Option Int} (q : k (.tup (cutD xs lo hi)) C) : dSl (.tup xs) lo hi C k := q
theorem sl_z {lo hi : Option Int} (hl : s.length ≤ sizeLine) (q : k (.str (cutS s lo hi)) C) : dSl (.str s) lo hi C k := ⟨hl, q⟩
theorem sl_f {lo hi : Option Int} (q : ∀ p, C p = none → k (.own p) (put C p (.lst (cutD xs lo hi)))) : dSl (.lst xs) lo hi C k := ⟨xs, rfl, q⟩
theorem sl_o {lo hi : Option Int} (hc : C a = some (.lst xs)) (q : ∀ p, C p = none → k (.own p) (put C p (.lst (cutD xs lo hi)))) : dSl (.own a) lo hi C k := ⟨xs, seqR_own hc, q⟩
theorem isn_k (h : x.kind = true) (q : k (.bl x.isNon) C) : dIsN false x .non C k := by
  refine ⟨rfl, ?_⟩
  cases x <;> first | exact q | (simp [D.kind] at h)
theorem nisn_k (h : x.kind = true) (q : k (.bl (!x.isNon)) C) : dIsN true x .non C k := by
  refine ⟨rfl, ?_⟩
  cases x <;> first | exact q | (simp [D.kind] at h)
theorem int1_ok {f : Int → Int} (q : k (.int (f i)) C) : dInt1 f [.int i] C k := ⟨i, rfl, q⟩
theorem int2_ok {f : Int → Int → Int} (q : k (.int (f i j)) C) : dInt2 f [.int i, .int j] C k := ⟨i, j, rfl, q⟩
theorem int_i (q : k (.int i) C) : dInt [.int i] C k := .inl ⟨i, rfl, q⟩
theorem int_b (q : k (.int (if b then 1 else 0)) C) : dInt [.bl b] C k := .inr ⟨b, rfl, q⟩
theorem ins_c {c : Nat} (q : k (.bl (decide (c ∈ s.cps.toList))) C) : dIn false (.str ⟨#[c]⟩) (.str s) C k := ⟨c, s, rfl, rfl, q⟩
theorem tup_t (q : k (.tup xs) C) : dTuple [.tup xs] C k := ⟨_, rfl, q⟩
theorem tup_f (q : k (.tup xs) C) : dTuple [.lst xs] C k := ⟨_, rfl, xs, rfl, q⟩
/-- equality of data -/
def D.ok (x : D) : Bool := x.isPy && SeqAt.shaped x.py
theorem eq_ok (hx : x.ok = true) (hy : y.ok = true) (q : k (.bl (PyData.eqv x.py y.py)) C) : dEq false x y C k := by
  unfold D.ok at hx hy
  rw [Bool.and_eq_true] at hx hy
  refine .inl ⟨x.py, y.py, ?_, ?_, hx.2, hy.2, q⟩
  · cases x <;> first | (unfold pyC; simp only [hx.1]; rfl) | (simp [D.isPy] at hx)
  · cases y <;> first | (unfold pyC; simp only [hy.1]; rfl) | (simp [D.isPy] at hy)
theorem ne_ok (hx : x.ok = true) (hy : y.ok = true) (q : k (.bl (!PyData.eqv x.py y.py)) C) : dEq true x y C k := by
  unfold D.ok at hx hy
  rw [Bool.and_eq_true] at hx hy
  refine .inl ⟨x.py, y.py, ?_, ?_, hx.2, hy.2, q⟩
  · cases x <;> first | (unfold pyC; simp only [hx.1]; rfl) | (simp [D.isPy] at hx)
  · cases y <;> first | (unfold pyC; simp only [hy.1]; rfl) | (simp [D.isPy] at hy)
theorem eq_sS (q : k (.bl (s == t)) C) : dEq false (.str s) (.str t) C k := .inr ⟨s, t, rfl, rfl, q⟩
theorem ne_sS (q : k (.bl (!(s == t))) C) : dEq true (.str s) (.str t) C k := .inr ⟨s, t, rfl, rfl, q⟩
theorem eq_ii (q : k (.bl (i == j)) C) : dEq false (.int i) (.int j) C k := .inl ⟨.int i, .int j, rfl, rfl, rfl, rfl, by simpa [PyData.eqv] using q⟩
theorem ne_ii (q : k (.bl (!(i == j))) C) : dEq true (.int i) (.int j) C k := .inl ⟨.int i, .int j, rfl, rfl, rfl, rfl, by simpa [PyData.eqv] using q⟩
end
end DL
namespace DL
theorem and_T {A B : Prop} (a : A) : (true = true → A) ∧ (true = false → B) := ⟨fun _ => a, fun h => Bool.noConfusion h⟩
theorem and_F {A B : Prop} (b : B) : (false = true → A) ∧ (false = false → B) := ⟨fun h => Bool.noConfusion h, fun _ => b⟩
theorem and_S {b : Bool} {A B : Prop} (h1 : b = true → A) (h2 : b = false → B) : (b = true → A) ∧ (b = false → B) := ⟨h1, h2⟩
theorem ex_bl {b : Bool} {A : Bool → Prop} (h : A b) : ∃ t, D.bl b = D.bl t ∧ A t := ⟨b, rfl, h⟩
theorem ex_int {i : Int} {A : Int → Prop} (h : A i) : ∃ t, D.int i = D.int t ∧ A t := ⟨i, rfl, h⟩
end DL
/-! DLj: comprehensions by names. -/
namespace DL
open PySem PySem.Spec PyProof.Rows L2

/-- a def's context -/
structure Dfc (X : Cx) (N : List Str) (dsc : Scope) : Prop where
  n : X.N = N
  nd : X.N.Nodup
  sc : X.env.scope = dsc
  calm : X.calm = true
def LcB (X : Cx) (elt : Expr) (ifs : List Expr) (scope : Scope) (N M gs : List Str) (f : D → DEnv) (xs : List D) (Pc : CS → Prop) (C1 : CS) (k : KD) : Prop := ∃ Iv : Nat → List D → CS → Prop, Iv 0 [] C1 ∧ (∀ j acc C, Iv j acc C → Pc C) ∧
  (∀ j d acc C, xs[j]? = some d → Iv j acc C → ∀ X', Blk X scope X' → Nms X' N M → Gls X' gs → WIf X' ifs (f d) C fun t C3 => (t = true → ∀ X', Blk X scope X' → Nms X' N M → Gls X' gs → WE X' elt (f d) C3 fun y C4 => acc.length < sizeLine ∧ Iv (j + 1) (acc ++ [y]) C4) ∧ (t = false → Iv (j + 1) acc C3)) ∧
  (∀ acc C, Iv xs.length acc C → ∀ p, C p = none → k (.own p) (put C p (.lst acc)))
section
variable {X : Cx} {elt iter : Expr} {ifs : List Expr} {scope dsc : Scope} {env : DEnv} {C C1 : CS} {k : KD} {pos px : Pos} {E : DEnds} {N M gs : List Str} {x : Str} {f : D → DEnv} {xs : List D} {Pc : CS → Prop}
theorem blk_nms (D0 : Dfc X N dsc) (hv : visC (relS scope dsc) M = true) : ∀ X', Blk X scope X' → Nms X' N M := by
  rintro X' ⟨s, H, Ca, cl, fp, rfl⟩
  exact nms_of (sc := relS scope dsc) D0.n (by rw [← D0.sc]; rfl) D0.nd hv
theorem blk_gls (D0 : Dfc X N dsc) (hg : glC (relS scope dsc) gs = true) : ∀ X', Blk X scope X' → Gls X' gs := by
  rintro X' ⟨s, H, Ca, cl, fp, rfl⟩
  exact gls_of (sc := relS scope dsc) (by rw [← D0.sc]; rfl) hg
theorem lcB_I (D0 : Dfc X N dsc) (hP : Put N x env f) (hv : visC (relS scope dsc) M = true) (hg : glC (relS scope dsc) gs = true) (h : LcB X elt ifs scope N M gs f xs Pc C1 k) : ∃ i, N[i]? = some x ∧ LcI X elt ifs scope [i] (gName i) env xs Pc C1 k := by
  obtain ⟨i, h1, h2, h3⟩ := hP.set
  refine ⟨i, h1, ?_⟩
  obtain ⟨Iv, i0, hp, turn, done⟩ := h
  refine ⟨Iv, i0, hp, fun j d acc C hd hi => gw_name (List.mem_singleton.mpr rfl) ?_, done⟩
  rw [h3]
  exact fun X' hX => WIf.imp (turn j d acc C hd hi X' hX (blk_nms D0 hv X' hX) (blk_gls D0 hg X' hX)) fun t C3 z => ⟨fun ht X'' hX'' => z.1 ht X'' hX'' (blk_nms D0 hv X'' hX'') (blk_gls D0 hg X'' hX''), z.2⟩
theorem idxOf_of {α : Type} [BEq α] [LawfulBEq α] {l : List α} (nd : l.Nodup) {i : Nat} {x : α} (h : l[i]? = some x) : l.idxOf x = i := by
  obtain ⟨hi, rfl⟩ := List.getElem?_eq_some_iff.mp h
  exact nd.idxOf_getElem i hi
theorem lc_own (D0 : Dfc X N dsc) {i : Nat} (h1 : N[i]? = some x) (ok : blkC N dsc scope [(x, N.idxOf x)] = true) : BlkOk X.N X.env.scope scope [(x, i)] := by
  have nd : N.Nodup := by rw [← D0.n]; exact D0.nd
  rw [idxOf_of nd h1] at ok
  rw [D0.n, D0.sc]
  exact blkOk_by ok
theorem lc_pg (D0 : Dfc X N dsc) {i : Nat} (h1 : N[i]? = some x) (hx : onlyC (relS scope dsc) [x] = true) (s : Shared) (H : Hp) (Ca : Addr) (cl : List (Str × Addr)) (fp : List Addr) : PG (X.blk s H scope (compEnvC scope cl Ca X.env) fp) (.Name x px) (gName i) := by
  have e : (relS scope dsc).names.lookup x = some .local := by
    unfold onlyC at hx
    simp only [List.all_cons, List.all_nil, Bool.and_true] at hx
    exact nk_eq hx
  have e2 : (X.blk s H scope (compEnvC scope cl Ca X.env) fp).env.scope.names.lookup x = some .local := by
    have : (X.blk s H scope (compEnvC scope cl Ca X.env) fp).env.scope = relS scope dsc := by rw [← D0.sc]; rfl
    rw [this]; exact e
  exact pg_name D0.nd (by rw [show (X.blk s H scope (compEnvC scope cl Ca X.env) fp).N = N from D0.n]; exact h1) (.inl e2) (.inr e2)
theorem lc1 (M gs : List Str) (D0 : Dfc X N dsc) (hP : Put N x env f) (ok : blkC N dsc scope [(x, N.idxOf x)] = true) (hv : visC (relS scope dsc) M = true) (hg : glC (relS scope dsc) gs = true) (hx : onlyC (relS scope dsc) [x] = true)
    (h : WI X (.Name x px) iter env C fun xs Pc C1 => LcB X elt ifs scope N M gs f xs Pc C1 k) (hs : ∀ x, foldedSetIterable iter X.env x = pure x := by intro _; rfl) : WE X (.ListComp elt [⟨.Name x px, iter, ifs, 0⟩] scope pos) env C k := by
  obtain ⟨i, h1, _⟩ := hP.set
  have nd : N.Nodup := by rw [← D0.n]; exact D0.nd
  refine we_lc [(x, i)] D0.calm D0.nd (lc_own D0 h1 ok) (lc_pg D0 h1 hx) ?_ hs
  obtain ⟨wi, hi, hw⟩ := h
  refine ⟨wi, hi, fun G σ H R w er q => hw G σ H R w er fun J G' C' H' xs Pc f1 w1 it z => ?_⟩
  obtain ⟨j, h2, h3⟩ := lcB_I D0 hP hv hg z
  have : i = j := nodup_ix nd h1 h2
  subst this
  exact q J G' C' H' xs Pc f1 w1 it h3
/-- y = [..] -/
theorem ws_lc1 (M gs : List Str) {M0 : List Str} {y : Str} {py spos : Pos} {fy : D → DEnv} (D0 : Dfc X N dsc) (hy : Put N y env fy) (hyl : onlyC dsc [y] = true)
    (hP : Put N x env f) (ok : blkC N dsc scope [(x, N.idxOf x)] = true) (hv : visC (relS scope dsc) M = true) (hg : glC (relS scope dsc) gs = true) (hx : onlyC (relS scope dsc) [x] = true)
    (hsw : swapsWith (.ListComp elt [⟨.Name x px, iter, ifs, 0⟩] scope pos) (some (.Name y py)) spos.line X.env = pure true)
    (h : WI X (.Name x px) iter env C fun xs Pc C1 => LcB X elt ifs scope N M gs f xs Pc C1 fun d C2 => E.nx (fy d) C2) (hs : ∀ x, foldedSetIterable iter X.env x = pure x := by intro _; rfl) :
    WS X (.Assign [.Name y py] (.ListComp elt [⟨.Name x px, iter, ifs, 0⟩] scope pos) spos) env C E := by
  obtain ⟨i, h1, _⟩ := hP.set
  obtain ⟨iy, g1, g2, _⟩ := hy.set
  have nd : N.Nodup := by rw [← D0.n]; exact D0.nd
  have e : X.env.scope.names.lookup y = some .local := by
    unfold onlyC at hyl
    simp only [List.all_cons, List.all_nil, Bool.and_true] at hyl
    rw [D0.sc]; exact nk_eq hyl
  refine ws_setLc [(x, i)] (i := iy) D0.calm D0.nd (by rw [D0.n]; exact g1) e hsw (lc_own D0 h1 ok) (lc_pg D0 h1 hx) ?_ hs
  obtain ⟨wi, hi, hw⟩ := h
  refine ⟨wi, hi, fun G σ H R w er q => hw G σ H R w er fun J G' C' H' xs Pc f1 w1 it z => ?_⟩
  obtain ⟨j, h2, h3⟩ := lcB_I D0 hP hv hg z
  have : i = j := nodup_ix nd h1 h2
  subst this
  refine q J G' C' H' xs Pc f1 w1 it ?_
  show LcI X elt ifs scope [i] (gName i) env xs Pc C' fun d C2 => E.nx (env.set iy (some d)) C2
  rw [show (fun (d : D) (C2 : CS) => E.nx (env.set iy (some d)) C2) = fun d C2 => E.nx (fy d) C2 from by funext d C2; rw [g2]]
  exact h3
/-- each item gives a value, nothing changes -/
theorem LcB.map (g : D → D) (hP : Pc C1) (hl : xs.length ≤ sizeLine) (hx : ∀ d ∈ xs, ∀ X', Blk X scope X' → Nms X' N M → Gls X' gs → WE X' elt (f d) C1 fun y C' => y = g d ∧ C' = C1)
    (hk : ∀ p, C1 p = none → k (.own p) (put C1 p (.lst (xs.map g)))) : LcB X elt [] scope N M gs f xs Pc C1 k := by
  refine ⟨fun j acc C => C = C1 ∧ acc = (xs.take j).map g, ⟨rfl, rfl⟩, fun j acc C h => by rw [h.1]; exact hP, ?_, ?_⟩
  · rintro j d acc C hd ⟨rfl, rfl⟩ X' hX B G
    refine wif_nil ⟨fun _ X' hX B G => (hx d (List.mem_of_getElem? hd) X' hX B G).imp fun y C' z => ?_, fun h => Bool.noConfusion h⟩
    obtain ⟨rfl, rfl⟩ := z
    have hj : j < xs.length := (List.getElem?_eq_some_iff.mp hd).1
    refine ⟨by simp; omega, rfl, ?_⟩
    rw [List.take_add_one, hd, List.map_append]
    rfl
  · rintro acc C ⟨rfl, rfl⟩ p hp
    rw [List.take_length]
    exact hk p hp
/-- .. with a test -/
theorem LcB.filter {c : Expr} (t : D → Bool) (g : D → D) (hP : Pc C1) (hl : xs.length ≤ sizeLine) (ht : ∀ d ∈ xs, ∀ X', Blk X scope X' → Nms X' N M → Gls X' gs → WT X' c (f d) C1 fun b C' => b = t d ∧ C' = C1)
    (hx : ∀ d ∈ xs, t d = true → ∀ X', Blk X scope X' → Nms X' N M → Gls X' gs → WE X' elt (f d) C1 fun y C' => y = g d ∧ C' = C1)
    (hk : ∀ p, C1 p = none → k (.own p) (put C1 p (.lst ((xs.filter t).map g)))) : LcB X elt [c] scope N M gs f xs Pc C1 k := by
  refine ⟨fun j acc C => C = C1 ∧ acc = ((xs.take j).filter t).map g, ⟨rfl, rfl⟩, fun j acc C h => by rw [h.1]; exact hP, ?_, ?_⟩
  · rintro j d acc C hd ⟨rfl, rfl⟩ X' hX B G
    have hj : j < xs.length := (List.getElem?_eq_some_iff.mp hd).1
    refine wif_one ((ht d (List.mem_of_getElem? hd) X' hX B G).imp fun b C' z => ?_)
    obtain ⟨rfl, rfl⟩ := z
    refine ⟨fun hb X' hX B G => (hx d (List.mem_of_getElem? hd) hb X' hX B G).imp fun y C' z => ?_, fun hb => ⟨rfl, ?_⟩⟩
    · obtain ⟨rfl, rfl⟩ := z
      refine ⟨?_, rfl, ?_⟩
      · have h1 := List.length_filter_le t (xs.take j)
        rw [List.length_take] at h1
        rw [List.length_map]
        omega
      · rw [List.take_add_one, hd, List.filter_append, List.map_append]
        simp [hb]
    · rw [List.take_add_one, hd, List.filter_append]
      simp [hb]
  · rintro acc C ⟨rfl, rfl⟩ p hp
    rw [List.take_length]
    exact hk p hp
/-- frozen where it stands -/
def Frz (k : KD) : KD := fun d C1 => ∃ ds, seqL C1 d = some ds ∧ ((∃ a, d = .own a ∧ k (.lst ds) (del C1 a)) ∨ (d = .lst ds ∧ k (.lst ds) C1))
theorem we_fz {e : Expr} (h : WE X e env C (Frz k)) : WE X e env C k := we_frz h
theorem frz_ok {ds : List D} {p : Addr} (h : C p = none) (q : k (.lst ds) C) : Frz k (.own p) (put C p (.lst ds)) :=
  ⟨ds, seqL_own put_same, .inl ⟨p, rfl, by rw [del_put h]; exact q⟩⟩
end
end DL
/-! DLk: the context of a body as one fact; the rules over it; defs. -/
namespace DL
open PySem PySem.Spec PyProof.Rows L2

/-- a body runs: the module's facts, room for m calls -/
structure Ctx (P : Program) (w : World) (K : PySem.W.Frag) (mg : Str → Option Value) (base : Heap) (m : Nat) (X : Cx) : Prop where
  prog : X.prog = P
  w : X.w = w
  K : X.K = K
  mg : X.mg = mg
  base : X.base = base
  room : Room m X.A
  guards : X.A.guards = some []
  calm : X.calm = true
section
variable {P : Program} {w : World} {K : PySem.W.Frag} {mg : Str → Option Value} {base : Heap} {m n : Nat} {X X' : Cx} {scope : Scope} {x : Str} {S : DSp} {d : D}
theorem Ctx.blk (h : Ctx P w K mg base m X) (hX : Blk X scope X') : Ctx P w K mg base m X' := by
  obtain ⟨s, H, Ca, cl, fp, rfl⟩ := hX
  exact ⟨h.prog, h.w, h.K, h.mg, h.base, h.room, h.guards, h.calm⟩
theorem Ctx.zs (h : Ctx P w K mg base m X) (Z : Zs mg) : Zs X.mg := by rw [h.mg]; exact Z
theorem Ctx.fn (h : Ctx P w K mg base m X) (F : FnC P w K mg base x n S) : FnC X.prog X.w X.K X.mg X.base x n S := by rw [h.prog, h.w, h.K, h.mg, h.base]; exact F
/-- a constant of the module -/
def MgK (K : PySem.W.Frag) (mg : Str → Option Value) (x : Str) (d : D) : Prop := ∃ u v, mg x = some u ∧ RelV v u ∧ ∀ G, Dat K G v d
theorem Ctx.mgd (h : Ctx P w K mg base m X) (F : MgK K mg x d) : MgD X x d := by unfold MgD; rw [h.mg, h.K]; exact F
theorem mgk_int {i : Int} {t : Tok} (h : mg x = some (.int i t)) : MgK K mg x (.int i) := ⟨_, .int i, h, ⟨t, rfl⟩, fun _ => .int i⟩
theorem mgk_str {z : Str} {t : Tok} (h : mg x = some (.str z t)) : MgK K mg x (.str z) := ⟨_, .str z, h, ⟨t, rfl⟩, fun _ => .str z⟩
end
section
variable {P : Program} {w : World} {K : PySem.W.Frag} {mg : Str → Option Value} {base : Heap} {m n : Nat} {X : Cx} {e a b o : Expr} {es : List Expr} {env : DEnv} {C : CS} {k : KD} {pos p p1 p2 : Pos} {kb : Bool → CS → Prop} {E : DEnds}
theorem x_len (hx : Ctx P w K mg base m X) (Z : Zs mg) (hg : Gl X "len") (h : WA X (e :: es) env C fun ds C1 => dLen ds C1 k) (he : starEach (e :: es) X.env = (false, eval e X.env) :: starEach es X.env := by rfl) (hpl : (backTo pos (starEach es X.env)).any (·.1) = false := by rfl) : WE X (.Call (.Name "len" p) (e :: es) [] pos) env C k := we_len (hx.zs Z) hg h he hpl
theorem x_isi (hx : Ctx P w K mg base m X) (Z : Zs mg) (hg : Gl X "isinstance") (h : WA X (e :: es) env C fun ds C1 => dIsi ds C1 k) (he : starEach (e :: es) X.env = (false, eval e X.env) :: starEach es X.env := by rfl) (hpl : (backTo pos (starEach es X.env)).any (·.1) = false := by rfl) : WE X (.Call (.Name "isinstance" p) (e :: es) [] pos) env C k := we_isi (hx.zs Z) hg h he hpl
theorem x_abs (hx : Ctx P w K mg base m X) (Z : Zs mg) (hg : Gl X "abs") (h : WA X (e :: es) env C fun ds C1 => dInt1 (fun i => if i < 0 then -i else i) ds C1 k) (he : starEach (e :: es) X.env = (false, eval e X.env) :: starEach es X.env := by rfl) (hpl : (backTo pos (starEach es X.env)).any (·.1) = false := by rfl) : WE X (.Call (.Name "abs" p) (e :: es) [] pos) env C k := we_abs (hx.zs Z) hg h he hpl
theorem x_any (hx : Ctx P w K mg base m X) (Z : Zs mg) (hg : Gl X "any") (h : WA X (e :: es) env C fun ds C1 => dAny ds C1 k) (he : starEach (e :: es) X.env = (false, eval e X.env) :: starEach es X.env := by rfl) (hpl : (backTo pos (starEach es X.env)).any (·.1) = false := by rfl) : WE X (.Call (.Name "any" p) (e :: es) [] pos) env C k := we_any hx.calm (hx.zs Z) hg h he hpl
theorem x_all (hx : Ctx P w K mg base m X) (Z : Zs mg) (hg : Gl X "all") (h : WA X (e :: es) env C fun ds C1 => dAll ds C1 k) (he : starEach (e :: es) X.env = (false, eval e X.env) :: starEach es X.env := by rfl) (hpl : (backTo pos (starEach es X.env)).any (·.1) = false := by rfl) : WE X (.Call (.Name "all" p) (e :: es) [] pos) env C k := we_all hx.calm (hx.zs Z) hg h he hpl
theorem x_sum (hx : Ctx P w K mg base m X) (Z : Zs mg) (hg : Gl X "sum") (h : WA X (e :: es) env C fun ds C1 => dSum ds C1 k) (he : starEach (e :: es) X.env = (false, eval e X.env) :: starEach es X.env := by rfl) (hpl : (backTo pos (starEach es X.env)).any (·.1) = false := by rfl) : WE X (.Call (.Name "sum" p) (e :: es) [] pos) env C k := we_sum hx.calm (hx.zs Z) hg h he hpl
theorem x_intC (hx : Ctx P w K mg base m X) (Z : Zs mg) (hg : Gl X "int") (h : WA X (e :: es) env C fun ds C1 => dInt ds C1 k) (he : starEach (e :: es) X.env = (false, eval e X.env) :: starEach es X.env := by rfl) (hpl : (backTo pos (starEach es X.env)).any (·.1) = false := by rfl) : WE X (.Call (.Name "int" p) (e :: es) [] pos) env C k := we_intC (hx.zs Z) hg h he hpl
theorem x_strC (hx : Ctx P w K mg base m X) (Z : Zs mg) (hg : Gl X "str") (h : WA X (e :: es) env C fun ds C1 => dStrInt ds C1 k) (he : starEach (e :: es) X.env = (false, eval e X.env) :: starEach es X.env := by rfl) (hpl : (backTo pos (starEach es X.env)).any (·.1) = false := by rfl) : WE X (.Call (.Name "str" p) (e :: es) [] pos) env C k := we_strC (hx.zs Z) hg h he hpl
theorem x_tupleC (hx : Ctx P w K mg base m X) (Z : Zs mg) (hg : Gl X "tuple") (h : WA X (e :: es) env C fun ds C1 => dTuple ds C1 k) (he : starEach (e :: es) X.env = (false, eval e X.env) :: starEach es X.env := by rfl) (hpl : (backTo pos (starEach es X.env)).any (·.1) = false := by rfl) : WE X (.Call (.Name "tuple" p) (e :: es) [] pos) env C k := we_tupleC (hx.zs Z) hg h he hpl
theorem x_listC (hx : Ctx P w K mg base m X) (Z : Zs mg) (hg : Gl X "list") (h : WA X (e :: es) env C fun ds C1 => dList ds C1 k) (he : starEach (e :: es) X.env = (false, eval e X.env) :: starEach es X.env := by rfl) (hpl : (backTo pos (starEach es X.env)).any (·.1) = false := by rfl) : WE X (.Call (.Name "list" p) (e :: es) [] pos) env C k := we_listC (hx.zs Z) hg h he hpl
theorem x_max2 (hx : Ctx P w K mg base m X) (Z : Zs mg) (hg : Gl X "max") (h : WA X [a, b] env C fun ds C1 => dInt2 (fun i j => if j > i then j else i) ds C1 k) (he : starEach [a, b] X.env = (false, eval a X.env) :: starEach [b] X.env := by rfl) (hpl : (backTo pos (starEach [b] X.env)).any (·.1) = false := by rfl) : WE X (.Call (.Name "max" p) [a, b] [] pos) env C k := we_max2 hx.calm (hx.zs Z) hg h he hpl
theorem x_min2 (hx : Ctx P w K mg base m X) (Z : Zs mg) (hg : Gl X "min") (h : WA X [a, b] env C fun ds C1 => dInt2 (fun i j => if j < i then j else i) ds C1 k) (he : starEach [a, b] X.env = (false, eval a X.env) :: starEach [b] X.env := by rfl) (hpl : (backTo pos (starEach [b] X.env)).any (·.1) = false := by rfl) : WE X (.Call (.Name "min" p) [a, b] [] pos) env C k := we_min2 hx.calm (hx.zs Z) hg h he hpl
theorem x_minL (hx : Ctx P w K mg base m X) (Z : Zs mg) (hg : Gl X "min") (h : WA X [a] env C fun ds C1 => dMinL ds C1 k) (he : starEach [a] X.env = (false, eval a X.env) :: starEach [] X.env := by rfl) (hpl : (backTo pos (starEach [] X.env)).any (·.1) = false := by rfl) : WE X (.Call (.Name "min" p) [a] [] pos) env C k := we_minL hx.calm (hx.zs Z) hg h he hpl
theorem x_tyInt (hx : Ctx P w K mg base m X) (Z : Zs mg) (hg : Gl X "int") (h : k (.opq (.ty "int")) C) : WE X (.Name "int" pos) env C k := we_tyInt (hx.zs Z) hg h
theorem x_tyBool (hx : Ctx P w K mg base m X) (Z : Zs mg) (hg : Gl X "bool") (h : k (.opq (.ty "bool")) C) : WE X (.Name "bool" pos) env C k := we_tyBool (hx.zs Z) hg h
theorem x_tyStr (hx : Ctx P w K mg base m X) (Z : Zs mg) (hg : Gl X "str") (h : k (.opq (.ty "str")) C) : WE X (.Name "str" pos) env C k := we_tyStr (hx.zs Z) hg h
theorem x_tyList (hx : Ctx P w K mg base m X) (Z : Zs mg) (hg : Gl X "list") (h : k (.opq (.ty "list")) C) : WE X (.Name "list" pos) env C k := we_tyList (hx.zs Z) hg h
theorem x_tyTuple (hx : Ctx P w K mg base m X) (Z : Zs mg) (hg : Gl X "tuple") (h : k (.opq (.ty "tuple")) C) : WE X (.Name "tuple" pos) env C k := we_tyTuple (hx.zs Z) hg h
theorem x_eq (hx : Ctx P w K mg base m X) (h : WE X a env C fun x C1 => WE X b env C1 fun y C2 => dEq false x y C2 k) : WE X (.Compare a [.Eq] [b] pos) env C k := we_eq hx.room h
theorem xt_eq (hx : Ctx P w K mg base m X) (h : WE X a env C fun x C1 => WE X b env C1 fun y C2 => dEq false x y C2 (tb kb)) : WT X (.Compare a [.Eq] [b] pos) env C kb := wt_eq hx.room h
theorem x_ne (hx : Ctx P w K mg base m X) (h : WE X a env C fun x C1 => WE X b env C1 fun y C2 => dEq true x y C2 k) : WE X (.Compare a [.NotEq] [b] pos) env C k := we_ne hx.room h
theorem xt_ne (hx : Ctx P w K mg base m X) (h : WE X a env C fun x C1 => WE X b env C1 fun y C2 => dEq true x y C2 (tb kb)) : WT X (.Compare a [.NotEq] [b] pos) env C kb := wt_ne hx.room h
theorem x_in (hx : Ctx P w K mg base m X) (h : WE X a env C fun x C1 => WE X b env C1 fun y C2 => dIn false x y C2 k) (hm : behindInMarks .In b = false := by rfl) : WE X (.Compare a [.In] [b] pos) env C k := we_in hx.room h hm
theorem xt_in (hx : Ctx P w K mg base m X) (h : WE X a env C fun x C1 => WE X b env C1 fun y C2 => dIn false x y C2 (tb kb)) (hm : behindInMarks .In b = false := by rfl) : WT X (.Compare a [.In] [b] pos) env C kb := wt_in hx.room h hm
theorem x_nin (hx : Ctx P w K mg base m X) (h : WE X a env C fun x C1 => WE X b env C1 fun y C2 => dIn true x y C2 k) (hm : behindInMarks .NotIn b = false := by rfl) : WE X (.Compare a [.NotIn] [b] pos) env C k := we_nin hx.room h hm
theorem xt_nin (hx : Ctx P w K mg base m X) (h : WE X a env C fun x C1 => WE X b env C1 fun y C2 => dIn true x y C2 (tb kb)) (hm : behindInMarks .NotIn b = false := by rfl) : WT X (.Compare a [.NotIn] [b] pos) env C kb := wt_nin hx.room h hm
theorem x_call {x : Str} {S : DSp} (hx : Ctx P w K mg base m X) (h : FnC P w K mg base x n S) (hg : Gl X x) (ha : WA X (e :: es) env C fun ds C1 => S ds C1 k) (hle : n ≤ m := by decide)
    (hdb : (x == ("__debug__" : Str)) = false := by decide) (he : starEach (e :: es) X.env = (false, eval e X.env) :: starEach es X.env := by rfl) (hpl : (backTo pos (starEach es X.env)).any (·.1) = false := by rfl) : WE X (.Call (.Name x p) (e :: es) [] pos) env C k := we_call (hx.fn h) hx.guards hx.room hg ha hle hdb he hpl
theorem x_glob {x : Str} {d : D} (hx : Ctx P w K mg base m X) (hm : MgK K mg x d) (hg : Gl X x) (h : k d C) (hd : (x == ("__debug__" : Str)) = false := by decide) : WE X (.Name x pos) env C k := we_glob (hx.mgd hm) hg h hd

/-! walks -/
variable {tg iter : Expr} {body : List Stmt} {kI : KI}
theorem x_range1 (hx : Ctx P w K mg base m X) (Z : Zs mg) (hg : Gl X "range") (h : WA X [a] env C fun ds C1 => ∃ j : Int, ds = [.int j] ∧ -(2 ^ 62) ≤ j ∧ j < 2 ^ 62 ∧ kI (intsFrom 0 j.toNat) (fun _ => True) C1) (hs : starEach [a] X.env = [(false, eval a X.env)] := by rfl) :
    WI X tg (.Call (.Name "range" p) [a] [] pos) env C kI := wi_range1 (hx.zs Z).range hg h hs
/-- no exception leaves -/
structure Nox (X : Cx) : Prop where
  xe : X.xe = fun _ _ => False
theorem Nox.passes (h : Nox X) : PassesOwn (model X.prog X.w) X.A X.env X.xe := by rw [h.xe]; exact PassesOwn.never
theorem x_for (hx : Ctx P w K mg base m X) (hn : Nox X)
    (h : WI X tg iter env C fun xs Pc C1 => ∃ Iv : Nat → DEnv → CS → Prop, Iv 0 env C1 ∧ (∀ i env C, Iv i env C → Pc C) ∧
      (∀ i d env C, xs[i]? = some d → Iv i env C → WG X tg d env C fun env' C' => WSs X body env' C' { nx := Iv (i + 1), rt := E.rt, bk := E.nx, ct := Iv (i + 1) }) ∧ (∀ env C, Iv xs.length env C → E.nx env C))
    (hs : ∀ x, foldedSetIterable iter X.env x = pure x := by intro _; rfl) : WS X (.For tg iter body [] pos) env C E := ws_for hn.passes hx.calm h hs
end

/-! ### stores of two or three names at once -/
def envOf (sc : Scope) : Env := { scope := sc, locals := 0, globals := 0, cells := [], qual := "", func := none, code := .none, frame := none, builtins := 0 }
theorem sst_env {env : Env} {sc : Scope} (h : env.scope = sc) (ts : List Expr) (v : Expr) : swappedStores ts v env = swappedStores ts v (envOf sc) := by
  have e1 : env.blockKind = (envOf sc).blockKind := by unfold Env.blockKind; rw [h]; rfl
  have e2 : env.kindOf = (envOf sc).kindOf := by funext x; unfold Env.kindOf; rw [h]; rfl
  unfold swappedStores
  rw [e1, e2]
theorem sww_env {env : Env} {sc : Scope} (h : env.scope = sc) (v : Expr) (t : Option Expr) (l : Nat) : swapsWith v t l env = swapsWith v t l (envOf sc) := by
  have e1 : env.blockKind = (envOf sc).blockKind := by unfold Env.blockKind; rw [h]; rfl
  have e2 : env.kindOf = (envOf sc).kindOf := by funext x; unfold Env.kindOf; rw [h]; rfl
  have e3 : env.scope = (envOf sc).scope := h
  unfold swapsWith
  rw [e1, e2, e3]
end DL
/-! DLl: stores of several names; defs by an opaque context. -/
namespace DL
open PySem PySem.Spec PyProof.Rows L2

/-- a, b, c = x, y, z with plain local names: stored from the right -/
theorem ps_par3 {X : Cx} {pos : Pos} {i j l : Nat} {x y z : Str} {a b c : Expr} {ta : TA} {px py pz pt : Pos} {kt k2 pt2} (hc : X.calm = true) (hN : X.N.Nodup) (hi : X.N[i]? = some x) (hj : X.N[j]? = some y) (hl : X.N[l]? = some z)
    (hx : X.env.scope.names.lookup x = some .local) (hy : X.env.scope.names.lookup y = some .local) (hz : X.env.scope.names.lookup z = some .local) (ha : PA X [a, b, c] ta)
    (hw : swappedStores [.Tuple [.Name x px, .Name y py, .Name z pz] kt pt] (.Tuple [a, b, c] k2 pt2) X.env = pure (some [x, y, z]))
    (hs : swapsWithSole [.Tuple [.Name x px, .Name y py, .Name z pz] kt pt] (.Tuple [a, b, c] k2 pt2) pos.line X.env = pure false := by rfl) :
    PS X (.Assign [.Tuple [.Name x px, .Name y py, .Name z pz] kt pt] (.Tuple [a, b, c] k2 pt2) pos) (fun D σ H => ta σ H fun vs H1 => ∃ v w u, vs = [v, w, u] ∧ D.nx (((σ.set l (some u)).set j (some w)).set i (some v)) H1) := by
  refine ⟨fun pins s σ H D I h => ?_⟩
  rw [exec_Assign_arm]
  refine wpAny_bind (wpAny_standAt ?_)
  rw [hs]
  refine wpAny_bind (wpAny_pure ?_)
  rw [if_neg (by decide)]
  refine wpAny_bind (Tuple_ (L2.thn (ha.run _ pins s σ H _ I h) fun us s1 ⟨vs, H1, I1, r1, q1⟩ => ?_))
  obtain ⟨v, w, u, e1, q1⟩ := q1
  subst e1
  obtain ⟨u1, u2, u3, rfl, rv, rw', ru⟩ : ∃ u1 u2 u3, us = [u1, u2, u3] ∧ RelV v u1 ∧ RelV w u2 ∧ RelV u u3 := by
    cases r1 with
    | cons p q =>
      cases q with
      | cons p' q' =>
        cases q' with
        | cons p'' q'' =>
          cases q''
          exact ⟨_, _, _, rfl, p, p', p''⟩
  refine wpAny_newObj_type ?_ (by show 3 ≤ sizeLine; decide)
  have I2 : Inv X pins σ H1 { s1 with heap := s1.heap.push { cls := .type "tuple", data := .seq [u1, u2, u3].toArray } } := I1.kept (t' := s1.toks) fun b o e => Heap.get?_push_of_some _ e
  rw [hw]
  refine wpAny_bind (wpAny_pure ?_)
  show wpAny (model X.prog X.w) X.A (do rule "assign.swapped-stores"; let items ← unpackItems (.ref s1.heap.objs.size) 3 none; assignInOrder [fun v => bindName X.env z v, fun v => bindName X.env y v, fun v => bindName X.env x v] items.reverse; pure Flow.next) _ _ _
  refine wpAny_bind (wpAny_rule (wpAny_bind (unpackItems_tuple (items := #[u1, u2, u3]) (I.ok.hd hc) (IsTup.new s1.heap _) fun h' hx' => ?_)))
  have I3 := I2.kept (h' := h') (t' := s1.toks) fun b o e => hx' b o (Nat.ne_of_lt (Heap.lt_size e)) e
  show wpAny _ _ (assignInOrder [fun v => bindName X.env z v, fun v => bindName X.env y v, fun v => bindName X.env x v] [u3, u2, u1] >>= fun _ => pure Flow.next) _ _ _
  refine wpAny_bind (assignInOrder_cons (wpAny_bindName (store_ok I3 hN hl (.inl hz) ru (fun s2 I4 => ?_) (.inr hz))))
  refine assignInOrder_cons (wpAny_bindName (store_ok I4 hN hj (.inl hy) rw' (fun s3 I5 => ?_) (.inr hy)))
  refine assignInOrder_cons (wpAny_bindName (store_ok I5 hN hi (.inl hx) rv (fun s4 I6 => assignInOrder_nil (wpAny_pure ?_)) (.inr hx)))
  exact ⟨_, H1, I6, q1⟩

section
variable {X : Cx} {e a b c : Expr} {env : DEnv} {C : CS} {k : KD} {pos : Pos} {E : DEnds} {N : List Str} {dsc : Scope}
theorem only_loc {y : Str} (D0 : Dfc X N dsc) (h : onlyC dsc [y] = true) : X.env.scope.names.lookup y = some .local := by
  unfold onlyC at h
  simp only [List.all_cons, List.all_nil, Bool.and_true] at h
  rw [D0.sc]; exact nk_eq h
theorem x_par2 {x y : Str} {px py pt : Pos} {kt k2 : Nat} {pt2 : Pos} {f : D → DEnv} {g : D → D → DEnv} (D0 : Dfc X N dsc) (h1 : Put N y env f) (h2 : ∀ v, Put N x (f v) fun u => g u v) (hx : onlyC dsc [x] = true) (hy : onlyC dsc [y] = true) (hne : (x == y) = false)
    (hw : swappedStores [.Tuple [.Name x px, .Name y py] kt pt] (.Tuple [a, b] k2 pt2) (envOf dsc) = pure (some [x, y]))
    (h : WA X [a, b] env C fun ds C1 => ∃ u v, ds = [u, v] ∧ E.nx (g u v) C1)
    (hs : swapsWithSole [.Tuple [.Name x px, .Name y py] kt pt] (.Tuple [a, b] k2 pt2) pos.line X.env = pure false := by rfl) :
    WS X (.Assign [.Tuple [.Name x px, .Name y py] kt pt] (.Tuple [a, b] k2 pt2) pos) env C E := by
  obtain ⟨j, n1, s1, _⟩ := h1.set
  have ne : x ≠ y := fun e => by rw [e] at hne; simp at hne
  have hi : ∃ i : Nat, N[i]? = some x ∧ ∀ u v, (env.set j (some v)).set i (some u) = g u v := by
    obtain ⟨i, n2, _, _⟩ := (h2 .non).set
    refine ⟨i, n2, fun u v => ?_⟩
    obtain ⟨i', n3, s3, _⟩ := (h2 v).set
    have nd : N.Nodup := by rw [← D0.n]; exact D0.nd
    have : i = i' := nodup_ix nd n2 n3
    subst this
    rw [s1, s3]
  obtain ⟨i, n2, s2⟩ := hi
  have hij : i ≠ j := fun e => ne (by rw [e, n1] at n2; exact (Option.some.inj n2).symm)
  refine ws_par (i := i) (j := j) D0.calm D0.nd (by rw [D0.n]; exact n2) (by rw [D0.n]; exact n1) hij (only_loc D0 hx) (only_loc D0 hy) (h.imp fun ds C' z => ?_) (by rw [sst_env D0.sc]; exact hw) hs
  obtain ⟨u, v, e1, z⟩ := z
  exact ⟨u, v, e1, by rw [List.set_comm _ _ hij, s2]; exact z⟩
theorem x_par3 {x y z : Str} {px py pz pt : Pos} {kt k2 : Nat} {pt2 : Pos} {f : D → DEnv} {g : D → D → DEnv} {g3 : D → D → D → DEnv} (D0 : Dfc X N dsc) (h1 : Put N z env f) (h2 : ∀ v, Put N y (f v) fun u => g u v) (h3 : ∀ u v, Put N x (g u v) fun t => g3 t u v)
    (hx : onlyC dsc [x] = true) (hy : onlyC dsc [y] = true) (hz : onlyC dsc [z] = true)
    (hw : swappedStores [.Tuple [.Name x px, .Name y py, .Name z pz] kt pt] (.Tuple [a, b, c] k2 pt2) (envOf dsc) = pure (some [x, y, z]))
    (h : WA X [a, b, c] env C fun ds C1 => ∃ t u v, ds = [t, u, v] ∧ E.nx (g3 t u v) C1)
    (hs : swapsWithSole [.Tuple [.Name x px, .Name y py, .Name z pz] kt pt] (.Tuple [a, b, c] k2 pt2) pos.line X.env = pure false := by rfl) :
    WS X (.Assign [.Tuple [.Name x px, .Name y py, .Name z pz] kt pt] (.Tuple [a, b, c] k2 pt2) pos) env C E := by
  have nd : N.Nodup := by rw [← D0.n]; exact D0.nd
  obtain ⟨l, n1, s1, _⟩ := h1.set
  obtain ⟨j, n2, _, _⟩ := (h2 .non).set
  obtain ⟨i, n3, _, _⟩ := (h3 .non .non).set
  have all : ∀ t u v, ((env.set l (some v)).set j (some u)).set i (some t) = g3 t u v := fun t u v => by
    obtain ⟨j', m2, r2, _⟩ := (h2 v).set
    obtain ⟨i', m3, r3, _⟩ := (h3 u v).set
    have e1 : j = j' := nodup_ix nd n2 m2
    have e2 : i = i' := nodup_ix nd n3 m3
    subst e1; subst e2
    rw [s1, r2, r3]
  refine .of (ps_par3 (i := i) (j := j) (l := l) D0.calm D0.nd (by rw [D0.n]; exact n3) (by rw [D0.n]; exact n2) (by rw [D0.n]; exact n1) (only_loc D0 hx) (only_loc D0 hy) (only_loc D0 hz) pa_tAr (by rw [sst_env D0.sc]; exact hw) hs) fun G σ H D w er q => h G σ H _ w er fun vs G1 C1 H1 ds f1 w1 r1 zz => ?_
  obtain ⟨t, u, v, rfl, zz⟩ := zz
  cases r1 with
  | @cons t' _ _ _ r1 r2 =>
    cases r2 with
    | @cons u' _ _ _ r2 r3 =>
      cases r3 with
      | @cons v' _ _ _ r3 r4 =>
        cases r4
        exact ⟨t', u', v', rfl, q.nx G1 C1 H1 _ _ f1 w1 ((((er.mono f1.exG).set l r3).set j r2).set i r1) (by rw [all]; exact zz)⟩
end

/-! ### defs by an opaque context -/
section
variable {P : Program} {w : World} {K : PySem.W.Frag} {mg : Str → Option Value} {base : Heap}
structure Bdy (P : Program) (w : World) (K : PySem.W.Frag) (mg : Str → Option Value) (base : Heap) (n : Nat) (N M Ds : List Str) (dsc : Scope) (X : Cx) : Prop where
  x : Ctx P w K mg base n X
  b : Nms X N M
  s : Sts X N M
  g : Gls X Ds
  d : Dfc X N dsc
  nox : Nox X
theorem fnX {x qual : Str} {st : Stmt} {f : Addr} {fd : FuncData} {N M Ds ps : List Str} {n : Nat} {S : DSp} (F : Fun K x qual st f fd) (sc : FnScope N ps (defScope st)) (hv : visC (defScope st) M = true) (hlc : locC (defScope st) M = true) (hg : glC (defScope st) Ds = true)
    (hl : ∀ ds C k, S ds C k → ds.length = ps.length)
    (hb : ∀ (X : Cx), Bdy P w K mg base n N M Ds (defScope st) X → ∀ (ds : List D) (C : CS) (k : KD), S ds C k → WSs X (defBody st) (startD N ds) C { nx := fun _ C' => k .non C', rt := k }) : FnG P w K mg base CX0 (n + 1) f fd ps (toSp K S) :=
  fnD F sc hl fun cdv A outer s H E ds C k hgd hr h => hb _ ⟨⟨rfl, rfl, rfl, rfl, rfl, hr, hgd, rfl⟩, nms_of rfl (sc := defScope st) rfl sc.nd hv, sts_of rfl (sc := defScope st) rfl sc.nd hlc (fun _ => rfl), gls_of (sc := defScope st) rfl hg, ⟨rfl, sc.nd, rfl, rfl⟩, ⟨rfl⟩⟩ ds C k h
end
end DL
namespace DL
open PySem L2
theorem wo_n {X : Cx} {env : DEnv} {C : CS} {k : Option Int → CS → Prop} (h : k none C) : WO X none env C k := h
theorem wo_s {X : Cx} {e : Expr} {env : DEnv} {C : CS} {k : Option Int → CS → Prop} (h : WE X e env C fun d C1 => ∃ i, d = .int i ∧ k (some i) C1) : WO X (some e) env C k := h
theorem ex_2 {a b : D} {A : D → D → Prop} (h : A a b) : ∃ u v, [a, b] = [u, v] ∧ A u v := ⟨a, b, rfl, h⟩
theorem ex_3 {a b c : D} {A : D → D → D → Prop} (h : A a b c) : ∃ t u v, [a, b, c] = [t, u, v] ∧ A t u v := ⟨a, b, c, rfl, h⟩
end DL
/-! DLm: a test that stores; data that is fit for ==. -/
namespace DL
open PySem PySem.Spec PyProof.Rows L2
section
variable {X : Cx} {e a b c : Expr} {env : DEnv} {C : CS} {k : KD} {pos p1 p2 py pc : Pos} {E : DEnds} {N M : List Str} {s1 s2 : List Stmt}
/-- if (y := e) op b: .. -/
theorem x_ifW {y : Str} {op : CmpOp} {r : R2} {p : OpD} {f : D → DEnv} (B : Sts X N M) (hm' : Mem y M) (hP : Put N y env f) (ho : OpR X (compareOp op) r) (hr : R2D X.K r p)
    (h : WE X e env C fun d C1 => WE X b (f d) C1 fun z C2 => p d z C2 fun t' C3 => ∃ t, t' = .bl t ∧ (t = true → WSs X s1 (f d) C3 E) ∧ (t = false → WSs X s2 (f d) C3 E)) (hm : behindInMarks op b = false) :
    WS X (.If (.Compare (.NamedExpr (.Name y py) e p1) [op] [b] pc) s1 s2 pos) env C E := by
  obtain ⟨i, h1, h2, _⟩ := hP.set
  refine .of (ps_ifW (ptw_cmp ho (pew_named (i := i) B.nd (by rw [B.n]; exact h1) (B.loc y hm'.mem) (pew_of pe_tS) (B.fn y hm'.mem)) pe_tS hm) pss_tXs pss_tXs) fun G σ H D w er q => ?_
  refine h G σ H _ w er fun v G1 C1 H1 d f1 w1 r1 z => ?_
  have er1 : EnvR X.K G1 (f d) (σ.set i (some v)) := by rw [← h2]; exact (er.mono f1.exG).set i r1
  refine z G1 _ H1 _ w1 er1 fun u G2 C2 H2 y2 f2 w2 r2 z2 => ?_
  refine hr v u d y2 G2 C2 H2 _ _ w2 (r1.mono f2.exG) r2 z2 fun t' G3 C3 H3 d3 f3 w3 r3 z3 => ?_
  obtain ⟨t, rfl, z3⟩ := z3
  cases r3
  have F := (f1.trans f2).trans f3
  refine ⟨t, rfl, ?_⟩
  cases t with
  | true => exact iteT (z3.1 rfl G3 _ H3 D w3 (er1.mono (f2.trans f3).exG) (q.after F))
  | false => exact iteF (z3.2 rfl G3 _ H3 D w3 (er1.mono (f2.trans f3).exG) (q.after F))
theorem x_ifWge {y : Str} {f : D → DEnv} (B : Sts X N M) (hm' : Mem y M) (hP : Put N y env f)
    (h : WE X e env C fun d C1 => WE X b (f d) C1 fun z C2 => dB2 (fun i j => decide (j ≤ i)) d z C2 fun t' C3 => ∃ t, t' = .bl t ∧ (t = true → WSs X s1 (f d) C3 E) ∧ (t = false → WSs X s2 (f d) C3 E)) :
    WS X (.If (.Compare (.NamedExpr (.Name y py) e p1) [.GtE] [b] pc) s1 s2 pos) env C E := x_ifW B hm' hP op_ge r2_B h (nomark _)
end

/-! ### data fit for == -/
mutual
/-- built of what == compares, at most so deep -/
def D.fit : Nat → D → Bool
  | _, .non | _, .bl _ | _, .int _ => true
  | _, .str x => PyData.strOk x
  | 0, .lst _ | 0, .slst _ | 0, .tup _ => false
  | n + 1, .lst xs => fitL n xs
  | n + 1, .slst xs => fitL n xs
  | n + 1, .tup xs => fitL n xs
  | _, _ => false
def fitL : Nat → List D → Bool
  | _, [] => true
  | n, d :: ds => d.fit n && fitL n ds
end
theorem fitL_all {n : Nat} : ∀ {ds : List D}, fitL n ds = true ↔ ∀ d ∈ ds, d.fit n = true
  | [] => by simp [fitL]
  | d :: ds => by simp [fitL, fitL_all (ds := ds)]
mutual
theorem fit_py : ∀ (d : D) {n : Nat}, d.fit n = true → d.isPy = true
  | .non, _, _ | .bl _, _, _ | .int _, _, _ | .str _, _, _ => rfl
  | .lst xs, 0, h | .slst xs, 0, h | .tup xs, 0, h => by simp [D.fit] at h
  | .lst xs, n + 1, h => by unfold D.isPy; exact fitL_py xs (n := n) (by simpa [D.fit] using h)
  | .slst xs, n + 1, h => by unfold D.isPy; exact fitL_py xs (n := n) (by simpa [D.fit] using h)
  | .tup xs, n + 1, h => by unfold D.isPy; exact fitL_py xs (n := n) (by simpa [D.fit] using h)
  | .obj _ _ _, n, h => by cases n <;> simp [D.fit] at h
  | .own _, n, h => by cases n <;> simp [D.fit] at h
  | .opq _, n, h => by cases n <;> simp [D.fit] at h
theorem fitL_py : ∀ (ds : List D) {n : Nat}, fitL n ds = true → allPy ds = true
  | [], _, _ => rfl
  | d :: ds, n, h => by
    simp only [fitL, Bool.and_eq_true] at h
    simp only [allPy, Bool.and_eq_true]
    exact ⟨fit_py d h.1, fitL_py ds h.2⟩
end
mutual
theorem fit_lay : ∀ (d : D) {n : Nat}, d.fit n = true → d.py.canLay0 = true
  | .non, _, _ | .bl _, _, _ | .int _, _, _ => rfl
  | .str x, n, h => by cases n <;> exact h
  | .lst xs, 0, h | .slst xs, 0, h | .tup xs, 0, h => by simp [D.fit] at h
  | .lst xs, n + 1, h => by simp only [D.py, PyData.canLay0]; exact fitL_lay xs (n := n) (by simpa [D.fit] using h)
  | .slst xs, n + 1, h => by simp only [D.py, PyData.canLay0]; exact fitL_lay xs (n := n) (by simpa [D.fit] using h)
  | .tup xs, n + 1, h => by simp only [D.py, PyData.canLay0]; exact fitL_lay xs (n := n) (by simpa [D.fit] using h)
  | .obj _ _ _, n, h => by cases n <;> simp [D.fit] at h
  | .own _, n, h => by cases n <;> simp [D.fit] at h
  | .opq _, n, h => by cases n <;> simp [D.fit] at h
theorem fitL_lay : ∀ (ds : List D) {n : Nat}, fitL n ds = true → PyData.canLayAll0 (pyL ds) = true
  | [], _, _ => rfl
  | d :: ds, n, h => by
    simp only [fitL, Bool.and_eq_true] at h
    simp only [pyL, PyData.canLayAll0, Bool.and_eq_true]
    exact ⟨fit_lay d h.1, fitL_lay ds h.2⟩
end
mutual
theorem fit_depth : ∀ (d : D) {n : Nat}, d.fit n = true → d.py.depth ≤ n
  | .non, _, _ | .bl _, _, _ | .int _, _, _ | .str _, _, _ => Nat.zero_le _
  | .lst xs, 0, h | .slst xs, 0, h | .tup xs, 0, h => by simp [D.fit] at h
  | .lst xs, n + 1, h => Nat.succ_le_succ (fitL_depth xs (n := n) (by simpa [D.fit] using h))
  | .slst xs, n + 1, h => Nat.succ_le_succ (fitL_depth xs (n := n) (by simpa [D.fit] using h))
  | .tup xs, n + 1, h => Nat.succ_le_succ (fitL_depth xs (n := n) (by simpa [D.fit] using h))
  | .obj _ _ _, n, h => by cases n <;> simp [D.fit] at h
  | .own _, n, h => by cases n <;> simp [D.fit] at h
  | .opq _, n, h => by cases n <;> simp [D.fit] at h
theorem fitL_depth : ∀ (ds : List D) {n : Nat}, fitL n ds = true → PyData.depthAll (pyL ds) ≤ n
  | [], _, _ => Nat.zero_le _
  | d :: ds, n, h => by
    simp only [fitL, Bool.and_eq_true] at h
    exact Nat.max_le.mpr ⟨fit_depth d h.1, fitL_depth ds h.2⟩
end
theorem fit_ok {d : D} {n : Nat} (h : d.fit n = true) (hn : n ≤ 64 := by decide) : d.ok = true := by
  unfold D.ok SeqAt.shaped
  simp only [Bool.and_eq_true, decide_eq_true_eq]
  exact ⟨fit_py d h, fit_lay d h, Nat.le_trans (fit_depth d h) hn⟩
mutual
theorem fit_mono : ∀ (d : D) {n m : Nat}, d.fit n = true → n ≤ m → d.fit m = true
  | .non, _, _, _, _ | .bl _, _, _, _, _ | .int _, _, _, _, _ => by simp [D.fit]
  | .str x, n, m, h, _ => by
    have : PyData.strOk x = true := by cases n <;> exact h
    cases m <;> exact this
  | .lst xs, 0, _, h, _ | .slst xs, 0, _, h, _ | .tup xs, 0, _, h, _ => by simp [D.fit] at h
  | .lst xs, n + 1, 0, h, l | .slst xs, n + 1, 0, h, l | .tup xs, n + 1, 0, h, l => absurd l (by omega)
  | .lst xs, n + 1, m + 1, h, l => by simp only [D.fit] at h ⊢; exact fitL_mono xs h (by omega)
  | .slst xs, n + 1, m + 1, h, l => by simp only [D.fit] at h ⊢; exact fitL_mono xs h (by omega)
  | .tup xs, n + 1, m + 1, h, l => by simp only [D.fit] at h ⊢; exact fitL_mono xs h (by omega)
  | .obj _ _ _, n, _, h, _ => by cases n <;> simp [D.fit] at h
  | .own _, n, _, h, _ => by cases n <;> simp [D.fit] at h
  | .opq _, n, _, h, _ => by cases n <;> simp [D.fit] at h
theorem fitL_mono : ∀ (ds : List D) {n m : Nat}, fitL n ds = true → n ≤ m → fitL m ds = true
  | [], _, _, _, _ => rfl
  | d :: ds, n, m, h, l => by
    simp only [fitL, Bool.and_eq_true] at h ⊢
    exact ⟨fit_mono d h.1 l, fitL_mono ds h.2 l⟩
end
theorem eq_fit {C : CS} {k : KD} {x y : D} {n m : Nat} (hx : x.fit n = true) (hy : y.fit m = true) (q : k (.bl (PyData.eqv x.py y.py)) C) (hn : n ≤ 64 := by decide) (hm : m ≤ 64 := by decide) : dEq false x y C k := eq_ok (fit_ok hx hn) (fit_ok hy hm) q
end DL
namespace DL
open PySem L2
theorem wt_bo {X : Cx} {op : PySem.BoolOp} {es : List Expr} {env : DEnv} {C : CS} {kb : Bool → CS → Prop} {pos : Pos} (h : WW X (.BoolOp op es pos) env C kb) : WT X (.BoolOp op es pos) env C kb := wt_ww h
end DL
namespace DL
open PySem L2
theorem isTup_eq {x : D} (h : x.isTup = true) : ∃ xs, x = .tup xs := by cases x <;> first | exact ⟨_, rfl⟩ | (simp [D.isTup] at h; done)
theorem isStr_eq {x : D} (h : x.isStr = true) : ∃ s, x = .str s := by cases x <;> first | exact ⟨_, rfl⟩ | (simp [D.isStr] at h; done)
theorem two_of {α : Type} {xs : List α} (h : xs.length = 2) : ∃ a b, xs = [a, b] := by
  match xs, h with
  | [a, b], _ => exact ⟨a, b, rfl⟩
theorem fit_tup {xs : List D} {n : Nat} (h : (D.tup xs).fit n = true) : ∃ m, n = m + 1 ∧ ∀ d ∈ xs, d.fit m = true := by
  cases n with
  | zero => simp [D.fit] at h
  | succ m => exact ⟨m, rfl, fitL_all.mp (by simpa [D.fit] using h)⟩
end DL
namespace DL
open PySem L2
theorem sIx_nat' (n d k : Nat) : HT.sIx n d (some (k : Int)) = min k n := HT.sIx_nat n d k
def eqL (xs ys : List D) : Bool := PyData.eqvAll (pyL xs) (pyL ys)
theorem fit_tupI {xs : List D} {n : Nat} (h : ∀ d ∈ xs, d.fit n = true) : (D.tup xs).fit (n + 1) = true := by simp only [D.fit]; exact fitL_all.mpr h
theorem fit_lstI {xs : List D} {n : Nat} (h : ∀ d ∈ xs, d.fit n = true) : (D.lst xs).fit (n + 1) = true := by simp only [D.fit]; exact fitL_all.mpr h
end DL
namespace DL
open PySem L2
theorem all_map {C : CS} {k : KD} {xs : List D} {f : D → Bool} (q : k (.bl (xs.all f)) C) : dAll [.lst (xs.map fun d => .bl (f d))] C k :=
  ⟨_, xs.map f, rfl, by simp only [seqR, List.map_map]; rfl, by rw [List.all_map]; exact q⟩
end DL
namespace DL
open PySem L2
theorem sz_ok {n : Nat} {B : Prop} (h : Nat.ble n 1000 = true) (q : B) : n ≤ sizeLine ∧ B := ⟨Nat.le_trans (Nat.le_of_ble_eq_true h) (by decide), q⟩
theorem sz_as {n : Nat} {B : Prop} (h : n ≤ sizeLine) (q : B) : n ≤ sizeLine ∧ B := ⟨h, q⟩
theorem dec_t {p : Prop} [Decidable p] (h : decide p = true) : p := of_decide_eq_true h
theorem dec_f {p : Prop} [Decidable p] (h : decide p = false) : ¬ p := of_decide_eq_false h
end DL
namespace DL
open PySem PySem.Spec PyProof.Rows L2
section
variable {X : Cx} {e a b o : Expr} {es : List Expr} {env : DEnv} {C : CS} {k : KD} {pos apos cpos : Pos} {kb : Bool → CS → Prop}
theorem we_nil (h : ∀ p, C p = none → k (.own p) (put C p (.lst []))) : WE X (.List [] pos) env C k := we_lst (wa_nil ⟨Nat.zero_le _, h⟩)
abbrev H1 (X : Cx) (o e : Expr) (name : Str) (apos cpos : Pos) : Prop := attributeBase o name X.env (eval o X.env) = eval o X.env
theorem x_append (h : WE X o env C fun x C1 => tyD "list" C1 x ∧ WE X e env C1 fun y C2 => dAppend x [y] C2 k)
    (hbase : attributeBase o "append" X.env (eval o X.env) = eval o X.env := by rfl)
    (hfew : ((backTo cpos (starEach (e :: []) X.env)).all (fun x => !x.1) && (backToKw cpos (keywordEach [] X.env)).all (fun x => x.1.isSome)
      && decide ((e :: []).length + ([] : List Keyword).length + (if ([] : List Keyword).isEmpty then 0 else 1) < 30)) = true := by rfl)
    (hline : (apos.endLine == cpos.line) = true := by rfl) (hs : starEach (e :: []) X.env = (false, eval e X.env) :: starEach [] X.env := by rfl) (hplain : (backTo cpos (starEach [] X.env)).any (·.1) = false := by rfl) :
    WE X (.Call (.Attribute o "append" apos) [e] [] cpos) env C k :=
  we_bm PySem.F.plainAttrs_list PySem.F.slot_list_append PySem.F.type_list_append mt_append rm_append (h.imp fun x C1 z => ⟨z.1, wa_cons (z.2.imp fun y C2 q => wa_nil q) hs⟩) hbase hfew hline hs hplain
theorem app_ok {p : Addr} {xs : List D} {y : D} (hc : C p = some (.lst xs)) (hl : xs.length < sizeLine) (q : k .non (put C p (.lst (xs ++ [y])))) : dAppend (.own p) [y] C k := ⟨p, xs, y, rfl, rfl, hc, hl, q⟩
theorem app_put {p : Addr} {xs : List D} {y : D} (hl : xs.length < sizeLine) (q : k .non (put C p (.lst (xs ++ [y])))) : dAppend (.own p) [y] (put C p (.lst xs)) k := ⟨p, xs, y, rfl, rfl, put_same, hl, by rw [put_put]; exact q⟩
theorem ty_own {p : Addr} {xs : List D} {B : Prop} (hc : C p = some (.lst xs)) (q : B) : tyD "list" C (.own p) ∧ B := ⟨.inl ⟨rfl, xs, hc⟩, q⟩
theorem ty_put {p : Addr} {xs : List D} {B : Prop} (q : B) : tyD "list" (put C p (.lst xs)) (.own p) ∧ B := ⟨.inl ⟨rfl, xs, put_same⟩, q⟩
theorem tuple_A {x : D} {rs : List D} (h : seqA C x = some rs) (q : k (.tup rs) C) : dTuple [x] C k := by
  refine ⟨x, rfl, ?_⟩
  cases x <;> simp only [seqA, Option.some.injEq] at h ⊢ <;> first | (subst h; exact q) | exact ⟨rs, h, q⟩
end
end DL
namespace DL
open PySem PySem.Spec PyProof.Rows L2
theorem x_gtup {P : Program} {w : World} {K : PySem.W.Frag} {mg : Str → Option Value} {base : Heap} {m : Nat} {X : Cx} {env : DEnv} {C : CS} {pos : Pos} {ts : List Expr} {n : Nat} {ds : List D} {kE : DEnv → CS → Prop} (hx : Ctx P w K mg base m X) (hl : ds.length = (assignEach ts X.env).length) (h : WGs X ts ds env C kE) (hst : (assignEach ts X.env).findIdx? (·.1) = none := by rfl) : WG X (.Tuple ts n pos) (.tup ds) env C kE := wg_tup hx.calm hl h hst
end DL
namespace DL
open PySem L2
theorem ix_p {C : CS} {k : KD} {p : Addr} {xs : List D} {i : Int} {d : D} (h : atI xs i = some d) (q : k d (put C p (.lst xs))) : dIx (.own p) (.int i) (put C p (.lst xs)) k := ix_o put_same h q
theorem setL_p {C : CS} {p : Addr} {xs : List D} {n : Int} {j : Nat} {d : D} {env : DEnv} {kE : DEnv → CS → Prop} (hj : ixN xs.length n = some j) (q : kE env (put C p (.lst (xs.set j d)))) : ∃ p' n' ys j', D.own p = .own p' ∧ D.int n = .int n' ∧ (put C p (.lst xs)) p' = some (.lst ys) ∧ ixN ys.length n' = some j' ∧ kE env (put (put C p (.lst xs)) p' (.lst (ys.set j' d))) :=
  ⟨p, n, xs, j, rfl, rfl, put_same, hj, by rw [put_put]; exact q⟩
theorem setL_o {C : CS} {p : Addr} {xs : List D} {n : Int} {j : Nat} {d : D} {env : DEnv} {kE : DEnv → CS → Prop} (hc : C p = some (.lst xs)) (hj : ixN xs.length n = some j) (q : kE env (put C p (.lst (xs.set j d)))) : ∃ p' n' ys j', D.own p = .own p' ∧ D.int n = .int n' ∧ C p' = some (.lst ys) ∧ ixN ys.length n' = some j' ∧ kE env (put C p' (.lst (ys.set j' d))) :=
  ⟨p, n, xs, j, rfl, rfl, hc, hj, q⟩
theorem len_put {C : CS} {k : KD} {p : Addr} {xs : List D} (q : k (.int (xs.length : Nat)) (put C p (.lst xs))) : dLen [.own p] (put C p (.lst xs)) k := len_own put_same q
end DL
namespace DL
open PySem PySem.Spec PyProof.Rows L2
theorem ws_asgD {X : Cx} {N : List Str} {dsc : Scope} {e tg : Expr} {env : DEnv} {C : CS} {pos : Pos} {E : DEnds} (D0 : Dfc X N dsc) (h : WE X e env C fun d C1 => WG X tg d env C1 E.nx) (hw : swappedStores [tg] e (envOf dsc) = pure none) (hs : swapsWithSole [tg] e pos.line X.env = pure false := by rfl)
    (h1 : (assignEach [tg] X.env).map (·.2) = [assign tg X.env] := by rfl) : WS X (.Assign [tg] e pos) env C E := ws_asg h hs (by rw [sst_env D0.sc]; exact hw) h1
end DL
/-! DLn: methods by their names; texts. -/
namespace DL
open PySem PySem.Spec PyProof.Rows L2
section
variable {X : Cx} {e a b o : Expr} {es : List Expr} {env : DEnv} {C : CS} {k : KD} {pos apos cpos : Pos} {kb : Bool → CS → Prop}
theorem x_join (h : WE X o env C fun x C1 => tyD "str" C1 x ∧ WA X (e :: es) env C1 fun ds C2 => dJoin x ds C2 k)
    (hbase : attributeBase o "join" X.env (eval o X.env) = eval o X.env := by rfl)
    (hfew : ((backTo cpos (starEach (e :: es) X.env)).all (fun x => !x.1) && (backToKw cpos (keywordEach [] X.env)).all (fun x => x.1.isSome)
      && decide ((e :: es).length + ([] : List Keyword).length + (if ([] : List Keyword).isEmpty then 0 else 1) < 30)) = true := by rfl)
    (hline : (apos.endLine == cpos.line) = true := by rfl) (hs : starEach (e :: es) X.env = (false, eval e X.env) :: starEach es X.env := by rfl) (hplain : (backTo cpos (starEach es X.env)).any (·.1) = false := by rfl) :
    WE X (.Call (.Attribute o "join" apos) (e :: es) [] cpos) env C k :=
  we_bm PySem.F.plainAttrs_str PySem.F.slot_str_join PySem.F.type_str_join mt_join rm_join h hbase hfew hline hs hplain
theorem x_sindex (h : WE X o env C fun x C1 => tyD "str" C1 x ∧ WA X (e :: es) env C1 fun ds C2 => dSIndex x ds C2 k)
    (hbase : attributeBase o "index" X.env (eval o X.env) = eval o X.env := by rfl)
    (hfew : ((backTo cpos (starEach (e :: es) X.env)).all (fun x => !x.1) && (backToKw cpos (keywordEach [] X.env)).all (fun x => x.1.isSome)
      && decide ((e :: es).length + ([] : List Keyword).length + (if ([] : List Keyword).isEmpty then 0 else 1) < 30)) = true := by rfl)
    (hline : (apos.endLine == cpos.line) = true := by rfl) (hs : starEach (e :: es) X.env = (false, eval e X.env) :: starEach es X.env := by rfl) (hplain : (backTo cpos (starEach es X.env)).any (·.1) = false := by rfl) :
    WE X (.Call (.Attribute o "index" apos) (e :: es) [] cpos) env C k :=
  we_bm PySem.F.plainAttrs_str PySem.F.slot_str_index PySem.F.type_str_index mt_sindex rm_sindex h hbase hfew hline hs hplain
theorem x_insert (h : WE X o env C fun x C1 => tyD "list" C1 x ∧ WA X (e :: es) env C1 fun ds C2 => dInsert x ds C2 k)
    (hbase : attributeBase o "insert" X.env (eval o X.env) = eval o X.env := by rfl)
    (hfew : ((backTo cpos (starEach (e :: es) X.env)).all (fun x => !x.1) && (backToKw cpos (keywordEach [] X.env)).all (fun x => x.1.isSome)
      && decide ((e :: es).length + ([] : List Keyword).length + (if ([] : List Keyword).isEmpty then 0 else 1) < 30)) = true := by rfl)
    (hline : (apos.endLine == cpos.line) = true := by rfl) (hs : starEach (e :: es) X.env = (false, eval e X.env) :: starEach es X.env := by rfl) (hplain : (backTo cpos (starEach es X.env)).any (·.1) = false := by rfl) :
    WE X (.Call (.Attribute o "insert" apos) (e :: es) [] cpos) env C k :=
  we_bm PySem.F.plainAttrs_list PySem.F.slot_list_insert PySem.F.type_list_insert mt_insert rm_insert h hbase hfew hline hs hplain
theorem x_popAt (h : WE X o env C fun x C1 => tyD "list" C1 x ∧ WA X (e :: es) env C1 fun ds C2 => dPopAt x ds C2 k)
    (hbase : attributeBase o "pop" X.env (eval o X.env) = eval o X.env := by rfl)
    (hfew : ((backTo cpos (starEach (e :: es) X.env)).all (fun x => !x.1) && (backToKw cpos (keywordEach [] X.env)).all (fun x => x.1.isSome)
      && decide ((e :: es).length + ([] : List Keyword).length + (if ([] : List Keyword).isEmpty then 0 else 1) < 30)) = true := by rfl)
    (hline : (apos.endLine == cpos.line) = true := by rfl) (hs : starEach (e :: es) X.env = (false, eval e X.env) :: starEach es X.env := by rfl) (hplain : (backTo cpos (starEach es X.env)).any (·.1) = false := by rfl) :
    WE X (.Call (.Attribute o "pop" apos) (e :: es) [] cpos) env C k :=
  we_bm PySem.F.plainAttrs_list PySem.F.slot_list_pop PySem.F.type_list_pop mt_popAt rm_popAt h hbase hfew hline hs hplain
end
theorem x_ixL {X : Cx} {es : List Expr} {b : Expr} {env : DEnv} {C : CS} {k : KD} {pos p1 : Pos} (h : WA X es env C fun ds C1 => ds.length ≤ sizeLine ∧ WE X b env C1 fun y C2 => dIx (.lst ds) y C2 k) (hs : PlainIx b := by intro _ _; rfl) : WE X (.Subscript (.List es p1) b pos) env C k := we_ix (we_lstF h) hs
theorem ty_str {C : CS} {z : Str} {B : Prop} (q : B) : tyD "str" C (.str z) ∧ B := ⟨rfl, q⟩
/-- a text of signs -/
def sg (c : Nat) : Str := ⟨#[c]⟩
theorem str_ext {x y : Str} (h : x.cps.toList = y.cps.toList) : x = y := by
  cases x with
  | mk a => cases y with
    | mk b => exact congrArg Str.mk (Array.toList_inj.mp h)
theorem str_app (x y : Str) : (x ++ y).cps.toList = x.cps.toList ++ y.cps.toList := by
  show (x.cps ++ y.cps).toList = _
  rw [Array.toList_append]
theorem str_len (x : Str) : x.length = x.cps.toList.length := by
  show x.cps.size = _
  rw [Array.length_toList]
/-- cells forgotten -/
def Sub (C2 C1 : CS) : Prop := ∀ a c, C2 a = some c → C1 a = some c
theorem Sub.refl (C : CS) : Sub C C := fun _ _ h => h
theorem Sub.trans {C1 C2 C3 : CS} (a : Sub C1 C2) (b : Sub C2 C3) : Sub C1 C3 := fun x c h => b x c (a x c h)
theorem Sub.put {C C1 : CS} (h : Sub C C1) (a : Addr) (c : Cell) : Sub (put C a c) (put C1 a c) := fun x d e => by
  by_cases q : x = a
  · subst q; rw [put_same] at e ⊢; exact e
  · rw [put_ne q] at e ⊢; exact h x d e
theorem Sub.new {C C1 : CS} {a : Addr} {c : Cell} (h : Sub C C1) (ha : C a = none) : Sub C (DL.put C1 a c) := fun x d e => by
  have : x ≠ a := fun q => by subst q; rw [ha] at e; cases e
  rw [put_ne this]; exact h x d e
theorem fnS {P : Program} {w : World} {K : PySem.W.Frag} {mg : Str → Option Value} {base : Heap} {x qual : Str} {st : Stmt} {f : Addr} {fd : FuncData} {N M Ds ps : List Str} {n : Nat} {S : DSp} (F : Fun K x qual st f fd) (sc : FnScope N ps (defScope st)) (hv : visC (defScope st) M = true) (hlc : locC (defScope st) M = true) (hg : glC (defScope st) Ds = true)
    (hl : ∀ ds C k, S ds C k → ds.length = ps.length)
    (hb : ∀ (X : Cx), Bdy P w K mg base n N M Ds (defScope st) X → ∀ (ds : List D) (C : CS) (k : KD), S ds C k → WSs X (defBody st) (startD N ds) C { nx := fun _ C1 => ∃ C2, Sub C2 C1 ∧ k .non C2, rt := fun d C1 => ∃ C2, Sub C2 C1 ∧ k d C2 }) : FnG P w K mg base CX0 (n + 1) f fd ps (toSp K S) :=
  fnX F sc hv hlc hg hl fun X hB ds C k hS G σ H D0 wl er q => hb X hB ds C k hS G σ H D0 wl er
    ⟨fun G' C' H' σ' env f' w' er' ⟨C2, hs, z⟩ => let ⟨w2, f2⟩ := w'.sub hs; q.nx G' C2 H' σ' env (f'.trans f2) w2 er' z,
     fun v G' C' H' d f' w' r ⟨C2, hs, z⟩ => let ⟨w2, f2⟩ := w'.sub hs; q.rt v G' C2 H' d (f'.trans f2) w2 r z, fun G' C' H' σ' env f' w' er' z => z.elim, fun G' C' H' σ' env f' w' er' z => z.elim⟩
theorem nodup_sub {α : Type} [DecidableEq α] : ∀ (xs ys : List α), xs.Nodup → (∀ x ∈ xs, x ∈ ys) → xs.length ≤ ys.length
  | [], _, _, _ => Nat.zero_le _
  | x :: xs, ys, nd, h => by
    have hx := h x List.mem_cons_self
    have nd' := List.nodup_cons.mp nd
    have := nodup_sub xs (ys.erase x) nd'.2 fun y hy => (List.mem_erase_of_ne (fun e => by subst e; exact nd'.1 hy)).mpr (h y (List.mem_cons_of_mem _ hy))
    rw [List.length_erase_of_mem hx] at this
    have hp : 0 < ys.length := List.length_pos_of_mem hx
    rw [List.length_cons]
    omega
end DL
/-! DLo: classes in a tuple; zip; two names in a comprehension. -/
namespace DL
open PySem PySem.Spec PyProof.Rows L2 RZ
/-- isinstance with a tuple of classes, wherever the tuple stands -/
def rIsiU (K : PySem.W.Frag) : List V → Hp → VK → Prop := fun xs H Q => ∃ (x : V) (tp : Addr) (cs : List V) (t : Value) (us : List Value) (b : Bool), xs = [x, .ref tp] ∧ SqT K H tp cs ∧ Paired ClsV cs us ∧ TyX K H x t ∧ PySem.W.kitAny K t us = some b ∧ Q (.bl b) H
theorem call_isiU {X : Cx} : CallR X (.builtin "isinstance") (rIsiU X.K) := by
  rintro pins s σ H xs us Q I r ⟨x, tp, cs, t, ws, b, rfl, hT, hcs, ty, e, q⟩
  obtain ⟨u1, u2, rfl, r1, r2⟩ := vals2 r
  obtain rfl : u2 = Value.ref tp := r2
  obtain ⟨P, hZ, hp, hne⟩ := kit_of I r1 ty
  obtain ⟨its, rv, ⟨⟨oc, od, dt, sl⟩, g1, g2, n, g3⟩, _⟩ := I.tuple hT
  obtain rfl := ClsV.all hcs rv
  simp only at g2 g3
  subst g2
  subst g3
  refine PySem.W.kia_tup hZ I.kIn hp g1 e hne ?_
  intro tk
  exact ⟨V.bl b, H, I.tok tk, rfl, q⟩
def kitL (T : String) : List String → Option Bool
  | [] => some false
  | U :: Us => match kitB T U with
    | some true => some true
    | some false => kitL T Us
    | none => none
theorem kitL_ok {K : PySem.W.Frag} {T : String} {b : Bool} : ∀ {Us : List String}, kitL T Us = some b → PySem.W.kitAny K (.type T) (Us.map fun U => .type U) = some b
  | [], h => by cases h; exact kitAny_nil
  | U :: Us, h => by
    unfold kitL at h
    cases e : kitB T U with
    | none => rw [e] at h; cases h
    | some t =>
      rw [e] at h
      cases t with
      | true => exact kitAny_cons (kit_ty e) (fun z => by cases z) fun _ => by cases h; rfl
      | false => exact kitAny_cons (kit_ty e) (fun _ => kitL_ok h) fun z => by cases z
def tysD (Us : List String) : List D := Us.map fun U => .opq (.ty U)
def dIsiT : List D → CS → KD → Prop := fun ds C k => ∃ x T Us b, ds = [x, .tup (tysD Us)] ∧ tyN C x = some T ∧ kitL T Us = some b ∧ k (.bl b) C
theorem dat_tys {K : PySem.W.Frag} {G : Hp} : ∀ {Us : List String} {vs : List V}, DatAll K G vs (tysD Us) → Paired ClsV vs (Us.map fun U => .type U)
  | [], _, h => by cases h; exact .nil
  | U :: Us, _, h => by
    cases h with
    | cons h1 h2 => cases h1; exact .cons (.ty U) (dat_tys h2)
theorem rl_isiT {K : PySem.W.Frag} : RLD K (rIsiU K) dIsiT := by
  rintro xs ds G C H k Q w rs ⟨x, T, Us, b, rfl, ht, hb, hk⟩ q
  cases rs with
  | cons r1 r2 =>
    cases r2 with
    | cons r2 r3 =>
      cases r3
      obtain ⟨a, vs, rfl, h1, h2⟩ := w.tup r2
      exact ⟨_, a, vs, .type T, _, b, rfl, h1, dat_tys h2, tyN_ok w r1 ht, kitL_ok hb, q _ _ _ _ _ (Fr.refl ..) w (.bl _) hk⟩
section
variable {X : Cx} {a e e2 elt iter : Expr} {ts es : List Expr} {env : DEnv} {C C1 : CS} {k : KD} {pos p p2 : Pos} {n m : Nat} {P : Program} {w : World} {K : PySem.W.Frag} {mg : Str → Option Value} {base : Heap}
theorem x_isiT (hx : Ctx P w K mg base m X) (Z : Zs mg) (hg : Gl X "isinstance") (h : WA X [a, .Tuple ts n p2] env C fun ds C1 => dIsiT ds C1 k) (he : starEach [a, .Tuple ts n p2] X.env = (false, eval a X.env) :: starEach [.Tuple ts n p2] X.env := by rfl)
    (hpl : (backTo pos (starEach [.Tuple ts n p2] X.env)).any (·.1) = false := by rfl) : WE X (.Call (.Name "isinstance" p) [a, .Tuple ts n p2] [] pos) env C k :=
  we_cb (hx.zs Z).isi call_isiU rl_isiT hg bt_isi h (he := he) (hpl := hpl)
end
section
variable {C : CS} {k : KD} {x : D}
theorem isi_lt (h : x.kind = true) (q : k (.bl (x.isLst || x.isTup)) C) : dIsiT [x, .tup [.opq (.ty "list"), .opq (.ty "tuple")]] C k := by
  cases x <;> first | exact ⟨_, _, ["list", "tuple"], true, rfl, rfl, by decide +kernel, q⟩ | exact ⟨_, _, ["list", "tuple"], false, rfl, rfl, by decide +kernel, q⟩ | (simp [D.kind] at h; done)
theorem isi_ownLT {a : Addr} {xs : List D} (h : C a = some (.lst xs)) (q : k (.bl true) C) : dIsiT [.own a, .tup [.opq (.ty "list"), .opq (.ty "tuple")]] C k :=
  ⟨_, "list", ["list", "tuple"], true, rfl, by simp [tyN, h], by decide +kernel, q⟩
end
/-! ### zip -/
def zipD : List D → List D → List D
  | x :: xs, y :: ys => .tup [x, y] :: zipD xs ys
  | _, _ => []
theorem zipD_get : ∀ {xs ys : List D} {i : Nat} {d : D}, (zipD xs ys)[i]? = some d → ∃ x y, d = .tup [x, y] ∧ xs[i]? = some x ∧ ys[i]? = some y
  | [], _, i, d, h => by simp [zipD] at h
  | _ :: _, [], i, d, h => by simp [zipD] at h
  | x :: xs, y :: ys, 0, d, h => by
    simp [zipD] at h
    exact ⟨x, y, h.symm, rfl, rfl⟩
  | x :: xs, y :: ys, i + 1, d, h => by
    simp [zipD] at h
    obtain ⟨x', y', h1, h2, h3⟩ := zipD_get h
    exact ⟨x', y', h1, by simpa using h2, by simpa using h3⟩
theorem zipD_len : ∀ {xs ys : List D}, xs.length = ys.length → (zipD xs ys).length = xs.length
  | [], _, _ => rfl
  | _ :: _, [], h => by cases h
  | x :: xs, y :: ys, h => by
    simp only [zipD, List.length_cons]
    rw [zipD_len (by simpa using h)]
/-- while P holds of the cells, a is the list of these data -/
def SeqOf (K : PySem.W.Frag) (a : Addr) (xs : List D) (Pc : CS → Prop) (G : Hp) : Prop := ∀ G' C' H', Same G G' → Wld K G' C' H' → Pc C' → ∃ vs, SqL K H' a vs ∧ DatAll K G' vs xs
/-- what a list's name says of the cells -/
def ownP (d : D) (xs : List D) : CS → Prop := fun C => ∀ a, d = .own a → C a = some (.lst xs)
theorem seqOf_dat {K : PySem.W.Frag} {G H : Hp} {C : CS} {v : V} {d : D} {xs : List D} (w : Wld K G C H) (r : Dat K G v d) (h : seqR C d = some xs) : ∃ a, v = .ref a ∧ SeqOf K a xs (ownP d xs) G ∧ ∃ vs, SqL K H a vs := by
  cases r with
  | lst x1 x2 =>
    simp [seqR] at h; subst h
    exact ⟨_, rfl, fun G' C' H' e w' _ => ⟨_, w'.ex.seq (e.seq (SqL.of x1)), x2.mono e⟩, _, w.ex.seq (SqL.of x1)⟩
  | slst x1 x2 =>
    simp [seqR] at h; subst h
    exact ⟨_, rfl, fun G' C' H' e w' _ => ⟨_, w'.ex.seq (e.seq x1), x2.mono e⟩, _, w.ex.seq x1⟩
  | own a =>
    obtain ⟨_, vs, y1, y2⟩ := w.cell a _ (own_seqR h)
    refine ⟨a, rfl, fun G' C' H' e w' p => ?_, _, SqL.of y1⟩
    obtain ⟨_, vs, z1, z2⟩ := w'.cell a _ (p a rfl)
    exact ⟨vs, SqL.of z1, z2⟩
  | _ => simp [seqR] at h
theorem iterD_zipT {K : PySem.W.Frag} {G : Hp} {a b : Addr} {vs us : List V} {xs ys : List D} (hl : xs.length = ys.length) (h1 : SqT K G a vs) (r1 : DatAll K G vs xs) (h2 : SqT K G b us) (r2 : DatAll K G us ys) : IterD K (ItzT K a b) (zipD xs ys) (fun _ => True) G := by
  rintro G' C' H' e w _
  have q1 : SqT K H' a vs := Same.sqT w.ex (Same.sqT e h1)
  have q2 : SqT K H' b us := Same.sqT w.ex (Same.sqT e h2)
  refine ⟨fun i d hd => ?_, fun i hi => ⟨vs, us, q1, q2, .inl (by rw [r1.length]; rwa [zipD_len hl] at hi)⟩⟩
  obtain ⟨x, y, rfl, gx, gy⟩ := zipD_get hd
  obtain ⟨v1, t1, d1⟩ := r1.get gx
  obtain ⟨v2, t2, d2⟩ := r2.get gy
  refine ⟨⟨vs, us, v1, v2, q1, q2, t1, t2⟩, ?_⟩
  rintro v H2 ⟨T, x', y', rfl, hT, rfl, f1, f2⟩
  have e1 := f1 vs q1
  rw [t1] at e1; cases e1
  have e2 := f2 us q2
  rw [t2] at e2; cases e2
  obtain ⟨w2, f2, s2⟩ := w.newG hT (.tup [v1, v2])
  exact ⟨_, f2, w2, .tup (SqT.of upd_same) (.cons ((d1.mono e).mono s2) (.cons ((d2.mono e).mono s2) .nil))⟩
section
variable {X : Cx} {a b e e2 elt iter : Expr} {ts es : List Expr} {env : DEnv} {C C1 : CS} {k : KD} {kI : KI} {pos p p2 tpos : Pos} {n m : Nat} {P : Program} {w : World} {K : PySem.W.Frag} {mg : Str → Option Value} {base : Heap}
end
/-! ### a comprehension with two names -/
section
variable {X : Cx} {elt iter : Expr} {ifs : List Expr} {scope dsc : Scope} {env : DEnv} {C C1 : CS} {k : KD} {pos px py pt : Pos} {n : Nat} {E : DEnds} {N M gs : List Str} {x y : Str} {f1 : D → DEnv} {f2 : D → D → DEnv} {xs : List D} {Pc : CS → Prop}
end
section
variable {C : CS} {k : KD} {x : D} {xs : List D}
theorem isi_ltT (h : x.kind = true) (h2 : (x.isLst || x.isTup) = true) (q : k (.bl true) C) : dIsiT [x, .tup [.opq (.ty "list"), .opq (.ty "tuple")]] C k := isi_lt h (by rw [h2]; exact q)
theorem isi_ltF (h : x.kind = true) (h2 : (x.isLst || x.isTup) = false) (q : k (.bl false) C) : dIsiT [x, .tup [.opq (.ty "list"), .opq (.ty "tuple")]] C k := isi_lt h (by rw [h2]; exact q)
theorem isi_ls (h : seqR C x = some xs) (q : k (.bl true) C) : dIsi [x, .opq (.ty "list")] C k := by
  cases x with
  | lst xs => exact ⟨_, "list", _, true, rfl, rfl, by decide +kernel, q⟩
  | slst xs => exact ⟨_, "list", _, true, rfl, rfl, by decide +kernel, q⟩
  | own a =>
    have h' := own_seqR h
    exact ⟨_, "list", _, true, rfl, by simp [tyN, h'], by decide +kernel, q⟩
  | _ => simp [seqR] at h
theorem isi_lsT (h : seqR C x = some xs) (q : k (.bl false) C) : dIsi [x, .opq (.ty "tuple")] C k := by
  cases x with
  | lst xs => exact ⟨_, "list", _, false, rfl, rfl, by decide +kernel, q⟩
  | slst xs => exact ⟨_, "list", _, false, rfl, rfl, by decide +kernel, q⟩
  | own a =>
    have h' := own_seqR h
    exact ⟨_, "list", _, false, rfl, by simp [tyN, h'], by decide +kernel, q⟩
  | _ => simp [seqR] at h
theorem isiT_ls (h : seqR C x = some xs) (q : k (.bl true) C) : dIsiT [x, .tup [.opq (.ty "list"), .opq (.ty "tuple")]] C k := by
  cases x with
  | lst xs => exact isi_lt rfl q
  | slst xs => exact isi_lt rfl q
  | own a =>
    have h' := own_seqR h
    exact isi_ownLT h' q
  | _ => simp [seqR] at h
theorem len_ls (h : seqR C x = some xs) (q : k (.int (xs.length : Nat)) C) : dLen [x] C k := by
  cases x with
  | lst xs => exact ⟨_, _, rfl, ⟨_, h, rfl⟩, q⟩
  | slst xs => exact ⟨_, _, rfl, ⟨_, h, rfl⟩, q⟩
  | own a =>
    have h' := own_seqR h
    exact ⟨_, _, rfl, ⟨_, h, rfl⟩, q⟩
  | _ => simp [seqR] at h
theorem eq_bb {a b : Bool} (q : k (.bl (a == b)) C) : dEq false (.bl a) (.bl b) C k := eq_ok (by cases a <;> rfl) (by cases b <;> rfl) (by cases a <;> cases b <;> exact q)
theorem ne_bb {a b : Bool} (q : k (.bl (a != b)) C) : dEq true (.bl a) (.bl b) C k := ne_ok (by cases a <;> rfl) (by cases b <;> rfl) (by cases a <;> cases b <;> exact q)
end
/-! ### the same data -/
def Sm (C : CS) : Nat → D → D → Prop
  | 0, x, y => x = y ∧ x.fit 0 = true
  | n + 1, x, y => (x = y ∧ x.fit 0 = true) ∨ ∃ xs ys, xs.length = ys.length ∧ xs.length ≤ sizeLine ∧ ((seqR C x = some xs ∧ seqR C y = some ys) ∨ (x = .tup xs ∧ y = .tup ys)) ∧ ∀ (i : Nat) (a b : D), xs[i]? = some a → ys[i]? = some b → Sm C n a b
/-- trees of lists that are not too long -/
def Sz : Nat → D → Prop
  | 0, x => x.fit 0 = true
  | n + 1, x => x.fit 0 = true ∨ ∃ xs : List D, xs.length ≤ sizeLine ∧ (x = .lst xs ∨ x = .slst xs ∨ x = .tup xs) ∧ ∀ a ∈ xs, Sz n a
theorem Sm.of {C : CS} : ∀ {n : Nat} {x : D}, Sz n x → Sm C n x x
  | 0, _, h => ⟨rfl, h⟩
  | n + 1, x, h => by
    rcases h with h | ⟨xs, h1, h2, h3⟩
    · exact .inl ⟨rfl, h⟩
    · refine .inr ⟨xs, xs, rfl, h1, ?_, fun i a b ha hb => ?_⟩
      · rcases h2 with rfl | rfl | rfl
        · exact .inl ⟨rfl, rfl⟩
        · exact .inl ⟨rfl, rfl⟩
        · exact .inr ⟨rfl, rfl⟩
      · rw [ha] at hb; cases hb
        exact Sm.of (h3 a (List.mem_of_getElem? ha))
end DL
/-! DLp: lists unpacked; lists made and frozen by * and +. -/
namespace DL
open PySem PySem.Spec PyProof.Rows L2
section
variable {X : Cx} {a b e : Expr} {es ts : List Expr} {env : DEnv} {C : CS} {k : KD} {pos p1 p2 p3 : Pos} {n m : Nat} {P : Program} {w : World} {K : PySem.W.Frag} {mg : Str → Option Value} {base : Heap} {op : Operator}
end
section
variable {C : CS} {k : KD} {xs ys : List D} {i : Int} {p : Addr} {d : D}
theorem rep_len (n : Nat) (xs : List D) : (List.replicate n xs).flatten.length = n * xs.length := by simp
end
/-! ### a text times an int -/
theorem op_mulS {X : Cx} : OpR X (binaryOp .Mult) (fun x y H Q => ∃ z n, x = .str z ∧ y = .int n ∧ MulOk z n ∧ Q (.str (Txt.mul z n)) H) := by
  rintro pins s σ H x y v u Q I rx ry ⟨z, n, rfl, rfl, hok, q⟩
  obtain ⟨t, rfl⟩ := rx
  obtain ⟨t', rfl⟩ := ry
  exact SB.mul hok fun t' k => ⟨.str (Txt.mul z n), H, I.tok _, ⟨_, rfl⟩, q⟩
def dMulS : OpD := fun x y C k => ∃ z n, x = .str z ∧ y = .int n ∧ MulOk z n ∧ k (.str (Txt.mul z n)) C
theorem r2_mulS {K : PySem.W.Frag} : R2D K (fun x y H Q => ∃ z n, x = .str z ∧ y = .int n ∧ MulOk z n ∧ Q (.str (Txt.mul z n)) H) dMulS := by
  rintro x y a b G C H k Q w da db ⟨z, n, rfl, rfl, h1, h2⟩ q
  cases da
  cases db
  exact ⟨z, n, rfl, rfl, h1, q _ _ _ _ _ (Fr.refl ..) w (.str _) h2⟩
theorem x_mulS {X : Cx} {b : Expr} {env : DEnv} {C : CS} {k : KD} {pos p1 : Pos} {z : Str} {j : Nat} (h : WE X b env C fun y C1 => dMulS (.str z) y C1 k) : WE X (.BinOp (.Constant (.str z) j p1) .Mult b pos) env C k := we_op op_mulS r2_mulS (we_str h)
theorem mul_s {C : CS} {k : KD} {z : Str} {n : Int} (h : MulOk z n) (q : k (.str (Txt.mul z n)) C) : dMulS (.str z) (.int n) C k := ⟨z, n, rfl, rfl, h, q⟩
end DL
/-! DLq: repr of data. -/
namespace DL
open PySem PySem.Spec PyProof.Rows L2 RZ
/-- repr of a list or a tuple of data -/
def rRepr (K : PySem.W.Frag) : List V → Hp → VK → Prop := fun xs H Q => ∃ (v : V) (d : PyData), xs = [v] ∧ Dp K H v d ∧ isDisplay d = true ∧ d.showable = true ∧ d.hasDict = false ∧ d.depth ≤ 60 ∧ d.shown.length ≤ sizeLine ∧ Q (.str d.shown) H
theorem call_reprD {X : Cx} (hgd : X.A.guards = some []) (hu : X.A.units + 65 < cLine) : CallR X (.builtin "repr") (rRepr X.K) := by
  rintro pins s σ H xs us Q I r ⟨v, d, rfl, hd, hdis, hs, hnd, hdp, hsz, q⟩
  cases r with
  | cons r1 r2 =>
    cases r2
    obtain ⟨as, rd⟩ := Dp.reads I d v _ hd r1
    obtain ⟨a, rfl⟩ := isRef_of_reads rd hdis
    refine repr_of_reads' rd hs (PyData.noDict_hsm hnd) hgd (by omega) (fun _ _ e => e) ?_ hsz
    intro h' u tk hk
    exact ⟨.str d.shown, H, I.kept (t' := tk) hk, ⟨u, rfl⟩, q⟩
/-- repr of data -/
def rReprA (K : PySem.W.Frag) : List V → Hp → VK → Prop := fun xs H Q => ∃ (v : V) (d : PyData), xs = [v] ∧ Dp K H v d ∧ d.showable = true ∧ d.hasDict = false ∧ d.depth ≤ 60 ∧ d.shown.length ≤ sizeLine ∧ Q (.str d.shown) H
theorem call_reprA {X : Cx} (hgd : X.A.guards = some []) (hu : X.A.units + 65 < cLine) : CallR X (.builtin "repr") (rReprA X.K) := by
  rintro pins s σ H xs us Q I r ⟨v, d, rfl, hd, hs, hnd, hdp, hsz, q⟩
  by_cases hdis : isDisplay d = true
  · exact call_reprD hgd hu pins s σ H [v] us Q I r ⟨v, d, rfl, hd, hdis, hs, hnd, hdp, hsz, q⟩
  · cases r with
    | cons r1 r2 =>
      cases r2
      have fin : EP X pins σ Q (.str d.shown s.toks) { s with toks := s.toks + 1 } := ⟨.str d.shown, H, I.tok _, ⟨_, rfl⟩, q⟩
      cases hd with
      | non =>
        obtain rfl : _ = Value.none := r1
        exact P.repr_of_none fin
      | bl b =>
        obtain rfl : _ = Value.bool b := r1
        exact P.repr_of_bool fin
      | int i =>
        obtain ⟨t, rfl⟩ := r1
        exact P.repr_of_int (by simpa [PyData.showable] using hs) fin
      | str z =>
        obtain ⟨t, rfl⟩ := r1
        exact P.repr_of_str fin hsz
      | _ => exact absurd rfl hdis
def dRepr : List D → CS → KD → Prop := fun ds C k => ∃ x d, ds = [x] ∧ pyC C x = some d ∧ d.showable = true ∧ d.hasDict = false ∧ d.depth ≤ 60 ∧ d.shown.length ≤ sizeLine ∧ k (.str d.shown) C
theorem rl_repr {K : PySem.W.Frag} : RLD K (rReprA K) dRepr := by
  rintro xs ds G C H k Q w rs ⟨x, d, rfl, hd, h1, h2, h3, h4, hk⟩ q
  cases rs with
  | cons r1 r2 =>
    cases r2
    exact ⟨_, d, rfl, w.dp r1 hd, h1, h2, h3, h4, q _ _ _ _ _ (Fr.refl ..) w (.str _) hk⟩
section
variable {X : Cx} {e : Expr} {es : List Expr} {env : DEnv} {C : CS} {k : KD} {pos p : Pos} {m : Nat} {P : Program} {w : World} {K : PySem.W.Frag} {mg : Str → Option Value} {base : Heap}
theorem x_repr (hx : Ctx P w K mg base m X) (Z : Zs mg) (hg : Gl X "repr") (h : WA X (e :: es) env C fun ds C1 => dRepr ds C1 k) (he : starEach (e :: es) X.env = (false, eval e X.env) :: starEach es X.env := by rfl) (hpl : (backTo pos (starEach es X.env)).any (·.1) = false := by rfl) :
    WE X (.Call (.Name "repr" p) (e :: es) [] pos) env C k := we_cb (hx.zs Z).repr (call_reprA hx.guards (by have := hx.room.units; have := hx.room.un; omega)) rl_repr hg bootS_repr h (he := he) (hpl := hpl)
end
end DL
/-! DLr: comprehensions with any number of fors. -/
namespace DL
open PySem PySem.Spec PyProof.Rows L2
section
variable {elt t0 i0 t1 i1 : Expr} {ifs0 ifs1 : List Expr} {gens : List Comprehension} {scope : Scope} {pos : Pos} {it acc : Value} {env : Env} {i : Nat}
theorem turn_mid (h0 : gens[i]? = some ⟨t0, i0, ifs0, 0⟩) (h1 : gens[i + 1]? = some ⟨t1, i1, ifs1, 0⟩) : compTurn (.ListComp elt gens scope pos) i it acc env = (do
    standAt i0.pos
    match ← pyNext it with
    | none => pure (.done .next)
    | some v =>
      letOwnedTupleGo t0 it v
      assign t0 env v
      let mut ok := true
      for c in ifs0 do
        if ok then ok ← isTrue c env (eval c env)
      if ok then
        let x ← eval i1 env
        standAt i1.pos
        let x ← foldedSetIterable i1 env x
        let _ ← runOwn (.compStart (.ListComp elt gens scope pos) (i + 1) (← holding [x] (pyIter x)) acc env) env
      again (.compLoop (.ListComp elt gens scope pos) i it acc env)) := by
  unfold compTurn
  simp only [h0, h1]
  rfl
theorem turn_last (h0 : gens[i]? = some ⟨t0, i0, ifs0, 0⟩) (h1 : gens[i + 1]? = none) : compTurn (.ListComp elt gens scope pos) i it acc env = (do
    standAt i0.pos
    match ← pyNext it with
    | none => pure (.done .next)
    | some v =>
      letOwnedTupleGo t0 it v
      assign t0 env v
      let mut ok := true
      for c in ifs0 do
        if ok then ok ← isTrue c env (eval c env)
      if ok then
        (do let _ ← call (.builtin "list.append") [acc, ← eval elt env])
      again (.compLoop (.ListComp elt gens scope pos) i it acc env)) := by
  unfold compTurn
  simp only [h0, h1]
  rfl
end
section
variable {prog : Program} {w : World} {A : Around} {R : Result → Shared → Prop} {s : Shared} {elt t0 i0 t1 i1 : Expr} {ifs0 ifs1 : List Expr} {gens : List Comprehension} {scope : Scope} {pos : Pos} {it acc : Value} {env : Env} {i : Nat}
/-- what is raised in a comprehension's turn -/
def Nb (prog : Program) (w : World) (A : Around) (env : Env) (R : Result → Shared → Prop) : Value → Shared → Prop := notedBy (model prog w) A env fun e s' => R (.error e) s'
/-- the tests of a clause -/
def tests (env : Env) (ifs : List Expr) : Sem Bool := forIn ifs true fun c r => if r = true then do let ok ← isTrue c env (eval c env); pure (ForInStep.yield ok) else pure (ForInStep.yield r)
/-- a turn up to the tests -/
def TurnW (prog : Program) (w : World) (A : Around) (env : Env) (R : Result → Shared → Prop) (t : Expr) (ifs : List Expr) (it : Value) (B N : Shared → Prop) (s : Shared) : Prop :=
  wpAny (model prog w) A (pyNext it) (fun r s1 => match r with
    | none => R (.ok .next) s1
    | some v => wpAny (model prog w) A (letOwnedTupleGo t it v) (fun _ s2 => wpAny (model prog w) A (assign t env v) (fun _ s3 =>
        wpAny (model prog w) A (tests env ifs) (fun ok s4 => if ok = true then B s4 else N s4) (Nb prog w A env R) s3) (Nb prog w A env R) s2) (Nb prog w A env R) s1) (Nb prog w A env R) s
theorem loop_mid (h0 : gens[i]? = some ⟨t0, i0, ifs0, 0⟩) (h1 : gens[i + 1]? = some ⟨t1, i1, ifs1, 0⟩) (hs : ∀ x, foldedSetIterable i1 env x = pure x) (I : Nat → Shared → Prop)
    (turn : ∀ n s, I n s → TurnW prog w A env R t0 ifs0 it (fun s4 => wpAny (model prog w) A (eval i1 env) (fun x s5 => wpAny (model prog w) A (pyIter x) (fun it1 s6 =>
      codeAny (model prog w) A (.compStart (.ListComp elt gens scope pos) (i + 1) it1 acc env) (fun r s' => match r with
        | .ok _ => ∃ m, m < n ∧ I m s'
        | .error _ => False) s6) (Nb prog w A env R) s5) (Nb prog w A env R) s4) (fun s4 => ∃ m, m < n ∧ I m s4) s) (n : Nat) (h : I n s) :
    codeAny (model prog w) A (.compLoop (.ListComp elt gens scope pos) i it acc env) R s := by
  refine codeAny_loop rfl I ?_ n h
  intro n s hI
  show wpAny _ A ((compTurn (.ListComp elt gens scope pos) i it acc env).onRaise (fun x => do noteFrame x env; theTreesLotGoes x)) _ _ s
  refine wpAny_noted ?_
  rw [turn_mid h0 h1]
  have go := turn n s hI
  refine wpAny_bind (wpAny_standAt (wpAny_bind (wpAny_mono go ?_ fun _ _ z => z)))
  intro r s1 g1
  match r, g1 with
  | none, g1 => exact wpAny_pure g1
  | some v, g1 =>
    refine wpAny_bind (wpAny_mono g1 (fun _ s2 g2 => wpAny_bind (wpAny_mono g2 (fun _ s3 g3 => wpAny_bind (wpAny_mono g3 ?_ fun _ _ z => z)) fun _ _ z => z)) fun _ _ z => z)
    intro ok s4 g4
    match ok, g4 with
    | false, g4 => exact wpAny_pure ⟨rfl, g4⟩
    | true, g4 =>
      refine wpAny_bind (wpAny_mono g4 ?_ fun _ _ z => z)
      intro x s5 g5
      refine wpAny_bind (wpAny_standAt (wpAny_bind (wpAny_of_eq (hs x) (wpAny_bind (wpAny_holding (wpAny_mono g5 ?_ fun _ _ z => z))))))
      intro it1 s6 g6
      refine wpAny_bind (wpAny_runOwn ?_)
      rw [Around.mark_none]
      refine codeAny_mono g6 ?_
      intro r s' z
      match r, z with
      | .ok f, z => first | exact wpAny_pure ⟨rfl, z⟩ | exact wpAny_bind (wpAny_pure (wpAny_pure ⟨rfl, z⟩))
theorem loop_last (h0 : gens[i]? = some ⟨t0, i0, ifs0, 0⟩) (h1 : gens[i + 1]? = none) (I : Nat → Shared → Prop)
    (turn : ∀ n s, I n s → TurnW prog w A env R t0 ifs0 it (fun s4 => wpAny (model prog w) A (eval elt env) (fun x s5 => wpAny (model prog w) A (call (.builtin "list.append") [acc, x]) (fun _ s6 => ∃ m, m < n ∧ I m s6) (Nb prog w A env R) s5) (Nb prog w A env R) s4)
      (fun s4 => ∃ m, m < n ∧ I m s4) s) (n : Nat) (h : I n s) : codeAny (model prog w) A (.compLoop (.ListComp elt gens scope pos) i it acc env) R s := by
  refine codeAny_loop rfl I ?_ n h
  intro n s hI
  show wpAny _ A ((compTurn (.ListComp elt gens scope pos) i it acc env).onRaise (fun x => do noteFrame x env; theTreesLotGoes x)) _ _ s
  refine wpAny_noted ?_
  rw [turn_last h0 h1]
  have go := turn n s hI
  refine wpAny_bind (wpAny_standAt (wpAny_bind (wpAny_mono go ?_ fun _ _ z => z)))
  intro r s1 g1
  match r, g1 with
  | none, g1 => exact wpAny_pure g1
  | some v, g1 =>
    refine wpAny_bind (wpAny_mono g1 (fun _ s2 g2 => wpAny_bind (wpAny_mono g2 (fun _ s3 g3 => wpAny_bind (wpAny_mono g3 ?_ fun _ _ z => z)) fun _ _ z => z)) fun _ _ z => z)
    intro ok s4 g4
    match ok, g4 with
    | false, g4 => exact wpAny_pure ⟨rfl, g4⟩
    | true, g4 => exact wpAny_bind (wpAny_bind (wpAny_mono g4 (fun x s5 g5 => wpAny_bind (wpAny_mono g5 (fun _ s6 g6 => wpAny_pure (wpAny_pure ⟨rfl, g6⟩)) fun _ _ z => z)) fun _ _ z => z))
/-- an inner clause's start -/
theorem start_in (h0 : gens[i]? = some ⟨t0, i0, ifs0, 0⟩) (hl : codeAny (model prog w) A (.compLoop (.ListComp elt gens scope pos) i it acc env) R s)
    (hi : wpAny (model prog w) A (pyIter it) (fun it' s' => codeAny (model prog w) A (.compLoop (.ListComp elt gens scope pos) i it' acc env) R s') (Nb prog w A env R) s) : codeAny (model prog w) A (.compStart (.ListComp elt gens scope pos) i it acc env) R s := by
  have hc : (clausesOf (.ListComp elt gens scope pos))[i]? = some ⟨t0, i0, ifs0, 0⟩ := h0
  refine codeAny_of_tree ?_
  show wpAny _ _ ((compStart (.ListComp elt gens scope pos) i it acc env).onRaise (fun x => do noteFrame x env; standAt theWindowsPlace)) _ _ s
  refine wpAny_notedAt ?_
  unfold compStart
  simp only [hc, Option.elim_some]
  show wpAny _ _ (ask >>= _) _ _ s
  refine wpAny_bind (wpAny_askSetting (wpAny_ite ?_))
  split
  · first | exact wpAny_bind (wpAny_pure (wpAny_pure (And.intro rfl hl))) | exact wpAny_pure (And.intro rfl hl)
  · refine wpAny_bind (wpAny_rule ?_)
    show wpAny _ _ (standAt i0.pos >>= _) _ _ s
    exact wpAny_bind (wpAny_standAt (wpAny_bind (wpAny_mono hi (fun it' s' z => wpAny_pure (And.intro rfl z)) fun _ _ z => z)))
end
/-! ### the inner clauses -/
/-- a clause and its readings -/
structure Lv where
  tg : Expr
  iter : Expr
  ifs : List Expr
  wi : TI
  g : TG
  tt : TT
  vs : List Nat
def Lv.c (l : Lv) : Comprehension := ⟨l.tg, l.iter, l.ifs, 0⟩
structure LvOk (Y : Cx) (l : Lv) : Prop where
  pi : PI Y l.tg l.iter l.wi
  pg : PG Y l.tg l.g
  pt : PTs Y l.ifs l.tt
  fs : ∀ x, foldedSetIterable l.iter Y.env x = pure x
def restV : List Lv → List Nat
  | [] => []
  | l :: ls => l.vs ++ restV ls
theorem wipe_app (σ : L2.St) (us : List Nat) : ∀ vs : List Nat, wipe σ (vs ++ us) = wipe (wipe σ us) vs
  | [] => rfl
  | v :: vs => by
    show (wipe σ (vs ++ us)).set v none = (wipe (wipe σ us) vs).set v none
    rw [wipe_app σ us vs]
theorem wipe_two (σ : L2.St) (vs : List Nat) : wipe (wipe σ vs) vs = wipe σ vs := by
  apply wipe_ext
  · rw [wipe_length]
  · intro j hj
    rw [wipe_get, if_neg hj]
def tIn (D : Addr) (te : TE) : List Lv → L2.St → Hp → (Hp → Prop) → Prop
  | [], σ, H, Nx => te σ H fun y H1 => ∃ acc, H1 D = some (.lst acc) ∧ acc.length < sizeLine ∧ Nx (upd H1 D (.lst (acc ++ [y])))
  | l :: ls, σ, H, Nx => l.wi σ H fun J H1 => ∃ W : Nat → Nat → Hp → Prop, (∃ m, W 0 m H1) ∧ ∀ j k H, W j k H → (J.stop j H ∧ Nx H) ∨ (J.go j H ∧ ∃ N1 : Hp → Prop, (∀ H', N1 H' → ∃ k', k' < k ∧ W (j + 1) k' H') ∧
      ∀ x H', J.yld j H x H' → l.g x (wipe σ (restV (l :: ls))) H' fun σ2 H2 => wipe σ2 (restV (l :: ls)) = wipe σ (restV (l :: ls)) ∧ l.tt σ2 H2 fun b H3 => if b = true then tIn D te ls σ2 H3 N1 else N1 H3)
section
variable {Y : Cx} {elt : Expr} {te : TE} {scope : Scope} {pos : Pos} {gens : List Comprehension} {D : Addr}
/-- behind an inner clause -/
def Beh (Y : Cx) (pins : List (Addr × Obj)) (V : List Nat) (σ : L2.St) (Nx : Hp → Prop) (s' : Shared) : Prop := ∃ σ' H', Inv Y pins σ' H' s' ∧ wipe σ' V = wipe σ V ∧ Nx H'
/-- what a turn goes on with -/
def Body (Y : Cx) (elt : Expr) (scope : Scope) (pos : Pos) (gens : List Comprehension) (D : Addr) (R : Result → Shared → Prop) (P : Shared → Prop) (i : Nat) : List Lv → Shared → Prop
  | [], s => wpAny (model Y.prog Y.w) Y.A (eval elt Y.env) (fun x s1 => wpAny (model Y.prog Y.w) Y.A (call (.builtin "list.append") [.ref D, x]) (fun _ s2 => P s2) (Nb Y.prog Y.w Y.A Y.env R) s1) (Nb Y.prog Y.w Y.A Y.env R) s
  | l :: _, s => wpAny (model Y.prog Y.w) Y.A (eval l.iter Y.env) (fun x s1 => wpAny (model Y.prog Y.w) Y.A (pyIter x) (fun it s2 => codeAny (model Y.prog Y.w) Y.A (.compStart (.ListComp elt gens scope pos) i it (.ref D) Y.env) (fun r s' => match r with
      | .ok _ => P s'
      | .error _ => False) s2) (Nb Y.prog Y.w Y.A Y.env R) s1) (Nb Y.prog Y.w Y.A Y.env R) s
/-- the loop of a clause, from what the clauses behind it do -/
theorem loopLv {l : Lv} {ls : List Lv} {i : Nat} (hxe : Y.xe = fun _ _ => False) (hc : Y.calm = true) (hd : gens.drop i = (l :: ls).map Lv.c) (hfs : ∀ l' ∈ ls, ∀ x, foldedSetIterable l'.iter Y.env x = pure x) (opg : PG Y l.tg l.g) (opt : PTs Y l.ifs l.tt)
    (ih : ∀ (pins : List (Addr × Obj)) (σ : L2.St) (H : Hp) (s : Shared) (Nx : Hp → Prop) (R : Result → Shared → Prop) (P : Shared → Prop), Inv Y pins σ H s → tIn D te ls σ H Nx → (∀ s', Beh Y pins (restV ls) σ Nx s' → P s') → Body Y elt scope pos gens D R P (i + 1) ls s)
    {pins : List (Addr × Obj)} {σ : L2.St} {V : List Nat} (hV : restV (l :: ls) = V) {it : Addr} {fp : List Addr} {tn : Nat → Heap → Prop} {J : It} (T : Turn Y.prog Y.w Y.K l.tg J fp it tn) {Nx : Hp → Prop} {R : Result → Shared → Prop}
    (fin : ∀ s', Beh Y pins V σ Nx s' → R (.ok .next) s') {W : Nat → Nat → Hp → Prop} (stat : ∀ {H' : Hp} {s' : Shared} {σ' : L2.St}, Inv Y pins σ' H' s' → (∀ b ∈ fp, H' b = none) → ∀ b ∈ fp, FpOk Y pins H' b)
    (turn : ∀ j k H, W j k H → (J.stop j H ∧ Nx H) ∨ (J.go j H ∧ ∃ N1 : Hp → Prop, (∀ H', N1 H' → ∃ k', k' < k ∧ W (j + 1) k' H') ∧
      ∀ x H', J.yld j H x H' → l.g x (wipe σ V) H' fun σ2 H2 => wipe σ2 V = wipe σ V ∧ l.tt σ2 H2 fun b H3 => if b = true then tIn D te ls σ2 H3 N1 else N1 H3))
    {m0 : Nat} {H2 : Hp} {s2 : Shared} (I2 : Inv Y pins (wipe σ V) H2 s2) (st2 : tn 0 s2.heap) (n2 : ∀ b ∈ fp, H2 b = none) (w0 : W 0 m0 H2) :
    codeAny (model Y.prog Y.w) Y.A (.compLoop (.ListComp elt gens scope pos) i (.ref it) (.ref D) Y.env) R s2 := by
  have h0 : gens[i]? = some l.c := by
    have := congrArg (fun x : List Comprehension => x[0]?) hd
    simpa [List.getElem?_drop] using this
  have hd1 : gens.drop (i + 1) = ls.map Lv.c := by
    have := congrArg List.tail hd
    simpa [List.tail_drop] using this
  have hV' : V = l.vs ++ restV ls := hV.symm
  let Iv : Nat → Shared → Prop := fun k s' => ∃ j H', Inv Y pins (wipe σ V) H' s' ∧ tn j s'.heap ∧ (∀ b ∈ fp, H' b = none) ∧ W j k H'
  have turnW : ∀ n s, Iv n s → TurnW Y.prog Y.w Y.A Y.env R l.tg l.ifs (.ref it) (fun s4 => Body Y elt scope pos gens D R (fun s' => ∃ m, m < n ∧ Iv m s') (i + 1) ls s4) (fun s4 => ∃ m, m < n ∧ Iv m s4) s := by
    intro n s ⟨j, H3, I3, st3, n3, w3⟩
    rcases turn j n H3 w3 with ⟨stop, nx⟩ | ⟨go, N1, hN1, step⟩
    · refine thnF (T.done Y rfl rfl rfl hc j pins s (wipe σ V) H3 (fun _ _ => False) I3 (stat I3 n3) st3 stop) fun r s4 z => ?_
      obtain ⟨rfl, I4⟩ := z
      exact fin s4 ⟨_, _, I4, wipe_two σ V, nx⟩
    · refine thnF (T.item Y rfl rfl rfl hc j pins s (wipe σ V) H3 (fun _ _ => False) I3 (stat I3 n3) st3 go) fun r s4 z => ?_
      obtain ⟨u, rfl, z⟩ := z
      refine thnF z fun _ s5 ⟨x, H5, I5, r5, y5, st5, n5⟩ => ?_
      have I6 := I5.pinned (stat I5 n5) (T.obj _ _ st5)
      have pg := opg.run _ s5 (wipe σ V) H5 x u _ I6 r5 (step x H5 y5)
      rw [hxe] at pg
      refine thnF pg fun _ s6 ⟨σ6, H6, I7, hw6, q6⟩ => ?_
      have pt := opt.run _ s6 σ6 H6 _ I7 q6
      rw [hxe] at pt
      refine thnF pt fun b s7 ⟨H7, I8, q8⟩ => ?_
      have back : ∀ {s' : Shared} {σ' : L2.St} {H' : Hp}, Inv Y (pins ++ pinsAt fp s5.heap) σ' H' s' → wipe σ' (restV ls) = wipe σ6 (restV ls) → N1 H' → ∃ m, m < n ∧ Iv m s' := by
        intro s' σ' H' I' hw' nx
        obtain ⟨m', hm, w'⟩ := hN1 H' nx
        have hw2 : wipe σ' V = wipe σ V := by
          rw [hV', wipe_app, hw', ← wipe_app, ← hV']; exact hw6
        have pin' : ∀ b ∈ fp, ∀ ob, s5.heap.get? b = some ob → s'.heap.get? b = some ob ∧ H' b = none := fun b hb ob e =>
          let z := I'.pin (b, ob) (List.mem_append_right _ (List.mem_append_right _ (mem_pinsAt hb e)))
          ⟨z.1, z.2.1⟩
        refine ⟨m', hm, j + 1, H', I'.unpinned.weak ?_ ?_, T.keep _ _ _ st5 fun b hb ob e => (pin' b hb ob e).1, fun b hb => ?_, w'⟩
        · rw [← hw2, wipe_length]
        · intro k v e
          rw [← hw2] at e
          exact (wipe_some e).1
        · obtain ⟨ob, e, _⟩ := T.obj _ _ st5 b hb
          exact (pin' b hb ob e).2
      match b, q8 with
      | false, q8 => exact back I8 rfl q8
      | true, q8 => exact ih _ σ6 H7 s7 N1 R _ I8 q8 fun s' ⟨σ', H', I', hw', nx⟩ => back I' hw' nx
  match ls, hd1, turnW, hfs with
  | [], hd1, turnW, _ =>
    have h1 : gens[i + 1]? = none := by
      have := congrArg (fun x : List Comprehension => x[0]?) hd1
      simpa [List.getElem?_drop] using this
    exact loop_last h0 h1 Iv turnW m0 ⟨0, H2, I2, st2, n2, w0⟩
  | l' :: ls', hd1, turnW, hfs =>
    have h1 : gens[i + 1]? = some l'.c := by
      have := congrArg (fun x : List Comprehension => x[0]?) hd1
      simpa [List.getElem?_drop] using this
    exact loop_mid h0 h1 (hfs l' (by simp)) Iv turnW m0 ⟨0, H2, I2, st2, n2, w0⟩
theorem inner (hxe : Y.xe = fun _ _ => False) (hc : Y.calm = true) (he : PE Y elt te) : ∀ (ls : List Lv) (i : Nat), gens.drop i = ls.map Lv.c → (∀ l ∈ ls, LvOk Y l) → ∀ (pins : List (Addr × Obj)) (σ : L2.St) (H : Hp) (s : Shared) (Nx : Hp → Prop) (R : Result → Shared → Prop) (P : Shared → Prop),
    Inv Y pins σ H s → tIn D te ls σ H Nx → (∀ s', Beh Y pins (restV ls) σ Nx s' → P s') → Body Y elt scope pos gens D R P i ls s
  | [], i, hd, ok, pins, σ, H, s, Nx, R, P, I, q, fin => by
    have run := he.run pins s σ H _ I q
    rw [hxe] at run
    refine thnF run fun x s1 z => ?_
    obtain ⟨y, H1, I1, r1, acc, h1, h2, h3⟩ := z
    exact L2.app_ok (X := Y) I1 h1 h2 r1 fun s2 I2 => fin s2 ⟨σ, _, I2, rfl, h3⟩
  | l :: ls, i, hd, ok, pins, σ, H, s, Nx, R, P, I, q, fin => by
    have o := ok l List.mem_cons_self
    have h0 : gens[i]? = some l.c := by
      have := congrArg (fun x : List Comprehension => x[0]?) hd
      simpa [List.getElem?_drop] using this
    have hd1 : gens.drop (i + 1) = ls.map Lv.c := by
      have := congrArg List.tail hd
      simpa [List.tail_drop] using this
    have run := o.pi.run pins s σ H _ I q
    rw [hxe] at run
    refine thnF run fun xv s1 hx => thnF hx fun itv s2 h2 => ?_
    obtain ⟨it, fp, tn, J, H2, e, I2, T, st2, f2, W, ⟨m0, w0⟩, turn⟩ := h2
    subst e
    have loop := loopLv (D := D) (te := te) (elt := elt) (scope := scope) (pos := pos) (R := fun r s' => match r with
        | .ok _ => P s'
        | .error _ => False) hxe hc hd (fun l' hl' => (ok l' (List.mem_cons_of_mem _ hl')).fs) o.pg o.pt (inner hxe hc he ls (i + 1) hd1 fun l' hl' => ok l' (List.mem_cons_of_mem _ hl')) rfl T (fun s' z => fin s' z)
        (fun _ hn b hb => ⟨hn b hb, (f2 b hb).2⟩) turn (I2.weak (wipe_length _ _) (fun j v e => (wipe_some e).1)) st2 (fun b hb => (f2 b hb).1) w0
    exact start_in h0 loop (T.self Y.A 0 _ _ _ st2 loop)
end
/-! ### the whole -/
section
variable {X : Cx} {elt : Expr} {te : TE} {scope : Scope} {pos : Pos} {own : List (Str × Nat)} {l : Lv} {ls : List Lv} {wi : TI}
end
end DL
/-! DLs: comprehensions with any number of fors, by data. -/
namespace DL
open PySem PySem.Spec PyProof.Rows L2
/-- a source as it runs -/
def tI (X : Cx) (tg iter : Expr) : TI := fun σ H R => ∀ pins s, Inv X pins σ H s → wpAny (model X.prog X.w) X.A (eval iter X.env) (fun v s1 => wpAny (model X.prog X.w) X.A (pyIter v) (PIE X pins σ tg R) X.xe s1) X.xe s
theorem WI.ev {X : Cx} {tg iter : Expr} {env : DEnv} {C : CS} {kI : KI} (h : WI X tg iter env C kI) : EvI X.K (tI X tg iter) env C kI := fun G σ H R w er q pins s I => by
  obtain ⟨wi, hi, hw⟩ := h
  exact hi.run pins s σ H R I (hw G σ H R w er q)
/-- a clause by syntax: its target's reading and its names -/
structure Cl where
  tg : Expr
  iter : Expr
  ifs : List Expr
  g : TG
  vs : List Nat
/-- the world with the hidden list -/
structure Hd (K : PySem.W.Frag) (G0 : Hp) (C0 : CS) (H0 : Hp) (Da : Addr) (G : Hp) (C : CS) (H : Hp) (acc : List D) : Prop where
  f : Fr G0 C0 H0 G C H
  w : Wld K G C H
  l : ∃ vs, H Da = some (.lst vs) ∧ DatAll K G vs acc
  c : C Da = none
  g : G Da = none
section
variable {K : PySem.W.Frag} {G0 H0 : Hp} {C0 : CS} {Da : Addr} {G H G' H' : Hp} {C C' : CS} {acc : List D}
theorem Hd.step (h : Hd K G0 C0 H0 Da G C H acc) (f : Fr G C H G' C' H') (w : Wld K G' C' H') : Hd K G0 C0 H0 Da G' C' H' acc := by
  obtain ⟨vs, h1, h2⟩ := h.l
  refine ⟨h.f.trans f, w, ⟨vs, f.keep _ _ h1 h.c (by intro _ z; cases z), h2.mono f.exG⟩, ?_, ?_⟩
  · cases e : C' Da with
    | none => rfl
    | some c => exact absurd h.c (f.newC Da (by rw [h1]; simp) (by rw [e]; simp))
  · cases e : G' Da with
    | none => rfl
    | some c => exact ((f.newG Da (by rw [h1]; simp) (by rw [e]; simp)).elim (fun z => z h.g) fun z => z h.c).elim
end
section
variable {X : Cx} {scope : Scope} {elt : Expr} {G0 H0 : Hp} {C0 : CS} {Da : Addr}
end
theorem wi_ls {X : Cx} {tg e : Expr} {env : DEnv} {C : CS} {kI : KI} (h : WE X e env C fun d C1 => ∃ xs, seqR C1 d = some xs ∧ kI xs (ownP d xs) C1) : WI X tg e env C kI := by
  refine wi_list (h.imp ?_)
  rintro d C1 ⟨xs, hs, hk⟩
  refine ⟨xs, hs, ?_⟩
  have e1 : (∀ a, d ≠ .own a) → ownP d xs = fun _ => True := fun hn => by
    funext C2
    exact propext ⟨fun _ => trivial, fun _ a z => absurd z (hn a)⟩
  cases d with
  | own a =>
    have : ownP (.own a) xs = fun C2 => C2 a = some (.lst xs) := by
      funext C2
      exact propext ⟨fun z => z a rfl, fun z b e => by cases e; exact z⟩
    rw [this] at hk
    exact hk
  | lst ys => rw [e1 (fun _ => by simp)] at hk; exact hk
  | slst ys => rw [e1 (fun _ => by simp)] at hk; exact hk
  | _ => simp [seqR] at hs
end DL
/-! DLt: what is made and then stands still: lists frozen wherever they are made; == of lists' cells; repr's bound. -/
namespace DL
open PySem PySem.Spec PyProof.Rows L2 RZ
/-- a value is taken on, a list's cell frozen -/
def FrzA (k : KD) : KD := fun d C1 => (∃ a ds, d = .own a ∧ C1 a = some (.lst ds) ∧ k (.lst ds) (del C1 a)) ∨ ((∀ a, d ≠ .own a) ∧ k d C1)
theorem ev_frzA {K : PySem.W.Frag} {te : TE} {env : DEnv} {C : CS} {k : KD} (h : Ev K te env C (FrzA k)) : Ev K te env C k := fun G σ H Q w er q =>
  h G σ H _ w er fun v G1 C1 H1 d f1 w1 d1 hb => by
    rcases hb with ⟨a, ds, rfl, hc, h2⟩ | ⟨_, h2⟩
    · cases d1
      obtain ⟨G2, w2, f2, r2⟩ := w1.freeze hc
      exact q _ _ _ _ _ (f1.trans f2) w2 r2 h2
    · exact q _ _ _ _ _ f1 w1 d1 h2
section
variable {X : Cx} {e a b : Expr} {es : List Expr} {env : DEnv} {C : CS} {k : KD} {pos p p1 p2 : Pos} {P : Program} {w : World} {K : PySem.W.Frag} {mg : Str → Option Value} {base : Heap} {m : Nat}
theorem we_fa (h : WE X e env C (FrzA k)) : WE X e env C k := ev_frzA h
theorem x_addA (h : WE X a env C fun x C1 => WE X b env C1 fun y C2 => dAdd x y C2 (FrzA k)) : WE X (.BinOp a .Add b pos) env C k := we_fa (we_add h)
theorem x_mulA (h : WE X a env C fun x C1 => WE X b env C1 fun y C2 => dMul x y C2 (FrzA k)) : WE X (.BinOp a .Mult b pos) env C k := we_fa (we_mul h)
theorem x_sliceA {lo hi : Option Expr} {p2 : Pos} (h : WE X a env C fun x C1 => WO X lo env C1 fun l C2 => WO X hi env C2 fun u C3 => dSl x l u C3 (FrzA k)) : WE X (.Subscript a (.Slice lo hi none p2) pos) env C k := we_fa (we_slice h)
theorem x_listA (hx : Ctx P w K mg base m X) (Z : Zs mg) (hg : Gl X "list") (h : WA X (e :: es) env C fun ds C1 => dList ds C1 (FrzA k)) (he : starEach (e :: es) X.env = (false, eval e X.env) :: starEach es X.env := by rfl) (hpl : (backTo pos (starEach es X.env)).any (·.1) = false := by rfl) : WE X (.Call (.Name "list" p) (e :: es) [] pos) env C k := we_fa (x_listC hx Z hg h he hpl)
end
section
variable {C : CS} {k : KD} {x : D} {xs ys : List D} {i j : Int} {p : Addr} {s t : Str} {lo hi : Option Int} {b : Bool}
theorem fa_int (q : k (.int i) C) : FrzA k (.int i) C := .inr ⟨fun _ z => (by cases z), q⟩
theorem fa_str (q : k (.str s) C) : FrzA k (.str s) C := .inr ⟨fun _ z => (by cases z), q⟩
theorem fa_bl (q : k (.bl b) C) : FrzA k (.bl b) C := .inr ⟨fun _ z => (by cases z), q⟩
theorem fa_non (q : k .non C) : FrzA k .non C := .inr ⟨fun _ z => (by cases z), q⟩
theorem fa_tup (q : k (.tup xs) C) : FrzA k (.tup xs) C := .inr ⟨fun _ z => (by cases z), q⟩
theorem fa_lst (q : k (.lst xs) C) : FrzA k (.lst xs) C := .inr ⟨fun _ z => (by cases z), q⟩
theorem fa_put (h : C p = none) (q : k (.lst xs) C) : FrzA k (.own p) (put C p (.lst xs)) := .inl ⟨p, xs, rfl, put_same, by rw [del_put h]; exact q⟩
theorem slA_o {a : Addr} (hc : C a = some (.lst xs)) (q : k (.lst (cutD xs lo hi)) C) : dSl (.own a) lo hi C (FrzA k) := sl_o hc fun _ hp => fa_put hp q
theorem slA_p (q : k (.lst (cutD xs lo hi)) (put C p (.lst xs))) : dSl (.own p) lo hi (put C p (.lst xs)) (FrzA k) := slA_o put_same q
theorem slA_f (q : k (.lst (cutD xs lo hi)) C) : dSl (.lst xs) lo hi C (FrzA k) := sl_f fun _ hp => fa_put hp q
theorem slA_t (q : k (.tup (cutD xs lo hi)) C) : dSl (.tup xs) lo hi C (FrzA k) := sl_t (fa_tup q)
theorem slA_z (hl : s.length ≤ sizeLine) (q : k (.str (cutS s lo hi)) C) : dSl (.str s) lo hi C (FrzA k) := sl_z hl (fa_str q)
theorem addA_ll (h : xs.length + ys.length ≤ sizeLine) (q : k (.lst (xs ++ ys)) C) : dAdd (.lst xs) (.lst ys) C (FrzA k) := add_lst rfl rfl h fun _ hp => fa_put hp q
theorem addA_ol {a : Addr} (hc : C a = some (.lst xs)) (h : xs.length + ys.length ≤ sizeLine) (q : k (.lst (xs ++ ys)) C) : dAdd (.own a) (.lst ys) C (FrzA k) := add_lst (seqL_own hc) rfl h fun _ hp => fa_put hp q
theorem addA_pl (h : xs.length + ys.length ≤ sizeLine) (q : k (.lst (xs ++ ys)) (put C p (.lst xs))) : dAdd (.own p) (.lst ys) (put C p (.lst xs)) (FrzA k) := addA_ol put_same h q
theorem addA_ii (q : k (.int (i + j)) C) : dAdd (.int i) (.int j) C (FrzA k) := add_ii (fa_int q)
theorem addA_ss (h : s.length + t.length ≤ sizeLine) (q : k (.str (s ++ t)) C) : dAdd (.str s) (.str t) C (FrzA k) := add_ss h (fa_str q)
theorem addA_tt (h : xs.length + ys.length ≤ sizeLine) (q : k (.tup (xs ++ ys)) C) : dAdd (.tup xs) (.tup ys) C (FrzA k) := add_tt h (fa_tup q)
theorem mulA_ii (h : CMul i j) (q : k (.int (i * j)) C) : dMul (.int i) (.int j) C (FrzA k) := mul_ii h (fa_int q)
theorem listA_o {a : Addr} (hc : C a = some (.lst xs)) (q : k (.lst xs) C) : dList [.own a] C (FrzA k) := ⟨_, _, rfl, seqR_own hc, fun _ hp => fa_put hp q⟩
theorem listA_p (q : k (.lst xs) (put C p (.lst xs))) : dList [.own p] (put C p (.lst xs)) (FrzA k) := listA_o put_same q
theorem listA_l (q : k (.lst xs) C) : dList [.lst xs] C (FrzA k) := ⟨_, _, rfl, rfl, fun _ hp => fa_put hp q⟩
theorem listA_t (q : k (.lst xs) C) : dList [.tup xs] C (FrzA k) := ⟨_, _, rfl, rfl, fun _ hp => fa_put hp q⟩
end
/-! ### == of lists' cells -/
theorem eqL_refl {xs : List D} {n : Nat} (h : ∀ d ∈ xs, d.fit n = true) : eqL xs xs = true := SeqAt.eqvAll_refl _ (fitL_lay xs (fitL_all.mpr h))
theorem pyC_own {C : CS} {a : Addr} {xs : List D} {n : Nat} (hc : C a = some (.lst xs)) (h : ∀ d ∈ xs, d.fit n = true) : pyC C (.own a) = some (.list (pyL xs)) := by
  unfold pyC
  simp only [hc]
  rw [if_pos (fitL_py xs (fitL_all.mpr h))]
theorem shaped_lst {xs : List D} {n : Nat} (h : ∀ d ∈ xs, d.fit n = true) (hn : n < 64) : SeqAt.shaped (.list (pyL xs)) = true := by
  have := fit_ok (d := .lst xs) (n := n + 1) (fit_lstI h) (by omega)
  unfold D.ok at this
  rw [Bool.and_eq_true] at this
  exact this.2
section
variable {C : CS} {k : KD} {a b : Addr} {xs ys : List D} {n m : Nat}
theorem eq_ll (hx : ∀ d ∈ xs, d.fit n = true) (hy : ∀ d ∈ ys, d.fit m = true) (hn : n < 64) (hm : m < 64) (q : k (.bl (eqL xs ys)) C) : dEq false (.lst xs) (.lst ys) C k := eq_fit (fit_lstI hx) (fit_lstI hy) q (by omega) (by omega)
end
/-! ### repr: data whose text is short -/
mutual
/-- how many parts it has (signs of texts among them) -/
def D.wt : D → Nat
  | .int _ => 200
  | .str x => x.cps.size
  | .lst xs | .slst xs | .tup xs => wtL xs
  | _ => 0
def wtL : List D → Nat
  | [] => 0
  | d :: ds => d.wt + 1 + wtL ds
end
mutual
/-- its ints have at most sixty figures -/
def D.shI : D → Bool
  | .int i => decide (i.natAbs < 10 ^ 60)
  | .lst xs | .slst xs | .tup xs => shL xs
  | _ => true
def shL : List D → Bool
  | [] => true
  | d :: ds => d.shI && shL ds
end
theorem shL_all : ∀ {ds : List D}, shL ds = true ↔ ∀ d ∈ ds, d.shI = true
  | [] => by simp [shL]
  | d :: ds => by simp [shL, shL_all (ds := ds)]
theorem int_log {i : Int} (h : i.natAbs < 10 ^ 60) : (if (i == 0) = true then 0 else i.natAbs.log2 + 1) ≤ 200 := by
  split
  · omega
  · rename_i z
    have z : i.natAbs ≠ 0 := by simpa using z
    have := (Nat.log2_lt (n := i.natAbs) (k := 200) z).mpr (Nat.lt_trans h (by decide +kernel))
    omega
mutual
theorem wt_py : ∀ (d : D) {n : Nat}, d.fit n = true → d.shI = true → d.py.weight ≤ d.wt ∧ d.py.leavesShort 61 = true ∧ d.py.showable = true ∧ d.py.hasDict = false
  | .non, _, _, _ | .bl _, _, _, _ => ⟨Nat.le_refl _, rfl, rfl, rfl⟩
  | .int i, _, _, h => by
    have h : i.natAbs < 10 ^ 60 := by simpa [D.shI] using h
    refine ⟨int_log h, ?_, ?_, rfl⟩
    · simp only [D.py, PyData.leavesShort, decide_eq_true_eq]
      have e := int_text_length_le10 (k := 60) (by decide) h
      show (Str.ofString (toString i)).length ≤ 61
      rw [PySem.ofString_length]; exact e
    · simp only [D.py, PyData.showable, decide_eq_true_eq]
      by_cases z : i.natAbs = 0
      · rw [z]; decide
      · exact (Nat.log2_lt z).mpr (Nat.lt_trans h (by decide +kernel))
  | .str x, n, h, _ => by
    have hx : PyData.strOk x = true := by cases n <;> exact h
    exact ⟨Nat.le_refl _, PyData.leavesShort_of_canLay0 61 (.str x) hx rfl, rfl, rfl⟩
  | .lst xs, 0, h, _ | .slst xs, 0, h, _ | .tup xs, 0, h, _ => by simp [D.fit] at h
  | .lst xs, n + 1, h, s => wtL_py xs (n := n) (by simpa [D.fit] using h) (by simpa [D.shI] using s)
  | .slst xs, n + 1, h, s => wtL_py xs (n := n) (by simpa [D.fit] using h) (by simpa [D.shI] using s)
  | .tup xs, n + 1, h, s => wtL_py xs (n := n) (by simpa [D.fit] using h) (by simpa [D.shI] using s)
  | .obj _ _ _, n, h, _ => by cases n <;> simp [D.fit] at h
  | .own _, n, h, _ => by cases n <;> simp [D.fit] at h
  | .opq _, n, h, _ => by cases n <;> simp [D.fit] at h
theorem wtL_py : ∀ (ds : List D) {n : Nat}, fitL n ds = true → shL ds = true → PyData.weightAll (pyL ds) ≤ wtL ds ∧ PyData.leavesShortAll 61 (pyL ds) = true ∧ PyData.showableAll (pyL ds) = true ∧ PyData.hasDictAll (pyL ds) = false
  | [], _, _, _ => ⟨Nat.le_refl _, rfl, rfl, rfl⟩
  | d :: ds, n, h, s => by
    simp only [fitL, shL, Bool.and_eq_true] at h s
    obtain ⟨a, b, c, e⟩ := wt_py d h.1 s.1
    obtain ⟨a', b', c', e'⟩ := wtL_py ds h.2 s.2
    refine ⟨?_, ?_, ?_, ?_⟩
    · simp only [pyL, PyData.weightAll, wtL]; omega
    · simp only [pyL, PyData.leavesShortAll, b, b', Bool.and_self]
    · simp only [pyL, PyData.showableAll, c, c', Bool.and_self]
    · simp only [pyL, PyData.hasDictAll, e, e', Bool.or_self]
end
section
variable {C : CS} {k : KD} {x : D} {n : Nat} {a : Addr} {xs : List D}
end
end DL
namespace DL
open PySem PySem.Spec PyProof.Rows L2
/-- a list that a name has is frozen -/
theorem wss_frzI {X : Cx} {sts : List Stmt} {env : DEnv} {C : CS} {E : DEnds} (i : Nat) {p : Addr} {ds : List D} (he : env[i]? = some (some (.own p))) (hc : C p = some (.lst ds)) (h : WSs X sts (env.set i (some (.lst ds))) (del C p) E) : WSs X sts env C E := fun G σ H D0 w er q => by
  obtain ⟨G2, w2, f2, r2⟩ := w.freeze hc
  obtain ⟨v, h1, h2⟩ := er.2 i _ he
  cases h2
  have er2 : EnvR X.K G2 (env.set i (some (.lst ds))) σ := by
    have := (er.mono f2.exG).set i r2
    have hσ : σ.set i (some (.ref p)) = σ := by
      apply List.ext_getElem?
      intro j
      by_cases e : i = j
      · subst e
        rw [List.getElem?_set_self (List.getElem?_eq_some_iff.mp h1).1, h1]
      · rw [List.getElem?_set_ne e]
    rw [hσ] at this
    exact this
  exact h G2 σ H D0 w2 er2 (q.after f2)
end DL
/-! DLu: chains of comparisons; tuples backwards; texts in a tuple; tuples of the module; upper. -/
namespace DL
open PySem PySem.Spec PyProof.Rows L2
/-! ### a op b op' c -/
section
variable {K : PySem.W.Frag} {env : DEnv} {C : CS} {ta tb tc : TE} {k : KD} {r r' : R2} {p p' : OpD}
theorem ev_chain (hr : R2D K r p) (hr' : R2D K r' p') (h : Ev K ta env C fun x C1 => Ev K tb env C1 fun y C2 => p x y C2 fun z C3 => ∃ t, z = .bl t ∧ (t = true → Ev K tc env C3 fun w C4 => p' y w C4 k) ∧ (t = false → k (.bl false) C3)) : Ev K (tChain r r' ta tb tc) env C k := fun G σ H Q w er q =>
  h G σ H _ w er fun v G1 C1 H1 x f1 w1 d1 h1 => h1 G1 σ H1 _ w1 (er.mono f1.exG) fun u G2 C2 H2 y f2 w2 d2 h2 => hr v u x y G2 C2 H2 _ _ w2 (d1.mono f2.exG) d2 h2 fun z' G3 C3 H3 z f3 w3 d3 h3 => by
    obtain ⟨t, rfl, h4, h5⟩ := h3
    cases d3
    refine ⟨t, rfl, ?_⟩
    have F := (f1.trans f2).trans f3
    cases t with
    | true => exact iteT (h4 rfl G3 σ H3 _ w3 (er.mono F.exG) fun w' G4 C4 H4 d f4 w4 d4 h6 => hr' u w' y d G4 C4 H4 k Q w4 (d2.mono (f3.trans f4).exG) d4 h6 (q.after (F.trans f4)))
    | false => exact iteF (q _ G3 C3 H3 _ F w3 (.bl false) (h5 rfl))
end
section
variable {X : Cx} {a b c e : Expr} {env : DEnv} {C : CS} {k : KD} {kb : Bool → CS → Prop} {pos : Pos}
theorem we_lele (h : WE X a env C fun x C1 => WE X b env C1 fun y C2 => dB2 (fun i j => decide (i ≤ j)) x y C2 fun z C3 => ∃ t, z = .bl t ∧ (t = true → WE X c env C3 fun w C4 => dB2 (fun i j => decide (i ≤ j)) y w C4 k) ∧ (t = false → k (.bl false) C3))
    (hm : lastMarks [.LtE, .LtE] [b, c] = false := by with_unfolding_all rfl) : WE X (.Compare a [.LtE, .LtE] [b, c] pos) env C k := .of (pe_chain op_le op_le pe_tS pe_tS pe_tS hm) (ev_chain r2_B r2_B h)
theorem wt_lele (h : WE X a env C fun x C1 => WE X b env C1 fun y C2 => dB2 (fun i j => decide (i ≤ j)) x y C2 fun z C3 => ∃ t, z = .bl t ∧ (t = true → WE X c env C3 fun w C4 => dB2 (fun i j => decide (i ≤ j)) y w C4 (tb kb)) ∧ (t = false → kb false C3))
    (hm : lastMarks [.LtE, .LtE] [b, c] = false := by with_unfolding_all rfl) : WT X (.Compare a [.LtE, .LtE] [b, c] pos) env C kb :=
  .of (pt_chain op_le op_le pe_tS pe_tS pe_tS hm) (eb_test (ev_chain r2_B r2_B (h.imp fun x C1 z => WE.imp z fun y C2 z => by
    obtain ⟨i, j, rfl, rfl, t, e, h1, h2⟩ := z
    exact ⟨i, j, rfl, rfl, t, e, h1, fun ht => ⟨false, rfl, h2 ht⟩⟩)))
end
/-! ### t[::-1] -/
section
variable {prog : Program} {w : World} {A : Around} {E : Value → Shared → Prop} {s : Shared}
theorem sliceApplied_back {sl : Addr} {vl vu vs : Value} {n : Nat} {Q : Int × Int × Nat → Shared → Prop} (hs : s.heap.IsSliceOf sl vl vu vs) (pl : IsPart vl none) (pu : IsPart vu none) (ps : IsPart vs (some (-1)))
    (h : Q ((n : Int) - 1, -1, n) s) : wpAny (model prog w) A (Builtin.Slice.sliceApplied (.ref sl) (pure (n : Int))) Q E s := by
  obtain ⟨os, hos, hcs, hds⟩ := id hs
  unfold Builtin.Slice.sliceApplied Builtin.Slice.sliceFields
  refine wpAny_bind (wpAny_bind (wpAny_field hos hds (x := vl) rfl (wpAny_bind (wpAny_field hos hds (x := vu) rfl (wpAny_bind (wpAny_field hos hds (x := vs) rfl (wpAny_pure ?_)))))))
  refine wpAny_bind (HT.slicePart_ ps ?_)
  show wpAny _ _ (if ((-1 : Int) == 0) = true then _ else _) _ _ s
  rw [if_neg (by decide)]
  refine wpAny_bind (HT.slicePart_ pl (wpAny_bind (HT.slicePart_ pu (wpAny_bind (wpAny_pure ?_)))))
  show wpAny _ _ (match Builtin.Slice.sliceAdjust none none (-1) (n : Int) with | (lo, hi) => pure (lo, (-1 : Int), Builtin.Slice.slicePlaces lo hi (-1))) _ _ s
  have e1 : Builtin.Slice.sliceAdjust none none (-1) (n : Int) = ((n : Int) - 1, -1) := rfl
  rw [e1]
  show wpAny _ _ (pure ((n : Int) - 1, (-1 : Int), Builtin.Slice.slicePlaces ((n : Int) - 1) (-1) (-1))) _ _ s
  have e2 : Builtin.Slice.slicePlaces ((n : Int) - 1) (-1) (-1) = n := by
    unfold Builtin.Slice.slicePlaces
    rw [if_neg (by decide), show -(-1 : Int) = 1 from rfl, Int.ediv_one]
    split <;> omega
  rw [e2]
  exact wpAny_pure h
theorem pick_back (xs : Array Value) : ((List.range xs.size).filterMap fun (m : Nat) => xs[(((xs.size : Nat) : Int) - 1 + (m : Int) * (-1)).toNat]?).toArray = xs.toList.reverse.toArray := by
  congr 1
  apply List.ext_getElem?
  have e : ((List.range xs.size).filterMap fun (m : Nat) => xs[(((xs.size : Nat) : Int) - 1 + (m : Int) * (-1)).toNat]?) = (List.range xs.size).map fun m => xs.toList.reverse.getD m .none := by
    have : ∀ l : List Nat, (∀ m ∈ l, m < xs.size) → (l.filterMap fun (m : Nat) => xs[(((xs.size : Nat) : Int) - 1 + (m : Int) * (-1)).toNat]?) = l.map fun m => xs.toList.reverse.getD m .none := by
      intro l
      induction l with
      | nil => intro _; rfl
      | cons m l ih =>
        intro hl
        have hm := hl m List.mem_cons_self
        have e1 : (((xs.size : Nat) : Int) - 1 + (m : Int) * (-1)).toNat = xs.size - 1 - m := by omega
        have e2 : xs[xs.size - 1 - m]? = some (xs.toList.reverse.getD m .none) := by
          rw [List.getD_eq_getElem?_getD, List.getElem?_reverse (by simpa using hm), Array.length_toList, Array.getElem?_toList]
          rw [Array.getElem?_eq_getElem (by omega)]
          rfl
        rw [List.filterMap_cons, e1, e2, List.map_cons, ih fun m hm => hl m (List.mem_cons_of_mem _ hm)]
    exact this _ fun m hm => List.mem_range.mp hm
  intro i
  rw [e, List.getElem?_map]
  by_cases hi : i < xs.size
  · rw [List.getElem?_range hi, List.getElem?_eq_getElem (by simpa using hi)]
    simp [List.getD_eq_getElem?_getD, List.getElem?_eq_getElem (show i < xs.toList.reverse.length by simpa using hi)]
  · rw [List.getElem?_eq_none (by simpa using hi), List.getElem?_eq_none (by simpa using hi)]; rfl
theorem getItem_tuple_back {t sl : Addr} {items : Array Value} {vl vu vs : Value} {Q : Value → Shared → Prop} (ht : IsTup s.heap t items) (hs : s.heap.IsSliceOf sl vl vu vs) (pl : IsPart vl none) (pu : IsPart vu none) (ps : IsPart vs (some (-1)))
    (h : Q (.ref s.heap.objs.size) { s with heap := s.heap.push { cls := .type "tuple", data := .seq items.toList.reverse.toArray } })
    (hsz : items.size ≤ sizeLine) : wpAny (model prog w) A (getItem (.ref t) (.ref sl)) Q E s := by
  have htake : sizeOk (.seq items.toList.reverse.toArray) := by
    show items.toList.reverse.toArray.size ≤ sizeLine
    rw [List.size_toArray, List.length_reverse, Array.length_toList]
    exact hsz
  obtain ⟨os, hos, hcs, hds⟩ := id hs
  have hTs : s.TypeIs (.ref sl) "slice" := ⟨os, hos, hcs⟩
  unfold getItem
  try with_reducible refine wpAny_holding ?_
  first | refine wpAny_bind (wpAny_pure ?_) | skip
  refine wpAny_bind (wpAny_sequenceKey ht.typeIs (by decide) ?_)
  refine wpAny_bind (wpAny_callSpecial?_slot (name := Str.ofString "__getitem__") ht.typeIs PyProof.Rows.slot_tuple_getitem
    (wpAny_call_entry PyProof.Rows.slot_tuple_getitem ht.typeIs entry_tuple_getitem ?_ (args_tuple_getitem _ _)))
  show wpAny _ _ (Builtin.Tuple.tupleItemsOf (.ref t) >>= _) _ _ s
  refine wpAny_bind (tupleItemsOf_ ht ?_)
  refine wpAny_bind (wpAny_typeOf hTs ?_)
  rw [if_pos (by decide)]
  refine wpAny_bind (sliceApplied_back hs pl pu ps ?_)
  have hno : ¬ ((((items.size : Nat) : Int) - 1 == 0 && (-1 : Int) == 1 && items.size == items.size) = true) := by
    rw [show ((-1 : Int) == 1) = false from rfl, Bool.and_false, Bool.false_and]
    exact Bool.false_ne_true
  show wpAny _ _ (if (((items.size : Nat) : Int) - 1 == 0 && (-1 : Int) == 1 && items.size == items.size) = true then _ else _) _ _ s
  rw [if_neg hno, pick_back]
  first
    | exact wpAny_bind (m := Builtin.Tuple.tupleExact _) (wpAny_newObj_type (wpAny_pure ⟨_, rfl, wpAny_pure h⟩) htake)
    | exact wpAny_bind (m := Builtin.Tuple.tupleExact _) (wpAny_newObj_type (wpAny_bind (wpAny_pure (wpAny_pure ⟨_, rfl, wpAny_pure h⟩))) htake)
    | exact wpAny_bind (wpAny_bind (m := Builtin.Tuple.tupleExact _) (wpAny_newObj_type (wpAny_pure (wpAny_pure ⟨_, rfl, wpAny_pure h⟩)) htake))
    | exact wpAny_bind (wpAny_bind (m := Builtin.Tuple.tupleExact _) (wpAny_newObj_type (wpAny_pure ⟨_, rfl, wpAny_pure h⟩) htake))
end
def tRevT (K : PySem.W.Frag) (te : TE) : TE := fun σ H Q => te σ H fun x H1 => ∃ a xs, x = .ref a ∧ SqT K H1 a xs ∧ ∀ p, H1 p = none → Q (.ref p) (upd H1 p (.tup xs.reverse))
theorem pe_revT {X : Cx} {e : Expr} {te : TE} {k : Nat} {p1 p2 p3 pos : Pos} (he : PE X e te) : PE X (.Subscript e (.Slice none none (some (.UnaryOp .USub (.Constant (.int 1) k p1) p2)) p3) pos) (tRevT X.K te) := by
  refine ⟨fun pins s σ H Q I h => ?_⟩
  refine Subscript_ (L2.thn (he.run pins s σ H _ I h) fun v s1 ⟨x, H1, I1, r1, q1⟩ => ?_)
  obtain ⟨a, xs, ex, hx, q⟩ := q1
  subst ex
  cases r1
  have hst : PO X (some (.UnaryOp .USub (.Constant (.int 1) k p1) p2)) (tPart (tUn (rU fun i => .int (-i)) (tC (.int 1)))) := po_some (pe_un un_neg pe_int)
  refine wpAny_Slice (L2.thn (po_none.run pins s1 σ H1 (fun o H2 => o = none ∧ H2 = H1) I1 ⟨rfl, rfl⟩) fun vl s2 ⟨l, H2, I2, pl, el, e2⟩ => ?_)
  subst el e2
  refine L2.thn (po_none.run pins s2 σ H2 (fun o H3 => o = none ∧ H3 = H2) I2 ⟨rfl, rfl⟩) fun vu s3 ⟨u, H3, I3, pu, eu, e3⟩ => ?_
  subst eu e3
  refine L2.thn (hst.run pins s3 σ H3 (fun o H4 => o = some (-1) ∧ H4 = H3) I3 ⟨1, rfl, -1, rfl, rfl, rfl⟩) fun vs s4 ⟨o, H4, I4, ps, eo, e4⟩ => ?_
  subst eo e4
  have I5 : Inv X pins σ H4 { s4 with heap := s4.heap.push { cls := .type "slice", data := .fields #[vl, vu, vs] } } := I4.kept (t' := s4.toks) fun b ob q => Heap.get?_push_of_some _ q
  obtain ⟨its, r, ht, hz⟩ := I5.tuple hx
  have hlen := r.length
  show wpAny (model X.prog X.w) X.A (subscriptTail e (.Slice none none (some (.UnaryOp .USub (.Constant (.int 1) k p1) p2)) p3) (.ref a) (.ref s4.heap.objs.size)) (EP X pins σ Q) X.xe { s4 with heap := s4.heap.push { cls := .type "slice", data := .fields #[vl, vu, vs] } }
  refine tail_any (ops := [.ref a, .ref s4.heap.objs.size]) ht.typeIs (PyProof.Rows.slot_tuple_getitem.lookup) ?_ (by with_unfolding_all rfl)
  refine getItem_tuple_back ht (Heap.IsSliceOf.new _ vl vu vs) pl pu ps ?_ (by rw [List.size_toArray]; omega)
  refine ⟨.ref _, _, I5.laid (t' := s4.toks) (o := .tup xs.reverse) (fun b ob q => Heap.get?_push_of_some _ q) (Nat.le_refl _) ?_, rfl, q _ (I5.hok.fresh (Nat.le_refl _))⟩
  exact ⟨by rw [List.length_reverse]; exact hz, _, r.reverse, IsTup.new _ _⟩
section
variable {X : Cx} {e : Expr} {env : DEnv} {C : CS} {k : KD} {pos p1 p2 p3 : Pos} {j : Nat}
theorem we_revT (h : WE X e env C fun d C1 => ∃ xs, d = .tup xs ∧ k (.tup xs.reverse) C1) : WE X (.Subscript e (.Slice none none (some (.UnaryOp .USub (.Constant (.int 1) j p1) p2)) p3) pos) env C k :=
  .of (pe_revT pe_tS) fun G σ H Q w er q => h G σ H _ w er fun v G1 C1 H1 d f1 w1 r1 z => by
    obtain ⟨xs, rfl, z⟩ := z
    obtain ⟨a, vs, rfl, h1, h2⟩ := w1.tup r1
    refine ⟨a, vs, rfl, h1, fun p hp => ?_⟩
    obtain ⟨w2, f2, s2⟩ := w1.newG hp (.tup vs.reverse)
    exact q _ _ _ _ _ (f1.trans f2) w2 (.tup (SqT.of upd_same) (h2.rev.mono s2)) z
end
/-! ### tuples of texts -/
theorem in_tup {C : CS} {k : KD} {z : Str} {xs : List D} {zs : List Str} (e : xs = zs.map D.str) (q : k (.bl (decide (z ∈ zs))) C) : dIn false (.str z) (.tup xs) C k := ⟨z, zs, rfl, by rw [e], q⟩
/-! ### tuples of the module -/
theorem mgk_tup {K : PySem.W.Frag} {mg : Str → Option Value} {x : Str} {a : Addr} {o : Obj} {its : Array Value} {n : Nat} {xs : List V} {ds : List D} (h : mg x = some (.ref a)) (l : K.lookup a = some o) (hc : o.cls = .type "tuple") (hd : o.data = .seq its n) (hz : its.size ≤ sizeLine) (hv : Vals xs its.toList) (hD : ∀ G, DatAll K G xs ds) : MgK K mg x (.tup ds) :=
  ⟨_, .ref a, h, rfl, fun G => .tup (.inr ⟨o, its, n, l, hc, hd, hz, hv⟩) (hD G)⟩
theorem datAll_strsI {K : PySem.W.Frag} {G : Hp} : ∀ zs : List Str, DatAll K G (zs.map V.str) (zs.map D.str)
  | [] => .nil
  | z :: zs => .cons (.str z) (datAll_strsI zs)
/-! ### upper -/
def dUpper : D → List D → CS → KD → Prop := fun x ds C k => ∃ z, x = .str z ∧ ds = [] ∧ z.length ≤ 5592405 ∧ k (.str (Txt.upper z)) C
theorem rm_upper {K : PySem.W.Frag} : RMD K (fun x xs H Q => ∃ a, x = .str a ∧ xs = [] ∧ a.length ≤ 5592405 ∧ Q (.str (Txt.upper a)) H) dUpper := by
  rintro x a xs ds G C H k Q w r rs ⟨z, rfl, rfl, h, hk⟩ q
  cases r; cases rs
  exact ⟨z, rfl, rfl, h, q _ _ _ _ _ (Fr.refl ..) w (.str _) hk⟩
theorem x_upper {X : Cx} {o : Expr} {env : DEnv} {C : CS} {k : KD} {apos cpos : Pos} (h : WE X o env C fun x C1 => tyD "str" C1 x ∧ dUpper x [] C1 k) (hbase : attributeBase o "upper" X.env (eval o X.env) = eval o X.env := by rfl) (hline : (apos.endLine == cpos.line) = true := by rfl) :
    WE X (.Call (.Attribute o "upper" apos) [] [] cpos) env C k := we_bm0 PySem.F.plainAttrs_str PySem.F.slot_str_upper PySem.F.type_str_upper mt_upper rm_upper h hbase hline
end DL
/-! DLv: instances by data: fields, methods, makings, properties. -/
namespace DL
open PySem PySem.Spec PyProof.Rows L2
section
variable {X : Cx} {CT : CXT} {n : Nat} {fa Ca : Addr} {fd : FuncData} {ps : List Str} {sp : Sp} {E : XK} {x m : Str} {p pos apos : Pos} {e o : Expr} {es : List Expr} {ta : TE} {t : TA} {dvs : List V} {ds : List Value}
theorem goD {pins : List (Addr × Obj)} {σ : L2.St} {H : Hp} {s : Shared} {Q : VK} {us : List Value} {as : List V} (F : FnG X.prog X.w X.K X.mg X.base CT n fa fd ps sp) (hgd : X.A.guards = some []) (hr : Room n X.A) (hb : Binds X.K fd ps ds) (hd : Vals dvs ds) (hx : Passes CT X E)
    (I : Inv X pins σ H s) (r : Vals as us) (h : sp (as ++ dvs) H Q E) : wpAny (model X.prog X.w) X.A (call (.ref fa) us) (EP X pins σ Q) X.xe s := by
  have r2 : Vals (as ++ dvs) (us ++ ds) := r.append hd
  have hlen : (us ++ ds).length = ps.length := by
    rw [← r2.length]
    exact F.len _ _ _ _ h
  refine wpAny_call (codeAny_mono (F.run hgd hr I.env0 (hb s us I.kIn hlen) r2 h) ?_)
  intro res s' z
  match res, z with
  | .error e, z => exact hx pins σ H s e s' I z
  | .ok (.ret u), z => exact I.after z
/-- o.m(e, ..) -/
theorem pe_methG {pl : Sem Bool} (he : PE X o ta) (c : Cls X.K Ca) (hm : Meth X.K Ca m fa) (F : FnG X.prog X.w X.K X.mg X.base CT n fa fd ps sp) (hgd : X.A.guards = some []) (hr : Room n X.A) (hb : Binds X.K fd ps ds) (hd : Vals dvs ds) (hx : Passes CT X E) (ha : PA X (e :: es) t)
    (hst : starEach (e :: es) X.env = (false, eval e X.env) :: starEach es X.env := by rfl) (hpl : (backTo pos (starEach es X.env)).any (·.1) = false := by rfl)
    (ht : eval (.Call (.Attribute o m apos) (e :: es) [] pos) X.env = (do
      let ov ← eval o X.env
      standAt apos.atName
      let (f, first) ← holding [ov] (getMethod ov m pl)
      callWith pos f first (backTo pos (starEach (e :: es) X.env)) (backToKw pos (keywordEach [] X.env))) := by rfl) :
    PE X (.Call (.Attribute o m apos) (e :: es) [] pos) (tMeth Ca m sp dvs E ta t) := by
  refine ⟨fun pins s σ H Q I h => ?_⟩
  refine PySem.W.methodCall_KW (pl := pl) (thn (he.run pins s σ H _ I h) fun u s1 ⟨x, H1, I1, rx, a, dx, fs, ex, ea, l, q⟩ => ?_) ht
  subst ex
  obtain rfl : u = Value.ref a := rx
  refine getmeth_ok I1 ea c hm l ?_
  refine PySem.W.callWith_K (first := [.ref a]) (h₀ := X.base) I.ok.mod.kin hm.kp (thn (ha.run pos pins s1 σ H1 _ I1 q) fun us s2 ⟨vs, H2, I2, r, q2⟩ => ⟨I2.kIn, ?_⟩) hst hpl
  exact goD (us := .ref a :: us) (as := .ref a :: vs) F hgd hr hb hd hx I2 (.cons rfl r) q2
theorem makeG {pins : List (Addr × Obj)} {σ : L2.St} {H : Hp} {s : Shared} {Q : VK} {us : List Value} {vs : List V} (M : Mk X.K Ca fa) (F : FnG X.prog X.w X.K X.mg X.base CT n fa fd ps sp) (hgd : X.A.guards = some []) (hr : Room (n + 1) X.A) (hb : Binds X.K fd ps ds) (hd : Vals dvs ds)
    (hx : Passes CT X E) (I : Inv X pins σ H s) (r : Vals vs us)
    (h : ∀ x dx, H x = none → H dx = none → dx ≠ x → sp (.ref x :: (vs ++ dvs)) (upd (upd H dx (.own x)) x (.ins Ca dx [])) (fun v H2 => v = .non ∧ Q (.ref x) H2) E) :
    wpAny (model X.prog X.w) X.A (call (.ref Ca) us) (EP X pins σ Q) X.xe s := by
  have hq := h (s.heap.objs.size + 1) s.heap.objs.size (I.hok.fresh (Nat.le_succ _)) (I.hok.fresh (Nat.le_refl _)) (Nat.ne_of_lt (Nat.lt_succ_self _))
  have I2 := Inv.made (C := Ca) I
  have r2 : Vals (V.ref (s.heap.objs.size + 1) :: (vs ++ dvs)) (Value.ref (s.heap.objs.size + 1) :: (us ++ ds)) := .cons rfl (r.append hd)
  have hl : (Value.ref (s.heap.objs.size + 1) :: us ++ ds).length = ps.length := by
    have e := r2.length
    rw [F.len _ _ _ _ hq] at e
    exact e.symm
  refine wpAny_call (make_map (f := fa) I.kIn M.makes M.init (beq_iff_eq.mp M.fn) (codeAny_mono (F.run (by exact hgd) (hr.make Ca us []) (I2.env0.make Ca us []) (hb _ (Value.ref (s.heap.objs.size + 1) :: us) I2.kIn hl) r2 hq) fun r s' hq' => ?_))
  cases r with
  | error e => exact hx pins σ _ _ e s' I2 hq'
  | ok fl =>
    cases fl with
    | ret u =>
      obtain ⟨v, H', I3, rv, ev, q3⟩ := I2.after hq'
      subst ev
      exact ⟨rv, ⟨V.ref (s.heap.objs.size + 1), H', I3, rfl, q3⟩⟩
    | next => exact False.elim hq'
    | brk => exact False.elim hq'
    | cont => exact False.elim hq'
theorem pe_makeG (M : Mk X.K Ca fa) (F : FnG X.prog X.w X.K X.mg X.base CT n fa fd ps sp) (hgd : X.A.guards = some []) (hr : Room (n + 1) X.A) (hg : Gl X x) (hm : X.mg x = some (.ref Ca)) (hb : Binds X.K fd ps ds) (hd : Vals dvs ds) (hx : Passes CT X E)
    (ha : PA X (e :: es) t) (hdb : (x == ("__debug__" : Str)) = false := by decide) (he : starEach (e :: es) X.env = (false, eval e X.env) :: starEach es X.env := by rfl) (hpl : (backTo pos (starEach es X.env)).any (·.1) = false := by rfl) :
    PE X (.Call (.Name x p) (e :: es) [] pos) (tMake Ca sp dvs E t) := by
  refine ⟨fun pins s σ H Q I h => ?_⟩
  refine wpAny_Call_Name_kw (ld_glob I hg hm ?_ hdb)
  refine PySem.W.callWith_K (h₀ := X.base) I.ok.mod.kin M.kp (thn (ha.run pos pins s σ H _ I h) fun us s1 ⟨vs, H1, I1, r, q⟩ => ⟨I1.kIn, ?_⟩) he hpl
  exact makeG M F hgd hr hb hd hx I1 r q
end

/-! ### fields by data -/
/-- a field's value, found by syntax -/
inductive FGet : List Str → List D → Str → D → Prop where
  | here (f : Str) (ks : List Str) (d : D) (xs : List D) : FGet (f :: ks) (d :: xs) f d
  | there {g f : Str} {ks : List Str} {x d : D} {xs : List D} (hne : (f == g) = false) (h : FGet ks xs f d) : FGet (g :: ks) (x :: xs) f d
/-- the fields behind a store -/
inductive FPut (f : Str) (d : D) : List Str → List D → List Str → List D → Prop where
  | nil : FPut f d [] [] [f] [d]
  | here (ks : List Str) (x : D) (xs : List D) : FPut f d (f :: ks) (x :: xs) (f :: ks) (d :: xs)
  | there {g : Str} {ks ks' : List Str} {x : D} {xs xs' : List D} (hne : (g == f) = false) (h : FPut f d ks xs ks' xs') : FPut f d (g :: ks) (x :: xs) (g :: ks') (x :: xs')
section
variable {K : PySem.W.Frag} {G H : Hp}
theorem FGet.look {f : Str} {d : D} : ∀ {fs : List (Str × V)} {ks : List Str} {xs : List D}, FGet ks xs f d → fs.map (·.1) = ks → DatAll K G (fs.map (·.2)) xs → ∃ v, fs.lookup f = some v ∧ Dat K G v d
  | [], _, _, h, e, r => by cases e; cases h
  | (g, v) :: fs, _, _, h, e, r => by
    cases e
    cases h with
    | here =>
      cases r with
      | cons r1 r2 => exact ⟨v, by simp, r1⟩
    | there hne h =>
      cases r with
      | cons r1 r2 =>
        obtain ⟨u, h1, h2⟩ := FGet.look h rfl r2
        exact ⟨u, by rw [List.lookup_cons, hne]; exact h1, h2⟩
theorem FPut.put {f : Str} {d : D} {y : V} (ry : Dat K G y d) : ∀ {fs : List (Str × V)} {ks ks' : List Str} {xs xs' : List D}, FPut f d ks xs ks' xs' → fs.map (·.1) = ks → DatAll K G (fs.map (·.2)) xs → (putF f y fs).map (·.1) = ks' ∧ DatAll K G ((putF f y fs).map (·.2)) xs'
  | [], _, _, _, _, h, e, r => by cases e; cases h; exact ⟨rfl, .cons ry .nil⟩
  | (g, v) :: fs, _, _, _, _, h, e, r => by
    cases e
    cases h with
    | here =>
      cases r with
      | cons r1 r2 =>
        unfold putF
        rw [if_pos rfl]
        exact ⟨rfl, .cons ry r2⟩
    | there hne h =>
      cases r with
      | cons r1 r2 =>
        obtain ⟨h1, h2⟩ := FPut.put ry h rfl r2
        have : g ≠ f := fun z => by rw [z] at hne; simp at hne
        unfold putF
        rw [if_neg this]
        exact ⟨by rw [List.map_cons, h1], .cons r1 h2⟩
theorem look_none {f : Str} : ∀ {fs : List (Str × V)} {ks : List Str}, fs.map (·.1) = ks → f ∉ ks → fs.lookup f = none
  | [], _, _, _ => rfl
  | (g, v) :: fs, _, e, h => by
    cases e
    have h1 : f ≠ g := fun z => h (by simp [z])
    rw [List.lookup_cons, beq_eq_false_iff_ne.mpr h1]
    exact look_none rfl fun z => h (by simp at z ⊢; exact .inr z)
end
/-- an instance: a cell, or frozen -/
def insD (C : CS) : D → Option (Addr × List Str × List D)
  | .obj Cl ks xs => some (Cl, ks, xs)
  | .own a => match C a with
    | some (.ins Cl ks xs) => some (Cl, ks, xs)
    | _ => none
  | _ => none
theorem insD_own {C : CS} {a Cl : Addr} {ks : List Str} {xs : List D} (h : C a = some (.ins Cl ks xs)) : insD C (.own a) = some (Cl, ks, xs) := by unfold insD; simp only [h]
theorem Wld.ins {K : PySem.W.Frag} {G H : Hp} {C : CS} {v : V} {d : D} {Cl : Addr} {ks : List Str} {xs : List D} (w : Wld K G C H) (r : Dat K G v d) (e : insD C d = some (Cl, ks, xs)) : ∃ a dx fs, v = .ref a ∧ H a = some (.ins Cl dx fs) ∧ fs.map (·.1) = ks ∧ DatAll K G (fs.map (·.2)) xs := by
  cases r with
  | obj a b c => simp [insD] at e; obtain ⟨rfl, rfl, rfl⟩ := e; exact ⟨_, _, _, rfl, w.ex _ _ a, b, c⟩
  | own a =>
    unfold insD at e
    cases q : C a with
    | none => simp [q] at e
    | some c =>
      cases c with
      | ins Cl' ks' xs' =>
        simp [q] at e
        obtain ⟨rfl, rfl, rfl⟩ := e
        obtain ⟨_, dx, fs, h1, h2, h3⟩ := w.cell a _ q
        exact ⟨a, dx, fs, rfl, h1, h2, h3⟩
      | _ => simp [q] at e
  | _ => simp [insD] at e
def FldC (K : PySem.W.Frag) (Cl : Addr) (f : Str) : Prop := Cls K Cl ∧ NoAttr K Cl f
/-- a def by its address; dfl: what fills up the parameters -/
def FnA (P : Program) (w : World) (K : PySem.W.Frag) (mg : Str → Option Value) (base : Heap) (f : Addr) (n : Nat) (dfl : List D) (S : DSp) : Prop :=
  ∃ (fd : FuncData) (ps : List Str) (ds : List Value) (dvs : List V), FnG P w K mg base CX0 n f fd ps (toSp K S) ∧ Binds K fd ps ds ∧ Vals dvs ds ∧ ∀ G, DatAll K G dvs dfl
def MthC (P : Program) (w : World) (K : PySem.W.Frag) (mg : Str → Option Value) (base : Heap) (Cl : Addr) (m : Str) (n : Nat) (dfl : List D) (S : DSp) : Prop := Cls K Cl ∧ ∃ f, Meth K Cl m f ∧ FnA P w K mg base f n dfl S
def MakC (P : Program) (w : World) (K : PySem.W.Frag) (mg : Str → Option Value) (base : Heap) (x : Str) (Cl : Addr) (n : Nat) (dfl : List D) (S : DSp) : Prop := mg x = some (.ref Cl) ∧ ∃ f, Mk K Cl f ∧ FnA P w K mg base f n dfl S
section
variable {P : Program} {w : World} {K : PySem.W.Frag} {mg : Str → Option Value} {base : Heap} {j n : Nat} {X : Cx} {Cl : Addr} {m f x : Str} {S : DSp} {dfl : List D} {e o v : Expr} {es : List Expr} {env : DEnv} {C : CS} {k : KD} {pos p apos pos' : Pos} {E : DEnds}
theorem toSp_ok {G G' : Hp} {C' : CS} {H' : Hp} {vs dvs : List V} {ds : List D} {Q : VK} {X0 : XK} {C0 : CS} {H0 : Hp} (w1 : Wld K G' C' H') (r : DatAll K G' vs ds) (rd : ∀ G, DatAll K G dvs dfl) (f1 : Fr G C0 H0 G' C' H') (q : Kont K G C0 H0 k Q) (z : S (ds ++ dfl) C' k) : toSp K S (vs ++ dvs) H' Q X0 :=
  ⟨G', C', ds ++ dfl, k, w1, r.append (rd G'), z, q.after f1⟩
theorem x_fld (hx : Ctx P w K mg base j X) (h : WE X e env C fun d C1 => ∃ Cl ks xs v, insD C1 d = some (Cl, ks, xs) ∧ FldC K Cl f ∧ FGet ks xs f v ∧ k v C1) (hb : attributeBase e f X.env (eval e X.env) = eval e X.env := by rfl) : WE X (.Attribute e f pos) env C k :=
  .of (pe_fld pe_tS hb) fun G σ H Q w er q => h G σ H _ w er fun u G1 C1 H1 d f1 w1 r1 z => by
    obtain ⟨Cl, ks, xs, v, hi, ⟨hc, hn⟩, hg, hk⟩ := z
    obtain ⟨a, dx, fs, rfl, h1, h2, h3⟩ := w1.ins r1 hi
    obtain ⟨v', g1, g2⟩ := hg.look h2 h3
    exact ⟨a, Cl, dx, fs, v', rfl, h1, by rw [hx.K]; exact hc, by rw [hx.K]; exact hn, g1, q _ _ _ _ _ f1 w1 g2 hk⟩
theorem x_setFld (hx : Ctx P w K mg base j X) (h : WE X v env C fun y C1 => WE X o env C1 fun d C2 => ∃ p Cl ks xs ks' xs', d = .own p ∧ C2 p = some (.ins Cl ks xs) ∧ FldC K Cl f ∧ ks.length < 1000 ∧ FPut f y ks xs ks' xs' ∧ E.nx env (put C2 p (.ins Cl ks' xs')))
    (hs : swapsWith v (some (.Attribute o f pos')) pos.line X.env = pure false := by rfl) : WS X (.Assign [.Attribute o f pos'] v pos) env C E :=
  .of (ps_fld pe_tS pe_tS hs) fun G σ H D w er q => h G σ H _ w er fun y' G1 C1 H1 y f1 w1 r1 h1 => h1 G1 σ H1 _ w1 (er.mono f1.exG) fun o' G2 C2 H2 d f2 w2 r2 z => by
    obtain ⟨p, Cl, ks, xs, ks', xs', rfl, hp, ⟨hc, hn⟩, hl, hput, hk⟩ := z
    cases r2
    obtain ⟨_, dx, fs, g1, g2, g3⟩ := w2.cell p _ hp
    obtain ⟨u1, u2⟩ := hput.put (r1.mono f2.exG) g2 g3
    obtain ⟨w3, f3⟩ := w2.write hp (o := .ins Cl dx (putF f y' fs)) (c' := .ins Cl ks' xs') fun H' e => ⟨dx, _, e, u1, u2⟩
    exact ⟨p, Cl, dx, fs, rfl, g1, by rw [hx.K]; exact hc, by rw [hx.K]; exact hn, by rw [← List.length_map (f := (·.1)), g2]; exact hl, q.nx _ _ _ _ _ ((f1.trans f2).trans f3) w3 (er.mono ((f1.trans f2).trans f3).exG) hk⟩
theorem x_meth (hx : Ctx P w K mg base j X) (hM : MthC P w K mg base Cl m n dfl S) (h : WE X o env C fun d C1 => (∃ ks xs, insD C1 d = some (Cl, ks, xs) ∧ m ∉ ks) ∧ WA X (e :: es) env C1 fun ds C2 => S (d :: (ds ++ dfl)) C2 k) (hle : n ≤ j := by decide)
    (hst : starEach (e :: es) X.env = (false, eval e X.env) :: starEach es X.env := by rfl) (hpl : (backTo pos (starEach es X.env)).any (·.1) = false := by rfl) {pl : Sem Bool}
    (ht : eval (.Call (.Attribute o m apos) (e :: es) [] pos) X.env = (do
      let ov ← eval o X.env
      standAt apos.atName
      let (f, first) ← holding [ov] (getMethod ov m pl)
      callWith pos f first (backTo pos (starEach (e :: es) X.env)) (backToKw pos (keywordEach [] X.env))) := by rfl) : WE X (.Call (.Attribute o m apos) (e :: es) [] pos) env C k := by
  obtain ⟨hc, fa, hm, fd, ps, ds, dvs, F, hb, hd, hdat⟩ := hM
  have hroom := hx.room
  obtain ⟨e1, e2, e3, e4, e5, _, hgd, hcalm⟩ := hx
  subst e1 e2 e3 e4 e5
  refine .of (pe_methG pe_tS hc hm F hgd (hroom.mono hle) hb hd pass0 pa_tAr hst hpl ht) fun G σ H Q w er q => h G σ H _ w er fun u G1 C1 H1 d f1 w1 r1 z => ?_
  obtain ⟨⟨ks, xs, hi, hnk⟩, z⟩ := z
  obtain ⟨a, dx, fs, rfl, h1, h2, h3⟩ := w1.ins r1 hi
  refine ⟨a, dx, fs, rfl, h1, look_none h2 hnk, z G1 σ H1 _ w1 (er.mono f1.exG) fun vs G2 C2 H2 ds2 f2 w2 r2 zz => ?_⟩
  exact toSp_ok (ds := d :: ds2) w2 (.cons (r1.mono f2.exG) r2) hdat (f1.trans f2) q zz
theorem made_ok {G H : Hp} {a dx : Addr} (w1 : Wld K G C H) (ha : H a = none) (hd : H dx = none) (hne : dx ≠ a) : Wld K G (put C a (.ins Cl [] [])) (upd (upd H dx (.own a)) a (.ins Cl dx [])) ∧ Fr G C H G (put C a (.ins Cl [] [])) (upd (upd H dx (.own a)) a (.ins Cl dx [])) := by
  have w2 : Wld K G C (upd H dx (.own a)) := by
    obtain ⟨g, c⟩ := w1.ne hd
    exact ⟨fun b o e => by rw [upd_ne (ne_of_none e g)]; exact w1.ex b o e, fun b c' e => by
      obtain ⟨h1, h2⟩ := w1.cell b c' e
      exact ⟨h1, h2.mono (fun _ _ h => h) (upd_ne (cell_ne e c))⟩, w1.nt⟩
  have f2 : Fr G C H G C (upd H dx (.own a)) := Fr.fresh hd
  have ha2 : upd H dx (.own a) a = none := by rw [upd_ne hne.symm]; exact ha
  obtain ⟨w3, f3⟩ := w2.newC ha2 (o := .ins Cl dx []) (c := .ins Cl [] []) fun H' e => ⟨dx, [], e, rfl, .nil⟩
  exact ⟨w3, f2.trans f3⟩
theorem x_make (hx : Ctx P w K mg base j X) (hM : MakC P w K mg base x Cl n dfl S) (hg : Gl X x) (h : WA X (e :: es) env C fun ds C1 => ∀ a, C1 a = none → S (.own a :: (ds ++ dfl)) (put C1 a (.ins Cl [] [])) fun d C2 => d = .non ∧ k (.own a) C2) (hle : n + 1 ≤ j := by decide)
    (hdb : (x == ("__debug__" : Str)) = false := by decide) (he : starEach (e :: es) X.env = (false, eval e X.env) :: starEach es X.env := by rfl) (hpl : (backTo pos (starEach es X.env)).any (·.1) = false := by rfl) : WE X (.Call (.Name x p) (e :: es) [] pos) env C k := by
  obtain ⟨hmg, fa, hm, fd, ps, ds, dvs, F, hb, hd, hdat⟩ := hM
  have hroom := hx.room
  obtain ⟨e1, e2, e3, e4, e5, _, hgd, hcalm⟩ := hx
  subst e1 e2 e3 e4 e5
  refine .of (pe_makeG hm F hgd (hroom.mono hle) hg hmg hb hd pass0 pa_tAr hdb he hpl) fun G σ H Q w er q => h G σ H _ w er fun vs G1 C1 H1 ds1 f1 w1 r1 z => fun a dx ha hdx hne => ?_
  obtain ⟨w3, f3⟩ := made_ok (Cl := Cl) w1 ha hdx hne
  refine toSp_ok (ds := .own a :: ds1) (vs := .ref a :: vs) (k := fun d C2 => d = .non ∧ k (.own a) C2) w3 (.cons (.own a) (r1.mono f3.exG)) hdat (Fr.refl ..) ?_ (z a (w1.ne ha).2)
  rintro v G2 C2 H2 d f2 w2 r2 ⟨rfl, zk⟩
  cases r2
  exact ⟨rfl, q _ _ _ _ _ ((f1.trans f3).trans f2) w2 (.own a) zk⟩
end
end DL
/-! DLw: dicts by data (keys ints and texts). -/
namespace DL
open PySem PySem.Spec PyProof.Rows L2
/-- a key as data -/
def kD : Key → D
  | .inl i => .int i
  | .inr s => .str s
def valD (kvs : List (Key × D)) (k : Key) : Option D := (kvs.find? fun kv => decide (kv.1 = k)).map (·.2)
def putD (kvs : List (Key × D)) (k : Key) (v : D) : List (Key × D) :=
  if (kvs.any fun kv => decide (kv.1 = k)) = true then kvs.map (fun kv => if kv.1 = k then (kv.1, v) else kv) else kvs ++ [(k, v)]
def dropD (kvs : List (Key × D)) (k : Key) : List (Key × D) := kvs.filter fun kv => decide (kv.1 ≠ k)
section
variable {K : PySem.W.Frag} {G H : Hp} {C : CS}
theorem dat_key {v : V} {k : Key} (r : Dat K G v (kD k)) : v = kV k := by
  cases k <;> (cases r; rfl)
theorem rel_val {k : Key} : ∀ {kw : List (Key × V)} {kvs : List (Key × D)}, kw.map (·.1) = kvs.map (·.1) → DatAll K G (kw.map (·.2)) (kvs.map (·.2)) → (valD kvs k = none → valV kw k = none) ∧ (∀ d, valD kvs k = some d → ∃ v, valV kw k = some v ∧ Dat K G v d) ∧ (valV kw k).isSome = (valD kvs k).isSome
  | [], [], _, _ => ⟨fun _ => rfl, fun d h => (by cases h), rfl⟩
  | (a, v) :: kw, (b, d) :: kvs, e, r => by
    simp only [List.map_cons, List.cons.injEq] at e
    obtain ⟨rfl, e⟩ := e
    cases r with
    | cons r1 r2 =>
      obtain ⟨h1, h2, h3⟩ := rel_val (k := k) e r2
      by_cases hk : a = k
      · have e1 : valV ((a, v) :: kw) k = some v := valV_pos (p := (a, v)) hk
        have e2 : valD ((a, d) :: kvs) k = some d := by simp [valD, List.find?_cons, hk]
        refine ⟨fun z => (by rw [e2] at z; cases z), fun d' z => ?_, by rw [e1, e2]; rfl⟩
        rw [e2] at z; cases z
        exact ⟨v, e1, r1⟩
      · have e1 : valV ((a, v) :: kw) k = valV kw k := valV_neg (p := (a, v)) hk
        have e2 : valD ((a, d) :: kvs) k = valD kvs k := by simp [valD, List.find?_cons, hk]
        rw [e1, e2]
        exact ⟨h1, h2, h3⟩
  | [], _ :: _, e, _ => by simp at e
  | _ :: _, [], e, _ => by simp at e
theorem any_rel {k : Key} : ∀ {kw : List (Key × V)} {kvs : List (Key × D)}, kw.map (·.1) = kvs.map (·.1) → (kw.any fun kv => decide (kv.1 = k)) = (kvs.any fun kv => decide (kv.1 = k))
  | [], [], _ => rfl
  | (a, v) :: kw, (b, d) :: kvs, e => by
    simp only [List.map_cons, List.cons.injEq] at e
    obtain ⟨rfl, e⟩ := e
    rw [List.any_cons, List.any_cons, any_rel e]
  | [], _ :: _, e => by simp at e
  | _ :: _, [], e => by simp at e
theorem map_rel {k : Key} {y : V} {z : D} (rz : Dat K G y z) : ∀ {kw : List (Key × V)} {kvs : List (Key × D)}, kw.map (·.1) = kvs.map (·.1) → DatAll K G (kw.map (·.2)) (kvs.map (·.2)) →
    (kw.map fun kv => if kv.1 = k then (kv.1, y) else kv).map (·.1) = (kvs.map fun kv => if kv.1 = k then (kv.1, z) else kv).map (·.1) ∧ DatAll K G ((kw.map fun kv => if kv.1 = k then (kv.1, y) else kv).map (·.2)) ((kvs.map fun kv => if kv.1 = k then (kv.1, z) else kv).map (·.2))
  | [], [], _, _ => ⟨rfl, .nil⟩
  | (a, v) :: kw, (b, d) :: kvs, e, r => by
    simp only [List.map_cons, List.cons.injEq] at e
    obtain ⟨rfl, e⟩ := e
    cases r with
    | cons r1 r2 =>
      obtain ⟨h1, h2⟩ := map_rel (k := k) rz e r2
      by_cases hk : a = k
      · subst hk
        simp only [List.map_cons, if_true]
        exact ⟨by rw [h1], .cons rz h2⟩
      · simp only [List.map_cons, hk, if_false]
        exact ⟨by rw [h1], .cons r1 h2⟩
  | [], _ :: _, e, _ => by simp at e
  | _ :: _, [], e, _ => by simp at e
theorem put_rel {k : Key} {y : V} {z : D} (rz : Dat K G y z) {kw : List (Key × V)} {kvs : List (Key × D)} (e : kw.map (·.1) = kvs.map (·.1)) (r : DatAll K G (kw.map (·.2)) (kvs.map (·.2))) : (L2.putK kw k y).map (·.1) = (putD kvs k z).map (·.1) ∧ DatAll K G ((L2.putK kw k y).map (·.2)) ((putD kvs k z).map (·.2)) := by
  unfold L2.putK putD
  rw [any_rel e]
  split
  · exact map_rel rz e r
  · rw [List.map_append, List.map_append, List.map_append, List.map_append, e]
    exact ⟨rfl, r.append (.cons rz .nil)⟩
theorem drop_rel {k : Key} : ∀ {kw : List (Key × V)} {kvs : List (Key × D)}, kw.map (·.1) = kvs.map (·.1) → DatAll K G (kw.map (·.2)) (kvs.map (·.2)) → (dropK kw k).map (·.1) = (dropD kvs k).map (·.1) ∧ DatAll K G ((dropK kw k).map (·.2)) ((dropD kvs k).map (·.2))
  | [], [], _, _ => ⟨rfl, .nil⟩
  | (a, v) :: kw, (b, d) :: kvs, e, r => by
    simp only [List.map_cons, List.cons.injEq] at e
    obtain ⟨rfl, e⟩ := e
    cases r with
    | cons r1 r2 =>
      obtain ⟨h1, h2⟩ := drop_rel (k := k) e r2
      unfold dropK dropD at *
      by_cases hk : a = k
      · rw [List.filter_cons_of_neg (by simp [hk]), List.filter_cons_of_neg (by simp [hk])]
        exact ⟨h1, h2⟩
      · rw [List.filter_cons_of_pos (by simp [hk]), List.filter_cons_of_pos (by simp [hk]), List.map_cons, List.map_cons, List.map_cons, List.map_cons, h1]
        exact ⟨rfl, .cons r1 h2⟩
  | [], _ :: _, e, _ => by simp at e
  | _ :: _, [], e, _ => by simp at e
theorem Wld.dic {v : V} {a : Addr} {kvs : List (Key × D)} (w : Wld K G C H) (r : Dat K G v (.own a)) (e : C a = some (.dic kvs)) : v = .ref a ∧ ∃ kw : List (Key × V), H a = some (.dK kw) ∧ kw.map (·.1) = kvs.map (·.1) ∧ DatAll K G (kw.map (·.2)) (kvs.map (·.2)) := by
  cases r
  obtain ⟨_, kw, h1, h2, h3⟩ := w.cell a _ e
  exact ⟨rfl, kw, h1, h2, h3⟩
end
/-! ### d[k], lists and dicts alike -/
def rIxD : R2 := fun x y H Q => ∃ a v, x = .ref a ∧ DGet H a y (some v) ∧ Q v H
theorem ix_dict {X : Cx} (hu : X.A.units + 1 < cLine) : IxR X rIxD := by
  intro value slice pins s σ H x y v u Q I rx ry h hs
  obtain ⟨a, z, rfl, g, q⟩ := h
  obtain rfl : v = Value.ref a := rx
  have hT := dict_typeIs I g
  have h2 : wpAny (model X.prog X.w) X.A (getItem (.ref a) u) (EP X pins σ Q) X.xe s := d_getItem hu I g ry fun w' s3 I3 rw' => ⟨z, H, I3, rw', q⟩
  unfold subscriptTail
  refine wpAny_bind ?_
  rw [getitemInPython_of_ne hT.not_modules]
  refine wpAny_bind (wpAny_specialOf hT PySem.F.slot_dict_getitem.lookup ?_)
  have fin : wpAny (model X.prog X.w) X.A (subscripted slice false (.ref a) u) (fun r s₃ => wpAny (model X.prog X.w) X.A (letTemporaryGo value (.ref a) r >>= fun _ => pure r) (EP X pins σ Q) X.xe s₃) X.xe s := by
    rw [hs]
    exact wpAny_operating (wpAny_mono h2 (fun r s₃ h₃ => wpAny_bind (wpAny_letTemporaryGo (wpAny_pure h₃))) fun _ _ x => x)
  first
    | exact wpAny_pure (wpAny_bind fin)
    | exact wpAny_bind (wpAny_pure (wpAny_bind fin))
    | exact wpAny_bind fin
theorem IxR.or {X : Cx} {r r' : R2} (h : IxR X r) (h' : IxR X r') : IxR X fun x y H Q => r x y H Q ∨ r' x y H Q := by
  intro value slice pins s σ H x y v u Q I rx ry hq hs
  rcases hq with hq | hq
  · exact h value slice pins s σ H x y v u Q I rx ry hq hs
  · exact h' value slice pins s σ H x y v u Q I rx ry hq hs
def dGetD : OpD := fun x y C k => ∃ a kvs ky d, x = .own a ∧ y = kD ky ∧ C a = some (.dic kvs) ∧ valD kvs ky = some d ∧ k d C
def dIxD : OpD := fun x y C k => dIx x y C k ∨ dGetD x y C k
theorem r2_ixD {K : PySem.W.Frag} : R2D K (fun x y H Q => rIx K x y H Q ∨ rIxD x y H Q) dIxD := by
  rintro x y a b G C H k Q w da db (h | ⟨p, kvs, ky, d, rfl, rfl, hp, hv, hk⟩) q
  · exact .inl (r2_ix x y a b G C H k Q w da db h q)
  · obtain ⟨rfl, kw, h1, h2, h3⟩ := w.dic da hp
    obtain rfl := dat_key db
    obtain ⟨_, g2, _⟩ := rel_val (k := ky) h2 h3
    obtain ⟨v, e, r⟩ := g2 d hv
    refine .inr ⟨p, v, rfl, ?_, q _ _ _ _ _ (Fr.refl ..) w r hk⟩
    rw [← e]
    exact DGet.k h1
/-! ### in -/
def rInDk (neg : Bool) : R2 := fun y x H Q => ∃ a o, x = .ref a ∧ DGet H a y o ∧ Q (.bl (if neg = true then !o.isSome else o.isSome)) H
theorem op_inDk {X : Cx} (hu : X.A.units + 1 < cLine) : OpR X (compareOp .In) (rInDk false) := by
  rintro pins s σ H y x u v Q I ry rx ⟨a, o, rfl, g, q⟩
  obtain rfl : v = Value.ref a := rx
  exact d_in hu I g ry fun s3 I3 => ⟨.bl o.isSome, H, I3, rfl, q⟩
theorem op_ninDk {X : Cx} (hu : X.A.units + 1 < cLine) : OpR X (compareOp .NotIn) (rInDk true) := by
  rintro pins s σ H y x u v Q I ry rx ⟨a, o, rfl, g, q⟩
  obtain rfl : v = Value.ref a := rx
  exact d_notIn hu I g ry fun s3 I3 => ⟨.bl (!o.isSome), H, I3, rfl, q⟩
def dInDk (neg : Bool) : OpD := fun y x C k => ∃ a kvs ky, x = .own a ∧ y = kD ky ∧ C a = some (.dic kvs) ∧ k (.bl (if neg = true then !(valD kvs ky).isSome else (valD kvs ky).isSome)) C
theorem r2_inDk {K : PySem.W.Frag} {neg : Bool} : R2D K (rInDk neg) (dInDk neg) := by
  rintro y x b a G C H k Q w db da ⟨p, kvs, ky, rfl, rfl, hp, hk⟩ q
  obtain ⟨rfl, kw, h1, h2, h3⟩ := w.dic da hp
  obtain rfl := dat_key db
  obtain ⟨_, _, g3⟩ := rel_val (k := ky) h2 h3
  refine ⟨p, valV kw ky, rfl, DGet.k h1, ?_⟩
  rw [g3]
  exact q _ _ _ _ _ (Fr.refl ..) w (.bl _) hk
def dInX (neg : Bool) : OpD := fun x y C k => dIn neg x y C k ∨ dInDk neg x y C k
theorem OpD.or {K : PySem.W.Frag} {r r' : R2} {p p' : OpD} (h : R2D K r p) (h' : R2D K r' p') : R2D K (fun x y H Q => r x y H Q ∨ r' x y H Q) fun x y C k => p x y C k ∨ p' x y C k := by
  rintro x y a b G C H k Q w da db (z | z) q
  · exact .inl (h x y a b G C H k Q w da db z q)
  · exact .inr (h' x y a b G C H k Q w da db z q)
/-! ### d[k] = v -/
def rSetD : TSet := fun x i v H Q => ∃ a H', x = .ref a ∧ DPut H a i v H' ∧ Q H'
theorem set_dict {X : Cx} (hu : X.A.units + 1 < cLine) : PSet X rSetD := by
  intro pins s σ H o i v ov iv u Q I ro ri rv h
  obtain ⟨a, H', rfl, g, q⟩ := h
  obtain rfl : ov = Value.ref a := ro
  exact d_setItem hu I g ri rv fun s4 I4 => ⟨H', I4, q⟩
theorem PSet.or {X : Cx} {t t' : TSet} (h : PSet X t) (h' : PSet X t') : PSet X fun x i v H Q => t x i v H Q ∨ t' x i v H Q := by
  intro pins s σ H o i v ov iv u Q I ro ri rv hq
  rcases hq with hq | hq
  · exact h pins s σ H o i v ov iv u Q I ro ri rv hq
  · exact h' pins s σ H o i v ov iv u Q I ro ri rv hq
def dSetX (x y d : D) (C : CS) (kC : CS → Prop) : Prop := (∃ p n xs j, x = .own p ∧ y = .int n ∧ C p = some (.lst xs) ∧ ixN xs.length n = some j ∧ kC (put C p (.lst (xs.set j d)))) ∨
  ∃ p kvs ky, x = .own p ∧ y = kD ky ∧ C p = some (.dic kvs) ∧ kvs.length < sizeLine ∧ kC (put C p (.dic (putD kvs ky d)))
section
variable {P : Program} {w : World} {K : PySem.W.Frag} {mg : Str → Option Value} {base : Heap} {j n : Nat} {X : Cx} {a b e o i : Expr} {es : List Expr} {env : DEnv} {C : CS} {k : KD} {kb : Bool → CS → Prop} {pos p apos cpos tpos p0 : Pos} {E : DEnds}
theorem Ctx.hu (hx : Ctx P w K mg base j X) : X.A.units + 1 < cLine := by have := hx.room.units; have := hx.room.un; omega
theorem x_ixD (hx : Ctx P w K mg base j X) (h : WE X a env C fun x C1 => WE X b env C1 fun y C2 => dIxD x y C2 k) (hs : PlainIx b := by intro _ _; rfl) : WE X (.Subscript a b pos) env C k := .of (pe_ix (IxR.or ix_seq (ix_dict hx.hu)) pe_tS pe_tS hs) (ev_op r2_ixD h)
theorem x_inX (hx : Ctx P w K mg base j X) (h : WE X a env C fun x C1 => WE X b env C1 fun y C2 => dInX false x y C2 k) (hm : behindInMarks .In b = false := by rfl) : WE X (.Compare a [.In] [b] pos) env C k := we_cmp (OpR.or (OpR.or (op_inD (Room.u65 hx.room)) (OpR.or op_in_sign op_in_seq)) (op_inDk hx.hu)) (OpD.or r2_in r2_inDk) h hm
theorem xt_inX (hx : Ctx P w K mg base j X) (h : WE X a env C fun x C1 => WE X b env C1 fun y C2 => dInX false x y C2 (tb kb)) (hm : behindInMarks .In b = false := by rfl) : WT X (.Compare a [.In] [b] pos) env C kb := wt_cmp (OpR.or (OpR.or (op_inD (Room.u65 hx.room)) (OpR.or op_in_sign op_in_seq)) (op_inDk hx.hu)) (OpD.or r2_in r2_inDk) h hm
theorem x_ninX (hx : Ctx P w K mg base j X) (h : WE X a env C fun x C1 => WE X b env C1 fun y C2 => dInX true x y C2 k) (hm : behindInMarks .NotIn b = false := by rfl) : WE X (.Compare a [.NotIn] [b] pos) env C k := we_cmp (OpR.or (OpR.or (op_notInD (Room.u65 hx.room)) (OpR.or op_notIn_sign op_notIn_seq)) (op_ninDk hx.hu)) (OpD.or r2_nin r2_inDk) h hm
theorem xt_ninX (hx : Ctx P w K mg base j X) (h : WE X a env C fun x C1 => WE X b env C1 fun y C2 => dInX true x y C2 (tb kb)) (hm : behindInMarks .NotIn b = false := by rfl) : WT X (.Compare a [.NotIn] [b] pos) env C kb := wt_cmp (OpR.or (OpR.or (op_notInD (Room.u65 hx.room)) (OpR.or op_notIn_sign op_notIn_seq)) (op_ninDk hx.hu)) (OpD.or r2_nin r2_inDk) h hm
theorem set_dat {G H : Hp} {x i' v : V} {dx di dv : D} {kC : CS → Prop} {Q : Hp → Prop} (w1 : Wld K G C H) (rx : Dat K G x dx) (ri : Dat K G i' di) (rv : Dat K G v dv) (h : dSetX dx di dv C kC) (q : ∀ C' H', Fr G C H G C' H' → Wld K G C' H' → kC C' → Q H') : rSetL x i' v H Q ∨ rSetD x i' v H Q := by
  rcases h with ⟨p, n, xs, j, rfl, rfl, hp, hj, hk⟩ | ⟨p, kvs, ky, rfl, rfl, hp, hl, hk⟩
  · exact .inl (set_ok w1 hp rx ri rv hj fun H' f w' => q _ H' f w' hk)
  · obtain ⟨rfl, kw, h1, h2, h3⟩ := w1.dic rx hp
    obtain rfl := dat_key ri
    obtain ⟨g1, g2⟩ := put_rel (k := ky) rv h2 h3
    have hlen : kw.length = kvs.length := by rw [← List.length_map (f := (·.1)) (as := kw), h2, List.length_map]
    obtain ⟨w3, f3⟩ := w1.write hp (o := .dK (L2.putK kw ky v)) (c' := .dic (putD kvs ky dv)) fun H' e => ⟨_, e, g1, g2⟩
    exact .inr ⟨p, _, rfl, DPut.k h1 (by rw [hlen]; exact hl), q _ _ f3 w3 hk⟩
theorem x_setX (hx : Ctx P w K mg base j X) {d : D} {kE : DEnv → CS → Prop} (h : WE X o env C fun x C1 => WE X i env C1 fun y C2 => dSetX x y d C2 (kE env))
    (ha : ∀ v, assign (.Subscript o i pos) X.env v = (do
      let ov ← holding [v] (eval o X.env)
      let iv ← holding [v, ov] (eval i X.env)
      standAt pos
      holding [v, ov, iv] (setItem ov iv v)
      release [v, ov, iv] []) := by intro _; rfl) : WG X (.Subscript o i pos) d env C kE :=
  .of (pg_sub pe_tS pe_tS (PSet.or set_list (set_dict hx.hu)) ha) fun G σ H v Q w er r q => h G σ H _ w er fun x' G1 C1 H1 x f1 w1 r1 h1 => h1 G1 σ H1 _ w1 (er.mono f1.exG) fun y' G2 C2 H2 y f2 w2 r2 h2 =>
    set_dat w2 (r1.mono f2.exG) r2 (r.mono (f1.trans f2).exG) h2 fun C' H' f3 w3 hk => q _ _ _ _ _ ((f1.trans f2).trans f3) w3 (er.mono (f1.trans f2).exG) hk
/-- {} -/
theorem x_dnew (h : ∀ a, C a = none → k (.own a) (put C a (.dic []))) : WE X (.Dict [] [] pos) env C k := .of pe_dnewK fun G σ H Q w er q p hp => by
  obtain ⟨w3, f3⟩ := w.newC hp (o := .dK []) (c := .dic []) fun H' e => ⟨[], e, rfl, .nil⟩
  exact q _ _ _ _ _ f3 w3 (.own p) (h p (w.ne hp).2)
/-- d.get(k, x) -/
theorem x_dget2 (hx : Ctx P w K mg base j X) (h : WE X o env C fun x C1 => ∃ p kvs, x = .own p ∧ C1 p = some (.dic kvs) ∧ WE X a env C1 fun y C2 => WE X b env C2 fun z C3 => ∃ kvs ky, y = kD ky ∧ C3 p = some (.dic kvs) ∧ k ((valD kvs ky).getD z) C3)
    (m : M2 X o "get" apos a b cpos) : WE X (.Call (.Attribute o "get" apos) [a, b] [] cpos) env C k :=
  .of (pe_dget2 hx.hu pe_tS pe_tS pe_tS m) fun G σ H Q w er q => h G σ H _ w er fun x' G1 C1 H1 x f1 w1 r1 z => by
    obtain ⟨p, kvs, rfl, hp, z⟩ := z
    obtain ⟨rfl, kw, h1, h2, h3⟩ := w1.dic r1 hp
    refine ⟨p, rfl, .inl ⟨kw, .inl h1⟩, z G1 σ H1 _ w1 (er.mono f1.exG) fun y' G2 C2 H2 y f2 w2 r2 z2 => z2 G2 σ H2 _ w2 (er.mono (f1.trans f2).exG) fun z' G3 C3 H3 zd f3 w3 r3 z3 => ?_⟩
    obtain ⟨kvs', ky, rfl, hp', hk⟩ := z3
    obtain ⟨_, kw', g1, g2, g3⟩ := w3.dic (.own p) hp'
    have e := dat_key r2
    subst e
    obtain ⟨u1, u2, u3⟩ := rel_val (k := ky) g2 g3
    refine ⟨valV kw' ky, DGet.k g1, ?_⟩
    cases hv : valD kvs' ky with
    | none =>
      rw [u1 hv]
      rw [hv] at hk
      exact q _ _ _ _ _ ((f1.trans f2).trans f3) w3 r3 hk
    | some d =>
      obtain ⟨v, e1, e2⟩ := u2 d hv
      rw [e1]
      rw [hv] at hk
      exact q _ _ _ _ _ ((f1.trans f2).trans f3) w3 e2 hk
/-- d.pop(k), there -/
theorem x_dpop1 (h : WE X o env C fun x C1 => ∃ p kvs, x = .own p ∧ C1 p = some (.dic kvs) ∧ WE X a env C1 fun y C2 => ∃ kvs ky d, y = kD ky ∧ C2 p = some (.dic kvs) ∧ valD kvs ky = some d ∧ k d (put C2 p (.dic (dropD kvs ky))))
    (m : M1 X o "pop" apos a cpos) : WE X (.Call (.Attribute o "pop" apos) [a] [] cpos) env C k :=
  .of (pe_dpop1 pe_tS pe_tS m) fun G σ H Q w er q => h G σ H _ w er fun x' G1 C1 H1 x f1 w1 r1 z => by
    obtain ⟨p, kvs, rfl, hp, z⟩ := z
    obtain ⟨rfl, kw, h1, h2, h3⟩ := w1.dic r1 hp
    refine ⟨p, rfl, .inl ⟨kw, .inl h1⟩, z G1 σ H1 _ w1 (er.mono f1.exG) fun y' G2 C2 H2 y f2 w2 r2 z2 => ?_⟩
    obtain ⟨kvs', ky, d, rfl, hp', hv, hk⟩ := z2
    obtain ⟨_, kw', g1, g2, g3⟩ := w2.dic (.own p) hp'
    obtain rfl := dat_key r2
    obtain ⟨_, u2, _⟩ := rel_val (k := ky) g2 g3
    obtain ⟨v, e1, e2⟩ := u2 d hv
    obtain ⟨v1, v2⟩ := drop_rel (k := ky) g2 g3
    obtain ⟨w3, f3⟩ := w2.write hp' (o := .dK (dropK kw' ky)) (c' := .dic (dropD kvs' ky)) fun H' e => ⟨_, e, v1, v2⟩
    exact ⟨kw', ky, v, g1, rfl, e1, q _ _ _ _ _ ((f1.trans f2).trans f3) w3 e2 hk⟩
/-- del d[k] -/
theorem x_ddel (h : WE X o env C fun x C1 => WE X i env C1 fun y C2 => ∃ p kvs ky, x = .own p ∧ y = kD ky ∧ C2 p = some (.dic kvs) ∧ (valD kvs ky).isSome = true ∧ E.nx env (put C2 p (.dic (dropD kvs ky)))) : WS X (.Delete [.Subscript o i tpos] pos) env C E :=
  .of (ps_ddel pe_tS pe_tS) fun G σ H D w er q => h G σ H _ w er fun x' G1 C1 H1 x f1 w1 r1 h1 => h1 G1 σ H1 _ w1 (er.mono f1.exG) fun y' G2 C2 H2 y f2 w2 r2 z => by
    obtain ⟨p, kvs, ky, rfl, rfl, hp, hv, hk⟩ := z
    obtain ⟨rfl, kw, g1, g2, g3⟩ := w2.dic (r1.mono f2.exG) hp
    obtain rfl := dat_key r2
    obtain ⟨_, _, u3⟩ := rel_val (k := ky) g2 g3
    obtain ⟨v1, v2⟩ := drop_rel (k := ky) g2 g3
    obtain ⟨w3, f3⟩ := w2.write hp (o := .dK (dropK kw ky)) (c' := .dic (dropD kvs ky)) fun H' e => ⟨_, e, v1, v2⟩
    exact ⟨p, kw, ky, rfl, g1, rfl, by rw [u3]; exact hv, q.nx _ _ _ _ _ ((f1.trans f2).trans f3) w3 (er.mono ((f1.trans f2).trans f3).exG) hk⟩
end
/-! ### len, sorted, list of a dict -/
def dLenK : List D → CS → KD → Prop := fun ds C k => ∃ a kvs, ds = [.own a] ∧ C a = some (.dic kvs) ∧ k (.int (kvs.length : Nat)) C
theorem rl_lenK {K : PySem.W.Frag} : RLD K (fun xs H Q => ∃ a kvs, xs = [V.ref a] ∧ H a = some (.dK kvs) ∧ Q (.int kvs.length) H) dLenK := by
  rintro xs ds G C H k Q w rs ⟨a, kvs, rfl, hp, hk⟩ q
  cases rs with
  | cons r1 r2 =>
    cases r2
    obtain ⟨rfl, kw, h1, h2, _⟩ := w.dic r1 hp
    have hlen : kw.length = kvs.length := by rw [← List.length_map (f := (·.1)) (as := kw), h2, List.length_map]
    exact ⟨a, kw, rfl, h1, by rw [hlen]; exact q _ _ _ _ _ (Fr.refl ..) w (.int _) hk⟩
def dLenX : List D → CS → KD → Prop := fun ds C k => dLen ds C k ∨ dLenK ds C k
theorem CallR.or {X : Cx} {f : Value} {r r' : List V → Hp → VK → Prop} (h : CallR X f r) (h' : CallR X f r') : CallR X f fun xs H Q => r xs H Q ∨ r' xs H Q := by
  intro pins s σ H xs us Q I rv hq
  rcases hq with hq | hq
  · exact h pins s σ H xs us Q I rv hq
  · exact h' pins s σ H xs us Q I rv hq
theorem RLD.or {K : PySem.W.Frag} {r r' : List V → Hp → VK → Prop} {p p' : List D → CS → KD → Prop} (h : RLD K r p) (h' : RLD K r' p') : RLD K (fun xs H Q => r xs H Q ∨ r' xs H Q) fun ds C k => p ds C k ∨ p' ds C k := by
  rintro xs ds G C H k Q w rs (z | z) q
  · exact .inl (h xs ds G C H k Q w rs z q)
  · exact .inr (h' xs ds G C H k Q w rs z q)
/-- sorted(d), keys texts -/
def dSortedK : List D → CS → KD → Prop := fun ds C k => ∃ (a : Addr) (kvs : List (Key × D)) (ks : List Str), ds = [.own a] ∧ C a = some (.dic kvs) ∧ kvs.map (·.1) = ks.map Sum.inr ∧ ks.length < 64 ∧ ∀ ys p, ys.Perm ks → sortedS ys = true → C p = none → k (.own p) (put C p (.lst (ys.map D.str)))
theorem rl_sortedK {K : PySem.W.Frag} : RLD K (fun xs H Q => ∃ (a : Addr) (kvs : List (Key × V)) (ks : List Str), xs = [.ref a] ∧ Rd H a (.dK kvs) ∧ kvs.map (·.1) = ks.map Sum.inr ∧ ks.length < 64 ∧
    ∀ ys p, ys.Perm ks → sortedS ys = true → H p = none → Q (.ref p) (upd H p (.lst (ys.map V.str)))) dSortedK := by
  rintro xs ds G C H k Q w rs ⟨a, kvs, ks, rfl, hp, hks, h64, hk⟩ q
  cases rs with
  | cons r1 r2 =>
    cases r2
    obtain ⟨rfl, kw, h1, h2, _⟩ := w.dic r1 hp
    refine ⟨a, kw, ks, rfl, .inl h1, h2.trans hks, h64, fun ys p hperm hs hp => ?_⟩
    obtain ⟨w3, f3⟩ := w.newC hp (o := .lst (ys.map V.str)) (c := .lst (ys.map D.str)) fun H' e => ⟨_, e, datAll_strsI ys⟩
    exact q _ _ _ _ _ f3 w3 (.own p) (hk ys p hperm hs (w.ne hp).2)
section
variable {P : Program} {w : World} {K : PySem.W.Frag} {mg : Str → Option Value} {base : Heap} {j n : Nat} {X : Cx} {e : Expr} {es : List Expr} {env : DEnv} {C : CS} {k : KD} {pos p : Pos}
theorem x_lenX (hx : Ctx P w K mg base j X) (Z : Zs mg) (hg : Gl X "len") (h : WA X (e :: es) env C fun ds C1 => dLenX ds C1 k) (he : starEach (e :: es) X.env = (false, eval e X.env) :: starEach es X.env := by rfl) (hpl : (backTo pos (starEach es X.env)).any (·.1) = false := by rfl) : WE X (.Call (.Name "len" p) (e :: es) [] pos) env C k := we_cb (hx.zs Z).len (CallR.or call_len call_lenD) (RLD.or rl_len rl_lenK) hg bt_len h (he := he) (hpl := hpl)
theorem x_sortedK (hx : Ctx P w K mg base j X) (Z : Zs mg) (hg : Gl X "sorted") (h : WA X (e :: es) env C fun ds C1 => dSortedK ds C1 k) (he : starEach (e :: es) X.env = (false, eval e X.env) :: starEach es X.env := by rfl) (hpl : (backTo pos (starEach es X.env)).any (·.1) = false := by rfl) : WE X (.Call (.Name "sorted" p) (e :: es) [] pos) env C k := we_cb (hx.zs Z).sorted (call_sortedD hx.calm) rl_sortedK hg (by decide +kernel) h (he := he) (hpl := hpl)
end
end DL
/-! DLx: enumerate of a tuple; own __len__ and __contains__; strip with signs; dict of pairs. -/
namespace PySem
open Sem (wp)
open AutoSeq1 (wpAny_loadPart')
set_option maxHeartbeats 1000000 in
theorem meets_enumerate_newT {v : Value} {o : Obj} {H : Heap → Prop} (B : Begins v o H) :
    Meets (Builtin.«enumerate.__new__» ⟨[.type "enumerate", v], []⟩) (fun _ R s => H s.heap ∧
      R (.ok (.ret (.ref (s.heap.push o).objs.size))) { s with heap := (s.heap.push o).push { cls := .type "enumerate", data := .fields #[.none, .bool false, .ref s.heap.objs.size, rawInt 0, .none, .none] } }) :=
  .of_wp fun prog w A R s h => by
    obtain ⟨hp, g, d, tk, os⟩ := s; obtain ⟨h1, h⟩ := h
    have hsub := sub_enumerate
    have q1 : ∀ {A' : Around} {E : Value → Shared → Prop} {Q : Value → Shared → Prop}, Q (.ref hp.objs.size) ⟨hp.push o, g, d, tk, os⟩ → wpAny (model prog w) A' (pyIter v) Q E ⟨hp, g, d, tk, os⟩ :=
      fun q => B.iter prog w _ _ ⟨hp, g, d, tk, os⟩ _ h1 q
    wp_walk using q1
    refine wpAny_stack_any fun st => wpAny_pure ?_
    split
    · rename_i c _ _ _ _ _
      cases (c == Value.type "enumerate")
      · wp_walk using q1
        exact ⟨_, rfl, h⟩
      · wp_walk using q1
        exact ⟨_, rfl, h⟩
    · wp_walk using q1
      exact ⟨_, rfl, h⟩
section
variable {prog : Program} {w : World} {A : Around} {E : Value → Shared → Prop} {s : Shared}
theorem call_enumerate_B {v : Value} {o : Obj} {H : Heap → Prop} (B : Begins v o H) {Q : Value → Shared → Prop} (h1 : H s.heap)
    (h : ∀ h', IsEnum h' (s.heap.objs.size + 1) s.heap.objs.size 0 .none → h'.get? s.heap.objs.size = some o → h'.objs.size = s.heap.objs.size + 2 →
      (∀ b o, s.heap.get? b = some o → h'.get? b = some o) → Q (.ref (s.heap.objs.size + 1)) { s with heap := h' }) :
    wpAny (model prog w) A (call (.type "enumerate") [v]) Q E s := by
  refine callType_new F.called_enumerate (by decide) (F.typeCall_enumerate_1 _) (F.newCall_enumerate_1 _) (fun obj => F.args_object_init_2 obj _) F.entry_enumerate_new
    (meets_enumerate_newT B) ⟨h1, ?_⟩
  have hz : (s.heap.push o).objs.size = s.heap.objs.size + 1 := Heap.size_push ..
  show _ ∧ _
  rw [hz]
  have he : IsEnum ((s.heap.push o).push { cls := .type "enumerate", data := .fields #[.none, .bool false, .ref s.heap.objs.size, rawInt 0, .none, .none] }) (s.heap.objs.size + 1) s.heap.objs.size 0 .none := by
    have := Heap.get?_push_size (s.heap.push o) (o := { cls := .type "enumerate", data := .fields #[.none, .bool false, .ref s.heap.objs.size, rawInt 0, .none, .none] }) rfl
    rw [hz] at this; exact this
  refine ⟨⟨_, he, rfl⟩, h _ he (Heap.get?_push_of_some _ (Heap.get?_push_size _ B.free)) (by rw [Heap.size_push, hz]) fun b o x => Heap.get?_push_of_some _ (Heap.get?_push_of_some _ x)⟩
end
end PySem

namespace L2
open PySem PySem.Spec PyProof.Rows
/-- the tuple at a, each item in a new pair -/
def IteT (K : PySem.W.Frag) (a : Addr) : It :=
  ⟨fun i H => ∃ (xs : List V) (x : V), SqT K H a xs ∧ xs[i]? = some x, fun i H v H' => ∃ T x, v = .ref T ∧ H T = none ∧ H' = upd H T (.tup [.int (i : Nat), x]) ∧ ∀ xs, SqT K H a xs → xs[i]? = some x, fun i H => ∃ xs : List V, SqT K H a xs ∧ xs.length ≤ i⟩
theorem drawsEnd {prog : Program} {w : World} {A : Around} (hh : A.handled = none) (it t : Addr) (hne : t ≠ it) (items : Array Value) (n : Nat) (hn : items.size ≤ n) :
    PySem.Draws prog w A it [it, t] n (fun _ _ => False) (fun i h => i = n ∧ h.IsTupleIter it t i ∧ h.IsTuple t items) where
  live := fun _ _ st => let ⟨o, ho, _⟩ := st.2.1; ⟨o, ho⟩
  frame := fun _ _ _ st hk => ⟨st.1, st.2.1.at fun o e => hk it (by simp) o e, st.2.2.at fun o e => hk t (by simp) o e⟩
  item := fun i s Q E hi st hQ => by
    have := st.1
    omega
  done := fun s Q E st hE => PySem.wpAny_nextOf_tuple_end hh st.2.1 st.2.2 (by simp; omega) hE
theorem turn_enumT {P : Program} {w : World} {K : PySem.W.Frag} {elts : List Expr} {kk : Nat} {tpos : Pos} (a e it : Addr) :
    Turn P w K (.Tuple elts kk tpos) (IteT K a) [e, it] e (fun i h => (∃ old, IsEnum h e it ((i : Nat) : Int) old) ∧ h.IsTupleIter it a i ∧ e ≠ it) where
  mem := by simp
  obj := fun i h st b hb => by
    obtain ⟨⟨old, he⟩, ⟨o, ho, hc, hd⟩, _⟩ := st
    have e' : b = e ∨ b = it := by simpa using hb
    rcases e' with z | z
    · rw [z]; exact ⟨_, he, fun v q => nomatch q⟩
    · rw [z]; exact ⟨o, ho, fun v q => by rw [hd] at q; cases q⟩
  keep := fun i h h' st k => let ⟨⟨old, he⟩, hi, hne⟩ := st; ⟨⟨old, k e (by simp) _ he⟩, hi.at fun o q => k it (by simp) o q, hne⟩
  item := by
    intro X hP hw hK hc i pins s σ H E I hf st hg
    subst hP hw hK
    obtain ⟨⟨old, he⟩, hit, hne⟩ := st
    obtain ⟨xs, x, hq, hx⟩ := hg
    obtain ⟨its, rv, p, hz⟩ := I.tuple hq
    obtain ⟨u, hu, ru⟩ := rv.get hx
    have hel : e < s.heap.objs.size := Heap.lt_size he
    have hil : it < s.heap.objs.size := by obtain ⟨_, q, _⟩ := hit; exact Heap.lt_size q
    have pT : s.heap.IsTuple a its.toArray := p
    have hat : a ≠ it := by
      rintro rfl
      obtain ⟨o1, h1, c1, _⟩ := pT
      obtain ⟨o2, h2, c2, _⟩ := hit
      rw [h1] at h2; cases h2
      rw [c1] at c2; exact absurd c2 (by decide)
    have hae : a ≠ e := by
      rintro rfl
      obtain ⟨o1, h1, c1, _⟩ := pT
      have h2 : s.heap.get? a = some _ := he
      rw [h1] at h2; cases h2
      have c2 : Value.type "enumerate" = Value.type "tuple" := c1
      exact absurd c2 (by decide)
    have hlt : i < its.toArray.size := by
      have := (List.getElem?_eq_some_iff.mp hu).1
      simpa using this
    refine wpAny_pyNext_enum_itemC (c := (i : Int)) (i := i) (PySem.Draws.tuple (prog := X.prog) (w := X.w) (A := X.A.in1) (I.ok.hd hc) it a hat its.toArray) he ⟨hit, pT⟩ hlt hne (by simp; exact ⟨hne, fun z => hae z.symm⟩) fun y h' tk hP ho hst' hT hsz hk => ?_
    obtain ⟨hit', hat'⟩ := hst'
    have hy : y = u := by
      have e1 : its.toArray[i]? = some y := hP
      have e2 : its.toArray[i]? = some u := by simpa using hu
      rw [e1] at e2
      exact Option.some.inj e2
    subst hy
    refine ⟨_, rfl, wpAny_letOwnedTupleGo_enum (s := { s with heap := h', toks := tk + 1 }) ho fun h'' he' sb => ?_⟩
    have hT2 : h''.get? s.heap.objs.size = some { cls := .type "tuple", data := .seq #[.int i tk, y] } := (sb.2 _ (Nat.ne_of_gt hel)).trans hT
    have new : ObjOk X.prog X.w (upd H s.heap.objs.size (.tup [.int (i : Nat), x])) h'' s.heap.objs.size (.tup [.int (i : Nat), x]) :=
      ⟨by show 2 ≤ sizeLine; decide, [.int i tk, y], .cons ⟨_, rfl⟩ (.cons ru .nil), ⟨_, hT2, rfl, _, rfl⟩⟩
    have I1 : Inv X pins σ (upd H s.heap.objs.size (.tup [.int (i : Nat), x])) { s with heap := h'', toks := tk + 1 } :=
      I.turnedNew (ch := [e, it]) (fun b ob hb q => (sb.2 b (fun z => hb (by simp [z]))).trans (hk b ob (fun z => hb (by simp [z])) (fun z => hb (by simp [z])) q)) hf (Nat.le_refl _) new
    refine ⟨.ref s.heap.objs.size, _, I1, rfl, ⟨_, x, rfl, I.hok.fresh (Nat.le_refl _), rfl, fun ys hy => by rw [I.tuple_inj hy hq]; exact hx⟩, ⟨⟨y, ?_⟩, hit'.at fun o q => (sb.2 it (Ne.symm hne)).trans q, hne⟩, fun b hb => ?_⟩
    · have e1 : ((i + 1 : Nat) : Int) = (i : Int) + 1 := by omega
      rw [e1]; exact he'
    · have hb' : b < s.heap.objs.size := by
        have e' : b = e ∨ b = it := by simpa using hb
        rcases e' with z | z
        · rw [z]; exact hel
        · rw [z]; exact hil
      rw [upd_ne (Nat.ne_of_lt hb')]
      exact (hf b hb).1
  done := by
    intro X hP hw hK hc i pins s σ H E I hf st hg
    subst hP hw hK
    obtain ⟨⟨old, he⟩, hit, hne⟩ := st
    obtain ⟨xs, hq, hx⟩ := hg
    obtain ⟨its, rv, p, hz⟩ := I.tuple hq
    obtain ⟨f0, f1, f2, f3, f4, f5⟩ := hf it (by simp)
    have hl := rv.length
    have pT : s.heap.IsTuple a its.toArray := p
    have hat : a ≠ it := by
      rintro rfl
      obtain ⟨o1, h1, c1, _⟩ := pT
      obtain ⟨o2, h2, c2, _⟩ := hit
      rw [h1] at h2; cases h2
      rw [c1] at c2; exact absurd c2 (by decide)
    exact wpAny_pyNext_enum_endD (drawsEnd (A := X.A.in1) (I.ok.hd hc) it a hat its.toArray i (by simp; omega)) he ⟨rfl, hit, pT⟩ fun h' eb => ⟨rfl, I.turned (t' := s.toks) (fun b o hb q => eb b o hb q) f0 f1 f3 f4 f5⟩
  self := fun A i s Q E st h => let ⟨⟨_, he⟩, _⟩ := st; wpAny_pyIter_enum he h
def iEnumX (K : PySem.W.Frag) (ta : TA) : TI := fun σ H R => ta σ H fun vs H1 => ∃ a xs, vs = [.ref a] ∧ ((SqL K H1 a xs ∧ R (Ite K a) H1) ∨ (SqT K H1 a xs ∧ R (IteT K a) H1))
theorem pi_enumX {X : Cx} {e : Expr} {ta : TA} {p pos tpos : Pos} {elts : List Expr} {kk : Nat} (hg : Gl X "enumerate") (hm : X.mg "enumerate" = none) (ha : PA X [e] ta) (hs : starEach [e] X.env = [(false, eval e X.env)] := by rfl) :
    PI X (.Tuple elts kk tpos) (.Call (.Name "enumerate" p) [e] [] pos) (iEnumX X.K ta) := by
  refine ⟨fun pins s σ H R I h => ?_⟩
  refine Call_ (ld_blt I hg hm boot_enumerate (PyProof.Rows.callWith_type1 (thn (ha.run pos pins s σ H _ I h) fun us s1 ⟨vs, H1, I1, r1, q1⟩ => ?_) hs rfl))
  obtain ⟨a, xs, ex, q1⟩ := q1
  subst ex
  have fp : ∀ b ∈ [s1.heap.objs.size + 1, s1.heap.objs.size], FpOk X pins H1 b := fun b hb => by
    have e' : b = s1.heap.objs.size + 1 ∨ b = s1.heap.objs.size := by simpa using hb
    have hle : s1.heap.objs.size ≤ b := by
      rcases e' with z | z
      · rw [z]; exact Nat.le_add_right _ _
      · rw [z]; exact Nat.le_refl _
    exact I1.fpOk hle (I1.hok.fresh hle)
  cases r1 with
  | cons r rr =>
    cases rr
    cases r
    rcases q1 with ⟨hq, q⟩ | ⟨hq, q⟩
    · obtain ⟨its, rv, p', hz⟩ := I1.list hq
      refine call_enumerate_list p'.isList fun h' he hit hsz hk => wpAny_pyIter_enum he ?_
      have I2 : Inv X pins σ H1 { s1 with heap := h' } := I1.kept (t' := s1.toks) hk
      exact ⟨s1.heap.objs.size + 1, [s1.heap.objs.size + 1, s1.heap.objs.size], _, _, H1, rfl, I2, turn_enum a (s1.heap.objs.size + 1) s1.heap.objs.size, ⟨⟨.none, he⟩, hit, Nat.succ_ne_self _⟩, fp, q⟩
    · obtain ⟨its, rv, p', hz⟩ := I1.tuple hq
      refine PySem.call_enumerate_B (begins_tuple a its.toArray) (show s1.heap.IsTuple a its.toArray from p') fun h' he hit hsz hk => wpAny_pyIter_enum he ?_
      have I2 : Inv X pins σ H1 { s1 with heap := h' } := I1.kept (t' := s1.toks) hk
      exact ⟨s1.heap.objs.size + 1, [s1.heap.objs.size + 1, s1.heap.objs.size], _, _, H1, rfl, I2, turn_enumT a (s1.heap.objs.size + 1) s1.heap.objs.size, ⟨⟨.none, he⟩, ⟨_, hit, rfl, rfl⟩, Nat.succ_ne_self _⟩, fp, q⟩
end L2

namespace L2
open PySem PySem.Spec PyProof.Rows
section
variable {X : Cx} {CT : CXT} {n : Nat} {fa Ca : Addr} {fd : FuncData} {ps : List Str} {sp : Sp} {E : XK} {dvs : List V} {ds : List Value}
end
end L2
namespace DL
open PySem PySem.Spec PyProof.Rows L2
/-- pairs (i, x) -/
def enumD (xs : List D) : List D := xs.mapIdx fun i x => .tup [.int (i : Nat), x]
theorem enumD_get {xs : List D} {i : Nat} {d : D} (h : (enumD xs)[i]? = some d) : ∃ x, xs[i]? = some x ∧ d = .tup [.int (i : Nat), x] := by
  unfold enumD at h
  rw [List.getElem?_mapIdx] at h
  cases e : xs[i]? with
  | none => rw [e] at h; cases h
  | some x => rw [e] at h; exact ⟨x, rfl, (Option.some.inj h).symm⟩
theorem enumD_len {xs : List D} : (enumD xs).length = xs.length := by simp [enumD]
theorem iterD_enum {K : PySem.W.Frag} {G : Hp} {a : Addr} {xs : List D} {Pc : CS → Prop} (h1 : SeqOf K a xs Pc G) : IterD K (Ite K a) (enumD xs) Pc G := by
  rintro G' C' H' e w p1
  obtain ⟨vs, q1, r1⟩ := h1 G' C' H' e w p1
  refine ⟨fun i d hd => ?_, fun i hi => ⟨vs, q1, by rw [r1.length]; rwa [enumD_len] at hi⟩⟩
  obtain ⟨x, gx, rfl⟩ := enumD_get hd
  obtain ⟨v1, t1, d1⟩ := r1.get gx
  refine ⟨⟨vs, v1, q1, t1⟩, ?_⟩
  rintro v H2 ⟨T, x', rfl, hT, rfl, f1⟩
  have e1 := f1 vs q1
  rw [t1] at e1; cases e1
  obtain ⟨w2, f2, s2⟩ := w.newG hT (.tup [.int (i : Nat), v1])
  exact ⟨_, f2, w2, .tup (SqT.of upd_same) (.cons (.int _) (.cons (d1.mono s2) .nil))⟩
theorem iterD_enumT {K : PySem.W.Frag} {G : Hp} {a : Addr} {vs : List V} {xs : List D} (h1 : SqT K G a vs) (r1 : DatAll K G vs xs) : IterD K (IteT K a) (enumD xs) (fun _ => True) G := by
  rintro G' C' H' e w _
  have q1 : SqT K H' a vs := Same.sqT w.ex (Same.sqT e h1)
  refine ⟨fun i d hd => ?_, fun i hi => ⟨vs, q1, by rw [r1.length]; rwa [enumD_len] at hi⟩⟩
  obtain ⟨x, gx, rfl⟩ := enumD_get hd
  obtain ⟨v1, t1, d1⟩ := r1.get gx
  refine ⟨⟨vs, v1, q1, t1⟩, ?_⟩
  rintro v H2 ⟨T, x', rfl, hT, rfl, f1⟩
  have e1 := f1 vs q1
  rw [t1] at e1; cases e1
  obtain ⟨w2, f2, s2⟩ := w.newG hT (.tup [.int (i : Nat), v1])
  exact ⟨_, f2, w2, .tup (SqT.of upd_same) (.cons (.int _) (.cons ((d1.mono e).mono s2) .nil))⟩
section
variable {P : Program} {w : World} {K : PySem.W.Frag} {mg : Str → Option Value} {base : Heap} {j n m : Nat} {X : Cx} {Cl : Addr} {S : DSp} {dfl : List D} {a b e o : Expr} {ts es : List Expr} {env : DEnv} {C : CS} {k : KD} {kI : KI} {kb : Bool → CS → Prop} {pos p apos tpos cpos : Pos}
theorem wi_enum (hm : X.mg "enumerate" = none) (hg : Gl X "enumerate") (h : WA X [a] env C fun ds C1 => ∃ x xs, ds = [x] ∧ ((seqR C1 x = some xs ∧ kI (enumD xs) (ownP x xs) C1) ∨ (x = .tup xs ∧ kI (enumD xs) (fun _ => True) C1)))
    (hs : starEach [a] X.env = [(false, eval a X.env)] := by rfl) : WI X (.Tuple ts n tpos) (.Call (.Name "enumerate" p) [a] [] pos) env C kI := by
  refine ⟨_, pi_enumX hg hm pa_tAr hs, fun G σ H R w er q => h G σ H _ w er fun v G1 C1 H1 ds f1 w1 r1 z => ?_⟩
  obtain ⟨x, xs, rfl, z⟩ := z
  cases r1 with
  | cons r1 r2 =>
    cases r2
    rcases z with ⟨s1, z⟩ | ⟨rfl, z⟩
    · obtain ⟨a1, rfl, g1, vs, t1⟩ := seqOf_dat w1 r1 s1
      exact ⟨a1, vs, rfl, .inl ⟨t1, q _ _ _ _ _ _ f1 w1 (iterD_enum g1) z⟩⟩
    · cases r1 with
      | tup x1 x2 => exact ⟨_, _, rfl, .inr ⟨Same.sqT w1.ex x1, q _ _ _ _ _ _ f1 w1 (iterD_enumT x1 x2) z⟩⟩
/-! ### strip -/
def dStripC : D → List D → CS → KD → Prop := fun x ds C k => ∃ z y, x = .str z ∧ ds = [.str y] ∧ z.length ≤ sizeLine ∧ k (.str (Txt.stripChars z y)) C
theorem rm_stripC {K : PySem.W.Frag} : RMD K (fun x xs H Q => ∃ a b, x = .str a ∧ xs = [.str b] ∧ a.length ≤ sizeLine ∧ Q (.str (Txt.stripChars a b)) H) dStripC := by
  rintro x a xs ds G C H k Q w da rs ⟨z, y, rfl, rfl, hl, hk⟩ q
  cases da
  cases rs with
  | cons r1 r2 =>
    cases r2
    cases r1
    exact ⟨z, y, rfl, rfl, hl, q _ _ _ _ _ (Fr.refl ..) w (.str _) hk⟩
theorem x_stripC (h : WE X o env C fun x C1 => tyD "str" C1 x ∧ WA X (e :: es) env C1 fun ds C2 => dStripC x ds C2 k) (hbase : attributeBase o "strip" X.env (eval o X.env) = eval o X.env := by rfl)
    (hfew : ((backTo cpos (starEach (e :: es) X.env)).all (fun x => !x.1) && (backToKw cpos (keywordEach [] X.env)).all (fun x => x.1.isSome)
      && decide ((e :: es).length + ([] : List Keyword).length + (if ([] : List Keyword).isEmpty then 0 else 1) < 30)) = true := by rfl)
    (hline : (apos.endLine == cpos.line) = true := by rfl) (hs : starEach (e :: es) X.env = (false, eval e X.env) :: starEach es X.env := by rfl) (hplain : (backTo cpos (starEach es X.env)).any (·.1) = false := by rfl) :
    WE X (.Call (.Attribute o "strip" apos) (e :: es) [] cpos) env C k :=
  we_bm PySem.F.plainAttrs_str PySem.F.slot_str_strip PySem.F.type_str_strip mt_stripChars rm_stripC h hbase hfew hline hs hplain
end
/-! ### dict of pairs -/
def mergeD (kvs more : List (Key × D)) : List (Key × D) := more.foldl (fun acc kv => putD acc kv.1 kv.2) kvs
section
variable {K : PySem.W.Frag} {G H : Hp} {C : CS}
theorem merge_rel : ∀ {mw : List (Key × V)} {more : List (Key × D)} {kw : List (Key × V)} {kvs : List (Key × D)}, mw.map (·.1) = more.map (·.1) → DatAll K G (mw.map (·.2)) (more.map (·.2)) → kw.map (·.1) = kvs.map (·.1) → DatAll K G (kw.map (·.2)) (kvs.map (·.2)) →
    (mergeK kw mw).map (·.1) = (mergeD kvs more).map (·.1) ∧ DatAll K G ((mergeK kw mw).map (·.2)) ((mergeD kvs more).map (·.2))
  | [], [], _, _, _, _, e, r => ⟨e, r⟩
  | (a, v) :: mw, (b, d) :: more, kw, kvs, e1, r1, e, r => by
    simp only [List.map_cons, List.cons.injEq] at e1
    obtain ⟨rfl, e1⟩ := e1
    cases r1 with
    | cons r1 r2 =>
      obtain ⟨g1, g2⟩ := put_rel (k := a) r1 e r
      exact merge_rel (mw := mw) (more := more) e1 r2 g1 g2
  | [], _ :: _, _, _, e, _, _, _ => by simp at e
  | _ :: _, [], _, _, e, _, _, _ => by simp at e
theorem pairs_dat : ∀ {vs : List V} {kvs : List (Key × D)}, DatAll K G vs (kvs.map fun kv => D.tup [kD kv.1, kv.2]) → (∀ a o, G a = some o → H a = some o) → ∃ (ps : List Addr) (kw : List (Key × V)), vs = ps.map V.ref ∧ Paired (fun p kv => SqT K H p [kV kv.1, kv.2]) ps kw ∧ kw.map (·.1) = kvs.map (·.1) ∧ DatAll K G (kw.map (·.2)) (kvs.map (·.2))
  | [], [], _, _ => ⟨[], [], rfl, .nil, rfl, .nil⟩
  | v :: vs, (ky, d) :: kvs, r, e => by
    cases r with
    | cons r1 r2 =>
      obtain ⟨ps, kw, h1, h2, h3, h4⟩ := pairs_dat (vs := vs) (kvs := kvs) r2 e
      cases r1 with
      | @tup p us _ x1 x2 =>
        cases x2 with
        | @cons u1 _ us' _ y1 y2 =>
          cases y2 with
          | @cons u2 _ us'' _ z1 z2 =>
            cases z2
            obtain rfl := dat_key y1
            exact ⟨p :: ps, (ky, u2) :: kw, by rw [h1]; rfl, .cons (Same.sqT e x1) h2, by simp [h3], .cons z1 h4⟩
  | [], _ :: _, r, _ => by cases r
  | _ :: _, [], r, _ => by cases r
def dDictP : List D → CS → KD → Prop := fun ds C k => ∃ (d : D) (kvs : List (Key × D)), ds = [d] ∧ seqR C d = some (kvs.map fun kv => D.tup [kD kv.1, kv.2]) ∧ ∀ p, C p = none → k (.own p) (put C p (.dic (mergeD [] kvs)))
theorem rl_dictP : RLD K (fun xs H Q => ∃ (a : Addr) (ps : List Addr) (kvs : List (Key × V)), xs = [.ref a] ∧ SqL K H a (ps.map V.ref) ∧ Paired (fun p kv => SqT K H p [kV kv.1, kv.2]) ps kvs ∧
    ∀ p, H p = none → Q (.ref p) (upd H p (.dK (mergeK [] kvs)))) dDictP := by
  rintro xs ds G C H k Q w rs ⟨d, kvs, rfl, hs, hk⟩ q
  cases rs with
  | @cons v1 _ vs1 _ r1 r2 =>
    cases r2
    obtain ⟨a, rfl, g1, vs', t1⟩ := seqOf_dat w r1 hs
    obtain ⟨vs, h1, h2⟩ : ∃ vs, SqL K H a vs ∧ DatAll K G vs (kvs.map fun kv => D.tup [kD kv.1, kv.2]) := by
      cases r1 with
      | lst x1 x2 => simp [seqR] at hs; subst hs; exact ⟨_, w.ex.seq (SqL.of x1), x2⟩
      | slst x1 x2 => simp [seqR] at hs; subst hs; exact ⟨_, w.ex.seq x1, x2⟩
      | own a =>
        obtain ⟨_, vs, y1, y2⟩ := w.cell a _ (own_seqR hs)
        exact ⟨vs, SqL.of y1, y2⟩
      | _ => simp [seqR] at hs
    obtain ⟨ps, kw, rfl, g2, g3, g4⟩ := pairs_dat h2 w.ex
    refine ⟨a, ps, kw, rfl, h1, g2, fun p hp => ?_⟩
    obtain ⟨m1, m2⟩ := merge_rel (kw := []) (kvs := []) g3 g4 rfl .nil
    obtain ⟨w3, f3⟩ := w.newC hp (o := .dK (mergeK [] kw)) (c := .dic (mergeD [] kvs)) fun H' e => ⟨_, e, m1, m2⟩
    exact q _ _ _ _ _ f3 w3 (.own p) (hk p (w.ne hp).2)
end
section
variable {P : Program} {w : World} {K : PySem.W.Frag} {mg : Str → Option Value} {base : Heap} {j n m : Nat} {X : Cx} {e : Expr} {es : List Expr} {env : DEnv} {C : CS} {k : KD} {pos p : Pos}
theorem x_dictP (hx : Ctx P w K mg base j X) (Z : Zs mg) (hg : Gl X "dict") (h : WA X (e :: es) env C fun ds C1 => dDictP ds C1 k) (he : starEach (e :: es) X.env = (false, eval e X.env) :: starEach es X.env := by rfl) (hpl : (backTo pos (starEach es X.env)).any (·.1) = false := by rfl) :
    WE X (.Call (.Name "dict" p) (e :: es) [] pos) env C k := we_ct (hx.zs Z).dict (call_dictP hx.calm) rl_dictP hg (by decide +kernel) h (he := he) (hpl := hpl)
end
/-! ### short answers -/
section
variable {C C1 : CS} {k : KD} {kC : CS → Prop} {K : PySem.W.Frag} {Cl p a : Addr} {ks : List Str} {xs : List D} {f s : Str} {d v : D} {kvs : List (Key × D)} {q : D → Prop}
theorem fld_ok (h1 : insD C d = some (Cl, ks, xs)) (h2 : FldC K Cl f) (h3 : FGet ks xs f v) (h : q v) : ∃ Cl ks xs v, insD C d = some (Cl, ks, xs) ∧ FldC K Cl f ∧ FGet ks xs f v ∧ q v := ⟨_, _, _, _, h1, h2, h3, h⟩
theorem ixD_ok (h1 : C a = some (.dic kvs)) (h2 : valD kvs (Sum.inr s) = some d) (h : k d C) : dIxD (.own a) (.str s) C k := .inr ⟨_, _, Sum.inr s, _, rfl, rfl, h1, h2, h⟩
theorem inX_ok (h1 : C a = some (.dic kvs)) (h : k (.bl (valD kvs (Sum.inr s)).isSome) C) : dInX false (.str s) (.own a) C k := .inr ⟨_, _, Sum.inr s, rfl, rfl, h1, h⟩
theorem ninX_ok (h1 : C a = some (.dic kvs)) (h : k (.bl (!(valD kvs (Sum.inr s)).isSome)) C) : dInX true (.str s) (.own a) C k := .inr ⟨_, _, Sum.inr s, rfl, rfl, h1, h⟩
theorem lenX_ok (h1 : C a = some (.dic kvs)) (h : k (.int (kvs.length : Nat)) C) : dLenX [.own a] C k := .inr ⟨_, _, rfl, h1, h⟩
end
end DL
/-! DLy: targets with a star. -/
namespace PySem
open Sem (wp)
open PyProof.Rows
theorem Walks.shift {prog : Program} {w : World} {A : Around} {I : Addr} {fp wr : List Addr} {n : Nat} {P : Nat → Value → Prop} {St : Nat → Heap → Prop} (W : Walks prog w A I fp wr n P St) (i : Nat) (hi : i ≤ n) :
    Walks prog w A I fp wr (n - i) (fun j => P (i + j)) (fun j => St (i + j)) where
  sub := W.sub
  frame := fun j => W.frame (i + j)
  item := fun j s Q E hj st hQ => W.item (i + j) s Q E (by omega) st hQ
  done := fun s Q E st hQ => W.done s Q E (by rw [show i + (n - i) = n by omega] at st; exact st) hQ
  self := fun j => W.self (i + j)
section
variable {prog : Program} {w : World} {A : Around} {E : Value → Shared → Prop} {s : Shared}
theorem items_acc {items : Array Value} {acc : Array Value} {i : Nat} (h : ItemsOf (fun j v => items[i + j]? = some v) acc (items.size - i)) : acc.toList = items.toList.drop i := by
  apply List.ext_getElem?
  intro j
  rw [List.getElem?_drop, Array.getElem?_toList, Array.getElem?_toList]
  by_cases hj : j < acc.size
  · have e : acc[j]? = some acc[j] := by simp [hj]
    rw [e, h.2 j _ e]
  · have e1 : acc[j]? = none := by simp; omega
    have hs := h.1
    have e2 : items[i + j]? = none := by simp; omega
    rw [e1, e2]
theorem unpackItems_star {t : Addr} {items : Array Value} {n i : Nat} {Q : List Value → Shared → Prop} (hh : A.handled = none) (ht : PyProof.Rows.IsTup s.heap t items) (hi : i < n) (hn : n ≤ items.size + 1) (hsz : items.size ≤ sizeLine)
    (hQ : ∀ (h' : Heap) (tk : Nat), (∀ b o, s.heap.get? b = some o → h'.get? b = some o) →
      Q (items.toList.take i ++ [.ref h'.objs.size] ++ items.toList.drop (items.size - (n - 1 - i))) { s with heap := h'.push { cls := .type "list", data := .seq ((items.toList.drop i).take (items.size - (n - 1))).toArray }, toks := tk }) : wpAny (model prog w) A (unpackItems (.ref t) n (some i)) Q E s := by
  have hlt : t ≠ s.heap.objs.size := by obtain ⟨o, ho, _⟩ := ht; exact Nat.ne_of_lt (Heap.lt_size ho)
  unfold unpackItems
  refine wpAny_bind ?_
  unfold notIterableAtAll
  refine wpAny_bind (wpAny_specialOf ht.typeIs slot_tuple_iter.lookup ?_)
  refine wpAny_pure ?_
  simp only [Bool.false_eq_true, if_false]
  refine wpAny_bind (wpAny_holding (iter_tuple ht ?_))
  refine wpAny_bind (wpAny_holding (draw_tuple hlt i 0 _ _ ⟨_, Heap.get?_push_size _ rfl, rfl, rfl⟩ (ht.push _) (by omega) fun h₁ hit₁ hs₁ => ?_))
  have hall : List.take i (List.drop 0 items.toList) = items.toList.take i := by rw [List.drop_zero]
  rw [hall]
  rw [if_neg (by simp; omega)]
  have ht₁ : PyProof.Rows.IsTup h₁ t items := (ht.push _).extBut hs₁.extBut hlt
  have W := ((Walks.tuple (prog := prog) (w := w) (A := A.in1) hh s.heap.objs.size t hlt items).shift i (by omega)).toS
  have hst : (fun (j : Nat) (s' : Shared) => s'.heap.IsTupleIter s.heap.objs.size t (i + j) ∧ s'.heap.IsTuple t items) 0 { s with heap := h₁ } := ⟨by have h0 := hit₁; rw [Nat.zero_add] at h0; exact h0, ht₁⟩
  have hsz1 : h₁.objs.size = s.heap.objs.size + 1 := by rw [hs₁.1, Heap.size_push]
  refine wpAny_bind (wpAny_holding (wpAny_collect_iter (s := { s with heap := h₁ }) (.inr (.inr (.inr rfl))) W (fun j s' st => let ⟨o, ho, hc, _⟩ := st.1; ⟨o, ho, hc⟩) hst (fun b hb => ?_) (by simp) (fun s' acc hm hacc => ?_) (by omega)))
  · have e' : b = s.heap.objs.size ∨ b = t := by simpa using hb
    show b < h₁.objs.size
    rw [hsz1]
    rcases e' with rfl | rfl
    · exact Nat.lt_succ_self _
    · obtain ⟨o, ho, _⟩ := ht
      exact Nat.lt_succ_of_lt (Heap.lt_size ho)
  · have hl := items_acc hacc
    rw [hl]
    have hlen : (items.toList.drop i).length = items.size - i := by simp
    rw [hlen, if_neg (by omega)]
    refine wpAny_bind (wpAny_newList ?_ (by simp; omega))
    refine wpAny_pure ?_
    have e1 : items.size - i - (n - 1 - i) = items.size - (n - 1) := by omega
    have e2 : List.drop (items.size - i - (n - 1 - i)) (List.drop i items.toList) = items.toList.drop (items.size - (n - 1 - i)) := by
      rw [List.drop_drop]; congr 1; omega
    rw [e2, e1]
    obtain ⟨hh1, hg, hdr, ho, _⟩ := hm
    obtain ⟨hp', g', d', tk', os'⟩ := s'
    simp only at hg hdr ho
    subst hg hdr ho
    refine hQ _ tk' fun b o e => ?_
    have hb : b ≠ s.heap.objs.size := Nat.ne_of_lt (Heap.lt_size e)
    exact hh1 b o (by simpa using hb) (hs₁.extBut b o hb (Heap.get?_push_of_some _ e))
theorem unpack_star {t : Addr} {items : Array Value} {targets : List (Bool × (Value → Sem Unit))} {n i : Nat} {Q : Unit → Shared → Prop} (hh : A.handled = none) (ht : PyProof.Rows.IsTup s.heap t items) (hn : targets.length = n) (hstar : targets.findIdx? (·.1) = some i) (hi : i < n) (hn' : n ≤ items.size + 1) (hsz : items.size ≤ sizeLine)
    (h : ∀ (h' : Heap) (tk : Nat), (∀ b o, s.heap.get? b = some o → h'.get? b = some o) →
      wpAny (model prog w) A (assignInOrder (targets.map (·.2)) (items.toList.take i ++ [.ref h'.objs.size] ++ items.toList.drop (items.size - (n - 1 - i)))) Q E { s with heap := h'.push { cls := .type "list", data := .seq ((items.toList.drop i).take (items.size - (n - 1))).toArray }, toks := tk }) :
    wpAny (model prog w) A (unpack (.ref t) targets) Q E s := by
  unfold unpack
  rw [hn, hstar]
  exact wpAny_bind (wpAny_holding (unpackItems_star hh ht hi hn' hsz h))
end
end PySem
namespace L2
open PySem PySem.Spec PyProof.Rows
/-- (a, *b, c) = a tuple: n targets, the i-th has the star -/
def gStar (K : PySem.W.Frag) (n i : Nat) (t : TGs) : TG := fun v σ H Q => ∃ a xs, v = .ref a ∧ SqT K H a xs ∧ i < n ∧ n ≤ xs.length + 1 ∧
  ∀ q, H q = none → t (xs.take i ++ [.ref q] ++ xs.drop (xs.length - (n - 1 - i))) σ (upd H q (.lst ((xs.drop i).take (xs.length - (n - 1))))) Q
theorem pg_star {X : Cx} {es : List Expr} {k : Nat} {t : TGs} {n i : Nat} {pos : Pos} (hc : X.calm = true) (h : PGs X es t)
    (hn : (assignEach es X.env).length = n := by rfl) (hst : (assignEach es X.env).findIdx? (·.1) = some i := by rfl) : PG X (.Tuple es k pos) (gStar X.K n i t) := by
  refine ⟨fun pins s σ H v u Q I r hw => ?_⟩
  obtain ⟨a, xs, e1, hq, hi, hl, hw⟩ := hw
  subst e1
  cases r
  obtain ⟨its, rv, ht, hz⟩ := I.tuple hq
  have hlen := rv.length
  rw [assign_Tuple]
  refine wpAny_bind (wpAny_standAt (PySem.unpack_star (n := n) (i := i) (I.ok.hd hc) ht hn hst hi (by simp; omega) (by rw [List.size_toArray, ← hlen]; exact hz) fun h' tk hx => ?_))
  have I1 : Inv X pins σ H { s with heap := h' } := I.kept (t' := s.toks) hx
  have hf : H h'.objs.size = none := I1.hok.fresh (Nat.le_refl _)
  have rm : Vals ((xs.drop i).take (xs.length - (n - 1))) ((its.drop i).take (its.length - (n - 1))) := by rw [hlen]; exact (rv.drop i).take _
  have hz2 : ((xs.drop i).take (xs.length - (n - 1))).length ≤ sizeLine := Nat.le_trans (by simp; omega) hz
  have e1 : its.toArray.toList = its := by simp
  have e2 : its.toArray.size = its.length := by simp
  rw [e1, e2]
  have I2 : Inv X pins σ (upd H h'.objs.size (.lst ((xs.drop i).take (xs.length - (n - 1))))) { s with heap := h'.push { cls := .type "list", data := .seq ((its.drop i).take (its.length - (n - 1))).toArray }, toks := tk } :=
    I1.laid (t' := tk) (fun b u e => Heap.get?_push_of_some _ e) (Nat.le_refl _) ⟨hz2, _, 0, rm, Heap.get?_push_size _ rfl⟩
  have rv2 : Vals (xs.take i ++ [.ref h'.objs.size] ++ xs.drop (xs.length - (n - 1 - i))) (its.take i ++ [.ref h'.objs.size] ++ its.drop (its.length - (n - 1 - i))) := by
    rw [hlen]
    have r1 : Vals [V.ref h'.objs.size] [Value.ref h'.objs.size] := .cons rfl .nil
    exact ((rv.take i).append r1).append (rv.drop _)
  exact h.run pins _ σ _ _ _ Q I2 rv2 (hw _ hf)
end L2
namespace L2
open PySem PySem.Spec PyProof.Rows
theorem pgs_consS {X : Cx} {e : Expr} {es : List Expr} {t : TG} {u : TGs} {p : Pos} (h1 : PG X e t) (h2 : PGs X es u)
    (hs : (assignEach (.Starred e p :: es) X.env).map (·.2) = assign e X.env :: (assignEach es X.env).map (·.2) := by rfl) : PGs X (.Starred e p :: es) (gCons t u) := by
  refine ⟨fun pins s σ H vs us Q I r h => ?_⟩
  obtain ⟨v, vr, e1, h⟩ := h
  subst e1
  cases r with
  | cons r rr =>
    rw [hs]
    refine assignInOrder_cons (thn (h1.run pins s σ H _ _ _ I r h) fun _ s1 ⟨σ1, H1, I1, q1⟩ => ?_)
    exact h2.run pins s1 σ1 H1 _ _ Q I1 rr q1
end L2
namespace DL
open PySem PySem.Spec PyProof.Rows L2
section
variable {X : Cx} {env : DEnv} {C : CS} {pos p : Pos} {K : PySem.W.Frag} {G : Hp}
theorem datAll_take' : ∀ {vs : List V} {ds : List D} (n : Nat), DatAll K G vs ds → DatAll K G (vs.take n) (ds.take n)
  | _, _, 0, _ => by rw [List.take_zero, List.take_zero]; exact .nil
  | _, _, n + 1, .nil => .nil
  | _, _, n + 1, .cons a r => .cons a (datAll_take' n r)
theorem datAll_drop' : ∀ {vs : List V} {ds : List D} (n : Nat), DatAll K G vs ds → DatAll K G (vs.drop n) (ds.drop n)
  | _, _, 0, r => r
  | _, _, n + 1, .nil => .nil
  | _, _, n + 1, .cons a r => datAll_drop' n r
theorem wgs_consS {t : Expr} {ts : List Expr} {d : D} {ds : List D} {kE : DEnv → CS → Prop} (h : WG X t d env C fun env1 C1 => WGs X ts ds env1 C1 kE) (hs : (assignEach (.Starred t p :: ts) X.env).map (·.2) = assign t X.env :: (assignEach ts X.env).map (·.2) := by rfl) : WGs X (.Starred t p :: ts) (d :: ds) env C kE := fun G σ H vs Q w er r q pins s us I ru => by
  cases r with
  | @cons v vr _ _ r1 r2 =>
    refine (pgs_consS (X := X) pg_tGt pgs_tGts hs).run pins s σ H (v :: vr) us Q I ru ⟨v, vr, rfl, ?_⟩
    exact h G σ H v _ w er r1 fun G1 C1 H1 σ1 env1 f1 w1 er1 h1 => h1 G1 σ1 H1 vr Q w1 er1 (r2.mono f1.exG) (q.after f1)
/-- (a, *b, c) = a tuple; b is a new list -/
theorem wg_tupS {ts : List Expr} {n m i : Nat} {ds : List D} {kE : DEnv → CS → Prop} (hc : X.calm = true) (hm : (assignEach ts X.env).length = m) (hst : (assignEach ts X.env).findIdx? (·.1) = some i) (hi : i < m) (hl : m ≤ ds.length + 1)
    (h : ∀ q, C q = none → WGs X ts (ds.take i ++ [.own q] ++ ds.drop (ds.length - (m - 1 - i))) env (put C q (.lst ((ds.drop i).take (ds.length - (m - 1))))) kE) : WG X (.Tuple ts n pos) (.tup ds) env C kE :=
  .of (pg_star hc pgs_tGts hm hst) fun G σ H v Q w er r q => by
    cases r with
    | tup h1 h2 =>
      have hlen := h2.length
      refine ⟨_, _, rfl, Same.sqT w.ex h1, hi, by rw [hlen]; exact hl, fun a ha => ?_⟩
      rw [hlen]
      obtain ⟨w3, f3⟩ := w.newC ha (o := .lst _) (c := .lst ((ds.drop i).take (ds.length - (m - 1)))) fun H' e => ⟨_, e, datAll_take' _ (datAll_drop' i h2)⟩
      have r1 : DatAll X.K G [V.ref a] [D.own a] := .cons (.own a) .nil
      have h2' := h2.mono f3.exG
      exact h a (w.ne ha).2 G σ _ _ Q w3 (er.mono f3.exG) (((datAll_take' i h2').append r1).append (datAll_drop' _ h2')) (q.after f3)
/-- f(.., *e, ..), (.., *e, ..) -/
theorem wa_star {e : Expr} {es : List Expr} {ka : List D → CS → Prop} (h : WE X e env C fun d C1 => ∃ xs, seqA C1 d = some xs ∧ WA X es env C1 fun ds C2 => ka (xs ++ ds) C2) (hs : starEach (.Starred e p :: es) X.env = (true, eval e X.env) :: starEach es X.env := by rfl) : WA X (.Starred e p :: es) env C ka :=
  .of (StX.pa_star pe_tS pa_tAr hs) fun G σ H Q w er q => h G σ H _ w er fun v G1 C1 H1 x f1 w1 d1 hb => by
    obtain ⟨ds0, hsq, hb⟩ := hb
    obtain ⟨a, vs0, rfl, h1, h2⟩ := w1.seqA d1 hsq
    exact ⟨a, vs0, rfl, h1.symm, hb G1 σ H1 _ w1 (er.mono f1.exG) fun vs G2 C2 H2 ds f2 w2 d2 hp => q (vs0 ++ vs) G2 C2 H2 (ds0 ++ ds) (f1.trans f2) w2 ((h2.mono f2.exG).append d2) hp⟩
end
end DL
/-! DLz: f-strings and split by data. -/
namespace DL
open PySem PySem.Spec PyProof.Rows L2
section
variable {X : Cx} {env : DEnv} {C : CS} {k : KD} {pos p apos cpos : Pos} {K : PySem.W.Frag} {e o : Expr} {es : List Expr}
/-- {e} -/
theorem x_fmt (h : WE X e env C fun d C1 => (∃ y, d = .str y ∧ y.length ≤ sizeLine ∧ k (.str y) C1) ∨ ∃ i : Int, d = .int i ∧ i.natAbs.log2 < 1920 ∧ k (.str (toString i)) C1) : WE X (.FormattedValue e (-1) none pos) env C k :=
  .of (pe_fmt pe_tS) fun G σ H Q w er q => h G σ H _ w er fun v G1 C1 H1 d f1 w1 r1 z => by
    rcases z with ⟨y, rfl, hl, hk⟩ | ⟨i, rfl, hl, hk⟩
    · cases r1; exact .inl ⟨y, rfl, hl, q _ _ _ _ _ f1 w1 (.str y) hk⟩
    · cases r1; exact .inr ⟨i, rfl, hl, q _ _ _ _ _ f1 w1 (.str _) hk⟩
def WJs (X : Cx) : List Expr → Str → DEnv → CS → (Str → CS → Prop) → Prop
  | [], acc, _, C, k => k acc C
  | e :: es, acc, env, C, k => WE X e env C fun d C1 => ∃ y : Str, d = .str y ∧ (acc ++ y).length ≤ sizeLine ∧ WJs X es (acc ++ y) env C1 k
theorem pj_tS : ∀ es : List Expr, ∃ ts, PJ X es ts ∧ ∀ (acc : Str) (env : DEnv) (C : CS) (kj : Str → CS → Prop) (G : Hp) (σ : L2.St) (H : Hp) (Q : Str → Hp → Prop), WJs X es acc env C kj → Wld X.K G C H → EnvR X.K G env σ →
    (∀ G' C' H' y, Fr G C H G' C' H' → Wld X.K G' C' H' → kj y C' → Q y H') → tJs ts acc σ H Q
  | [] => ⟨[], .nil, fun acc env C kj G σ H Q h w er q => q G C H acc (Fr.refl ..) w h⟩
  | e :: es => by
    obtain ⟨ts, hp, hh⟩ := pj_tS es
    refine ⟨_ :: ts, .cons pe_tS hp, fun acc env C kj G σ H Q h w er q => ?_⟩
    refine h G σ H _ w er fun v G1 C1 H1 d f1 w1 r1 z => ?_
    obtain ⟨y, rfl, hl, z⟩ := z
    cases r1
    exact ⟨y, rfl, hl, hh (acc ++ y) env C1 kj G1 σ H1 Q z w1 (er.mono f1.exG) fun G2 C2 H2 y2 f2 w2 k2 => q G2 C2 H2 y2 (f1.trans f2) w2 k2⟩
/-- f".." of two or more parts -/
theorem x_joined {v1 v2 : Expr} {rest : List Expr} (h : WJs X (v1 :: v2 :: rest) Str.empty env C fun out C1 => k (.str out) C1) : WE X (.JoinedStr (v1 :: v2 :: rest) pos) env C k := by
  obtain ⟨ts, hp, hh⟩ := pj_tS (X := X) (v1 :: v2 :: rest)
  exact .of (pe_joined hp) fun G σ H Q w er q => hh _ _ _ _ G σ H _ h w er fun G1 C1 H1 y f1 w1 z => q _ _ _ _ _ f1 w1 (.str y) z
/-! ### split -/
def dSplit : D → List D → CS → KD → Prop := fun x ds C k => ∃ z y, x = .str z ∧ ds = [.str y] ∧ (y.length == 0) = false ∧ z.length + 2 ≤ sizeLine ∧ ∀ p, C p = none → k (.own p) (put C p (.lst ((Txt.split z y).map D.str)))
theorem rm_split : RMD K (fun x xs H Q => ∃ a b, x = .str a ∧ xs = [.str b] ∧ (b.length == 0) = false ∧ a.length + 2 ≤ sizeLine ∧ rNewStrs (Txt.split a b) H Q) dSplit := by
  rintro x a xs ds G C H k Q w da rs ⟨z, y, rfl, rfl, hb, hl, hk⟩ q
  cases da
  cases rs with
  | cons r1 r2 =>
    cases r2
    cases r1
    refine ⟨z, y, rfl, rfl, hb, hl, fun p hp => ?_⟩
    obtain ⟨w2, f2⟩ := w.newC hp (o := .lst ((Txt.split z y).map V.str)) (c := .lst ((Txt.split z y).map D.str)) fun H' e => ⟨_, e, datAll_strsI _⟩
    exact q _ _ _ _ _ f2 w2 (.own p) (hk p (w.ne hp).2)
theorem x_split (h : WE X o env C fun x C1 => tyD "str" C1 x ∧ WA X (e :: es) env C1 fun ds C2 => dSplit x ds C2 k) (hbase : attributeBase o "split" X.env (eval o X.env) = eval o X.env := by rfl)
    (hfew : ((backTo cpos (starEach (e :: es) X.env)).all (fun x => !x.1) && (backToKw cpos (keywordEach [] X.env)).all (fun x => x.1.isSome)
      && decide ((e :: es).length + ([] : List Keyword).length + (if ([] : List Keyword).isEmpty then 0 else 1) < 30)) = true := by rfl)
    (hline : (apos.endLine == cpos.line) = true := by rfl) (hs : starEach (e :: es) X.env = (false, eval e X.env) :: starEach es X.env := by rfl) (hplain : (backTo cpos (starEach es X.env)).any (·.1) = false := by rfl) :
    WE X (.Call (.Attribute o "split" apos) (e :: es) [] cpos) env C k :=
  we_bm PySem.F.plainAttrs_str PySem.F.slot_str_split PySem.F.type_str_split mt_split rm_split h hbase hfew hline hs hplain
/-! ### short answers -/
theorem wjs_cons {acc : Str} {kj : Str → CS → Prop} (h : WE X e env C fun d C1 => ∃ y : Str, d = .str y ∧ (acc ++ y).length ≤ sizeLine ∧ WJs X es (acc ++ y) env C1 kj) : WJs X (e :: es) acc env C kj := h
theorem wjs_nil {acc : Str} {kj : Str → CS → Prop} (h : kj acc C) : WJs X [] acc env C kj := h
end
end DL
/-! DMa: extend; classmethods; a class in a local name; cells that stay. -/
namespace DL
open PySem PySem.Spec PyProof.Rows L2
section
variable {X : Cx} {env : DEnv} {C : CS} {k : KD} {pos p apos cpos : Pos} {K : PySem.W.Frag} {e o : Expr} {es : List Expr}
/-! ### extend -/
def dExtend : D → List D → CS → KD → Prop := fun x ds C k => ∃ a xs y zs, x = .own a ∧ ds = [y] ∧ C a = some (.lst xs) ∧ seqL C y = some zs ∧ xs.length + zs.length ≤ sizeLine ∧ k .non (put C a (.lst (xs ++ zs)))
theorem rm_extend : RMD K rExtend dExtend := by
  rintro x a xs ds G C H k Q w r rs ⟨p, ys, y, zs, rfl, rfl, hp, hy, hl, hk⟩ q
  cases r
  cases rs with
  | cons r1 r2 =>
    cases r2
    obtain ⟨_, vs, h1, h2⟩ := w.cell p _ hp
    obtain ⟨b, us, rfl, h3, h4⟩ := w.lst r1 hy
    refine ⟨p, b, vs, us, rfl, rfl, h1, h3, by rw [h2.length, h4.length]; exact hl, ?_⟩
    obtain ⟨w2, f2⟩ := w.write hp (o := .lst (vs ++ us)) (c' := .lst (ys ++ zs)) fun H' e => ⟨_, e, h2.append h4⟩
    exact q _ _ _ _ _ f2 w2 .non hk
theorem x_extend (h : WE X o env C fun x C1 => tyD "list" C1 x ∧ WA X (e :: es) env C1 fun ds C2 => dExtend x ds C2 k) (hbase : attributeBase o "extend" X.env (eval o X.env) = eval o X.env := by rfl)
    (hfew : ((backTo cpos (starEach (e :: es) X.env)).all (fun x => !x.1) && (backToKw cpos (keywordEach [] X.env)).all (fun x => x.1.isSome)
      && decide ((e :: es).length + ([] : List Keyword).length + (if ([] : List Keyword).isEmpty then 0 else 1) < 30)) = true := by rfl)
    (hline : (apos.endLine == cpos.line) = true := by rfl) (hs : starEach (e :: es) X.env = (false, eval e X.env) :: starEach es X.env := by rfl) (hplain : (backTo cpos (starEach es X.env)).any (·.1) = false := by rfl) :
    WE X (.Call (.Attribute o "extend" apos) (e :: es) [] cpos) env C k :=
  we_bm PySem.F.plainAttrs_list PySem.F.slot_list_extend PySem.F.type_list_extend mt_extend rm_extend h hbase hfew hline hs hplain
end
/-! ### classmethods -/
section
variable {X : Cx} {CT : CXT} {n : Nat} {fa Ca pa : Addr} {mc : Value} {fd : FuncData} {ps : List Str} {sp : Sp} {E : XK} {x m : Str} {p pos apos : Pos} {e o : Expr} {es : List Expr} {ta : TE} {t : TA} {dvs : List V} {ds : List Value}
theorem goDc {pins : List (Addr × Obj)} {σ : L2.St} {H : Hp} {s : Shared} {Q : VK} {us : List Value} {as : List V} (F : FnG X.prog X.w X.K X.mg X.base CT n fa fd ps sp) (hgd : X.A.guards = some []) (hr : Room n X.A) (hb : Binds X.K fd ps ds) (hd : Vals dvs ds) (hx : Passes CT X E)
    (I : Inv X pins σ H s) (r : Vals as us) (h : sp (as ++ dvs) H Q E) : codeAny (model X.prog X.w) X.A (.call (.ref fa) ⟨us, []⟩) (fun r s' => match r with | .error e => X.xe e s' | .ok (.ret u) => EP X pins σ Q u s' | _ => False) s := by
  have r2 : Vals (as ++ dvs) (us ++ ds) := r.append hd
  have hlen : (us ++ ds).length = ps.length := by
    rw [← r2.length]
    exact F.len _ _ _ _ h
  refine codeAny_mono (F.run hgd hr I.env0 (hb s us I.kIn hlen) r2 h) ?_
  intro res s' z
  match res, z with
  | .error e, z => exact hx pins σ H s e s' I z
  | .ok (.ret u), z => exact I.after z
/-- C.m(e, ..), m a classmethod -/
def tCMethG (C : Addr) (sp : Sp) (dvs : List V) (E : XK) (ta : TE) (t : TA) : TE := fun σ H Q => ta σ H fun x H1 => x = .ref C ∧ t σ H1 fun vs H2 => sp (.ref C :: (vs ++ dvs)) H2 Q E
theorem pe_cmethG {pl : Sem Bool} (he : PE X o ta) (r : ClX.CRead X.K Ca mc) (c : ClX.CMet X.K Ca mc m pa fa) (F : FnG X.prog X.w X.K X.mg X.base CT n fa fd ps sp) (hgd : X.A.guards = some []) (hr : Room n X.A) (hb : Binds X.K fd ps ds) (hd : Vals dvs ds) (hx : Passes CT X E) (ha : PA X (e :: es) t)
    (hst : starEach (e :: es) X.env = (false, eval e X.env) :: starEach es X.env := by rfl) (hpl : (backTo pos (starEach es X.env)).any (·.1) = false := by rfl)
    (ht : eval (.Call (.Attribute o m apos) (e :: es) [] pos) X.env = (do
      let ov ← eval o X.env
      standAt apos.atName
      let (f, first) ← holding [ov] (getMethod ov m pl)
      callWith pos f first (backTo pos (starEach (e :: es) X.env)) (backToKw pos (keywordEach [] X.env))) := by rfl) :
    PE X (.Call (.Attribute o m apos) (e :: es) [] pos) (tCMethG Ca sp dvs E ta t) := by
  refine ⟨fun pins s σ H Q I h => ?_⟩
  refine PySem.W.methodCall_KW (pl := pl) (thn (he.run pins s σ H _ I h) fun u s1 ⟨x, H1, I1, rx, ex, q⟩ => ?_) ht
  subst ex
  obtain rfl : u = Value.ref Ca := rx
  refine ClX.getmethcm_ok I1 r c fun s2 I2 => ?_
  refine ClX.callwith_cm I2 (ClX.base_none I1 (Nat.le_refl _)) c.fi (thn (ha.run pos _ s2 σ H1 _ I2 q) fun us s3 ⟨vs, H2, I3, rv, q2⟩ => ⟨⟨ClX.pin_at I3, I3.kIn⟩, ?_⟩) hst hpl
  have z := goDc (us := .ref Ca :: us) (as := .ref Ca :: vs) F hgd hr hb hd hx I3 (.cons rfl rv) q2
  have zz : wpAny (model X.prog X.w) X.A (call (.ref s1.heap.objs.size) us) (EP X ((s1.heap.objs.size, PySem.W.methodObj (.ref fa) (.ref Ca)) :: pins) σ Q) X.xe s3 := by
    refine wpAny_call (PySem.W.method_call (ClX.pin_at I3) (codeAny_mono z ?_))
    intro res s' y
    match res, y with
    | .error e, y => exact y
    | .ok (.ret u), y => exact y
  exact thn zz fun _ _ y => ClX.unpinE y
/-- x(e, ..), x a local name that holds the class -/
def tMakeL (i : Nat) (C : Addr) (sp : Sp) (dvs : List V) (E : XK) (t : TA) : TE := fun σ H Q => σ[i]? = some (some (.ref C)) ∧ tMake C sp dvs E t σ H Q
theorem pe_makeL {i : Nat} (hN : X.N[i]? = some x) (hv : Vis X.env.scope x) (M : Mk X.K Ca fa) (F : FnG X.prog X.w X.K X.mg X.base CT n fa fd ps sp) (hgd : X.A.guards = some []) (hr : Room (n + 1) X.A) (hb : Binds X.K fd ps ds) (hd : Vals dvs ds) (hx : Passes CT X E)
    (ha : PA X (e :: es) t) (hdb : (x == ("__debug__" : Str)) = false := by decide) (hcd : (x == ("__classdict__" : Str)) = false := by decide) (he : starEach (e :: es) X.env = (false, eval e X.env) :: starEach es X.env := by rfl) (hpl : (backTo pos (starEach es X.env)).any (·.1) = false := by rfl) :
    PE X (.Call (.Name x p) (e :: es) [] pos) (tMakeL i Ca sp dvs E t) := by
  refine ⟨fun pins s σ H Q I h => ?_⟩
  obtain ⟨hs, ht⟩ := h
  refine wpAny_Call_Name_kw (thn ((pe_var (pos := p) hN hv hdb hcd).run pins s σ H (fun v H1 => v = .ref Ca ∧ H1 = H) I ⟨.ref Ca, hs, rfl, rfl⟩) fun u s1 ⟨v, H1, I1, r1, q1⟩ => ?_)
  obtain ⟨rfl, rfl⟩ := q1
  cases r1
  refine PySem.W.callWith_K (h₀ := X.base) I1.ok.mod.kin M.kp (thn (ha.run pos pins s1 σ _ _ I1 ht) fun us s2 ⟨vs, H2, I2, r, q⟩ => ⟨I2.kIn, ?_⟩) he hpl
  exact makeG M F hgd hr hb hd hx I2 r q
end
/-- x is a class of the module, m a classmethod of it -/
def CmtC (P : Program) (w : World) (K : PySem.W.Frag) (mg : Str → Option Value) (base : Heap) (x : Str) (Cl : Addr) (m : Str) (n : Nat) (dfl : List D) (S : DSp) : Prop :=
  mg x = some (.ref Cl) ∧ ∃ mc p g, ClX.CRead K Cl mc ∧ ClX.CMet K Cl mc m p g ∧ FnA P w K mg base g n dfl S
section
variable {P : Program} {w : World} {K : PySem.W.Frag} {mg : Str → Option Value} {base : Heap} {j n : Nat} {X : Cx} {Cl : Addr} {m f x : Str} {S : DSp} {dfl : List D} {e o v : Expr} {es : List Expr} {env : DEnv} {C : CS} {k : KD} {pos p apos pos' : Pos} {E : DEnds}
theorem x_cmeth (hx : Ctx P w K mg base j X) (hM : CmtC P w K mg base x Cl m n dfl S) (hg : Gl X x) (h : WA X (e :: es) env C fun ds C1 => S (.opq (.ref Cl) :: (ds ++ dfl)) C1 k) (hle : n ≤ j := by decide) (hdb : (x == ("__debug__" : Str)) = false := by decide)
    (hst : starEach (e :: es) X.env = (false, eval e X.env) :: starEach es X.env := by rfl) (hpl : (backTo pos (starEach es X.env)).any (·.1) = false := by rfl) {pl : Sem Bool}
    (ht : eval (.Call (.Attribute (.Name x p) m apos) (e :: es) [] pos) X.env = (do
      let ov ← eval (.Name x p) X.env
      standAt apos.atName
      let (f, first) ← holding [ov] (getMethod ov m pl)
      callWith pos f first (backTo pos (starEach (e :: es) X.env)) (backToKw pos (keywordEach [] X.env))) := by rfl) : WE X (.Call (.Attribute (.Name x p) m apos) (e :: es) [] pos) env C k := by
  obtain ⟨hmg, mc, pa, fa, hr, hc, fd, ps, ds, dvs, F, hb, hd, hdat⟩ := hM
  have hroom := hx.room
  obtain ⟨e1, e2, e3, e4, e5, _, hgd, hcalm⟩ := hx
  subst e1 e2 e3 e4 e5
  have hpe : PE X (.Name x p) (tC (.ref Cl)) := pe_glob hg hmg rfl hdb
  refine .of (pe_cmethG hpe hr hc F hgd (hroom.mono hle) hb hd pass0 pa_tAr hst hpl ht) fun G σ H Q w er q => ?_
  refine ⟨rfl, h G σ H _ w er fun vs G2 C2 H2 ds2 f2 w2 r2 zz => ?_⟩
  exact toSp_ok (ds := .opq (.ref Cl) :: ds2) (vs := .ref Cl :: vs) w2 (.cons (.opq _) r2) hdat f2 q zz
theorem x_makeL {N M : List Str} {d : D} (hx : Ctx P w K mg base j X) {y : Str} (hM : MakC P w K mg base y Cl n dfl S) (B : Nms X N M) (hm' : Mem x M) (hi : Get N x env d) (hd' : d = .opq (.ref Cl)) (h : WA X (e :: es) env C fun ds C1 => ∀ a, C1 a = none → S (.own a :: (ds ++ dfl)) (put C1 a (.ins Cl [] [])) fun d C2 => d = .non ∧ k (.own a) C2) (hle : n + 1 ≤ j := by decide)
    (he : starEach (e :: es) X.env = (false, eval e X.env) :: starEach es X.env := by rfl) (hpl : (backTo pos (starEach es X.env)).any (·.1) = false := by rfl) : WE X (.Call (.Name x p) (e :: es) [] pos) env C k := by
  obtain ⟨hmg, fa, hm, fd, ps, ds, dvs, F, hb, hd, hdat⟩ := hM
  obtain ⟨i, h1, h2⟩ := hi.get
  have hmm : x ∈ M := hm'.mem
  have hroom := hx.room
  obtain ⟨e1, e2, e3, e4, e5, _, hgd, hcalm⟩ := hx
  subst e1 e2 e3 e4 e5
  refine .of (pe_makeL (i := i) (by rw [B.n]; exact h1) (B.vis x hmm) hm F hgd (hroom.mono hle) hb hd pass0 pa_tAr (B.ndb x hmm) (B.ncd x hmm) he hpl) fun G σ H Q w er q => ?_
  refine ⟨?_, h G σ H _ w er fun vs G1 C1 H1 ds1 f1 w1 r1 z => fun a dx ha hdx hne => ?_⟩
  · obtain ⟨v, g1, g2⟩ := er.2 i d h2
    subst hd'
    cases g2
    exact g1
  · obtain ⟨w3, f3⟩ := made_ok (Cl := Cl) w1 ha hdx hne
    refine toSp_ok (ds := .own a :: ds1) (vs := .ref a :: vs) (k := fun d C2 => d = .non ∧ k (.own a) C2) w3 (.cons (.own a) (r1.mono f3.exG)) hdat (Fr.refl ..) ?_ (z a (w1.ne ha).2)
    rintro v G2 C2 H2 d f2 w2 r2 ⟨rfl, zk⟩
    cases r2
    exact ⟨rfl, q _ _ _ _ _ ((f1.trans f3).trans f2) w2 (.own a) zk⟩
end
/-! ### cells that stay: all but bs -/
def Fx (bs : List Addr) (C C' : CS) : Prop := ∀ q, q ∉ bs → C q ≠ none → C' q = C q
theorem Fx.refl {bs : List Addr} (C : CS) : Fx bs C C := fun _ _ _ => rfl
theorem Fx.trans {bs : List Addr} {C C1 C2 : CS} (h1 : Fx bs C C1) (h2 : Fx bs C1 C2) : Fx bs C C2 := fun q a b => by
  have e := h1 q a b
  rw [h2 q a (by rw [e]; exact b), e]
theorem Fx.mono {bs cs : List Addr} {C C1 : CS} (h : Fx bs C C1) (hs : ∀ q, q ∈ bs → q ∈ cs) : Fx cs C C1 := fun q a b => h q (fun z => a (hs q z)) b
theorem Fx.put {bs : List Addr} {C C1 : CS} {a : Addr} {c : Cell} (h : Fx bs C C1) (ha : a ∈ bs ∨ C a = none) : Fx bs C (DL.put C1 a c) := fun q x y => by
  by_cases e : q = a
  · subst e
    rcases ha with ha | ha
    · exact absurd ha x
    · exact absurd ha y
  · rw [put_ne e]; exact h q x y
theorem Fx.at {bs : List Addr} {C C1 : CS} {a : Addr} {c : Cell} (h : Fx bs C C1) (ha : a ∉ bs) (e : C a = some c) : C1 a = some c := by rw [h a ha (by rw [e]; simp)]; exact e
theorem Fx.new {bs : List Addr} {a : Addr} {C C1 C2 : CS} (h2 : Fx (a :: bs) C1 C2) (h : Fx bs C C1) (ha : C a = none) : Fx bs C C2 := fun q x y => by
  have hq : q ≠ a := fun e => y (e ▸ ha)
  have e := h q x y
  rw [h2 q (by simp [hq, x]) (by rw [e]; exact y), e]
theorem Fx.del {bs : List Addr} {C C1 : CS} {a : Addr} (h : Fx bs C C1) (ha : a ∈ bs ∨ C a = none) : Fx bs C (DL.del C1 a) := fun q x y => by
  by_cases e : q = a
  · subst e
    rcases ha with ha | ha
    · exact absurd ha x
    · exact absurd ha y
  · rw [del_ne e]; exact h q x y
end DL
/-! DMb: a place where a walk stops. -/
namespace DL
open PySem PySem.Spec PyProof.Rows L2
/-- what follows, not looked into -/
def WSh (X : Cx) (sts : List Stmt) (env : DEnv) (C : CS) (E : DEnds) : Prop := WSs X sts env C E
theorem wss_consH {X : Cx} {st : Stmt} {rest : List Stmt} {env : DEnv} {C : CS} {E : DEnds} (h : WS X st env C { E with nx := fun env' C' => WSh X rest env' C' E }) : WSs X (st :: rest) env C E := wss_cons h
theorem wsh_go {X : Cx} {sts : List Stmt} {env : DEnv} {C : CS} {E : DEnds} (h : WSs X sts env C E) : WSh X sts env C E := h
section
variable {C : CS} {k : KD} {a b : Addr} {xs ys : List D} {n m : Nat}
theorem ne_ol (ha : C a = some (.lst xs)) (hx : ∀ d ∈ xs, d.fit n = true) (hy : ∀ d ∈ ys, d.fit m = true) (hn : n < 64) (hm : m < 64) (q : k (.bl (!eqL xs ys)) C) : dEq true (.own a) (.lst ys) C k := by
  refine .inl ⟨_, .list (pyL ys), pyC_own ha hx, ?_, shaped_lst hx hn, shaped_lst hy hm, q⟩
  unfold pyC
  simp only [D.isPy, fitL_py ys (fitL_all.mpr hy), if_true, D.py]
end
/-- *a, b = a tuple -/
theorem wg_starL {X : Cx} {env : DEnv} {C : CS} {pos : Pos} {ts : List Expr} {n : Nat} {T : List D} {l : D} {kE : DEnv → CS → Prop} (hc : X.calm = true) (hm : (assignEach ts X.env).length = 2) (hst : (assignEach ts X.env).findIdx? (·.1) = some 0)
    (h : ∀ q, C q = none → WGs X ts [.own q, l] env (put C q (.lst T)) kE) : WG X (.Tuple ts n pos) (.tup (T ++ [l])) env C kE := by
  refine wg_tupS (m := 2) (i := 0) hc hm hst (by decide) (by simp) fun q hq => ?_
  have e1 : ((T ++ [l]).take 0 ++ [.own q] ++ (T ++ [l]).drop ((T ++ [l]).length - (2 - 1 - 0))) = [.own q, l] := by simp
  have e2 : ((T ++ [l]).drop 0).take ((T ++ [l]).length - (2 - 1)) = T := by simp
  rw [e1, e2]
  exact h q hq
end DL
/-! DMc: own ==; x or y by truth; methods with keywords. -/
namespace L2
open PySem PySem.Spec PyProof.Rows
section
variable {X : Cx} {CT : CXT} {n : Nat} {fa Ca : Addr} {fd : FuncData} {ps : List Str} {sp : Sp} {E : XK} {dvs : List V} {ds : List Value}
end
end L2
namespace DL
open PySem PySem.Spec PyProof.Rows L2
section
variable {P : Program} {w : World} {K : PySem.W.Frag} {mg : Str → Option Value} {base : Heap} {j n : Nat} {X : Cx} {Cl : Addr} {S : DSp} {dfl : List D} {a b : Expr} {env : DEnv} {C : CS} {k : KD} {kb : Bool → CS → Prop} {pos : Pos}
end
/-! ### x or y, by truth: None, ints -/
section
variable {X : Cx} {a b : Expr} {rest : List Expr} {env : DEnv} {C : CS} {k : KD} {pos : Pos} {K : PySem.W.Frag}
def truD : D → Option Bool
  | .non => some false
  | .bl b => some b
  | .int i => some (!(i == 0))
  | _ => none
theorem truD_ok {G H : Hp} {v : V} {d : D} {t : Bool} (r : Dat K G v d) (e : truD d = some t) : TruV K v H t := by
  cases r <;> simp [truD] at e
  · exact e
  · exact e.symm
  · rename_i i
    show t = !(i == 0)
    rw [e, Bool.not_not]
theorem ev_orT {K : PySem.W.Frag} {ta tb : TE} {env : DEnv} {C : CS} {k : KD} (h : Ev K ta env C fun x C1 => ∃ t, truD x = some t ∧ (t = true → k x C1) ∧ (t = false → Ev K tb env C1 k)) : Ev K (tOrT K ta tb) env C k := fun G σ H Q w er q => h G σ H _ w er fun v G1 C1 H1 x f1 w1 d1 hb => by
  obtain ⟨t, e, ht, hf⟩ := hb
  refine ⟨t, truD_ok d1 e, ?_⟩
  cases t
  · simpa using hf rfl G1 σ H1 Q w1 (er.mono f1.exG) (q.after f1)
  · simpa using q v G1 C1 H1 x f1 w1 d1 (ht rfl)
theorem x_orT (h : WE X a env C fun x C1 => ∃ t, truD x = some t ∧ (t = true → k x C1) ∧ (t = false → WE X (.BoolOp .Or (b :: rest) pos) env C1 k)) : WE X (.BoolOp .Or (a :: b :: rest) pos) env C k := .of (pe_orT pe_tS pe_tS) (ev_orT h)
end
end DL
/-! DMd: methods and makings with keywords. -/
namespace DL
open PySem PySem.Spec PyProof.Rows L2
section
variable {X : Cx} {CT : CXT} {n np : Nat} {fa Ca : Addr} {fd : FuncData} {ps ks : List Str} {sp : Sp} {E : XK} {x m : Str} {p pos apos kpos : Pos} {e o : Expr} {es : List Expr} {kws : List Keyword} {ta te : TE} {t tk : TA} {g : List Value → List Value → List Value} {gV : List V → List V → List V} {nm : Option Str}
/-- the widest reading of keywords -/
def tKr (X : Cx) (kws : List Keyword) : TA := fun σ H Q => ∀ (pos : Pos) pins s, Inv X pins σ H s → wpAny (model X.prog X.w) X.A (evalAll ((backToKw pos (keywordEach kws X.env)).map (·.2))) (AP X pins σ Q) X.xe s
theorem pk_tKr : PK X kws (tKr X kws) := ⟨fun pos pins s σ H Q I h => h pos pins s I⟩
def WK (X : Cx) (kws : List Keyword) (env : DEnv) (C : CS) (ka : List D → CS → Prop) : Prop := EvA X.K (tKr X kws) env C ka
theorem WK.of {te : TA} {env : DEnv} {C : CS} {ka : List D → CS → Prop} (h : PK X kws te) (hv : EvA X.K te env C ka) : WK X kws env C ka := fun G σ H Q w er q pos pins s I => h.run pos pins s σ H Q I (hv G σ H Q w er q)
theorem wk_nil {env : DEnv} {C : CS} {ka : List D → CS → Prop} (h : ka [] C) : WK X [] env C ka := .of pk_nil (ea_nil h)
theorem wk_cons {env : DEnv} {C : CS} {ka : List D → CS → Prop} (h : WE X e env C fun x C1 => WK X kws env C1 fun ds C2 => ka (x :: ds) C2) : WK X (⟨nm, e, kpos⟩ :: kws) env C ka := .of (pk_cons pe_tS pk_tKr) (ea_cons h)
theorem goDK {pins : List (Addr × Obj)} {σ : L2.St} {H : Hp} {s : Shared} {Q : VK} {us ws : List Value} {vs zs : List V} (F : FnG X.prog X.w X.K X.mg X.base CT n fa fd ps sp) (hgd : X.A.guards = some []) (hr : Room n X.A) (hb : KBn X.K fd ps np ks g gV) (hx : Passes CT X E)
    (I : Inv X pins σ H s) (r : Vals vs us) (rz : Vals zs ws) (l1 : vs.length = np) (l2 : zs.length = ks.length) (h : sp (gV vs zs) H Q E) : wpAny (model X.prog X.w) X.A (call (.ref fa) us (ks.zip ws)) (EP X pins σ Q) X.xe s := by
  refine wpAny_call (codeAny_mono (F.run hgd hr I.env0 (hb.to s us ws I.kIn (r.length.symm.trans l1) (rz.length.symm.trans l2)) (hb.rel r rz) h) ?_)
  intro res s' z
  match res, z with
  | .error e, z => exact hx pins σ H s e s' I z
  | .ok (.ret u), z => exact I.after z
/-- o.m(e, .., k = v, ..) -/
def tMethK (C : Addr) (m : Str) (np nk : Nat) (sp : Sp) (gV : List V → List V → List V) (E : XK) (ta : TE) (t tk : TA) : TE := fun σ H Q => ta σ H fun x H1 => ∃ a dx fs, x = .ref a ∧ H1 a = some (.ins C dx fs) ∧ fs.lookup m = none ∧
  t σ H1 fun vs H2 => tk σ H2 fun zs H3 => vs.length = np ∧ zs.length = nk ∧ sp (gV (x :: vs) zs) H3 Q E
theorem pe_methGK0 {pl : Sem Bool} (he : PE X o ta) (c : Cls X.K Ca) (hm : Meth X.K Ca m fa) (F : FnG X.prog X.w X.K X.mg X.base CT n fa fd ps sp) (hgd : X.A.guards = some []) (hr : Room n X.A) (hb : KBn X.K fd ps 1 ks g gV) (hx : Passes CT X E) (hkw : PK X kws tk)
    (hall : (backToKw pos (keywordEach kws X.env)).all (·.1.isSome) = true := by rfl) (hks : (backToKw pos (keywordEach kws X.env)).filterMap (·.1) = ks := by rfl)
    (hpl : ((backTo pos (starEach [] X.env)).any (·.1) || (backToKw pos (keywordEach kws X.env)).any (·.1.isNone)) = false := by rfl)
    (ht : eval (.Call (.Attribute o m apos) [] kws pos) X.env = (do
      let ov ← eval o X.env
      standAt apos.atName
      let (f, first) ← holding [ov] (getMethod ov m pl)
      callWith pos f first (backTo pos (starEach [] X.env)) (backToKw pos (keywordEach kws X.env))) := by rfl) :
    PE X (.Call (.Attribute o m apos) [] kws pos) (tMethK Ca m 0 ks.length sp gV E ta tNil tk) := by
  refine ⟨fun pins s σ H Q I h => ?_⟩
  refine PySem.W.methodCall_KW (pl := pl) (thn (he.run pins s σ H _ I h) fun u s1 ⟨x, H1, I1, rx, a, dx, fs, ex, ea, l, q⟩ => ?_) ht
  subst ex
  obtain rfl : u = Value.ref a := rx
  refine getmeth_ok I1 ea c hm l ?_
  refine PySem.W.callWith_KW0 (first := [.ref a]) (h₀ := X.base) I1.ok.mod.kin hm.kp hall (thn (hkw.run pos pins s1 σ H1 _ I1 q) fun ws s2 ⟨zs, H2, I2, rz, l1, l2, q2⟩ => ⟨I2.kIn, ?_⟩) hpl
  rw [hks]
  exact goDK (us := [.ref a]) (vs := [.ref a]) F hgd hr hb hx I2 (.cons rfl .nil) rz rfl l2 q2
theorem makeGK {pins : List (Addr × Obj)} {σ : L2.St} {H : Hp} {s : Shared} {Q : VK} {us ws : List Value} {vs zs : List V} (M : Mk X.K Ca fa) (F : FnG X.prog X.w X.K X.mg X.base CT n fa fd ps sp) (hgd : X.A.guards = some []) (hr : Room (n + 1) X.A) (hb : KBn X.K fd ps (np + 1) ks g gV)
    (hx : Passes CT X E) (I : Inv X pins σ H s) (r : Vals vs us) (rz : Vals zs ws) (l1 : vs.length = np) (l2 : zs.length = ks.length)
    (h : ∀ x dx, H x = none → H dx = none → dx ≠ x → sp (gV (.ref x :: vs) zs) (upd (upd H dx (.own x)) x (.ins Ca dx [])) (fun v H2 => v = .non ∧ Q (.ref x) H2) E) :
    wpAny (model X.prog X.w) X.A (call (.ref Ca) us (ks.zip ws)) (EP X pins σ Q) X.xe s := by
  have hq := h (s.heap.objs.size + 1) s.heap.objs.size (I.hok.fresh (Nat.le_succ _)) (I.hok.fresh (Nat.le_refl _)) (Nat.ne_of_lt (Nat.lt_succ_self _))
  have I2 := Inv.made (C := Ca) I
  have r1 : Vals (V.ref (s.heap.objs.size + 1) :: vs) (Value.ref (s.heap.objs.size + 1) :: us) := .cons rfl r
  have r2 := hb.rel r1 rz
  have n1 : (Value.ref (s.heap.objs.size + 1) :: us).length = np + 1 := by
    rw [List.length_cons, ← r.length, l1]
  refine wpAny_call (make_map (f := fa) I.kIn M.makes M.init (beq_iff_eq.mp M.fn) (codeAny_mono (F.run (by exact hgd) (hr.make Ca us (ks.zip ws)) (I2.env0.make Ca us (ks.zip ws)) (hb.to _ (Value.ref (s.heap.objs.size + 1) :: us) ws I2.kIn n1 (rz.length.symm.trans l2)) r2 hq) fun r s' hq' => ?_))
  cases r with
  | error e => exact hx pins σ _ _ e s' I2 hq'
  | ok fl =>
    cases fl with
    | ret u =>
      obtain ⟨v, H', I3, rv, ev, q3⟩ := I2.after hq'
      subst ev
      exact ⟨rv, ⟨V.ref (s.heap.objs.size + 1), H', I3, rfl, q3⟩⟩
    | next => exact False.elim hq'
    | brk => exact False.elim hq'
    | cont => exact False.elim hq'
theorem pe_makeGK (M : Mk X.K Ca fa) (F : FnG X.prog X.w X.K X.mg X.base CT n fa fd ps sp) (hgd : X.A.guards = some []) (hr : Room (n + 1) X.A) (hg : Gl X x) (hm : X.mg x = some (.ref Ca)) (hb : KBn X.K fd ps (np + 1) ks g gV) (hx : Passes CT X E) (ha : PA X (e :: es) t) (hkw : PK X kws tk)
    (hall : (backToKw pos (keywordEach kws X.env)).all (·.1.isSome) = true := by rfl) (hks : (backToKw pos (keywordEach kws X.env)).filterMap (·.1) = ks := by rfl) (hdb : (x == ("__debug__" : Str)) = false := by decide)
    (he : starEach (e :: es) X.env = (false, eval e X.env) :: starEach es X.env := by rfl) (hpl : ((backTo pos (starEach (e :: es) X.env)).any (·.1) || (backToKw pos (keywordEach kws X.env)).any (·.1.isNone)) = false := by rfl) :
    PE X (.Call (.Name x p) (e :: es) kws pos) (tMakeK Ca np ks.length sp gV E t tk) := by
  refine ⟨fun pins s σ H Q I h => ?_⟩
  refine wpAny_Call_Name_kw (ld_glob I hg hm ?_ hdb)
  refine PySem.W.callWith_KW (h₀ := X.base) I.ok.mod.kin M.kp hall (thn (ha.run pos pins s σ H _ I h) fun us s1 ⟨vs, H1, I1, r, q⟩ => ?_) hpl he
  refine thn (hkw.run pos pins s1 σ H1 _ I1 q) fun ws s2 ⟨zs, H2, I2, rz, l1, l2, q2⟩ => ⟨I2.kIn, ?_⟩
  rw [hks]
  exact makeGK M F hgd hr hb hx I2 r rz l1 l2 q2
end
/-- a def by its address, called with np positional values and the keywords ks -/
def FnK (P : Program) (w : World) (K : PySem.W.Frag) (mg : Str → Option Value) (base : Heap) (f : Addr) (n np : Nat) (ks : List Str) (gD : List D → List D → List D) (S : DSp) : Prop :=
  ∃ (fd : FuncData) (ps : List Str) (g : List Value → List Value → List Value) (gV : List V → List V → List V), FnG P w K mg base CX0 n f fd ps (toSp K S) ∧ KBn K fd ps np ks g gV ∧
    ∀ G vs ds zs es, DatAll K G vs ds → DatAll K G zs es → ds.length = np → es.length = ks.length → DatAll K G (gV vs zs) (gD ds es)
def MthK (P : Program) (w : World) (K : PySem.W.Frag) (mg : Str → Option Value) (base : Heap) (Cl : Addr) (m : Str) (n np : Nat) (ks : List Str) (gD : List D → List D → List D) (S : DSp) : Prop := Cls K Cl ∧ ∃ f, Meth K Cl m f ∧ FnK P w K mg base f n (np + 1) ks gD S
def MakK (P : Program) (w : World) (K : PySem.W.Frag) (mg : Str → Option Value) (base : Heap) (x : Str) (Cl : Addr) (n np : Nat) (ks : List Str) (gD : List D → List D → List D) (S : DSp) : Prop := mg x = some (.ref Cl) ∧ ∃ f, Mk K Cl f ∧ FnK P w K mg base f n (np + 1) ks gD S
section
variable {P : Program} {w : World} {K : PySem.W.Frag} {mg : Str → Option Value} {base : Heap} {j n np : Nat} {X : Cx} {Cl : Addr} {m f x : Str} {S : DSp} {gD : List D → List D → List D} {ks : List Str} {e o v : Expr} {es : List Expr} {kws : List Keyword} {env : DEnv} {C : CS} {k : KD} {pos p apos pos' : Pos} {E : DEnds}
theorem toSp_ok1 {G G' : Hp} {C' : CS} {H' : Hp} {vs : List V} {ds : List D} {Q : VK} {X0 : XK} {C0 : CS} {H0 : Hp} (w1 : Wld K G' C' H') (r : DatAll K G' vs ds) (f1 : Fr G C0 H0 G' C' H') (q : Kont K G C0 H0 k Q) (z : S ds C' k) : toSp K S vs H' Q X0 :=
  ⟨G', C', ds, k, w1, r, z, q.after f1⟩
theorem x_methK0 (hx : Ctx P w K mg base j X) (hM : MthK P w K mg base Cl m n 0 ks gD S) (h : WE X o env C fun d C1 => (∃ kk xs, insD C1 d = some (Cl, kk, xs) ∧ m ∉ kk) ∧ WK X kws env C1 fun zs C2 => zs.length = ks.length ∧ S (gD [d] zs) C2 k) (hle : n ≤ j := by decide)
    (hall : (backToKw pos (keywordEach kws X.env)).all (·.1.isSome) = true := by rfl) (hks : (backToKw pos (keywordEach kws X.env)).filterMap (·.1) = ks := by rfl)
    (hpl : ((backTo pos (starEach [] X.env)).any (·.1) || (backToKw pos (keywordEach kws X.env)).any (·.1.isNone)) = false := by rfl) {pl : Sem Bool}
    (ht : eval (.Call (.Attribute o m apos) [] kws pos) X.env = (do
      let ov ← eval o X.env
      standAt apos.atName
      let (f, first) ← holding [ov] (getMethod ov m pl)
      callWith pos f first (backTo pos (starEach [] X.env)) (backToKw pos (keywordEach kws X.env))) := by rfl) : WE X (.Call (.Attribute o m apos) [] kws pos) env C k := by
  obtain ⟨hc, fa, hm, fd, ps, g, gV, F, hb, hdat⟩ := hM
  have hroom := hx.room
  obtain ⟨e1, e2, e3, e4, e5, _, hgd, hcalm⟩ := hx
  subst e1 e2 e3 e4 e5
  refine .of (pe_methGK0 pe_tS hc hm F hgd (hroom.mono hle) hb pass0 pk_tKr hall hks hpl ht) fun G σ H Q w er q => h G σ H _ w er fun u G1 C1 H1 d f1 w1 r1 z => ?_
  obtain ⟨⟨kk, xs, hi, hnk⟩, z⟩ := z
  obtain ⟨a, dx, fs, rfl, h1, h2, h3⟩ := w1.ins r1 hi
  refine ⟨a, dx, fs, rfl, h1, look_none h2 hnk, z G1 σ H1 _ w1 (er.mono f1.exG) fun zs G2 C2 H2 ds2 f2 w2 r2 zz => ?_⟩
  exact ⟨rfl, r2.length.trans zz.1, toSp_ok1 w2 (hdat _ _ [d] _ _ (.cons (r1.mono f2.exG) .nil) r2 rfl zz.1) (f1.trans f2) q zz.2⟩
theorem x_makeK (hx : Ctx P w K mg base j X) (hM : MakK P w K mg base x Cl n np ks gD S) (hg : Gl X x) (h : WA X (e :: es) env C fun ds C1 => WK X kws env C1 fun zs C2 => ds.length = np ∧ zs.length = ks.length ∧ ∀ a, C2 a = none → S (gD (.own a :: ds) zs) (put C2 a (.ins Cl [] [])) fun d C3 => d = .non ∧ k (.own a) C3) (hle : n + 1 ≤ j := by decide)
    (hall : (backToKw pos (keywordEach kws X.env)).all (·.1.isSome) = true := by rfl) (hks : (backToKw pos (keywordEach kws X.env)).filterMap (·.1) = ks := by rfl) (hdb : (x == ("__debug__" : Str)) = false := by decide)
    (he : starEach (e :: es) X.env = (false, eval e X.env) :: starEach es X.env := by rfl) (hpl : ((backTo pos (starEach (e :: es) X.env)).any (·.1) || (backToKw pos (keywordEach kws X.env)).any (·.1.isNone)) = false := by rfl) : WE X (.Call (.Name x p) (e :: es) kws pos) env C k := by
  obtain ⟨hmg, fa, hm, fd, ps, g, gV, F, hb, hdat⟩ := hM
  have hroom := hx.room
  obtain ⟨e1, e2, e3, e4, e5, _, hgd, hcalm⟩ := hx
  subst e1 e2 e3 e4 e5
  refine .of (pe_makeGK hm F hgd (hroom.mono hle) hg hmg hb pass0 pa_tAr pk_tKr hall hks hdb he hpl) fun G σ H Q w er q => h G σ H _ w er fun vs G1 C1 H1 ds1 f1 w1 r1 z => ?_
  refine z G1 σ H1 _ w1 (er.mono f1.exG) fun zs G2 C2 H2 es2 f2 w2 r2 zz => ⟨r1.length.trans zz.1, r2.length.trans zz.2.1, fun a dx ha hdx hne => ?_⟩
  obtain ⟨w3, f3⟩ := made_ok (Cl := Cl) w2 ha hdx hne
  refine toSp_ok1 (ds := gD (.own a :: ds1) es2) (k := fun d C2 => d = .non ∧ k (.own a) C2) w3 (hdat _ _ _ _ _ (.cons (.own a) (r1.mono (f2.trans f3).exG)) (r2.mono f3.exG) (congrArg Nat.succ zz.1) zz.2.1) (Fr.refl ..) ?_ (zz.2.2 a (w2.ne ha).2)
  rintro v G2 C2 H2 d f2' w2 r2 ⟨rfl, zk⟩
  cases r2
  exact ⟨rfl, q _ _ _ _ _ (((f1.trans f2).trans f3).trans f2') w2 (.own a) zk⟩
end
end DL
/-! DMe: != of instances with an own == and no own !=. -/
namespace L2
open PySem PySem.Spec PyProof.Rows
section
variable {prog : Program} {w : World} {A A₀ : Around} {E : Value → Shared → Prop} {s : Shared} {K : PySem.W.Frag} {x C L f : Addr} {h₀ : Heap} {m : Str → Option Value} {ox : Obj} {od : Option Obj} {name : Str} {b tb : Value}
end
end L2
namespace L2
open PySem PySem.Spec PyProof.Rows
section
variable {X : Cx} {CT : CXT} {n : Nat} {fa Ca : Addr} {fd : FuncData} {ps : List Str} {sp : Sp} {E : XK} {dvs : List V} {ds : List Value}
end
end L2
namespace DL
open PySem PySem.Spec PyProof.Rows L2
section
variable {P : Program} {w : World} {K : PySem.W.Frag} {mg : Str → Option Value} {base : Heap} {j n : Nat} {X : Cx} {Cl : Addr} {S : DSp} {dfl : List D} {a b : Expr} {env : DEnv} {C : CS} {k : KD} {kb : Bool → CS → Prop} {pos : Pos}
end
end DL
/-! DMf: for k, v in d.items(): the cell d stands away in the loop. -/
namespace DL
open PySem PySem.Spec PyProof.Rows L2
section
variable {K : PySem.W.Frag} {G G2 H H2 : Hp} {C C2 : CS} {p : Addr} {od : Obj} {kvs : List (Key × D)} {kw : List (Key × V)}
theorem Wld.lock (w : Wld K G C H) (hp : C p = some (.dic kvs)) (o : HO) : Wld K G (del C p) (upd H p o) := by
  obtain ⟨g, _⟩ := w.cell p _ hp
  refine ⟨fun b u q => ?_, fun b c q => ?_, w.nt⟩
  · have ne : b ≠ p := ne_of_none q g
    rw [upd_ne ne]; exact w.ex b u q
  · have ne : b ≠ p := fun z => by subst z; rw [del_same] at q; cases q
    rw [del_ne ne] at q
    obtain ⟨h1, h2⟩ := w.cell b c q
    exact ⟨h1, h2.mono (fun _ _ h => h) (upd_ne ne)⟩
theorem Wld.unlock {o : HO} (w : Wld K G C H) (hp : C p = some (.dic kvs)) (e1 : kw.map (·.1) = kvs.map (·.1)) (e2 : DatAll K G (kw.map (·.2)) (kvs.map (·.2))) (f : Fr G (del C p) (upd H p o) G2 C2 H2) (w2 : Wld K G2 C2 H2) :
    Wld K G2 (put C2 p (.dic kvs)) (upd H2 p (.dK kw)) ∧ Fr G C H G2 (put C2 p (.dic kvs)) (upd H2 p (.dK kw)) := by
  obtain ⟨g, _⟩ := w.cell p _ hp
  have hHp : upd H p o p ≠ none := by rw [upd_same]; simp
  have g2 : G2 p = none := by
    cases q : G2 p with
    | none => rfl
    | some u =>
      rcases f.newG p hHp (by rw [q]; simp) with z | z
      · exact absurd g z
      · exact absurd del_same z
  refine ⟨⟨fun b u q => ?_, fun b c q => ?_, w2.nt⟩, ⟨f.exG, fun b u q n nt => ?_, fun b q => ?_, fun b q n => ?_, fun b q n => ?_⟩⟩
  · have ne : b ≠ p := ne_of_none q g2
    rw [upd_ne ne]; exact w2.ex b u q
  · by_cases z : b = p
    · subst z
      rw [put_same] at q
      cases q
      exact ⟨g2, kw, upd_same, e1, e2.mono f.exG⟩
    · rw [put_ne z] at q
      obtain ⟨h1, h2⟩ := w2.cell b c q
      exact ⟨h1, h2.mono (fun _ _ h => h) (upd_ne z)⟩
  · have ne : b ≠ p := fun z => by subst z; rw [hp] at n; cases n
    rw [upd_ne ne]
    exact f.keep b u (by rw [upd_ne ne]; exact q) (by rw [del_ne ne]; exact n) nt
  · by_cases z : b = p
    · subst z; rw [upd_same]; simp
    · rw [upd_ne z]; exact f.dom b (by rw [upd_ne z]; exact q)
  · by_cases z : b = p
    · subst z; rw [hp]; simp
    · rw [put_ne z] at n
      have := f.newC b (by rw [upd_ne z]; exact q) n
      rwa [del_ne z] at this
  · by_cases z : b = p
    · subst z; right; rw [hp]; simp
    · rcases f.newG b (by rw [upd_ne z]; exact q) n with y | y
      · exact .inl y
      · rw [del_ne z] at y; exact .inr y
end
section
variable {P : Program} {w : World} {K : PySem.W.Frag} {mg : Str → Option Value} {base : Heap} {m : Nat} {X : Cx} {e : Expr} {elts : List Expr} {kk : Nat} {body : List Stmt} {env : DEnv} {C : CS} {E : DEnds} {p : Addr} {kvs : List (Key × D)} {tpos apos cpos pos : Pos}
theorem get_key : ∀ {kw : List (Key × V)} {kvs : List (Key × D)} {i : Nat} {ky : Key} {v : V}, kw.map (·.1) = kvs.map (·.1) → DatAll K G (kw.map (·.2)) (kvs.map (·.2)) → kw[i]? = some (ky, v) → ∃ d, kvs[i]? = some (ky, d) ∧ Dat K G v d
  | [], _, _, _, _, _, _, h => by simp at h
  | (a, u) :: kw, [], _, _, _, e, _, _ => by simp at e
  | (a, u) :: kw, (b, d) :: kvs, i, ky, v, e, r, h => by
    simp at e
    obtain ⟨rfl, e⟩ := e
    simp at r
    cases r with
    | cons r1 r2 =>
      cases i with
      | zero => simp at h; obtain ⟨rfl, rfl⟩ := h; exact ⟨d, rfl, r1⟩
      | succ i => exact get_key (i := i) e r2 (by simpa using h)
theorem dat_kV (G : Hp) (ky : Key) : Dat K G (kV ky) (kD ky) := by
  cases ky with
  | inl i => exact .int i
  | inr s => exact .str s
theorem x_forItems (hx : Ctx P w K mg base m X) (hn : Nox X) (hp : C p = some (.dic kvs))
    (h : WE X e env (del C p) fun d C1 => d = .own p ∧ ∃ Iv : Nat → DEnv → CS → Prop, Iv 0 env C1 ∧
      (∀ i ky d env C, kvs[i]? = some (ky, d) → Iv i env C → WG X (.Tuple elts kk tpos) (.tup [kD ky, d]) env C fun env' C' => WSs X body env' C' { nx := Iv (i + 1), rt := fun v C2 => E.rt v (put C2 p (.dic kvs)), bk := fun env2 C2 => E.nx env2 (put C2 p (.dic kvs)), ct := Iv (i + 1) }) ∧
      (∀ env C, Iv kvs.length env C → E.nx env (put C p (.dic kvs))))
    (hbase : attributeBase e "items" X.env (eval e X.env) = eval e X.env := by rfl) (hline : (apos.endLine == cpos.line) = true := by rfl)
    (hs : ∀ x, foldedSetIterable (.Call (.Attribute e "items" apos) [] [] cpos) X.env x = pure x := by intro _; rfl) : WS X (.For (.Tuple elts kk tpos) (.Call (.Attribute e "items" apos) [] [] cpos) body [] pos) env C E := by
  refine .of (ps_lock (ps_for hn.passes hx.calm (pi_items pe_tS hbase hline) pg_tGt pss_tXs hs)) fun G σ H D w er q => ?_
  obtain ⟨g, kw, hH, e1, e2⟩ := w.cell p _ hp
  have hlen : kw.length = kvs.length := by rw [← List.length_map (f := (·.1)) (as := kw), e1, List.length_map]
  refine ⟨p, .dK kw, hH, trivial, fun od => ?_⟩
  have w0 := w.lock hp (.frz od (.dK kw))
  have back : ∀ {G2 : Hp} {C2 : CS} {H2 : Hp}, Fr G (del C p) (upd H p (.frz od (.dK kw))) G2 C2 H2 → Wld X.K G2 C2 H2 → Wld X.K G2 (put C2 p (.dic kvs)) (upd H2 p (.dK kw)) ∧ Fr G C H G2 (put C2 p (.dic kvs)) (upd H2 p (.dK kw)) := fun f2 w2 => Wld.unlock w hp e1 e2 f2 w2
  have frz : ∀ {G2 : Hp} {C2 : CS} {H2 : Hp}, Fr G (del C p) (upd H p (.frz od (.dK kw))) G2 C2 H2 → H2 p = some (.frz od (.dK kw)) := fun f2 => f2.keep p _ upd_same del_same (by intro _ z; cases z)
  refine h G σ _ _ w0 er fun u G1 C1 H1 d f1 w1 r1 z => ?_
  obtain ⟨rfl, Iv, i0, turn, done⟩ := z
  cases r1
  refine ⟨p, od, kw, rfl, frz f1, ?_⟩
  let Wn : Nat → L2.St → Hp → Prop := fun i σ2 H2 => i ≤ kvs.length ∧ ∃ G2 C2 env2, Fr G (del C p) (upd H p (.frz od (.dK kw))) G2 C2 H2 ∧ Wld X.K G2 C2 H2 ∧ EnvR X.K G2 env2 σ2 ∧ Iv i env2 C2
  refine ⟨fun i m σ2 H2 => m = kvs.length - i ∧ Wn i σ2 H2, ⟨kvs.length, rfl, Nat.zero_le _, G1, C1, env, f1, w1, er.mono f1.exG, i0⟩, ?_⟩
  rintro i m σ2 H2 ⟨rfl, hi2, G2, C2, env2, f2, w2, er2, i2⟩
  by_cases hlt : i < kvs.length
  · refine .inr ⟨⟨frz f2, by rw [hlen]; exact hlt⟩, Wn (i + 1), fun σ' H' h' => ⟨kvs.length - (i + 1), by omega, rfl, h'⟩, fun x H3 hx => ?_⟩
    obtain ⟨T, ky, v, hk, rfl, hT, rfl⟩ := hx
    obtain ⟨d, hd, rd⟩ := get_key e1 (e2.mono f2.exG) hk
    obtain ⟨w3, f3, s3⟩ := w2.newG hT (.tup [kV ky, v])
    refine turn i ky d env2 C2 hd i2 _ σ2 _ _ _ w3 (er2.mono f3.exG) (.tup (SqT.of upd_same) (.cons (dat_kV _ ky) (.cons (rd.mono s3) .nil))) fun G4 C4 H4 σ4 env4 f4 w4 er4 h4 => ?_
    have nx : KontE X.K G4 C4 H4 (Iv (i + 1)) (Wn (i + 1)) := fun G5 C5 H5 σ5 env5 f5 w5 er5 h5 => ⟨hlt, G5, C5, env5, ((f2.trans f3).trans f4).trans f5, w5, er5, h5⟩
    refine h4 G4 σ4 H4 _ w4 er4 ⟨nx, fun v' G5 C5 H5 d5 f5 w5 r5 h5 => ?_, fun G5 C5 H5 σ5 env5 f5 w5 er5 h5 => ?_, nx⟩
    · obtain ⟨w6, f6⟩ := back (((f2.trans f3).trans f4).trans f5) w5
      exact ⟨frz (((f2.trans f3).trans f4).trans f5), q.rt _ _ _ _ _ f6 w6 r5 h5⟩
    · obtain ⟨w6, f6⟩ := back (((f2.trans f3).trans f4).trans f5) w5
      exact ⟨frz (((f2.trans f3).trans f4).trans f5), q.nx _ _ _ _ _ f6 w6 er5 h5⟩
  · have e : i = kvs.length := by omega
    subst e
    obtain ⟨w6, f6⟩ := back f2 w2
    exact .inl ⟨⟨frz f2, by rw [hlen]; exact Nat.le_refl _⟩, frz f2, q.nx _ _ _ _ _ f6 w6 er2 (done _ _ i2)⟩
end
end DL
/-! DMg: isinstance of an own class; displays of dicts with pairs. -/
namespace DL
open PySem PySem.Spec PyProof.Rows L2
section
variable {P : Program} {w : World} {K : PySem.W.Frag} {mg : Str → Option Value} {base : Heap} {m : Nat} {X : Cx} {Cl : Addr} {cn : Str} {e : Expr} {env : DEnv} {C : CS} {k : KD} {pos p p2 : Pos}
def dIsC (Cl : Addr) : List D → CS → KD → Prop := fun ds C k => ∃ d ks xs, ds = [d, .opq (.ref Cl)] ∧ insD C d = some (Cl, ks, xs) ∧ k (.bl true) C
theorem rl_isC : RLD K (fun xs H Q => ∃ a dx fs, xs = [V.ref a, .ref Cl] ∧ H a = some (.ins Cl dx fs) ∧ Q (.bl true) H) (dIsC Cl) := by
  rintro xs ds G C H k Q w rs ⟨d, ks, ys, rfl, hi, hk⟩ q
  cases rs with
  | cons r1 r2 =>
    cases r2 with
    | cons r2 r3 =>
      cases r3; cases r2
      obtain ⟨a, dx, fs, rfl, h1, h2, h3⟩ := w.ins r1 hi
      exact ⟨a, dx, fs, rfl, h1, q _ _ _ _ _ (Fr.refl ..) w (.bl true) hk⟩
theorem x_isC (hx : Ctx P w K mg base m X) (Z : Zs mg) (hg : Gl X "isinstance") (hI : C8.InsC K Cl) (hm : mg cn = some (.ref Cl)) (hg2 : Gl X cn) (h : WE X e env C fun d C1 => (∃ ks xs, insD C1 d = some (Cl, ks, xs)) ∧ k (.bl true) C1)
    (hd : (cn == ("__debug__" : Str)) = false := by decide) (he : starEach [e, .Name cn p2] X.env = (false, eval e X.env) :: starEach [.Name cn p2] X.env := by rfl) (he2 : starEach [.Name cn p2] X.env = (false, eval (.Name cn p2) X.env) :: starEach [] X.env := by rfl)
    (hpl : (backTo pos (starEach [.Name cn p2] X.env)).any (·.1) = false := by rfl) : WE X (.Call (.Name "isinstance" p) [e, .Name cn p2] [] pos) env C k := by
  have hI' : C8.InsC X.K Cl := by rw [hx.K]; exact hI
  refine we_cb (hx.zs Z).isi (C8.call_isC hI') rl_isC hg bt_isi (wa_cons (fun G σ H Q w er q => h G σ H _ w er fun v G1 C1 H1 d f1 w1 r1 z => q v G1 C1 H1 d f1 w1 r1 (wa_cons (.of (C8.pe_gc hg2 ⟨.ref Cl, by rw [hx.mg]; exact hm, show RelV (.ref Cl) (.ref Cl) from rfl⟩ hd) fun G σ H Q w er q => q _ G _ H _ (Fr.refl ..) w (.opq (.ref Cl)) (wa_nil ?_)) he2)) he) (he := he) (hpl := hpl)
  obtain ⟨⟨ks, xs, hi⟩, hk⟩ := z
  exact ⟨d, ks, xs, rfl, hi, hk⟩
end
/-! ### {k: v, ..} -/
def EvPs (K : PySem.W.Frag) : List (TE × TE) → DEnv → CS → (List (D × D) → CS → Prop) → Prop
  | [], _, C, kp => kp [] C
  | (tk, tv) :: r, env, C, kp => Ev K tk env C fun x C1 => Ev K tv env C1 fun y C2 => EvPs K r env C2 fun ps C3 => kp ((x, y) :: ps) C3
abbrev DD (K : PySem.W.Frag) (G : Hp) : List (V × V) → List (D × D) → Prop := Paired fun v d => Dat K G v.1 d.1 ∧ Dat K G v.2 d.2
def trsOf (X : Cx) : List (Option Expr) → List Expr → List (TE × TE)
  | some k :: ks, v :: vs => (tS X k, tS X v) :: trsOf X ks vs
  | _, _ => []
def WD (X : Cx) (keys : List (Option Expr)) (values : List Expr) (env : DEnv) (C : CS) (kp : List (D × D) → CS → Prop) : Prop := EvPs X.K (trsOf X keys values) env C kp
section
variable {K : PySem.W.Frag} {X : Cx} {env : DEnv} {C : CS} {k : KD} {e v : Expr} {keys : List (Option Expr)} {values : List Expr} {pos : Pos} {kp : List (D × D) → CS → Prop}
theorem DD.mono {G G' : Hp} {vs : List (V × V)} {ds : List (D × D)} (s : Same G G') (r : DD K G vs ds) : DD K G' vs ds := by
  unfold DD at *
  induction r with
  | nil => exact .nil
  | cons a b ih => exact .cons ⟨a.1.mono s, a.2.mono s⟩ ih
theorem evPs_ok : ∀ (trs : List (TE × TE)) {C : CS} {kp : List (D × D) → CS → Prop}, EvPs K trs env C kp → ∀ G σ H (Q : List (V × V) → Hp → Prop), Wld K G C H → EnvR K G env σ →
    (∀ vs G' C' H' ds, Fr G C H G' C' H' → Wld K G' C' H' → DD K G' vs ds → kp ds C' → Q vs H') → tPairs trs σ H Q
  | [], C, kp, h, G, σ, H, Q, w, er, q => q [] G C H [] (Fr.refl ..) w .nil h
  | (tk, tv) :: r, C, kp, h, G, σ, H, Q, w, er, q => h G σ H _ w er fun x' G1 C1 H1 x f1 w1 r1 h1 => h1 G1 σ H1 _ w1 (er.mono f1.exG) fun y' G2 C2 H2 y f2 w2 r2 h2 =>
    evPs_ok r h2 G2 σ H2 _ w2 (er.mono (f1.trans f2).exG) fun vs G3 C3 H3 ds f3 w3 r3 h3 => q ((x', y') :: vs) G3 C3 H3 ((x, y) :: ds) ((f1.trans f2).trans f3) w3 (.cons ⟨r1.mono (f2.trans f3).exG, r2.mono f3.exG⟩ r3) h3
theorem pps_trs : ∀ (keys : List (Option Expr)) (values : List Expr), keys.all (·.isSome) = true → keys.length = values.length → PPs X pos keys values (trsOf X keys values)
  | [], [], _, _ => pps_nil
  | some k :: ks, v :: vs, h, l => pps_cons pe_tS pe_tS (pps_trs ks vs (by simpa using h) (by simpa using l))
  | none :: ks, _, h, _ => by simp at h
  | [], v :: vs, _, l => by simp at l
  | some k :: ks, [], _, l => by simp at l
theorem wd_nil (h : kp [] C) : WD X [] [] env C kp := h
theorem wd_cons (h : WE X e env C fun x C1 => WE X v env C1 fun y C2 => WD X keys values env C2 fun ps C3 => kp ((x, y) :: ps) C3) : WD X (some e :: keys) (v :: values) env C kp := h
theorem dd_keys {G : Hp} : ∀ {vs : List (V × V)} {kvs : List (Key × D)}, DD K G vs (kvs.map fun kv => (kD kv.1, kv.2)) → ∃ kw : List (Key × V), vs = kw.map (fun kv => (kV kv.1, kv.2)) ∧ kw.map (·.1) = kvs.map (·.1) ∧ DatAll K G (kw.map (·.2)) (kvs.map (·.2))
  | _, [], r => by cases r; exact ⟨[], rfl, rfl, .nil⟩
  | _, (ky, d) :: kvs, r => by
    simp only [List.map_cons] at r
    cases r with
    | @cons a _ _ _ h t =>
      obtain ⟨kw, rfl, e1, e2⟩ := dd_keys t
      obtain ⟨a1, a2⟩ := a
      obtain ⟨h1, h2⟩ := h
      obtain rfl := dat_key h1
      exact ⟨(ky, a2) :: kw, rfl, by simp [e1], .cons h2 e2⟩
theorem x_disp (h : WD X keys values env C fun ps C1 => ∃ kvs : List (Key × D), ps = kvs.map (fun kv => (kD kv.1, kv.2)) ∧ kvs.length ≤ 15 ∧ ∀ p, C1 p = none → k (.own p) (put C1 p (.dic (mergeD [] kvs))))
    (hall : keys.all (·.isSome) = true := by rfl) (hl : keys.length = values.length := by rfl) (h0 : keys ≠ [] := by simp) (h15 : keys.length ≤ 15 := by decide) : WE X (.Dict keys values pos) env C k := by
  refine .of (pe_disp (pps_trs keys values hall hl) hall hl h0 h15) fun G σ H Q w er q p hp => ?_
  have hn := w.ne hp
  have w0 : Wld X.K G C (upd H p (.dK [])) := ⟨fun b o e => by rw [upd_ne (ne_of_none e hn.1)]; exact w.ex b o e, fun b c' e => by
    obtain ⟨h1, h2⟩ := w.cell b c' e
    exact ⟨h1, h2.mono (fun _ _ h => h) (upd_ne (cell_ne e hn.2))⟩, w.nt⟩
  have f0 : Fr G C H G C (upd H p (.dK [])) := Fr.fresh hp
  refine evPs_ok _ h G σ _ _ w0 er fun vs G1 C1 H1 ds f1 w1 r1 z => ?_
  obtain ⟨kvs, rfl, h15, hk⟩ := z
  have hHp : upd H p (.dK []) p ≠ none := by rw [upd_same]; simp
  have c1 : C1 p = none := by
    cases y : C1 p with
    | none => rfl
    | some c => exact absurd hn.2 (f1.newC p hHp (by rw [y]; simp))
  have g1 : G1 p = none := by
    cases y : G1 p with
    | none => rfl
    | some c =>
      rcases f1.newG p hHp (by rw [y]; simp) with z | z
      · exact absurd hn.1 z
      · exact absurd hn.2 z
  obtain ⟨kw, rfl, e1, e2⟩ := dd_keys r1
  have hlen : kw.length = kvs.length := by rw [← List.length_map (f := (·.1)) (as := kw), e1, List.length_map]
  obtain ⟨m1, m2⟩ := merge_rel (kw := []) (kvs := []) e1 e2 rfl .nil
  refine ⟨f1.keep p _ upd_same hn.2 (by intro _ z; cases z), kw, rfl, by omega, q _ G1 (put C1 p (.dic (mergeD [] kvs))) _ _ ?_ ?_ (.own p) (hk p c1)⟩
  · refine ⟨f1.exG, fun b u e n nt => ?_, fun b e => ?_, fun b e n => ?_, fun b e n => ?_⟩
    · have ne : b ≠ p := fun y => by subst y; rw [hp] at e; cases e
      rw [upd_ne ne]
      exact f1.keep b u (by rw [upd_ne ne]; exact e) n nt
    · by_cases y : b = p
      · subst y; rw [upd_same]; simp
      · rw [upd_ne y]; exact f1.dom b (by rw [upd_ne y]; exact e)
    · have ne : b ≠ p := fun y => by subst y; exact e hp
      rw [put_ne ne] at n
      exact f1.newC b (by rw [upd_ne ne]; exact e) n
    · have ne : b ≠ p := fun y => by subst y; exact e hp
      exact f1.newG b (by rw [upd_ne ne]; exact e) n
  · refine ⟨fun b o e => by rw [upd_ne (ne_of_none e g1)]; exact w1.ex b o e, fun b c' e => ?_, w1.nt⟩
    by_cases y : b = p
    · subst y
      rw [put_same] at e
      cases e
      exact ⟨g1, _, upd_same, m1, m2⟩
    · rw [put_ne y] at e
      obtain ⟨h1, h2⟩ := w1.cell b c' e
      exact ⟨h1, h2.mono (fun _ _ h => h) (upd_ne y)⟩
end
end DL
/-! DMh: a limit or 0. -/
namespace DL
open PySem PySem.Spec PyProof.Rows L2
def limN : Option Nat → D
  | none => .non
  | some n => .int (n : Nat)
section
variable {X : Cx} {a : Expr} {env : DEnv} {C : CS} {k : KD} {z : Nat} {p1 p2 : Pos}
theorem x_orLim (h : WE X a env C fun x C1 => ∃ lo : Option Nat, x = limN lo ∧ k (.int (lo.getD 0 : Nat)) C1) : WE X (.BoolOp .Or [a, .Constant (.int 0) z p1] p2) env C k := by
  refine x_orT fun G σ H Q w er q => h G σ H Q w er fun v G1 C1 H1 x f1 w1 r1 hz => q v G1 C1 H1 x f1 w1 r1 ?_
  obtain ⟨lo, rfl, h⟩ := hz
  rcases lo with _ | _ | n
  · exact ⟨false, rfl, (by simp), fun _ => we_one (we_int h)⟩
  · exact ⟨false, rfl, (by simp), fun _ => we_one (we_int h)⟩
  · refine ⟨true, ?_, fun _ => h, (by simp)⟩
    show some (!(((n + 1 : Nat) : Int) == 0)) = some true
    rw [show (((n + 1 : Nat) : Int) == 0) = false from by rw [beq_eq_false_iff_ne]; omega]
    rfl
end
end DL
/-! DMi: own exception classes over any built-in one, with one field that their __init__ stores. -/
namespace DL
open PySem PySem.Spec PyProof.Rows L2
/-- x(..), x a class of its own straight below: an object with its args, then the own __init__ -/
def MkB (newId : String) (bm : List Value) : Prop :=
  ∀ {prog : Program} {w : World} {A : Around} {R : Result → Shared → Prop} {h : Heap} {g : Array GenState} {d : Drawn} {t : Nat} {os : OsState} {nm q : Str} {C N : Addr} {bs : List Value} {hdct : Bool} {sn : List Str} {sub : List Value} {ab : Bool}
    {col : Option Bool} {dd : Option Addr} {k0 k1 k2 k3 k5 : Option Value} {rest : List Value} {fI : Addr}, h.get? C = some (excClassObj nm q C N bs bm hdct sn sub ab col dd k0 k1 k2 k3 k5 newId) →
    PySem.W.Looks (model prog w) h (typeLookup (.ref C) "__init__") (some (.ref fI)) → (∀ self, PySem.W.Looks (model prog w) h (bindSpecial (.ref fI) self) (.ref fI, [self])) → rest.length ≤ sizeLine →
    codeAny (model prog w) (A.under (.builtin "type.__call__" ⟨.ref C :: rest, []⟩)) (.call (.ref fI) ⟨.ref (h.objs.size + 1) :: rest, []⟩) (PySem.W.InitBack (h.objs.size + 1) R) ⟨(h.push (PySem.W.kdv_tup rest)).push (PySem.HandSPX.excO C h.objs.size), g, d, t, os⟩ →
    codeAny (model prog w) A (.call (.ref C) ⟨rest, []⟩) R ⟨h, g, d, t, os⟩
/-- B.__init__(e, ..) -/
def InB (newId initId : String) (bm : List Value) : Prop :=
  ∀ {prog : Program} {w : World} {A : Around} {R : Result → Shared → Prop} {h : Heap} {g : Array GenState} {d : Drawn} {t : Nat} {os : OsState} {nm q : Str} {C N : Addr} {bs : List Value} {hdct : Bool} {sn : List Str} {sub : List Value} {ab : Bool}
    {col : Option Bool} {dd : Option Addr} {k0 k1 k2 k3 k5 : Option Value} {e t0 : Addr} {rest : List Value}, h.get? C = some (excClassObj nm q C N bs bm hdct sn sub ab col dd k0 k1 k2 k3 k5 newId) → h.get? e = some (PySem.HandSPX.excO C t0) → rest.length ≤ sizeLine →
    (∀ h' t1, (∀ b o, b ≠ e → h.get? b = some o → h'.get? b = some o) → h'.get? e = some (PySem.HandSPX.excO C t1) → R (.ok (.ret .none)) ⟨h', g, d, t, os⟩) →
    codeAny (model prog w) A (.call (.builtin initId) ⟨.ref e :: rest, []⟩) R ⟨h, g, d, t, os⟩
theorem mkB_of {B newId initId : String} {bm : List Value} (F : ExcBaseFacts B newId initId bm) : MkB newId bm := fun hC hi hb hr hq => PySem.HandSPX.call_own F (fun _ => rfl) hC hi hb hr hq
theorem inB_of {B newId initId : String} {bm : List Value} (F : ExcBaseFacts B newId initId bm) : InB newId initId bm := fun hC he hr hq => PySem.HandSPX.init_base F (fun _ => rfl) hC he hr hq
structure XB (B newId initId : String) (bm : List Value) : Prop where
  make : MkB newId bm
  ini : InB newId initId bm
  store : StoreFacts B bm "object.__setattr__" "object"
  typ : typeOf (.type B) = pure (.type "type")
theorem xb_ArithmeticError : XB "ArithmeticError" "ArithmeticError.__new__" "ArithmeticError.__init__" [.type "ArithmeticError", .type "Exception", .type "BaseException", .type "object"] := ⟨mkB_of F.excBase_ArithmeticError, inB_of F.excBase_ArithmeticError, F.store_ArithmeticError, by kernel_rfl⟩
/-- what the written part says of such a class: its own class object, straight below the built-in one -/
structure OxB (K : PySem.W.Frag) (newId : String) (bm : List Value) (C : Addr) : Prop where
  cls : ∃ nm q N bs sn sub ab col dd k0 k1 k2 k3 k5, K.lookup C = some (excClassObj nm q C N bs bm true sn sub ab col dd k0 k1 k2 k3 k5 newId)
  sa : PySem.W.findIn K (.ref C) "__setattr__" = some (some (.builtin "object.__setattr__"))
  exC : PySem.W.subIn K (.ref C) (.type "BaseException") = some true
  tyC : PySem.W.typeIn K (.ref C) = some (.type "type")
  kC : PySem.W.keepIn K (.ref C) = true
end DL
namespace PySem
namespace DLX
open PySem.W PySem.Calls PyProof.Rows PySem.HandSPX
section
open Builtin Builtin.ObjectAttr
variable {prog : Program} {w : World} {A : Around} {E : Value → Shared → Prop} {R : Result → Shared → Prop} {hp : Heap} {g : Array GenState} {d : Drawn} {t : Nat} {os : OsState}
/-- the first field of such an exception: it gets its dict -/
theorem osaB {K : W.Frag} {name : Str} {tk : Tok} {v : Value} {x C : Addr} {fv : Array Value} {cd : ClassData} {B : String} {bm : List Value} (SB : StoreFacts B bm "object.__setattr__" "object")
    (X : K.In hp) (hx : hp.get? x = some { cls := .ref C, data := .fields fv }) (hcd : W.clsIn K C = some cd) (hm : cd.mro = .ref C :: bm) (hh : cd.hasDict = true) (ha : W.findIn K (.ref C) name = some none)
    (hq : ∀ h' tk' dx, (∀ b o, b ≠ x → hp.get? b = some o → h'.get? b = some o) → hp.objs.size ≤ dx → dx ≠ x → h'.get? x = some { cls := .ref C, dict := some dx, data := .fields fv } →
      h'.Ns1 dx (fun y => if y = name then some v else none) → R (.ok (.ret .none)) ⟨h', g, d, tk', os⟩) :
    codeAny (model prog w) A (.call (.builtin "object.__setattr__") ⟨[.ref x, .str name tk, v], []⟩) R ⟨hp, g, d, t, os⟩ := by
  have I : W.InstAt hp x { cls := .ref C, data := .fields fv } C none := ⟨hx, rfl, rfl, trivial⟩
  have hob : cd.mro.contains (.type "object") = true := by rw [hm, List.contains_cons, SB.hasOwner, Bool.or_true]
  have ne : cd.mro.isEmpty = false := by rw [hm]; rfl
  have hxs : x ≠ hp.objs.size := Nat.ne_of_lt (Heap.lt_size hx)
  have sub : W.Looks (model prog w) hp (isInstance (.ref x) (.type "object")) true := I.type.andThen (W.looks_mroIn X (by unfold W.mroIn; rw [hcd, Option.bind_some, if_neg (by rw [ne]; decide), hob]))
  refine codeAny_call_builtin SB.slot.plain SB.entry (@W.check_slot (model prog w) _ _ ⟨hp, g, d, t, os⟩ "object.__setattr__" "object" "__setattr__" (.ref x) [.str name tk, v] [] _ SB.kind SB.split sub (SB.args (.ref x) (.str name tk) v) ?_)
  have hmr : W.Looks (model prog w) hp (mroOf (.ref C)) cd.mro := (W.looks_clsIn X hcd).andThen .now
  have L3 : W.Looks (model prog w) hp (storeTaker? none) none := .now
  have hcls : W.Looks (model prog w) hp (classData C) cd := W.looks_clsIn X hcd
  have pass : refuseLoop (.ref x) "__setattr__" cd.mro = pure () := by rw [hm, refuseLoop_ref]; exact SB.passes _
  rw [W.osa_eq, refuse_eq]
  refine wpAny_bind (wpAny_bind (I.type.at (wpAny_bind (hmr.at ?_))))
  rw [pass]
  refine wpAny_pure (wpAny_bind (I.type.at (wpAny_bind ((W.looks_findIn X ha).at (wpAny_bind (L3.at ?_))))))
  show wpAny _ _ (storeInOwnDict (.ref x) (.ref C) (.str name tk) name v false) _ _ _
  clear pass hmr sub hob ne
  obtain ⟨nm, bs, mro, ns, qn, hd, sn, sb, ab, col, del⟩ := cd
  dsimp only at hh
  subst hh
  unfold storeInOwnDict ownDictForStores
  repeat (first | with_reducible refine store_in_new ?_ ?_ | with_reducible refine wpAny_loadPart_at hx ?_ | with_reducible refine hcls.at ?_ | wp_step)
  · exact ⟨_, #[], _, (Heap.get?_update_ne _ _ _ _ hxs.symm).trans (Heap.get?_push_at rfl rfl), rfl, fun e he => absurd he (by simp), fun _ => rfl⟩
  · intro h' tk' hn' hs
    have hx₁ : (hp.push { cls := .type "dict", data := .dict #[] }).get? x = some { cls := .ref C, data := .fields fv } := Heap.get?_push_of_some _ hx
    refine hq h' tk' hp.objs.size (fun b o hb ho => ?_) (Nat.le_refl _) hxs.symm ?_ hn'
    · exact (hs.2 b (Nat.ne_of_lt (Heap.lt_size ho))).trans ((Heap.get?_update_ne _ _ _ _ hb).trans (Heap.get?_push_of_some _ ho))
    · exact (hs.2 x hxs).trans (Heap.get?_update_self _ hx₁ rfl)
end
end DLX
end PySem
namespace DL
open PySem PySem.Spec PyProof.Rows L2
section
variable {X : Cx} {pins : List (Addr × Obj)} {σ : L2.St} {H : Hp} {s : Shared} {a C dx : Addr} {f : Str} {y : V} {u : Value} {E : Value → Shared → Prop} {A : Around} {B newId initId : String} {bm : List Value}
theorem ostB (S : XB B newId initId bm) (T : OxB X.K newId bm C) {Q : Unit → Shared → Prop} (I : Inv X pins σ H s) (e : H a = some (exo a C none)) (hno : PySem.W.findIn X.K (.ref C) f = some none) (ry : RelV y u)
    (h : ∀ dx s', H dx = none → dx ≠ a → Inv X pins σ (upd (upd H dx (exd dx [(f, y)])) a (exo a C (some dx))) s' → Q () s') : wpAny (model X.prog X.w) A (setAttr (.ref a) f u) Q E s := by
  obtain ⟨nm, q, N, bs, sn, sub, ab, col, dd, k0, k1, k2, k3, k5, hC⟩ := T.cls
  have hcl : PySem.W.clsIn X.K C = some { name := nm, bases := bs, mro := .ref C :: bm, ns := N, qualname := q, hasDict := true, slotNames := sn, subclasses := sub, abstract := ab, collection := col, hasDel := false } := by unfold PySem.W.clsIn; rw [hC] <;> rfl
  obtain ⟨t1, ho⟩ := exo_at I.hok e
  obtain ⟨hp, g, d, t, os⟩ := s
  refine PySem.W.set_plain I.kIn (ox := { cls := .ref C, dict := none, data := .fields #[.ref t1, .none, .none, .none, .bool false, .none] }) (od := none) ⟨ho, rfl, rfl, trivial⟩ T.sa ?_
  refine PySem.DLX.osaB S.store I.kIn ho hcl rfl rfl hno (fun h' tk' dx k dn dne hx hn => ?_)
  have hnd : H dx = none := I.hok.fresh dn
  have nd : ∀ {b : Addr} {o : Obj}, hp.get? b = some o → b ≠ dx := fun {b o} q => Nat.ne_of_lt (Nat.lt_of_lt_of_le (Heap.lt_size q) dn)
  have na : ∀ {b : Addr}, H b = none → b ≠ a := fun {b} n z => by
    rw [z, e] at n
    cases n
  have un : Un X.fs [] H (upd (upd H dx (exd dx [(f, y)])) a (exo a C (some dx))) hp h' := by
    refine ⟨fun b o q n _ _ => k b o (na n) q, fun b o q n _ _ => ⟨o.slots, k b o (na n) q⟩, fun b o q n _ => by rw [upd_ne (na n), upd_ne (nd q)]; exact n, fun b o q _ => ?_,
      fun b xs q => by rw [upd_ne (at_ne e q exo_tup), upd_ne (ne_of_none q hnd)]; exact q, fun b o v q => by rw [upd_ne (at_ne e q exo_frz), upd_ne (ne_of_none q hnd)]; exact q,
      fun b ps q => ⟨#[], by rw [upd_ne (at_ne e q exo_tbl), upd_ne (ne_of_none q hnd), q]; simp⟩⟩
    by_cases hb : b = a
    · exact ⟨_, by rw [hb]; exact hx⟩
    · exact ⟨o, k b o hb q⟩
  refine h dx _ hnd dne (I.un (t' := tk') un fun b o q => ?_)
  by_cases hb : b = a
  · subst hb
    rw [upd_same] at q
    cases q
    exact exo_ok hx
  · rw [upd_ne hb] at q
    by_cases hd : b = dx
    · subst hd
      rw [upd_same] at q
      cases q
      exact exd_ok hn (relO_put (fs := []) ry fun g => True.intro)
    · rw [upd_ne hd] at q
      exact (I.hok b o q).stay (fun c v hc z => k c v (by
          rcases hc with hc | hc
          · rw [hc]; exact hb
          · exact at_ne e hc exo_own) z)
        (fun c hc => by rw [upd_ne (at_ne e hc exo_own), upd_ne (ne_of_none hc hnd)]; exact hc) (fun c xs hc => by rw [upd_ne (at_ne e hc exo_tup), upd_ne (ne_of_none hc hnd)]; exact hc)
theorem oinB (S : XB B newId initId bm) (T : OxB X.K newId bm C) {us : List Value} {Q : Value → Shared → Prop} (I : Inv X pins σ H s) (e : H a = some (exo a C none)) (hl : us.length ≤ sizeLine) (h : ∀ s', Inv X pins σ H s' → Q .none s') :
    wpAny (model X.prog X.w) A (call (.builtin initId) (.ref a :: us)) Q E s := by
  obtain ⟨nm, q, N, bs, sn, sub, ab, col, dd, k0, k1, k2, k3, k5, hC⟩ := T.cls
  obtain ⟨t1, ho⟩ := exo_at I.hok e
  obtain ⟨hp, g, d, t, os⟩ := s
  refine wpAny_call (S.ini (I.kIn _ _ hC) ho hl fun h' t2 k hx => ?_)
  have J := I.write (t' := t) (x := a) (e := a) (o := exo a C none) (by rw [e]; exact True.intro) (.inl rfl) k ⟨_, hx⟩ (exo_ok hx)
  have eu : upd H a (exo a C none) = H := by
    funext b
    by_cases hb : b = a
    · rw [hb, upd_same, e]
    · rw [upd_ne hb]
  rw [eu] at J
  exact h _ J
end
/-- B.__init__(self, ..) -/
def tBI (K : PySem.W.Frag) (newId : String) (bm : List Value) (ta : TA) : TE := fun σ H Q => ta σ H fun vs H1 => ∃ (a C : Addr) (ws : List V), vs = .ref a :: ws ∧ ws.length ≤ 1000 ∧ OxB K newId bm C ∧ H1 a = some (exo a C none) ∧ Q .non H1
/-- self.f = e -/
def tOstB (K : PySem.W.Frag) (newId : String) (bm : List Value) (f : Str) (to te : TE) : TS := fun D σ H => te σ H fun y H1 => to σ H1 fun x H2 => ∃ a C : Addr, x = .ref a ∧ OxB K newId bm C ∧ PySem.W.findIn K (.ref C) f = some none ∧
  H2 a = some (exo a C none) ∧ ∀ dx, H2 dx = none → dx ≠ a → D.nx σ (upd (upd H2 dx (exd dx [(f, y)])) a (exo a C (some dx)))
section
variable {X : Cx} {o e : Expr} {es : List Expr} {to te : TE} {ta : TA} {f bn : Str} {p p' p1 p2 pos : Pos} {B newId initId : String} {bm : List Value}
theorem pe_bI {pl : Sem Bool} (S : XB B newId initId bm) (hg : Gl X bn) (hm : X.mg bn = none) (hbt : bootBuiltins bn = some (.type B)) (vV : PySem.W.findCls X.K (.type B) (.type "type") "__init__" = some (.val (.builtin initId))) (ha : PA X (e :: es) ta) (hd1 : bn ≠ "__name__") (hd2 : (bn == ("__debug__" : Str)) = false)
    (hs : Manifest.isStub B = false) (hh : PySem.W.handedIn (.builtin initId) = true)
    (hc : eval (.Call (.Attribute (.Name bn p1) "__init__" p2) (e :: es) [] pos) X.env = (do
      let ov ← eval (.Name bn p1) X.env
      standAt p2.atName
      let (f, first) ← holding [ov] (getMethod ov "__init__" pl)
      callWith pos f first (backTo pos (starEach (e :: es) X.env)) (backToKw pos (keywordEach [] X.env))) := by rfl)
    (he : starEach (e :: es) X.env = (false, eval e X.env) :: starEach es X.env := by rfl) (hpl : (backTo pos (starEach es X.env)).any (·.1) = false := by rfl) :
    PE X (.Call (.Attribute (.Name bn p1) "__init__" p2) (e :: es) [] pos) (tBI X.K newId bm ta) := by
  refine ⟨fun pins s σ H Q I h => ?_⟩
  refine PySem.W.methodCall_KW (ld_blt I hg hm hbt ?_ hd1 hd2) hc
  obtain ⟨m, fr⟩ := I.fr
  refine PySem.W.method_type fr I.ok.mod.kin S.typ hs vV hh ?_
  refine PyProof.Rows.callWith_method1 (thn (ha.run pos pins _ σ H _ (I.tok _) h) fun us s1 ⟨vs, H1, I1, r1, a, C, ws, ev, hl, T, ea, q⟩ => ?_) he hpl
  subst ev
  cases r1 with
  | @cons _ u0 _ ur ra rw' =>
    obtain rfl : u0 = Value.ref a := ra
    have hlen : ur.length ≤ sizeLine := by
      rw [← Paired.length rw', sizeLine_eq]
      omega
    exact oinB S T I1 ea hlen fun s' J => ⟨.non, H1, J, rfl, q⟩
theorem ps_ostB (S : XB B newId initId bm) (ho : PE X o to) (he : PE X e te) (hs : swapsWith e (some (.Attribute o f p')) pos.line X.env = pure false := by rfl) : PS X (.Assign [.Attribute o f p'] e pos) (tOstB X.K newId bm f to te) := by
  refine ⟨fun pins s σ H D I h => ?_⟩
  refine plainObj_wpAny_Assign_Attribute (thn (he.run pins s σ H _ I h) fun v s1 ⟨y, H1, I1, r1, q1⟩ => thn (ho.run pins s1 σ H1 _ I1 q1) fun u s2 ⟨x, H2, I2, r2, a, C, ex, T, hno, ea, q⟩ => ?_) hs
  subst ex
  obtain rfl : u = Value.ref a := r2
  exact ostB S T I2 ea hno r1 fun dx s' n ne J => ⟨σ, _, J, q dx n ne⟩
/-- C(e, ..), by its own __init__ -/
theorem pmk_oxB {CX : CXT} {x : Str} {C fI : Addr} {k : Nat} {fd : FuncData} {ps : List Str} {sp : Sp} {ds : List Value} {dvs : List V} (S : XB B newId initId bm) (T : OxB X.K newId bm C) (iC : PySem.W.findIn X.K (.ref C) "__init__" = some (some (.ref fI))) (tI : PySem.W.typeIn X.K (.ref fI) = some (.type "function"))
    (F1 : FnOk X.prog X.w X.K X.mg X.base CX k fI fd ps sp) (hr : Room (k + 1) X.A) (hb : Binds X.K fd ps ds) (hd : Vals dvs ds) (hx : Passes CX X (fun _ _ _ => False)) (hg : Gl X x) (hm : X.mg x = some (.ref C)) (ha : PA X (e :: es) ta)
    (hdb : (x == ("__debug__" : Str)) = false := by decide) (he : starEach (e :: es) X.env = (false, eval e X.env) :: starEach es X.env := by rfl) (hpl : (backTo pos (starEach es X.env)).any (·.1) = false := by rfl) :
    PMk X (.Call (.Name x p) (e :: es) [] pos) (tMkO C sp dvs ta) := by
  intro pins s σ H Q I h
  obtain ⟨nm, q, N, bs, sn, sub, ab, col, dd, k0, k1, k2, k3, k5, hC⟩ := T.cls
  refine wpAny_Call_Name_kw (ld_glob I hg hm ?_ hdb)
  refine PySem.W.callWith_K (h₀ := X.base) I.ok.mod.kin T.kC (thn (ha.run pos pins s σ H _ I h) fun us s1 ⟨vs, H1, I1, r1, hz, q1⟩ => ⟨I1.kIn, ?_⟩) he hpl
  obtain ⟨hp, g, dr, tk, os⟩ := s1
  have hsz : hp.objs.size ≤ hp.objs.size + 1 := Nat.le_succ _
  have hn : H1 (hp.objs.size + 1) = none := I1.hok.fresh hsz
  have hq := q1 (hp.objs.size + 1) hn
  have kk : ∀ b o, hp.get? b = some o → ((hp.push (PySem.W.kdv_tup us)).push (PySem.HandSPX.excO C hp.objs.size)).get? b = some o := fun b o e => Heap.get?_push_of_some _ (Heap.get?_push_of_some _ e)
  have hget : ((hp.push (PySem.W.kdv_tup us)).push (PySem.HandSPX.excO C hp.objs.size)).get? (hp.objs.size + 1) = some (PySem.HandSPX.excO C hp.objs.size) := by heap_get
  have I2 : Inv X pins σ (upd H1 (hp.objs.size + 1) (exo (hp.objs.size + 1) C none)) ⟨(hp.push (PySem.W.kdv_tup us)).push (PySem.HandSPX.excO C hp.objs.size), g, dr, tk, os⟩ :=
    I1.laid (t' := tk) (a := hp.objs.size + 1) (o := exo (hp.objs.size + 1) C none) (h' := (hp.push (PySem.W.kdv_tup us)).push (PySem.HandSPX.excO C hp.objs.size)) kk hsz (exo_ok hget)
  have r2 : Vals (V.ref (hp.objs.size + 1) :: (vs ++ dvs)) (Value.ref (hp.objs.size + 1) :: (us ++ ds)) := .cons rfl (r1.append hd)
  have hl : (Value.ref (hp.objs.size + 1) :: us ++ ds).length = ps.length := by
    have e := r2.length
    rw [F1.len _ _ _ _ hq] at e
    exact e.symm
  have hus : us.length ≤ sizeLine := by
    rw [← Paired.length r1, sizeLine_eq]
    omega
  refine wpAny_call (S.make (I1.kIn _ _ hC) (PySem.W.looks_findIn I1.kIn iC) (fun self => PySem.W.bind_fn I1.kIn self tI) hus
    (codeAny_mono (F1.run _ X.stack _ _ ⟨Value.ref (hp.objs.size + 1) :: us, []⟩ (Value.ref (hp.objs.size + 1) :: (us ++ ds)) _ _ (fun _ _ _ => False) (hr.make C us []) (I2.env0.make C us []) (hb _ (Value.ref (hp.objs.size + 1) :: us) I2.kIn hl) r2 hq) fun r s' hq' => ?_))
  cases r with
  | error er => exact hx pins σ _ _ er s' I2 hq'
  | ok fl =>
    cases fl with
    | ret u =>
      obtain ⟨v, H2, os2, bare2, un2, hok2, rv, ev, d, fs, ea, ed, hd1, q2⟩ := hq'
      subst ev
      obtain ⟨h2, g2, d2, t2, os'⟩ := s'
      exact ⟨rv, mk_end (raises_own T.exC T.tyC) I1 hsz kk un2 hok2 os2 bare2 ea ed hd1 q2⟩
    | next => exact False.elim hq'
    | brk => exact False.elim hq'
    | cont => exact False.elim hq'
end
end DL
/-! DMj: raising and catching by data: what stands since an anchor (the entry of a def or of a try). -/
namespace DL
open PySem PySem.Spec PyProof.Rows L2
abbrev KX := Value → List (Str × D) → CS → Prop
abbrev DSpX := List D → CS → KD → KX → Prop
/-- an exception's fields, told by its dict -/
def ExR (K : PySem.W.Frag) (G : Hp) (C : CS) (H : Hp) (od : Option Addr) (fs : List (Str × D)) : Prop :=
  (od = none ∧ fs = []) ∨ ∃ (dd : Addr) (fv : List (Str × V)), od = some dd ∧ H dd = some (.xd fv) ∧ C dd = none ∧ fv.map (·.1) = fs.map (·.1) ∧ DatAll K G (fv.map (·.2)) (fs.map (·.2))
theorem ExR.fr {K : PySem.W.Frag} {G G1 : Hp} {C C1 : CS} {H H1 : Hp} {od : Option Addr} {fs : List (Str × D)} (h : ExR K G C H od fs) (f : Fr G C H G1 C1 H1) : ExR K G1 C1 H1 od fs := by
  rcases h with h | ⟨dd, fv, e, h1, h2, h3, h4⟩
  · exact .inl h
  · refine .inr ⟨dd, fv, e, f.keep dd _ h1 h2 (by intro _ z; cases z), ?_, h3, h4.mono f.exG⟩
    cases q : C1 dd with
    | none => rfl
    | some c => exact absurd h2 (f.newC dd (by rw [h1]; simp) (by rw [q]; simp))
def KontX (K : PySem.W.Frag) (G : Hp) (C : CS) (H : Hp) (kx : KX) (E : XK) : Prop := ∀ cls fs od G' C' H', Fr G C H G' C' H' → Wld K G' C' H' → ExR K G' C' H' od fs → kx cls fs C' → E cls od H'
/-- a promise by data of a def that may raise -/
def toSpX (K : PySem.W.Frag) (S : DSpX) : Sp := fun vs H Q E => ∃ (G : Hp) (C : CS) (ds : List D) (k : KD) (kx : KX), Wld K G C H ∧ DatAll K G vs ds ∧ S ds C k kx ∧ Kont K G C H k Q ∧ KontX K G C H kx E
structure Anc where
  G : Hp
  C : CS
  H : Hp
abbrev Anc.fr (A : Anc) (G : Hp) (C : CS) (H : Hp) : Prop := Fr A.G A.C A.H G C H
/-- exceptions are taken here: kx is asked of them -/
def Thr (X : Cx) (A : Anc) (kx : DEnv → KX) : Prop := ∃ W : WX, Takes X W ∧ ∀ cls fs od σ env G' C' H', A.fr G' C' H' → Wld X.K G' C' H' → EnvR X.K G' env σ → ExR X.K G' C' H' od fs → kx env cls fs C' → W cls od σ H'
def WEA (X : Cx) (A : Anc) (e : Expr) (env : DEnv) (C : CS) (k : KD) : Prop := ∀ G σ H Q, Wld X.K G C H → EnvR X.K G env σ → A.fr G C H → Kont X.K G C H k Q → tS X e σ H Q
def WSA (X : Cx) (A : Anc) (st : Stmt) (env : DEnv) (C : CS) (E : DEnds) : Prop := ∀ G σ H D, Wld X.K G C H → EnvR X.K G env σ → A.fr G C H → KontS X.K G C H E D → tX X st D σ H
def WSsA (X : Cx) (A : Anc) (sts : List Stmt) (env : DEnv) (C : CS) (E : DEnds) : Prop := ∀ G σ H D, Wld X.K G C H → EnvR X.K G env σ → A.fr G C H → KontS X.K G C H E D → tXs X sts D σ H
section
variable {X : Cx} {A : Anc} {e : Expr} {st : Stmt} {sts rest s1 s2 : List Stmt} {env : DEnv} {C : CS} {k : KD} {E : DEnds} {pos : Pos} {kx : DEnv → KX}
theorem wsA_nox (h : WS X.nox st env C E) : WSA X A st env C E := fun G σ H D w er fr q pins s I =>
  wpAny_mono (h G σ H D w er q pins s (I.wish _)) (fun _ _ q => q.unwish) fun _ _ z => False.elim z
theorem wssA_nox (h : WSs X.nox sts env C E) : WSsA X A sts env C E := fun G σ H D w er fr q pins s I =>
  wpAny_mono (h G σ H D w er q pins s (I.wish _)) (fun _ _ q => q.unwish) fun _ _ z => False.elim z
theorem wssA_nil (h : E.nx env C) : WSsA X A [] env C E := wssA_nox (wss_nil h)
theorem wssA_cons (h : WSA X A st env C { E with nx := fun env' C' => WSsA X A rest env' C' E }) : WSsA X A (st :: rest) env C E := fun G σ H D w er fr q pins s I =>
  (pss_cons ps_tX pss_tXs).run pins s σ H D I (h G σ H { D with nx := tXs X rest D } w er fr ⟨fun G1 C1 H1 σ1 env1 f1 w1 er1 h1 => h1 G1 σ1 H1 D w1 er1 (fr.trans f1) (q.after f1), q.rt, q.bk, q.ct⟩)
theorem wsA_if {c : Expr} (h : WT X.nox c env C fun t C1 => (t = true → WSsA X A s1 env C1 E) ∧ (t = false → WSsA X A s2 env C1 E)) : WSA X A (.If c s1 s2 pos) env C E := fun G σ H D w er fr q pins s I =>
  (ps_if (PT.nox pt_tT) pss_tXs pss_tXs).run pins s σ H D I (h G σ H _ w er fun b G1 C1 H1 f1 w1 hb => by
    cases b with
    | true => exact iteT (hb.1 rfl G1 σ H1 D w1 (er.mono f1.exG) (fr.trans f1) (q.after f1))
    | false => exact iteF (hb.2 rfl G1 σ H1 D w1 (er.mono f1.exG) (fr.trans f1) (q.after f1)))
theorem wsA_expr (h : WEA X A e env C fun _ C1 => E.nx env C1) (hs : swapsWith e none pos.line X.env = pure false := by rfl) : WSA X A (.Expr e pos) env C E := fun G σ H D w er fr q pins s I =>
  (ps_expr pe_tS hs).run pins s σ H D I (h G σ H _ w er fr fun v G1 C1 H1 d f1 w1 r1 z => q.nx G1 C1 H1 σ env f1 w1 (er.mono f1.exG) z)
theorem wsA_ret (h : WEA X A e env C E.rt) : WSA X A (.Return (some e) pos) env C E := fun G σ H D w er fr q pins s I => (ps_ret pe_tS).run pins s σ H D I (h G σ H _ w er fr q.rt)
end
/-! ### raise -/
section
variable {P : Program} {w : World} {K : PySem.W.Frag} {mg : Str → Option Value} {base : Heap} {j n : Nat} {X : Cx} {A : Anc} {e : Expr} {env : DEnv} {C : CS} {E : DEnds} {pos p pos' : Pos} {kx : DEnv → KX} {x f : Str} {Cl : Addr}
/-- what an own __init__ of one field does -/
def spXI (Cl : Addr) (f : Str) : Sp := fun vs H Q _ => ∃ (a : Addr) (y : V), vs = [.ref a, y] ∧ H a = some (exo a Cl none) ∧ ∀ dx, H dx = none → dx ≠ a → Q .non (upd (upd H dx (exd dx [(f, y)])) a (exo a Cl (some dx)))
/-- x(e): a new exception of the class at Cl with one field -/
def XMk (P : Program) (w : World) (K : PySem.W.Frag) (mg : Str → Option Value) (base : Heap) (x : Str) (Cl : Addr) (f : Str) (n : Nat) : Prop :=
  mg x = some (.ref Cl) ∧ ∃ (B newId initId : String) (bm : List Value) (fI : Addr) (fd : FuncData) (ps : List Str), XB B newId initId bm ∧ OxB K newId bm Cl ∧ PySem.W.findIn K (.ref Cl) "__init__" = some (some (.ref fI)) ∧ PySem.W.typeIn K (.ref fI) = some (.type "function") ∧
    FnOk P w K mg base CX0 n fI fd ps (spXI Cl f) ∧ Binds K fd ps []
theorem wsA_raise1 (hx : Ctx P w K mg base j X) (hM : XMk P w K mg base x Cl f n) (T : Thr X A kx) (hg : Gl X x) (h : WE X.nox e env C fun d C1 => kx env (.ref Cl) [(f, d)] C1) (hle : n + 1 ≤ j := by decide)
    (hdb : (x == ("__debug__" : Str)) = false := by decide) (he : starEach [e] X.env = (false, eval e X.env) :: starEach [] X.env := by rfl) (hpl : (backTo pos' (starEach [] X.env)).any (·.1) = false := by rfl) :
    WSA X A (.Raise (some (.Call (.Name x p) [e] [] pos')) none pos) env C E := by
  obtain ⟨hm, B, newId, initId, bm, fI, fd, ps, S, T1, iC, tI, F1, hb⟩ := hM
  have hroom := hx.room
  obtain ⟨e1, e2, e3, e4, e5, _, hgd, hcalm⟩ := hx
  subst e1 e2 e3 e4 e5
  obtain ⟨W, tk, hW⟩ := T
  intro G σ H D w er fr q pins s I
  have mk := pmk_oxB (X := X) (p := p) (pos := pos') S T1 iC tI F1 (hroom.mono hle) hb (dvs := []) .nil pass0 hg hm (pa_cons (X := X) (PE.nox pe_tS) pa_nil he) hdb he hpl
  refine (ps_raise hcalm tk mk).run pins s σ H D I ?_
  refine h G σ H _ w er fun v G1 C1 H1 d f1 w1 r1 hk => ?_
  refine ⟨by simp, fun a ha => ⟨a, v, rfl, upd_same, fun dx hdx hne => ⟨rfl, dx, [(f, v)], upd_same, by rw [upd_ne hne]; exact upd_same, ?_, ?_⟩⟩⟩
  · rw [upd_ne hne] at hdx; exact hdx
  · have hd0 : H1 dx = none := by rw [upd_ne hne] at hdx; exact hdx
    have eH : upd (L2.del (upd (upd (upd H1 a (exo a Cl none)) dx (exd dx [(f, v)])) a (exo a Cl (some dx))) a) dx (.xd [(f, v)]) = upd H1 dx (.xd [(f, v)]) := by
      funext b
      by_cases hb : b = dx
      · subst hb; rw [upd_same, upd_same]
      · rw [upd_ne hb, upd_ne hb]
        by_cases hb2 : b = a
        · subst hb2; rw [L2.del_same, ha]
        · rw [L2.del_ne hb2, upd_ne hb2, upd_ne hb, upd_ne hb2]
    rw [eH]
    obtain ⟨g1, c1⟩ := w1.ne hd0
    have w2 : Wld X.K G1 C1 (upd H1 dx (.xd [(f, v)])) := ⟨fun b u e => by rw [upd_ne (ne_of_none e g1)]; exact w1.ex b u e, fun b c' e => by
      obtain ⟨h1, h2⟩ := w1.cell b c' e
      exact ⟨h1, h2.mono (fun _ _ h => h) (upd_ne (cell_ne e c1))⟩, w1.nt⟩
    have f2 : Fr G1 C1 H1 G1 C1 (upd H1 dx (.xd [(f, v)])) := Fr.fresh hd0
    exact hW (.ref Cl) [(f, d)] (some dx) σ env G1 C1 _ ((fr.trans f1).trans f2) w2 (er.mono f1.exG) (.inr ⟨dx, _, rfl, upd_same, c1, rfl, .cons r1 .nil⟩) hk
end
end DL
/-! DMk: defs that raise, calls of them, try. -/
namespace DL
open PySem PySem.Spec PyProof.Rows L2
section
variable {P : Program} {w : World} {K : PySem.W.Frag} {mg : Str → Option Value} {base : Heap}
structure BdyX (P : Program) (w : World) (K : PySem.W.Frag) (mg : Str → Option Value) (base : Heap) (n : Nat) (N M Ds : List Str) (dsc : Scope) (X : Cx) : Prop where
  x : Ctx P w K mg base n X
  b : Bdy P w K mg base n N M Ds dsc X.nox
theorem fnXE {x qual : Str} {st : Stmt} {f : Addr} {fd : FuncData} {N M Ds ps : List Str} {n : Nat} {S : DSpX} (F : Fun K x qual st f fd) (sc : FnScope N ps (defScope st)) (hv : visC (defScope st) M = true) (hlc : locC (defScope st) M = true) (hg : glC (defScope st) Ds = true)
    (hl : ∀ ds C k kx, S ds C k kx → ds.length = ps.length)
    (hb : ∀ (X : Cx) (A : Anc), BdyX P w K mg base n N M Ds (defScope st) X → ∀ (ds : List D) (k : KD) (kx : KX), S ds A.C k kx → Thr X A (fun _ => kx) → WSsA X A (defBody st) (startD N ds) A.C { nx := fun _ C' => k .non C', rt := k }) : FnG P w K mg base (L2.CX P w) (n + 1) f fd ps (toSpX K S) := by
  refine fnG_of F sc (fun vs H Q E h => ?_) (fun cdv A outer s H vs Q E hgd hr h => ?_)
  · obtain ⟨G, C, ds, k, kx, _, r, hS, _⟩ := h
    rw [r.length]
    exact hl _ _ _ _ hS
  · obtain ⟨G, C, ds, k, kx, wl, r, hS, q, qx⟩ := h
    refine ⟨_, pss_tXs, ?_⟩
    refine hb (cxOf (L2.CX P w) P w K mg base N qual (defScope st) f cdv A outer s H E) ⟨G, C, H⟩ ⟨⟨rfl, rfl, rfl, rfl, rfl, hr, hgd, rfl⟩, ⟨rfl, rfl, rfl, rfl, rfl, hr, hgd, rfl⟩, nms_of rfl (sc := defScope st) rfl sc.nd hv, sts_of rfl (sc := defScope st) rfl sc.nd hlc (fun _ => rfl), gls_of (sc := defScope st) rfl hg, ⟨rfl, sc.nd, rfl, rfl⟩, ⟨rfl⟩⟩ ds k kx hS
      ⟨fun cls d _ H' => E cls d H', takes_of rfl rfl rfl rfl, fun cls fs od σ env G' C' H' fr w' er ex hk => qx cls fs od G' C' H' fr w' ex hk⟩ G _ H _ wl (envR_start r) (Fr.refl ..) ⟨?_, q, ?_, ?_⟩
    · exact fun G' C' H' σ env f w' er z => q .non G' C' H' .non f w' .non z
    · exact fun G' C' H' σ env f w' er z => z.elim
    · exact fun G' C' H' σ env f w' er z => z.elim
/-- a def by its address, which may raise -/
def FnX (P : Program) (w : World) (K : PySem.W.Frag) (mg : Str → Option Value) (base : Heap) (f : Addr) (n : Nat) (dfl : List D) (S : DSpX) : Prop :=
  ∃ (fd : FuncData) (ps : List Str) (ds : List Value) (dvs : List V), FnG P w K mg base (L2.CX P w) n f fd ps (toSpX K S) ∧ Binds K fd ps ds ∧ Vals dvs ds ∧ ∀ G, DatAll K G dvs dfl
def FnXC (P : Program) (w : World) (K : PySem.W.Frag) (mg : Str → Option Value) (base : Heap) (x : Str) (n : Nat) (dfl : List D) (S : DSpX) : Prop := ∃ f, mg x = some (.ref f) ∧ PySem.W.keepIn K (.ref f) = true ∧ FnX P w K mg base f n dfl S
end
section
variable {X : Cx} {n : Nat} {fa Ca : Addr} {fd : FuncData} {ps : List Str} {sp : Sp} {ds : List Value} {dvs : List V} {W : WX} {x m : Str} {p pos apos : Pos} {e o : Expr} {es : List Expr} {ta : TE} {t : TA}
theorem PA.nox {es : List Expr} {t : TA} (h : PA X.nox es t) : PA X es t := ⟨fun pos pins s σ H Q I hw =>
  wpAny_mono (h.run pos pins s σ H Q (I.wish _) hw) (fun _ _ ⟨v, H', I', r, q⟩ => ⟨v, H', I'.unwish, r, q⟩) fun _ _ z => False.elim z⟩
theorem goX {pins : List (Addr × Obj)} {σ : L2.St} {H : Hp} {s : Shared} {Q : VK} {us : List Value} {as : List V} (F : FnG X.prog X.w X.K X.mg X.base (L2.CX X.prog X.w) n fa fd ps sp) (hgd : X.A.guards = some []) (hr : Room n X.A) (hb : Binds X.K fd ps ds) (hd : Vals dvs ds) (tk : Takes X W)
    (I : Inv X pins σ H s) (r : Vals as us) (h : sp (as ++ dvs) H Q (fun cls od H' => W cls od σ H')) : wpAny (model X.prog X.w) X.A (call (.ref fa) us) (EP X pins σ Q) X.xe s := by
  have r2 : Vals (as ++ dvs) (us ++ ds) := r.append hd
  have hlen : (us ++ ds).length = ps.length := by
    rw [← r2.length]
    exact F.len _ _ _ _ h
  refine wpAny_call (codeAny_mono (F.run hgd hr I.env0 (hb s us I.kIn hlen) r2 h) ?_)
  intro res s' z
  match res, z with
  | .error e, z => exact tk e s' (XE.of_call I (fun _ _ _ h => h) z)
  | .ok (.ret u), z => exact I.after z
theorem pe_callX (F : FnG X.prog X.w X.K X.mg X.base (L2.CX X.prog X.w) n fa fd ps sp) (hgd : X.A.guards = some []) (hr : Room n X.A) (hg : Gl X x) (hm : X.mg x = some (.ref fa)) (hk : PySem.W.keepIn X.K (.ref fa) = true) (hb : Binds X.K fd ps ds) (hd : Vals dvs ds) (tk : Takes X W)
    (ha : PA X (e :: es) t) (hdb : (x == ("__debug__" : Str)) = false := by decide) (he : starEach (e :: es) X.env = (false, eval e X.env) :: starEach es X.env := by rfl) (hpl : (backTo pos (starEach es X.env)).any (·.1) = false := by rfl) :
    PE X (.Call (.Name x p) (e :: es) [] pos) (fun σ H Q => t σ H fun vs H2 => sp (vs ++ dvs) H2 Q (fun cls od H' => W cls od σ H')) := ⟨fun pins s σ H Q I h => wpAny_Call_Name_kw (ld_glob I hg hm (PySem.W.callWith_K (h₀ := X.base) I.ok.mod.kin hk (thn (ha.run pos pins s σ H _ I h) fun us s1 z => by
      obtain ⟨as, H1, I1, r, q⟩ := z
      exact ⟨I1.kIn, goX F hgd hr hb hd tk I1 r q⟩) he hpl) hdb)⟩
end
section
variable {P : Program} {w : World} {K : PySem.W.Frag} {mg : Str → Option Value} {base : Heap} {j n : Nat} {X : Cx} {A : Anc} {Cl : Addr} {m x : Str} {S : DSpX} {dfl : List D} {e o : Expr} {es : List Expr} {env : DEnv} {C : CS} {k : KD} {kx : DEnv → KX} {pos apos p : Pos}
/-- the end of a call that may raise -/
theorem spX_ok {G' : Hp} {C' : CS} {H' : Hp} {vs : List V} {ds : List D} {Q : VK} {W : WX} {σ : L2.St} (hW : ∀ cls fs od σ env G' C' H', A.fr G' C' H' → Wld X.K G' C' H' → EnvR X.K G' env σ → ExR X.K G' C' H' od fs → kx env cls fs C' → W cls od σ H')
    (fr : A.fr G' C' H') (w1 : Wld X.K G' C' H') (er : EnvR X.K G' env σ) (r : DatAll X.K G' vs ds) (q : Kont X.K G' C' H' k Q) (z : S ds C' k (kx env)) : toSpX X.K S vs H' Q (fun cls od H' => W cls od σ H') :=
  ⟨G', C', ds, k, kx env, w1, r, z, q, fun cls fs od G2 C2 H2 f2 w2 ex hk => hW cls fs od σ env G2 C2 H2 (fr.trans f2) w2 (er.mono f2.exG) ex hk⟩
theorem weA_callX (hx : Ctx P w K mg base j X) (hM : FnXC P w K mg base x n dfl S) (T : Thr X A kx) (hg : Gl X x) (h : WA X.nox (e :: es) env C fun ds C2 => S (ds ++ dfl) C2 k (kx env)) (hle : n ≤ j := by decide)
    (hdb : (x == ("__debug__" : Str)) = false := by decide) (he : starEach (e :: es) X.env = (false, eval e X.env) :: starEach es X.env := by rfl) (hpl : (backTo pos (starEach es X.env)).any (·.1) = false := by rfl) : WEA X A (.Call (.Name x p) (e :: es) [] pos) env C k := by
  obtain ⟨fa, hm, hkp, fd, ps, ds, dvs, F, hb, hd, hdat⟩ := hM
  have hroom := hx.room
  obtain ⟨e1, e2, e3, e4, e5, _, hgd, hcalm⟩ := hx
  subst e1 e2 e3 e4 e5
  obtain ⟨W, tk, hW⟩ := T
  intro G σ H Q w er fr q pins s I
  refine (pe_callX F hgd (hroom.mono hle) hg hm hkp hb hd tk (PA.nox pa_tAr) hdb he hpl).run pins s σ H Q I ?_
  exact h G σ H _ w er fun vs G2 C2 H2 ds2 f2 w2 r2 zz => spX_ok hW (fr.trans f2) w2 (er.mono f2.exG) (r2.append (hdat _)) (q.after f2) zz
end
end DL
/-! DMl: try: body, except x as n: suite. -/
namespace DL
open PySem PySem.Spec PyProof.Rows L2
theorem EnvR.unset {K : PySem.W.Frag} {G : Hp} {env : DEnv} {σ : L2.St} (h : EnvR K G env σ) (i : Nat) : EnvR K G (env.set i none) (σ.set i none) := by
  refine ⟨by simp [h.1], fun j d' q => ?_⟩
  by_cases e : i = j
  · subst e
    by_cases l : i < env.length
    · rw [List.getElem?_set_self l] at q; cases q
    · rw [List.getElem?_eq_none (by simp; omega)] at q; cases q
  · rw [List.getElem?_set_ne e] at q ⊢
    exact h.2 j d' q
def DEnds.unset (E : DEnds) (i : Nat) : DEnds := { nx := fun env C => E.nx (env.set i none) C, rt := E.rt, bk := fun env C => E.bk (env.set i none) C, ct := fun env C => E.ct (env.set i none) C }
theorem KontS.unset {K : PySem.W.Frag} {G : Hp} {C : CS} {H : Hp} {E : DEnds} {D : Ends} {i : Nat} (h : KontS K G C H E D) :
    KontS K G C H (E.unset i) { nx := fun σ' H' => D.nx (σ'.set i none) H', rt := D.rt, bk := fun σ' H' => D.bk (σ'.set i none) H', ct := fun σ' H' => D.ct (σ'.set i none) H' } :=
  ⟨fun G' C' H' σ env f w er z => h.nx G' C' H' _ _ f w (er.unset i) z, h.rt, fun G' C' H' σ env f w er z => h.bk G' C' H' _ _ f w (er.unset i) z, fun G' C' H' σ env f w er z => h.ct G' C' H' _ _ f w (er.unset i) z⟩
/-- what an except suite does with the exception at a -/
def WSuite (X : Cx) (suite : List Stmt) (i : Nat) (env : DEnv) (C : CS) (E : DEnds) (cls : Value) (fs : List (Str × D)) : Prop :=
  ∀ (a : Addr) (oe : Obj) (od : Option Addr) (pn : List (Addr × Obj)) (A : Anc), Zc cls od oe → (∃ vs, oe.data = .fields vs) → A.C = C → A.H a = none → ExR X.K A.G C A.H od fs → WSsA (X.suite a ((a, oe) :: pn)) A suite (env.set i (some (.opq (.ref a)))) C (E.unset i)
section
variable {P : Program} {w : World} {K : PySem.W.Frag} {mg : Str → Option Value} {base : Heap} {j : Nat} {X : Cx} {N M gs : List Str} {dsc : Scope} {body suite : List Stmt} {b₀ : Stmt} {x n : Str} {i : Nat} {Cl : Addr} {env : DEnv} {C : CS} {E : DEnds} {np pos pos' : Pos}
theorem Ctx.tr (h : Ctx P w K mg base j X) (pn : List (Addr × Obj)) (xe : Value → Shared → Prop) : Ctx P w K mg base j (X.tr pn xe) := ⟨h.prog, h.w, h.K, h.mg, h.base, h.room, h.guards, h.calm⟩
theorem Nms.tr (h : Nms X N M) (pn : List (Addr × Obj)) (xe : Value → Shared → Prop) : Nms (X.tr pn xe) N M := ⟨h.n, h.nd, h.vis, h.ndb, h.ncd⟩
theorem Sts.tr (h : Sts X N M) (pn : List (Addr × Obj)) (xe : Value → Shared → Prop) : Sts (X.tr pn xe) N M := ⟨h.n, h.nd, h.loc, h.fn⟩
theorem Gls.tr (h : Gls X gs) (pn : List (Addr × Obj)) (xe : Value → Shared → Prop) : Gls (X.tr pn xe) gs := ⟨h.gl⟩
theorem Dfc.tr (h : Dfc X N dsc) (pn : List (Addr × Obj)) (xe : Value → Shared → Prop) : Dfc (X.tr pn xe) N dsc := ⟨h.n, h.nd, h.sc, h.calm⟩
/-- the context of a try's body, seen from a def's -/
structure BdT (P : Program) (w : World) (K : PySem.W.Frag) (mg : Str → Option Value) (base : Heap) (m : Nat) (N M Ds : List Str) (dsc : Scope) (X : Cx) : Prop where
  x : Ctx P w K mg base m X
  b : Bdy P w K mg base m N M Ds dsc X.nox
theorem Bdy.tr {m : Nat} {Ds : List Str} (h : Bdy P w K mg base m N M Ds dsc X) (pn : List (Addr × Obj)) (xe : Value → Shared → Prop) : BdT P w K mg base m N M Ds dsc (X.tr pn xe) := ⟨h.x.tr pn xe, h.x.tr pn _, h.b.tr pn _, h.s.tr pn _, h.g.tr pn _, h.d.tr pn _, ⟨rfl⟩⟩
/-- an except clause for an own class -/
structure XCat (K : PySem.W.Frag) (mg : Str → Option Value) (x : Str) (Cl : Addr) : Prop where
  nm : mg x = some (.ref Cl)
  exm : PySem.W.exmOne K (.ref Cl) (.ref Cl) = some true
end
/-! ### in a suite -/
section
variable {X : Cx} {A : Anc} {a b e : Expr} {env : DEnv} {C : CS} {k : KD} {pos p : Pos}
theorem weA_of (h : WE X e env C k) : WEA X A e env C k := fun G σ H Q w er fr q => h G σ H Q w er q
end
end DL
/-! DMm: the caught exception's fields; defs with a try. -/
namespace DL
open PySem PySem.Spec PyProof.Rows L2
theorem lookup_dat {K : PySem.W.Frag} {G : Hp} {f : Str} {y : D} : ∀ {fv : List (Str × V)} {fs : List (Str × D)}, fv.map (·.1) = fs.map (·.1) → DatAll K G (fv.map (·.2)) (fs.map (·.2)) → fs.lookup f = some y → ∃ v, fv.lookup f = some v ∧ Dat K G v y
  | [], [], _, _, h => by simp at h
  | [], _ :: _, e, _, _ => by simp at e
  | _ :: _, [], e, _, _ => by simp at e
  | (g, v) :: fv, (g', d) :: fs, e, r, h => by
    simp only [List.map_cons, List.cons.injEq] at e
    obtain ⟨rfl, e⟩ := e
    cases r with
    | cons r1 r2 =>
      rw [List.lookup_cons] at h ⊢
      by_cases q : (f == g) = true
      · rw [q] at h ⊢
        simp only [Option.some.injEq] at h
        subst h
        exact ⟨v, rfl, r1⟩
      · rw [Bool.eq_false_iff.mpr q] at h ⊢
        exact lookup_dat e r2 h
section
variable {P : Program} {w : World} {K : PySem.W.Frag} {mg : Str → Option Value} {base : Heap} {X : Cx} {A : Anc} {a Cl : Addr} {oe : Obj} {od : Option Addr} {pn : List (Addr × Obj)} {o : Expr} {f : Str} {fs : List (Str × D)} {env : DEnv} {C : CS} {k : KD} {pos : Pos}
/-- e.f, e the caught exception -/
theorem weA_xf (T : XfC X.K Cl) (hno : PySem.W.findIn X.K (.ref Cl) f = some none) (hz : Zc (.ref Cl) od oe) (hv : ∃ vs, oe.data = .fields vs) (hE : ExR X.K A.G A.C A.H od fs)
    (h : WE (X.suite a ((a, oe) :: pn)) o env C fun d C1 => d = .opq (.ref a) ∧ ∃ y, fs.lookup f = some y ∧ k y C1) (hb : attributeBase o f X.env (eval o X.env) = eval o X.env := by rfl) : WEA (X.suite a ((a, oe) :: pn)) A (.Attribute o f pos) env C k := fun G σ H Q w er fr q pins s I => by
  refine (pe_xf (pos := pos) T hno hz hv pe_tS hb).run pins s σ H Q I ?_
  refine h G σ H _ w er fun v G1 C1 H1 d f1 w1 r1 z => ?_
  obtain ⟨rfl, y, hl, hk⟩ := z
  cases r1
  rcases hE.fr (fr.trans f1) with ⟨_, rfl⟩ | ⟨dd, fv, rfl, h1, h2, h3, h4⟩
  · simp at hl
  · obtain ⟨u, hu, ru⟩ := lookup_dat h3 h4 hl
    exact ⟨rfl, rfl, dd, fv, u, rfl, h1, hu, q u G1 C1 H1 y f1 w1 ru hk⟩
structure BdyT (P : Program) (w : World) (K : PySem.W.Frag) (mg : Str → Option Value) (base : Heap) (n : Nat) (N M Ds : List Str) (dsc : Scope) (X : Cx) : Prop where
  b : Bdy P w K mg base n N M Ds dsc X
  hs : X.stack = X.env :: X.outer
  hf : X.env.frame = some X.env.locals
  kind : ∀ y, (envOf dsc).kindOf y = some .local → X.env.kindOf y = some .local
theorem kindOf_env {env : Env} {sc : Scope} (h : env.scope = sc) : env.kindOf = (envOf sc).kindOf := by
  funext x
  unfold Env.kindOf
  rw [h]
  rfl
/-- names and builtins within a suite -/
theorem Nms.suite {N M : List Str} (h : Nms X N M) (a : Addr) (pn : List (Addr × Obj)) : Nms (X.suite a pn) N M := ⟨h.n, h.nd, h.vis, h.ndb, h.ncd⟩
theorem Gls.suite {gs : List Str} (h : Gls X gs) (a : Addr) (pn : List (Addr × Obj)) : Gls (X.suite a pn) gs := ⟨h.gl⟩
end
end DL
/-! DMn: isinstance of a caught exception; anchored flow; own == of others; own str and repr. -/
namespace L2
open PySem PySem.Spec PyProof.Rows
/-- what isinstance asks of an own exception class -/
structure XIs (K : PySem.W.Frag) (D : Addr) : Prop where
  xf : XfC K D
  ha : PySem.W.findIn K (.ref D) "__class__" = some (some (.builtin "object.__class__"))
  hn : PySem.W.specialIn K (.builtin "object.__class__") "__get__" = some (some (.builtin "getset_descriptor.__get__"))
  ht : PySem.W.takesIn K (.builtin "object.__class__") = some true
  hm : PySem.W.mroIn K D (.type "object") = some true
def XdOk (H : Hp) (od : Option Addr) : Prop := od = none ∨ ∃ (dd : Addr) (fs : List (Str × V)), od = some dd ∧ H dd = some (.xd fs)
theorem inst_of {X : Cx} {pins : List (Addr × Obj)} {σ : St} {H : Hp} {s : Shared} {a D : Addr} {oe : Obj} {od : Option Addr} (I : Inv X pins σ H s) (hg : s.heap.get? a = some oe) (hz : Zc (.ref D) od oe) (hf : ∃ vs, oe.data = .fields vs) (hx : XdOk H od) : ∃ od', PySem.W.InstAt s.heap a oe D od' := by
  obtain ⟨vs, hd⟩ := hf
  rcases hx with rfl | ⟨dd, fs, rfl, ea⟩
  · refine ⟨none, ?_⟩
    obtain ⟨oc, oda, odt, osl⟩ := oe
    obtain ⟨h1, h2⟩ := hz
    dsimp only at h1 h2 hd
    subst h1 h2 hd
    exact ⟨hg, rfl, rfl, trivial⟩
  · have hx : ObjOk X.prog X.w H s.heap dd (.xd fs) := I.hok dd _ ea
    obtain ⟨mA, hns, hr⟩ := hx
    obtain ⟨od, ho, hl⟩ := lookIn_ns hns
    exact ⟨some od, hg, hz.1, by unfold PySem.W.notCls; rw [hd] <;> rfl, by rw [hz.2]; exact ho⟩
theorem kit_x {K : PySem.W.Frag} {D a : Addr} {oe : Obj} {od : Option Obj} (T : XIs K D) : PySem.W.KitX K (.ref a) (.ref D) (fun h => PySem.W.InstAt h a oe D od) := by
  obtain ⟨cd, hc, _⟩ := PySem.W.any_some T.xf.hdC
  exact PySem.W.kitx_exc (by rw [hc]; rfl) T.xf.ga T.xf.gg T.xf.exC T.ha T.hn T.ht T.hm
theorem call_isX1 {X : Cx} {a D : Addr} {oe : Obj} {od : Option Addr} {pn : List (Addr × Obj)} (T : XIs X.K D) (hz : Zc (.ref D) od oe) (hf : ∃ vs, oe.data = .fields vs) : CallR (X.suite a ((a, oe) :: pn)) (.builtin "isinstance") (fun xs H Q => ∃ (c : V) (cv : Value) (b : Bool), xs = [.ref a, c] ∧ ClsV c cv ∧ XdOk H od ∧ PySem.W.kitOne X.K (.ref D) cv = some b ∧ Q (.bl b) H) := by
  intro pins s σ H xs us Q I r h
  obtain ⟨c, cv, b, rfl, hcv, hxd, e, q⟩ := h
  obtain ⟨u1, u2, rfl, rx, rt⟩ := vals2 r
  cases rx
  have ec := hcv.eq rt
  subst ec
  obtain ⟨hget, _⟩ := I.pin (a, oe) (List.mem_append.mpr (.inl List.mem_cons_self))
  obtain ⟨od', J⟩ := inst_of I hget hz hf hxd
  exact PySem.W.kia_one (kit_x T) I.kIn J e (fun z => nomatch z) fun tk => ⟨.bl b, H, I.tok tk, rfl, q⟩
theorem call_isXT {X : Cx} {a D : Addr} {oe : Obj} {od : Option Addr} {pn : List (Addr × Obj)} (T : XIs X.K D) (hz : Zc (.ref D) od oe) (hf : ∃ vs, oe.data = .fields vs) : CallR (X.suite a ((a, oe) :: pn)) (.builtin "isinstance") (fun xs H Q => ∃ (tp : Addr) (cs : List V) (ws : List Value) (b : Bool), xs = [.ref a, .ref tp] ∧ SqT X.K H tp cs ∧ Paired ClsV cs ws ∧ XdOk H od ∧ PySem.W.kitAny X.K (.ref D) ws = some b ∧ Q (.bl b) H) := by
  intro pins s σ H xs us Q I r h
  obtain ⟨tp, cs, ws, b, rfl, hT, hcs, hxd, e, q⟩ := h
  obtain ⟨u1, u2, rfl, rx, rt⟩ := vals2 r
  cases rx
  obtain rfl : u2 = Value.ref tp := rt
  obtain ⟨hget, _⟩ := I.pin (a, oe) (List.mem_append.mpr (.inl List.mem_cons_self))
  obtain ⟨od', J⟩ := inst_of I hget hz hf hxd
  obtain ⟨its, rv, ⟨⟨oc, od2, dt, sl⟩, g1, g2, n, g3⟩, _⟩ := I.tuple hT
  obtain rfl := ClsV.all hcs rv
  simp only at g2 g3
  subst g2
  subst g3
  exact PySem.W.kia_tup (kit_x T) I.kIn J g1 e (fun z => nomatch z) fun tk => ⟨.bl b, H, I.tok tk, rfl, q⟩
/-! own ==, str, repr -/
section
variable {X : Cx} {CT : CXT} {n : Nat} {fa Ca : Addr} {fd : FuncData} {ps : List Str} {sp : Sp} {E : XK} {dvs : List V} {ds : List Value}
end
end L2
namespace DL
open PySem PySem.Spec PyProof.Rows L2
section
variable {P : Program} {w : World} {K : PySem.W.Frag} {mg : Str → Option Value} {base : Heap} {j n m : Nat} {X : Cx} {Cl : Addr} {S : DSp} {dfl : List D} {a b e o : Expr} {es : List Expr} {env : DEnv} {C : CS} {k : KD} {kb : Bool → CS → Prop} {pos p p2 : Pos} {cn : Str}
end
/-! ### anchored flow -/
def WTA (X : Cx) (A : Anc) (e : Expr) (env : DEnv) (C : CS) (k : Bool → CS → Prop) : Prop := ∀ G σ H Q, Wld X.K G C H → EnvR X.K G env σ → A.fr G C H → KontB X.K G C H k Q → tT X e σ H Q
def WWA (X : Cx) (A : Anc) (e : Expr) (env : DEnv) (C : CS) (k : Bool → CS → Prop) : Prop := ∀ G σ H Q, Wld X.K G C H → EnvR X.K G env σ → A.fr G C H → KontB X.K G C H k Q → tW X e σ H Q
section
variable {X : Cx} {A : Anc} {a b e c : Expr} {rest : List Expr} {s1 s2 : List Stmt} {env : DEnv} {C : CS} {k : KD} {kb : Bool → CS → Prop} {E : DEnds} {pos p pos' : Pos} {N M : List Str} {x : Str} {f : D → DEnv}
theorem Sts.suite {N M : List Str} (h : Sts X N M) (a : Addr) (pn : List (Addr × Obj)) : Sts (X.suite a pn) N M := ⟨h.n, h.nd, h.loc, h.fn⟩
theorem wtA_of (h : WT X e env C kb) : WTA X A e env C kb := fun G σ H Q w er fr q => h G σ H Q w er q
theorem wwA_pt (h : WWA X A e env C kb) : WTA X A e env C kb := fun G σ H Q w er fr q pins s I => (PW.pt pw_tW).run pins s σ H Q I (h G σ H Q w er fr q)
theorem wtA_val (h : WEA X A e env C fun d C1 => ∃ t, d = .bl t ∧ kb t C1) (he : ∀ whole, isTrue e X.env whole = (do let v ← whole; standAt e.pos; holding [v] (truthy v)) := by intro _; rfl) : WTA X A e env C kb := fun G σ H Q w er fr q pins s I =>
  (pt_val pe_tS he).run pins s σ H Q I (h G σ H _ w er fr fun v G1 C1 H1 d f1 w1 r1 z => by
    obtain ⟨t, rfl, z⟩ := z
    cases r1
    exact ⟨t, rfl, q t G1 C1 H1 f1 w1 z⟩)
theorem wtA_not (h : WTA X A a env C fun t C1 => kb (!t) C1) : WTA X A (.UnaryOp .Not a pos) env C kb := fun G σ H Q w er fr q pins s I =>
  (pt_not pt_tT).run pins s σ H Q I (h G σ H _ w er fr fun t G1 C1 H1 f1 w1 z => q _ G1 C1 H1 f1 w1 z)
theorem wwA_or1 (h : WTA X A a env C kb) : WWA X A (.BoolOp .Or [a] pos) env C kb := fun G σ H Q w er fr q wh pins s I => (pw_or1 pt_tT).run wh pins s σ H Q I (h G σ H Q w er fr q)
theorem wwA_or (h : WTA X A a env C fun t C1 => (t = true → kb true C1) ∧ (t = false → WWA X A (.BoolOp .Or (b :: rest) pos) env C1 kb)) : WWA X A (.BoolOp .Or (a :: b :: rest) pos) env C kb := fun G σ H Q w er fr q wh pins s I =>
  (pw_or pt_tT pw_tW).run wh pins s σ H Q I (h G σ H _ w er fr fun t G1 C1 H1 f1 w1 hb => by
    cases t with
    | true => exact iteT (q _ G1 C1 H1 f1 w1 (hb.1 rfl))
    | false => exact iteF (hb.2 rfl G1 σ H1 Q w1 (er.mono f1.exG) (fr.trans f1) (q.after f1)))
theorem weA_if (h : WTA X A c env C fun t C1 => (t = true → WEA X A a env C1 k) ∧ (t = false → WEA X A b env C1 k)) : WEA X A (.IfExp c a b pos) env C k := fun G σ H Q w er fr q pins s I =>
  (pe_ifExp pt_tT pe_tS pe_tS).run pins s σ H Q I (h G σ H _ w er fr fun t G1 C1 H1 f1 w1 hb => by
    cases t with
    | true => exact iteT (hb.1 rfl G1 σ H1 Q w1 (er.mono f1.exG) (fr.trans f1) (q.after f1))
    | false => exact iteF (hb.2 rfl G1 σ H1 Q w1 (er.mono f1.exG) (fr.trans f1) (q.after f1)))
theorem wsA_nm (B : Sts X N M) (hm' : Mem x M) (hi : Put N x env f) (h : WEA X A e env C fun d C1 => E.nx (f d) C1) (hs : swapsWith e (some (.Name x pos')) pos.line X.env = pure false := by rfl) : WSA X A (.Assign [.Name x pos'] e pos) env C E := fun G σ H D w er fr q pins s I => by
  obtain ⟨i, h1, h2, _⟩ := hi.set
  have hm : x ∈ M := hm'.mem
  refine (ps_set (i := i) B.nd (by rw [B.n]; exact h1) (B.loc x hm) pe_tS hs (B.fn x hm)).run pins s σ H D I (h G σ H _ w er fr fun v G1 C1 H1 d f1 w1 r1 z => ?_)
  have z' : E.nx (env.set i (some d)) C1 := by rw [h2]; exact z
  exact q.nx G1 C1 H1 _ _ f1 w1 ((er.mono f1.exG).set i r1) z'
end
/-! ### isinstance(e, ..) in a suite -/
section
variable {P : Program} {w : World} {K : PySem.W.Frag} {mg : Str → Option Value} {base : Heap} {m : Nat} {X : Cx} {A : Anc} {a Cl : Addr} {oe : Obj} {od : Option Addr} {pn : List (Addr × Obj)} {o c : Expr} {es : List Expr} {fs : List (Str × D)} {env : DEnv} {C : CS} {k : KD} {pos p p2 : Pos} {nt : Nat}
theorem ExR.xd {G G1 : Hp} {C C1 : CS} {H H1 : Hp} (hE : ExR K G C H od fs) (f : Fr G C H G1 C1 H1) : XdOk H1 od := by
  rcases hE.fr f with ⟨h, _⟩ | ⟨dd, fv, h, h1, _⟩
  · exact .inl h
  · exact .inr ⟨dd, fv, h, h1⟩
/-- a class by data -/
def clsU : D → Option Value
  | .opq (.ty n) => some (.type n)
  | .opq (.ref C) => some (.ref C)
  | _ => none
theorem clsU_ok {G : Hp} {v : V} {d : D} {u : Value} (r : Dat K G v d) (e : clsU d = some u) : ClsV v u := by
  cases r with
  | opq v =>
    cases v <;> simp [clsU] at e
    · subst e; exact .own _
    · subst e; exact .ty _
  | _ => simp [clsU] at e
def clsUs : List D → Option (List Value)
  | [] => some []
  | d :: ds => match clsU d, clsUs ds with
    | some u, some us => some (u :: us)
    | _, _ => none
theorem clsUs_ok {G : Hp} : ∀ {ds : List D} {vs : List V} {us : List Value}, DatAll K G vs ds → clsUs ds = some us → Paired ClsV vs us
  | [], _, us, r, e => by cases r; simp [clsUs] at e; subst e; exact .nil
  | d :: ds, _, us, r, e => by
    cases r with
    | cons r1 r2 =>
      unfold clsUs at e
      cases e1 : clsU d with
      | none => simp [e1] at e
      | some u =>
        cases e2 : clsUs ds with
        | none => simp [e1, e2] at e
        | some us' =>
          simp [e1, e2] at e
          subst e
          exact .cons (clsU_ok r1 e1) (clsUs_ok r2 e2)
theorem weA_isX1 (hx : Ctx P w K mg base m X) (Z : Zs mg) (hg : Gl X "isinstance") (T : XIs K Cl) (hz : Zc (.ref Cl) od oe) (hv : ∃ vs, oe.data = .fields vs) (hE : ExR K A.G A.C A.H od fs)
    (h : WA (X.suite a ((a, oe) :: pn)) [o, c] env C fun ds C1 => ∃ d u b, ds = [.opq (.ref a), d] ∧ clsU d = some u ∧ PySem.W.kitOne K (.ref Cl) u = some b ∧ k (.bl b) C1)
    (he : starEach [o, c] X.env = (false, eval o X.env) :: starEach [c] X.env := by rfl) (hpl : (backTo pos (starEach [c] X.env)).any (·.1) = false := by rfl) : WEA (X.suite a ((a, oe) :: pn)) A (.Call (.Name "isinstance" p) [o, c] [] pos) env C k := fun G σ H Q w er fr q pins s I => by
  have T' : XIs X.K Cl := by rw [hx.K]; exact T
  refine (pe_callB (X := X.suite a ((a, oe) :: pn)) (call_isX1 T' hz hv) hg (hx.zs Z).isi bt_isi pa_tAr (by decide) (by decide) he hpl).run pins s σ H Q I (h G σ H _ w er fun vs G1 C1 H1 ds f1 w1 r1 z => ?_)
  obtain ⟨d, u, b, rfl, hu, hk, hq⟩ := z
  cases r1 with
  | cons r1 r2 =>
    cases r2 with
    | cons r2 r3 =>
      cases r3; cases r1
      exact ⟨_, u, b, rfl, clsU_ok r2 hu, hE.xd (fr.trans f1), by rw [hx.K]; exact hk, q _ G1 C1 H1 _ f1 w1 (.bl b) hq⟩
theorem weA_isXT (hx : Ctx P w K mg base m X) (Z : Zs mg) (hg : Gl X "isinstance") (T : XIs K Cl) (hz : Zc (.ref Cl) od oe) (hv : ∃ vs, oe.data = .fields vs) (hE : ExR K A.G A.C A.H od fs)
    (h : WA (X.suite a ((a, oe) :: pn)) [o, .Tuple es nt p2] env C fun ds C1 => ∃ xs us b, ds = [.opq (.ref a), .tup xs] ∧ clsUs xs = some us ∧ PySem.W.kitAny K (.ref Cl) us = some b ∧ k (.bl b) C1)
    (he : starEach [o, .Tuple es nt p2] X.env = (false, eval o X.env) :: starEach [.Tuple es nt p2] X.env := by rfl) (hpl : (backTo pos (starEach [.Tuple es nt p2] X.env)).any (·.1) = false := by rfl) : WEA (X.suite a ((a, oe) :: pn)) A (.Call (.Name "isinstance" p) [o, .Tuple es nt p2] [] pos) env C k := fun G σ H Q w er fr q pins s I => by
  have T' : XIs X.K Cl := by rw [hx.K]; exact T
  refine (pe_callB (X := X.suite a ((a, oe) :: pn)) (call_isXT T' hz hv) hg (hx.zs Z).isi bt_isi pa_tAr (by decide) (by decide) he hpl).run pins s σ H Q I (h G σ H _ w er fun vs G1 C1 H1 ds f1 w1 r1 z => ?_)
  obtain ⟨xs, us, b, rfl, hu, hk, hq⟩ := z
  cases r1 with
  | cons r1 r2 =>
    cases r2 with
    | cons r2 r3 =>
      cases r3; cases r1
      obtain ⟨tp, cs, rfl, h1, h2⟩ := w1.tup r2
      exact ⟨tp, cs, us, b, rfl, h1, clsUs_ok h2 hu, hE.xd (fr.trans f1), by rw [hx.K]; exact hk, q _ G1 C1 H1 _ f1 w1 (.bl b) hq⟩
/-- classes and a caught exception's class -/
theorem kit_bt {T : String} {b : Bool} (hT : PySem.W.kitMeta T = true) (h : PySem.W.subIn K (.ref Cl) (.type T) = some b) : PySem.W.kitOne K (.ref Cl) (.type T) = some b := by
  unfold PySem.W.kitOne
  rw [if_neg (by intro z; exact Value.noConfusion (beq_iff_eq.mp z))]
  show (if PySem.W.kitMeta T = true then PySem.W.subIn K (.ref Cl) (.type T) else none) = some b
  rw [if_pos hT, h]
theorem kit_oc {C2 : Addr} {b : Bool} (hne : Cl ≠ C2) (hd : PySem.W.hasDictIn K C2 = true) (ht : PySem.W.typeIn K (.ref C2) = some (.type "type")) (h : PySem.W.subIn K (.ref Cl) (.ref C2) = some b) : PySem.W.kitOne K (.ref Cl) (.ref C2) = some b := by
  obtain ⟨cd, hc, _⟩ := PySem.W.any_some hd
  unfold PySem.W.kitOne
  rw [if_neg (by intro z; exact hne (Value.ref.inj (beq_iff_eq.mp z)))]
  show (if ((PySem.W.clsIn K C2).isSome && PySem.W.typeIn K (.ref C2) == some (.type "type")) = true then PySem.W.subIn K (.ref Cl) (.ref C2) else none) = some b
  rw [if_pos (by rw [hc, ht] <;> rfl), h]
theorem kits_nil : PySem.W.kitAny K (.ref Cl) [] = some false := rfl
theorem kits_no {u : Value} {us : List Value} {r : Option Bool} (h : PySem.W.kitOne K (.ref Cl) u = some false) (h2 : PySem.W.kitAny K (.ref Cl) us = r) : PySem.W.kitAny K (.ref Cl) (u :: us) = r := by
  show (match PySem.W.kitOne K (.ref Cl) u with | some true => some true | some false => PySem.W.kitAny K (.ref Cl) us | none => none) = r
  rw [h]
  exact h2
end
end DL
/-! DMo: raising methods with keywords; loops whose bodies may raise. -/
namespace DL
open PySem PySem.Spec PyProof.Rows L2
section
variable {P : Program} {w : World} {K : PySem.W.Frag} {mg : Str → Option Value} {base : Heap}
/-- as BdyX, with what loops ask -/
structure BdyP (P : Program) (w : World) (K : PySem.W.Frag) (mg : Str → Option Value) (base : Heap) (n : Nat) (N M Ds : List Str) (dsc : Scope) (X : Cx) : Prop where
  x : Ctx P w K mg base n X
  b : Bdy P w K mg base n N M Ds dsc X.nox
  p : PassesOwn (model X.prog X.w) X.A X.env X.xe
theorem fnXP {x qual : Str} {st : Stmt} {f : Addr} {fd : FuncData} {N M Ds ps : List Str} {n : Nat} {S : DSpX} (F : Fun K x qual st f fd) (sc : FnScope N ps (defScope st)) (hv : visC (defScope st) M = true) (hlc : locC (defScope st) M = true) (hg : glC (defScope st) Ds = true)
    (hl : ∀ ds C k kx, S ds C k kx → ds.length = ps.length)
    (hb : ∀ (X : Cx) (A : Anc), BdyP P w K mg base n N M Ds (defScope st) X → ∀ (ds : List D) (k : KD) (kx : KX), S ds A.C k kx → Thr X A (fun _ => kx) → WSsA X A (defBody st) (startD N ds) A.C { nx := fun _ C' => k .non C', rt := k }) : FnG P w K mg base (L2.CX P w) (n + 1) f fd ps (toSpX K S) := by
  refine fnG_of F sc (fun vs H Q E h => ?_) (fun cdv A outer s H vs Q E hgd hr h => ?_)
  · obtain ⟨G, C, ds, k, kx, _, r, hS, _⟩ := h
    rw [r.length]
    exact hl _ _ _ _ hS
  · obtain ⟨G, C, ds, k, kx, wl, r, hS, q, qx⟩ := h
    refine ⟨_, pss_tXs, ?_⟩
    refine hb (cxOf (L2.CX P w) P w K mg base N qual (defScope st) f cdv A outer s H E) ⟨G, C, H⟩ ⟨⟨rfl, rfl, rfl, rfl, rfl, hr, hgd, rfl⟩, ⟨⟨rfl, rfl, rfl, rfl, rfl, hr, hgd, rfl⟩, nms_of rfl (sc := defScope st) rfl sc.nd hv, sts_of rfl (sc := defScope st) rfl sc.nd hlc (fun _ => rfl), gls_of (sc := defScope st) rfl hg, ⟨rfl, sc.nd, rfl, rfl⟩, ⟨rfl⟩⟩, passes_of rfl⟩ ds k kx hS
      ⟨fun cls d _ H' => E cls d H', takes_of rfl rfl rfl rfl, fun cls fs od σ env G' C' H' fr w' er ex hk => qx cls fs od G' C' H' fr w' ex hk⟩ G _ H _ wl (envR_start r) (Fr.refl ..) ⟨?_, q, ?_, ?_⟩
    · exact fun G' C' H' σ env f w' er z => q .non G' C' H' .non f w' .non z
    · exact fun G' C' H' σ env f w' er z => z.elim
    · exact fun G' C' H' σ env f w' er z => z.elim
theorem Nms.ofnox {X : Cx} {N M : List Str} (h : Nms X.nox N M) : Nms X N M := ⟨h.n, h.nd, h.vis, h.ndb, h.ncd⟩
theorem Sts.ofnox {X : Cx} {N M : List Str} (h : Sts X.nox N M) : Sts X N M := ⟨h.n, h.nd, h.loc, h.fn⟩
theorem Gls.ofnox {X : Cx} {gs : List Str} (h : Gls X.nox gs) : Gls X gs := ⟨h.gl⟩
/-- a def by its address that may raise, called with np positional values and the keywords ks -/
def FnKX (P : Program) (w : World) (K : PySem.W.Frag) (mg : Str → Option Value) (base : Heap) (f : Addr) (n np : Nat) (ks : List Str) (gD : List D → List D → List D) (S : DSpX) : Prop :=
  ∃ (fd : FuncData) (ps : List Str) (g : List Value → List Value → List Value) (gV : List V → List V → List V), FnG P w K mg base (L2.CX P w) n f fd ps (toSpX K S) ∧ KBn K fd ps np ks g gV ∧
    ∀ G vs ds zs es, DatAll K G vs ds → DatAll K G zs es → ds.length = np → es.length = ks.length → DatAll K G (gV vs zs) (gD ds es)
def MthKX (P : Program) (w : World) (K : PySem.W.Frag) (mg : Str → Option Value) (base : Heap) (Cl : Addr) (m : Str) (n np : Nat) (ks : List Str) (gD : List D → List D → List D) (S : DSpX) : Prop := Cls K Cl ∧ ∃ f, Meth K Cl m f ∧ FnKX P w K mg base f n (np + 1) ks gD S
end
section
variable {X : Cx} {n np : Nat} {fa Ca : Addr} {fd : FuncData} {ps ks : List Str} {sp : Sp} {W : WX} {m : Str} {pos apos : Pos} {o : Expr} {kws : List Keyword} {ta : TE} {tk : TA} {g : List Value → List Value → List Value} {gV : List V → List V → List V}
theorem PK.nox (h : PK X.nox kws tk) : PK X kws tk := ⟨fun pos pins s σ H Q I hw =>
  wpAny_mono (h.run pos pins s σ H Q (I.wish _) hw) (fun _ _ ⟨v, H', I', r, q⟩ => ⟨v, H', I'.unwish, r, q⟩) fun _ _ z => False.elim z⟩
theorem goXK {pins : List (Addr × Obj)} {σ : L2.St} {H : Hp} {s : Shared} {Q : VK} {us ws : List Value} {vs zs : List V} (F : FnG X.prog X.w X.K X.mg X.base (L2.CX X.prog X.w) n fa fd ps sp) (hgd : X.A.guards = some []) (hr : Room n X.A) (hb : KBn X.K fd ps np ks g gV) (tkW : Takes X W)
    (I : Inv X pins σ H s) (r : Vals vs us) (rz : Vals zs ws) (l1 : vs.length = np) (l2 : zs.length = ks.length) (h : sp (gV vs zs) H Q (fun cls od H' => W cls od σ H')) : wpAny (model X.prog X.w) X.A (call (.ref fa) us (ks.zip ws)) (EP X pins σ Q) X.xe s := by
  refine wpAny_call (codeAny_mono (F.run hgd hr I.env0 (hb.to s us ws I.kIn (r.length.symm.trans l1) (rz.length.symm.trans l2)) (hb.rel r rz) h) ?_)
  intro res s' z
  match res, z with
  | .error e, z => exact tkW e s' (XE.of_call I (fun _ _ _ h => h) z)
  | .ok (.ret u), z => exact I.after z
theorem pe_methXK0 {pl : Sem Bool} (he : PE X o ta) (c : Cls X.K Ca) (hm : Meth X.K Ca m fa) (F : FnG X.prog X.w X.K X.mg X.base (L2.CX X.prog X.w) n fa fd ps sp) (hgd : X.A.guards = some []) (hr : Room n X.A) (hb : KBn X.K fd ps 1 ks g gV) (tkW : Takes X W) (hkw : PK X kws tk)
    (hall : (backToKw pos (keywordEach kws X.env)).all (·.1.isSome) = true := by rfl) (hks : (backToKw pos (keywordEach kws X.env)).filterMap (·.1) = ks := by rfl)
    (hpl : ((backTo pos (starEach [] X.env)).any (·.1) || (backToKw pos (keywordEach kws X.env)).any (·.1.isNone)) = false := by rfl)
    (ht : eval (.Call (.Attribute o m apos) [] kws pos) X.env = (do
      let ov ← eval o X.env
      standAt apos.atName
      let (f, first) ← holding [ov] (getMethod ov m pl)
      callWith pos f first (backTo pos (starEach [] X.env)) (backToKw pos (keywordEach kws X.env))) := by rfl) :
    PE X (.Call (.Attribute o m apos) [] kws pos) (fun σ H Q => ta σ H fun x H1 => ∃ a dx fs, x = .ref a ∧ H1 a = some (.ins Ca dx fs) ∧ fs.lookup m = none ∧ tk σ H1 fun zs H3 => zs.length = ks.length ∧ sp (gV [x] zs) H3 Q (fun cls od H' => W cls od σ H')) := by
  refine ⟨fun pins s σ H Q I h => ?_⟩
  refine PySem.W.methodCall_KW (pl := pl) (thn (he.run pins s σ H _ I h) fun u s1 ⟨x, H1, I1, rx, a, dx, fs, ex, ea, l, q⟩ => ?_) ht
  subst ex
  obtain rfl : u = Value.ref a := rx
  refine getmeth_ok I1 ea c hm l ?_
  refine PySem.W.callWith_KW0 (first := [.ref a]) (h₀ := X.base) I1.ok.mod.kin hm.kp hall (thn (hkw.run pos pins s1 σ H1 _ I1 q) fun ws s2 ⟨zs, H2, I2, rz, l2, q2⟩ => ⟨I2.kIn, ?_⟩) hpl
  rw [hks]
  exact goXK (us := [.ref a]) (vs := [.ref a]) F hgd hr hb tkW I2 (.cons rfl .nil) rz rfl l2 q2
end
section
variable {P : Program} {w : World} {K : PySem.W.Frag} {mg : Str → Option Value} {base : Heap} {j n : Nat} {X : Cx} {A : Anc} {Cl : Addr} {m : Str} {S : DSpX} {gD : List D → List D → List D} {ks : List Str} {o : Expr} {kws : List Keyword} {env : DEnv} {C : CS} {k : KD} {kx : DEnv → KX} {pos apos : Pos}
theorem weA_methXK0 (hx : Ctx P w K mg base j X) (hM : MthKX P w K mg base Cl m n 0 ks gD S) (T : Thr X A kx) (h : WE X.nox o env C fun d C1 => (∃ kk xs, insD C1 d = some (Cl, kk, xs) ∧ m ∉ kk) ∧ WK X.nox kws env C1 fun zs C2 => zs.length = ks.length ∧ S (gD [d] zs) C2 k (kx env)) (hle : n ≤ j := by decide)
    (hall : (backToKw pos (keywordEach kws X.env)).all (·.1.isSome) = true := by rfl) (hks : (backToKw pos (keywordEach kws X.env)).filterMap (·.1) = ks := by rfl)
    (hpl : ((backTo pos (starEach [] X.env)).any (·.1) || (backToKw pos (keywordEach kws X.env)).any (·.1.isNone)) = false := by rfl) {pl : Sem Bool}
    (ht : eval (.Call (.Attribute o m apos) [] kws pos) X.env = (do
      let ov ← eval o X.env
      standAt apos.atName
      let (f, first) ← holding [ov] (getMethod ov m pl)
      callWith pos f first (backTo pos (starEach [] X.env)) (backToKw pos (keywordEach kws X.env))) := by rfl) : WEA X A (.Call (.Attribute o m apos) [] kws pos) env C k := by
  obtain ⟨hc, fa, hm, fd, ps, g, gV, F, hb, hdat⟩ := hM
  have hroom := hx.room
  obtain ⟨e1, e2, e3, e4, e5, _, hgd, hcalm⟩ := hx
  subst e1 e2 e3 e4 e5
  obtain ⟨W, tk, hW⟩ := T
  intro G σ H Q w er fr q pins s I
  refine (pe_methXK0 (PE.nox pe_tS) hc hm F hgd (hroom.mono hle) hb tk (PK.nox pk_tKr) hall hks hpl ht).run pins s σ H Q I ?_
  refine h G σ H _ w er fun u G1 C1 H1 d f1 w1 r1 z => ?_
  obtain ⟨⟨kk, xs, hi, hnk⟩, z⟩ := z
  obtain ⟨a, dx, fs, rfl, h1, h2, h3⟩ := w1.ins r1 hi
  refine ⟨a, dx, fs, rfl, h1, look_none h2 hnk, z G1 σ H1 _ w1 (er.mono f1.exG) fun zs G2 C2 H2 ds2 f2 w2 r2 zz => ?_⟩
  have f12 := f1.trans f2
  exact ⟨r2.length.trans zz.1, spX_ok hW (fr.trans f12) w2 (er.mono f12.exG) (hdat _ _ [d] _ _ (.cons (r1.mono f2.exG) .nil) r2 rfl zz.1) (q.after f12) zz.2⟩
end
/-! ### loops -/
section
variable {P : Program} {w : World} {K : PySem.W.Frag} {mg : Str → Option Value} {base : Heap} {m : Nat} {X : Cx} {A : Anc} {e tg iter : Expr} {elts : List Expr} {kk : Nat} {body : List Stmt} {env : DEnv} {C : CS} {E : DEnds} {p : Addr} {kvs : List (Key × D)} {tpos apos cpos pos : Pos}
theorem wsA_for (hp : PassesOwn (model X.prog X.w) X.A X.env X.xe) (hc : X.calm = true)
    (h : WI X tg iter env C fun xs Pc C1 => ∃ Iv : Nat → DEnv → CS → Prop, Iv 0 env C1 ∧ (∀ i env C, Iv i env C → Pc C) ∧
      (∀ i d env C, xs[i]? = some d → Iv i env C → WG X tg d env C fun env' C' => WSsA X A body env' C' { nx := Iv (i + 1), rt := E.rt, bk := E.nx, ct := Iv (i + 1) }) ∧ (∀ env C, Iv xs.length env C → E.nx env C))
    (hs : ∀ x, foldedSetIterable iter X.env x = pure x := by intro _; rfl) : WSA X A (.For tg iter body [] pos) env C E := by
  obtain ⟨wi, hi, h⟩ := h
  intro G σ H D w er fr q pins s I
  refine (ps_for hp hc hi pg_tGt pss_tXs hs).run pins s σ H D I (h G σ H _ w er fun J G1 C1 H1 xs Pc f1 w1 it z => ?_)
  obtain ⟨Iv, i0, hP, turn, done⟩ := z
  let Wn : Nat → L2.St → Hp → Prop := fun i σ2 H2 => i ≤ xs.length ∧ ∃ G2 C2 env2, Fr G C H G2 C2 H2 ∧ Same G1 G2 ∧ Wld X.K G2 C2 H2 ∧ EnvR X.K G2 env2 σ2 ∧ Iv i env2 C2
  refine ⟨fun i m σ2 H2 => m = xs.length - i ∧ Wn i σ2 H2, ⟨xs.length, rfl, Nat.zero_le _, G1, C1, env, f1, fun _ _ h => h, w1, er.mono f1.exG, i0⟩, ?_⟩
  rintro i m σ2 H2 ⟨rfl, hi2, G2, C2, env2, f2, s2, w2, er2, i2⟩
  obtain ⟨go, stop⟩ := it G2 C2 H2 s2 w2 (hP _ _ _ i2)
  by_cases hlt : i < xs.length
  · obtain ⟨hgo, hy⟩ := go i xs[i] (by simp [hlt])
    refine .inr ⟨hgo, Wn (i + 1), fun σ' H' h' => ⟨xs.length - (i + 1), by omega, rfl, h'⟩, fun x H3 hx => ?_⟩
    obtain ⟨G3, f3, w3, r3⟩ := hy x H3 hx
    refine turn i xs[i] env2 C2 (by simp [hlt]) i2 G3 σ2 H3 x _ w3 (er2.mono f3.exG) r3 fun G4 C4 H4 σ4 env4 f4 w4 er4 h4 => ?_
    have nx : KontE X.K G4 C4 H4 (Iv (i + 1)) (Wn (i + 1)) := fun G5 C5 H5 σ5 env5 f5 w5 er5 h5 => ⟨hlt, G5, C5, env5, ((f2.trans f3).trans f4).trans f5, ((s2.trans f3.exG).trans f4.exG).trans f5.exG, w5, er5, h5⟩
    exact h4 G4 σ4 H4 _ w4 er4 (fr.trans ((f2.trans f3).trans f4)) ⟨nx, q.rt.after ((f2.trans f3).trans f4), q.nx.after ((f2.trans f3).trans f4), nx⟩
  · have e : i = xs.length := by omega
    subst e
    exact .inl ⟨stop _ (Nat.le_refl _), q.nx G2 C2 H2 σ2 env2 f2 w2 er2 (done _ _ i2)⟩
theorem Fr.lock {G H : Hp} {C : CS} {c : Cell} {p : Addr} (w : Wld K G C H) (hp : C p = some c) (o : HO) : Fr G C H G (del C p) (upd H p o) := by
  refine ⟨fun _ _ h => h, fun b u q n _ => ?_, fun b q => ?_, fun b q n => ?_, fun b q n => .inl n⟩
  · have ne : b ≠ p := fun z => by subst z; rw [hp] at n; cases n
    rw [upd_ne ne]; exact q
  · by_cases z : b = p
    · subst z; rw [upd_same]; simp
    · rw [upd_ne z]; exact q
  · by_cases z : b = p
    · subst z; rw [del_same] at n; exact absurd rfl n
    · rw [del_ne z] at n; exact n
/-- for k, v in d.items(): the body may raise; then the dict is gone -/
theorem wsA_forItems (hpo : PassesOwn (model X.prog X.w) X.A X.env X.xe) (hc : X.calm = true) (hp : C p = some (.dic kvs))
    (h : WE X e env (del C p) fun d C1 => d = .own p ∧ ∃ Iv : Nat → DEnv → CS → Prop, Iv 0 env C1 ∧
      (∀ i ky d env C, kvs[i]? = some (ky, d) → Iv i env C → WG X (.Tuple elts kk tpos) (.tup [kD ky, d]) env C fun env' C' => WSsA X A body env' C' { nx := Iv (i + 1), rt := fun v C2 => E.rt v (put C2 p (.dic kvs)), bk := fun env2 C2 => E.nx env2 (put C2 p (.dic kvs)), ct := Iv (i + 1) }) ∧
      (∀ env C, Iv kvs.length env C → E.nx env (put C p (.dic kvs))))
    (hbase : attributeBase e "items" X.env (eval e X.env) = eval e X.env := by rfl) (hline : (apos.endLine == cpos.line) = true := by rfl)
    (hs : ∀ x, foldedSetIterable (.Call (.Attribute e "items" apos) [] [] cpos) X.env x = pure x := by intro _; rfl) : WSA X A (.For (.Tuple elts kk tpos) (.Call (.Attribute e "items" apos) [] [] cpos) body [] pos) env C E := by
  intro G σ H D w er fr q pins s I
  refine (ps_lock (ps_for hpo hc (pi_items pe_tS hbase hline) pg_tGt pss_tXs hs)).run pins s σ H D I ?_
  obtain ⟨g, kw, hH, e1, e2⟩ := w.cell p _ hp
  have hlen : kw.length = kvs.length := by rw [← List.length_map (f := (·.1)) (as := kw), e1, List.length_map]
  refine ⟨p, .dK kw, hH, trivial, fun od => ?_⟩
  have w0 := w.lock hp (.frz od (.dK kw))
  have fl : Fr G C H G (del C p) (upd H p (.frz od (.dK kw))) := Fr.lock w hp _
  have back : ∀ {G2 : Hp} {C2 : CS} {H2 : Hp}, Fr G (del C p) (upd H p (.frz od (.dK kw))) G2 C2 H2 → Wld X.K G2 C2 H2 → Wld X.K G2 (put C2 p (.dic kvs)) (upd H2 p (.dK kw)) ∧ Fr G C H G2 (put C2 p (.dic kvs)) (upd H2 p (.dK kw)) := fun f2 w2 => Wld.unlock w hp e1 e2 f2 w2
  have frz : ∀ {G2 : Hp} {C2 : CS} {H2 : Hp}, Fr G (del C p) (upd H p (.frz od (.dK kw))) G2 C2 H2 → H2 p = some (.frz od (.dK kw)) := fun f2 => f2.keep p _ upd_same del_same (by intro _ z; cases z)
  refine h G σ _ _ w0 er fun u G1 C1 H1 d f1 w1 r1 z => ?_
  obtain ⟨rfl, Iv, i0, turn, done⟩ := z
  cases r1
  refine ⟨p, od, kw, rfl, frz f1, ?_⟩
  let Wn : Nat → L2.St → Hp → Prop := fun i σ2 H2 => i ≤ kvs.length ∧ ∃ G2 C2 env2, Fr G (del C p) (upd H p (.frz od (.dK kw))) G2 C2 H2 ∧ Wld X.K G2 C2 H2 ∧ EnvR X.K G2 env2 σ2 ∧ Iv i env2 C2
  refine ⟨fun i m σ2 H2 => m = kvs.length - i ∧ Wn i σ2 H2, ⟨kvs.length, rfl, Nat.zero_le _, G1, C1, env, f1, w1, er.mono f1.exG, i0⟩, ?_⟩
  rintro i m σ2 H2 ⟨rfl, hi2, G2, C2, env2, f2, w2, er2, i2⟩
  by_cases hlt : i < kvs.length
  · refine .inr ⟨⟨frz f2, by rw [hlen]; exact hlt⟩, Wn (i + 1), fun σ' H' h' => ⟨kvs.length - (i + 1), by omega, rfl, h'⟩, fun x H3 hx => ?_⟩
    obtain ⟨T, ky, v, hk, rfl, hT, rfl⟩ := hx
    obtain ⟨d, hd, rd⟩ := get_key e1 (e2.mono f2.exG) hk
    obtain ⟨w3, f3, s3⟩ := w2.newG hT (.tup [kV ky, v])
    refine turn i ky d env2 C2 hd i2 _ σ2 _ _ _ w3 (er2.mono f3.exG) (.tup (SqT.of upd_same) (.cons (dat_kV _ ky) (.cons (rd.mono s3) .nil))) fun G4 C4 H4 σ4 env4 f4 w4 er4 h4 => ?_
    have nx : KontE X.K G4 C4 H4 (Iv (i + 1)) (Wn (i + 1)) := fun G5 C5 H5 σ5 env5 f5 w5 er5 h5 => ⟨hlt, G5, C5, env5, ((f2.trans f3).trans f4).trans f5, w5, er5, h5⟩
    refine h4 G4 σ4 H4 _ w4 er4 (fr.trans (fl.trans ((f2.trans f3).trans f4))) ⟨nx, fun v' G5 C5 H5 d5 f5 w5 r5 h5 => ?_, fun G5 C5 H5 σ5 env5 f5 w5 er5 h5 => ?_, nx⟩
    · obtain ⟨w6, f6⟩ := back (((f2.trans f3).trans f4).trans f5) w5
      exact ⟨frz (((f2.trans f3).trans f4).trans f5), q.rt _ _ _ _ _ f6 w6 r5 h5⟩
    · obtain ⟨w6, f6⟩ := back (((f2.trans f3).trans f4).trans f5) w5
      exact ⟨frz (((f2.trans f3).trans f4).trans f5), q.nx _ _ _ _ _ f6 w6 er5 h5⟩
  · have e : i = kvs.length := by omega
    subst e
    obtain ⟨w6, f6⟩ := back f2 w2
    exact .inl ⟨⟨frz f2, by rw [hlen]; exact Nat.le_refl _⟩, frz f2, q.nx _ _ _ _ _ f6 w6 er2 (done _ _ i2)⟩
end
end DL
/-! DMp: several except clauses, each with a name. -/
namespace L2
open PySem PySem.Spec PyProof.Rows
abbrev Ends.unset (D : Ends) (i : Nat) : Ends := { nx := fun σ' H' => D.nx (σ'.set i none) H', rt := D.rt, bk := fun σ' H' => D.bk (σ'.set i none) H', ct := fun σ' H' => D.ct (σ'.set i none) H' }
abbrev HdL := List (Value × Nat × (Addr → Value → Option Addr → TS))
def wAsM (K : PySem.W.Frag) (Wout : WX) (D : Ends) : HdL → WX
  | [] => Wout
  | (c, i, ts) :: r => fun cls d σ H => ∃ b, PySem.W.exmOne K cls c = some b ∧ (b = true → ∀ a, H a = none → ts a cls d (D.unset i) (σ.set i (some (.ref a))) H) ∧ (b = false → wAsM K Wout D r cls d σ H)
inductive HdsAs (X : Cx) : List ExceptHandler → HdL → Prop
  | nil : HdsAs X [] []
  | cons {x n : Str} {c : Value} {i : Nat} {ts : Addr → Value → Option Addr → TS} {b₀ : Stmt} {suite : List Stmt} {np pos' : Pos} {hds : List ExceptHandler} {l : HdL} (hi : X.N[i]? = some n) (hln : X.env.kindOf n = some .local) (hc : Names X x c)
      (hsu : ∀ (a : Addr) (oe : Obj) (cls : Value) (d : Option Addr) (pn : List (Addr × Obj)), Zc cls d oe → (∃ vs, oe.data = .fields vs) → PSs (X.suite a ((a, oe) :: pn)) (b₀ :: suite) (ts a cls d)) (r : HdsAs X hds l) :
      HdsAs X (.ExceptHandler (some (.Name x np)) (some n) (b₀ :: suite) pos' :: hds) ((c, i, ts) :: l)
section
variable {X : Cx} {body : List Stmt} {h₀ : ExceptHandler} {hds : List ExceptHandler} {l : HdL} {pos : Pos} {tb : WX → TS} {Wout : WX}
theorem ps_try_asM (hs : X.stack = X.env :: X.outer) (hf : X.env.frame = some X.env.locals) (hN : X.N.Nodup) (tk : Takes X Wout)
    (hb : ∀ (W : WX) (pn : List (Addr × Obj)) (xe : Value → Shared → Prop), Takes (X.tr pn xe) W → PassesOwn (model X.prog X.w) X.A X.env xe → PSs (X.tr pn xe) body (tb W))
    (hh : HdsAs X (h₀ :: hds) l) : PS X (.Try body (h₀ :: hds) [] [] pos) (fun D σ H => tb (wAsM X.K Wout D l) D σ H) := by
  refine ⟨fun pins s σ H D I h => ?_⟩
  have ok := I.ok
  have hfr : X.A.frames = some (X.env :: X.outer) := by rw [ok.frames, hs]
  refine wpAny_Try_except ?_
  refine wpAny_mono ((hb (wAsM X.K Wout D l) (X.pn ++ pins) (fun e s₁ => wpAny (model X.prog X.w) X.A (noteFrame e X.env) (fun _ s₂ => wpAny (model X.prog X.w) X.A (setFlight e none) (fun _ s₃ =>
    wpAny (model X.prog X.w) X.A (handleBy e X.env (h₀ :: hds)) (SP X pins D) X.xe s₃) X.xe s₂) X.xe s₁) (fun u s' xx => ?_) PassesOwn.looking).run [] s σ H D (I.toTry _) h) (fun f s1 hsp => ?_) (fun e s1 he => he)
  · -- the catch
    obtain ⟨a, B, sI, pins', σ', H', cls, d, rfl, J', nb, up, sky, na, os, ag, w⟩ := xx
    have J : Inv X pins σ' H' sI := J'.ofTry ok
    have sky' : Sky B (X.env :: X.outer) a (Zc cls d) X.env.locals s'.heap := by rw [← hs]; exact sky
    show wpAny (model X.prog X.w) X.A (noteFrame (.ref a) X.env) _ _ _
    refine Sky.land Zc.steady hfr hf sky' fun h3 fl3 up3 => ?_
    have J3 : Inv X pins σ' H' { s' with heap := h3 } := J.landed nb fl3.1 (up.trans up3) os ag
    obtain ⟨oe3, vs3, he3, hz3, hd3⟩ := fl3.there
    have notFr : ∀ {h : Heap} {o : Obj} {vs : Array Value}, h.FunFrames B (X.env :: X.outer) → h.get? a = some o → o.data = .fields vs → a ∉ frs (X.env :: X.outer) := fun {h o vs} ff e dd hm => by
      obtain ⟨_, o', e', hnf⟩ := ff.mem hm
      rw [e] at e'; cases e'
      exact hnf _ dd
    have nfr := notFr fl3.2.2.1 he3 hd3
    have nL : a ≠ X.env.locals := fun z => nfr (List.mem_filterMap.mpr ⟨X.env, List.mem_cons_self, by rw [hf, z]⟩)
    have nF : a ∉ X.fs := fun hm => by
      obtain ⟨e, he, q⟩ := List.mem_filterMap.mp hm
      exact nfr (List.mem_filterMap.mpr ⟨e, List.mem_cons_of_mem _ he, q⟩)
    have S3 := J3.suite he3 hd3 na nL nF
    have go : ∀ {hds' : List ExceptHandler} {l' : HdL}, HdsAs X hds' l' → wAsM X.K Wout D l' cls d σ' H' →
        wpAny (model X.prog X.w) X.A (handleBy (.ref a) X.env hds') (SP X pins D) X.xe { s' with heap := h3 } := by
      intro hds' l' hk
      induction hk with
      | nil =>
        intro w
        refine wpAny_handleBy_nil ?_
        obtain ⟨k1, k2, k3, oe, vs, T, oT, ts', he, hz, hd, h1, hr⟩ := id fl3
        unfold PySem.passOn
        refine wpAny_bind (wpAny_field he hd h1 ?_)
        rw [if_neg (show ¬ ((Value.ref T == Value.none) = true) from by simp)]
        have fin : wpAny (model X.prog X.w) X.A (setFlight (.ref a) X.env.frame) (fun _ s4 => wpAny (model X.prog X.w) X.A (throw (.ref a) : Sem Flow) (SP X pins D) X.xe s4) X.xe { s' with heap := h3 } := by
          rw [hf]
          refine HandSPX.setFlight_upZ fl3 fun h4 hh4 up4 => wpAny_throw (tk _ _ ?_)
          exact ⟨a, B, sI, pins, σ', H', cls, d, rfl, J, nb, (up.trans up3).trans up4, .inr (.inr (by rw [hs]; exact hh4)), na, os, ag, w⟩
        first
          | exact wpAny_bind (wpAny_pure (wpAny_bind fin))
          | exact wpAny_bind fin
      | @cons x n c i ts b₀ suite np pos' hds2 l2 hi hln hc hsu r ih =>
        intro w
        have hloc : Loc X.env.scope n := .inl hln
        obtain ⟨b, hb1, hyes, hno⟩ := w
        refine wpAny_handleBy_cons (codeAny_handlers_test ?_) (by intro q; cases q)
        have LT : PySem.W.Looks (model X.prog X.w) h3 (typeOf (.ref a)) cls := fun A Q E s k q => wpAny_typeOf_ref (k _ _ he3) (by rw [hz3.1]; exact q)
        have LM := PySem.W.exm_one (M := model X.prog X.w) (J3.kIn) LT hb1
        have test : ∀ {Q : Value → Shared → Prop} {E : Value → Shared → Prop}, Q c { s' with heap := h3 } → wpAny (model X.prog X.w) (X.A.mark (some (.ref a))) (eval (.Name x np) X.env) Q E { s' with heap := h3 } := fun {Q E} q => by
          obtain ⟨hg, hdbg, hm | ⟨hm, hv, hnn⟩⟩ := hc
          · exact ld_glob (X := X.suite a ((a, oe3) :: (X.pn ++ pins))) S3 hg hm q hdbg
          · exact ld_blt (X := X.suite a ((a, oe3) :: (X.pn ++ pins))) S3 hg hm hv q hnn hdbg
        refine test (LM.here ?_)
        cases b with
        | true =>
          refine codeAny_handlers_suite_as ?_
          refine HandSPX.lands_againZ fl3 fun h4 fl4 up4 => ?_
          have J4 : Inv X pins σ' H' { s' with heap := h4 } := J.landed nb fl4.1 ((up.trans up3).trans up4) os ag
          obtain ⟨oe4, vs4, he4, hz4, hd4⟩ := fl4.there
          have S4 := J4.suite he4 hd4 na nL nF
          refine store_ok (X := X.suite a ((a, oe4) :: (X.pn ++ pins))) (v := .ref a) S4 hN hi hloc rfl (fun s5 S5 => ?_) (.inr hln)
          refine wpAny_mono ((hsu a oe4 cls d (X.pn ++ pins) hz4 ⟨_, hd4⟩).run [] s5 _ H' _ S5 (hyes rfl a na)) (fun f s6 hsp => ?_) (fun _ _ z => False.elim z)
          have end_ : ∀ {σ6 : St} {H6 : Hp} {Q : Shared → Prop}, Inv (X.suite a ((a, oe4) :: (X.pn ++ pins))) [] σ6 H6 s6 → (∀ s7, Inv X pins (σ6.set i none) H6 s7 → Q s7) →
              wpAny (model X.prog X.w) X.A (do bindName X.env n .none; unbindBehindTheSuite X.env n pos') (fun _ s7 => Q s7) X.xe s6 := fun {σ6 H6 Q} S6 hq => gone_ok (S6.unsuite ok) hN hi hln hq
          cases f with
          | next =>
            obtain ⟨σ6, H6, S6, q6⟩ := hsp
            exact end_ S6 fun s7 J7 => ⟨_, _, J7, q6⟩
          | brk =>
            obtain ⟨σ6, H6, S6, q6⟩ := hsp
            exact end_ S6 fun s7 J7 => ⟨_, _, J7, q6⟩
          | cont =>
            obtain ⟨σ6, H6, S6, q6⟩ := hsp
            exact end_ S6 fun s7 J7 => ⟨_, _, J7, q6⟩
          | ret u =>
            obtain ⟨v6, σ6, H6, S6, r6, q6⟩ := hsp
            exact end_ S6 fun s7 J7 => ⟨_, _, _, J7, r6, q6⟩
        | false =>
          show wpAny _ X.A (handleBy (.ref a) X.env hds2) _ _ _
          exact ih (hno rfl)
    exact go hh w
  · cases f with
    | next =>
      obtain ⟨σ', H', J', q⟩ := hsp
      exact wpAny_execs_nil ⟨σ', H', J'.ofTry ok, q⟩
    | brk =>
      obtain ⟨σ', H', J', q⟩ := hsp
      exact ⟨σ', H', J'.ofTry ok, q⟩
    | cont =>
      obtain ⟨σ', H', J', q⟩ := hsp
      exact ⟨σ', H', J'.ofTry ok, q⟩
    | ret u =>
      obtain ⟨v, σ', H', J', r, q⟩ := hsp
      exact ⟨v, σ', H', J'.ofTry ok, r, q⟩
end
end L2
namespace DL
open PySem PySem.Spec PyProof.Rows L2
/-- except clauses for own classes, each with a name -/
inductive HdDs (X : Cx) : List ExceptHandler → List (Addr × Nat × List Stmt) → Prop
  | nil : HdDs X [] []
  | cons {x n : Str} {Cl : Addr} {i : Nat} {b₀ : Stmt} {suite : List Stmt} {np pos' : Pos} {hds : List ExceptHandler} {l : List (Addr × Nat × List Stmt)} (hi : X.N[i]? = some n) (hln : X.env.kindOf n = some .local) (hg : Gl X x) (hdb : (x == ("__debug__" : Str)) = false) (hm : X.mg x = some (.ref Cl)) (he : PySem.W.exmOne X.K (.ref Cl) (.ref Cl) = some true) (r : HdDs X hds l) :
      HdDs X (.ExceptHandler (some (.Name x np)) (some n) (b₀ :: suite) pos' :: hds) ((Cl, i, b₀ :: suite) :: l)
/-- the first clause that fits takes the exception -/
def KxM (X : Cx) (E : DEnds) : List (Addr × Nat × List Stmt) → DEnv → KX
  | [] => fun _ _ _ _ => False
  | (Cl, i, suite) :: r => fun env' cls fs C' => (cls = .ref Cl ∧ WSuite X suite i env' C' E cls fs) ∨ (PySem.W.exmOne X.K cls (.ref Cl) = some false ∧ KxM X E r env' cls fs C')
def tsD (X : Cx) (suite : List Stmt) : Addr → Value → Option Addr → TS := fun a cls d => fun D σ H => ∀ oe pn, Zc cls d oe → (∃ vs, oe.data = .fields vs) → tXs (X.suite a ((a, oe) :: pn)) suite D σ H
def hdl (X : Cx) (l : List (Addr × Nat × List Stmt)) : HdL := l.map fun h => (.ref h.1, h.2.1, tsD X h.2.2)
theorem hdAs {X : Cx} {hds : List ExceptHandler} {l : List (Addr × Nat × List Stmt)} (h : HdDs X hds l) : HdsAs X hds (hdl X l) := by
  induction h with
  | nil => exact .nil
  | cons hi hln hg hdb hm he r ih => exact .cons hi hln ⟨hg, hdb, .inl hm⟩ (fun a oe cls d pn hz hv => ⟨fun pins s σ H D I z => z oe pn hz hv pins s I⟩) ih
section
variable {P : Program} {w : World} {K : PySem.W.Frag} {mg : Str → Option Value} {base : Heap} {X : Cx} {N M : List Str} {dsc : Scope} {body : List Stmt} {h₀ : ExceptHandler} {hds : List ExceptHandler} {l : List (Addr × Nat × List Stmt)} {env : DEnv} {C : CS} {E : DEnds} {pos : Pos}
theorem wish_ok {D : Ends} {G G' H H' : Hp} {C' : CS} {env' : DEnv} {σ' : L2.St} {cls : Value} {fs : List (Str × DL.D)} {od : Option Addr} (q : KontS X.K G C H E D) (fr : Fr G C H G' C' H') (w' : Wld X.K G' C' H') (er' : EnvR X.K G' env' σ') (ex : ExR X.K G' C' H' od fs) :
    ∀ {hds : List ExceptHandler} {l : List (Addr × Nat × List Stmt)}, HdDs X hds l → KxM X E l env' cls fs C' → wAsM X.K (fun _ _ _ _ => False) D (hdl X l) cls od σ' H' := by
  intro hds l hh
  induction hh with
  | nil => intro z; exact z
  | @cons x n Cl i b₀ suite np pos' hds2 l2 hi hln hg hdb hm he r ih =>
    intro z
    rcases z with ⟨rfl, hsu⟩ | ⟨hno, z⟩
    · refine ⟨true, he, fun _ a ha oe pn2 hz hv => ?_, fun e => Bool.noConfusion e⟩
      exact hsu a oe od pn2 ⟨G', C', H'⟩ hz hv rfl ha ex G' _ H' _ w' (er'.set i (.opq _)) (Fr.refl ..) (q.after fr).unset
    · exact ⟨false, hno, fun e => Bool.noConfusion e, fun _ => ih z⟩
theorem ws_tryM {m : Nat} {Ds : List Str} (hs : X.stack = X.env :: X.outer) (hf : X.env.frame = some X.env.locals) (hB : Bdy P w K mg base m N M Ds dsc X) (hh : HdDs X (h₀ :: hds) l)
    (h : ∀ (X' : Cx) (A : Anc), BdT P w K mg base m N M Ds dsc X' → A.C = C → Thr X' A (KxM X E l) → X'.env = X.env → WSsA X' A body env C E) :
    WS X (.Try body (h₀ :: hds) [] [] pos) env C E := by
  have ps := ps_try_asM (X := X) (body := body) (pos := pos) (Wout := fun _ _ _ _ => False)
    (tb := fun W => fun D σ H => ∀ pn xe, Takes (X.tr pn xe) W → PassesOwn (model X.prog X.w) X.A X.env xe → tXs (X.tr pn xe) body D σ H)
    hs hf hB.b.nd (fun u s' ⟨_, _, _, _, _, _, _, _, _, _, _, _, _, _, _, _, z⟩ => z.elim)
    (fun W pn xe tk po => ⟨fun pins s σ H D I z => z pn xe tk po pins s I⟩) (hdAs hh)
  refine .of ps fun G σ H D w er q pn xe tk po => ?_
  refine h (X.tr pn xe) ⟨G, C, H⟩ (hB.tr pn xe) rfl ⟨_, tk, fun cls fs od σ' env' G' C' H' fr w' er' ex hk => ?_⟩ rfl G σ H D w er (Fr.refl ..) q
  exact wish_ok q fr w' er' ex hh hk
end
end DL
/-! DMq: raise X(), X an own exception class without own __init__. -/
namespace L2
open PySem PySem.Spec PyProof.Rows
end L2
namespace DL
open PySem PySem.Spec PyProof.Rows L2
section
variable {P : Program} {w : World} {K : PySem.W.Frag} {mg : Str → Option Value} {base : Heap} {j : Nat} {X : Cx} {A : Anc} {env : DEnv} {C : CS} {E : DEnds} {pos p pos' : Pos} {kx : DEnv → KX} {x : Str} {Cl : Addr}
end
end DL
/-! DMr: in and not in with a tuple of data; a statement's end; what raises below an attribute; == as a test in a suite. -/
namespace L2
open PySem PySem.Spec PyProof.Rows
section
variable {X : Cx}
end
end L2
namespace DL
open PySem PySem.Spec PyProof.Rows L2
section
variable {P : Program} {w : World} {K : PySem.W.Frag} {mg : Str → Option Value} {base : Heap} {m : Nat} {X : Cx} {A : Anc} {a b o : Expr} {env : DEnv} {C : CS} {k : KD} {kb : Bool → CS → Prop} {pos p : Pos} {f : Str}
theorem WS.imp {X : Cx} {st : Stmt} {env : DEnv} {C : CS} {E1 E2 : DEnds} (h : WS X st env C E1) (hn : ∀ env' C', E1.nx env' C' → E2.nx env' C') (hr : E1.rt = E2.rt := by rfl) (hb : E1.bk = E2.bk := by rfl) (hc : E1.ct = E2.ct := by rfl) : WS X st env C E2 := fun G σ H D w er q =>
  h G σ H D w er ⟨fun G1 C1 H1 σ1 env1 f1 w1 er1 z => q.nx G1 C1 H1 σ1 env1 f1 w1 er1 (hn _ _ z), by rw [hr]; exact q.rt, by rw [hb]; exact q.bk, by rw [hc]; exact q.ct⟩
/-- a statement, then the rest, with a word between them -/
theorem wss_mid {X : Cx} {st : Stmt} {rest : List Stmt} {env : DEnv} {C : CS} {E : DEnds} (Pm : DEnv → CS → Prop) (h : WS X st env C { E with nx := Pm }) (hk : ∀ env' C', Pm env' C' → WSs X rest env' C' E) : WSs X (st :: rest) env C E := wss_cons (WS.imp h hk)
end
end DL
/-! DMs: xs[::-1] of a list. -/
namespace DL
open PySem PySem.Spec PyProof.Rows L2
/-! xs[::-1] of a list: a new list -/
section
variable {X : Cx} {e : Expr} {env : DEnv} {C : CS} {k : KD} {pos p1 p2 p3 : Pos} {j : Nat}
end
end DL
/-! DMt: a lambda's code, entered from the def that got it; the caller's guards stand. -/
namespace DL
open PySem PySem.Spec PyProof.Rows L2 LamX
section
variable {X : Cx} {pins : List (Addr × Obj)} {σ : L2.St} {H HZ : Hp} {s s1 : Shared} {A1 : Around} {outer1 : List Env} {E : XK} {scope : Scope} {f c' : Addr} {params : Arguments} {body : Expr} {pm ctv : Value} {k : Nat} {tb : TE} {Q : VK}
/-- the code of a lambda that was made where I stood, called where the frames are outer1: what its body promises there is the call's promise -/
theorem lam_code (I : Inv X pins σ H s) (L : LamS X.env.scope scope) (e0 : Env0 X.prog X.w X.K X.mg X.base A1 outer1 s1 HZ) (lim : s1.heap.NoLimit) (un : Un (frs X.stack) [] H HZ s.heap s1.heap) (hr : Room (k + 1) A1)
    (of1 : s1.heap.get? f = some (PySem.W.kla_obj "<lambda>" (X.env.qual ++ "<lambda>") params body scope (cloFrom X.env.cells scope.names []) pm c' ctv)) (hc : HZ c' = some (CodeO c' (X.env.qual ++ "<lambda>")))
    (hbd : bindArgs (PySem.W.kla_fn "<lambda>" (X.env.qual ++ "<lambda>") params body scope (cloFrom X.env.cells scope.names []) pm (.ref c') ctv) ⟨[], []⟩ = pure [])
    (hb : PE (lamCx X A1 outer1 s1 HZ E scope f c') body tb) (ht : tb σ HZ Q) :
    codeAny (model X.prog X.w) A1 (.call (.ref f) ⟨[], []⟩) (CR (L2.CX X.prog X.w) outer1 X.prog X.w HZ s1 Q E) s1 := by
  have hco := (e0.hok c' _ hc).1
  obtain ⟨oc, vs, t, h1, h2, h3⟩ := hco
  have start : ∀ (h₁ : Heap), h₁.Ns s1.heap.objs.size (fun y => ([] : List (Str × Value)).reverse.lookup y) → (∀ b o, s1.heap.get? b = some o → h₁.get? b = some o) → ∀ tk : Nat, Inv (lamCx X A1 outer1 s1 HZ E scope f c') [] σ HZ { s1 with heap := h₁, toks := tk } :=
    fun h₁ hns kp tk => lam_start2 I L e0 hr.hd un hns kp
  refine PySem.W.kla_callFunE hr.depth of1 rfl L.co L.gen rfl ⟨c', oc, vs, t, rfl, h1, h2, h3⟩ ?_
  rw [hbd]
  refine wpAny_pure (wpAny_newFunctionEnv (fun y hy => (L.own y hy).2) (fun y hy => absurd hy (by simp)) (fun h₁ hns hsb => ⟨lim.fresh _ hsb, ?_⟩) L.kind)
  refine PySem.W.kla_codeExpr (wpAny_mono (hb.run [] _ σ HZ Q (start h₁ hns (fun b o e => hsb.extBut b o (Nat.ne_of_lt (Heap.lt_size e)) (Heap.get?_push_of_some _ e)) _) ht) (fun v s' ⟨w', H', J, rv, q⟩ => ⟨w', H', J.os, J.bare, J.base, J.hok, rv, q⟩) fun e s' hq => hq)
/-- a(), a a name of the def that got the lambda: Z is that def's context (perhaps in a try), entered at s with the frames of X -/
theorem pe_lamact {CXg : CXT} {Eg : XK} {Ng : List Str} {qg : Str} {sg : Scope} {g : Addr} {cdg : Value} {i : Nat} {a : Str} {pn : List (Addr × Obj)} {xe : Value → Shared → Prop} {W : WX} {tl : XK → TE} {p1 p2 : Pos}
    (I : Inv X pins σ H s) (L : LamS X.env.scope scope) (hf : s.heap.get? f = some (PySem.W.kla_obj "<lambda>" (X.env.qual ++ "<lambda>") params body scope (cloFrom X.env.cells scope.names []) pm c' ctv)) (nfn : H f = none) (nfr : f ∉ frs X.stack)
    (hbd : bindArgs (PySem.W.kla_fn "<lambda>" (X.env.qual ++ "<lambda>") params body scope (cloFrom X.env.cells scope.names []) pm (.ref c') ctv) ⟨[], []⟩ = pure [])
    (tk : Takes ((cxOf CXg X.prog X.w X.K X.mg X.base Ng qg sg g cdg X.A X.stack s H Eg).tr pn xe) W) (hr : Room (k + 1) (X.A.deeper (envOfC qg sg s.heap.objs.size g cdg)))
    (hb : ∀ (s1 : Shared) (HZ : Hp) (E : XK), PE (lamCx X (X.A.deeper (envOfC qg sg s.heap.objs.size g cdg)) (envOfC qg sg s.heap.objs.size g cdg :: X.stack) s1 HZ E scope f c') body (tl E))
    (hN : Ng[i]? = some a) (hv : Vis sg a) (ndb : (a == ("__debug__" : Str)) = false := by decide) (ncd : (a == ("__classdict__" : Str)) = false := by decide) :
    PE ((cxOf CXg X.prog X.w X.K X.mg X.base Ng qg sg g cdg X.A X.stack s H Eg).tr pn xe) (.Call (.Name a p1) [] [] p2)
      (fun σZ HZ Q => σZ[i]? = some (some (.ref f)) ∧ HZ c' = some (CodeO c' (X.env.qual ++ "<lambda>")) ∧ tl (fun cls od H' => W cls od σZ H') σ HZ Q) := ⟨fun pinsZ sZ σZ HZ Q IZ ⟨hs, hc, ht⟩ => by
  have name := (pe_var (X := (cxOf CXg X.prog X.w X.K X.mg X.base Ng qg sg g cdg X.A X.stack s H Eg).tr pn xe) (pos := p1) (i := i) hN hv ndb ncd).run pinsZ sZ σZ HZ (fun v H1 => v = .ref f ∧ H1 = HZ) IZ ⟨.ref f, hs, rfl, rfl⟩
  refine wpAny_Call_Name_kw (thn name fun u s1 ⟨v, H1, I1, r1, ev, eH⟩ => ?_)
  subst ev
  rw [eH] at I1
  obtain rfl : u = Value.ref f := r1
  have base := I1.base
  have of1 := base.keep f _ hf nfn nfr (fun z => nomatch (show f ∈ ([] : List Addr) from z))
  refine PySem.W.callWith_F0 ⟨_, _, _, _, of1⟩ (wpAny_call (codeAny_mono (lam_code (X := X) (HZ := HZ) (s1 := s1) I L I1.env0 I1.nolimit base hr of1 hc hbd (hb s1 HZ (fun cls od H' => W cls od σZ H')) ht) fun r s' hq => ?_))
  match r, hq with
  | .error e, hq => exact tk e s' (XE.of_call I1 (fun _ _ _ h => h) hq)
  | .ok (.ret u), hq => exact I1.after hq⟩
/-- what a lambda's body promises, over data: S, from what its free names hold -/
def tLamS (K : PySem.W.Frag) (S : DEnv → CS → KD → KX → Prop) (E : XK) : TE := fun σ HZ Q => ∃ G C env k kx, Wld K G C HZ ∧ EnvR K G env σ ∧ S env C k kx ∧ Kont K G C HZ k Q ∧ ∀ cls fs od G' C' H', Fr G C HZ G' C' H' → Wld K G' C' H' → ExR K G' C' H' od fs → kx cls fs C' → E cls od H'
theorem lam_pe {S : DEnv → CS → KD → KX → Prop} (hb : ∀ (A : Anc) (env : DEnv) (kd : KD) (kx : KX), S env A.C kd kx → Thr (lamCx X A1 outer1 s1 HZ E scope f c') A (fun _ => kx) → WEA (lamCx X A1 outer1 s1 HZ E scope f c') A body env A.C kd) : PE (lamCx X A1 outer1 s1 HZ E scope f c') body (tLamS X.K S E) :=
  ⟨fun pins s σ H Q I ⟨G, C, env, kd, kx, w1, er, hS, q, hE⟩ => hb ⟨G, C, H⟩ env kd kx hS ⟨fun cls d _ H' => E cls d H', takes_of rfl rfl rfl rfl, fun cls fs od σ env G' C' H' fr w' er ex hk => hE cls fs od G' C' H' fr w' ex hk⟩ G σ H Q w1 er (Fr.refl ..) q pins s I⟩
/-- the context of a lambda's body -/
theorem lam_ctx {P : Program} {w : World} {K : PySem.W.Frag} {mg : Str → Option Value} {base : Heap} {j : Nat} (hx : Ctx P w K mg base j X) (hgd : A1.guards = some []) (hr : Room k (A1.deeper (lamEnv X scope s1.heap.objs.size f c'))) : Ctx P w K mg base k (lamCx X A1 outer1 s1 HZ E scope f c') := by
  obtain ⟨e1, e2, e3, e4, e5, _, _, _⟩ := hx
  exact ⟨e1, e2, e3, e4, e5, hr, hgd, rfl⟩
/-- a() over data -/
theorem weA_act {Z : Cx} {Az : Anc} {a : Str} {i : Nat} {q : Str} {S : DEnv → CS → KD → KX → Prop} {env0 env : DEnv} {C : CS} {kd : KD} {kxZ : DEnv → KX} {p1 p2 : Pos}
    (hPE : ∀ W, Takes Z W → PE Z (.Call (.Name a p1) [] [] p2) (fun σZ HZ Q => σZ[i]? = some (some (.ref f)) ∧ HZ c' = some (CodeO c' q) ∧ tLamS Z.K S (fun cls od H' => W cls od σZ H') σ HZ Q))
    (T : Thr Z Az kxZ) (hi : env[i]? = some (some (.opq (.ref f)))) (h0 : EnvR Z.K Az.G env0 σ) (hc : Az.H c' = some (CodeO c' q)) (hcC : Az.C c' = none) (h : S env0 C kd (kxZ env)) : WEA Z Az (.Call (.Name a p1) [] [] p2) env C kd := fun G σZ HZ Q w er fr q pins s I => by
  obtain ⟨W, tk, hW⟩ := T
  obtain ⟨v, h1, h2⟩ := er.2 i _ hi
  cases h2
  exact (hPE W tk).run pins s σZ HZ Q I ⟨h1, fr.keep _ _ hc hcC codeO_ne, G, C, env0, kd, kxZ env, w, h0.mono fr.exG, h, q, fun cls fs od G' C' H' fr' w' ex hk => hW cls fs od σZ env G' C' H' (fr.trans fr') w' (er.mono fr'.exG) ex hk⟩
end
section
variable {P : Program} {w : World} {K : PySem.W.Frag} {mg : Str → Option Value} {base : Heap} {X : Cx} {N M : List Str} {dsc : Scope} {body : List Stmt} {h₀ : ExceptHandler} {hds : List ExceptHandler} {l : List (Addr × Nat × List Stmt)} {env : DEnv} {C : CS} {E : DEnds} {pos : Pos}
theorem takes_no {X : Cx} : Takes X (fun _ _ _ _ => False) := fun _ _ ⟨_, _, _, _, _, _, _, _, _, _, _, _, _, _, _, _, z⟩ => z.elim
/-- as ws_tryM, anchored; it tells what the context in the try is, and that the try's entry A2 stands behind A -/
theorem wsA_tryM {m : Nat} {Ds : List Str} {A : Anc} (hs : X.stack = X.env :: X.outer) (hf : X.env.frame = some X.env.locals) (hB : Bdy P w K mg base m N M Ds dsc X) (hh : HdDs X (h₀ :: hds) l)
    (h : ∀ (pn : List (Addr × Obj)) (xe : Value → Shared → Prop) (A2 : Anc), BdT P w K mg base m N M Ds dsc (X.tr pn xe) → A2.C = C → A.fr A2.G A2.C A2.H → Thr (X.tr pn xe) A2 (KxM X E l) → WSsA (X.tr pn xe) A2 body env C E) :
    WSA X A (.Try body (h₀ :: hds) [] [] pos) env C E := by
  have ps := ps_try_asM (X := X) (body := body) (pos := pos) (Wout := fun _ _ _ _ => False)
    (tb := fun W => fun D σ H => ∀ pn xe, Takes (X.tr pn xe) W → PassesOwn (model X.prog X.w) X.A X.env xe → tXs (X.tr pn xe) body D σ H)
    hs hf hB.b.nd takes_no (fun W pn xe tk po => ⟨fun pins s σ H D I z => z pn xe tk po pins s I⟩) (hdAs hh)
  intro G σ H D w er fr q
  refine fun pins s I => ps.run pins s σ H D I ?_
  refine (?_ : _)
  exact fun pn xe tk po => h pn xe ⟨G, C, H⟩ (hB.tr pn xe) rfl fr ⟨_, tk, fun cls fs od σ' env' G' C' H' fr w' er' ex hk => wish_ok q fr w' er' ex hh hk⟩ G σ H D w er (Fr.refl ..) q
end
end DL
/-! DMu: a lambda is made; what becomes of the one table is told outright. -/
namespace DL
open PySem PySem.Spec PySem.W PyProof.Rows L2 LamX
/-- the heap behind the making: the old one, or the table is longer by a new code object -/
inductive Made (R : Addr → Prop) (H : Hp) (P c' : Addr) (q : Str) (ps : Array Value) : Hp → Array Value → Prop
  | hit : R c' → Made R H P c' q ps H ps
  | new (pos : Pos) : H c' = none → c' ≠ P → Made R H P c' q ps (upd (upd H P (.tbl (ps ++ #[rawInt pos.line, rawInt pos.col, .ref c']))) c' (CodeO c' q)) (ps ++ #[rawInt pos.line, rawInt pos.col, .ref c'])
section
variable {X : Cx} {pins : List (Addr × Obj)} {σ : L2.St} {H : Hp} {s : Shared} {c P : Addr} {ps : Array Value} {params : Arguments} {body : Expr} {scope : Scope} {pos : Pos} {E : Value → Shared → Prop} {Qv : Value → Shared → Prop} {R : Addr → Prop}
theorem new_nofr (I : Inv X pins σ H s) {f : Addr} (hf : s.heap.objs.size ≤ f) : f ∉ frs X.stack := fun z => by
  rcases List.mem_cons.mp (I.stkSub _ z) with e1 | e1
  · exact absurd (Nat.lt_of_lt_of_le I.lt hf) (by rw [e1]; exact Nat.lt_irrefl _)
  · exact I.nofs hf e1
theorem lam_mk (I : Inv X pins σ H s) (TB : TabB X.base X.mg c P) (hcode : X.env.code = .ref c) (hP : H P = some (.tbl ps)) (ht : TriplesOk ps.toList) (ha : ∀ (pos : Pos) (cv : Value), codeAmong pos ps.toList = some cv → ∃ c0, cv = .ref c0 ∧ R c0)
    (hdf : defaultsOf params X.env = ([], [])) (hfr0 : ∀ y ∈ scope.names, y.2 = .free → ∃ c, X.env.cells.lookup y.1 = some c)
    (h : ∀ (f c' : Addr) (pm ctv : Value) (H1 : Hp) (ps1 : Array Value) (s' : Shared), Made R H P c' (X.env.qual ++ "<lambda>") ps H1 ps1 → Inv X pins σ H1 s' →
      s'.heap.get? f = some (PySem.W.kla_obj "<lambda>" (X.env.qual ++ "<lambda>") params body scope (cloFrom X.env.cells scope.names []) pm c' ctv) → H1 f = none → f ∉ frs X.stack → Qv (.ref f) s') :
    wpAny (model X.prog X.w) X.A (eval (.Lambda params body scope pos) X.env) Qv E s := by
  have bPt : s.heap.BuiltinsAt X.mg P := TB.bm.keeps I.bk
  have hP' := I.hok P _ hP
  refine kla_eval hdf ?_
  cases hcm : codeAmong pos ps.toList with
  | some cv =>
    obtain ⟨c', rfl, hco⟩ := ha pos cv hcm
    refine kla_makeFunctionHit (mg := X.mg) (c := c) (P := P) (ps := ps) (closure_ok hfr0) I.ok.glob (I.mod.glob.keeps I.bk) hcode (TB.code.keeps I.bk) hP' ht hcm bPt fun ctv h' tk hx hsz => ?_
    exact h h'.objs.size c' _ ctv H ps _ (.hit hco) (I.kept fun b o e => Heap.get?_push_of_some _ (hx b o e)) (Heap.get?_push_size _ rfl) (I.hok.fresh hsz) (new_nofr I hsz)
  | none =>
    refine kla_makeFunction (mg := X.mg) (c := c) (P := P) (ps := ps) (closure_ok hfr0) I.ok.glob (I.mod.glob.keeps I.bk) hcode (TB.code.keeps I.bk) hP' ht hcm TB.gP bPt fun c' ctv h' tk hx hge hlt hrc htb => ?_
    obtain ⟨c2, oc, vs, t, e2, hoc, hd, hv⟩ := hrc
    cases e2
    have hsz := Nat.le_trans hge (Nat.le_of_lt hlt)
    have nCc : H c' = none := I.hok.fresh hge
    have nPc : c' ≠ P := fun e => by rw [e, hP] at nCc; cases nCc
    have hf : (upd (upd H P (.tbl (ps ++ #[rawInt pos.line, rawInt pos.col, .ref c']))) c' (CodeO c' (X.env.qual ++ "<lambda>"))) h'.objs.size = none := by
      rw [upd_ne (Nat.ne_of_gt hlt), upd_ne (fun e => by have := I.hok.fresh (a := h'.objs.size) hsz; rw [e, hP] at this; cases this)]
      exact I.hok.fresh hsz
    exact h h'.objs.size c' _ ctv _ _ _ (.new pos nCc nPc)
      (inv_table (t' := tk) (more := #[rawInt pos.line, rawInt pos.col, .ref c']) I hP (fun b o hb e => Heap.get?_push_of_some _ (hx b o hb e)) (Heap.get?_push_of_some _ htb) hge ⟨oc, vs, t, Heap.get?_push_of_some _ hoc, hd, hv⟩)
      (Heap.get?_push_size _ rfl) hf (new_nofr I hsz)
end
section
variable {K : PySem.W.Frag} {G H H1 : Hp} {C : CS} {P c' : Addr} {q : Str} {cs : List Addr} {ps ps1 : Array Value}
/-- the world behind the making -/
theorem Wld.made (w : Wld K G C H) (hC : C P = some (.tbl q cs)) (hP : H P = some (.tbl ps)) (ht : TriplesOk ps.toList) (ha : ∀ (pos : Pos) (cv : Value), codeAmong pos ps.toList = some cv → ∃ c0, cv = .ref c0 ∧ G c0 = some (CodeO c0 q))
    (m : Made (fun c0 => G c0 = some (CodeO c0 q)) H P c' q ps H1 ps1) : ∃ G', Wld K G' (put C P (.tbl q (c' :: cs))) H1 ∧ Fr G C H G' (put C P (.tbl q (c' :: cs))) H1 ∧ G' c' = some (CodeO c' q) := by
  obtain ⟨gP, ⟨_, _, _, _, hcs⟩⟩ := w.cell P _ hC
  cases m with
  | hit hR =>
    refine ⟨G, ⟨w.ex, fun a d e => ?_, w.nt⟩, ⟨fun _ _ h => h, fun _ _ h _ _ => h, fun _ h => h, fun a _ k => ?_, fun _ _ k => .inl k⟩, hR⟩
    · by_cases z : a = P
      · subst z
        rw [put_same] at e
        cases e
        exact ⟨gP, ps, hP, ht, ha, fun d hd => (List.mem_cons.mp hd).elim (fun z => by rw [z]; exact hR) (hcs d)⟩
      · rw [put_ne z] at e
        exact w.cell a d e
    · by_cases z : a = P
      · subst z; rw [hC]; simp
      · rw [put_ne z] at k; exact k
  | new pos nCc nPc =>
    obtain ⟨gc, cc⟩ := w.ne nCc
    have sG : Same G (upd G c' (CodeO c' q)) := fun b u e => by rw [upd_ne (ne_of_none e gc)]; exact e
    have eH : ∀ {b : Addr}, b ≠ c' → b ≠ P → (upd (upd H P (.tbl (ps ++ #[rawInt pos.line, rawInt pos.col, .ref c']))) c' (CodeO c' q)) b = H b := fun h1 h2 => by rw [upd_ne h1, upd_ne h2]
    have eLt : (ps ++ #[rawInt pos.line, rawInt pos.col, .ref c']).toList = ps.toList ++ [rawInt pos.line, rawInt pos.col, .ref c'] := by simp
    refine ⟨upd G c' (CodeO c' q), ⟨fun b u e => ?_, fun a d e => ?_, fun b ps' e => ?_⟩, ⟨sG, fun a o e n _ => ?_, fun a e => ?_, fun a _ k => ?_, fun a e k => ?_⟩, upd_same⟩
    · by_cases z : b = c'
      · subst z; rw [upd_same] at e ⊢; exact e
      · rw [upd_ne z] at e
        rw [eH z (fun y => by rw [y, gP] at e; cases e)]
        exact w.ex b u e
    · by_cases z : a = P
      · subst z
        rw [put_same] at e
        cases e
        refine ⟨by rw [upd_ne nPc.symm]; exact gP, _, by rw [upd_ne nPc.symm, upd_same], by rw [eLt]; exact PySem.TriplesOk_snoc _ _ _ _ ht, fun p' cv hcv => ?_, fun d hd => ?_⟩
        · rw [eLt] at hcv
          rcases among_app _ ht hcv with y | y
          · obtain ⟨c0, e1, e2⟩ := ha p' cv y
            exact ⟨c0, e1, sG _ _ e2⟩
          · exact ⟨c', y, upd_same⟩
        · rcases List.mem_cons.mp hd with rfl | hd
          · exact upd_same
          · exact sG _ _ (hcs d hd)
      · rw [put_ne z] at e
        obtain ⟨g1, g2⟩ := w.cell a d e
        have nc : a ≠ c' := fun y => by rw [y, cc] at e; cases e
        exact ⟨by rw [upd_ne nc]; exact g1, g2.mono sG (eH nc z)⟩
    · by_cases z : b = c'
      · subst z
        rw [upd_same] at e
        exact codeO_ne _ (Option.some.inj e)
      · rw [upd_ne z] at e
        exact w.nt b ps' e
    · rw [eH (fun y => by rw [y, nCc] at e; cases e) (fun y => by rw [y, hC] at n; cases n)]
      exact e
    · by_cases z : a = c'
      · subst z; rw [upd_same]; simp
      · by_cases y : a = P
        · subst y; rw [upd_ne z, upd_same]; simp
        · rw [eH z y]; exact e
    · by_cases z : a = P
      · subst z; rw [hC]; simp
      · rw [put_ne z] at k; exact k
    · by_cases z : a = c'
      · subst z; exact absurd nCc e
      · rw [upd_ne z] at k; exact .inl k
end
end DL
/-! DMv: x(lambda: body), x a def of the module that calls what it got. -/
namespace DL
open PySem PySem.Spec PyProof.Rows L2 LamX
section
variable {P : Program} {w : World} {K : PySem.W.Frag} {mg : Str → Option Value} {base : Heap} {X : Cx} {j k : Nat} {x a : Str} {st : Stmt} {g cT Pt : Addr} {fd : FuncData} {Ng M Ds : List Str} {params : Arguments} {body : Expr} {scope : Scope} {lps p pos : Pos} {env : DEnv} {C : CS} {kd : KD} {cs : List Addr} {S : DEnv → CS → KD → KX → Prop}
/-- what the teller may use of a() -/
def ActD (XT : Cx) (A : Anc) (a : Str) (f : Addr) (env : DEnv) (S : DEnv → CS → KD → KX → Prop) : Prop :=
  ∀ (pn : List (Addr × Obj)) (xe : Value → Shared → Prop) (Az : Anc) (kxZ : DEnv → KX) (env' : DEnv) (C' : CS) (kk : KD) (p1 p2 : Pos), A.fr Az.G Az.C Az.H → Thr (XT.tr pn xe) Az kxZ → env'[0]? = some (some (.opq (.ref f))) → S env C' kk (kxZ env') → WEA (XT.tr pn xe) Az (.Call (.Name a p1) [] [] p2) env' C' kk
theorem we_lamcall (hx : Ctx P w K mg base j X) (hj : k + 2 ≤ j) (hg : Gl X x) (hmg : mg x = some (.ref g)) (hk : PySem.W.keepIn K (.ref g) = true) (F : Fun K x x st g fd) (hb : Binds K fd [a] []) (sc : FnScope Ng [a] (defScope st)) (hv : visC (defScope st) M = true) (hlc : locC (defScope st) M = true) (hgC : glC (defScope st) Ds = true)
    (hNg : Ng[0]? = some a) (hva : Vis (defScope st) a) (TB : TabB base mg cT Pt) (hcode : X.env.code = .ref cT) (hC : C Pt = some (.tbl (X.env.qual ++ "<lambda>") cs)) (L : LamS X.env.scope scope) (hdef : defaultsOf params X.env = ([], []))
    (hbd : ∀ (q : Str) (cl : List (Str × Addr)) (pm cv ctv : Value), bindArgs (PySem.W.kla_fn "<lambda>" q params body scope cl pm cv ctv) ⟨[], []⟩ = pure [])
    (hbody : ∀ (XL : Cx), Ctx P w K mg base k XL → XL.N = X.N → XL.env.scope = scope → ∀ (A : Anc) (env' : DEnv) (kk : KD) (kx : KX), S env' A.C kk kx → Thr XL A (fun _ => kx) → WEA XL A body env' A.C kk)
    (hT : ∀ (f c' : Addr) (XT : Cx) (A : Anc), BdyT P w K mg base (k + 1) Ng M Ds (defScope st) XT → A.C = put C Pt (.tbl (X.env.qual ++ "<lambda>") (c' :: cs)) → ActD XT A a f env S → WSsA XT A (defBody st) (startD Ng [.opq (.ref f)]) A.C { nx := fun _ C' => kd .non C', rt := kd })
    (ndb : (x == ("__debug__" : Str)) = false := by decide) (nda : (a == ("__debug__" : Str)) = false := by decide) (ncd : (a == ("__classdict__" : Str)) = false := by decide) :
    WE X (.Call (.Name x p) [.Lambda params body scope lps] [] pos) env C kd := fun G σ H Q w1 er q pins s I => by
  have hroom := hx.room.mono hj
  have hgd := hx.guards
  have hxx := hx
  obtain ⟨e1, e2, e3, e4, e5, _, _, hcalm⟩ := hx
  subst e1 e2 e3 e4 e5
  obtain ⟨oc, od, kV, doc, pm0, an, cdv, ct, osl, rfl, hlook, hcode0⟩ := F.ex
  obtain ⟨gP, ps, hP, ht, ha, hcs⟩ := w1.cell Pt _ hC
  refine wpAny_Call_Name_kw (ld_glob I hg hmg ?_ ndb)
  refine PySem.W.callWith_K (h₀ := X.base) I.ok.mod.kin hk ?_ (by rfl) (by rfl)
  show wpAny _ _ (spliced ((false, eval (.Lambda params body scope lps) X.env) :: backTo pos (starEach [] X.env))) _ _ s
  refine Calls.spliced_cons (lam_mk (R := fun c0 => G c0 = some (CodeO c0 (X.env.qual ++ "<lambda>"))) I TB hcode hP ht ha hdef (L.has I.ok) fun f c' pm ctv H1 ps1 s' md I1 hf nfn nfr => ?_)
  obtain ⟨G1, w2, f1, gc⟩ := w1.made hC hP ht ha md
  refine Calls.spliced_nil ⟨I1.kIn, ?_⟩
  have hc1 := w2.ex _ _ gc
  have hcC : (put C Pt (.tbl (X.env.qual ++ "<lambda>") (c' :: cs))) c' = none := by
    cases z : (put C Pt (.tbl (X.env.qual ++ "<lambda>") (c' :: cs))) c' with
    | none => rfl
    | some d => rw [(w2.cell _ _ z).1] at gc; cases gc
  have rcl : codeAny (model X.prog X.w) X.A (.call (.ref g) ⟨[.ref f], []⟩) (CR CX0 X.stack X.prog X.w H1 s' Q (fun _ _ _ => False)) s' := by
    refine run_ofS (N := Ng) (ps := [a]) (us := [.ref f]) (vs := [.ref f]) hlook hcode0 sc hroom I1.env0 (hb s' [.ref f] I1.kIn rfl) (.cons rfl .nil) rfl fun hr' => ?_
    refine ⟨tXs ((cxOf CX0 X.prog X.w X.K X.mg X.base Ng x (defScope st) g cdv X.A X.stack s' H1 (fun _ _ _ => False)).nox) (defBody st), PSs.nox pss_tXs, ?_⟩
    refine hT f c' ((cxOf CX0 X.prog X.w X.K X.mg X.base Ng x (defScope st) g cdv X.A X.stack s' H1 (fun _ _ _ => False)).nox) ⟨G1, put C Pt (.tbl (X.env.qual ++ "<lambda>") (c' :: cs)), H1⟩ ⟨⟨⟨rfl, rfl, rfl, rfl, rfl, hr', hgd, rfl⟩, nms_of rfl (sc := defScope st) rfl sc.nd hv, sts_of rfl (sc := defScope st) rfl sc.nd hlc (fun _ => rfl), gls_of (sc := defScope st) rfl hgC, ⟨rfl, sc.nd, rfl, rfl⟩, ⟨rfl⟩⟩, rfl, rfl, fun y e => by rw [kindOf_env (sc := defScope st) rfl]; exact e⟩ rfl ?_ G1 _ H1 _ w2 (envR_start (.cons (.opq _) .nil)) (Fr.refl ..) ⟨?_, q.after f1, ?_, ?_⟩
    · intro pn xe Az kxZ env' C' kk p1 p2 fr T hi hS
      exact weA_act (fun W tk => pe_lamact (CXg := CX0) (Eg := fun _ _ _ => False) (i := 0) (tl := tLamS X.K S) I1 L hf nfn nfr (hbd _ _ _ _ _) tk hr' (fun s1 HZ E => lam_pe fun A env'' kk' kx hS' hT' => hbody _ (lam_ctx (A1 := X.A.deeper (envOfC x (defScope st) s'.heap.objs.size g cdv)) hxx hgd (hr'.deeper _)) rfl rfl A env'' kk' kx hS' hT') hNg hva nda ncd) T hi ((er.mono f1.exG).mono fr.exG) (fr.keep _ _ hc1 hcC codeO_ne) (by
        cases z : Az.C c' with
        | none => rfl
        | some d => exact absurd hcC (fr.newC c' (by show H1 c' ≠ none; rw [hc1]; simp) (by rw [z]; simp))) hS
    · exact fun G' C' H' σ env f w' er z => q.after f1 .non G' C' H' .non f w' .non z
    · exact fun G' C' H' σ env f w' er z => z.elim
    · exact fun G' C' H' σ env f w' er z => z.elim
  refine wpAny_call (codeAny_mono rcl fun r s2 hq => ?_)
  match r, hq with
  | .error e, hq => exact (show False from hq).elim
  | .ok (.ret u), hq => exact I1.after hq
end
end DL
/-! DMw: a law whose def makes lambdas: its body with its own code object, its end with the table. -/
namespace DL
open PySem PySem.Spec PyProof.Rows L2 LamX
section
variable {P : Program} {w : World} {K : PySem.W.Frag} {mg mb : Str → Option Value} {base : Heap} {CT : CXT} {n : Nat} {fa a ct Pt : Addr} {fd : FuncData} {x : Str} {sp : Sp} {s : Shared} {vs : List Value} {ns : List Int}
/-- as fnG_of; the body stands in the def's own code object -/
theorem fnG_ofC {ps : List Str} {y qual : Str} {st : Stmt} {N : List Str} (F : Fun K y qual st fa fd) (S : FnScope N ps (defScope st)) (len : ∀ as H Q E, sp as H Q E → as.length = ps.length)
    (hb : ∀ (cdv : Value) (A : Around) (out : List Env) (s : Shared) (H : Hp) (as : List V) (Q : VK) (E : XK), fd.code = cdv → A.guards = some [] → Room n (A.deeper (envOfC qual (defScope st) s.heap.objs.size fa cdv)) → sp as H Q E →
      ∃ t, PSs (cxOf CT P w K mg base N qual (defScope st) fa cdv A out s H E) (defBody st) t ∧ t { nx := fun _ H1 => Q .non H1, rt := Q } (start N as) H) : FnG P w K mg base CT (n + 1) fa fd ps sp := by
  obtain ⟨oc, od, kV, doc, pm, an, cdv, ctv, osl, rfl, hlook, hcode⟩ := F.ex
  refine ⟨len, fun {A out s H ar us as Q E} hguard hroom env0 hbind hvals hsp => ?_⟩
  have inK : K.In s.heap := env0.mod.kin.keeps fun a o q => (env0.bs a o q).1
  refine codeAny_call_function hroom.depth (inK _ _ hlook) rfl S.co S.gen rfl (PySem.W.codeRec_of inK hcode) (hbind _ _ _ _ (wpAny_newFunctionEnv_cells S.kind (fun y hin => ?_) fun env henv s1 inc => ?_))
  · rcases S.par y.1 (List.of_mem_zip (show (y.1, y.2) ∈ _ from hin)).1 with q | q
    · exact .inl q
    · exact .inr ⟨q, PySem.W.cellsFrom_some _ _ _ (.inl q)⟩
  · subst henv
    refine ⟨(env0.mod.nolimit.keeps fun a o q => (env0.bs a o q).1).keeps inc.toInCall.keep, codeAny_func ?_⟩
    obtain ⟨t, pt, qt⟩ := hb cdv A out s H as Q E rfl hguard (hroom.deeper _) hsp
    refine wpAny_mono (pt.run [] s1 (start N as) H _ (inv_start (E := E) (CX := CT) S hroom.hd env0 (len _ _ _ _ hsp) hvals inc) qt) (fun fl s' z => ?_) fun e s' z => z
    cases fl with
    | ret u => exact let ⟨v, _, H1, J, rv, q⟩ := z; ⟨v, H1, J.os, J.bare, J.base, J.hok, rv, q⟩
    | next => exact let ⟨_, H1, J, q⟩ := z; ⟨V.non, H1, J.os, J.bare, J.base, J.hok, rfl, q⟩
    | brk => exact z.elim fun _ z => z.elim fun _ z => z.2.elim
    | cont => exact z.elim fun _ z => z.elim fun _ z => z.2.elim
/-- as fnX, with the def's own code object -/
theorem fnXL {y qual : Str} {st : Stmt} {f : Addr} {N M Ds ps : List Str} {n : Nat} {S : DSp} (F : Fun K y qual st f fd) (hcd : fd.code = .ref ct) (sc : FnScope N ps (defScope st)) (hv : visC (defScope st) M = true) (hlc : locC (defScope st) M = true) (hg : glC (defScope st) Ds = true)
    (hl : ∀ ds C k, S ds C k → ds.length = ps.length)
    (hb : ∀ (X : Cx), Bdy P w K mg base n N M Ds (defScope st) X → X.env.code = .ref ct → X.env.qual = (envOfC qual (defScope st) 0 0 .none).qual → ∀ (ds : List D) (C : CS) (k : KD), S ds C k → WSs X (defBody st) (startD N ds) C { nx := fun _ C' => k .non C', rt := k }) : FnG P w K mg base CX0 (n + 1) f fd ps (toSp K S) := by
  refine fnG_ofC F sc (fun vs H Q E h => ?_) (fun cdv A outer s H vs Q E hc hgd hr h => ?_)
  · obtain ⟨G, C, ds, k, _, r, hS, _⟩ := h
    rw [r.length]
    exact hl _ _ _ hS
  · obtain ⟨G, C, ds, k, wl, r, hS, q⟩ := h
    refine ⟨_, PSs.nox pss_tXs, ?_⟩
    have hcv : cdv = .ref ct := hc.symm.trans hcd
    refine hb (cxOf CX0 P w K mg base N qual (defScope st) f cdv A outer s H E).nox ⟨⟨rfl, rfl, rfl, rfl, rfl, hr, hgd, rfl⟩, nms_of rfl (sc := defScope st) rfl sc.nd hv, sts_of rfl (sc := defScope st) rfl sc.nd hlc (fun _ => rfl), gls_of (sc := defScope st) rfl hg, ⟨rfl, sc.nd, rfl, rfl⟩, ⟨rfl⟩⟩ hcv rfl ds C k hS G _ H _ wl (envR_start r) ⟨?_, q, ?_, ?_⟩
    · exact fun G' C' H' σ env f w' er z => q .non G' C' H' .non f w' .non z
    · exact fun G' C' H' σ env f w' er z => z.elim
    · exact fun G' C' H' σ env f w' er z => z.elim
/-- nothing but the script and one empty table -/
def OnlyT (Pt : Addr) (H : Hp) : Prop := H Pt = some (.tbl #[]) ∧ ∀ b, b ≠ Pt → H b = none ∨ ∃ o xs, H b = some (.frz o (.lst xs))
theorem law_atT (KX : K.In s.heap) (hns : s.heap.Ns mainGlobals mg) (hb : s.heap.Ns builtinsNs mb) (hbb : ∀ y : Str, y ≠ "__name__" → mb y = bootBuiltins y) (hlim : s.heap.NoLimit) (hgen : s.gens = #[])
    (ha : s.heap.get? a = some { cls := .type "list", data := .seq vs.toArray }) (hr : Room n callerA)
    (hT : s.heap.get? Pt = some (PySem.W.tabObj #[])) (nT : K.lookup Pt = none) (hC : PySem.W.CodeHd s.heap ct Pt)
    (hbm : ∃ (bm : Addr) (ob : Obj), mg "__builtins__" = some (.ref bm) ∧ bm ≠ builtinsNs ∧ s.heap.get? bm = some ob ∧ ob.cls = .type "module" ∧ ob.dict = some builtinsNs ∧ ob.data = .plain)
    (F : ∀ base : Heap, K.In base → base.Ns mainGlobals mg → TabB base mg ct Pt → FnG P w K mg base CT n fa fd [x] sp) (hbind : ∀ (s : Shared) (u : Value), BindsTo s fd ⟨[u], []⟩ [(x, u)])
    (hCT : ∀ H e s', CT [] H s (fun _ _ _ => False) e s' → False) {H : Hp} (hO : OnlyT Pt H) (hsp : sp [.ref a] H (fun v _ => v = .bl true) fun _ _ _ => False) (hok : HOk P w H s.heap) (hone : ∀ b, b ≠ a → b ≠ Pt → H b = none) (hK : H a ≠ none → K.lookup a = none) :
    codeAny (model P w) callerA (.call (.ref fa) ⟨[.ref a], []⟩) (EndT s) s := by
  have hid : ∀ {b : Addr} {ob : Obj}, s.heap.get? b = some ob → b ≠ Pt → (b = a → H a = none) → (hidT s.heap H).get? b = some ob := fun {b ob} q hp z => hidT_get q (by
    by_cases e : b = a
    · rw [e]; exact z e
    · exact hone b e hp)
  have ofD : ∀ {b : Addr} {ob : Obj}, s.heap.get? b = some ob → (∀ us m, ob.data ≠ .seq us m) → ob.data ≠ .fields #[] → (hidT s.heap H).get? b = some ob := fun {b ob} q h1 h2 => hid q (fun e => by
      rw [e, hT] at q; cases q; exact h2 rfl) fun e => by
      rw [e, ha] at q; cases q; exact (h1 _ _ rfl).elim
  have nsT : ∀ {b : Addr} {f : Str → Option Value}, s.heap.Ns b f → (hidT s.heap H).Ns b f := by
    rintro b f ⟨ob, es, ep, q, d, rest⟩
    exact ⟨ob, es, ep, ofD q (fun us m z => by rw [d] at z; cases z) (fun z => by rw [d] at z; cases z), d, rest⟩
  have kinT : K.In (hidT s.heap H) := fun b ob q => hid (KX b ob q) (fun e => by rw [e, nT] at q; cases q) fun e => by
    cases z : H a with
    | none => rfl
    | some u =>
      rw [e, hK (by rw [z]; exact nofun)] at q
      cases q
  obtain ⟨mc, l1, l2⟩ := hlim
  have env0 : Env0 P w K mg (hidT s.heap H) callerA [] s H :=
    { frames := rfl, mod := ⟨kinT, nsT hns, ⟨mb, nsT hb, hbb⟩, ⟨mc, nsT l1, l2⟩⟩, bs := fun _ _ q => of_hidT q, bsz := Nat.le_of_eq (hidT_size _ _), funs := trivial, frf := (fun b z => (nomatch z)), hok := hok, bare := .of_eq hgen }
  have gP : mainGlobals ≠ Pt := fun e => by
    obtain ⟨ob, es, ep, q, d, _⟩ := hns
    rw [e, hT] at q
    cases q
    cases d
  have tb : TabB (hidT s.heap H) mg ct Pt := by
    refine ⟨?_, ?_, gP⟩
    · obtain ⟨ob, us, fl, tf, fg, tg, iF, tx, tt, c1, c2, c3, rest⟩ := hC
      exact ⟨ob, us, fl, tf, fg, tg, iF, tx, tt, ofD c1 (fun us m z => by rw [c3] at z; cases z) (fun z => by rw [c3] at z; cases z; simp at rest), c2, c3, rest⟩
    · obtain ⟨bm, ob, b1, b2, b3, b4, b5, b6⟩ := hbm
      refine ⟨bm, ob, b1, b2, fun e => ?_, fun e => ?_, ofD b3 (fun us m z => by rw [b6] at z; cases z) (fun z => by rw [b6] at z; cases z), b4, b5, b6⟩
      · obtain ⟨o, es, ep, q, d, _⟩ := hns
        rw [e, q] at b3
        cases b3
        rw [d] at b6
        cases b6
      · rw [e, hT] at b3
        cases b3
        cases b6
  refine codeAny_mono ((F _ kinT (nsT hns) tb).run (us := [.ref a]) (as := [.ref a]) rfl hr env0 (hbind s (.ref a)) (.cons rfl .nil) hsp) ?_
  intro res s' z
  match res, z with
  | .error e, z => exact (hCT H e s' z).elim
  | .ok (.ret u), z =>
    obtain ⟨v, H1, os, bare, un, hok1, ru, hv⟩ := z
    obtain rfl : v = .bl true := hv
    obtain rfl : u = Value.bool true := ru
    have same : ∀ b ob, b ≠ Pt → s.heap.get? b = some ob → s'.heap.get? b = some ob := fun b ob hp q => by
      rcases hO.2 b hp with c | ⟨oc, xs, c⟩
      · exact un.keep b ob q c (fun z => nomatch z) (by simp)
      · obtain ⟨c1, _⟩ := hok b _ c
        obtain ⟨c2, _⟩ := hok1 b _ (un.frzs b oc _ c)
        rw [q] at c1
        cases c1
        exact c2
    obtain ⟨more, hm⟩ := un.tbls Pt #[] hO.1
    have hm2 := hok1 Pt _ hm
    refine ⟨rfl, ⟨fun b ob q => ?_, fun b ob q => ?_⟩, os, bare⟩
    · by_cases hp : b = Pt
      · rw [hp] at q ⊢
        rw [hT] at q
        cases q
        exact .inr (.inl ⟨(hC.tab hT).isCodeTable, rfl, #[], more, rfl, by rw [Array.empty_append]; rw [Array.empty_append] at hm2; exact hm2⟩)
      · exact .inl (same b ob hp q)
    · by_cases hp : b = Pt
      · rw [hp]; exact ⟨_, hm2⟩
      · exact ⟨ob, same b ob hp q⟩
theorem law_callT (KX : K.In s.heap) (hns : s.heap.Ns mainGlobals mg) (hb : s.heap.Ns builtinsNs mb) (hbb : ∀ y : Str, y ≠ "__name__" → mb y = bootBuiltins y) (hlim : s.heap.NoLimit) (hgen : s.gens = #[])
    (ha : s.heap.get? a = some { cls := .type "list", data := .seq vs.toArray }) (hi : IntsAre vs ns) (hl : ns.length ≤ sizeLine) (hr : Room n callerA)
    (hT : s.heap.get? Pt = some (PySem.W.tabObj #[])) (nT : K.lookup Pt = none) (hC : PySem.W.CodeHd s.heap ct Pt)
    (hbm : ∃ (bm : Addr) (ob : Obj), mg "__builtins__" = some (.ref bm) ∧ bm ≠ builtinsNs ∧ s.heap.get? bm = some ob ∧ ob.cls = .type "module" ∧ ob.dict = some builtinsNs ∧ ob.data = .plain)
    (F : ∀ base : Heap, K.In base → base.Ns mainGlobals mg → TabB base mg ct Pt → FnG P w K mg base CT n fa fd [x] sp) (hbind : ∀ (s : Shared) (u : Value), BindsTo s fd ⟨[u], []⟩ [(x, u)])
    (hsp : ∀ H : Hp, OnlyT Pt H → SqL K H a (ns.map V.int) → sp [.ref a] H (fun v _ => v = .bl true) fun _ _ _ => False) (hCT : ∀ H e s', CT [] H s (fun _ _ _ => False) e s' → False) :
    codeAny (model P w) callerA (.call (.ref fa) ⟨[.ref a], []⟩) (EndT s) s := by
  have rv : Vals (ns.map V.int) vs := vals_ints hi
  have hsz : (ns.map V.int).length ≤ sizeLine := by rwa [List.length_map]
  have aP : a ≠ Pt := fun e => by rw [e, hT] at ha; cases ha
  let T : Hp := upd (fun _ => none) Pt (.tbl #[])
  have t1 : T Pt = some (.tbl #[]) := upd_same
  have t2 : ∀ b, b ≠ Pt → T b = none := fun b z => upd_ne z
  by_cases hk : ∃ ob, K.lookup a = some ob
  · obtain ⟨ob, hk⟩ := hk
    have q := KX a ob hk
    rw [ha] at q
    cases q
    have hO : OnlyT Pt T := ⟨t1, fun b h => .inl (t2 b h)⟩
    refine law_atT KX hns hb hbb hlim hgen ha hr hT nT hC hbm F hbind hCT hO (hsp _ hO (.inr ⟨_, vs.toArray, _, hk, rfl, rfl, rfl, by rw [List.size_toArray, ← rv.length]; exact hsz, by simpa using rv⟩)) (fun b u z => ?_) (fun b _ h => t2 b h) fun z => absurd (t2 a aP) z
    by_cases hp : b = Pt
    · rw [hp, t1] at z; cases z; rw [hp]; exact hT
    · rw [t2 b hp] at z; cases z
  · let H : Hp := upd T a (.frz { cls := .type "list", data := .seq vs.toArray } (.lst (ns.map V.int)))
    have e1 : H a = some (.frz { cls := .type "list", data := .seq vs.toArray } (.lst (ns.map V.int))) := upd_same
    have e2 : ∀ b, b ≠ a → H b = T b := fun b z => upd_ne z
    have hO : OnlyT Pt H := ⟨(e2 Pt aP.symm).trans t1, fun b h => by
      by_cases z : b = a
      · rw [z]; exact .inr ⟨_, _, e1⟩
      · exact .inl ((e2 b z).trans (t2 b h))⟩
    refine law_atT KX hns hb hbb hlim hgen ha hr hT nT hC hbm F hbind hCT hO (hsp H hO (.inl (.inr ⟨_, e1⟩))) (fun b u z => ?_) (fun b h1 h2 => (e2 b h1).trans (t2 b h2)) fun _ => ?_
    · by_cases zb : b = a
      · subst zb
        rw [e1] at z
        cases z
        exact ⟨ha, hsz, vs, _, rv, ha⟩
      · rw [e2 b zb] at z
        by_cases hp : b = Pt
        · rw [hp, t1] at z; cases z; rw [hp]; exact hT
        · rw [t2 b hp] at z; cases z
    · cases z : K.lookup a with
      | none => rfl
      | some ob => exact absurd ⟨ob, z⟩ hk
end
/-- the end of a law that makes lambdas itself -/
theorem walk_ofT {l : PySem.W.OpenLaw} {z n : Nat} {q : Program} {loose : List Str} {XP : (Str → Option Value) → Heap → Prop} {YP : World → Heap → Prop} {d : DefRec} {K : Params → PySem.W.Frag} {CT : World → CXT} {sp : World → Addr → Sp} {x y : Str}
    (hz : l.most = some z) (hz2 : z ≤ sizeLine) (hdf : d.params.defaults = []) (hrc : (recsOf q).find? (fun e => e.name == y) = some d) (hr : Room n callerA) (hY : ∀ (w : World) (h : Heap), YP w h → (K w.params).In h)
    (F : ∀ (w : World) (mg : Str → Option Value) (fa : Addr) (h : Heap), (K w.params).In h → h.Ns mainGlobals mg → mg d.name = some (.ref fa) →
      ∃ (fd : FuncData) (ct Pt : Addr), PySem.W.tabIn (K w.params) y = some (ct, Pt) ∧ (K w.params).lookup Pt = none ∧ (∀ (s : Shared) (u : Value), BindsTo s fd ⟨[u], []⟩ [(x, u)]) ∧ ∀ base : Heap, (K w.params).In base → base.Ns mainGlobals mg → TabB base mg ct Pt → FnG l.prog w (K w.params) mg base (CT w) n fa fd [x] (sp w Pt))
    (hsp : ∀ (w : World) (Pt : Addr) (H : Hp) (a : Addr) (ns : List Int), ns.length ≤ z → (∀ i ∈ ns, Builtin.Int.intBits i ≤ 1048576) → OnlyT Pt H → SqL (K w.params) H a (ns.map V.int) → sp w Pt [.ref a] H (fun v _ => v = .bl true) fun _ _ _ => False)
    (hCT : ∀ (w : World) (H : Hp) (s : Shared) (e : Value) (s' : Shared), CT w [] H s (fun _ _ _ => False) e s' → False) : PySem.W.WalkO q loose XP YP l.row.toRowW d [] (fun f vs => PySem.call f vs) := by
  refine Att.attach_callB hz hdf ?_
  intro w s₀ s mg mb fa o pm cd doc a vs ns G Y ho hd hcd hmg hobj hints hlen hbits hgen
  have inK := hY w _ Y
  obtain ⟨fd, ct, Pt, hta, nT, hbind, hF⟩ := F w mg fa _ inK G.T.g hmg
  obtain ⟨hC, hT⟩ := PySem.W.tab_of G.T inK hrc hta
  exact law_callT inK G.T.g G.T.b G.T.builtins G.T.nolimit hgen hobj hints (Nat.le_trans hlen hz2) hr hT nT hC G.T.bmain hF hbind (fun H hO hS => hsp w Pt H a ns hlen hbits hO hS) fun H e s' => hCT w H s e s'
/-! anchored displays -/
section
variable {X : Cx} {A : Anc} {e : Expr} {es : List Expr} {env : DEnv} {C : CS} {k : KD} {ka : List D → CS → Prop} {pos : Pos} {x1 : Nat}
end
end DL
/-! DMx: y = [.. for a, b in ..]. -/
namespace DL
open PySem PySem.Spec PyProof.Rows L2
section
variable {X : Cx} {elt iter : Expr} {ifs : List Expr} {scope dsc : Scope} {env : DEnv} {C C1 : CS} {k : KD} {pos px py pt : Pos} {n : Nat} {E : DEnds} {N M gs : List Str} {x y : Str} {f1 : D → DEnv} {f2 : D → D → DEnv} {xs : List D} {Pc : CS → Prop}
end
/-! sorted(a list of texts) -/
section
variable {P : Program} {w : World} {K : PySem.W.Frag} {mg : Str → Option Value} {base : Heap} {j n : Nat} {X : Cx} {e : Expr} {es : List Expr} {env : DEnv} {C : CS} {k : KD} {pos p : Pos}
end
/-- what stands behind is not looked into -/
theorem wss_gen {X : Cx} {sts : List Stmt} {env : DEnv} {C : CS} {E : DEnds} (h : ∀ E' : DEnds, (∀ env' C', E.nx env' C' → E'.nx env' C') → (∀ d C', E.rt d C' → E'.rt d C') → WSs X sts env C E') : WSs X sts env C E := h E (fun _ _ h => h) fun _ _ h => h
end DL
/-! DMy: classes straight below KeyError: their __new__ is LookupError's. -/
namespace PySem
namespace DLX
open PySem.W PySem.Calls PyProof.Rows PySem.HandSPX Builtin Builtin.ObjectAttr
section
variable {M : Model} {A : Around} {E : Value → Shared → Prop} {h : Heap} {g : Array GenState} {d : Drawn} {t : Nat} {os : OsState} {nm q : Str} {C N : Addr} {bs bm bmB : List Value} {hdct : Bool} {sn : List Str} {sub : List Value} {ab : Bool} {col : Option Bool} {dd : Option Addr} {k0 k1 k2 k3 k5 : Option Value} {B newId initId : String}
variable {prog : Program} {w : World} {R : Result → Shared → Prop}
end
end DLX
end PySem
namespace DL
open PySem PySem.Spec PyProof.Rows L2 PySem.F PySem.DLX PySem.HandSPX
section
variable {M : Model} {A : Around} {E : Value → Shared → Prop} {h : Heap} {g : Array GenState} {d : Drawn} {t : Nat} {os : OsState} {nm q : Str} {C N : Addr} {bs bm : List Value} {hdct : Bool} {sn : List Str} {sub : List Value} {ab : Bool} {col : Option Bool} {dd : Option Addr} {k0 k1 k2 k3 k5 : Option Value} {B newId initId : String}
end
end DL
/-! DMz: zip(a, b, strict=True) of two tuples of one length. -/
namespace DLZ
open PySem RZ
open PySem.Sem (wp)
/-- a zip that asks that all end together -/
abbrev ZipS (hp : Heap) (zz TI TO : Addr) (f0 : Value) : Prop := hp.get? zz = some { cls := .type "zip", dict := none, data := .fields #[f0, .bool false, .bool true, .ref TI, .ref TO], slots := #[] }
section
variable {prog : Program} {w : World} {A : Around} {E : Value → Shared → Prop} {s : Shared}
theorem noe_item {it l : Addr} {i : Nat} {items : Array Value} {x : Value} {Q : Option Value → Shared → Prop} (hit : s.heap.IsTupleIter it l i) (hl : s.heap.IsTuple l items) (hx : items[i]? = some x)
    (hQ : ∀ h', h'.IsTupleIter it l (i + 1) → Heap.SameBut it s.heap h' → Q (some x) { s with heap := h' }) : wpAny (model prog w) A (Builtin.SmallTypes.nextOrEnd (.ref it)) Q E s := by
  unfold Builtin.SmallTypes.nextOrEnd
  refine wpAny_bind (wpAny_attempt (nextOf_tuple_item hit hl hx ?_))
  intro h' a b
  exact wpAny_pure (hQ h' a b)
theorem noe_end {it l : Addr} {i : Nat} {items : Array Value} {Q : Option Value → Shared → Prop} (hh : A.handled = none) (hit : s.heap.IsTupleIter it l i) (hl : s.heap.IsTuple l items) (hx : items[i]? = none)
    (hQ : ∀ h', Heap.ExtBut it s.heap h' → Q none { s with heap := h' }) : wpAny (model prog w) A (Builtin.SmallTypes.nextOrEnd (.ref it)) Q E s := by
  unfold Builtin.SmallTypes.nextOrEnd
  refine wpAny_bind (wpAny_attempt (nextOf_tuple_end hh hit hl hx ?_))
  intro h' e hk he
  obtain ⟨o, ho, hc⟩ := he
  refine wpAny_bind (wpAny_isInstance (T := "StopIteration") (b := true) ⟨o, ho, hc⟩ isSubtype_stop ?_)
  exact wpAny_pure (hQ _ hk)
theorem nextS_item {zz TI TO i1 i2 l1 l2 : Addr} {k1 k2 : Nat} {xs ys : Array Value} {x y a b : Value} {Q : Value → Shared → Prop} (ap : ZipApart zz TI TO i1 i2 l1 l2) (az : ZipS s.heap zz TI TO .none) (pI : IsPair s.heap TI (.ref i1) (.ref i2)) (pO : IsPair s.heap TO a b)
    (t1 : s.heap.IsTupleIter i1 l1 k1) (t2 : s.heap.IsTupleIter i2 l2 k2) (u1 : s.heap.IsTuple l1 xs) (u2 : s.heap.IsTuple l2 ys) (hx : xs[k1]? = some x) (hy : ys[k2]? = some y)
    (hQ : ∀ h', ZipS h' zz TI TO (rawInt s.heap.objs.size) → IsPair h' TO x y → h'.IsTupleIter i1 l1 (k1 + 1) → h'.IsTupleIter i2 l2 (k2 + 1) → IsPair h' s.heap.objs.size x y → h'.objs.size = s.heap.objs.size + 1 →
      (∀ c o, c ≠ zz → c ≠ TO → c ≠ i1 → c ≠ i2 → s.heap.get? c = some o → h'.get? c = some o) → Q (.ref s.heap.objs.size) { s with heap := h' }) :
    wpAny (model prog w) A (Builtin.«zip.__next__» ⟨[.ref zz], []⟩) (fun fin s' => ∃ v, fin = .done (.ret v) ∧ Q v s') E s := by
  show wpAny _ _ (field (.ref zz) 2 >>= _) _ _ _
  refine wpAny_bind (wpAny_field az rfl (x := .bool true) rfl ?_)
  show wpAny _ _ (field (.ref zz) 3 >>= _) _ _ _
  refine wpAny_bind (wpAny_field az rfl (x := .ref TI) rfl ?_)
  refine wpAny_bind (wpAny_seqItems pI rfl ?_)
  show wpAny _ _ (Builtin.SmallTypes.ownedTupleIsFree (.ref zz) >>= _) _ _ _
  refine wpAny_bind ?_
  unfold Builtin.SmallTypes.ownedTupleIsFree
  refine wpAny_bind (wpAny_field az rfl (x := .none) rfl (wpAny_pure ?_))
  simp only [if_true]
  refine wpAny_bind (wpAny_rule ?_)
  refine wpAny_bind (wpAny_field az rfl (x := .ref TO) rfl ?_)
  refine wpAny_bind (wpAny_setField_rec az (by simp) ?_)
  intro j1 z1 e1
  replace z1 : ZipS j1 zz TI TO .ellipsis := z1
  refine wpAny_bind ?_
  simp only [List.zipIdx_cons, List.zipIdx_nil, List.forIn_cons, List.forIn_nil]
  refine wpAny_bind (wpAny_bind (wpAny_onRaise ?_))
  show wpAny _ _ (Builtin.SmallTypes.nextOrEnd (.ref i1)) _ _ _
  refine noe_item (t1.extBut e1.extBut ap.i1z) (u1.extBut e1.extBut ap.l1z) hx ?_
  intro j2 v1 e2
  have o2 : IsPair j2 TO a b := e2.extBut _ _ ap.TOi1 (e1.extBut _ _ ap.TOz pO)
  refine wpAny_bind (wpAny_seqItems o2 rfl ?_)
  refine wpAny_bind (wpAny_updateSeq_pair o2 ?_)
  intro j3 o3 e3
  replace o3 : IsPair j3 TO x b := o3
  refine wpAny_bind (wpAny_letGo (wpAny_pure ?_))
  refine wpAny_bind (wpAny_bind (wpAny_onRaise ?_))
  show wpAny _ _ (Builtin.SmallTypes.nextOrEnd (.ref i2)) _ _ _
  refine noe_item (((t2.extBut e1.extBut ap.i2z).extBut e2.extBut ap.i12.symm).extBut e3.extBut ap.TOi2.symm) (((u2.extBut e1.extBut ap.l2z).extBut e2.extBut ap.l2i1).extBut e3.extBut ap.l2TO) hy ?_
  intro j4 v2 e4
  have o4 : IsPair j4 TO x b := e4.extBut _ _ ap.TOi2 o3
  refine wpAny_bind (wpAny_seqItems o4 rfl ?_)
  refine wpAny_bind (wpAny_updateSeq_pair o4 ?_)
  intro j5 o5 e5
  replace o5 : IsPair j5 TO x y := o5
  refine wpAny_bind (wpAny_letGo (wpAny_pure (wpAny_pure ?_)))
  refine wpAny_bind (wpAny_seqItems o5 rfl ?_)
  refine wpAny_bind (wpAny_newTuple ?_)
  have hsz : j5.objs.size = s.heap.objs.size := by rw [e5.1, e4.1, e3.1, e2.1, e1.1]
  have z5 : ZipS j5 zz TI TO .ellipsis := e5.extBut _ _ ap.TOz.symm (e4.extBut _ _ ap.i2z.symm (e3.extBut _ _ ap.TOz.symm (e2.extBut _ _ ap.i1z.symm z1)))
  have k5 : ∀ c o, c ≠ zz → c ≠ TO → c ≠ i1 → c ≠ i2 → s.heap.get? c = some o → j5.get? c = some o := by
    intro c o c1 c2 c3 c4 e
    exact e5.extBut _ _ c2 (e4.extBut _ _ c4 (e3.extBut _ _ c2 (e2.extBut _ _ c3 (e1.extBut _ _ c1 e))))
  have w1 : j5.IsTupleIter i1 l1 (k1 + 1) := ((v1.extBut e3.extBut ap.TOi1.symm).extBut e4.extBut ap.i12).extBut e5.extBut ap.TOi1.symm
  have w2 : j5.IsTupleIter i2 l2 (k2 + 1) := v2.extBut e5.extBut ap.TOi2.symm
  have zlt : zz < j5.objs.size := Heap.lt_size z5
  have olt : TO < j5.objs.size := Heap.lt_size o5
  show wpAny _ _ (Builtin.SmallTypes.ownedTupleHandOut (.ref zz) (.ref j5.objs.size) >>= _) _ _ _
  refine wpAny_bind ?_
  unfold Builtin.SmallTypes.ownedTupleHandOut
  have z6 : ZipS (j5.push { cls := .type "tuple", data := .seq #[x, y] }) zz TI TO .ellipsis := Heap.get?_push_of_some _ z5
  refine wpAny_bind (wpAny_setField_rec z6 (by simp) ?_)
  intro j7 z7 e7
  replace z7 : ZipS j7 zz TI TO (rawInt j5.objs.size) := z7
  refine wpAny_setField_rec z7 (by simp) ?_
  intro j8 z8 e8
  replace z8 : ZipS j8 zz TI TO (rawInt j5.objs.size) := z8
  have up : ∀ c o, c ≠ zz → j5.get? c = some o → j8.get? c = some o := by
    intro c o c1 e
    exact e8.extBut _ _ c1 (e7.extBut _ _ c1 (Heap.get?_push_of_some _ e))
  have T8 : IsPair j8 j5.objs.size x y := e8.extBut _ _ (Nat.ne_of_gt zlt) (e7.extBut _ _ (Nat.ne_of_gt zlt) (Heap.get?_push_size _ rfl))
  have s8 : j8.objs.size = j5.objs.size + 1 := by rw [e8.1, e7.1, Heap.size_push]
  rw [hsz] at z8 T8 s8
  refine wpAny_pure ⟨_, rfl, ?_⟩
  show Q (.ref j5.objs.size) _
  rw [hsz]
  refine hQ j8 z8 (up _ _ ap.TOz o5) (w1.at ?_) (w2.at ?_) T8 s8 ?_
  · intro o e
    exact up _ o ap.i1z e
  · intro o e
    exact up _ o ap.i2z e
  · intro c o c1 c2 c3 c4 e
    exact up c o c1 (k5 c o c1 c2 c3 c4 e)
theorem nextS_end {zz TI TO i1 i2 l1 l2 : Addr} {k1 k2 : Nat} {xs ys : Array Value} {a b : Value} {Q : Fin → Shared → Prop} (hh : A.handled = none) (ap : ZipApart zz TI TO i1 i2 l1 l2) (az : ZipS s.heap zz TI TO .none) (pI : IsPair s.heap TI (.ref i1) (.ref i2)) (pO : IsPair s.heap TO a b)
    (t1 : s.heap.IsTupleIter i1 l1 k1) (t2 : s.heap.IsTupleIter i2 l2 k2) (u1 : s.heap.IsTuple l1 xs) (u2 : s.heap.IsTuple l2 ys) (hx : xs[k1]? = none) (hy : ys[k2]? = none)
    (hE : ∀ h' e, (∀ c o, c ≠ zz → c ≠ TO → c ≠ i1 → c ≠ i2 → s.heap.get? c = some o → h'.get? c = some o) → (∃ o, h'.get? e = some o ∧ o.cls = .type "StopIteration") → E (.ref e) { s with heap := h' }) :
    wpAny (model prog w) A (Builtin.«zip.__next__» ⟨[.ref zz], []⟩) Q E s := by
  show wpAny _ _ (field (.ref zz) 2 >>= _) _ _ _
  refine wpAny_bind (wpAny_field az rfl (x := .bool true) rfl ?_)
  show wpAny _ _ (field (.ref zz) 3 >>= _) _ _ _
  refine wpAny_bind (wpAny_field az rfl (x := .ref TI) rfl ?_)
  refine wpAny_bind (wpAny_seqItems pI rfl ?_)
  show wpAny _ _ (Builtin.SmallTypes.ownedTupleIsFree (.ref zz) >>= _) _ _ _
  refine wpAny_bind ?_
  unfold Builtin.SmallTypes.ownedTupleIsFree
  refine wpAny_bind (wpAny_field az rfl (x := .none) rfl (wpAny_pure ?_))
  simp only [if_true]
  refine wpAny_bind (wpAny_rule ?_)
  refine wpAny_bind (wpAny_field az rfl (x := .ref TO) rfl ?_)
  refine wpAny_bind (wpAny_setField_rec az (by simp) ?_)
  intro j1 z1 e1
  replace z1 : ZipS j1 zz TI TO .ellipsis := z1
  refine wpAny_bind ?_
  simp only [List.zipIdx_cons, List.zipIdx_nil, List.forIn_cons, List.forIn_nil]
  refine wpAny_bind (wpAny_bind (wpAny_onRaise ?_))
  show wpAny _ _ (Builtin.SmallTypes.nextOrEnd (.ref i1)) _ _ _
  refine noe_end hh (t1.extBut e1.extBut ap.i1z) (u1.extBut e1.extBut ap.l1z) hx ?_
  intro j2 e2
  have z2 : ZipS j2 zz TI TO .ellipsis := e2 _ _ ap.i1z.symm z1
  refine wpAny_bind (wpAny_setField_rec z2 (by simp) ?_)
  intro j3 z3 e3
  refine wpAny_bind (wpAny_bind ?_)
  first
    | (show wpAny _ _ (if 0 > 0 then _ else _) _ _ _
       rw [if_neg (by decide)])
    | (show wpAny _ _ ((if 0 > 0 then _ else _) >>= _) _ _ _
       rw [if_neg (by decide)])
    | wp_step
  have v2 : j3.IsTupleIter i2 l2 k2 := (((t2.extBut e1.extBut ap.i2z).extBut e2 ap.i12.symm).extBut e3.extBut ap.i2z)
  have w2 : j3.IsTuple l2 ys := (((u2.extBut e1.extBut ap.l2z).extBut e2 ap.l2i1).extBut e3.extBut ap.l2z)
  simp only [List.drop_succ_cons, List.drop_zero, List.zipIdx_cons, List.zipIdx_nil, List.forIn'_cons, List.forIn'_nil]
  refine wpAny_bind (wpAny_bind (noe_end hh v2 w2 hy ?_))
  intro j4 e4
  rw [if_neg (by decide)]
  refine wpAny_pure (wpAny_pure (wpAny_bind (wpAny_rule ?_)))
  unfold Builtin.SmallTypes.stopIteration
  show wpAny _ _ (newExc (.type "StopIteration") [] >>= _) _ _ _
  refine wpAny_bind ?_
  simp only [newExc, newTuple]
  refine wpAny_bind (wpAny_newObj_type ?_ (by size_fits))
  refine wpAny_bind (m := firstArgMember _ _) (wpAny_of_eq (a := Value.none) (by first | rfl | (simp only [firstArgMember]; rfl)) ?_)
  refine wpAny_newObj_type ?_ (by size_fits)
  simp only [raiseNew]
  refine wpAny_bind (wpAny_handled ?_)
  first
    | rw [show A.in1.handled = none from hh]
    | rw [hh]
  refine wpAny_bind (wpAny_pure (wpAny_throw ?_))
  refine hE _ _ ?_ ⟨_, Heap.get?_push_size _ rfl, rfl⟩
  intro c o c1 c2 c3 c4 e
  exact Heap.get?_push_of_some _ (Heap.get?_push_of_some _ (e4 _ _ c4 (e3.extBut _ _ c1 (e2 _ _ c3 (e1.extBut _ _ c1 e)))))
theorem pyNextS_item {zz TI TO i1 i2 l1 l2 : Addr} {k1 k2 : Nat} {xs ys : Array Value} {x y a b : Value} {Q : Option Value → Shared → Prop} (ap : ZipApart zz TI TO i1 i2 l1 l2) (az : ZipS s.heap zz TI TO .none) (pI : IsPair s.heap TI (.ref i1) (.ref i2)) (pO : IsPair s.heap TO a b)
    (t1 : s.heap.IsTupleIter i1 l1 k1) (t2 : s.heap.IsTupleIter i2 l2 k2) (u1 : s.heap.IsTuple l1 xs) (u2 : s.heap.IsTuple l2 ys) (hx : xs[k1]? = some x) (hy : ys[k2]? = some y)
    (hQ : ∀ h', ZipS h' zz TI TO (rawInt s.heap.objs.size) → IsPair h' TO x y → h'.IsTupleIter i1 l1 (k1 + 1) → h'.IsTupleIter i2 l2 (k2 + 1) → IsPair h' s.heap.objs.size x y → h'.objs.size = s.heap.objs.size + 1 →
      (∀ c o, c ≠ zz → c ≠ TO → c ≠ i1 → c ≠ i2 → s.heap.get? c = some o → h'.get? c = some o) → Q (some (.ref s.heap.objs.size)) { s with heap := h' }) : wpAny (model prog w) A (pyNext (.ref zz)) Q E s := by
  have ty : s.TypeIs (.ref zz) "zip" := ⟨_, az, rfl⟩
  unfold pyNext
  refine wpAny_bind (wpAny_attempt (wpAny_callSpecial?_slot (name := Str.ofString "__next__") ty F.slot_zip_next (wpAny_call_entry F.slot_zip_next ty F.entry_zip_next (nextS_item ap az pI pO t1 t2 u1 u2 hx hy ?_) (F.args_zip_next_1 _))))
  intro h' a1 a2 a3 a4 a5 a6 a7
  exact wpAny_pure (hQ h' a1 a2 a3 a4 a5 a6 a7)
theorem pyNextS_end {zz TI TO i1 i2 l1 l2 : Addr} {k1 k2 : Nat} {xs ys : Array Value} {a b : Value} {Q : Option Value → Shared → Prop} (hh : A.handled = none) (ap : ZipApart zz TI TO i1 i2 l1 l2) (az : ZipS s.heap zz TI TO .none) (pI : IsPair s.heap TI (.ref i1) (.ref i2)) (pO : IsPair s.heap TO a b)
    (t1 : s.heap.IsTupleIter i1 l1 k1) (t2 : s.heap.IsTupleIter i2 l2 k2) (u1 : s.heap.IsTuple l1 xs) (u2 : s.heap.IsTuple l2 ys) (hx : xs[k1]? = none) (hy : ys[k2]? = none)
    (hQ : ∀ h', (∀ c o, c ≠ zz → c ≠ TO → c ≠ i1 → c ≠ i2 → s.heap.get? c = some o → h'.get? c = some o) → Q none { s with heap := h' }) : wpAny (model prog w) A (pyNext (.ref zz)) Q E s := by
  have ty : s.TypeIs (.ref zz) "zip" := ⟨_, az, rfl⟩
  unfold pyNext
  refine wpAny_bind (wpAny_attempt (wpAny_callSpecial?_slot (name := Str.ofString "__next__") ty F.slot_zip_next (wpAny_call_entry F.slot_zip_next ty F.entry_zip_next (nextS_end hh ap az pI pO t1 t2 u1 u2 hx hy ?_) (F.args_zip_next_1 _))))
  intro h' e hk he
  obtain ⟨o, ho, hc⟩ := he
  refine wpAny_bind (wpAny_isInstance (T := "StopIteration") (b := true) ⟨o, ho, hc⟩ isSubtype_stop ?_)
  exact wpAny_pure (hQ _ hk)
theorem goS {elts : List Expr} {x1 : Nat} {pos : Pos} {zz TI TO T : Addr} {Q : Unit → Shared → Prop} (az : ZipS s.heap zz TI TO (rawInt T)) (hQ : ∀ h', ZipS h' zz TI TO .none → Heap.SameBut zz s.heap h' → Q () { s with heap := h' }) :
    wpAny (model prog w) A (letOwnedTupleGo (.Tuple elts x1 pos) (.ref zz) (.ref T)) Q E s := by
  unfold letOwnedTupleGo
  refine wpAny_bind (wpAny_load az ?_)
  show wpAny _ _ (if (["enumerate", "zip", "dict_itemiterator", "dict_reverseitemiterator", "odict_iterator", "itertools.zip_longest", "itertools.pairwise"].contains "zip" && (#[rawInt T, .bool false, .bool true, .ref TI, .ref TO] : Array Value)[0]? == some (rawInt T)) = true then _ else _) Q E s
  rw [if_pos (by simp)]
  refine wpAny_bind (wpAny_rule ?_)
  show wpAny _ _ (setField (.ref zz) 0 .none) Q E s
  refine wpAny_setField_rec az (by simp) ?_
  intro h' a1 a2
  exact hQ h' a1 a2
theorem iterS {zz TI TO : Addr} {f0 : Value} {Q : Value → Shared → Prop} (az : ZipS s.heap zz TI TO f0) (h : Q (.ref zz) s) : wpAny (model prog w) A (pyIter (.ref zz)) Q E s := by
  have ty : s.TypeIs (.ref zz) "zip" := ⟨_, az, rfl⟩
  refine wpAny_pyIter_slot ty F.slot_zip_iter (wpAny_call_entry F.slot_zip_iter ty F.entry_zip_iter ?_ (F.args_zip_iter_1 _))
  show wpAny _ _ (ret (.ref zz)) _ _ s
  exact wpAny_pure ⟨_, rfl, "zip", _, ty, F.slot_zip_next.lookup, h⟩
/-- the heap behind zip(a, b, strict=True) -/
abbrev hp5 (h : Heap) (l1 l2 : Addr) : Heap := (zipTH4 h l1 l2).push { cls := .type "zip", data := .fields #[.none, .bool false, .bool true, .ref (zipTH2 h l1 l2).objs.size, .ref (zipTH3 h l1 l2).objs.size] }
theorem meetsS (l1 l2 : Addr) (xs ys : Array Value) : Meets (Builtin.«zip.__new__» ⟨[.type "zip", .ref l1, .ref l2], [("strict", .bool true)]⟩) (fun _ R s => s.heap.IsTuple l1 xs ∧ s.heap.IsTuple l2 ys ∧ R (.ok (.ret (.ref (zipTH4 s.heap l1 l2).objs.size))) { s with heap := hp5 s.heap l1 l2 }) := by
  refine .of_wp ?_
  intro prog w A R s h
  obtain ⟨hp, g, d, tk, os⟩ := s
  obtain ⟨hl1, hl2, h⟩ := h
  have sb := sub_zip
  have hL1 : Heap.IsTuple (Shared.heap ⟨hp, g, d, tk, os⟩) l1 xs := hl1
  have hL2 : Heap.IsTuple (Shared.heap ⟨hp.push { cls := .type "tuple_iterator", data := .fields #[.ref l1, .int 0 0] }, g, d, tk, os⟩) l2 ys := Heap.IsTuple.push hl2 _
  wp_walk using wpAny_pyIter_tuple hL1, wpAny_pyIter_tuple hL2
  exact ⟨_, rfl, h⟩
theorem tcS (a b : Value) : checkTypeCall "zip" ⟨[a, b], [("strict", .bool true)]⟩ = pure () := by kernel_rfl
theorem ncS (a b : Value) : checkBuiltinCall "zip.__new__" ⟨[.type "zip", a, b], [("strict", .bool true)]⟩ = pure () := by kernel_rfl
abbrev kwS : List (Str × Value) := [("strict", .bool true)]
theorem argsS (o a b : Value) : argsOk "object.__init__" ⟨[o, a, b], kwS⟩ := by
  unfold argsOk
  rw [signature?_of (id := "object.__init__") (n := ['_', '_', 't', 'i', 'n', 'i', '_', '_']) (o := ['t', 'c', 'e', 'j', 'b', 'o']) (by kernel_rfl) F.owner_object]
  kernel_rfl
theorem initS {self a : Value} {rest : List Value} (hl : typeLookup (.type "zip") "__init__" = pure (some (.builtin "object.__init__"))) (hm : Bind.madeBy (.type "zip") = pure (some "zip.__new__")) :
    Meets (Builtin.«object.__init__» ⟨self :: a :: rest, kwS⟩) (fun _ R s => s.TypeIs self "zip" ∧ R (.ok (.ret .none)) s) := by
  refine Meets.of_wp ?_
  intro prog w A R s hs
  obtain ⟨hT, hq⟩ := hs
  have hne : (some "zip.__new__" != some "object.__new__") = true := by decide
  repeat (any_goals (first
    | assumption
    | wp_step))
  exact ⟨_, rfl, hq⟩
theorem callS {l1 l2 : Addr} {xs ys : Array Value} {Q : Value → Shared → Prop} (u1 : s.heap.IsTuple l1 xs) (u2 : s.heap.IsTuple l2 ys) (h : (⟨hp5 s.heap l1 l2, s.gens, s.drawn, s.toks, s.os⟩ : Shared).TypeIs (.ref (zipTH4 s.heap l1 l2).objs.size) "zip" → Q (.ref (zipTH4 s.heap l1 l2).objs.size) { s with heap := hp5 s.heap l1 l2 }) :
    wpAny (model prog w) A (call (.type "zip") [.ref l1, .ref l2] kwS) Q E s := by
  have ft := F.called_zip
  obtain ⟨c, tl, hmro⟩ := ft.mro
  have hmade := ft.made
  have hsub := ft.sub
  refine wpAny_call (codeAny_of_tree ?_)
  show wpAny _ _ (callAny (.type "zip") _) _ _ _
  refine wpAny_pure ⟨Code.quiet_builtin _ (by decide +kernel), codeAny_builtin F.entry_type_call ?_⟩
  rw [Around.under_plain (weight_type_call_type "zip" [.ref l1, .ref l2] kwS) (units_type_call_type "zip" [.ref l1, .ref l2] kwS)]
  have n1 := ft.notType
  have n2 := ft.canCreate
  have c1 := tcS (.ref l1) (.ref l2)
  repeat (any_goals (first
    | assumption
    | wp_step))
  have tz : (⟨hp5 s.heap l1 l2, s.gens, s.drawn, s.toks, s.os⟩ : Shared).TypeIs (.ref (zipTH4 s.heap l1 l2).objs.size) "zip" := ⟨_, Heap.get?_push_size _ rfl, rfl⟩
  have made := meetsS l1 l2 xs ys prog w A.in1 (wants (fun obj s1 => obj = .ref (zipTH4 s.heap l1 l2).objs.size ∧ s1 = { s with heap := hp5 s.heap l1 l2 }) E) s ⟨u1, u2, ⟨rfl, rfl⟩⟩
  refine codeAny_mono (codeAny_call_builtin ft.plain F.entry_zip_new (wpAny_of_eq (ncS (.ref l1) (.ref l2)) made)) ?_
  intro r s1 hr
  cases r with
  | error e => exact hr
  | ok fl =>
    cases fl with
    | ret obj =>
      obtain ⟨rfl, rfl⟩ := hr
      have lk := ft.init.lookup
      have bd := ft.init.bind (.ref (zipTH4 s.heap l1 l2).objs.size)
      repeat (any_goals (first
        | assumption
        | wp_step))
      refine codeAny_mono (codeAny_call_builtin ft.init.plain F.entry_object_init (ft.init.check _ _ _ _ _ _ _ _ tz (argsS _ _ _) (initS lk hmade prog w A.in1 (wants (fun r s2 => r = .none ∧ s2 = { s with heap := hp5 s.heap l1 l2 }) E) _ ⟨tz, ⟨rfl, rfl⟩⟩))) ?_
      intro r2 s2 hr2
      cases r2 with
      | error e => exact hr2
      | ok fl2 =>
        cases fl2 with
        | ret r =>
          obtain ⟨rfl, rfl⟩ := hr2
          have hq := h tz
          repeat (any_goals (first
            | assumption
            | wp_step))
        | _ => exact hr2.elim
    | _ => exact hr.elim
end
end DLZ
namespace DLZ
open PySem PySem.Spec PyProof.Rows L2 RZ
/-- as ItzT; they end together -/
def ItzS (K : PySem.W.Frag) (a b : Addr) : It :=
  ⟨(ItzT K a b).go, (ItzT K a b).yld, fun i H => ∃ xs ys : List V, SqT K H a xs ∧ SqT K H b ys ∧ xs.length ≤ i ∧ ys.length ≤ i⟩
theorem turnS {P : Program} {w : World} {K : PySem.W.Frag} {elts : List Expr} {kk : Nat} {tpos : Pos} {a b zz TI TO i1 i2 : Addr} (ap : ZipApart zz TI TO i1 i2 a b) :
    Turn P w K (.Tuple elts kk tpos) (ItzS K a b) [zz, TI, TO, i1, i2] zz (fun i h => ZipS h zz TI TO .none ∧ IsPair h TI (.ref i1) (.ref i2) ∧ (∃ x y, IsPair h TO x y) ∧ h.IsTupleIter i1 a i ∧ h.IsTupleIter i2 b i) where
  mem := by simp
  obj := by
    rintro i h ⟨az, pI, ⟨x, y, pO⟩, ⟨o1, e1, _, d1⟩, ⟨o2, e2, _, d2⟩⟩ c hc
    simp only [List.mem_cons, List.not_mem_nil, or_false] at hc
    rcases hc with rfl | rfl | rfl | rfl | rfl
    · exact ⟨_, az, fun v q => nomatch q⟩
    · exact ⟨_, pI, fun v q => nomatch q⟩
    · exact ⟨_, pO, fun v q => nomatch q⟩
    · exact ⟨o1, e1, fun v q => by rw [d1] at q; cases q⟩
    · exact ⟨o2, e2, fun v q => by rw [d2] at q; cases q⟩
  keep := by
    rintro i h h' ⟨az, pI, ⟨x, y, pO⟩, v1, v2⟩ k
    exact ⟨k zz (by simp) _ az, k TI (by simp) _ pI, ⟨x, y, k TO (by simp) _ pO⟩, v1.at fun o q => k i1 (by simp) o q, v2.at fun o q => k i2 (by simp) o q⟩
  item := by
    intro X hP hw hK hc i pins s σ H E I hf st hg
    subst hP hw hK
    obtain ⟨az, pI, ⟨x0, y0, pO⟩, v1, v2⟩ := st
    obtain ⟨xs, ys, x, y, hqx, hqy, hx, hy⟩ := hg
    obtain ⟨its, rv, p, _⟩ := I.tuple hqx
    obtain ⟨its2, rv2, p2, _⟩ := I.tuple hqy
    obtain ⟨u, hu, ru⟩ := rv.get hx
    obtain ⟨u2, hu2, ru2⟩ := rv2.get hy
    have zl : zz < s.heap.objs.size := Heap.lt_size az
    refine pyNextS_item ap az pI pO v1 v2 p p2 (x := u) (y := u2) (by simpa using hu) (by simpa using hu2) ?_
    intro h' z' TO' h1' h2' hT hsz hk
    refine ⟨_, rfl, goS (s := { s with heap := h' }) z' ?_⟩
    intro h'' z'' sb
    have T2 : h''.get? s.heap.objs.size = some { cls := .type "tuple", data := .seq #[u, u2] } := (sb.2 _ (Nat.ne_of_gt zl)).trans hT
    have new : ObjOk X.prog X.w (upd H s.heap.objs.size (.tup [x, y])) h'' s.heap.objs.size (.tup [x, y]) := ⟨by show 2 ≤ sizeLine; decide, [u, u2], .cons ru (.cons ru2 .nil), ⟨_, T2, rfl, _, rfl⟩⟩
    have I1 : Inv X pins σ (upd H s.heap.objs.size (.tup [x, y])) { s with heap := h'' } := I.turnedNew (t' := s.toks) (ch := [zz, TI, TO, i1, i2])
      (fun c o hb q => (sb.2 c (fun q' => hb (by simp [q']))).trans (hk c o (fun q' => hb (by simp [q'])) (fun q' => hb (by simp [q'])) (fun q' => hb (by simp [q'])) (fun q' => hb (by simp [q'])) q)) hf (Nat.le_refl _) new
    refine ⟨.ref s.heap.objs.size, _, I1, rfl, ⟨_, x, y, rfl, I.hok.fresh (Nat.le_refl _), rfl, fun l hl => by rw [I.tuple_inj hl hqx]; exact hx, fun l hl => by rw [I.tuple_inj hl hqy]; exact hy⟩, ⟨z'', ?_, ⟨u, u2, ?_⟩, ?_, ?_⟩, ?_⟩
    · exact (sb.2 _ ap.TIz).trans (hk _ _ ap.TIz ap.TITO ap.TIi1 ap.TIi2 pI)
    · exact (sb.2 _ ap.TOz).trans TO'
    · exact h1'.at fun o q => (sb.2 _ ap.i1z).trans q
    · exact h2'.at fun o q => (sb.2 _ ap.i2z).trans q
    · intro c hcm
      have lt : c < s.heap.objs.size := by
        have hc := hcm
        simp only [List.mem_cons, List.not_mem_nil, or_false] at hc
        rcases hc with rfl | rfl | rfl | rfl | rfl
        · exact zl
        · exact Heap.lt_size pI
        · exact Heap.lt_size pO
        · obtain ⟨_, e1, _⟩ := v1; exact Heap.lt_size e1
        · obtain ⟨_, e2, _⟩ := v2; exact Heap.lt_size e2
      rw [upd_ne (Nat.ne_of_lt lt)]
      exact (hf c hcm).1
  done := by
    intro X hP hw hK hc i pins s σ H E I hf st hg
    subst hP hw hK
    obtain ⟨az, pI, ⟨x0, y0, pO⟩, v1, v2⟩ := st
    obtain ⟨xs, ys, hqx, hqy, g1, g2⟩ := hg
    obtain ⟨its, rv, p, _⟩ := I.tuple hqx
    obtain ⟨its2, rv2, p2, _⟩ := I.tuple hqy
    have l1 := rv.length
    have l2 := rv2.length
    refine pyNextS_end (I.ok.hd hc) ap az pI pO v1 v2 p p2 (by simp; omega) (by simp; omega) ?_
    intro h' hk
    exact ⟨rfl, I.turnedL (t' := s.toks) (ch := [zz, TI, TO, i1, i2]) (fun c o hb q => hk c o (fun q' => hb (by simp [q'])) (fun q' => hb (by simp [q'])) (fun q' => hb (by simp [q'])) (fun q' => hb (by simp [q'])) q) hf⟩
  self := fun A i s Q E st h => iterS st.1 h
end DLZ
namespace DLZ
open PySem PySem.Spec PyProof.Rows L2 RZ
theorem cwType {M : Model} {A : Around} {E : Value → Shared → Prop} {s : Shared} {pos : Pos} {T : String} {first : List Value} {args : List (Bool × Sem Value)} {kws : List (Option Str × Sem Value)} {Q : Value → Shared → Prop} (hpl : args.any (·.1) = false) (hnone : kws.any (·.1.isNone) = false)
    (h : wpAny M A (evalArgs (.type T) true args kws) (fun a s1 => wpAny M A (call (.type T) (first ++ a.pos) a.kw) Q E s1) E s) : wpAny M A (callWith pos (.type T) first args kws) Q E s := by
  unfold callWith
  refine wpAny_bind (wpAny_holding (wpAny_mono h ?_ fun _ _ x => x))
  intro a s1 h1
  refine wpAny_bind (wpAny_standAt ?_)
  simp only [hpl, hnone, Bool.or_false]
  refine wpAny_bind (wpAny_pure ?_)
  refine wpAny_bind (wpAny_mono h1 ?_ fun _ _ x => x)
  intro r s2 hr
  exact wpAny_bind (wpAny_holding (wpAny_point (wpAny_pure hr)))
theorem hp5_at (h : Heap) (l1 l2 : Addr) : (zipTH4 h l1 l2).objs.size = h.objs.size + 4 ∧ ZipS (hp5 h l1 l2) (h.objs.size + 4) (h.objs.size + 2) (h.objs.size + 3) .none ∧ IsPair (hp5 h l1 l2) (h.objs.size + 2) (.ref h.objs.size) (.ref (h.objs.size + 1)) ∧ IsPair (hp5 h l1 l2) (h.objs.size + 3) .none .none ∧
    (hp5 h l1 l2).IsTupleIter h.objs.size l1 0 ∧ (hp5 h l1 l2).IsTupleIter (h.objs.size + 1) l2 0 ∧ ∀ c o, h.get? c = some o → (hp5 h l1 l2).get? c = some o := by
  have z1 : (zipTH1 h l1).objs.size = h.objs.size + 1 := Heap.size_push ..
  have z2 : (zipTH2 h l1 l2).objs.size = h.objs.size + 2 := by rw [Heap.size_push, z1]
  have z3 : (zipTH3 h l1 l2).objs.size = h.objs.size + 3 := by rw [Heap.size_push, z2]
  have z4 : (zipTH4 h l1 l2).objs.size = h.objs.size + 4 := by rw [Heap.size_push, z3]
  have g5 : (hp5 h l1 l2).get? (zipTH4 h l1 l2).objs.size = some _ := Heap.get?_push_size _ rfl
  have g4 : (hp5 h l1 l2).get? (zipTH3 h l1 l2).objs.size = some _ := Heap.get?_push_of_some _ (Heap.get?_push_size _ rfl)
  have g3 : (hp5 h l1 l2).get? (zipTH2 h l1 l2).objs.size = some _ := Heap.get?_push_of_some _ (Heap.get?_push_of_some _ (Heap.get?_push_size _ rfl))
  have g2 : (hp5 h l1 l2).get? (zipTH1 h l1).objs.size = some _ := Heap.get?_push_of_some _ (Heap.get?_push_of_some _ (Heap.get?_push_of_some _ (Heap.get?_push_size _ rfl)))
  have g1 : (hp5 h l1 l2).get? h.objs.size = some _ := Heap.get?_push_of_some _ (Heap.get?_push_of_some _ (Heap.get?_push_of_some _ (Heap.get?_push_of_some _ (Heap.get?_push_size _ rfl))))
  rw [z2, z3, z4] at g5
  rw [z3] at g4
  rw [z1, z2] at g3
  rw [z1] at g2
  refine ⟨z4, g5, g3, g4, ⟨_, g1, rfl, rfl⟩, ⟨_, g2, rfl, rfl⟩, ?_⟩
  intro c o e
  exact Heap.get?_push_of_some _ (Heap.get?_push_of_some _ (Heap.get?_push_of_some _ (Heap.get?_push_of_some _ (Heap.get?_push_of_some _ e))))
def iZipS (K : PySem.W.Frag) (ta tk : TA) : TI := fun σ H R => ta σ H fun vs H1 => tk σ H1 fun zs H2 => ∃ a b xs ys, vs = [.ref a, .ref b] ∧ zs = [.bl true] ∧ SqT K H2 a xs ∧ SqT K H2 b ys ∧ R (ItzS K a b) H2
theorem pi_zipS {X : Cx} {e e2 : Expr} {kws : List Keyword} {ta tk : TA} {p pos tpos : Pos} {elts : List Expr} {kk : Nat} (hg : Gl X "zip") (hm : X.mg "zip" = none) (ha : PA X [e, e2] ta) (hk : PK X kws tk)
    (hs : backTo pos (starEach [e, e2] X.env) = (false, eval e X.env) :: backTo pos (starEach [e2] X.env) := by rfl) (hpl : (backTo pos (starEach [e, e2] X.env)).any (·.1) = false := by rfl)
    (hall : (backToKw pos (keywordEach kws X.env)).all (·.1.isSome) = true := by rfl) (hnone : (backToKw pos (keywordEach kws X.env)).any (·.1.isNone) = false := by rfl) (hks : (backToKw pos (keywordEach kws X.env)).filterMap (·.1) = (["strict"] : List Str) := by rfl) :
    PI X (.Tuple elts kk tpos) (.Call (.Name "zip" p) [e, e2] kws pos) (iZipS X.K ta tk) := by
  refine ⟨fun pins s σ H R I h => ?_⟩
  refine wpAny_Call_Name_kw (ld_blt I hg hm PyProof.Rows.boot_zip ?_)
  refine cwType hpl hnone ?_
  rw [hs]
  refine evalArgs_kw hall ?_
  rw [← hs]
  refine thn (ha.run pos pins s σ H _ I h) ?_
  intro us s1 z1
  obtain ⟨vs, H1, I1, r1, q1⟩ := z1
  refine thn (hk.run pos pins s1 σ H1 _ I1 q1) ?_
  intro ws s2 z2
  obtain ⟨zs, H2, I2, r2, a, b, xs, ys, rfl, rfl, hqx, hqy, q⟩ := z2
  rw [hks]
  cases r1 with
  | cons ra rr =>
    cases rr with
    | cons rb rr =>
      cases rr
      cases ra
      cases rb
      cases r2 with
      | cons rt rr =>
        cases rr
        cases rt
        have fresh5 : ∀ c, c ∈ [s2.heap.objs.size + 4, s2.heap.objs.size + 2, s2.heap.objs.size + 3, s2.heap.objs.size, s2.heap.objs.size + 1] → FpOk X pins H2 c := by
          intro c hcm
          have hle : s2.heap.objs.size ≤ c := by
            simp only [List.mem_cons, List.not_mem_nil, or_false] at hcm
            omega
          exact I2.fpOk hle (I2.hok.fresh hle)
        obtain ⟨its, rv, p1, _⟩ := I2.tuple hqx
        obtain ⟨its2, rv2, p2, _⟩ := I2.tuple hqy
        obtain ⟨o1, ho1, _⟩ := id p1
        obtain ⟨o2, ho2, _⟩ := id p2
        refine callS (show s2.heap.IsTuple a its.toArray from p1) (show s2.heap.IsTuple b its2.toArray from p2) ?_
        intro tz
        obtain ⟨f0, f1, f2, f3, f4, f5, f6⟩ := hp5_at s2.heap a b
        rw [f0]
        refine iterS f1 ?_
        have I3 : Inv X pins σ H2 { s2 with heap := hp5 s2.heap a b } := I2.kept (t' := s2.toks) f6
        exact ⟨s2.heap.objs.size + 4, [s2.heap.objs.size + 4, s2.heap.objs.size + 2, s2.heap.objs.size + 3, s2.heap.objs.size, s2.heap.objs.size + 1], _, _, H2, rfl, I3, turnS (PySem.W.ktu_apart s2.heap.objs.size a b (Heap.lt_size ho1) (Heap.lt_size ho2)), ⟨f1, f2, ⟨_, _, f3⟩, f4, f5⟩, fresh5, q⟩
end DLZ
/-! DNa: zip(a, b, strict=True) over data; makings by keywords that may raise. -/
namespace DL
open PySem PySem.Spec PyProof.Rows L2
open DLZ (ItzS iZipS pi_zipS)
theorem iterD_zipS {K : PySem.W.Frag} {G : Hp} {a b : Addr} {vs us : List V} {xs ys : List D} (hl : xs.length = ys.length) (h1 : SqT K G a vs) (r1 : DatAll K G vs xs) (h2 : SqT K G b us) (r2 : DatAll K G us ys) : IterD K (ItzS K a b) (zipD xs ys) (fun _ => True) G := by
  intro G' C' H' e w hP
  have q1 : SqT K H' a vs := Same.sqT w.ex (Same.sqT e h1)
  have q2 : SqT K H' b us := Same.sqT w.ex (Same.sqT e h2)
  obtain ⟨i1, _⟩ := iterD_zipT hl h1 r1 h2 r2 G' C' H' e w hP
  refine ⟨i1, fun i hi => ⟨vs, us, q1, q2, ?_, ?_⟩⟩
  · rw [r1.length]; rwa [zipD_len hl] at hi
  · rw [r2.length, ← hl]; rwa [zipD_len hl] at hi
section
variable {X : Cx} {a b : Expr} {ts : List Expr} {kws : List Keyword} {env : DEnv} {C : CS} {kI : KI} {pos p tpos : Pos} {n m : Nat} {P : Program} {w : World} {K : PySem.W.Frag} {mg : Str → Option Value} {base : Heap}
theorem wi_zipS (hx : Ctx P w K mg base m X) (Z : Zs mg) (hg : Gl X "zip") (h : WA X [a, b] env C fun ds C1 => WK X kws env C1 fun zs C2 => ∃ xs ys, ds = [.tup xs, .tup ys] ∧ zs = [.bl true] ∧ xs.length = ys.length ∧ kI (zipD xs ys) (fun _ => True) C2)
    (hs : backTo pos (starEach [a, b] X.env) = (false, eval a X.env) :: backTo pos (starEach [b] X.env) := by rfl) (hpl : (backTo pos (starEach [a, b] X.env)).any (·.1) = false := by rfl)
    (hall : (backToKw pos (keywordEach kws X.env)).all (·.1.isSome) = true := by rfl) (hnone : (backToKw pos (keywordEach kws X.env)).any (·.1.isNone) = false := by rfl)
    (hks : (backToKw pos (keywordEach kws X.env)).filterMap (·.1) = (["strict"] : List Str) := by rfl) : WI X (.Tuple ts n tpos) (.Call (.Name "zip" p) [a, b] kws pos) env C kI := by
  refine ⟨_, pi_zipS hg (hx.zs Z).zip pa_tAr pk_tKr hs hpl hall hnone hks, fun G σ H R w er q => h G σ H _ w er fun v G1 C1 H1 ds f1 w1 r1 z => ?_⟩
  refine z G1 σ H1 _ w1 (er.mono f1.exG) fun zs G2 C2 H2 es2 f2 w2 r2 z2 => ?_
  obtain ⟨xs, ys, rfl, rfl, hl, z2⟩ := z2
  cases r2 with
  | cons r2 r3 =>
    cases r2
    cases r3
    cases r1 with
    | cons r1 r2 =>
      cases r2 with
      | cons r2 r3 =>
        cases r3
        cases r1 with
        | tup x1 x2 =>
          cases r2 with
          | tup y1 y2 =>
            exact ⟨_, _, _, _, rfl, rfl, Same.sqT w2.ex (Same.sqT f2.exG x1), Same.sqT w2.ex (Same.sqT f2.exG y1), q _ _ _ _ _ _ (f1.trans f2) w2 (iterD_zipS hl (Same.sqT f2.exG x1) (x2.mono f2.exG) (Same.sqT f2.exG y1) (y2.mono f2.exG)) z2⟩
end
section
variable {X : Cx} {n np : Nat} {fa Ca : Addr} {fd : FuncData} {ps ks : List Str} {sp : Sp} {W : WX} {x : Str} {pos p : Pos} {kws : List Keyword} {tk : TA} {g : List Value → List Value → List Value} {gV : List V → List V → List V}
theorem makeXK {pins : List (Addr × Obj)} {σ : L2.St} {H : Hp} {s : Shared} {Q : VK} {us ws : List Value} {vs zs : List V} (M : Mk X.K Ca fa) (F : FnG X.prog X.w X.K X.mg X.base (L2.CX X.prog X.w) n fa fd ps sp) (hgd : X.A.guards = some []) (hr : Room (n + 1) X.A) (hb : KBn X.K fd ps (np + 1) ks g gV)
    (tkW : Takes X W) (I : Inv X pins σ H s) (r : Vals vs us) (rz : Vals zs ws) (l1 : vs.length = np) (l2 : zs.length = ks.length)
    (h : ∀ x dx, H x = none → H dx = none → dx ≠ x → sp (gV (.ref x :: vs) zs) (upd (upd H dx (.own x)) x (.ins Ca dx [])) (fun v H2 => v = .non ∧ Q (.ref x) H2) (fun cls od H' => W cls od σ H')) :
    wpAny (model X.prog X.w) X.A (call (.ref Ca) us (ks.zip ws)) (EP X pins σ Q) X.xe s := by
  have hq := h (s.heap.objs.size + 1) s.heap.objs.size (I.hok.fresh (Nat.le_succ _)) (I.hok.fresh (Nat.le_refl _)) (Nat.ne_of_lt (Nat.lt_succ_self _))
  have I2 := Inv.made (C := Ca) I
  have r1 : Vals (V.ref (s.heap.objs.size + 1) :: vs) (Value.ref (s.heap.objs.size + 1) :: us) := .cons rfl r
  have r2 := hb.rel r1 rz
  have n1 : (Value.ref (s.heap.objs.size + 1) :: us).length = np + 1 := by
    rw [List.length_cons, ← r.length, l1]
  refine wpAny_call (make_map (f := fa) I.kIn M.makes M.init (beq_iff_eq.mp M.fn) (codeAny_mono (F.run (by exact hgd) (hr.make Ca us (ks.zip ws)) (I2.env0.make Ca us (ks.zip ws)) (hb.to _ (Value.ref (s.heap.objs.size + 1) :: us) ws I2.kIn n1 (rz.length.symm.trans l2)) r2 hq) fun r s' hq' => ?_))
  cases r with
  | error e => exact passAt tkW σ pins _ _ e s' I2 hq'
  | ok fl =>
    cases fl with
    | ret u =>
      obtain ⟨v, H', I3, rv, ev, q3⟩ := I2.after hq'
      subst ev
      exact ⟨rv, ⟨V.ref (s.heap.objs.size + 1), H', I3, rfl, q3⟩⟩
    | next => exact False.elim hq'
    | brk => exact False.elim hq'
    | cont => exact False.elim hq'
def tMakeXK (Ca : Addr) (nk : Nat) (sp : Sp) (gV : List V → List V → List V) (W : WX) (tk : TA) : TE := fun σ H Q => tk σ H fun zs H2 => zs.length = nk ∧ ∀ x dx, H2 x = none → H2 dx = none → dx ≠ x → sp (gV [.ref x] zs) (upd (upd H2 dx (.own x)) x (.ins Ca dx [])) (fun v H3 => v = .non ∧ Q (.ref x) H3) (fun cls od H' => W cls od σ H')
theorem pe_makeXK0 (M : Mk X.K Ca fa) (F : FnG X.prog X.w X.K X.mg X.base (L2.CX X.prog X.w) n fa fd ps sp) (hgd : X.A.guards = some []) (hr : Room (n + 1) X.A) (hg : Gl X x) (hm : X.mg x = some (.ref Ca)) (hb : KBn X.K fd ps 1 ks g gV) (tkW : Takes X W) (hkw : PK X kws tk)
    (hall : (backToKw pos (keywordEach kws X.env)).all (·.1.isSome) = true := by rfl) (hks : (backToKw pos (keywordEach kws X.env)).filterMap (·.1) = ks := by rfl) (hdb : (x == ("__debug__" : Str)) = false := by decide)
    (hpl : ((backTo pos (starEach [] X.env)).any (·.1) || (backToKw pos (keywordEach kws X.env)).any (·.1.isNone)) = false := by rfl) :
    PE X (.Call (.Name x p) [] kws pos) (tMakeXK Ca ks.length sp gV W tk) := by
  refine ⟨fun pins s σ H Q I h => ?_⟩
  refine wpAny_Call_Name_kw (ld_glob I hg hm ?_ hdb)
  refine PySem.W.callWith_KW0 (h₀ := X.base) I.ok.mod.kin M.kp hall ?_ hpl
  refine thn (hkw.run pos pins s σ H _ I h) fun ws s2 ⟨zs, H2, I2, rz, l2, q2⟩ => ⟨I2.kIn, ?_⟩
  rw [hks]
  exact makeXK (us := []) (vs := []) M F hgd hr hb tkW I2 .nil rz rfl l2 q2
end
def MakKX (P : Program) (w : World) (K : PySem.W.Frag) (mg : Str → Option Value) (base : Heap) (x : Str) (Cl : Addr) (n np : Nat) (ks : List Str) (gD : List D → List D → List D) (S : DSpX) : Prop := mg x = some (.ref Cl) ∧ ∃ f, Mk K Cl f ∧ FnKX P w K mg base f n (np + 1) ks gD S
section
variable {P : Program} {w : World} {K : PySem.W.Frag} {mg : Str → Option Value} {base : Heap} {j n : Nat} {X : Cx} {A : Anc} {Cl : Addr} {x : Str} {S : DSpX} {gD : List D → List D → List D} {ks : List Str} {kws : List Keyword} {env : DEnv} {C : CS} {k : KD} {kx : DEnv → KX} {pos p : Pos}
theorem weA_makeXK0 (hx : Ctx P w K mg base j X) (hM : MakKX P w K mg base x Cl n 0 ks gD S) (T : Thr X A kx) (hg : Gl X x) (h : WK X.nox kws env C fun zs C2 => zs.length = ks.length ∧ ∀ a, C2 a = none → S (gD [.own a] zs) (put C2 a (.ins Cl [] [])) (fun d C3 => d = .non ∧ k (.own a) C3) (kx env)) (hle : n + 1 ≤ j := by decide)
    (hall : (backToKw pos (keywordEach kws X.env)).all (·.1.isSome) = true := by rfl) (hks : (backToKw pos (keywordEach kws X.env)).filterMap (·.1) = ks := by rfl) (hdb : (x == ("__debug__" : Str)) = false := by decide)
    (hpl : ((backTo pos (starEach [] X.env)).any (·.1) || (backToKw pos (keywordEach kws X.env)).any (·.1.isNone)) = false := by rfl) : WEA X A (.Call (.Name x p) [] kws pos) env C k := by
  obtain ⟨hmg, fa, hm, fd, ps, g, gV, F, hb, hdat⟩ := hM
  have hroom := hx.room
  obtain ⟨e1, e2, e3, e4, e5, _, hgd, hcalm⟩ := hx
  subst e1 e2 e3 e4 e5
  obtain ⟨W, tk, hW⟩ := T
  intro G σ H Q w er fr q pins s I
  refine (pe_makeXK0 hm F hgd (hroom.mono hle) hg hmg hb tk (PK.nox pk_tKr) hall hks hdb hpl).run pins s σ H Q I ?_
  refine h G σ H _ w er fun zs G2 C2 H2 es2 f2 w2 r2 zz => ⟨r2.length.trans zz.1, fun a dx ha hdx hne => ?_⟩
  obtain ⟨w3, f3⟩ := made_ok (Cl := Cl) w2 ha hdx hne
  refine spX_ok (ds := gD [.own a] es2) (k := fun d C2 => d = .non ∧ k (.own a) C2) hW (fr.trans (f2.trans f3)) w3 (er.mono (f2.trans f3).exG) (hdat _ _ _ _ _ (.cons (.own a) .nil) (r2.mono f3.exG) rfl zz.1) ?_ (zz.2 a (w2.ne ha).2)
  rintro v G2 C2 H2 d f2' w2 r2 ⟨rfl, zk⟩
  cases r2
  exact ⟨rfl, q _ _ _ _ _ ((f2.trans f3).trans f2') w2 (.own a) zk⟩
end
end DL
/-! DNb: a tuple many times over. -/
namespace DL
open PySem PySem.Spec PyProof.Rows L2
def dMulT : OpD := fun x y C k => ∃ xs n, x = .tup xs ∧ y = .int n ∧ xs ≠ [] ∧ 2 ≤ n ∧ n ≤ 1000 ∧ xs.length ≤ 1000 ∧ k (.tup (List.replicate n.toNat xs).flatten) C
theorem r2_mulT {K : PySem.W.Frag} : R2D K (rRepT K) dMulT := by
  rintro x y a b G C H k Q w da db ⟨xs, n, rfl, rfl, h1, h2, h3, h4, h5⟩ q
  cases db
  cases da with
  | tup x1 x2 =>
    refine ⟨_, n, _, rfl, rfl, Same.sqT w.ex x1, fun e => h1 (List.eq_nil_of_length_eq_zero (by rw [← x2.length, e]; rfl)), h2, h3, by rw [x2.length]; exact h4, fun p hp => ?_⟩
    obtain ⟨w2, f2, s2⟩ := w.newG hp (.tup _)
    exact q _ _ _ _ _ f2 w2 (.tup (SqT.of upd_same) ((datAll_rep x2 _).mono s2)) h5
theorem x_mulT {X : Cx} {a b : Expr} {env : DEnv} {C : CS} {k : KD} {pos : Pos} (h : WE X a env C fun x C1 => WE X b env C1 fun y C2 => dMulT x y C2 k) : WE X (.BinOp a .Mult b pos) env C k := we_op op_repT r2_mulT h
end DL
namespace K31
open PySem L2 DL
def top (i : Nat) : Stmt := PySem.Challenge.pw_chainedreports_k39_styles_refused.main.body.getD i (.Pass ⟨0, 0, 0, 0⟩)

/-! _wall -/
/-! NoRecord.__init__ -/
/-! NoLimit.__init__ -/
abbrev s_NoLimit___init__ : Stmt := inClass (top 3) 0
abbrev N_NoLimit___init__ : List Str := ["self", "name"]
abbrev M_NoLimit___init__ : List Str := ["self", "name"]
abbrev P_NoLimit___init__ : List Str := ["self", "name"]
theorem sc_NoLimit___init__ : FnScope N_NoLimit___init__ P_NoLimit___init__ (defScope s_NoLimit___init__) := ⟨rfl, rfl, rfl, by decide +kernel, rfl, by decide +kernel, by decide +kernel⟩
theorem v_NoLimit___init__ : visC (defScope s_NoLimit___init__) M_NoLimit___init__ = true := by decide +kernel
abbrev D_NoLimit___init__ : List Str := ["ArithmeticError"]
theorem g_NoLimit___init__ : glC (defScope s_NoLimit___init__) D_NoLimit___init__ = true := by decide +kernel

/-! NoEntry.__init__ -/
/-! TooMany.__init__ -/
/-! BadReport.__init__ -/
/-! is_integer -/
abbrev s_is_integer : Stmt := top 16
abbrev N_is_integer : List Str := ["thing"]
abbrev M_is_integer : List Str := ["thing"]
abbrev P_is_integer : List Str := ["thing"]
theorem sc_is_integer : FnScope N_is_integer P_is_integer (defScope s_is_integer) := ⟨rfl, rfl, rfl, by decide +kernel, rfl, by decide +kernel, by decide +kernel⟩
theorem v_is_integer : visC (defScope s_is_integer) M_is_integer = true := by decide +kernel
theorem l_is_integer : locC (defScope s_is_integer) M_is_integer = true := by decide +kernel
abbrev D_is_integer : List Str := ["isinstance", "int", "bool"]
theorem g_is_integer : glC (defScope s_is_integer) D_is_integer = true := by decide +kernel

/-! in_range -/
abbrev s_in_range : Stmt := top 17
abbrev N_in_range : List Str := ["thing", "low", "high"]
abbrev M_in_range : List Str := ["thing", "low", "high"]
abbrev P_in_range : List Str := ["thing", "low", "high"]
theorem sc_in_range : FnScope N_in_range P_in_range (defScope s_in_range) := ⟨rfl, rfl, rfl, by decide +kernel, rfl, by decide +kernel, by decide +kernel⟩
theorem v_in_range : visC (defScope s_in_range) M_in_range = true := by decide +kernel
theorem l_in_range : locC (defScope s_in_range) M_in_range = true := by decide +kernel
abbrev D_in_range : List Str := ["is_integer"]
theorem g_in_range : glC (defScope s_in_range) D_in_range = true := by decide +kernel

/-! is_from -/
abbrev s_is_from : Stmt := top 18
abbrev N_is_from : List Str := ["thing", "low"]
abbrev M_is_from : List Str := ["thing", "low"]
abbrev P_is_from : List Str := ["thing", "low"]
theorem sc_is_from : FnScope N_is_from P_is_from (defScope s_is_from) := ⟨rfl, rfl, rfl, by decide +kernel, rfl, by decide +kernel, by decide +kernel⟩
theorem v_is_from : visC (defScope s_is_from) M_is_from = true := by decide +kernel
theorem l_is_from : locC (defScope s_is_from) M_is_from = true := by decide +kernel
abbrev D_is_from : List Str := ["is_integer"]
theorem g_is_from : glC (defScope s_is_from) D_is_from = true := by decide +kernel

/-! is_name -/
abbrev s_is_name : Stmt := top 19
abbrev N_is_name : List Str := ["thing", "sign"]
abbrev M_is_name : List Str := ["thing"]
abbrev P_is_name : List Str := ["thing"]
theorem sc_is_name : FnScope N_is_name P_is_name (defScope s_is_name) := ⟨rfl, rfl, rfl, by decide +kernel, rfl, by decide +kernel, by decide +kernel⟩
theorem v_is_name : visC (defScope s_is_name) M_is_name = true := by decide +kernel
theorem l_is_name : locC (defScope s_is_name) M_is_name = true := by decide +kernel
abbrev D_is_name : List Str := ["all", "isinstance", "str", "MOST_LETTERS", "len"]
theorem g_is_name : glC (defScope s_is_name) D_is_name = true := by decide +kernel
-- comprehension at 48: own ["sign"] reads ["sign", "thing"] globals ["LETTERS"]

/-! is_line -/
abbrev s_is_line : Stmt := top 20
abbrev N_is_line : List Str := ["thing"]
abbrev M_is_line : List Str := ["thing"]
abbrev P_is_line : List Str := ["thing"]
theorem sc_is_line : FnScope N_is_line P_is_line (defScope s_is_line) := ⟨rfl, rfl, rfl, by decide +kernel, rfl, by decide +kernel, by decide +kernel⟩
theorem v_is_line : visC (defScope s_is_line) M_is_line = true := by decide +kernel
theorem l_is_line : locC (defScope s_is_line) M_is_line = true := by decide +kernel
abbrev D_is_line : List Str := ["isinstance", "str", "FEED"]
theorem g_is_line : glC (defScope s_is_line) D_is_line = true := by decide +kernel

/-! is_text -/
abbrev s_is_text : Stmt := top 21
abbrev N_is_text : List Str := ["thing"]
abbrev M_is_text : List Str := ["thing"]
abbrev P_is_text : List Str := ["thing"]
theorem sc_is_text : FnScope N_is_text P_is_text (defScope s_is_text) := ⟨rfl, rfl, rfl, by decide +kernel, rfl, by decide +kernel, by decide +kernel⟩
theorem v_is_text : visC (defScope s_is_text) M_is_text = true := by decide +kernel
theorem l_is_text : locC (defScope s_is_text) M_is_text = true := by decide +kernel
abbrev D_is_text : List Str := ["isinstance", "str"]
theorem g_is_text : glC (defScope s_is_text) D_is_text = true := by decide +kernel

/-! is_shown -/
abbrev s_is_shown : Stmt := top 22
abbrev N_is_shown : List Str := ["thing"]
abbrev M_is_shown : List Str := ["thing"]
abbrev P_is_shown : List Str := ["thing"]
theorem sc_is_shown : FnScope N_is_shown P_is_shown (defScope s_is_shown) := ⟨rfl, rfl, rfl, by decide +kernel, rfl, by decide +kernel, by decide +kernel⟩
theorem v_is_shown : visC (defScope s_is_shown) M_is_shown = true := by decide +kernel
theorem l_is_shown : locC (defScope s_is_shown) M_is_shown = true := by decide +kernel
abbrev D_is_shown : List Str := ["TEXT", "is_line", "LACK", "isinstance", "str", "LACKS", "tuple", "len"]
theorem g_is_shown : glC (defScope s_is_shown) D_is_shown = true := by decide +kernel

/-! is_row -/
abbrev s_is_row : Stmt := top 23
abbrev N_is_row : List Str := ["thing", "file", "edition", "line", "function", "shown"]
abbrev M_is_row : List Str := ["thing", "file", "edition", "line", "function", "shown"]
abbrev P_is_row : List Str := ["thing"]
theorem sc_is_row : FnScope N_is_row P_is_row (defScope s_is_row) := ⟨rfl, rfl, rfl, by decide +kernel, rfl, by decide +kernel, by decide +kernel⟩
theorem v_is_row : visC (defScope s_is_row) M_is_row = true := by decide +kernel
theorem l_is_row : locC (defScope s_is_row) M_is_row = true := by decide +kernel
abbrev D_is_row : List Str := ["is_from", "isinstance", "tuple", "len", "is_name", "is_shown"]
theorem g_is_row : glC (defScope s_is_row) D_is_row = true := by decide +kernel

/-! is_gap -/
abbrev s_is_gap : Stmt := top 24
abbrev N_is_gap : List Str := ["thing"]
abbrev M_is_gap : List Str := ["thing"]
abbrev P_is_gap : List Str := ["thing"]
theorem sc_is_gap : FnScope N_is_gap P_is_gap (defScope s_is_gap) := ⟨rfl, rfl, rfl, by decide +kernel, rfl, by decide +kernel, by decide +kernel⟩
theorem v_is_gap : visC (defScope s_is_gap) M_is_gap = true := by decide +kernel
theorem l_is_gap : locC (defScope s_is_gap) M_is_gap = true := by decide +kernel
abbrev D_is_gap : List Str := ["isinstance", "str", "GAP", "is_from", "tuple", "len"]
theorem g_is_gap : glC (defScope s_is_gap) D_is_gap = true := by decide +kernel

/-! bad_row -/
abbrev s_bad_row : Stmt := top 25
abbrev N_bad_row : List Str := ["rows", "at", "item"]
abbrev M_bad_row : List Str := ["rows", "at", "item"]
abbrev P_bad_row : List Str := ["rows"]
theorem sc_bad_row : FnScope N_bad_row P_bad_row (defScope s_bad_row) := ⟨rfl, rfl, rfl, by decide +kernel, rfl, by decide +kernel, by decide +kernel⟩
theorem v_bad_row : visC (defScope s_bad_row) M_bad_row = true := by decide +kernel
theorem l_bad_row : locC (defScope s_bad_row) M_bad_row = true := by decide +kernel
abbrev D_bad_row : List Str := ["enumerate", "is_row", "is_gap"]
theorem g_bad_row : glC (defScope s_bad_row) D_bad_row = true := by decide +kernel

/-! size_of -/
abbrev s_size_of : Stmt := top 26
abbrev N_size_of : List Str := ["item"]
abbrev M_size_of : List Str := ["item"]
abbrev P_size_of : List Str := ["item"]
theorem sc_size_of : FnScope N_size_of P_size_of (defScope s_size_of) := ⟨rfl, rfl, rfl, by decide +kernel, rfl, by decide +kernel, by decide +kernel⟩
theorem v_size_of : visC (defScope s_size_of) M_size_of = true := by decide +kernel
theorem l_size_of : locC (defScope s_size_of) M_size_of = true := by decide +kernel
abbrev D_size_of : List Str := ["len"]
theorem g_size_of : glC (defScope s_size_of) D_size_of = true := by decide +kernel

/-! closed -/
abbrev s_closed : Stmt := top 27
abbrev N_closed : List Str := ["items", "found", "item"]
abbrev M_closed : List Str := ["items", "found", "item"]
abbrev P_closed : List Str := ["items"]
theorem sc_closed : FnScope N_closed P_closed (defScope s_closed) := ⟨rfl, rfl, rfl, by decide +kernel, rfl, by decide +kernel, by decide +kernel⟩
theorem v_closed : visC (defScope s_closed) M_closed = true := by decide +kernel
theorem l_closed : locC (defScope s_closed) M_closed = true := by decide +kernel
abbrev D_closed : List Str := ["tuple", "GAP", "len"]
theorem g_closed : glC (defScope s_closed) D_closed = true := by decide +kernel

/-! shortened -/
abbrev s_shortened : Stmt := top 28
abbrev N_shortened : List Str := ["rows", "first", "last", "whole", "item", "low", "high", "found", "at", "size", "is_kept"]
abbrev M_shortened : List Str := ["rows", "first", "last", "whole", "item", "low", "high", "found", "at", "size", "is_kept"]
abbrev P_shortened : List Str := ["rows", "first", "last"]
theorem sc_shortened : FnScope N_shortened P_shortened (defScope s_shortened) := ⟨rfl, rfl, rfl, by decide +kernel, rfl, by decide +kernel, by decide +kernel⟩
theorem v_shortened : visC (defScope s_shortened) M_shortened = true := by decide +kernel
theorem l_shortened : locC (defScope s_shortened) M_shortened = true := by decide +kernel
abbrev D_shortened : List Str := ["sum", "closed", "size_of", "GAP", "len"]
theorem g_shortened : glC (defScope s_shortened) D_shortened = true := by decide +kernel
-- comprehension at 90: own ["item"] reads ["item", "rows"] globals ["size_of"]

/-! times_at -/
/-! block_at -/
/-! folded -/
/-! Writer.__init__ -/
/-! Writer.is_met -/
/-! is_limit -/
abbrev s_is_limit : Stmt := top 44
abbrev N_is_limit : List Str := ["name", "thing"]
abbrev M_is_limit : List Str := ["name", "thing"]
abbrev P_is_limit : List Str := ["name", "thing"]
theorem sc_is_limit : FnScope N_is_limit P_is_limit (defScope s_is_limit) := ⟨rfl, rfl, rfl, by decide +kernel, rfl, by decide +kernel, by decide +kernel⟩
theorem v_is_limit : visC (defScope s_is_limit) M_is_limit = true := by decide +kernel
theorem l_is_limit : locC (defScope s_is_limit) M_is_limit = true := by decide +kernel
abbrev D_is_limit : List Str := ["isinstance", "int", "bool"]
theorem g_is_limit : glC (defScope s_is_limit) D_is_limit = true := by decide +kernel

/-! Style.__init__ -/
abbrev s_Style___init__ : Stmt := inClass (top 45) 0
abbrev N_Style___init__ : List Str := ["self", "first", "last", "width", "depth", "chain", "name", "limit"]
abbrev M_Style___init__ : List Str := ["self", "first", "last", "width", "depth", "chain", "name", "limit"]
abbrev P_Style___init__ : List Str := ["self", "first", "last", "width", "depth", "chain"]
theorem sc_Style___init__ : FnScope N_Style___init__ P_Style___init__ (defScope s_Style___init__) := ⟨rfl, rfl, rfl, by decide +kernel, rfl, by decide +kernel, by decide +kernel⟩
theorem v_Style___init__ : visC (defScope s_Style___init__) M_Style___init__ = true := by decide +kernel
theorem l_Style___init__ : locC (defScope s_Style___init__) M_Style___init__ = true := by decide +kernel
abbrev D_Style___init__ : List Str := ["zip", "NAMES", "is_limit", "NoLimit"]
theorem g_Style___init__ : glC (defScope s_Style___init__) D_Style___init__ = true := by decide +kernel

/-! Style.first -/
/-! Style.last -/
/-! Style.width -/
/-! Style.depth -/
/-! Style.chain -/
/-! Style.__call__ -/
/-! Style.__eq__ -/
/-! Style.__repr__ -/
/-! is_counted -/
abbrev s_is_counted : Stmt := top 52
abbrev N_is_counted : List Str := ["thing", "word"]
abbrev M_is_counted : List Str := ["thing", "word"]
abbrev P_is_counted : List Str := ["thing", "word"]
theorem sc_is_counted : FnScope N_is_counted P_is_counted (defScope s_is_counted) := ⟨rfl, rfl, rfl, by decide +kernel, rfl, by decide +kernel, by decide +kernel⟩
theorem v_is_counted : visC (defScope s_is_counted) M_is_counted = true := by decide +kernel
theorem l_is_counted : locC (defScope s_is_counted) M_is_counted = true := by decide +kernel
abbrev D_is_counted : List Str := ["is_from", "isinstance", "tuple", "len", "str"]
theorem g_is_counted : glC (defScope s_is_counted) D_is_counted = true := by decide +kernel

/-! are_members -/
abbrev s_are_members : Stmt := top 53
abbrev N_are_members : List Str := ["thing", "many", "last", "numbers", "number"]
abbrev M_are_members : List Str := ["thing", "many", "last", "numbers"]
abbrev P_are_members : List Str := ["thing", "many"]
theorem sc_are_members : FnScope N_are_members P_are_members (defScope s_are_members) := ⟨rfl, rfl, rfl, by decide +kernel, rfl, by decide +kernel, by decide +kernel⟩
theorem v_are_members : visC (defScope s_are_members) M_are_members = true := by decide +kernel
theorem l_are_members : locC (defScope s_are_members) M_are_members = true := by decide +kernel
abbrev D_are_members : List Str := ["is_counted", "DEEP", "MORE", "all", "isinstance", "tuple", "len"]
theorem g_are_members : glC (defScope s_are_members) D_are_members = true := by decide +kernel
-- comprehension at 254: own ["number"] reads ["number", "numbers", "many"] globals ["in_range"]

/-! is_link -/
abbrev s_is_link : Stmt := top 54
abbrev N_is_link : List Str := ["thing", "many"]
abbrev M_is_link : List Str := ["thing", "many"]
abbrev P_is_link : List Str := ["thing", "many"]
theorem sc_is_link : FnScope N_is_link P_is_link (defScope s_is_link) := ⟨rfl, rfl, rfl, by decide +kernel, rfl, by decide +kernel, by decide +kernel⟩
theorem v_is_link : visC (defScope s_is_link) M_is_link = true := by decide +kernel
theorem l_is_link : locC (defScope s_is_link) M_is_link = true := by decide +kernel
abbrev D_is_link : List Str := ["isinstance", "tuple", "len", "str", "CAUSE", "CONTEXT", "in_range"]
theorem g_is_link : glC (defScope s_is_link) D_is_link = true := by decide +kernel

/-! is_entry -/
abbrev s_is_entry : Stmt := top 55
abbrev N_is_entry : List Str := ["thing", "many", "kind", "message", "notes", "rows", "members", "link", "note"]
abbrev M_is_entry : List Str := ["thing", "many", "kind", "message", "notes", "rows", "members", "link"]
abbrev P_is_entry : List Str := ["thing", "many"]
theorem sc_is_entry : FnScope N_is_entry P_is_entry (defScope s_is_entry) := ⟨rfl, rfl, rfl, by decide +kernel, rfl, by decide +kernel, by decide +kernel⟩
theorem v_is_entry : visC (defScope s_is_entry) M_is_entry = true := by decide +kernel
theorem l_is_entry : locC (defScope s_is_entry) M_is_entry = true := by decide +kernel
abbrev D_is_entry : List Str := ["MOST_ROWS", "are_members", "is_link", "isinstance", "tuple", "len", "is_name", "is_text", "all", "bad_row"]
theorem g_is_entry : glC (defScope s_is_entry) D_is_entry = true := by decide +kernel
-- comprehension at 267: own ["note"] reads ["note", "notes"] globals ["is_text"]

/-! numbers_in -/
abbrev s_numbers_in : Stmt := top 56
abbrev N_numbers_in : List Str := ["members", "item"]
abbrev M_numbers_in : List Str := ["members"]
abbrev P_numbers_in : List Str := ["members"]
theorem sc_numbers_in : FnScope N_numbers_in P_numbers_in (defScope s_numbers_in) := ⟨rfl, rfl, rfl, by decide +kernel, rfl, by decide +kernel, by decide +kernel⟩
theorem v_numbers_in : visC (defScope s_numbers_in) M_numbers_in = true := by decide +kernel
theorem l_numbers_in : locC (defScope s_numbers_in) M_numbers_in = true := by decide +kernel
abbrev D_numbers_in : List Str := []
theorem g_numbers_in : glC (defScope s_numbers_in) D_numbers_in = true := by decide +kernel
-- comprehension at 271: own ["item"] reads ["item", "members"] globals ["isinstance", "int"]

/-! left_out -/
abbrev s_left_out : Stmt := top 57
abbrev N_left_out : List Str := ["members", "item"]
abbrev M_left_out : List Str := ["members"]
abbrev P_left_out : List Str := ["members"]
theorem sc_left_out : FnScope N_left_out P_left_out (defScope s_left_out) := ⟨rfl, rfl, rfl, by decide +kernel, rfl, by decide +kernel, by decide +kernel⟩
theorem v_left_out : visC (defScope s_left_out) M_left_out = true := by decide +kernel
theorem l_left_out : locC (defScope s_left_out) M_left_out = true := by decide +kernel
abbrev D_left_out : List Str := ["sum"]
theorem g_left_out : glC (defScope s_left_out) D_left_out = true := by decide +kernel
-- comprehension at 273: own ["item"] reads ["item", "members"] globals ["isinstance", "tuple"]

/-! Walk.__init__ -/
abbrev s_Walk___init__ : Stmt := inClass (top 58) 0
abbrev N_Walk___init__ : List Str := ["self", "old", "width", "depth", "chain"]
abbrev M_Walk___init__ : List Str := ["self", "old", "width", "depth", "chain"]
abbrev P_Walk___init__ : List Str := ["self", "old", "width", "depth", "chain"]
theorem sc_Walk___init__ : FnScope N_Walk___init__ P_Walk___init__ (defScope s_Walk___init__) := ⟨rfl, rfl, rfl, by decide +kernel, rfl, by decide +kernel, by decide +kernel⟩
theorem v_Walk___init__ : visC (defScope s_Walk___init__) M_Walk___init__ = true := by decide +kernel
theorem l_Walk___init__ : locC (defScope s_Walk___init__) M_Walk___init__ = true := by decide +kernel
abbrev D_Walk___init__ : List Str := []
theorem g_Walk___init__ : glC (defScope s_Walk___init__) D_Walk___init__ = true := by decide +kernel

/-! Walk.meet -/
abbrev s_Walk_meet : Stmt := inClass (top 58) 1
abbrev N_Walk_meet : List Str := ["self", "key", "depth", "distance", "number", "shown", "tied", "kind", "message", "notes", "rows", "members", "link"]
abbrev M_Walk_meet : List Str := ["self", "key", "depth", "distance", "number", "shown", "tied", "kind", "message", "notes", "rows", "members", "link"]
abbrev P_Walk_meet : List Str := ["self", "key", "depth", "distance"]
theorem sc_Walk_meet : FnScope N_Walk_meet P_Walk_meet (defScope s_Walk_meet) := ⟨rfl, rfl, rfl, by decide +kernel, rfl, by decide +kernel, by decide +kernel⟩
theorem v_Walk_meet : visC (defScope s_Walk_meet) M_Walk_meet = true := by decide +kernel
theorem l_Walk_meet : locC (defScope s_Walk_meet) M_Walk_meet = true := by decide +kernel
abbrev D_Walk_meet : List Str := ["len"]
theorem g_Walk_meet : glC (defScope s_Walk_meet) D_Walk_meet = true := by decide +kernel

/-! Walk.met_members -/
abbrev s_Walk_met_members : Stmt := inClass (top 58) 2
abbrev N_Walk_met_members : List Str := ["self", "members", "depth", "some", "shown", "many", "keys", "gone", "key"]
abbrev M_Walk_met_members : List Str := ["self", "members", "depth", "some", "shown", "many", "keys", "gone"]
abbrev P_Walk_met_members : List Str := ["self", "members", "depth"]
theorem sc_Walk_met_members : FnScope N_Walk_met_members P_Walk_met_members (defScope s_Walk_met_members) := ⟨rfl, rfl, rfl, by decide +kernel, rfl, by decide +kernel, by decide +kernel⟩
theorem v_Walk_met_members : visC (defScope s_Walk_met_members) M_Walk_met_members = true := by decide +kernel
theorem l_Walk_met_members : locC (defScope s_Walk_met_members) M_Walk_met_members = true := by decide +kernel
abbrev D_Walk_met_members : List Str := ["numbers_in", "left_out", "tuple", "DEEP", "len", "MORE"]
theorem g_Walk_met_members : glC (defScope s_Walk_met_members) D_Walk_met_members = true := by decide +kernel
-- comprehension at 302: own ["key"] reads ["key", "some", "self", "depth"] globals []

/-! Walk.met_link -/
abbrev s_Walk_met_link : Stmt := inClass (top 58) 3
abbrev N_Walk_met_link : List Str := ["self", "link", "depth", "distance", "word", "key"]
abbrev M_Walk_met_link : List Str := ["self", "link", "depth", "distance", "word", "key"]
abbrev P_Walk_met_link : List Str := ["self", "link", "depth", "distance"]
theorem sc_Walk_met_link : FnScope N_Walk_met_link P_Walk_met_link (defScope s_Walk_met_link) := ⟨rfl, rfl, rfl, by decide +kernel, rfl, by decide +kernel, by decide +kernel⟩
theorem v_Walk_met_link : visC (defScope s_Walk_met_link) M_Walk_met_link = true := by decide +kernel
theorem l_Walk_met_link : locC (defScope s_Walk_met_link) M_Walk_met_link = true := by decide +kernel
abbrev D_Walk_met_link : List Str := []
theorem g_Walk_met_link : glC (defScope s_Walk_met_link) D_Walk_met_link = true := by decide +kernel

/-! headline -/
abbrev s_headline : Stmt := top 59
abbrev N_headline : List Str := ["entry", "first", "kind", "message", "others"]
abbrev M_headline : List Str := ["entry", "first", "kind", "message", "others"]
abbrev P_headline : List Str := ["entry"]
theorem sc_headline : FnScope N_headline P_headline (defScope s_headline) := ⟨rfl, rfl, rfl, by decide +kernel, rfl, by decide +kernel, by decide +kernel⟩
theorem v_headline : visC (defScope s_headline) M_headline = true := by decide +kernel
theorem l_headline : locC (defScope s_headline) M_headline = true := by decide +kernel
abbrev D_headline : List Str := ["FEED"]
theorem g_headline : glC (defScope s_headline) D_headline = true := by decide +kernel

/-! look_limits -/
abbrev s_look_limits : Stmt := top 60
abbrev N_look_limits : List Str := ["limits", "name", "value"]
abbrev M_look_limits : List Str := ["limits", "name", "value"]
abbrev P_look_limits : List Str := ["limits"]
theorem sc_look_limits : FnScope N_look_limits P_look_limits (defScope s_look_limits) := ⟨rfl, rfl, rfl, by decide +kernel, rfl, by decide +kernel, by decide +kernel⟩
theorem v_look_limits : visC (defScope s_look_limits) M_look_limits = true := by decide +kernel
theorem l_look_limits : locC (defScope s_look_limits) M_look_limits = true := by decide +kernel
abbrev D_look_limits : List Str := ["NoLimit", "is_from"]
theorem g_look_limits : glC (defScope s_look_limits) D_look_limits = true := by decide +kernel

/-! Record.__init__ -/
abbrev s_Record___init__ : Stmt := inClass (top 61) 0
abbrev N_Record___init__ : List Str := ["self", "entries"]
abbrev M_Record___init__ : List Str := ["self", "entries"]
abbrev P_Record___init__ : List Str := ["self", "entries"]
theorem sc_Record___init__ : FnScope N_Record___init__ P_Record___init__ (defScope s_Record___init__) := ⟨rfl, rfl, rfl, by decide +kernel, rfl, by decide +kernel, by decide +kernel⟩
theorem v_Record___init__ : visC (defScope s_Record___init__) M_Record___init__ = true := by decide +kernel
theorem l_Record___init__ : locC (defScope s_Record___init__) M_Record___init__ = true := by decide +kernel
abbrev D_Record___init__ : List Str := ["tuple", "headline"]
theorem g_Record___init__ : glC (defScope s_Record___init__) D_Record___init__ = true := by decide +kernel

/-! Record.of -/
abbrev s_Record_of : Stmt := inClass (top 61) 1
abbrev N_Record_of : List Str := ["cls", "entries", "walk", "at", "entry"]
abbrev M_Record_of : List Str := ["cls", "entries", "walk", "at", "entry"]
abbrev P_Record_of : List Str := ["cls", "entries"]
theorem sc_Record_of : FnScope N_Record_of P_Record_of (defScope s_Record_of) := ⟨rfl, rfl, rfl, by decide +kernel, rfl, by decide +kernel, by decide +kernel⟩
theorem v_Record_of : visC (defScope s_Record_of) M_Record_of = true := by decide +kernel
theorem l_Record_of : locC (defScope s_Record_of) M_Record_of = true := by decide +kernel
abbrev D_Record_of : List Str := ["enumerate", "Walk", "isinstance", "NoRecord", "MOST_ENTRIES", "list", "tuple", "is_entry", "len"]
theorem g_Record_of : glC (defScope s_Record_of) D_Record_of = true := by decide +kernel

/-! Record.entries -/
/-! Record.__eq__ -/
/-! Record.__len__ -/
/-! Record.__str__ -/
/-! Record.__repr__ -/
/-! Record.look -/
/-! Record.entry -/
/-! Record.part -/
/-! Record.cut -/
abbrev s_Record_cut : Stmt := inClass (top 61) 10
abbrev N_Record_cut : List Str := ["self", "first", "last", "width", "depth", "chain", "walk", "entry"]
abbrev M_Record_cut : List Str := ["self", "first", "last", "width", "depth", "chain", "walk"]
abbrev P_Record_cut : List Str := ["self", "first", "last", "width", "depth", "chain"]
theorem sc_Record_cut : FnScope N_Record_cut P_Record_cut (defScope s_Record_cut) := ⟨rfl, rfl, rfl, by decide +kernel, rfl, by decide +kernel, by decide +kernel⟩
theorem v_Record_cut : visC (defScope s_Record_cut) M_Record_cut = true := by decide +kernel
theorem l_Record_cut : locC (defScope s_Record_cut) M_Record_cut = true := by decide +kernel
abbrev D_Record_cut : List Str := ["look_limits", "Walk", "Record"]
theorem g_Record_cut : glC (defScope s_Record_cut) D_Record_cut = true := by decide +kernel
-- comprehension at 376: own ["entry"] reads ["first", "last", "walk", "entry"] globals ["shortened"]

/-! Record.ahead -/
/-! Record.along -/
/-! Record.linked -/
/-! _law_bag -/
abbrev s_bag : Stmt := top 63
abbrev N_bag : List Str := ["_law_script", "_law_at", "_law_cell", "_law_far"]
abbrev M_bag : List Str := ["_law_script", "_law_at", "_law_cell", "_law_far"]
abbrev P_bag : List Str := ["_law_script", "_law_at"]
theorem sc_bag : FnScope N_bag P_bag (defScope s_bag) := ⟨rfl, rfl, rfl, by decide +kernel, rfl, by decide +kernel, by decide +kernel⟩
theorem v_bag : visC (defScope s_bag) M_bag = true := by decide +kernel
theorem l_bag : locC (defScope s_bag) M_bag = true := by decide +kernel
abbrev D_bag : List Str := ["abs", "len", "int"]
theorem g_bag : glC (defScope s_bag) D_bag = true := by decide +kernel

/-! _law_take -/
abbrev s_take : Stmt := top 64
abbrev N_take : List Str := ["_law_bag_here", "_law_many", "_law_base", "_law_mixed", "_law_digit"]
abbrev M_take : List Str := ["_law_bag_here", "_law_many", "_law_base", "_law_mixed", "_law_digit"]
abbrev P_take : List Str := ["_law_bag_here", "_law_many"]
theorem sc_take : FnScope N_take P_take (defScope s_take) := ⟨rfl, rfl, rfl, by decide +kernel, rfl, by decide +kernel, by decide +kernel⟩
theorem v_take : visC (defScope s_take) M_take = true := by decide +kernel
theorem l_take : locC (defScope s_take) M_take = true := by decide +kernel
abbrev D_take : List Str := []
theorem g_take : glC (defScope s_take) D_take = true := by decide +kernel

/-! _law_any -/
abbrev s_any : Stmt := top 65
abbrev N_any : List Str := ["_law_bag_here", "_law_deep", "_law_plain", "_law_way", "_law_parts", "_law_spot"]
abbrev M_any : List Str := ["_law_bag_here", "_law_deep", "_law_plain", "_law_way", "_law_parts"]
abbrev P_any : List Str := ["_law_bag_here", "_law_deep"]
theorem sc_any : FnScope N_any P_any (defScope s_any) := ⟨rfl, rfl, rfl, by decide +kernel, rfl, by decide +kernel, by decide +kernel⟩
theorem v_any : visC (defScope s_any) M_any = true := by decide +kernel
theorem l_any : locC (defScope s_any) M_any = true := by decide +kernel
abbrev D_any : List Str := ["_law_take", "range", "tuple"]
theorem g_any : glC (defScope s_any) D_any = true := by decide +kernel
-- comprehension at 407: own ["_law_spot"] reads ["_law_bag_here", "_law_deep"] globals ["_law_any", "range", "_law_take"]

/-! _law_limits -/
abbrev s_limits : Stmt := top 66
abbrev N_limits : List Str := ["_law_bag_here", "_law_found", "_law_spot", "_law_least", "_law_most"]
abbrev M_limits : List Str := ["_law_bag_here", "_law_found", "_law_spot", "_law_least", "_law_most"]
abbrev P_limits : List Str := ["_law_bag_here"]
theorem sc_limits : FnScope N_limits P_limits (defScope s_limits) := ⟨rfl, rfl, rfl, by decide +kernel, rfl, by decide +kernel, by decide +kernel⟩
theorem v_limits : visC (defScope s_limits) M_limits = true := by decide +kernel
theorem l_limits : locC (defScope s_limits) M_limits = true := by decide +kernel
abbrev D_limits : List Str := ["range", "int", "_law_take"]
theorem g_limits : glC (defScope s_limits) D_limits = true := by decide +kernel

/-! _law_style -/
abbrev s_style : Stmt := top 67
abbrev N_style : List Str := ["_law_limits_here"]
abbrev M_style : List Str := ["_law_limits_here"]
abbrev P_style : List Str := ["_law_limits_here"]
theorem sc_style : FnScope N_style P_style (defScope s_style) := ⟨rfl, rfl, rfl, by decide +kernel, rfl, by decide +kernel, by decide +kernel⟩
theorem v_style : visC (defScope s_style) M_style = true := by decide +kernel
theorem l_style : locC (defScope s_style) M_style = true := by decide +kernel
abbrev D_style : List Str := ["Style"]
theorem g_style : glC (defScope s_style) D_style = true := by decide +kernel

/-! _law_refused -/
abbrev s_refused : Stmt := top 68
abbrev N_refused : List Str := ["_law_call", "e", "_law_other"]
abbrev M_refused : List Str := ["_law_call", "e", "_law_other"]
abbrev P_refused : List Str := ["_law_call"]
theorem sc_refused : FnScope N_refused P_refused (defScope s_refused) := ⟨rfl, rfl, rfl, by decide +kernel, rfl, by decide +kernel, by decide +kernel⟩
theorem v_refused : visC (defScope s_refused) M_refused = true := by decide +kernel
theorem l_refused : locC (defScope s_refused) M_refused = true := by decide +kernel
abbrev D_refused : List Str := ["NoLimit", "isinstance", "BadReport", "NoEntry", "NoRecord", "TooMany", "ValueError", "ArithmeticError"]
theorem g_refused : glC (defScope s_refused) D_refused = true := by decide +kernel

/-! _law_due -/
abbrev s_due : Stmt := top 69
abbrev N_due : List Str := ["_law_limits_here", "_law_spot", "_law_limit"]
abbrev M_due : List Str := ["_law_limits_here", "_law_spot", "_law_limit"]
abbrev P_due : List Str := ["_law_limits_here"]
theorem sc_due : FnScope N_due P_due (defScope s_due) := ⟨rfl, rfl, rfl, by decide +kernel, rfl, by decide +kernel, by decide +kernel⟩
theorem v_due : visC (defScope s_due) M_due = true := by decide +kernel
theorem l_due : locC (defScope s_due) M_due = true := by decide +kernel
abbrev D_due : List Str := ["enumerate", "isinstance", "bool", "int"]
theorem g_due : glC (defScope s_due) D_due = true := by decide +kernel

/-! _law_cut_by -/
abbrev s_cut_by : Stmt := top 70
abbrev N_cut_by : List Str := ["_law_record", "_law_limits_here"]
abbrev M_cut_by : List Str := ["_law_record", "_law_limits_here"]
abbrev P_cut_by : List Str := ["_law_record", "_law_limits_here"]
theorem sc_cut_by : FnScope N_cut_by P_cut_by (defScope s_cut_by) := ⟨rfl, rfl, rfl, by decide +kernel, rfl, by decide +kernel, by decide +kernel⟩
theorem v_cut_by : visC (defScope s_cut_by) M_cut_by = true := by decide +kernel
theorem l_cut_by : locC (defScope s_cut_by) M_cut_by = true := by decide +kernel
abbrev D_cut_by : List Str := []
theorem g_cut_by : glC (defScope s_cut_by) D_cut_by = true := by decide +kernel

/-! law -/
abbrev s_law : Stmt := top 71
abbrev N_law : List Str := ["_law_script", "_law_record", "_law_at", "_law_bag_here", "_law_turn", "_law_limits_here", "_law_again", "_law_due_here", "_law_odd"]
abbrev M_law : List Str := ["_law_script", "_law_record", "_law_at", "_law_bag_here", "_law_turn", "_law_limits_here", "_law_again", "_law_due_here", "_law_odd"]
abbrev P_law : List Str := ["_law_script"]
theorem sc_law : FnScope N_law P_law (defScope s_law) := ⟨rfl, rfl, rfl, by decide +kernel, rfl, by decide +kernel, by decide +kernel⟩
theorem v_law : visC (defScope s_law) M_law = true := by decide +kernel
theorem l_law : locC (defScope s_law) M_law = true := by decide +kernel
abbrev D_law : List Str := ["range", "Record", "max", "_law_bag", "min", "_law_limits", "_law_due", "len", "_law_take", "_law_refused", "_law_any"]
theorem g_law : glC (defScope s_law) D_law = true := by decide +kernel
end K31
set_option maxHeartbeats 4000000
open PySem L2 DL
local macro_rules | `(tactic| walk_at "kd") => `(tactic| first | rfl | assumption | exact kind_of_py (by assumption))
local macro_rules | `(tactic| walk_at "ct") => `(tactic| first | trivial | assumption | omega | exact Or.inl ⟨by omega, by omega⟩ | exact Or.inr ⟨by omega, by omega⟩ | decide)
local macro_rules | `(tactic| walk_at "sz") => `(tactic| first | (exact ⟨by omega, by omega, Nat.le_of_ble_eq_true rfl⟩) | (refine Nat.le_trans (Nat.le_of_ble_eq_true (m := 1000) rfl) (by decide)) | (refine Nat.lt_of_le_of_lt (Nat.le_of_ble_eq_true (m := 1000) rfl) (by decide)) | (simp only [rep_len, List.length_append, List.length_cons, List.length_nil]; refine Nat.le_trans (m := 1000) (by omega) (by decide)))
local macro_rules | `(tactic| walk_at "bad") => `(tactic| first
  | (rename_i q; exact Bool.noConfusion (show false = true from q))
  | (rename_i q; exact Bool.noConfusion (show true = false from q))
  | (rename_i q _; exact Bool.noConfusion (show false = true from q))
  | (rename_i q _; exact Bool.noConfusion (show true = false from q))
  | (rename_i q _ _; exact Bool.noConfusion (show false = true from q))
  | (rename_i q _ _; exact Bool.noConfusion (show true = false from q))
  | (rename_i q _ _ _; exact Bool.noConfusion (show false = true from q))
  | (rename_i q _ _ _; exact Bool.noConfusion (show true = false from q))
  | (rename_i q _ _ _ _; exact Bool.noConfusion (show false = true from q))
  | (rename_i q _ _ _ _; exact Bool.noConfusion (show true = false from q)))
local macro_rules | `(tactic| walk_at "fg") => `(tactic| first
  | exact FGet.here _ _ _ _
  | exact FGet.there (by decide +kernel) (FGet.here _ _ _ _)
  | exact FGet.there (by decide +kernel) (FGet.there (by decide +kernel) (FGet.here _ _ _ _))
  | exact FGet.there (by decide +kernel) (FGet.there (by decide +kernel) (FGet.there (by decide +kernel) (FGet.here _ _ _ _)))
  | exact FGet.there (by decide +kernel) (FGet.there (by decide +kernel) (FGet.there (by decide +kernel) (FGet.there (by decide +kernel) (FGet.here _ _ _ _))))
  | exact FGet.there (by decide +kernel) (FGet.there (by decide +kernel) (FGet.there (by decide +kernel) (FGet.there (by decide +kernel) (FGet.there (by decide +kernel) (FGet.here _ _ _ _)))))
  | exact FGet.there (by decide +kernel) (FGet.there (by decide +kernel) (FGet.there (by decide +kernel) (FGet.there (by decide +kernel) (FGet.there (by decide +kernel) (FGet.there (by decide +kernel) (FGet.here _ _ _ _))))))
  | exact FGet.there (by decide +kernel) (FGet.there (by decide +kernel) (FGet.there (by decide +kernel) (FGet.there (by decide +kernel) (FGet.there (by decide +kernel) (FGet.there (by decide +kernel) (FGet.there (by decide +kernel) (FGet.here _ _ _ _)))))))
  | exact FGet.there (by decide +kernel) (FGet.there (by decide +kernel) (FGet.there (by decide +kernel) (FGet.there (by decide +kernel) (FGet.there (by decide +kernel) (FGet.there (by decide +kernel) (FGet.there (by decide +kernel) (FGet.there (by decide +kernel) (FGet.here _ _ _ _))))))))
  | exact FGet.there (by decide +kernel) (FGet.there (by decide +kernel) (FGet.there (by decide +kernel) (FGet.there (by decide +kernel) (FGet.there (by decide +kernel) (FGet.there (by decide +kernel) (FGet.there (by decide +kernel) (FGet.there (by decide +kernel) (FGet.there (by decide +kernel) (FGet.here _ _ _ _))))))))))
local macro_rules | `(tactic| walk_at "nm") => `(tactic| first
  | ((with_reducible show DL.Mem _ _); repeat' (first | with_reducible exact Mem.here _ _ | with_reducible apply Mem.there))
  | ((with_reducible show DL.Get _ _ _ _); repeat' (first | with_reducible exact Get.here _ _ _ _ | with_reducible apply Get.there))
  | ((with_reducible show DL.Put _ _ _ _); repeat' (first | with_reducible exact Put.here _ _ _ _ | with_reducible apply Put.there)))
local macro_rules | `(tactic| walk_at "gl") => `(tactic| (refine Gls.at (by assumption) ?_; repeat' (first | with_reducible exact Mem.here _ _ | with_reducible apply Mem.there)))
local macro_rules | `(tactic| walk_at "wg") => `(tactic| repeat' (first
  | ((with_reducible refine' wgs_consS ?_ ?k1); (case k1 => rfl))
  | ((with_reducible refine' wgs_cons ?_ ?k1); (case k1 => rfl))
  | with_reducible refine wgs_nil ?_
  | ((with_reducible refine' wg_nm ?kb ?k0 ?kp ?_); (case kb => assumption); (case k0 => walk_at "nm"); (case kp => walk_at "nm"))))
local macro_rules | `(tactic| walk_at "py") => `(tactic| repeat' (first
  | ((with_reducible show DL.WE _ _ _ _ _); (first
    | ((with_reducible show DL.WE _ (Expr.BoolOp _ _ _) _ _ _); (first | with_reducible refine we_and ?_ | with_reducible refine we_or ?_ | with_reducible refine we_one ?_))
    | ((with_reducible show DL.WE _ (Expr.UnaryOp _ _ _) _ _ _); (first | with_reducible refine we_not ?_ | with_reducible refine we_neg ?_))
    | ((with_reducible show DL.WE _ (Expr.IfExp _ _ _ _) _ _ _); (first | with_reducible refine we_if ?_))
    | ((with_reducible show DL.WE _ (Expr.Constant _ _ _) _ _ _); (first | with_reducible refine we_int ?_ | with_reducible refine we_bl ?_ | with_reducible refine we_non ?_ | with_reducible refine we_str ?_))
    | ((with_reducible show DL.WE _ (Expr.Tuple _ _ _) _ _ _); (first | with_reducible refine we_tup ?_))
    | ((with_reducible show DL.WE _ (Expr.Name _ _) _ _ _); (first | ((with_reducible refine' we_nm ?k1 ?k0 ?k2 ?_); (case k1 => assumption); (case k0 => walk_at "nm"); (case k2 => walk_at "nm")) | ((with_reducible refine' x_tyInt ?kx ?kz ?kg ?_); (case kx => assumption); (case kz => assumption); (case kg => walk_at "gl")) | ((with_reducible refine' x_tyBool ?kx ?kz ?kg ?_); (case kx => assumption); (case kz => assumption); (case kg => walk_at "gl")) | ((with_reducible refine' x_tyStr ?kx ?kz ?kg ?_); (case kx => assumption); (case kz => assumption); (case kg => walk_at "gl")) | ((with_reducible refine' x_tyList ?kx ?kz ?kg ?_); (case kx => assumption); (case kz => assumption); (case kg => walk_at "gl")) | ((with_reducible refine' x_tyTuple ?kx ?kz ?kg ?_); (case kx => assumption); (case kz => assumption); (case kg => walk_at "gl")) | ((with_reducible refine' x_glob ?kx ?kh ?kg ?_ ?kd); (case kh => assumption); (case kx => assumption); (case kg => walk_at "gl"); (case kd => decide))))
    | ((with_reducible show DL.WE _ (Expr.BinOp _ _ _ _) _ _ _); (first | with_reducible refine we_add ?_ | with_reducible refine we_sub' ?_ | with_reducible refine we_mul ?_ | with_reducible refine we_mod ?_ | with_reducible refine we_fdiv ?_ | with_reducible refine we_pow ?_))
    | ((with_reducible show DL.WE _ (Expr.Compare _ _ _ _) _ _ _); (first | with_reducible refine we_lt ?_ | with_reducible refine we_le ?_ | with_reducible refine we_gt ?_ | with_reducible refine we_ge ?_ | with_reducible refine we_is ?_ | with_reducible refine we_isnot ?_ | ((with_reducible refine' x_eq ?k1 ?_); (case k1 => assumption)) | ((with_reducible refine' x_ne ?k1 ?_); (case k1 => assumption)) | ((with_reducible refine' x_in ?k1 ?_ ?k2); (case k1 => assumption); (case k2 => rfl)) | ((with_reducible refine' x_nin ?k1 ?_ ?k2); (case k1 => assumption); (case k2 => rfl))))
    | ((with_reducible show DL.WE _ (Expr.Subscript _ _ _) _ _ _); (first | ((with_reducible refine' x_ixL ?_ ?k1); (case k1 => (intro _ _; rfl))) | ((with_reducible refine' we_ix ?_ ?k1); (case k1 => (intro _ _; rfl))) | with_reducible refine we_slice ?_))
    | ((with_reducible show DL.WE _ (Expr.Call (Expr.Name _ _) _ _ _) _ _ _); (first | ((with_reducible refine' x_isiT ?kx ?kz ?kg ?_ ?k1 ?k2); (case kx => assumption); (case kz => assumption); (case kg => walk_at "gl"); (case k1 => rfl); (case k2 => rfl)) | ((with_reducible refine' x_isi ?kx ?kz ?kg ?_ ?k1 ?k2); (case kx => assumption); (case kz => assumption); (case kg => walk_at "gl"); (case k1 => rfl); (case k2 => rfl)) | ((with_reducible refine' x_len ?kx ?kz ?kg ?_ ?k1 ?k2); (case kx => assumption); (case kz => assumption); (case kg => walk_at "gl"); (case k1 => rfl); (case k2 => rfl)) | ((with_reducible refine' x_abs ?kx ?kz ?kg ?_ ?k1 ?k2); (case kx => assumption); (case kz => assumption); (case kg => walk_at "gl"); (case k1 => rfl); (case k2 => rfl)) | ((with_reducible refine' x_max2 ?kx ?kz ?kg ?_ ?k1 ?k2); (case kx => assumption); (case kz => assumption); (case kg => walk_at "gl"); (case k1 => rfl); (case k2 => rfl)) | ((with_reducible refine' x_min2 ?kx ?kz ?kg ?_ ?k1 ?k2); (case kx => assumption); (case kz => assumption); (case kg => walk_at "gl"); (case k1 => rfl); (case k2 => rfl)) | ((with_reducible refine' x_minL ?kx ?kz ?kg ?_ ?k1 ?k2); (case kx => assumption); (case kz => assumption); (case kg => walk_at "gl"); (case k1 => rfl); (case k2 => rfl)) | ((with_reducible refine' x_any ?kx ?kz ?kg ?_ ?k1 ?k2); (case kx => assumption); (case kz => assumption); (case kg => walk_at "gl"); (case k1 => rfl); (case k2 => rfl)) | ((with_reducible refine' x_all ?kx ?kz ?kg ?_ ?k1 ?k2); (case kx => assumption); (case kz => assumption); (case kg => walk_at "gl"); (case k1 => rfl); (case k2 => rfl)) | ((with_reducible refine' x_sum ?kx ?kz ?kg ?_ ?k1 ?k2); (case kx => assumption); (case kz => assumption); (case kg => walk_at "gl"); (case k1 => rfl); (case k2 => rfl)) | ((with_reducible refine' x_intC ?kx ?kz ?kg ?_ ?k1 ?k2); (case kx => assumption); (case kz => assumption); (case kg => walk_at "gl"); (case k1 => rfl); (case k2 => rfl)) | ((with_reducible refine' x_strC ?kx ?kz ?kg ?_ ?k1 ?k2); (case kx => assumption); (case kz => assumption); (case kg => walk_at "gl"); (case k1 => rfl); (case k2 => rfl)) | ((with_reducible refine' x_tupleC ?kx ?kz ?kg ?_ ?k1 ?k2); (case kx => assumption); (case kz => assumption); (case kg => walk_at "gl"); (case k1 => rfl); (case k2 => rfl)) | ((with_reducible refine' x_listC ?kx ?kz ?kg ?_ ?k1 ?k2); (case kx => assumption); (case kz => assumption); (case kg => walk_at "gl"); (case k1 => rfl); (case k2 => rfl)) | ((with_reducible refine' x_call ?kx ?kh ?kg ?_ ?kl ?kd ?k1 ?k2); (case kh => assumption); (case kx => assumption); (case kg => walk_at "gl"); (case kl => first | decide | omega); (case kd => decide); (case k1 => rfl); (case k2 => rfl))))
    | ((with_reducible show DL.WE _ (Expr.Call (Expr.Attribute _ _ _) _ _ _) _ _ _); (first | ((with_reducible refine' x_join ?_ ?k1 ?k2 ?k3 ?k4 ?k5); (case k1 => rfl); (case k2 => rfl); (case k3 => rfl); (case k4 => rfl); (case k5 => rfl)) | ((with_reducible refine' x_sindex ?_ ?k1 ?k2 ?k3 ?k4 ?k5); (case k1 => rfl); (case k2 => rfl); (case k3 => rfl); (case k4 => rfl); (case k5 => rfl)) | ((with_reducible refine' x_insert ?_ ?k1 ?k2 ?k3 ?k4 ?k5); (case k1 => rfl); (case k2 => rfl); (case k3 => rfl); (case k4 => rfl); (case k5 => rfl)) | ((with_reducible refine' x_popAt ?_ ?k1 ?k2 ?k3 ?k4 ?k5); (case k1 => rfl); (case k2 => rfl); (case k3 => rfl); (case k4 => rfl); (case k5 => rfl)) | ((with_reducible refine' x_append ?_ ?k1 ?k2 ?k3 ?k4 ?k5); (case k1 => rfl); (case k2 => rfl); (case k3 => rfl); (case k4 => rfl); (case k5 => rfl)) | ((with_reducible refine' x_extend ?_ ?k1 ?k2 ?k3 ?k4 ?k5); (case k1 => rfl); (case k2 => rfl); (case k3 => rfl); (case k4 => rfl); (case k5 => rfl))))))
  | ((with_reducible show DL.WSs _ _ _ _ _); (first | with_reducible refine wss_cons ?_ | with_reducible refine wss_nil ?_))
  | ((with_reducible show DL.WS _ _ _ _ _); (first
    | ((with_reducible show DL.WS _ (Stmt.If _ _ _ _) _ _ _); (first | ((with_reducible refine' x_ifWge ?kb ?k0 ?kp ?_); (case kb => assumption); (case k0 => walk_at "nm"); (case kp => walk_at "nm")) | with_reducible refine ws_if ?_))
    | ((with_reducible show DL.WS _ (Stmt.Return _ _) _ _ _); (first | with_reducible refine ws_ret ?_ | with_reducible refine ws_retN ?_))
    | ((with_reducible show DL.WS _ (Stmt.Pass _) _ _ _); (first | with_reducible refine ws_pass ?_))
    | ((with_reducible show DL.WS _ (Stmt.Break _) _ _ _); (first | with_reducible refine ws_break ?_))
    | ((with_reducible show DL.WS _ (Stmt.Continue _) _ _ _); (first | with_reducible refine ws_continue ?_))
    | ((with_reducible show DL.WS _ (Stmt.Assign _ _ _) _ _ _); (first | ((with_reducible refine' ws_nm ?kb ?k0 ?kp ?_ ?k1); (case kb => assumption); (case k0 => walk_at "nm"); (case kp => walk_at "nm"); (case k1 => rfl)) | ((with_reducible refine' x_par2 ?kd ?k1 ?k2 ?k3 ?k4 ?k5 ?k6 ?_ ?k7); (case kd => assumption); (case k1 => walk_at "nm"); (case k2 => (intro _; walk_at "nm")); (case k3 => decide +kernel); (case k4 => decide +kernel); (case k5 => decide +kernel); (case k6 => rfl); (case k7 => rfl)) | ((with_reducible refine' x_par3 ?kd ?k1 ?k2 ?k3 ?k4 ?k5 ?k6 ?k7 ?_ ?k8); (case kd => assumption); (case k1 => walk_at "nm"); (case k2 => (intro _; walk_at "nm")); (case k3 => (intro _ _; walk_at "nm")); (case k4 => decide +kernel); (case k5 => decide +kernel); (case k6 => decide +kernel); (case k7 => rfl); (case k8 => rfl)) | ((with_reducible refine' ws_asg ?_ ?k1 ?k2 ?k3); (case k1 => rfl); (case k2 => rfl); (case k3 => rfl)) | ((with_reducible refine' ws_asgD ?kd ?_ ?k1 ?k2 ?k3); (case kd => assumption); (case k1 => rfl); (case k2 => rfl); (case k3 => rfl))))
    | ((with_reducible show DL.WS _ (Stmt.AugAssign _ _ _ _) _ _ _); (first | ((with_reducible refine' ws_augAdd ?kb ?k0 ?kg ?kp ?_); (case kb => assumption); (case k0 => walk_at "nm"); (case kg => walk_at "nm"); (case kp => walk_at "nm"))))
    | ((with_reducible show DL.WS _ (Stmt.Expr _ _) _ _ _); (first | ((with_reducible refine' ws_expr ?_ ?k1); (case k1 => rfl))))))
  | ((with_reducible show DL.WA _ _ _ _ _); (first | with_reducible refine wa_nil ?_ | ((with_reducible refine' wa_cons ?_ ?k1); (case k1 => rfl))))
  | ((with_reducible show DL.WT _ _ _ _ _); (first | ((with_reducible refine' xt_eq ?k1 ?_); (case k1 => assumption)) | ((with_reducible refine' xt_ne ?k1 ?_); (case k1 => assumption)) | ((with_reducible refine' xt_in ?k1 ?_ ?k2); (case k1 => assumption); (case k2 => rfl)) | ((with_reducible refine' xt_nin ?k1 ?_ ?k2); (case k1 => assumption); (case k2 => rfl)) | with_reducible refine wt_lt ?_ | with_reducible refine wt_le ?_ | with_reducible refine wt_gt ?_ | with_reducible refine wt_ge ?_ | with_reducible refine wt_is ?_ | with_reducible refine wt_isnot ?_ | with_reducible refine wt_not ?_ | with_reducible refine wt_bo ?_ | ((with_reducible refine' wt_val ?_ ?k1); (case k1 => (intro _; rfl)))))
  | ((with_reducible show DL.WW _ _ _ _ _); (first | with_reducible refine ww_and ?_ | with_reducible refine ww_or ?_ | with_reducible refine ww_and1 ?_ | with_reducible refine ww_or1 ?_))
  | ((with_reducible show DL.WG _ _ _ _ _ _); (first | ((with_reducible refine' wg_nm ?kb ?k0 ?kp ?_); (case kb => assumption); (case k0 => walk_at "nm"); (case kp => walk_at "nm")) | ((with_reducible refine' x_gtup ?kx ?kl ?_ ?k1); (case kx => assumption); (case kl => rfl); (case k1 => rfl)) | ((with_reducible refine' wg_setL ?_ ?k1); (case k1 => (intro _; rfl)))))
  | ((with_reducible show DL.WGs _ _ _ _ _ _); (first | ((with_reducible refine' wgs_cons ?_ ?k1); (case k1 => rfl)) | with_reducible refine wgs_nil ?_))
  | ((with_reducible show DL.WO _ _ _ _ _); (first | with_reducible refine wo_n ?_ | with_reducible refine wo_s ?_))
  | ((with_reducible show DL.tb _ _ _); (first | with_reducible refine tb_ok ?_))
  | ((with_reducible show DL.dIsi _ _ _); (first | ((with_reducible refine' isi_int ?k1 ?_); (case k1 => walk_at "kd")) | ((with_reducible refine' isi_bool ?k1 ?_); (case k1 => walk_at "kd")) | ((with_reducible refine' isi_str ?k1 ?_); (case k1 => walk_at "kd")) | ((with_reducible refine' isi_list ?k1 ?_); (case k1 => walk_at "kd")) | ((with_reducible refine' isi_tuple ?k1 ?_); (case k1 => walk_at "kd")) | ((with_reducible refine' isi_ls ?k1 ?_); (case k1 => assumption)) | ((with_reducible refine' isi_lsT ?k1 ?_); (case k1 => assumption))))
  | ((with_reducible show DL.dIsiT _ _ _); (first | ((with_reducible refine' isi_ltT ?k1 ?k2 ?_); (case k1 => rfl); (case k2 => rfl)) | ((with_reducible refine' isi_ltF ?k1 ?k2 ?_); (case k1 => rfl); (case k2 => rfl)) | ((with_reducible refine' isi_lt ?k1 ?_); (case k1 => walk_at "kd")) | ((with_reducible refine' isiT_ls ?k1 ?_); (case k1 => assumption))))
  | ((with_reducible show DL.dLen _ _ _); (first | ((with_reducible refine' len_ls ?k1 ?_); (case k1 => assumption)) | ((with_reducible refine' len_str ?k1 ?_); (case k1 => walk_at "ct")) | with_reducible refine len_tup ?_ | with_reducible refine len_fr ?_ | with_reducible refine len_sl ?_ | ((with_reducible refine' len_own ?k1 ?_); (case k1 => assumption)) | with_reducible refine len_put ?_))
  | ((with_reducible show DL.dEq _ _ _ _ _); (first | with_reducible refine eq_bb ?_ | with_reducible refine ne_bb ?_ | with_reducible refine eq_ii ?_ | with_reducible refine ne_ii ?_))
  | ((with_reducible show DL.dI2 _ _ _ _ _ _); (first | ((with_reducible refine' i2_ok ?k1 ?_); (case k1 => walk_at "ct"))))
  | ((with_reducible show DL.dB2 _ _ _ _ _); (first | with_reducible refine b2_ok ?_))
  | ((with_reducible show DL.dAdd _ _ _ _); (first | with_reducible refine add_ii ?_ | ((with_reducible refine' add_ss ?k1 ?_); (case k1 => walk_at "ct")) | ((with_reducible refine' add_tt ?k1 ?_); (case k1 => walk_at "ct"))))
  | ((with_reducible show DL.dMul _ _ _ _); (first | ((with_reducible refine' mul_ii ?k1 ?_); (case k1 => walk_at "ct"))))
  | ((with_reducible show DL.dSl _ _ _ _ _); (first | with_reducible refine sl_t ?_ | with_reducible refine sl_f ?_))
  | ((with_reducible show DL.dInt1 _ _ _ _); (first | with_reducible refine int1_ok ?_))
  | ((with_reducible show DL.dInt2 _ _ _ _); (first | with_reducible refine int2_ok ?_))
  | ((with_reducible show DL.dInt _ _ _); (first | with_reducible refine int_i ?_ | with_reducible refine int_b ?_))
  | ((with_reducible show DL.dIn _ _ _ _ _); (first | with_reducible refine ins_c ?_))
  | ((with_reducible show DL.dTuple _ _ _); (first | with_reducible refine tup_t ?_ | with_reducible refine tup_f ?_))
  | ((with_reducible show DL.dIx _ _ _ _); (first | ((with_reducible refine' ix_t ?k1 ?_); (case k1 => rfl)) | ((with_reducible refine' ix_f ?k1 ?_); (case k1 => rfl)) | ((with_reducible refine' ix_s ?k1 ?_); (case k1 => rfl)) | ((with_reducible refine' ix_p ?k1 ?_); (case k1 => rfl)) | ((with_reducible refine' ix_o ?k0 ?k1 ?_); (case k0 => assumption); (case k1 => rfl))))
  | ((with_reducible show DL.dIsN _ _ _ _ _); (first | ((with_reducible refine' isn_k ?k1 ?_); (case k1 => walk_at "kd")) | ((with_reducible refine' nisn_k ?k1 ?_); (case k1 => walk_at "kd"))))
  | with_reducible refine ex_bl ?_
  | with_reducible refine ex_int ?_
  | with_reducible refine ex_2 ?_
  | with_reducible refine ex_3 ?_
  | ((with_reducible refine' setL_p ?k1 ?_); (case k1 => rfl))
  | ((with_reducible refine' setL_o ?k0 ?k1 ?_); (case k0 => assumption); (case k1 => rfl))
  | with_reducible refine and_T ?_
  | with_reducible refine and_F ?_
  | ((with_reducible refine and_S ?_ ?_) <;> intro _)
  | with_reducible refine ty_str ?_
  | with_reducible refine ty_put ?_
  | ((with_reducible refine' ty_own ?k1 ?_); (case k1 => assumption))
  | ((with_reducible refine' sz_ok ?k1 ?_); (case k1 => rfl))
  | ((with_reducible refine' sz_as ?k1 ?_); (case k1 => assumption))))
local macro_rules | `(tactic| walk_at "pyA") => `(tactic| repeat' (first
  | ((with_reducible show DL.WE _ _ _ _ _); (first
    | ((with_reducible show DL.WE _ (Expr.Compare _ _ _ _) _ _ _); (first | ((with_reducible refine' we_lele ?_ ?k1); (case k1 => with_unfolding_all rfl)) | with_reducible refine we_lt ?_ | with_reducible refine we_le ?_ | with_reducible refine we_gt ?_ | with_reducible refine we_ge ?_ | with_reducible refine we_is ?_ | with_reducible refine we_isnot ?_ | ((with_reducible refine' x_eq ?k1 ?_); (case k1 => assumption)) | ((with_reducible refine' x_ne ?k1 ?_); (case k1 => assumption)) | ((with_reducible refine' x_in ?k1 ?_ ?k2); (case k1 => assumption); (case k2 => rfl)) | ((with_reducible refine' x_nin ?k1 ?_ ?k2); (case k1 => assumption); (case k2 => rfl))))
    | ((with_reducible show DL.WE _ (Expr.Subscript _ _ _) _ _ _); (first | with_reducible refine we_revT ?_ | with_reducible refine x_sliceA ?_ | ((with_reducible refine' x_ixL ?_ ?k1); (case k1 => (intro _ _; rfl))) | ((with_reducible refine' we_ix ?_ ?k1); (case k1 => (intro _ _; rfl))) | with_reducible refine we_slice ?_))
    | ((with_reducible show DL.WE _ (Expr.Call (Expr.Attribute _ _ _) _ _ _) _ _ _); (first | ((with_reducible refine' x_upper ?_ ?k1 ?k2); (case k1 => rfl); (case k2 => rfl)) | ((with_reducible refine' x_join ?_ ?k1 ?k2 ?k3 ?k4 ?k5); (case k1 => rfl); (case k2 => rfl); (case k3 => rfl); (case k4 => rfl); (case k5 => rfl)) | ((with_reducible refine' x_sindex ?_ ?k1 ?k2 ?k3 ?k4 ?k5); (case k1 => rfl); (case k2 => rfl); (case k3 => rfl); (case k4 => rfl); (case k5 => rfl)) | ((with_reducible refine' x_insert ?_ ?k1 ?k2 ?k3 ?k4 ?k5); (case k1 => rfl); (case k2 => rfl); (case k3 => rfl); (case k4 => rfl); (case k5 => rfl)) | ((with_reducible refine' x_popAt ?_ ?k1 ?k2 ?k3 ?k4 ?k5); (case k1 => rfl); (case k2 => rfl); (case k3 => rfl); (case k4 => rfl); (case k5 => rfl)) | ((with_reducible refine' x_append ?_ ?k1 ?k2 ?k3 ?k4 ?k5); (case k1 => rfl); (case k2 => rfl); (case k3 => rfl); (case k4 => rfl); (case k5 => rfl)) | ((with_reducible refine' x_extend ?_ ?k1 ?k2 ?k3 ?k4 ?k5); (case k1 => rfl); (case k2 => rfl); (case k3 => rfl); (case k4 => rfl); (case k5 => rfl))))
    | ((with_reducible show DL.WE _ (Expr.BinOp _ _ _ _) _ _ _); (first | with_reducible refine x_mulS ?_ | with_reducible refine x_addA ?_ | with_reducible refine x_mulA ?_ | with_reducible refine we_add ?_ | with_reducible refine we_sub' ?_ | with_reducible refine we_mul ?_ | with_reducible refine we_mod ?_ | with_reducible refine we_fdiv ?_ | with_reducible refine we_pow ?_))
    | ((with_reducible show DL.WE _ (Expr.List _ _) _ _ _); (first | with_reducible refine we_lstF ?_))
    | ((with_reducible show DL.WE _ (Expr.Call (Expr.Name _ _) _ _ _) _ _ _); (first | ((with_reducible refine' x_listA ?kx ?kz ?kg ?_ ?k1 ?k2); (case kx => assumption); (case kz => assumption); (case kg => walk_at "gl"); (case k1 => rfl); (case k2 => rfl)) | ((with_reducible refine' x_repr ?kx ?kz ?kg ?_ ?k1 ?k2); (case kx => assumption); (case kz => assumption); (case kg => walk_at "gl"); (case k1 => rfl); (case k2 => rfl)) | ((with_reducible refine' x_isiT ?kx ?kz ?kg ?_ ?k1 ?k2); (case kx => assumption); (case kz => assumption); (case kg => walk_at "gl"); (case k1 => rfl); (case k2 => rfl)) | ((with_reducible refine' x_isi ?kx ?kz ?kg ?_ ?k1 ?k2); (case kx => assumption); (case kz => assumption); (case kg => walk_at "gl"); (case k1 => rfl); (case k2 => rfl)) | ((with_reducible refine' x_len ?kx ?kz ?kg ?_ ?k1 ?k2); (case kx => assumption); (case kz => assumption); (case kg => walk_at "gl"); (case k1 => rfl); (case k2 => rfl)) | ((with_reducible refine' x_abs ?kx ?kz ?kg ?_ ?k1 ?k2); (case kx => assumption); (case kz => assumption); (case kg => walk_at "gl"); (case k1 => rfl); (case k2 => rfl)) | ((with_reducible refine' x_max2 ?kx ?kz ?kg ?_ ?k1 ?k2); (case kx => assumption); (case kz => assumption); (case kg => walk_at "gl"); (case k1 => rfl); (case k2 => rfl)) | ((with_reducible refine' x_min2 ?kx ?kz ?kg ?_ ?k1 ?k2); (case kx => assumption); (case kz => assumption); (case kg => walk_at "gl"); (case k1 => rfl); (case k2 => rfl)) | ((with_reducible refine' x_minL ?kx ?kz ?kg ?_ ?k1 ?k2); (case kx => assumption); (case kz => assumption); (case kg => walk_at "gl"); (case k1 => rfl); (case k2 => rfl)) | ((with_reducible refine' x_any ?kx ?kz ?kg ?_ ?k1 ?k2); (case kx => assumption); (case kz => assumption); (case kg => walk_at "gl"); (case k1 => rfl); (case k2 => rfl)) | ((with_reducible refine' x_all ?kx ?kz ?kg ?_ ?k1 ?k2); (case kx => assumption); (case kz => assumption); (case kg => walk_at "gl"); (case k1 => rfl); (case k2 => rfl)) | ((with_reducible refine' x_sum ?kx ?kz ?kg ?_ ?k1 ?k2); (case kx => assumption); (case kz => assumption); (case kg => walk_at "gl"); (case k1 => rfl); (case k2 => rfl)) | ((with_reducible refine' x_intC ?kx ?kz ?kg ?_ ?k1 ?k2); (case kx => assumption); (case kz => assumption); (case kg => walk_at "gl"); (case k1 => rfl); (case k2 => rfl)) | ((with_reducible refine' x_strC ?kx ?kz ?kg ?_ ?k1 ?k2); (case kx => assumption); (case kz => assumption); (case kg => walk_at "gl"); (case k1 => rfl); (case k2 => rfl)) | ((with_reducible refine' x_tupleC ?kx ?kz ?kg ?_ ?k1 ?k2); (case kx => assumption); (case kz => assumption); (case kg => walk_at "gl"); (case k1 => rfl); (case k2 => rfl)) | ((with_reducible refine' x_listC ?kx ?kz ?kg ?_ ?k1 ?k2); (case kx => assumption); (case kz => assumption); (case kg => walk_at "gl"); (case k1 => rfl); (case k2 => rfl)) | ((with_reducible refine' x_call ?kx ?kh ?kg ?_ ?kl ?kd ?k1 ?k2); (case kh => assumption); (case kx => assumption); (case kg => walk_at "gl"); (case kl => first | decide | omega); (case kd => decide); (case k1 => rfl); (case k2 => rfl))))
    | ((with_reducible show DL.WE _ (Expr.BoolOp _ _ _) _ _ _); (first | with_reducible refine we_and ?_ | with_reducible refine we_or ?_ | with_reducible refine we_one ?_))
    | ((with_reducible show DL.WE _ (Expr.UnaryOp _ _ _) _ _ _); (first | with_reducible refine we_not ?_ | with_reducible refine we_neg ?_))
    | ((with_reducible show DL.WE _ (Expr.IfExp _ _ _ _) _ _ _); (first | with_reducible refine we_if ?_))
    | ((with_reducible show DL.WE _ (Expr.Constant _ _ _) _ _ _); (first | with_reducible refine we_int ?_ | with_reducible refine we_bl ?_ | with_reducible refine we_non ?_ | with_reducible refine we_str ?_))
    | ((with_reducible show DL.WE _ (Expr.Tuple _ _ _) _ _ _); (first | with_reducible refine we_tup ?_))
    | ((with_reducible show DL.WE _ (Expr.Name _ _) _ _ _); (first | ((with_reducible refine' we_nm ?k1 ?k0 ?k2 ?_); (case k1 => assumption); (case k0 => walk_at "nm"); (case k2 => walk_at "nm")) | ((with_reducible refine' x_tyInt ?kx ?kz ?kg ?_); (case kx => assumption); (case kz => assumption); (case kg => walk_at "gl")) | ((with_reducible refine' x_tyBool ?kx ?kz ?kg ?_); (case kx => assumption); (case kz => assumption); (case kg => walk_at "gl")) | ((with_reducible refine' x_tyStr ?kx ?kz ?kg ?_); (case kx => assumption); (case kz => assumption); (case kg => walk_at "gl")) | ((with_reducible refine' x_tyList ?kx ?kz ?kg ?_); (case kx => assumption); (case kz => assumption); (case kg => walk_at "gl")) | ((with_reducible refine' x_tyTuple ?kx ?kz ?kg ?_); (case kx => assumption); (case kz => assumption); (case kg => walk_at "gl")) | ((with_reducible refine' x_glob ?kx ?kh ?kg ?_ ?kd); (case kh => assumption); (case kx => assumption); (case kg => walk_at "gl"); (case kd => decide))))))
  | ((with_reducible show DL.WSs _ _ _ _ _); (first | with_reducible refine wss_cons ?_ | with_reducible refine wss_nil ?_))
  | ((with_reducible show DL.WS _ _ _ _ _); (first
    | ((with_reducible show DL.WS _ (Stmt.If _ _ _ _) _ _ _); (first | ((with_reducible refine' x_ifWge ?kb ?k0 ?kp ?_); (case kb => assumption); (case k0 => walk_at "nm"); (case kp => walk_at "nm")) | with_reducible refine ws_if ?_))
    | ((with_reducible show DL.WS _ (Stmt.Return _ _) _ _ _); (first | with_reducible refine ws_ret ?_ | with_reducible refine ws_retN ?_))
    | ((with_reducible show DL.WS _ (Stmt.Pass _) _ _ _); (first | with_reducible refine ws_pass ?_))
    | ((with_reducible show DL.WS _ (Stmt.Break _) _ _ _); (first | with_reducible refine ws_break ?_))
    | ((with_reducible show DL.WS _ (Stmt.Continue _) _ _ _); (first | with_reducible refine ws_continue ?_))
    | ((with_reducible show DL.WS _ (Stmt.Assign _ _ _) _ _ _); (first | ((with_reducible refine' ws_nm ?kb ?k0 ?kp ?_ ?k1); (case kb => assumption); (case k0 => walk_at "nm"); (case kp => walk_at "nm"); (case k1 => rfl)) | ((with_reducible refine' x_par2 ?kd ?k1 ?k2 ?k3 ?k4 ?k5 ?k6 ?_ ?k7); (case kd => assumption); (case k1 => walk_at "nm"); (case k2 => (intro _; walk_at "nm")); (case k3 => decide +kernel); (case k4 => decide +kernel); (case k5 => decide +kernel); (case k6 => rfl); (case k7 => rfl)) | ((with_reducible refine' x_par3 ?kd ?k1 ?k2 ?k3 ?k4 ?k5 ?k6 ?k7 ?_ ?k8); (case kd => assumption); (case k1 => walk_at "nm"); (case k2 => (intro _; walk_at "nm")); (case k3 => (intro _ _; walk_at "nm")); (case k4 => decide +kernel); (case k5 => decide +kernel); (case k6 => decide +kernel); (case k7 => rfl); (case k8 => rfl)) | ((with_reducible refine' ws_asg ?_ ?k1 ?k2 ?k3); (case k1 => rfl); (case k2 => rfl); (case k3 => rfl)) | ((with_reducible refine' ws_asgD ?kd ?_ ?k1 ?k2 ?k3); (case kd => assumption); (case k1 => rfl); (case k2 => rfl); (case k3 => rfl))))
    | ((with_reducible show DL.WS _ (Stmt.AugAssign _ _ _ _) _ _ _); (first | ((with_reducible refine' ws_augAdd ?kb ?k0 ?kg ?kp ?_); (case kb => assumption); (case k0 => walk_at "nm"); (case kg => walk_at "nm"); (case kp => walk_at "nm"))))
    | ((with_reducible show DL.WS _ (Stmt.Expr _ _) _ _ _); (first | ((with_reducible refine' ws_expr ?_ ?k1); (case k1 => rfl))))))
  | ((with_reducible show DL.WT _ _ _ _ _); (first | ((with_reducible refine' wt_lele ?_ ?k1); (case k1 => with_unfolding_all rfl)) | ((with_reducible refine' xt_eq ?k1 ?_); (case k1 => assumption)) | ((with_reducible refine' xt_ne ?k1 ?_); (case k1 => assumption)) | ((with_reducible refine' xt_in ?k1 ?_ ?k2); (case k1 => assumption); (case k2 => rfl)) | ((with_reducible refine' xt_nin ?k1 ?_ ?k2); (case k1 => assumption); (case k2 => rfl)) | with_reducible refine wt_lt ?_ | with_reducible refine wt_le ?_ | with_reducible refine wt_gt ?_ | with_reducible refine wt_ge ?_ | with_reducible refine wt_is ?_ | with_reducible refine wt_isnot ?_ | with_reducible refine wt_not ?_ | with_reducible refine wt_bo ?_ | ((with_reducible refine' wt_val ?_ ?k1); (case k1 => (intro _; rfl)))))
  | ((with_reducible show DL.WA _ _ _ _ _); (first | with_reducible refine wa_nil ?_ | ((with_reducible refine' wa_cons ?_ ?k1); (case k1 => rfl))))
  | ((with_reducible show DL.WW _ _ _ _ _); (first | with_reducible refine ww_and ?_ | with_reducible refine ww_or ?_ | with_reducible refine ww_and1 ?_ | with_reducible refine ww_or1 ?_))
  | ((with_reducible show DL.WG _ _ _ _ _ _); (first | ((with_reducible refine' wg_nm ?kb ?k0 ?kp ?_); (case kb => assumption); (case k0 => walk_at "nm"); (case kp => walk_at "nm")) | ((with_reducible refine' x_gtup ?kx ?kl ?_ ?k1); (case kx => assumption); (case kl => rfl); (case k1 => rfl)) | ((with_reducible refine' wg_setL ?_ ?k1); (case k1 => (intro _; rfl)))))
  | ((with_reducible show DL.WGs _ _ _ _ _ _); (first | ((with_reducible refine' wgs_cons ?_ ?k1); (case k1 => rfl)) | with_reducible refine wgs_nil ?_))
  | ((with_reducible show DL.WO _ _ _ _ _); (first | with_reducible refine wo_n ?_ | with_reducible refine wo_s ?_))
  | ((with_reducible show DL.FrzA _ _ _); (first | with_reducible refine fa_int ?_ | with_reducible refine fa_str ?_ | with_reducible refine fa_bl ?_ | with_reducible refine fa_non ?_ | with_reducible refine fa_tup ?_ | with_reducible refine fa_lst ?_ | ((with_reducible refine' fa_put ?k1 ?_); (case k1 => assumption))))
  | ((with_reducible show DL.dSl _ _ _ _ _); (first | with_reducible refine slA_f ?_ | with_reducible refine slA_t ?_ | with_reducible refine slA_p ?_ | ((with_reducible refine' slA_o ?k1 ?_); (case k1 => assumption)) | ((with_reducible refine' slA_z ?k1 ?_); (case k1 => walk_at "ct")) | with_reducible refine sl_t ?_ | with_reducible refine sl_f ?_))
  | ((with_reducible show DL.dAdd _ _ _ _); (first | with_reducible refine addA_ii ?_ | ((with_reducible refine' addA_ss ?k1 ?_); (case k1 => walk_at "ct")) | ((with_reducible refine' addA_tt ?k1 ?_); (case k1 => walk_at "ct")) | ((with_reducible refine' addA_ll ?k1 ?_); (case k1 => walk_at "sz")) | ((with_reducible refine' addA_pl ?k1 ?_); (case k1 => walk_at "sz")) | with_reducible refine add_ii ?_ | ((with_reducible refine' add_ss ?k1 ?_); (case k1 => walk_at "ct")) | ((with_reducible refine' add_tt ?k1 ?_); (case k1 => walk_at "ct"))))
  | ((with_reducible show DL.dList _ _ _); (first | with_reducible refine listA_l ?_ | with_reducible refine listA_t ?_ | with_reducible refine listA_p ?_ | ((with_reducible refine' listA_o ?k1 ?_); (case k1 => assumption))))
  | ((with_reducible show DL.dMul _ _ _ _); (first | ((with_reducible refine' mulA_ii ?k1 ?_); (case k1 => walk_at "ct")) | ((with_reducible refine' mul_ii ?k1 ?_); (case k1 => walk_at "ct"))))
  | ((with_reducible show DL.dMulS _ _ _ _); (first | ((with_reducible refine' mul_s ?k1 ?_); (case k1 => decide +kernel))))
  | ((with_reducible show DL.dAppend _ _ _ _); (first | ((with_reducible refine' app_put ?k1 ?_); (case k1 => walk_at "sz"))))
  | ((with_reducible show DL.tb _ _ _); (first | with_reducible refine tb_ok ?_))
  | ((with_reducible show DL.dIsi _ _ _); (first | ((with_reducible refine' isi_int ?k1 ?_); (case k1 => walk_at "kd")) | ((with_reducible refine' isi_bool ?k1 ?_); (case k1 => walk_at "kd")) | ((with_reducible refine' isi_str ?k1 ?_); (case k1 => walk_at "kd")) | ((with_reducible refine' isi_list ?k1 ?_); (case k1 => walk_at "kd")) | ((with_reducible refine' isi_tuple ?k1 ?_); (case k1 => walk_at "kd")) | ((with_reducible refine' isi_ls ?k1 ?_); (case k1 => assumption)) | ((with_reducible refine' isi_lsT ?k1 ?_); (case k1 => assumption))))
  | ((with_reducible show DL.dIsiT _ _ _); (first | ((with_reducible refine' isi_ltT ?k1 ?k2 ?_); (case k1 => rfl); (case k2 => rfl)) | ((with_reducible refine' isi_ltF ?k1 ?k2 ?_); (case k1 => rfl); (case k2 => rfl)) | ((with_reducible refine' isi_lt ?k1 ?_); (case k1 => walk_at "kd")) | ((with_reducible refine' isiT_ls ?k1 ?_); (case k1 => assumption))))
  | ((with_reducible show DL.dLen _ _ _); (first | ((with_reducible refine' len_ls ?k1 ?_); (case k1 => assumption)) | ((with_reducible refine' len_str ?k1 ?_); (case k1 => walk_at "ct")) | with_reducible refine len_tup ?_ | with_reducible refine len_fr ?_ | with_reducible refine len_sl ?_ | ((with_reducible refine' len_own ?k1 ?_); (case k1 => assumption)) | with_reducible refine len_put ?_))
  | ((with_reducible show DL.dEq _ _ _ _ _); (first | with_reducible refine eq_bb ?_ | with_reducible refine ne_bb ?_ | with_reducible refine eq_ii ?_ | with_reducible refine ne_ii ?_))
  | ((with_reducible show DL.dI2 _ _ _ _ _ _); (first | ((with_reducible refine' i2_ok ?k1 ?_); (case k1 => walk_at "ct"))))
  | ((with_reducible show DL.dB2 _ _ _ _ _); (first | with_reducible refine b2_ok ?_))
  | ((with_reducible show DL.dInt1 _ _ _ _); (first | with_reducible refine int1_ok ?_))
  | ((with_reducible show DL.dInt2 _ _ _ _); (first | with_reducible refine int2_ok ?_))
  | ((with_reducible show DL.dInt _ _ _); (first | with_reducible refine int_i ?_ | with_reducible refine int_b ?_))
  | ((with_reducible show DL.dIn _ _ _ _ _); (first | with_reducible refine ins_c ?_))
  | ((with_reducible show DL.dTuple _ _ _); (first | with_reducible refine tup_t ?_ | with_reducible refine tup_f ?_))
  | ((with_reducible show DL.dIx _ _ _ _); (first | ((with_reducible refine' ix_t ?k1 ?_); (case k1 => rfl)) | ((with_reducible refine' ix_f ?k1 ?_); (case k1 => rfl)) | ((with_reducible refine' ix_s ?k1 ?_); (case k1 => rfl)) | ((with_reducible refine' ix_p ?k1 ?_); (case k1 => rfl)) | ((with_reducible refine' ix_o ?k0 ?k1 ?_); (case k0 => assumption); (case k1 => rfl))))
  | ((with_reducible show DL.dIsN _ _ _ _ _); (first | ((with_reducible refine' isn_k ?k1 ?_); (case k1 => walk_at "kd")) | ((with_reducible refine' nisn_k ?k1 ?_); (case k1 => walk_at "kd"))))
  | with_reducible refine ex_bl ?_
  | with_reducible refine ex_int ?_
  | with_reducible refine ex_2 ?_
  | with_reducible refine ex_3 ?_
  | ((with_reducible refine' setL_p ?k1 ?_); (case k1 => rfl))
  | ((with_reducible refine' setL_o ?k0 ?k1 ?_); (case k0 => assumption); (case k1 => rfl))
  | with_reducible refine and_T ?_
  | with_reducible refine and_F ?_
  | ((with_reducible refine and_S ?_ ?_) <;> intro _)
  | with_reducible refine ty_str ?_
  | with_reducible refine ty_put ?_
  | ((with_reducible refine' ty_own ?k1 ?_); (case k1 => assumption))
  | ((with_reducible refine' sz_ok ?k1 ?_); (case k1 => rfl))
  | ((with_reducible refine' sz_as ?k1 ?_); (case k1 => assumption))))
local macro_rules | `(tactic| walk_at "pyR") => `(tactic| repeat' (first
  | ((with_reducible show DL.WE _ _ _ _ _); (first
    | ((with_reducible show DL.WE _ (Expr.Compare _ _ _ _) _ _ _); (first | ((with_reducible refine' we_lele ?_ ?k1); (case k1 => with_unfolding_all rfl)) | with_reducible refine we_lt ?_ | with_reducible refine we_le ?_ | with_reducible refine we_gt ?_ | with_reducible refine we_ge ?_ | with_reducible refine we_is ?_ | with_reducible refine we_isnot ?_ | ((with_reducible refine' x_eq ?k1 ?_); (case k1 => assumption)) | ((with_reducible refine' x_ne ?k1 ?_); (case k1 => assumption)) | ((with_reducible refine' x_in ?k1 ?_ ?k2); (case k1 => assumption); (case k2 => rfl)) | ((with_reducible refine' x_nin ?k1 ?_ ?k2); (case k1 => assumption); (case k2 => rfl))))
    | ((with_reducible show DL.WE _ (Expr.Subscript _ _ _) _ _ _); (first | with_reducible refine we_revT ?_ | ((with_reducible refine' x_ixL ?_ ?k1); (case k1 => (intro _ _; rfl))) | ((with_reducible refine' we_ix ?_ ?k1); (case k1 => (intro _ _; rfl))) | with_reducible refine we_slice ?_))
    | ((with_reducible show DL.WE _ (Expr.Call (Expr.Attribute _ _ _) _ _ _) _ _ _); (first | ((with_reducible refine' x_upper ?_ ?k1 ?k2); (case k1 => rfl); (case k2 => rfl)) | ((with_reducible refine' x_join ?_ ?k1 ?k2 ?k3 ?k4 ?k5); (case k1 => rfl); (case k2 => rfl); (case k3 => rfl); (case k4 => rfl); (case k5 => rfl)) | ((with_reducible refine' x_sindex ?_ ?k1 ?k2 ?k3 ?k4 ?k5); (case k1 => rfl); (case k2 => rfl); (case k3 => rfl); (case k4 => rfl); (case k5 => rfl)) | ((with_reducible refine' x_insert ?_ ?k1 ?k2 ?k3 ?k4 ?k5); (case k1 => rfl); (case k2 => rfl); (case k3 => rfl); (case k4 => rfl); (case k5 => rfl)) | ((with_reducible refine' x_popAt ?_ ?k1 ?k2 ?k3 ?k4 ?k5); (case k1 => rfl); (case k2 => rfl); (case k3 => rfl); (case k4 => rfl); (case k5 => rfl)) | ((with_reducible refine' x_append ?_ ?k1 ?k2 ?k3 ?k4 ?k5); (case k1 => rfl); (case k2 => rfl); (case k3 => rfl); (case k4 => rfl); (case k5 => rfl)) | ((with_reducible refine' x_extend ?_ ?k1 ?k2 ?k3 ?k4 ?k5); (case k1 => rfl); (case k2 => rfl); (case k3 => rfl); (case k4 => rfl); (case k5 => rfl))))
    | ((with_reducible show DL.WE _ (Expr.Call (Expr.Name _ _) _ _ _) _ _ _); (first | ((with_reducible refine' x_repr ?kx ?kz ?kg ?_ ?k1 ?k2); (case kx => assumption); (case kz => assumption); (case kg => walk_at "gl"); (case k1 => rfl); (case k2 => rfl)) | ((with_reducible refine' x_isiT ?kx ?kz ?kg ?_ ?k1 ?k2); (case kx => assumption); (case kz => assumption); (case kg => walk_at "gl"); (case k1 => rfl); (case k2 => rfl)) | ((with_reducible refine' x_isi ?kx ?kz ?kg ?_ ?k1 ?k2); (case kx => assumption); (case kz => assumption); (case kg => walk_at "gl"); (case k1 => rfl); (case k2 => rfl)) | ((with_reducible refine' x_len ?kx ?kz ?kg ?_ ?k1 ?k2); (case kx => assumption); (case kz => assumption); (case kg => walk_at "gl"); (case k1 => rfl); (case k2 => rfl)) | ((with_reducible refine' x_abs ?kx ?kz ?kg ?_ ?k1 ?k2); (case kx => assumption); (case kz => assumption); (case kg => walk_at "gl"); (case k1 => rfl); (case k2 => rfl)) | ((with_reducible refine' x_max2 ?kx ?kz ?kg ?_ ?k1 ?k2); (case kx => assumption); (case kz => assumption); (case kg => walk_at "gl"); (case k1 => rfl); (case k2 => rfl)) | ((with_reducible refine' x_min2 ?kx ?kz ?kg ?_ ?k1 ?k2); (case kx => assumption); (case kz => assumption); (case kg => walk_at "gl"); (case k1 => rfl); (case k2 => rfl)) | ((with_reducible refine' x_minL ?kx ?kz ?kg ?_ ?k1 ?k2); (case kx => assumption); (case kz => assumption); (case kg => walk_at "gl"); (case k1 => rfl); (case k2 => rfl)) | ((with_reducible refine' x_any ?kx ?kz ?kg ?_ ?k1 ?k2); (case kx => assumption); (case kz => assumption); (case kg => walk_at "gl"); (case k1 => rfl); (case k2 => rfl)) | ((with_reducible refine' x_all ?kx ?kz ?kg ?_ ?k1 ?k2); (case kx => assumption); (case kz => assumption); (case kg => walk_at "gl"); (case k1 => rfl); (case k2 => rfl)) | ((with_reducible refine' x_sum ?kx ?kz ?kg ?_ ?k1 ?k2); (case kx => assumption); (case kz => assumption); (case kg => walk_at "gl"); (case k1 => rfl); (case k2 => rfl)) | ((with_reducible refine' x_intC ?kx ?kz ?kg ?_ ?k1 ?k2); (case kx => assumption); (case kz => assumption); (case kg => walk_at "gl"); (case k1 => rfl); (case k2 => rfl)) | ((with_reducible refine' x_strC ?kx ?kz ?kg ?_ ?k1 ?k2); (case kx => assumption); (case kz => assumption); (case kg => walk_at "gl"); (case k1 => rfl); (case k2 => rfl)) | ((with_reducible refine' x_tupleC ?kx ?kz ?kg ?_ ?k1 ?k2); (case kx => assumption); (case kz => assumption); (case kg => walk_at "gl"); (case k1 => rfl); (case k2 => rfl)) | ((with_reducible refine' x_listC ?kx ?kz ?kg ?_ ?k1 ?k2); (case kx => assumption); (case kz => assumption); (case kg => walk_at "gl"); (case k1 => rfl); (case k2 => rfl)) | ((with_reducible refine' x_call ?kx ?kh ?kg ?_ ?kl ?kd ?k1 ?k2); (case kh => assumption); (case kx => assumption); (case kg => walk_at "gl"); (case kl => first | decide | omega); (case kd => decide); (case k1 => rfl); (case k2 => rfl))))
    | ((with_reducible show DL.WE _ (Expr.BoolOp _ _ _) _ _ _); (first | with_reducible refine we_and ?_ | with_reducible refine we_or ?_ | with_reducible refine we_one ?_))
    | ((with_reducible show DL.WE _ (Expr.UnaryOp _ _ _) _ _ _); (first | with_reducible refine we_not ?_ | with_reducible refine we_neg ?_))
    | ((with_reducible show DL.WE _ (Expr.IfExp _ _ _ _) _ _ _); (first | with_reducible refine we_if ?_))
    | ((with_reducible show DL.WE _ (Expr.Constant _ _ _) _ _ _); (first | with_reducible refine we_int ?_ | with_reducible refine we_bl ?_ | with_reducible refine we_non ?_ | with_reducible refine we_str ?_))
    | ((with_reducible show DL.WE _ (Expr.Tuple _ _ _) _ _ _); (first | with_reducible refine we_tup ?_))
    | ((with_reducible show DL.WE _ (Expr.Name _ _) _ _ _); (first | ((with_reducible refine' we_nm ?k1 ?k0 ?k2 ?_); (case k1 => assumption); (case k0 => walk_at "nm"); (case k2 => walk_at "nm")) | ((with_reducible refine' x_tyInt ?kx ?kz ?kg ?_); (case kx => assumption); (case kz => assumption); (case kg => walk_at "gl")) | ((with_reducible refine' x_tyBool ?kx ?kz ?kg ?_); (case kx => assumption); (case kz => assumption); (case kg => walk_at "gl")) | ((with_reducible refine' x_tyStr ?kx ?kz ?kg ?_); (case kx => assumption); (case kz => assumption); (case kg => walk_at "gl")) | ((with_reducible refine' x_tyList ?kx ?kz ?kg ?_); (case kx => assumption); (case kz => assumption); (case kg => walk_at "gl")) | ((with_reducible refine' x_tyTuple ?kx ?kz ?kg ?_); (case kx => assumption); (case kz => assumption); (case kg => walk_at "gl")) | ((with_reducible refine' x_glob ?kx ?kh ?kg ?_ ?kd); (case kh => assumption); (case kx => assumption); (case kg => walk_at "gl"); (case kd => decide))))
    | ((with_reducible show DL.WE _ (Expr.BinOp _ _ _ _) _ _ _); (first | with_reducible refine we_add ?_ | with_reducible refine we_sub' ?_ | with_reducible refine we_mul ?_ | with_reducible refine we_mod ?_ | with_reducible refine we_fdiv ?_ | with_reducible refine we_pow ?_))))
  | ((with_reducible show DL.WSs _ _ _ _ _); (first | with_reducible refine wss_cons ?_ | with_reducible refine wss_nil ?_))
  | ((with_reducible show DL.WS _ _ _ _ _); (first
    | ((with_reducible show DL.WS _ (Stmt.If _ _ _ _) _ _ _); (first | ((with_reducible refine' x_ifWge ?kb ?k0 ?kp ?_); (case kb => assumption); (case k0 => walk_at "nm"); (case kp => walk_at "nm")) | with_reducible refine ws_if ?_))
    | ((with_reducible show DL.WS _ (Stmt.Return _ _) _ _ _); (first | with_reducible refine ws_ret ?_ | with_reducible refine ws_retN ?_))
    | ((with_reducible show DL.WS _ (Stmt.Pass _) _ _ _); (first | with_reducible refine ws_pass ?_))
    | ((with_reducible show DL.WS _ (Stmt.Break _) _ _ _); (first | with_reducible refine ws_break ?_))
    | ((with_reducible show DL.WS _ (Stmt.Continue _) _ _ _); (first | with_reducible refine ws_continue ?_))
    | ((with_reducible show DL.WS _ (Stmt.Assign _ _ _) _ _ _); (first | ((with_reducible refine' ws_nm ?kb ?k0 ?kp ?_ ?k1); (case kb => assumption); (case k0 => walk_at "nm"); (case kp => walk_at "nm"); (case k1 => rfl)) | ((with_reducible refine' x_par2 ?kd ?k1 ?k2 ?k3 ?k4 ?k5 ?k6 ?_ ?k7); (case kd => assumption); (case k1 => walk_at "nm"); (case k2 => (intro _; walk_at "nm")); (case k3 => decide +kernel); (case k4 => decide +kernel); (case k5 => decide +kernel); (case k6 => rfl); (case k7 => rfl)) | ((with_reducible refine' x_par3 ?kd ?k1 ?k2 ?k3 ?k4 ?k5 ?k6 ?k7 ?_ ?k8); (case kd => assumption); (case k1 => walk_at "nm"); (case k2 => (intro _; walk_at "nm")); (case k3 => (intro _ _; walk_at "nm")); (case k4 => decide +kernel); (case k5 => decide +kernel); (case k6 => decide +kernel); (case k7 => rfl); (case k8 => rfl)) | ((with_reducible refine' ws_asg ?_ ?k1 ?k2 ?k3); (case k1 => rfl); (case k2 => rfl); (case k3 => rfl)) | ((with_reducible refine' ws_asgD ?kd ?_ ?k1 ?k2 ?k3); (case kd => assumption); (case k1 => rfl); (case k2 => rfl); (case k3 => rfl))))
    | ((with_reducible show DL.WS _ (Stmt.AugAssign _ _ _ _) _ _ _); (first | ((with_reducible refine' ws_augAdd ?kb ?k0 ?kg ?kp ?_); (case kb => assumption); (case k0 => walk_at "nm"); (case kg => walk_at "nm"); (case kp => walk_at "nm"))))
    | ((with_reducible show DL.WS _ (Stmt.Expr _ _) _ _ _); (first | ((with_reducible refine' ws_expr ?_ ?k1); (case k1 => rfl))))))
  | ((with_reducible show DL.WT _ _ _ _ _); (first | ((with_reducible refine' wt_lele ?_ ?k1); (case k1 => with_unfolding_all rfl)) | ((with_reducible refine' xt_eq ?k1 ?_); (case k1 => assumption)) | ((with_reducible refine' xt_ne ?k1 ?_); (case k1 => assumption)) | ((with_reducible refine' xt_in ?k1 ?_ ?k2); (case k1 => assumption); (case k2 => rfl)) | ((with_reducible refine' xt_nin ?k1 ?_ ?k2); (case k1 => assumption); (case k2 => rfl)) | with_reducible refine wt_lt ?_ | with_reducible refine wt_le ?_ | with_reducible refine wt_gt ?_ | with_reducible refine wt_ge ?_ | with_reducible refine wt_is ?_ | with_reducible refine wt_isnot ?_ | with_reducible refine wt_not ?_ | with_reducible refine wt_bo ?_ | ((with_reducible refine' wt_val ?_ ?k1); (case k1 => (intro _; rfl)))))
  | ((with_reducible show DL.WA _ _ _ _ _); (first | with_reducible refine wa_nil ?_ | ((with_reducible refine' wa_cons ?_ ?k1); (case k1 => rfl))))
  | ((with_reducible show DL.WW _ _ _ _ _); (first | with_reducible refine ww_and ?_ | with_reducible refine ww_or ?_ | with_reducible refine ww_and1 ?_ | with_reducible refine ww_or1 ?_))
  | ((with_reducible show DL.WG _ _ _ _ _ _); (first | ((with_reducible refine' wg_nm ?kb ?k0 ?kp ?_); (case kb => assumption); (case k0 => walk_at "nm"); (case kp => walk_at "nm")) | ((with_reducible refine' x_gtup ?kx ?kl ?_ ?k1); (case kx => assumption); (case kl => rfl); (case k1 => rfl)) | ((with_reducible refine' wg_setL ?_ ?k1); (case k1 => (intro _; rfl)))))
  | ((with_reducible show DL.WGs _ _ _ _ _ _); (first | ((with_reducible refine' wgs_cons ?_ ?k1); (case k1 => rfl)) | with_reducible refine wgs_nil ?_))
  | ((with_reducible show DL.WO _ _ _ _ _); (first | with_reducible refine wo_n ?_ | with_reducible refine wo_s ?_))
  | ((with_reducible show DL.tb _ _ _); (first | with_reducible refine tb_ok ?_))
  | ((with_reducible show DL.dIsi _ _ _); (first | ((with_reducible refine' isi_int ?k1 ?_); (case k1 => walk_at "kd")) | ((with_reducible refine' isi_bool ?k1 ?_); (case k1 => walk_at "kd")) | ((with_reducible refine' isi_str ?k1 ?_); (case k1 => walk_at "kd")) | ((with_reducible refine' isi_list ?k1 ?_); (case k1 => walk_at "kd")) | ((with_reducible refine' isi_tuple ?k1 ?_); (case k1 => walk_at "kd")) | ((with_reducible refine' isi_ls ?k1 ?_); (case k1 => assumption)) | ((with_reducible refine' isi_lsT ?k1 ?_); (case k1 => assumption))))
  | ((with_reducible show DL.dIsiT _ _ _); (first | ((with_reducible refine' isi_ltT ?k1 ?k2 ?_); (case k1 => rfl); (case k2 => rfl)) | ((with_reducible refine' isi_ltF ?k1 ?k2 ?_); (case k1 => rfl); (case k2 => rfl)) | ((with_reducible refine' isi_lt ?k1 ?_); (case k1 => walk_at "kd")) | ((with_reducible refine' isiT_ls ?k1 ?_); (case k1 => assumption))))
  | ((with_reducible show DL.dLen _ _ _); (first | ((with_reducible refine' len_ls ?k1 ?_); (case k1 => assumption)) | ((with_reducible refine' len_str ?k1 ?_); (case k1 => walk_at "ct")) | with_reducible refine len_tup ?_ | with_reducible refine len_fr ?_ | with_reducible refine len_sl ?_ | ((with_reducible refine' len_own ?k1 ?_); (case k1 => assumption)) | with_reducible refine len_put ?_))
  | ((with_reducible show DL.dEq _ _ _ _ _); (first | with_reducible refine eq_bb ?_ | with_reducible refine ne_bb ?_ | with_reducible refine eq_ii ?_ | with_reducible refine ne_ii ?_))
  | ((with_reducible show DL.dI2 _ _ _ _ _ _); (first | ((with_reducible refine' i2_ok ?k1 ?_); (case k1 => walk_at "ct"))))
  | ((with_reducible show DL.dB2 _ _ _ _ _); (first | with_reducible refine b2_ok ?_))
  | ((with_reducible show DL.dAdd _ _ _ _); (first | with_reducible refine add_ii ?_ | ((with_reducible refine' add_ss ?k1 ?_); (case k1 => walk_at "ct")) | ((with_reducible refine' add_tt ?k1 ?_); (case k1 => walk_at "ct"))))
  | ((with_reducible show DL.dMul _ _ _ _); (first | ((with_reducible refine' mul_ii ?k1 ?_); (case k1 => walk_at "ct"))))
  | ((with_reducible show DL.dSl _ _ _ _ _); (first | with_reducible refine sl_t ?_ | with_reducible refine sl_f ?_))
  | ((with_reducible show DL.dInt1 _ _ _ _); (first | with_reducible refine int1_ok ?_))
  | ((with_reducible show DL.dInt2 _ _ _ _); (first | with_reducible refine int2_ok ?_))
  | ((with_reducible show DL.dInt _ _ _); (first | with_reducible refine int_i ?_ | with_reducible refine int_b ?_))
  | ((with_reducible show DL.dIn _ _ _ _ _); (first | with_reducible refine ins_c ?_))
  | ((with_reducible show DL.dTuple _ _ _); (first | with_reducible refine tup_t ?_ | with_reducible refine tup_f ?_))
  | ((with_reducible show DL.dIx _ _ _ _); (first | ((with_reducible refine' ix_t ?k1 ?_); (case k1 => rfl)) | ((with_reducible refine' ix_f ?k1 ?_); (case k1 => rfl)) | ((with_reducible refine' ix_s ?k1 ?_); (case k1 => rfl)) | ((with_reducible refine' ix_p ?k1 ?_); (case k1 => rfl)) | ((with_reducible refine' ix_o ?k0 ?k1 ?_); (case k0 => assumption); (case k1 => rfl))))
  | ((with_reducible show DL.dIsN _ _ _ _ _); (first | ((with_reducible refine' isn_k ?k1 ?_); (case k1 => walk_at "kd")) | ((with_reducible refine' nisn_k ?k1 ?_); (case k1 => walk_at "kd"))))
  | with_reducible refine ex_bl ?_
  | with_reducible refine ex_int ?_
  | with_reducible refine ex_2 ?_
  | with_reducible refine ex_3 ?_
  | ((with_reducible refine' setL_p ?k1 ?_); (case k1 => rfl))
  | ((with_reducible refine' setL_o ?k0 ?k1 ?_); (case k0 => assumption); (case k1 => rfl))
  | with_reducible refine and_T ?_
  | with_reducible refine and_F ?_
  | ((with_reducible refine and_S ?_ ?_) <;> intro _)
  | with_reducible refine ty_str ?_
  | with_reducible refine ty_put ?_
  | ((with_reducible refine' ty_own ?k1 ?_); (case k1 => assumption))
  | ((with_reducible refine' sz_ok ?k1 ?_); (case k1 => rfl))
  | ((with_reducible refine' sz_as ?k1 ?_); (case k1 => assumption))))
local macro_rules | `(tactic| walk_at "pyC") => `(tactic| repeat' (first
  | ((with_reducible show DL.WE _ _ _ _ _); (first
    | ((with_reducible show DL.WE _ (Expr.Subscript _ _ _) _ _ _); (first | ((with_reducible refine' x_ixD ?kx ?_ ?k1); (case kx => assumption); (case k1 => (intro _ _; rfl))) | with_reducible refine we_revT ?_ | ((with_reducible refine' x_ixL ?_ ?k1); (case k1 => (intro _ _; rfl))) | ((with_reducible refine' we_ix ?_ ?k1); (case k1 => (intro _ _; rfl))) | with_reducible refine we_slice ?_))
    | ((with_reducible show DL.WE _ (Expr.Compare _ _ _ _) _ _ _); (first | ((with_reducible refine' x_inX ?kx ?_ ?k1); (case kx => assumption); (case k1 => rfl)) | ((with_reducible refine' x_ninX ?kx ?_ ?k1); (case kx => assumption); (case k1 => rfl)) | ((with_reducible refine' we_lele ?_ ?k1); (case k1 => with_unfolding_all rfl)) | with_reducible refine we_lt ?_ | with_reducible refine we_le ?_ | with_reducible refine we_gt ?_ | with_reducible refine we_ge ?_ | with_reducible refine we_is ?_ | with_reducible refine we_isnot ?_ | ((with_reducible refine' x_eq ?k1 ?_); (case k1 => assumption)) | ((with_reducible refine' x_ne ?k1 ?_); (case k1 => assumption)) | ((with_reducible refine' x_in ?k1 ?_ ?k2); (case k1 => assumption); (case k2 => rfl)) | ((with_reducible refine' x_nin ?k1 ?_ ?k2); (case k1 => assumption); (case k2 => rfl))))
    | ((with_reducible show DL.WE _ (Expr.Call (Expr.Name _ _) _ _ _) _ _ _); (first | ((with_reducible refine' x_lenX ?kx ?kz ?kg ?_ ?k1 ?k2); (case kx => assumption); (case kz => assumption); (case kg => walk_at "gl"); (case k1 => rfl); (case k2 => rfl)) | ((with_reducible refine' x_dictP ?kx ?kz ?kg ?_ ?k1 ?k2); (case kx => assumption); (case kz => assumption); (case kg => walk_at "gl"); (case k1 => rfl); (case k2 => rfl)) | ((with_reducible refine' x_sortedK ?kx ?kz ?kg ?_ ?k1 ?k2); (case kx => assumption); (case kz => assumption); (case kg => walk_at "gl"); (case k1 => rfl); (case k2 => rfl)) | ((with_reducible refine' x_repr ?kx ?kz ?kg ?_ ?k1 ?k2); (case kx => assumption); (case kz => assumption); (case kg => walk_at "gl"); (case k1 => rfl); (case k2 => rfl)) | ((with_reducible refine' x_isiT ?kx ?kz ?kg ?_ ?k1 ?k2); (case kx => assumption); (case kz => assumption); (case kg => walk_at "gl"); (case k1 => rfl); (case k2 => rfl)) | ((with_reducible refine' x_isi ?kx ?kz ?kg ?_ ?k1 ?k2); (case kx => assumption); (case kz => assumption); (case kg => walk_at "gl"); (case k1 => rfl); (case k2 => rfl)) | ((with_reducible refine' x_len ?kx ?kz ?kg ?_ ?k1 ?k2); (case kx => assumption); (case kz => assumption); (case kg => walk_at "gl"); (case k1 => rfl); (case k2 => rfl)) | ((with_reducible refine' x_abs ?kx ?kz ?kg ?_ ?k1 ?k2); (case kx => assumption); (case kz => assumption); (case kg => walk_at "gl"); (case k1 => rfl); (case k2 => rfl)) | ((with_reducible refine' x_max2 ?kx ?kz ?kg ?_ ?k1 ?k2); (case kx => assumption); (case kz => assumption); (case kg => walk_at "gl"); (case k1 => rfl); (case k2 => rfl)) | ((with_reducible refine' x_min2 ?kx ?kz ?kg ?_ ?k1 ?k2); (case kx => assumption); (case kz => assumption); (case kg => walk_at "gl"); (case k1 => rfl); (case k2 => rfl)) | ((with_reducible refine' x_minL ?kx ?kz ?kg ?_ ?k1 ?k2); (case kx => assumption); (case kz => assumption); (case kg => walk_at "gl"); (case k1 => rfl); (case k2 => rfl)) | ((with_reducible refine' x_any ?kx ?kz ?kg ?_ ?k1 ?k2); (case kx => assumption); (case kz => assumption); (case kg => walk_at "gl"); (case k1 => rfl); (case k2 => rfl)) | ((with_reducible refine' x_all ?kx ?kz ?kg ?_ ?k1 ?k2); (case kx => assumption); (case kz => assumption); (case kg => walk_at "gl"); (case k1 => rfl); (case k2 => rfl)) | ((with_reducible refine' x_sum ?kx ?kz ?kg ?_ ?k1 ?k2); (case kx => assumption); (case kz => assumption); (case kg => walk_at "gl"); (case k1 => rfl); (case k2 => rfl)) | ((with_reducible refine' x_intC ?kx ?kz ?kg ?_ ?k1 ?k2); (case kx => assumption); (case kz => assumption); (case kg => walk_at "gl"); (case k1 => rfl); (case k2 => rfl)) | ((with_reducible refine' x_strC ?kx ?kz ?kg ?_ ?k1 ?k2); (case kx => assumption); (case kz => assumption); (case kg => walk_at "gl"); (case k1 => rfl); (case k2 => rfl)) | ((with_reducible refine' x_tupleC ?kx ?kz ?kg ?_ ?k1 ?k2); (case kx => assumption); (case kz => assumption); (case kg => walk_at "gl"); (case k1 => rfl); (case k2 => rfl)) | ((with_reducible refine' x_listC ?kx ?kz ?kg ?_ ?k1 ?k2); (case kx => assumption); (case kz => assumption); (case kg => walk_at "gl"); (case k1 => rfl); (case k2 => rfl)) | ((with_reducible refine' x_call ?kx ?kh ?kg ?_ ?kl ?kd ?k1 ?k2); (case kh => assumption); (case kx => assumption); (case kg => walk_at "gl"); (case kl => first | decide | omega); (case kd => decide); (case k1 => rfl); (case k2 => rfl))))
    | ((with_reducible show DL.WE _ (Expr.Attribute _ _ _) _ _ _); (first | ((with_reducible refine' x_fld ?kx ?_ ?k1); (case kx => assumption); (case k1 => rfl))))
    | ((with_reducible show DL.WE _ (Expr.Dict _ _ _) _ _ _); (first | with_reducible refine x_dnew ?_))
    | ((with_reducible show DL.WE _ (Expr.Call (Expr.Attribute _ _ _) _ _ _) _ _ _); (first | ((with_reducible refine' x_stripC ?_ ?k1 ?k2 ?k3 ?k4 ?k5); (case k1 => rfl); (case k2 => rfl); (case k3 => rfl); (case k4 => rfl); (case k5 => rfl)) | ((with_reducible refine' x_dget2 ?kx ?_ ?km); (case kx => assumption); (case km => exact ⟨rfl, rfl, rfl, rfl⟩)) | ((with_reducible refine' x_dpop1 ?_ ?km); (case km => exact ⟨rfl, rfl, rfl, rfl⟩)) | ((with_reducible refine' x_upper ?_ ?k1 ?k2); (case k1 => rfl); (case k2 => rfl)) | ((with_reducible refine' x_join ?_ ?k1 ?k2 ?k3 ?k4 ?k5); (case k1 => rfl); (case k2 => rfl); (case k3 => rfl); (case k4 => rfl); (case k5 => rfl)) | ((with_reducible refine' x_sindex ?_ ?k1 ?k2 ?k3 ?k4 ?k5); (case k1 => rfl); (case k2 => rfl); (case k3 => rfl); (case k4 => rfl); (case k5 => rfl)) | ((with_reducible refine' x_insert ?_ ?k1 ?k2 ?k3 ?k4 ?k5); (case k1 => rfl); (case k2 => rfl); (case k3 => rfl); (case k4 => rfl); (case k5 => rfl)) | ((with_reducible refine' x_popAt ?_ ?k1 ?k2 ?k3 ?k4 ?k5); (case k1 => rfl); (case k2 => rfl); (case k3 => rfl); (case k4 => rfl); (case k5 => rfl)) | ((with_reducible refine' x_append ?_ ?k1 ?k2 ?k3 ?k4 ?k5); (case k1 => rfl); (case k2 => rfl); (case k3 => rfl); (case k4 => rfl); (case k5 => rfl)) | ((with_reducible refine' x_extend ?_ ?k1 ?k2 ?k3 ?k4 ?k5); (case k1 => rfl); (case k2 => rfl); (case k3 => rfl); (case k4 => rfl); (case k5 => rfl))))
    | ((with_reducible show DL.WE _ (Expr.BoolOp _ _ _) _ _ _); (first | with_reducible refine we_and ?_ | with_reducible refine we_or ?_ | with_reducible refine we_one ?_))
    | ((with_reducible show DL.WE _ (Expr.UnaryOp _ _ _) _ _ _); (first | with_reducible refine we_not ?_ | with_reducible refine we_neg ?_))
    | ((with_reducible show DL.WE _ (Expr.IfExp _ _ _ _) _ _ _); (first | with_reducible refine we_if ?_))
    | ((with_reducible show DL.WE _ (Expr.Constant _ _ _) _ _ _); (first | with_reducible refine we_int ?_ | with_reducible refine we_bl ?_ | with_reducible refine we_non ?_ | with_reducible refine we_str ?_))
    | ((with_reducible show DL.WE _ (Expr.Tuple _ _ _) _ _ _); (first | with_reducible refine we_tup ?_))
    | ((with_reducible show DL.WE _ (Expr.Name _ _) _ _ _); (first | ((with_reducible refine' we_nm ?k1 ?k0 ?k2 ?_); (case k1 => assumption); (case k0 => walk_at "nm"); (case k2 => walk_at "nm")) | ((with_reducible refine' x_tyInt ?kx ?kz ?kg ?_); (case kx => assumption); (case kz => assumption); (case kg => walk_at "gl")) | ((with_reducible refine' x_tyBool ?kx ?kz ?kg ?_); (case kx => assumption); (case kz => assumption); (case kg => walk_at "gl")) | ((with_reducible refine' x_tyStr ?kx ?kz ?kg ?_); (case kx => assumption); (case kz => assumption); (case kg => walk_at "gl")) | ((with_reducible refine' x_tyList ?kx ?kz ?kg ?_); (case kx => assumption); (case kz => assumption); (case kg => walk_at "gl")) | ((with_reducible refine' x_tyTuple ?kx ?kz ?kg ?_); (case kx => assumption); (case kz => assumption); (case kg => walk_at "gl")) | ((with_reducible refine' x_glob ?kx ?kh ?kg ?_ ?kd); (case kh => assumption); (case kx => assumption); (case kg => walk_at "gl"); (case kd => decide))))
    | ((with_reducible show DL.WE _ (Expr.BinOp _ _ _ _) _ _ _); (first | with_reducible refine we_add ?_ | with_reducible refine we_sub' ?_ | with_reducible refine we_mul ?_ | with_reducible refine we_mod ?_ | with_reducible refine we_fdiv ?_ | with_reducible refine we_pow ?_))))
  | ((with_reducible show DL.WSs _ _ _ _ _); (first | with_reducible refine wss_cons ?_ | with_reducible refine wss_nil ?_))
  | ((with_reducible show DL.WS _ _ _ _ _); (first
    | ((with_reducible show DL.WS _ (Stmt.Assign _ _ _) _ _ _); (first | ((with_reducible refine' x_setFld ?kx ?_ ?k1); (case kx => assumption); (case k1 => rfl)) | ((with_reducible refine' ws_nm ?kb ?k0 ?kp ?_ ?k1); (case kb => assumption); (case k0 => walk_at "nm"); (case kp => walk_at "nm"); (case k1 => rfl)) | ((with_reducible refine' x_par2 ?kd ?k1 ?k2 ?k3 ?k4 ?k5 ?k6 ?_ ?k7); (case kd => assumption); (case k1 => walk_at "nm"); (case k2 => (intro _; walk_at "nm")); (case k3 => decide +kernel); (case k4 => decide +kernel); (case k5 => decide +kernel); (case k6 => rfl); (case k7 => rfl)) | ((with_reducible refine' x_par3 ?kd ?k1 ?k2 ?k3 ?k4 ?k5 ?k6 ?k7 ?_ ?k8); (case kd => assumption); (case k1 => walk_at "nm"); (case k2 => (intro _; walk_at "nm")); (case k3 => (intro _ _; walk_at "nm")); (case k4 => decide +kernel); (case k5 => decide +kernel); (case k6 => decide +kernel); (case k7 => rfl); (case k8 => rfl)) | ((with_reducible refine' ws_asg ?_ ?k1 ?k2 ?k3); (case k1 => rfl); (case k2 => rfl); (case k3 => rfl)) | ((with_reducible refine' ws_asgD ?kd ?_ ?k1 ?k2 ?k3); (case kd => assumption); (case k1 => rfl); (case k2 => rfl); (case k3 => rfl))))
    | ((with_reducible show DL.WS _ (Stmt.Delete _ _) _ _ _); (first | ((with_reducible refine' x_ddel ?_))))
    | ((with_reducible show DL.WS _ (Stmt.If _ _ _ _) _ _ _); (first | ((with_reducible refine' x_ifWge ?kb ?k0 ?kp ?_); (case kb => assumption); (case k0 => walk_at "nm"); (case kp => walk_at "nm")) | with_reducible refine ws_if ?_))
    | ((with_reducible show DL.WS _ (Stmt.Return _ _) _ _ _); (first | with_reducible refine ws_ret ?_ | with_reducible refine ws_retN ?_))
    | ((with_reducible show DL.WS _ (Stmt.Pass _) _ _ _); (first | with_reducible refine ws_pass ?_))
    | ((with_reducible show DL.WS _ (Stmt.Break _) _ _ _); (first | with_reducible refine ws_break ?_))
    | ((with_reducible show DL.WS _ (Stmt.Continue _) _ _ _); (first | with_reducible refine ws_continue ?_))
    | ((with_reducible show DL.WS _ (Stmt.AugAssign _ _ _ _) _ _ _); (first | ((with_reducible refine' ws_augAdd ?kb ?k0 ?kg ?kp ?_); (case kb => assumption); (case k0 => walk_at "nm"); (case kg => walk_at "nm"); (case kp => walk_at "nm"))))
    | ((with_reducible show DL.WS _ (Stmt.Expr _ _) _ _ _); (first | ((with_reducible refine' ws_expr ?_ ?k1); (case k1 => rfl))))))
  | ((with_reducible show DL.WT _ _ _ _ _); (first | ((with_reducible refine' xt_inX ?kx ?_ ?k1); (case kx => assumption); (case k1 => rfl)) | ((with_reducible refine' xt_ninX ?kx ?_ ?k1); (case kx => assumption); (case k1 => rfl)) | ((with_reducible refine' wt_lele ?_ ?k1); (case k1 => with_unfolding_all rfl)) | ((with_reducible refine' xt_eq ?k1 ?_); (case k1 => assumption)) | ((with_reducible refine' xt_ne ?k1 ?_); (case k1 => assumption)) | ((with_reducible refine' xt_in ?k1 ?_ ?k2); (case k1 => assumption); (case k2 => rfl)) | ((with_reducible refine' xt_nin ?k1 ?_ ?k2); (case k1 => assumption); (case k2 => rfl)) | with_reducible refine wt_lt ?_ | with_reducible refine wt_le ?_ | with_reducible refine wt_gt ?_ | with_reducible refine wt_ge ?_ | with_reducible refine wt_is ?_ | with_reducible refine wt_isnot ?_ | with_reducible refine wt_not ?_ | with_reducible refine wt_bo ?_ | ((with_reducible refine' wt_val ?_ ?k1); (case k1 => (intro _; rfl)))))
  | ((with_reducible show DL.WG _ _ _ _ _ _); (first | ((with_reducible refine' x_setX ?kx ?_ ?k1); (case kx => assumption); (case k1 => (intro _; rfl))) | ((with_reducible refine' wg_nm ?kb ?k0 ?kp ?_); (case kb => assumption); (case k0 => walk_at "nm"); (case kp => walk_at "nm")) | ((with_reducible refine' x_gtup ?kx ?kl ?_ ?k1); (case kx => assumption); (case kl => rfl); (case k1 => rfl)) | ((with_reducible refine' wg_setL ?_ ?k1); (case k1 => (intro _; rfl)))))
  | ((with_reducible show DL.WA _ _ _ _ _); (first | with_reducible refine wa_nil ?_ | ((with_reducible refine' wa_cons ?_ ?k1); (case k1 => rfl))))
  | ((with_reducible show DL.WW _ _ _ _ _); (first | with_reducible refine ww_and ?_ | with_reducible refine ww_or ?_ | with_reducible refine ww_and1 ?_ | with_reducible refine ww_or1 ?_))
  | ((with_reducible show DL.WGs _ _ _ _ _ _); (first | ((with_reducible refine' wgs_cons ?_ ?k1); (case k1 => rfl)) | with_reducible refine wgs_nil ?_))
  | ((with_reducible show DL.WO _ _ _ _ _); (first | with_reducible refine wo_n ?_ | with_reducible refine wo_s ?_))
  | ((with_reducible show DL.dIxD _ _ _ _); (first | ((with_reducible refine' ixD_ok ?h1 ?h2 ?_); (case h1 => assumption); (case h2 => assumption)) | ((with_reducible show dIxD (D.own _) (D.int _) _ _); refine Or.inl ?_) | ((with_reducible show dIxD (D.lst _) _ _ _); refine Or.inl ?_) | ((with_reducible show dIxD (D.tup _) _ _ _); refine Or.inl ?_) | ((with_reducible show dIxD (D.str _) _ _ _); refine Or.inl ?_)))
  | ((with_reducible show DL.dInX _ _ _ _ _); (first | ((with_reducible refine' inX_ok ?h1 ?_); (case h1 => assumption)) | ((with_reducible refine' ninX_ok ?h1 ?_); (case h1 => assumption))))
  | ((with_reducible show DL.dLenX _ _ _); (first | ((with_reducible refine' lenX_ok ?h1 ?_); (case h1 => assumption)) | ((with_reducible show dLenX [D.lst _] _ _); refine Or.inl ?_) | ((with_reducible show dLenX [D.tup _] _ _); refine Or.inl ?_) | ((with_reducible show dLenX [D.str _] _ _); refine Or.inl ?_)))
  | ((with_reducible show DL.tb _ _ _); (first | with_reducible refine tb_ok ?_))
  | ((with_reducible show DL.dIsi _ _ _); (first | ((with_reducible refine' isi_int ?k1 ?_); (case k1 => walk_at "kd")) | ((with_reducible refine' isi_bool ?k1 ?_); (case k1 => walk_at "kd")) | ((with_reducible refine' isi_str ?k1 ?_); (case k1 => walk_at "kd")) | ((with_reducible refine' isi_list ?k1 ?_); (case k1 => walk_at "kd")) | ((with_reducible refine' isi_tuple ?k1 ?_); (case k1 => walk_at "kd")) | ((with_reducible refine' isi_ls ?k1 ?_); (case k1 => assumption)) | ((with_reducible refine' isi_lsT ?k1 ?_); (case k1 => assumption))))
  | ((with_reducible show DL.dIsiT _ _ _); (first | ((with_reducible refine' isi_ltT ?k1 ?k2 ?_); (case k1 => rfl); (case k2 => rfl)) | ((with_reducible refine' isi_ltF ?k1 ?k2 ?_); (case k1 => rfl); (case k2 => rfl)) | ((with_reducible refine' isi_lt ?k1 ?_); (case k1 => walk_at "kd")) | ((with_reducible refine' isiT_ls ?k1 ?_); (case k1 => assumption))))
  | ((with_reducible show DL.dLen _ _ _); (first | ((with_reducible refine' len_ls ?k1 ?_); (case k1 => assumption)) | ((with_reducible refine' len_str ?k1 ?_); (case k1 => walk_at "ct")) | with_reducible refine len_tup ?_ | with_reducible refine len_fr ?_ | with_reducible refine len_sl ?_ | ((with_reducible refine' len_own ?k1 ?_); (case k1 => assumption)) | with_reducible refine len_put ?_))
  | ((with_reducible show DL.dEq _ _ _ _ _); (first | with_reducible refine eq_bb ?_ | with_reducible refine ne_bb ?_ | with_reducible refine eq_ii ?_ | with_reducible refine ne_ii ?_))
  | ((with_reducible show DL.dI2 _ _ _ _ _ _); (first | ((with_reducible refine' i2_ok ?k1 ?_); (case k1 => walk_at "ct"))))
  | ((with_reducible show DL.dB2 _ _ _ _ _); (first | with_reducible refine b2_ok ?_))
  | ((with_reducible show DL.dAdd _ _ _ _); (first | with_reducible refine add_ii ?_ | ((with_reducible refine' add_ss ?k1 ?_); (case k1 => walk_at "ct")) | ((with_reducible refine' add_tt ?k1 ?_); (case k1 => walk_at "ct"))))
  | ((with_reducible show DL.dMul _ _ _ _); (first | ((with_reducible refine' mul_ii ?k1 ?_); (case k1 => walk_at "ct"))))
  | ((with_reducible show DL.dSl _ _ _ _ _); (first | with_reducible refine sl_t ?_ | with_reducible refine sl_f ?_))
  | ((with_reducible show DL.dInt1 _ _ _ _); (first | with_reducible refine int1_ok ?_))
  | ((with_reducible show DL.dInt2 _ _ _ _); (first | with_reducible refine int2_ok ?_))
  | ((with_reducible show DL.dInt _ _ _); (first | with_reducible refine int_i ?_ | with_reducible refine int_b ?_))
  | ((with_reducible show DL.dIn _ _ _ _ _); (first | with_reducible refine ins_c ?_))
  | ((with_reducible show DL.dTuple _ _ _); (first | with_reducible refine tup_t ?_ | with_reducible refine tup_f ?_))
  | ((with_reducible show DL.dIx _ _ _ _); (first | ((with_reducible refine' ix_t ?k1 ?_); (case k1 => rfl)) | ((with_reducible refine' ix_f ?k1 ?_); (case k1 => rfl)) | ((with_reducible refine' ix_s ?k1 ?_); (case k1 => rfl)) | ((with_reducible refine' ix_p ?k1 ?_); (case k1 => rfl)) | ((with_reducible refine' ix_o ?k0 ?k1 ?_); (case k0 => assumption); (case k1 => rfl))))
  | ((with_reducible show DL.dIsN _ _ _ _ _); (first | ((with_reducible refine' isn_k ?k1 ?_); (case k1 => walk_at "kd")) | ((with_reducible refine' nisn_k ?k1 ?_); (case k1 => walk_at "kd"))))
  | ((refine' fld_ok ?h1 ?h2 ?h3 ?_); (case h1 => assumption); (case h2 => assumption); (case h3 => walk_at "fg"))
  | with_reducible refine ex_bl ?_
  | with_reducible refine ex_int ?_
  | with_reducible refine ex_2 ?_
  | with_reducible refine ex_3 ?_
  | ((with_reducible refine' setL_p ?k1 ?_); (case k1 => rfl))
  | ((with_reducible refine' setL_o ?k0 ?k1 ?_); (case k0 => assumption); (case k1 => rfl))
  | with_reducible refine and_T ?_
  | with_reducible refine and_F ?_
  | ((with_reducible refine and_S ?_ ?_) <;> intro _)
  | with_reducible refine ty_str ?_
  | with_reducible refine ty_put ?_
  | ((with_reducible refine' ty_own ?k1 ?_); (case k1 => assumption))
  | ((with_reducible refine' sz_ok ?k1 ?_); (case k1 => rfl))
  | ((with_reducible refine' sz_as ?k1 ?_); (case k1 => assumption))))
local macro_rules | `(tactic| walk_at "pyCA") => `(tactic| repeat' (first
  | ((with_reducible show DL.WE _ _ _ _ _); (first
    | ((with_reducible show DL.WE _ (Expr.Subscript _ _ _) _ _ _); (first | ((with_reducible refine' x_ixD ?kx ?_ ?k1); (case kx => assumption); (case k1 => (intro _ _; rfl))) | with_reducible refine we_revT ?_ | with_reducible refine x_sliceA ?_ | ((with_reducible refine' x_ixL ?_ ?k1); (case k1 => (intro _ _; rfl))) | ((with_reducible refine' we_ix ?_ ?k1); (case k1 => (intro _ _; rfl))) | with_reducible refine we_slice ?_))
    | ((with_reducible show DL.WE _ (Expr.Compare _ _ _ _) _ _ _); (first | ((with_reducible refine' x_inX ?kx ?_ ?k1); (case kx => assumption); (case k1 => rfl)) | ((with_reducible refine' x_ninX ?kx ?_ ?k1); (case kx => assumption); (case k1 => rfl)) | ((with_reducible refine' we_lele ?_ ?k1); (case k1 => with_unfolding_all rfl)) | with_reducible refine we_lt ?_ | with_reducible refine we_le ?_ | with_reducible refine we_gt ?_ | with_reducible refine we_ge ?_ | with_reducible refine we_is ?_ | with_reducible refine we_isnot ?_ | ((with_reducible refine' x_eq ?k1 ?_); (case k1 => assumption)) | ((with_reducible refine' x_ne ?k1 ?_); (case k1 => assumption)) | ((with_reducible refine' x_in ?k1 ?_ ?k2); (case k1 => assumption); (case k2 => rfl)) | ((with_reducible refine' x_nin ?k1 ?_ ?k2); (case k1 => assumption); (case k2 => rfl))))
    | ((with_reducible show DL.WE _ (Expr.Call (Expr.Name _ _) _ _ _) _ _ _); (first | ((with_reducible refine' x_lenX ?kx ?kz ?kg ?_ ?k1 ?k2); (case kx => assumption); (case kz => assumption); (case kg => walk_at "gl"); (case k1 => rfl); (case k2 => rfl)) | ((with_reducible refine' x_dictP ?kx ?kz ?kg ?_ ?k1 ?k2); (case kx => assumption); (case kz => assumption); (case kg => walk_at "gl"); (case k1 => rfl); (case k2 => rfl)) | ((with_reducible refine' x_sortedK ?kx ?kz ?kg ?_ ?k1 ?k2); (case kx => assumption); (case kz => assumption); (case kg => walk_at "gl"); (case k1 => rfl); (case k2 => rfl)) | ((with_reducible refine' x_listA ?kx ?kz ?kg ?_ ?k1 ?k2); (case kx => assumption); (case kz => assumption); (case kg => walk_at "gl"); (case k1 => rfl); (case k2 => rfl)) | ((with_reducible refine' x_repr ?kx ?kz ?kg ?_ ?k1 ?k2); (case kx => assumption); (case kz => assumption); (case kg => walk_at "gl"); (case k1 => rfl); (case k2 => rfl)) | ((with_reducible refine' x_isiT ?kx ?kz ?kg ?_ ?k1 ?k2); (case kx => assumption); (case kz => assumption); (case kg => walk_at "gl"); (case k1 => rfl); (case k2 => rfl)) | ((with_reducible refine' x_isi ?kx ?kz ?kg ?_ ?k1 ?k2); (case kx => assumption); (case kz => assumption); (case kg => walk_at "gl"); (case k1 => rfl); (case k2 => rfl)) | ((with_reducible refine' x_len ?kx ?kz ?kg ?_ ?k1 ?k2); (case kx => assumption); (case kz => assumption); (case kg => walk_at "gl"); (case k1 => rfl); (case k2 => rfl)) | ((with_reducible refine' x_abs ?kx ?kz ?kg ?_ ?k1 ?k2); (case kx => assumption); (case kz => assumption); (case kg => walk_at "gl"); (case k1 => rfl); (case k2 => rfl)) | ((with_reducible refine' x_max2 ?kx ?kz ?kg ?_ ?k1 ?k2); (case kx => assumption); (case kz => assumption); (case kg => walk_at "gl"); (case k1 => rfl); (case k2 => rfl)) | ((with_reducible refine' x_min2 ?kx ?kz ?kg ?_ ?k1 ?k2); (case kx => assumption); (case kz => assumption); (case kg => walk_at "gl"); (case k1 => rfl); (case k2 => rfl)) | ((with_reducible refine' x_minL ?kx ?kz ?kg ?_ ?k1 ?k2); (case kx => assumption); (case kz => assumption); (case kg => walk_at "gl"); (case k1 => rfl); (case k2 => rfl)) | ((with_reducible refine' x_any ?kx ?kz ?kg ?_ ?k1 ?k2); (case kx => assumption); (case kz => assumption); (case kg => walk_at "gl"); (case k1 => rfl); (case k2 => rfl)) | ((with_reducible refine' x_all ?kx ?kz ?kg ?_ ?k1 ?k2); (case kx => assumption); (case kz => assumption); (case kg => walk_at "gl"); (case k1 => rfl); (case k2 => rfl)) | ((with_reducible refine' x_sum ?kx ?kz ?kg ?_ ?k1 ?k2); (case kx => assumption); (case kz => assumption); (case kg => walk_at "gl"); (case k1 => rfl); (case k2 => rfl)) | ((with_reducible refine' x_intC ?kx ?kz ?kg ?_ ?k1 ?k2); (case kx => assumption); (case kz => assumption); (case kg => walk_at "gl"); (case k1 => rfl); (case k2 => rfl)) | ((with_reducible refine' x_strC ?kx ?kz ?kg ?_ ?k1 ?k2); (case kx => assumption); (case kz => assumption); (case kg => walk_at "gl"); (case k1 => rfl); (case k2 => rfl)) | ((with_reducible refine' x_tupleC ?kx ?kz ?kg ?_ ?k1 ?k2); (case kx => assumption); (case kz => assumption); (case kg => walk_at "gl"); (case k1 => rfl); (case k2 => rfl)) | ((with_reducible refine' x_listC ?kx ?kz ?kg ?_ ?k1 ?k2); (case kx => assumption); (case kz => assumption); (case kg => walk_at "gl"); (case k1 => rfl); (case k2 => rfl)) | ((with_reducible refine' x_call ?kx ?kh ?kg ?_ ?kl ?kd ?k1 ?k2); (case kh => assumption); (case kx => assumption); (case kg => walk_at "gl"); (case kl => first | decide | omega); (case kd => decide); (case k1 => rfl); (case k2 => rfl))))
    | ((with_reducible show DL.WE _ (Expr.Attribute _ _ _) _ _ _); (first | ((with_reducible refine' x_fld ?kx ?_ ?k1); (case kx => assumption); (case k1 => rfl))))
    | ((with_reducible show DL.WE _ (Expr.Dict _ _ _) _ _ _); (first | with_reducible refine x_dnew ?_))
    | ((with_reducible show DL.WE _ (Expr.Call (Expr.Attribute _ _ _) _ _ _) _ _ _); (first | ((with_reducible refine' x_stripC ?_ ?k1 ?k2 ?k3 ?k4 ?k5); (case k1 => rfl); (case k2 => rfl); (case k3 => rfl); (case k4 => rfl); (case k5 => rfl)) | ((with_reducible refine' x_dget2 ?kx ?_ ?km); (case kx => assumption); (case km => exact ⟨rfl, rfl, rfl, rfl⟩)) | ((with_reducible refine' x_dpop1 ?_ ?km); (case km => exact ⟨rfl, rfl, rfl, rfl⟩)) | ((with_reducible refine' x_upper ?_ ?k1 ?k2); (case k1 => rfl); (case k2 => rfl)) | ((with_reducible refine' x_join ?_ ?k1 ?k2 ?k3 ?k4 ?k5); (case k1 => rfl); (case k2 => rfl); (case k3 => rfl); (case k4 => rfl); (case k5 => rfl)) | ((with_reducible refine' x_sindex ?_ ?k1 ?k2 ?k3 ?k4 ?k5); (case k1 => rfl); (case k2 => rfl); (case k3 => rfl); (case k4 => rfl); (case k5 => rfl)) | ((with_reducible refine' x_insert ?_ ?k1 ?k2 ?k3 ?k4 ?k5); (case k1 => rfl); (case k2 => rfl); (case k3 => rfl); (case k4 => rfl); (case k5 => rfl)) | ((with_reducible refine' x_popAt ?_ ?k1 ?k2 ?k3 ?k4 ?k5); (case k1 => rfl); (case k2 => rfl); (case k3 => rfl); (case k4 => rfl); (case k5 => rfl)) | ((with_reducible refine' x_append ?_ ?k1 ?k2 ?k3 ?k4 ?k5); (case k1 => rfl); (case k2 => rfl); (case k3 => rfl); (case k4 => rfl); (case k5 => rfl)) | ((with_reducible refine' x_extend ?_ ?k1 ?k2 ?k3 ?k4 ?k5); (case k1 => rfl); (case k2 => rfl); (case k3 => rfl); (case k4 => rfl); (case k5 => rfl))))
    | ((with_reducible show DL.WE _ (Expr.BinOp _ _ _ _) _ _ _); (first | with_reducible refine x_mulS ?_ | with_reducible refine x_addA ?_ | with_reducible refine x_mulA ?_ | with_reducible refine we_add ?_ | with_reducible refine we_sub' ?_ | with_reducible refine we_mul ?_ | with_reducible refine we_mod ?_ | with_reducible refine we_fdiv ?_ | with_reducible refine we_pow ?_))
    | ((with_reducible show DL.WE _ (Expr.List _ _) _ _ _); (first | with_reducible refine we_lstF ?_))
    | ((with_reducible show DL.WE _ (Expr.BoolOp _ _ _) _ _ _); (first | with_reducible refine we_and ?_ | with_reducible refine we_or ?_ | with_reducible refine we_one ?_))
    | ((with_reducible show DL.WE _ (Expr.UnaryOp _ _ _) _ _ _); (first | with_reducible refine we_not ?_ | with_reducible refine we_neg ?_))
    | ((with_reducible show DL.WE _ (Expr.IfExp _ _ _ _) _ _ _); (first | with_reducible refine we_if ?_))
    | ((with_reducible show DL.WE _ (Expr.Constant _ _ _) _ _ _); (first | with_reducible refine we_int ?_ | with_reducible refine we_bl ?_ | with_reducible refine we_non ?_ | with_reducible refine we_str ?_))
    | ((with_reducible show DL.WE _ (Expr.Tuple _ _ _) _ _ _); (first | with_reducible refine we_tup ?_))
    | ((with_reducible show DL.WE _ (Expr.Name _ _) _ _ _); (first | ((with_reducible refine' we_nm ?k1 ?k0 ?k2 ?_); (case k1 => assumption); (case k0 => walk_at "nm"); (case k2 => walk_at "nm")) | ((with_reducible refine' x_tyInt ?kx ?kz ?kg ?_); (case kx => assumption); (case kz => assumption); (case kg => walk_at "gl")) | ((with_reducible refine' x_tyBool ?kx ?kz ?kg ?_); (case kx => assumption); (case kz => assumption); (case kg => walk_at "gl")) | ((with_reducible refine' x_tyStr ?kx ?kz ?kg ?_); (case kx => assumption); (case kz => assumption); (case kg => walk_at "gl")) | ((with_reducible refine' x_tyList ?kx ?kz ?kg ?_); (case kx => assumption); (case kz => assumption); (case kg => walk_at "gl")) | ((with_reducible refine' x_tyTuple ?kx ?kz ?kg ?_); (case kx => assumption); (case kz => assumption); (case kg => walk_at "gl")) | ((with_reducible refine' x_glob ?kx ?kh ?kg ?_ ?kd); (case kh => assumption); (case kx => assumption); (case kg => walk_at "gl"); (case kd => decide))))))
  | ((with_reducible show DL.WSs _ _ _ _ _); (first | with_reducible refine wss_cons ?_ | with_reducible refine wss_nil ?_))
  | ((with_reducible show DL.WS _ _ _ _ _); (first
    | ((with_reducible show DL.WS _ (Stmt.Assign _ _ _) _ _ _); (first | ((with_reducible refine' x_setFld ?kx ?_ ?k1); (case kx => assumption); (case k1 => rfl)) | ((with_reducible refine' ws_nm ?kb ?k0 ?kp ?_ ?k1); (case kb => assumption); (case k0 => walk_at "nm"); (case kp => walk_at "nm"); (case k1 => rfl)) | ((with_reducible refine' x_par2 ?kd ?k1 ?k2 ?k3 ?k4 ?k5 ?k6 ?_ ?k7); (case kd => assumption); (case k1 => walk_at "nm"); (case k2 => (intro _; walk_at "nm")); (case k3 => decide +kernel); (case k4 => decide +kernel); (case k5 => decide +kernel); (case k6 => rfl); (case k7 => rfl)) | ((with_reducible refine' x_par3 ?kd ?k1 ?k2 ?k3 ?k4 ?k5 ?k6 ?k7 ?_ ?k8); (case kd => assumption); (case k1 => walk_at "nm"); (case k2 => (intro _; walk_at "nm")); (case k3 => (intro _ _; walk_at "nm")); (case k4 => decide +kernel); (case k5 => decide +kernel); (case k6 => decide +kernel); (case k7 => rfl); (case k8 => rfl)) | ((with_reducible refine' ws_asg ?_ ?k1 ?k2 ?k3); (case k1 => rfl); (case k2 => rfl); (case k3 => rfl)) | ((with_reducible refine' ws_asgD ?kd ?_ ?k1 ?k2 ?k3); (case kd => assumption); (case k1 => rfl); (case k2 => rfl); (case k3 => rfl))))
    | ((with_reducible show DL.WS _ (Stmt.Delete _ _) _ _ _); (first | ((with_reducible refine' x_ddel ?_))))
    | ((with_reducible show DL.WS _ (Stmt.If _ _ _ _) _ _ _); (first | ((with_reducible refine' x_ifWge ?kb ?k0 ?kp ?_); (case kb => assumption); (case k0 => walk_at "nm"); (case kp => walk_at "nm")) | with_reducible refine ws_if ?_))
    | ((with_reducible show DL.WS _ (Stmt.Return _ _) _ _ _); (first | with_reducible refine ws_ret ?_ | with_reducible refine ws_retN ?_))
    | ((with_reducible show DL.WS _ (Stmt.Pass _) _ _ _); (first | with_reducible refine ws_pass ?_))
    | ((with_reducible show DL.WS _ (Stmt.Break _) _ _ _); (first | with_reducible refine ws_break ?_))
    | ((with_reducible show DL.WS _ (Stmt.Continue _) _ _ _); (first | with_reducible refine ws_continue ?_))
    | ((with_reducible show DL.WS _ (Stmt.AugAssign _ _ _ _) _ _ _); (first | ((with_reducible refine' ws_augAdd ?kb ?k0 ?kg ?kp ?_); (case kb => assumption); (case k0 => walk_at "nm"); (case kg => walk_at "nm"); (case kp => walk_at "nm"))))
    | ((with_reducible show DL.WS _ (Stmt.Expr _ _) _ _ _); (first | ((with_reducible refine' ws_expr ?_ ?k1); (case k1 => rfl))))))
  | ((with_reducible show DL.WT _ _ _ _ _); (first | ((with_reducible refine' xt_inX ?kx ?_ ?k1); (case kx => assumption); (case k1 => rfl)) | ((with_reducible refine' xt_ninX ?kx ?_ ?k1); (case kx => assumption); (case k1 => rfl)) | ((with_reducible refine' wt_lele ?_ ?k1); (case k1 => with_unfolding_all rfl)) | ((with_reducible refine' xt_eq ?k1 ?_); (case k1 => assumption)) | ((with_reducible refine' xt_ne ?k1 ?_); (case k1 => assumption)) | ((with_reducible refine' xt_in ?k1 ?_ ?k2); (case k1 => assumption); (case k2 => rfl)) | ((with_reducible refine' xt_nin ?k1 ?_ ?k2); (case k1 => assumption); (case k2 => rfl)) | with_reducible refine wt_lt ?_ | with_reducible refine wt_le ?_ | with_reducible refine wt_gt ?_ | with_reducible refine wt_ge ?_ | with_reducible refine wt_is ?_ | with_reducible refine wt_isnot ?_ | with_reducible refine wt_not ?_ | with_reducible refine wt_bo ?_ | ((with_reducible refine' wt_val ?_ ?k1); (case k1 => (intro _; rfl)))))
  | ((with_reducible show DL.WG _ _ _ _ _ _); (first | ((with_reducible refine' x_setX ?kx ?_ ?k1); (case kx => assumption); (case k1 => (intro _; rfl))) | ((with_reducible refine' wg_nm ?kb ?k0 ?kp ?_); (case kb => assumption); (case k0 => walk_at "nm"); (case kp => walk_at "nm")) | ((with_reducible refine' x_gtup ?kx ?kl ?_ ?k1); (case kx => assumption); (case kl => rfl); (case k1 => rfl)) | ((with_reducible refine' wg_setL ?_ ?k1); (case k1 => (intro _; rfl)))))
  | ((with_reducible show DL.WA _ _ _ _ _); (first | with_reducible refine wa_nil ?_ | ((with_reducible refine' wa_cons ?_ ?k1); (case k1 => rfl))))
  | ((with_reducible show DL.WW _ _ _ _ _); (first | with_reducible refine ww_and ?_ | with_reducible refine ww_or ?_ | with_reducible refine ww_and1 ?_ | with_reducible refine ww_or1 ?_))
  | ((with_reducible show DL.WGs _ _ _ _ _ _); (first | ((with_reducible refine' wgs_cons ?_ ?k1); (case k1 => rfl)) | with_reducible refine wgs_nil ?_))
  | ((with_reducible show DL.WO _ _ _ _ _); (first | with_reducible refine wo_n ?_ | with_reducible refine wo_s ?_))
  | ((with_reducible show DL.dIxD _ _ _ _); (first | ((with_reducible refine' ixD_ok ?h1 ?h2 ?_); (case h1 => assumption); (case h2 => assumption)) | ((with_reducible show dIxD (D.own _) (D.int _) _ _); refine Or.inl ?_) | ((with_reducible show dIxD (D.lst _) _ _ _); refine Or.inl ?_) | ((with_reducible show dIxD (D.tup _) _ _ _); refine Or.inl ?_) | ((with_reducible show dIxD (D.str _) _ _ _); refine Or.inl ?_)))
  | ((with_reducible show DL.dInX _ _ _ _ _); (first | ((with_reducible refine' inX_ok ?h1 ?_); (case h1 => assumption)) | ((with_reducible refine' ninX_ok ?h1 ?_); (case h1 => assumption))))
  | ((with_reducible show DL.dLenX _ _ _); (first | ((with_reducible refine' lenX_ok ?h1 ?_); (case h1 => assumption)) | ((with_reducible show dLenX [D.lst _] _ _); refine Or.inl ?_) | ((with_reducible show dLenX [D.tup _] _ _); refine Or.inl ?_) | ((with_reducible show dLenX [D.str _] _ _); refine Or.inl ?_)))
  | ((with_reducible show DL.FrzA _ _ _); (first | with_reducible refine fa_int ?_ | with_reducible refine fa_str ?_ | with_reducible refine fa_bl ?_ | with_reducible refine fa_non ?_ | with_reducible refine fa_tup ?_ | with_reducible refine fa_lst ?_ | ((with_reducible refine' fa_put ?k1 ?_); (case k1 => assumption))))
  | ((with_reducible show DL.dSl _ _ _ _ _); (first | with_reducible refine slA_f ?_ | with_reducible refine slA_t ?_ | with_reducible refine slA_p ?_ | ((with_reducible refine' slA_o ?k1 ?_); (case k1 => assumption)) | ((with_reducible refine' slA_z ?k1 ?_); (case k1 => walk_at "ct")) | with_reducible refine sl_t ?_ | with_reducible refine sl_f ?_))
  | ((with_reducible show DL.dAdd _ _ _ _); (first | with_reducible refine addA_ii ?_ | ((with_reducible refine' addA_ss ?k1 ?_); (case k1 => walk_at "ct")) | ((with_reducible refine' addA_tt ?k1 ?_); (case k1 => walk_at "ct")) | ((with_reducible refine' addA_ll ?k1 ?_); (case k1 => walk_at "sz")) | ((with_reducible refine' addA_pl ?k1 ?_); (case k1 => walk_at "sz")) | with_reducible refine add_ii ?_ | ((with_reducible refine' add_ss ?k1 ?_); (case k1 => walk_at "ct")) | ((with_reducible refine' add_tt ?k1 ?_); (case k1 => walk_at "ct"))))
  | ((with_reducible show DL.dList _ _ _); (first | with_reducible refine listA_l ?_ | with_reducible refine listA_t ?_ | with_reducible refine listA_p ?_ | ((with_reducible refine' listA_o ?k1 ?_); (case k1 => assumption))))
  | ((with_reducible show DL.dMul _ _ _ _); (first | ((with_reducible refine' mulA_ii ?k1 ?_); (case k1 => walk_at "ct")) | ((with_reducible refine' mul_ii ?k1 ?_); (case k1 => walk_at "ct"))))
  | ((with_reducible show DL.dMulS _ _ _ _); (first | ((with_reducible refine' mul_s ?k1 ?_); (case k1 => decide +kernel))))
  | ((with_reducible show DL.dAppend _ _ _ _); (first | ((with_reducible refine' app_put ?k1 ?_); (case k1 => walk_at "sz"))))
  | ((with_reducible show DL.tb _ _ _); (first | with_reducible refine tb_ok ?_))
  | ((with_reducible show DL.dIsi _ _ _); (first | ((with_reducible refine' isi_int ?k1 ?_); (case k1 => walk_at "kd")) | ((with_reducible refine' isi_bool ?k1 ?_); (case k1 => walk_at "kd")) | ((with_reducible refine' isi_str ?k1 ?_); (case k1 => walk_at "kd")) | ((with_reducible refine' isi_list ?k1 ?_); (case k1 => walk_at "kd")) | ((with_reducible refine' isi_tuple ?k1 ?_); (case k1 => walk_at "kd")) | ((with_reducible refine' isi_ls ?k1 ?_); (case k1 => assumption)) | ((with_reducible refine' isi_lsT ?k1 ?_); (case k1 => assumption))))
  | ((with_reducible show DL.dIsiT _ _ _); (first | ((with_reducible refine' isi_ltT ?k1 ?k2 ?_); (case k1 => rfl); (case k2 => rfl)) | ((with_reducible refine' isi_ltF ?k1 ?k2 ?_); (case k1 => rfl); (case k2 => rfl)) | ((with_reducible refine' isi_lt ?k1 ?_); (case k1 => walk_at "kd")) | ((with_reducible refine' isiT_ls ?k1 ?_); (case k1 => assumption))))
  | ((with_reducible show DL.dLen _ _ _); (first | ((with_reducible refine' len_ls ?k1 ?_); (case k1 => assumption)) | ((with_reducible refine' len_str ?k1 ?_); (case k1 => walk_at "ct")) | with_reducible refine len_tup ?_ | with_reducible refine len_fr ?_ | with_reducible refine len_sl ?_ | ((with_reducible refine' len_own ?k1 ?_); (case k1 => assumption)) | with_reducible refine len_put ?_))
  | ((with_reducible show DL.dEq _ _ _ _ _); (first | with_reducible refine eq_bb ?_ | with_reducible refine ne_bb ?_ | with_reducible refine eq_ii ?_ | with_reducible refine ne_ii ?_))
  | ((with_reducible show DL.dI2 _ _ _ _ _ _); (first | ((with_reducible refine' i2_ok ?k1 ?_); (case k1 => walk_at "ct"))))
  | ((with_reducible show DL.dB2 _ _ _ _ _); (first | with_reducible refine b2_ok ?_))
  | ((with_reducible show DL.dInt1 _ _ _ _); (first | with_reducible refine int1_ok ?_))
  | ((with_reducible show DL.dInt2 _ _ _ _); (first | with_reducible refine int2_ok ?_))
  | ((with_reducible show DL.dInt _ _ _); (first | with_reducible refine int_i ?_ | with_reducible refine int_b ?_))
  | ((with_reducible show DL.dIn _ _ _ _ _); (first | with_reducible refine ins_c ?_))
  | ((with_reducible show DL.dTuple _ _ _); (first | with_reducible refine tup_t ?_ | with_reducible refine tup_f ?_))
  | ((with_reducible show DL.dIx _ _ _ _); (first | ((with_reducible refine' ix_t ?k1 ?_); (case k1 => rfl)) | ((with_reducible refine' ix_f ?k1 ?_); (case k1 => rfl)) | ((with_reducible refine' ix_s ?k1 ?_); (case k1 => rfl)) | ((with_reducible refine' ix_p ?k1 ?_); (case k1 => rfl)) | ((with_reducible refine' ix_o ?k0 ?k1 ?_); (case k0 => assumption); (case k1 => rfl))))
  | ((with_reducible show DL.dIsN _ _ _ _ _); (first | ((with_reducible refine' isn_k ?k1 ?_); (case k1 => walk_at "kd")) | ((with_reducible refine' nisn_k ?k1 ?_); (case k1 => walk_at "kd"))))
  | ((refine' fld_ok ?h1 ?h2 ?h3 ?_); (case h1 => assumption); (case h2 => assumption); (case h3 => walk_at "fg"))
  | with_reducible refine ex_bl ?_
  | with_reducible refine ex_int ?_
  | with_reducible refine ex_2 ?_
  | with_reducible refine ex_3 ?_
  | ((with_reducible refine' setL_p ?k1 ?_); (case k1 => rfl))
  | ((with_reducible refine' setL_o ?k0 ?k1 ?_); (case k0 => assumption); (case k1 => rfl))
  | with_reducible refine and_T ?_
  | with_reducible refine and_F ?_
  | ((with_reducible refine and_S ?_ ?_) <;> intro _)
  | with_reducible refine ty_str ?_
  | with_reducible refine ty_put ?_
  | ((with_reducible refine' ty_own ?k1 ?_); (case k1 => assumption))
  | ((with_reducible refine' sz_ok ?k1 ?_); (case k1 => rfl))
  | ((with_reducible refine' sz_as ?k1 ?_); (case k1 => assumption))))
local macro_rules | `(tactic| walk_at "pyS") => `(tactic| repeat' (first
  | ((with_reducible show DL.WE _ _ _ _ _); (first
    | ((with_reducible show DL.WE _ (Expr.FormattedValue _ _ _ _) _ _ _); (first | with_reducible refine x_fmt ?_))
    | ((with_reducible show DL.WE _ (Expr.JoinedStr _ _) _ _ _); (first | with_reducible refine x_joined ?_))
    | ((with_reducible show DL.WE _ (Expr.Call (Expr.Attribute _ _ _) _ _ _) _ _ _); (first | ((with_reducible refine' x_split ?_ ?k1 ?k2 ?k3 ?k4 ?k5); (case k1 => rfl); (case k2 => rfl); (case k3 => rfl); (case k4 => rfl); (case k5 => rfl)) | ((with_reducible refine' x_stripC ?_ ?k1 ?k2 ?k3 ?k4 ?k5); (case k1 => rfl); (case k2 => rfl); (case k3 => rfl); (case k4 => rfl); (case k5 => rfl)) | ((with_reducible refine' x_dget2 ?kx ?_ ?km); (case kx => assumption); (case km => exact ⟨rfl, rfl, rfl, rfl⟩)) | ((with_reducible refine' x_dpop1 ?_ ?km); (case km => exact ⟨rfl, rfl, rfl, rfl⟩)) | ((with_reducible refine' x_upper ?_ ?k1 ?k2); (case k1 => rfl); (case k2 => rfl)) | ((with_reducible refine' x_join ?_ ?k1 ?k2 ?k3 ?k4 ?k5); (case k1 => rfl); (case k2 => rfl); (case k3 => rfl); (case k4 => rfl); (case k5 => rfl)) | ((with_reducible refine' x_sindex ?_ ?k1 ?k2 ?k3 ?k4 ?k5); (case k1 => rfl); (case k2 => rfl); (case k3 => rfl); (case k4 => rfl); (case k5 => rfl)) | ((with_reducible refine' x_insert ?_ ?k1 ?k2 ?k3 ?k4 ?k5); (case k1 => rfl); (case k2 => rfl); (case k3 => rfl); (case k4 => rfl); (case k5 => rfl)) | ((with_reducible refine' x_popAt ?_ ?k1 ?k2 ?k3 ?k4 ?k5); (case k1 => rfl); (case k2 => rfl); (case k3 => rfl); (case k4 => rfl); (case k5 => rfl)) | ((with_reducible refine' x_append ?_ ?k1 ?k2 ?k3 ?k4 ?k5); (case k1 => rfl); (case k2 => rfl); (case k3 => rfl); (case k4 => rfl); (case k5 => rfl)) | ((with_reducible refine' x_extend ?_ ?k1 ?k2 ?k3 ?k4 ?k5); (case k1 => rfl); (case k2 => rfl); (case k3 => rfl); (case k4 => rfl); (case k5 => rfl))))
    | ((with_reducible show DL.WE _ (Expr.Subscript _ _ _) _ _ _); (first | ((with_reducible refine' x_ixD ?kx ?_ ?k1); (case kx => assumption); (case k1 => (intro _ _; rfl))) | with_reducible refine we_revT ?_ | with_reducible refine x_sliceA ?_ | ((with_reducible refine' x_ixL ?_ ?k1); (case k1 => (intro _ _; rfl))) | ((with_reducible refine' we_ix ?_ ?k1); (case k1 => (intro _ _; rfl))) | with_reducible refine we_slice ?_))
    | ((with_reducible show DL.WE _ (Expr.Compare _ _ _ _) _ _ _); (first | ((with_reducible refine' x_inX ?kx ?_ ?k1); (case kx => assumption); (case k1 => rfl)) | ((with_reducible refine' x_ninX ?kx ?_ ?k1); (case kx => assumption); (case k1 => rfl)) | ((with_reducible refine' we_lele ?_ ?k1); (case k1 => with_unfolding_all rfl)) | with_reducible refine we_lt ?_ | with_reducible refine we_le ?_ | with_reducible refine we_gt ?_ | with_reducible refine we_ge ?_ | with_reducible refine we_is ?_ | with_reducible refine we_isnot ?_ | ((with_reducible refine' x_eq ?k1 ?_); (case k1 => assumption)) | ((with_reducible refine' x_ne ?k1 ?_); (case k1 => assumption)) | ((with_reducible refine' x_in ?k1 ?_ ?k2); (case k1 => assumption); (case k2 => rfl)) | ((with_reducible refine' x_nin ?k1 ?_ ?k2); (case k1 => assumption); (case k2 => rfl))))
    | ((with_reducible show DL.WE _ (Expr.Call (Expr.Name _ _) _ _ _) _ _ _); (first | ((with_reducible refine' x_lenX ?kx ?kz ?kg ?_ ?k1 ?k2); (case kx => assumption); (case kz => assumption); (case kg => walk_at "gl"); (case k1 => rfl); (case k2 => rfl)) | ((with_reducible refine' x_dictP ?kx ?kz ?kg ?_ ?k1 ?k2); (case kx => assumption); (case kz => assumption); (case kg => walk_at "gl"); (case k1 => rfl); (case k2 => rfl)) | ((with_reducible refine' x_sortedK ?kx ?kz ?kg ?_ ?k1 ?k2); (case kx => assumption); (case kz => assumption); (case kg => walk_at "gl"); (case k1 => rfl); (case k2 => rfl)) | ((with_reducible refine' x_listA ?kx ?kz ?kg ?_ ?k1 ?k2); (case kx => assumption); (case kz => assumption); (case kg => walk_at "gl"); (case k1 => rfl); (case k2 => rfl)) | ((with_reducible refine' x_repr ?kx ?kz ?kg ?_ ?k1 ?k2); (case kx => assumption); (case kz => assumption); (case kg => walk_at "gl"); (case k1 => rfl); (case k2 => rfl)) | ((with_reducible refine' x_isiT ?kx ?kz ?kg ?_ ?k1 ?k2); (case kx => assumption); (case kz => assumption); (case kg => walk_at "gl"); (case k1 => rfl); (case k2 => rfl)) | ((with_reducible refine' x_isi ?kx ?kz ?kg ?_ ?k1 ?k2); (case kx => assumption); (case kz => assumption); (case kg => walk_at "gl"); (case k1 => rfl); (case k2 => rfl)) | ((with_reducible refine' x_len ?kx ?kz ?kg ?_ ?k1 ?k2); (case kx => assumption); (case kz => assumption); (case kg => walk_at "gl"); (case k1 => rfl); (case k2 => rfl)) | ((with_reducible refine' x_abs ?kx ?kz ?kg ?_ ?k1 ?k2); (case kx => assumption); (case kz => assumption); (case kg => walk_at "gl"); (case k1 => rfl); (case k2 => rfl)) | ((with_reducible refine' x_max2 ?kx ?kz ?kg ?_ ?k1 ?k2); (case kx => assumption); (case kz => assumption); (case kg => walk_at "gl"); (case k1 => rfl); (case k2 => rfl)) | ((with_reducible refine' x_min2 ?kx ?kz ?kg ?_ ?k1 ?k2); (case kx => assumption); (case kz => assumption); (case kg => walk_at "gl"); (case k1 => rfl); (case k2 => rfl)) | ((with_reducible refine' x_minL ?kx ?kz ?kg ?_ ?k1 ?k2); (case kx => assumption); (case kz => assumption); (case kg => walk_at "gl"); (case k1 => rfl); (case k2 => rfl)) | ((with_reducible refine' x_any ?kx ?kz ?kg ?_ ?k1 ?k2); (case kx => assumption); (case kz => assumption); (case kg => walk_at "gl"); (case k1 => rfl); (case k2 => rfl)) | ((with_reducible refine' x_all ?kx ?kz ?kg ?_ ?k1 ?k2); (case kx => assumption); (case kz => assumption); (case kg => walk_at "gl"); (case k1 => rfl); (case k2 => rfl)) | ((with_reducible refine' x_sum ?kx ?kz ?kg ?_ ?k1 ?k2); (case kx => assumption); (case kz => assumption); (case kg => walk_at "gl"); (case k1 => rfl); (case k2 => rfl)) | ((with_reducible refine' x_intC ?kx ?kz ?kg ?_ ?k1 ?k2); (case kx => assumption); (case kz => assumption); (case kg => walk_at "gl"); (case k1 => rfl); (case k2 => rfl)) | ((with_reducible refine' x_strC ?kx ?kz ?kg ?_ ?k1 ?k2); (case kx => assumption); (case kz => assumption); (case kg => walk_at "gl"); (case k1 => rfl); (case k2 => rfl)) | ((with_reducible refine' x_tupleC ?kx ?kz ?kg ?_ ?k1 ?k2); (case kx => assumption); (case kz => assumption); (case kg => walk_at "gl"); (case k1 => rfl); (case k2 => rfl)) | ((with_reducible refine' x_listC ?kx ?kz ?kg ?_ ?k1 ?k2); (case kx => assumption); (case kz => assumption); (case kg => walk_at "gl"); (case k1 => rfl); (case k2 => rfl)) | ((with_reducible refine' x_call ?kx ?kh ?kg ?_ ?kl ?kd ?k1 ?k2); (case kh => assumption); (case kx => assumption); (case kg => walk_at "gl"); (case kl => first | decide | omega); (case kd => decide); (case k1 => rfl); (case k2 => rfl))))
    | ((with_reducible show DL.WE _ (Expr.Attribute _ _ _) _ _ _); (first | ((with_reducible refine' x_fld ?kx ?_ ?k1); (case kx => assumption); (case k1 => rfl))))
    | ((with_reducible show DL.WE _ (Expr.Dict _ _ _) _ _ _); (first | with_reducible refine x_dnew ?_))
    | ((with_reducible show DL.WE _ (Expr.BinOp _ _ _ _) _ _ _); (first | with_reducible refine x_mulS ?_ | with_reducible refine x_addA ?_ | with_reducible refine x_mulA ?_ | with_reducible refine we_add ?_ | with_reducible refine we_sub' ?_ | with_reducible refine we_mul ?_ | with_reducible refine we_mod ?_ | with_reducible refine we_fdiv ?_ | with_reducible refine we_pow ?_))
    | ((with_reducible show DL.WE _ (Expr.List _ _) _ _ _); (first | with_reducible refine we_lstF ?_))
    | ((with_reducible show DL.WE _ (Expr.BoolOp _ _ _) _ _ _); (first | with_reducible refine we_and ?_ | with_reducible refine we_or ?_ | with_reducible refine we_one ?_))
    | ((with_reducible show DL.WE _ (Expr.UnaryOp _ _ _) _ _ _); (first | with_reducible refine we_not ?_ | with_reducible refine we_neg ?_))
    | ((with_reducible show DL.WE _ (Expr.IfExp _ _ _ _) _ _ _); (first | with_reducible refine we_if ?_))
    | ((with_reducible show DL.WE _ (Expr.Constant _ _ _) _ _ _); (first | with_reducible refine we_int ?_ | with_reducible refine we_bl ?_ | with_reducible refine we_non ?_ | with_reducible refine we_str ?_))
    | ((with_reducible show DL.WE _ (Expr.Tuple _ _ _) _ _ _); (first | with_reducible refine we_tup ?_))
    | ((with_reducible show DL.WE _ (Expr.Name _ _) _ _ _); (first | ((with_reducible refine' we_nm ?k1 ?k0 ?k2 ?_); (case k1 => assumption); (case k0 => walk_at "nm"); (case k2 => walk_at "nm")) | ((with_reducible refine' x_tyInt ?kx ?kz ?kg ?_); (case kx => assumption); (case kz => assumption); (case kg => walk_at "gl")) | ((with_reducible refine' x_tyBool ?kx ?kz ?kg ?_); (case kx => assumption); (case kz => assumption); (case kg => walk_at "gl")) | ((with_reducible refine' x_tyStr ?kx ?kz ?kg ?_); (case kx => assumption); (case kz => assumption); (case kg => walk_at "gl")) | ((with_reducible refine' x_tyList ?kx ?kz ?kg ?_); (case kx => assumption); (case kz => assumption); (case kg => walk_at "gl")) | ((with_reducible refine' x_tyTuple ?kx ?kz ?kg ?_); (case kx => assumption); (case kz => assumption); (case kg => walk_at "gl")) | ((with_reducible refine' x_glob ?kx ?kh ?kg ?_ ?kd); (case kh => assumption); (case kx => assumption); (case kg => walk_at "gl"); (case kd => decide))))))
  | ((with_reducible show DL.WSs _ _ _ _ _); (first | with_reducible refine wss_cons ?_ | with_reducible refine wss_nil ?_))
  | ((with_reducible show DL.WS _ _ _ _ _); (first
    | ((with_reducible show DL.WS _ (Stmt.Assign _ _ _) _ _ _); (first | ((with_reducible refine' x_setFld ?kx ?_ ?k1); (case kx => assumption); (case k1 => rfl)) | ((with_reducible refine' ws_nm ?kb ?k0 ?kp ?_ ?k1); (case kb => assumption); (case k0 => walk_at "nm"); (case kp => walk_at "nm"); (case k1 => rfl)) | ((with_reducible refine' x_par2 ?kd ?k1 ?k2 ?k3 ?k4 ?k5 ?k6 ?_ ?k7); (case kd => assumption); (case k1 => walk_at "nm"); (case k2 => (intro _; walk_at "nm")); (case k3 => decide +kernel); (case k4 => decide +kernel); (case k5 => decide +kernel); (case k6 => rfl); (case k7 => rfl)) | ((with_reducible refine' x_par3 ?kd ?k1 ?k2 ?k3 ?k4 ?k5 ?k6 ?k7 ?_ ?k8); (case kd => assumption); (case k1 => walk_at "nm"); (case k2 => (intro _; walk_at "nm")); (case k3 => (intro _ _; walk_at "nm")); (case k4 => decide +kernel); (case k5 => decide +kernel); (case k6 => decide +kernel); (case k7 => rfl); (case k8 => rfl)) | ((with_reducible refine' ws_asg ?_ ?k1 ?k2 ?k3); (case k1 => rfl); (case k2 => rfl); (case k3 => rfl)) | ((with_reducible refine' ws_asgD ?kd ?_ ?k1 ?k2 ?k3); (case kd => assumption); (case k1 => rfl); (case k2 => rfl); (case k3 => rfl))))
    | ((with_reducible show DL.WS _ (Stmt.Delete _ _) _ _ _); (first | ((with_reducible refine' x_ddel ?_))))
    | ((with_reducible show DL.WS _ (Stmt.If _ _ _ _) _ _ _); (first | ((with_reducible refine' x_ifWge ?kb ?k0 ?kp ?_); (case kb => assumption); (case k0 => walk_at "nm"); (case kp => walk_at "nm")) | with_reducible refine ws_if ?_))
    | ((with_reducible show DL.WS _ (Stmt.Return _ _) _ _ _); (first | with_reducible refine ws_ret ?_ | with_reducible refine ws_retN ?_))
    | ((with_reducible show DL.WS _ (Stmt.Pass _) _ _ _); (first | with_reducible refine ws_pass ?_))
    | ((with_reducible show DL.WS _ (Stmt.Break _) _ _ _); (first | with_reducible refine ws_break ?_))
    | ((with_reducible show DL.WS _ (Stmt.Continue _) _ _ _); (first | with_reducible refine ws_continue ?_))
    | ((with_reducible show DL.WS _ (Stmt.AugAssign _ _ _ _) _ _ _); (first | ((with_reducible refine' ws_augAdd ?kb ?k0 ?kg ?kp ?_); (case kb => assumption); (case k0 => walk_at "nm"); (case kg => walk_at "nm"); (case kp => walk_at "nm"))))
    | ((with_reducible show DL.WS _ (Stmt.Expr _ _) _ _ _); (first | ((with_reducible refine' ws_expr ?_ ?k1); (case k1 => rfl))))))
  | ((with_reducible show DL.WGs _ _ _ _ _ _); (first | ((with_reducible refine' wgs_consS ?_ ?k1); (case k1 => rfl)) | ((with_reducible refine' wgs_cons ?_ ?k1); (case k1 => rfl)) | with_reducible refine wgs_nil ?_))
  | ((with_reducible show DL.WG _ _ _ _ _ _); (first | ((with_reducible refine' wg_tupS ?kc ?km ?ks ?ki ?kl ?_); (case kc => exact Ctx.calm (by assumption)); (case km => rfl); (case ks => rfl); (case ki => decide); (case kl => first | exact Nat.le_of_ble_eq_true rfl | omega | (simp; done))) | ((with_reducible refine' x_setX ?kx ?_ ?k1); (case kx => assumption); (case k1 => (intro _; rfl))) | ((with_reducible refine' wg_nm ?kb ?k0 ?kp ?_); (case kb => assumption); (case k0 => walk_at "nm"); (case kp => walk_at "nm")) | ((with_reducible refine' x_gtup ?kx ?kl ?_ ?k1); (case kx => assumption); (case kl => rfl); (case k1 => rfl)) | ((with_reducible refine' wg_setL ?_ ?k1); (case k1 => (intro _; rfl)))))
  | ((with_reducible show DL.WA _ _ _ _ _); (first | ((with_reducible refine' wa_star ?_ ?k1); (case k1 => rfl)) | with_reducible refine wa_nil ?_ | ((with_reducible refine' wa_cons ?_ ?k1); (case k1 => rfl))))
  | ((with_reducible show DL.WJs _ _ _ _ _ _); (first | with_reducible refine wjs_cons ?_ | with_reducible refine wjs_nil ?_))
  | ((with_reducible show DL.WT _ _ _ _ _); (first | ((with_reducible refine' xt_inX ?kx ?_ ?k1); (case kx => assumption); (case k1 => rfl)) | ((with_reducible refine' xt_ninX ?kx ?_ ?k1); (case kx => assumption); (case k1 => rfl)) | ((with_reducible refine' wt_lele ?_ ?k1); (case k1 => with_unfolding_all rfl)) | ((with_reducible refine' xt_eq ?k1 ?_); (case k1 => assumption)) | ((with_reducible refine' xt_ne ?k1 ?_); (case k1 => assumption)) | ((with_reducible refine' xt_in ?k1 ?_ ?k2); (case k1 => assumption); (case k2 => rfl)) | ((with_reducible refine' xt_nin ?k1 ?_ ?k2); (case k1 => assumption); (case k2 => rfl)) | with_reducible refine wt_lt ?_ | with_reducible refine wt_le ?_ | with_reducible refine wt_gt ?_ | with_reducible refine wt_ge ?_ | with_reducible refine wt_is ?_ | with_reducible refine wt_isnot ?_ | with_reducible refine wt_not ?_ | with_reducible refine wt_bo ?_ | ((with_reducible refine' wt_val ?_ ?k1); (case k1 => (intro _; rfl)))))
  | ((with_reducible show DL.WW _ _ _ _ _); (first | with_reducible refine ww_and ?_ | with_reducible refine ww_or ?_ | with_reducible refine ww_and1 ?_ | with_reducible refine ww_or1 ?_))
  | ((with_reducible show DL.WO _ _ _ _ _); (first | with_reducible refine wo_n ?_ | with_reducible refine wo_s ?_))
  | ((with_reducible show DL.dIxD _ _ _ _); (first | ((with_reducible refine' ixD_ok ?h1 ?h2 ?_); (case h1 => assumption); (case h2 => assumption)) | ((with_reducible show dIxD (D.own _) (D.int _) _ _); refine Or.inl ?_) | ((with_reducible show dIxD (D.lst _) _ _ _); refine Or.inl ?_) | ((with_reducible show dIxD (D.tup _) _ _ _); refine Or.inl ?_) | ((with_reducible show dIxD (D.str _) _ _ _); refine Or.inl ?_)))
  | ((with_reducible show DL.dInX _ _ _ _ _); (first | ((with_reducible refine' inX_ok ?h1 ?_); (case h1 => assumption)) | ((with_reducible refine' ninX_ok ?h1 ?_); (case h1 => assumption))))
  | ((with_reducible show DL.dLenX _ _ _); (first | ((with_reducible refine' lenX_ok ?h1 ?_); (case h1 => assumption)) | ((with_reducible show dLenX [D.lst _] _ _); refine Or.inl ?_) | ((with_reducible show dLenX [D.tup _] _ _); refine Or.inl ?_) | ((with_reducible show dLenX [D.str _] _ _); refine Or.inl ?_)))
  | ((with_reducible show DL.FrzA _ _ _); (first | with_reducible refine fa_int ?_ | with_reducible refine fa_str ?_ | with_reducible refine fa_bl ?_ | with_reducible refine fa_non ?_ | with_reducible refine fa_tup ?_ | with_reducible refine fa_lst ?_ | ((with_reducible refine' fa_put ?k1 ?_); (case k1 => assumption))))
  | ((with_reducible show DL.dSl _ _ _ _ _); (first | with_reducible refine slA_f ?_ | with_reducible refine slA_t ?_ | with_reducible refine slA_p ?_ | ((with_reducible refine' slA_o ?k1 ?_); (case k1 => assumption)) | ((with_reducible refine' slA_z ?k1 ?_); (case k1 => walk_at "ct")) | with_reducible refine sl_t ?_ | with_reducible refine sl_f ?_))
  | ((with_reducible show DL.dAdd _ _ _ _); (first | with_reducible refine addA_ii ?_ | ((with_reducible refine' addA_ss ?k1 ?_); (case k1 => walk_at "ct")) | ((with_reducible refine' addA_tt ?k1 ?_); (case k1 => walk_at "ct")) | ((with_reducible refine' addA_ll ?k1 ?_); (case k1 => walk_at "sz")) | ((with_reducible refine' addA_pl ?k1 ?_); (case k1 => walk_at "sz")) | with_reducible refine add_ii ?_ | ((with_reducible refine' add_ss ?k1 ?_); (case k1 => walk_at "ct")) | ((with_reducible refine' add_tt ?k1 ?_); (case k1 => walk_at "ct"))))
  | ((with_reducible show DL.dList _ _ _); (first | with_reducible refine listA_l ?_ | with_reducible refine listA_t ?_ | with_reducible refine listA_p ?_ | ((with_reducible refine' listA_o ?k1 ?_); (case k1 => assumption))))
  | ((with_reducible show DL.dMul _ _ _ _); (first | ((with_reducible refine' mulA_ii ?k1 ?_); (case k1 => walk_at "ct")) | ((with_reducible refine' mul_ii ?k1 ?_); (case k1 => walk_at "ct"))))
  | ((with_reducible show DL.dMulS _ _ _ _); (first | ((with_reducible refine' mul_s ?k1 ?_); (case k1 => decide +kernel))))
  | ((with_reducible show DL.dAppend _ _ _ _); (first | ((with_reducible refine' app_put ?k1 ?_); (case k1 => walk_at "sz"))))
  | ((with_reducible show DL.tb _ _ _); (first | with_reducible refine tb_ok ?_))
  | ((with_reducible show DL.dIsi _ _ _); (first | ((with_reducible refine' isi_int ?k1 ?_); (case k1 => walk_at "kd")) | ((with_reducible refine' isi_bool ?k1 ?_); (case k1 => walk_at "kd")) | ((with_reducible refine' isi_str ?k1 ?_); (case k1 => walk_at "kd")) | ((with_reducible refine' isi_list ?k1 ?_); (case k1 => walk_at "kd")) | ((with_reducible refine' isi_tuple ?k1 ?_); (case k1 => walk_at "kd")) | ((with_reducible refine' isi_ls ?k1 ?_); (case k1 => assumption)) | ((with_reducible refine' isi_lsT ?k1 ?_); (case k1 => assumption))))
  | ((with_reducible show DL.dIsiT _ _ _); (first | ((with_reducible refine' isi_ltT ?k1 ?k2 ?_); (case k1 => rfl); (case k2 => rfl)) | ((with_reducible refine' isi_ltF ?k1 ?k2 ?_); (case k1 => rfl); (case k2 => rfl)) | ((with_reducible refine' isi_lt ?k1 ?_); (case k1 => walk_at "kd")) | ((with_reducible refine' isiT_ls ?k1 ?_); (case k1 => assumption))))
  | ((with_reducible show DL.dLen _ _ _); (first | ((with_reducible refine' len_ls ?k1 ?_); (case k1 => assumption)) | ((with_reducible refine' len_str ?k1 ?_); (case k1 => walk_at "ct")) | with_reducible refine len_tup ?_ | with_reducible refine len_fr ?_ | with_reducible refine len_sl ?_ | ((with_reducible refine' len_own ?k1 ?_); (case k1 => assumption)) | with_reducible refine len_put ?_))
  | ((with_reducible show DL.dEq _ _ _ _ _); (first | with_reducible refine eq_bb ?_ | with_reducible refine ne_bb ?_ | with_reducible refine eq_ii ?_ | with_reducible refine ne_ii ?_))
  | ((with_reducible show DL.dI2 _ _ _ _ _ _); (first | ((with_reducible refine' i2_ok ?k1 ?_); (case k1 => walk_at "ct"))))
  | ((with_reducible show DL.dB2 _ _ _ _ _); (first | with_reducible refine b2_ok ?_))
  | ((with_reducible show DL.dInt1 _ _ _ _); (first | with_reducible refine int1_ok ?_))
  | ((with_reducible show DL.dInt2 _ _ _ _); (first | with_reducible refine int2_ok ?_))
  | ((with_reducible show DL.dInt _ _ _); (first | with_reducible refine int_i ?_ | with_reducible refine int_b ?_))
  | ((with_reducible show DL.dIn _ _ _ _ _); (first | with_reducible refine ins_c ?_))
  | ((with_reducible show DL.dTuple _ _ _); (first | with_reducible refine tup_t ?_ | with_reducible refine tup_f ?_))
  | ((with_reducible show DL.dIx _ _ _ _); (first | ((with_reducible refine' ix_t ?k1 ?_); (case k1 => rfl)) | ((with_reducible refine' ix_f ?k1 ?_); (case k1 => rfl)) | ((with_reducible refine' ix_s ?k1 ?_); (case k1 => rfl)) | ((with_reducible refine' ix_p ?k1 ?_); (case k1 => rfl)) | ((with_reducible refine' ix_o ?k0 ?k1 ?_); (case k0 => assumption); (case k1 => rfl))))
  | ((with_reducible show DL.dIsN _ _ _ _ _); (first | ((with_reducible refine' isn_k ?k1 ?_); (case k1 => walk_at "kd")) | ((with_reducible refine' nisn_k ?k1 ?_); (case k1 => walk_at "kd"))))
  | ((refine' fld_ok ?h1 ?h2 ?h3 ?_); (case h1 => assumption); (case h2 => assumption); (case h3 => walk_at "fg"))
  | with_reducible refine ex_bl ?_
  | with_reducible refine ex_int ?_
  | with_reducible refine ex_2 ?_
  | with_reducible refine ex_3 ?_
  | ((with_reducible refine' setL_p ?k1 ?_); (case k1 => rfl))
  | ((with_reducible refine' setL_o ?k0 ?k1 ?_); (case k0 => assumption); (case k1 => rfl))
  | with_reducible refine and_T ?_
  | with_reducible refine and_F ?_
  | ((with_reducible refine and_S ?_ ?_) <;> intro _)
  | with_reducible refine ty_str ?_
  | with_reducible refine ty_put ?_
  | ((with_reducible refine' ty_own ?k1 ?_); (case k1 => assumption))
  | ((with_reducible refine' sz_ok ?k1 ?_); (case k1 => rfl))
  | ((with_reducible refine' sz_as ?k1 ?_); (case k1 => assumption))))
local macro_rules | `(tactic| walk_at "pyK") => `(tactic| repeat' (first
  | ((with_reducible show DL.WE _ _ _ _ _); (first
    | ((with_reducible show DL.WE _ (Expr.Subscript _ _ _) _ _ _); (first | ((with_reducible refine' x_ixD ?kx ?_ ?k1); (case kx => assumption); (case k1 => (intro _ _; rfl))) | with_reducible refine we_revT ?_ | ((with_reducible refine' x_ixL ?_ ?k1); (case k1 => (intro _ _; rfl))) | ((with_reducible refine' we_ix ?_ ?k1); (case k1 => (intro _ _; rfl))) | with_reducible refine we_slice ?_))
    | ((with_reducible show DL.WE _ (Expr.Compare _ _ _ _) _ _ _); (first | ((with_reducible refine' x_inX ?kx ?_ ?k1); (case kx => assumption); (case k1 => rfl)) | ((with_reducible refine' x_ninX ?kx ?_ ?k1); (case kx => assumption); (case k1 => rfl)) | ((with_reducible refine' we_lele ?_ ?k1); (case k1 => with_unfolding_all rfl)) | with_reducible refine we_lt ?_ | with_reducible refine we_le ?_ | with_reducible refine we_gt ?_ | with_reducible refine we_ge ?_ | with_reducible refine we_is ?_ | with_reducible refine we_isnot ?_ | ((with_reducible refine' x_eq ?k1 ?_); (case k1 => assumption)) | ((with_reducible refine' x_ne ?k1 ?_); (case k1 => assumption)) | ((with_reducible refine' x_in ?k1 ?_ ?k2); (case k1 => assumption); (case k2 => rfl)) | ((with_reducible refine' x_nin ?k1 ?_ ?k2); (case k1 => assumption); (case k2 => rfl))))
    | ((with_reducible show DL.WE _ (Expr.Call (Expr.Name _ _) _ _ _) _ _ _); (first | ((with_reducible refine' x_lenX ?kx ?kz ?kg ?_ ?k1 ?k2); (case kx => assumption); (case kz => assumption); (case kg => walk_at "gl"); (case k1 => rfl); (case k2 => rfl)) | ((with_reducible refine' x_dictP ?kx ?kz ?kg ?_ ?k1 ?k2); (case kx => assumption); (case kz => assumption); (case kg => walk_at "gl"); (case k1 => rfl); (case k2 => rfl)) | ((with_reducible refine' x_sortedK ?kx ?kz ?kg ?_ ?k1 ?k2); (case kx => assumption); (case kz => assumption); (case kg => walk_at "gl"); (case k1 => rfl); (case k2 => rfl)) | ((with_reducible refine' x_repr ?kx ?kz ?kg ?_ ?k1 ?k2); (case kx => assumption); (case kz => assumption); (case kg => walk_at "gl"); (case k1 => rfl); (case k2 => rfl)) | ((with_reducible refine' x_isiT ?kx ?kz ?kg ?_ ?k1 ?k2); (case kx => assumption); (case kz => assumption); (case kg => walk_at "gl"); (case k1 => rfl); (case k2 => rfl)) | ((with_reducible refine' x_isi ?kx ?kz ?kg ?_ ?k1 ?k2); (case kx => assumption); (case kz => assumption); (case kg => walk_at "gl"); (case k1 => rfl); (case k2 => rfl)) | ((with_reducible refine' x_len ?kx ?kz ?kg ?_ ?k1 ?k2); (case kx => assumption); (case kz => assumption); (case kg => walk_at "gl"); (case k1 => rfl); (case k2 => rfl)) | ((with_reducible refine' x_abs ?kx ?kz ?kg ?_ ?k1 ?k2); (case kx => assumption); (case kz => assumption); (case kg => walk_at "gl"); (case k1 => rfl); (case k2 => rfl)) | ((with_reducible refine' x_max2 ?kx ?kz ?kg ?_ ?k1 ?k2); (case kx => assumption); (case kz => assumption); (case kg => walk_at "gl"); (case k1 => rfl); (case k2 => rfl)) | ((with_reducible refine' x_min2 ?kx ?kz ?kg ?_ ?k1 ?k2); (case kx => assumption); (case kz => assumption); (case kg => walk_at "gl"); (case k1 => rfl); (case k2 => rfl)) | ((with_reducible refine' x_minL ?kx ?kz ?kg ?_ ?k1 ?k2); (case kx => assumption); (case kz => assumption); (case kg => walk_at "gl"); (case k1 => rfl); (case k2 => rfl)) | ((with_reducible refine' x_any ?kx ?kz ?kg ?_ ?k1 ?k2); (case kx => assumption); (case kz => assumption); (case kg => walk_at "gl"); (case k1 => rfl); (case k2 => rfl)) | ((with_reducible refine' x_all ?kx ?kz ?kg ?_ ?k1 ?k2); (case kx => assumption); (case kz => assumption); (case kg => walk_at "gl"); (case k1 => rfl); (case k2 => rfl)) | ((with_reducible refine' x_sum ?kx ?kz ?kg ?_ ?k1 ?k2); (case kx => assumption); (case kz => assumption); (case kg => walk_at "gl"); (case k1 => rfl); (case k2 => rfl)) | ((with_reducible refine' x_intC ?kx ?kz ?kg ?_ ?k1 ?k2); (case kx => assumption); (case kz => assumption); (case kg => walk_at "gl"); (case k1 => rfl); (case k2 => rfl)) | ((with_reducible refine' x_strC ?kx ?kz ?kg ?_ ?k1 ?k2); (case kx => assumption); (case kz => assumption); (case kg => walk_at "gl"); (case k1 => rfl); (case k2 => rfl)) | ((with_reducible refine' x_tupleC ?kx ?kz ?kg ?_ ?k1 ?k2); (case kx => assumption); (case kz => assumption); (case kg => walk_at "gl"); (case k1 => rfl); (case k2 => rfl)) | ((with_reducible refine' x_listC ?kx ?kz ?kg ?_ ?k1 ?k2); (case kx => assumption); (case kz => assumption); (case kg => walk_at "gl"); (case k1 => rfl); (case k2 => rfl)) | ((with_reducible refine' x_call ?kx ?kh ?kg ?_ ?kl ?kd ?k1 ?k2); (case kh => assumption); (case kx => assumption); (case kg => walk_at "gl"); (case kl => first | decide | omega); (case kd => decide); (case k1 => rfl); (case k2 => rfl))))
    | ((with_reducible show DL.WE _ (Expr.Attribute _ _ _) _ _ _); (first | ((with_reducible refine' x_fld ?kx ?_ ?k1); (case kx => assumption); (case k1 => rfl))))
    | ((with_reducible show DL.WE _ (Expr.Dict _ _ _) _ _ _); (first | with_reducible refine x_dnew ?_))
    | ((with_reducible show DL.WE _ (Expr.Call (Expr.Attribute _ _ _) _ _ _) _ _ _); (first | ((with_reducible refine' x_stripC ?_ ?k1 ?k2 ?k3 ?k4 ?k5); (case k1 => rfl); (case k2 => rfl); (case k3 => rfl); (case k4 => rfl); (case k5 => rfl)) | ((with_reducible refine' x_dget2 ?kx ?_ ?km); (case kx => assumption); (case km => exact ⟨rfl, rfl, rfl, rfl⟩)) | ((with_reducible refine' x_dpop1 ?_ ?km); (case km => exact ⟨rfl, rfl, rfl, rfl⟩)) | ((with_reducible refine' x_upper ?_ ?k1 ?k2); (case k1 => rfl); (case k2 => rfl)) | ((with_reducible refine' x_join ?_ ?k1 ?k2 ?k3 ?k4 ?k5); (case k1 => rfl); (case k2 => rfl); (case k3 => rfl); (case k4 => rfl); (case k5 => rfl)) | ((with_reducible refine' x_sindex ?_ ?k1 ?k2 ?k3 ?k4 ?k5); (case k1 => rfl); (case k2 => rfl); (case k3 => rfl); (case k4 => rfl); (case k5 => rfl)) | ((with_reducible refine' x_insert ?_ ?k1 ?k2 ?k3 ?k4 ?k5); (case k1 => rfl); (case k2 => rfl); (case k3 => rfl); (case k4 => rfl); (case k5 => rfl)) | ((with_reducible refine' x_popAt ?_ ?k1 ?k2 ?k3 ?k4 ?k5); (case k1 => rfl); (case k2 => rfl); (case k3 => rfl); (case k4 => rfl); (case k5 => rfl)) | ((with_reducible refine' x_append ?_ ?k1 ?k2 ?k3 ?k4 ?k5); (case k1 => rfl); (case k2 => rfl); (case k3 => rfl); (case k4 => rfl); (case k5 => rfl)) | ((with_reducible refine' x_extend ?_ ?k1 ?k2 ?k3 ?k4 ?k5); (case k1 => rfl); (case k2 => rfl); (case k3 => rfl); (case k4 => rfl); (case k5 => rfl))))
    | ((with_reducible show DL.WE _ (Expr.BoolOp _ _ _) _ _ _); (first | with_reducible refine we_and ?_ | with_reducible refine we_or ?_ | with_reducible refine we_one ?_))
    | ((with_reducible show DL.WE _ (Expr.UnaryOp _ _ _) _ _ _); (first | with_reducible refine we_not ?_ | with_reducible refine we_neg ?_))
    | ((with_reducible show DL.WE _ (Expr.IfExp _ _ _ _) _ _ _); (first | with_reducible refine we_if ?_))
    | ((with_reducible show DL.WE _ (Expr.Constant _ _ _) _ _ _); (first | with_reducible refine we_int ?_ | with_reducible refine we_bl ?_ | with_reducible refine we_non ?_ | with_reducible refine we_str ?_))
    | ((with_reducible show DL.WE _ (Expr.Tuple _ _ _) _ _ _); (first | with_reducible refine we_tup ?_))
    | ((with_reducible show DL.WE _ (Expr.Name _ _) _ _ _); (first | ((with_reducible refine' we_nm ?k1 ?k0 ?k2 ?_); (case k1 => assumption); (case k0 => walk_at "nm"); (case k2 => walk_at "nm")) | ((with_reducible refine' x_tyInt ?kx ?kz ?kg ?_); (case kx => assumption); (case kz => assumption); (case kg => walk_at "gl")) | ((with_reducible refine' x_tyBool ?kx ?kz ?kg ?_); (case kx => assumption); (case kz => assumption); (case kg => walk_at "gl")) | ((with_reducible refine' x_tyStr ?kx ?kz ?kg ?_); (case kx => assumption); (case kz => assumption); (case kg => walk_at "gl")) | ((with_reducible refine' x_tyList ?kx ?kz ?kg ?_); (case kx => assumption); (case kz => assumption); (case kg => walk_at "gl")) | ((with_reducible refine' x_tyTuple ?kx ?kz ?kg ?_); (case kx => assumption); (case kz => assumption); (case kg => walk_at "gl")) | ((with_reducible refine' x_glob ?kx ?kh ?kg ?_ ?kd); (case kh => assumption); (case kx => assumption); (case kg => walk_at "gl"); (case kd => decide))))
    | ((with_reducible show DL.WE _ (Expr.BinOp _ _ _ _) _ _ _); (first | with_reducible refine we_add ?_ | with_reducible refine we_sub' ?_ | with_reducible refine we_mul ?_ | with_reducible refine we_mod ?_ | with_reducible refine we_fdiv ?_ | with_reducible refine we_pow ?_))))
  | ((with_reducible show DL.WSs _ _ _ _ _); (first | with_reducible refine wss_cons ?_ | with_reducible refine wss_nil ?_))
  | ((with_reducible show DL.WS _ _ _ _ _); (first
    | ((with_reducible show DL.WS _ (Stmt.Assign _ _ _) _ _ _); (first | ((with_reducible refine' x_setFld ?kx ?_ ?k1); (case kx => assumption); (case k1 => rfl)) | ((with_reducible refine' ws_nm ?kb ?k0 ?kp ?_ ?k1); (case kb => assumption); (case k0 => walk_at "nm"); (case kp => walk_at "nm"); (case k1 => rfl)) | ((with_reducible refine' x_par2 ?kd ?k1 ?k2 ?k3 ?k4 ?k5 ?k6 ?_ ?k7); (case kd => assumption); (case k1 => walk_at "nm"); (case k2 => (intro _; walk_at "nm")); (case k3 => decide +kernel); (case k4 => decide +kernel); (case k5 => decide +kernel); (case k6 => rfl); (case k7 => rfl)) | ((with_reducible refine' x_par3 ?kd ?k1 ?k2 ?k3 ?k4 ?k5 ?k6 ?k7 ?_ ?k8); (case kd => assumption); (case k1 => walk_at "nm"); (case k2 => (intro _; walk_at "nm")); (case k3 => (intro _ _; walk_at "nm")); (case k4 => decide +kernel); (case k5 => decide +kernel); (case k6 => decide +kernel); (case k7 => rfl); (case k8 => rfl)) | ((with_reducible refine' ws_asg ?_ ?k1 ?k2 ?k3); (case k1 => rfl); (case k2 => rfl); (case k3 => rfl)) | ((with_reducible refine' ws_asgD ?kd ?_ ?k1 ?k2 ?k3); (case kd => assumption); (case k1 => rfl); (case k2 => rfl); (case k3 => rfl))))
    | ((with_reducible show DL.WS _ (Stmt.Delete _ _) _ _ _); (first | ((with_reducible refine' x_ddel ?_))))
    | ((with_reducible show DL.WS _ (Stmt.If _ _ _ _) _ _ _); (first | ((with_reducible refine' x_ifWge ?kb ?k0 ?kp ?_); (case kb => assumption); (case k0 => walk_at "nm"); (case kp => walk_at "nm")) | with_reducible refine ws_if ?_))
    | ((with_reducible show DL.WS _ (Stmt.Return _ _) _ _ _); (first | with_reducible refine ws_ret ?_ | with_reducible refine ws_retN ?_))
    | ((with_reducible show DL.WS _ (Stmt.Pass _) _ _ _); (first | with_reducible refine ws_pass ?_))
    | ((with_reducible show DL.WS _ (Stmt.Break _) _ _ _); (first | with_reducible refine ws_break ?_))
    | ((with_reducible show DL.WS _ (Stmt.Continue _) _ _ _); (first | with_reducible refine ws_continue ?_))
    | ((with_reducible show DL.WS _ (Stmt.AugAssign _ _ _ _) _ _ _); (first | ((with_reducible refine' ws_augAdd ?kb ?k0 ?kg ?kp ?_); (case kb => assumption); (case k0 => walk_at "nm"); (case kg => walk_at "nm"); (case kp => walk_at "nm"))))
    | ((with_reducible show DL.WS _ (Stmt.Expr _ _) _ _ _); (first | ((with_reducible refine' ws_expr ?_ ?k1); (case k1 => rfl))))))
  | ((with_reducible show DL.WT _ _ _ _ _); (first | ((with_reducible refine' xt_inX ?kx ?_ ?k1); (case kx => assumption); (case k1 => rfl)) | ((with_reducible refine' xt_ninX ?kx ?_ ?k1); (case kx => assumption); (case k1 => rfl)) | ((with_reducible refine' wt_lele ?_ ?k1); (case k1 => with_unfolding_all rfl)) | ((with_reducible refine' xt_eq ?k1 ?_); (case k1 => assumption)) | ((with_reducible refine' xt_ne ?k1 ?_); (case k1 => assumption)) | ((with_reducible refine' xt_in ?k1 ?_ ?k2); (case k1 => assumption); (case k2 => rfl)) | ((with_reducible refine' xt_nin ?k1 ?_ ?k2); (case k1 => assumption); (case k2 => rfl)) | with_reducible refine wt_lt ?_ | with_reducible refine wt_le ?_ | with_reducible refine wt_gt ?_ | with_reducible refine wt_ge ?_ | with_reducible refine wt_is ?_ | with_reducible refine wt_isnot ?_ | with_reducible refine wt_not ?_ | with_reducible refine wt_bo ?_ | ((with_reducible refine' wt_val ?_ ?k1); (case k1 => (intro _; rfl)))))
  | ((with_reducible show DL.WG _ _ _ _ _ _); (first | ((with_reducible refine' x_setX ?kx ?_ ?k1); (case kx => assumption); (case k1 => (intro _; rfl))) | ((with_reducible refine' wg_nm ?kb ?k0 ?kp ?_); (case kb => assumption); (case k0 => walk_at "nm"); (case kp => walk_at "nm")) | ((with_reducible refine' x_gtup ?kx ?kl ?_ ?k1); (case kx => assumption); (case kl => rfl); (case k1 => rfl)) | ((with_reducible refine' wg_setL ?_ ?k1); (case k1 => (intro _; rfl)))))
  | ((with_reducible show DL.WA _ _ _ _ _); (first | with_reducible refine wa_nil ?_ | ((with_reducible refine' wa_cons ?_ ?k1); (case k1 => rfl))))
  | ((with_reducible show DL.WW _ _ _ _ _); (first | with_reducible refine ww_and ?_ | with_reducible refine ww_or ?_ | with_reducible refine ww_and1 ?_ | with_reducible refine ww_or1 ?_))
  | ((with_reducible show DL.WGs _ _ _ _ _ _); (first | ((with_reducible refine' wgs_cons ?_ ?k1); (case k1 => rfl)) | with_reducible refine wgs_nil ?_))
  | ((with_reducible show DL.WO _ _ _ _ _); (first | with_reducible refine wo_n ?_ | with_reducible refine wo_s ?_))
  | ((with_reducible show DL.dIxD _ _ _ _); (first | ((with_reducible refine' ixD_ok ?h1 ?h2 ?_); (case h1 => assumption); (case h2 => assumption)) | ((with_reducible show dIxD (D.lst _) _ _ _); refine Or.inl ?_) | ((with_reducible show dIxD (D.tup _) _ _ _); refine Or.inl ?_) | ((with_reducible show dIxD (D.str _) _ _ _); refine Or.inl ?_)))
  | ((with_reducible show DL.dInX _ _ _ _ _); (first | ((with_reducible refine' inX_ok ?h1 ?_); (case h1 => assumption)) | ((with_reducible refine' ninX_ok ?h1 ?_); (case h1 => assumption))))
  | ((with_reducible show DL.dLenX _ _ _); (first | ((with_reducible refine' lenX_ok ?h1 ?_); (case h1 => assumption)) | ((with_reducible show dLenX [D.lst _] _ _); refine Or.inl ?_) | ((with_reducible show dLenX [D.tup _] _ _); refine Or.inl ?_) | ((with_reducible show dLenX [D.str _] _ _); refine Or.inl ?_)))
  | ((with_reducible show DL.tb _ _ _); (first | with_reducible refine tb_ok ?_))
  | ((with_reducible show DL.dIsi _ _ _); (first | ((with_reducible refine' isi_int ?k1 ?_); (case k1 => walk_at "kd")) | ((with_reducible refine' isi_bool ?k1 ?_); (case k1 => walk_at "kd")) | ((with_reducible refine' isi_str ?k1 ?_); (case k1 => walk_at "kd")) | ((with_reducible refine' isi_list ?k1 ?_); (case k1 => walk_at "kd")) | ((with_reducible refine' isi_tuple ?k1 ?_); (case k1 => walk_at "kd")) | ((with_reducible refine' isi_ls ?k1 ?_); (case k1 => assumption)) | ((with_reducible refine' isi_lsT ?k1 ?_); (case k1 => assumption))))
  | ((with_reducible show DL.dIsiT _ _ _); (first | ((with_reducible refine' isi_ltT ?k1 ?k2 ?_); (case k1 => rfl); (case k2 => rfl)) | ((with_reducible refine' isi_ltF ?k1 ?k2 ?_); (case k1 => rfl); (case k2 => rfl)) | ((with_reducible refine' isi_lt ?k1 ?_); (case k1 => walk_at "kd")) | ((with_reducible refine' isiT_ls ?k1 ?_); (case k1 => assumption))))
  | ((with_reducible show DL.dLen _ _ _); (first | ((with_reducible refine' len_ls ?k1 ?_); (case k1 => assumption)) | ((with_reducible refine' len_str ?k1 ?_); (case k1 => walk_at "ct")) | with_reducible refine len_tup ?_ | with_reducible refine len_fr ?_ | with_reducible refine len_sl ?_ | ((with_reducible refine' len_own ?k1 ?_); (case k1 => assumption)) | with_reducible refine len_put ?_))
  | ((with_reducible show DL.dEq _ _ _ _ _); (first | with_reducible refine eq_bb ?_ | with_reducible refine ne_bb ?_ | with_reducible refine eq_ii ?_ | with_reducible refine ne_ii ?_))
  | ((with_reducible show DL.dI2 _ _ _ _ _ _); (first | ((with_reducible refine' i2_ok ?k1 ?_); (case k1 => walk_at "ct"))))
  | ((with_reducible show DL.dB2 _ _ _ _ _); (first | with_reducible refine b2_ok ?_))
  | ((with_reducible show DL.dAdd _ _ _ _); (first | with_reducible refine add_ii ?_ | ((with_reducible refine' add_ss ?k1 ?_); (case k1 => walk_at "ct")) | ((with_reducible refine' add_tt ?k1 ?_); (case k1 => walk_at "ct"))))
  | ((with_reducible show DL.dMul _ _ _ _); (first | ((with_reducible refine' mul_ii ?k1 ?_); (case k1 => walk_at "ct"))))
  | ((with_reducible show DL.dSl _ _ _ _ _); (first | with_reducible refine sl_t ?_ | with_reducible refine sl_f ?_))
  | ((with_reducible show DL.dInt1 _ _ _ _); (first | with_reducible refine int1_ok ?_))
  | ((with_reducible show DL.dInt2 _ _ _ _); (first | with_reducible refine int2_ok ?_))
  | ((with_reducible show DL.dInt _ _ _); (first | with_reducible refine int_i ?_ | with_reducible refine int_b ?_))
  | ((with_reducible show DL.dIn _ _ _ _ _); (first | with_reducible refine ins_c ?_))
  | ((with_reducible show DL.dTuple _ _ _); (first | with_reducible refine tup_t ?_ | with_reducible refine tup_f ?_))
  | ((with_reducible show DL.dIx _ _ _ _); (first | ((with_reducible refine' ix_t ?k1 ?_); (case k1 => rfl)) | ((with_reducible refine' ix_f ?k1 ?_); (case k1 => rfl)) | ((with_reducible refine' ix_s ?k1 ?_); (case k1 => rfl)) | ((with_reducible refine' ix_p ?k1 ?_); (case k1 => rfl)) | ((with_reducible refine' ix_o ?k0 ?k1 ?_); (case k0 => assumption); (case k1 => rfl))))
  | ((with_reducible show DL.dIsN _ _ _ _ _); (first | ((with_reducible refine' isn_k ?k1 ?_); (case k1 => walk_at "kd")) | ((with_reducible refine' nisn_k ?k1 ?_); (case k1 => walk_at "kd"))))
  | ((refine' fld_ok ?h1 ?h2 ?h3 ?_); (case h1 => assumption); (case h2 => assumption); (case h3 => walk_at "fg"))
  | with_reducible refine ex_bl ?_
  | with_reducible refine ex_int ?_
  | with_reducible refine ex_2 ?_
  | with_reducible refine ex_3 ?_
  | ((with_reducible refine' setL_p ?k1 ?_); (case k1 => rfl))
  | ((with_reducible refine' setL_o ?k0 ?k1 ?_); (case k0 => assumption); (case k1 => rfl))
  | with_reducible refine and_T ?_
  | with_reducible refine and_F ?_
  | ((with_reducible refine and_S ?_ ?_) <;> intro _)
  | with_reducible refine ty_str ?_
  | with_reducible refine ty_put ?_
  | ((with_reducible refine' ty_own ?k1 ?_); (case k1 => assumption))
  | ((with_reducible refine' sz_ok ?k1 ?_); (case k1 => rfl))
  | ((with_reducible refine' sz_as ?k1 ?_); (case k1 => assumption))))
local macro_rules | `(tactic| walk_at "pyAO") => `(tactic| repeat' (first
  | ((with_reducible show DL.WE _ _ _ _ _); (first
    | ((with_reducible show DL.WE _ (Expr.Compare _ _ _ _) _ _ _); (first | ((with_reducible refine' we_lele ?_ ?k1); (case k1 => with_unfolding_all rfl)) | with_reducible refine we_lt ?_ | with_reducible refine we_le ?_ | with_reducible refine we_gt ?_ | with_reducible refine we_ge ?_ | with_reducible refine we_is ?_ | with_reducible refine we_isnot ?_ | ((with_reducible refine' x_eq ?k1 ?_); (case k1 => assumption)) | ((with_reducible refine' x_ne ?k1 ?_); (case k1 => assumption)) | ((with_reducible refine' x_in ?k1 ?_ ?k2); (case k1 => assumption); (case k2 => rfl)) | ((with_reducible refine' x_nin ?k1 ?_ ?k2); (case k1 => assumption); (case k2 => rfl))))
    | ((with_reducible show DL.WE _ (Expr.Subscript _ _ _) _ _ _); (first | with_reducible refine we_revT ?_ | with_reducible refine x_sliceA ?_ | ((with_reducible refine' x_ixL ?_ ?k1); (case k1 => (intro _ _; rfl))) | ((with_reducible refine' we_ix ?_ ?k1); (case k1 => (intro _ _; rfl))) | with_reducible refine we_slice ?_))
    | ((with_reducible show DL.WE _ (Expr.Call (Expr.Attribute _ _ _) _ _ _) _ _ _); (first | ((with_reducible refine' x_upper ?_ ?k1 ?k2); (case k1 => rfl); (case k2 => rfl)) | ((with_reducible refine' x_join ?_ ?k1 ?k2 ?k3 ?k4 ?k5); (case k1 => rfl); (case k2 => rfl); (case k3 => rfl); (case k4 => rfl); (case k5 => rfl)) | ((with_reducible refine' x_sindex ?_ ?k1 ?k2 ?k3 ?k4 ?k5); (case k1 => rfl); (case k2 => rfl); (case k3 => rfl); (case k4 => rfl); (case k5 => rfl)) | ((with_reducible refine' x_insert ?_ ?k1 ?k2 ?k3 ?k4 ?k5); (case k1 => rfl); (case k2 => rfl); (case k3 => rfl); (case k4 => rfl); (case k5 => rfl)) | ((with_reducible refine' x_popAt ?_ ?k1 ?k2 ?k3 ?k4 ?k5); (case k1 => rfl); (case k2 => rfl); (case k3 => rfl); (case k4 => rfl); (case k5 => rfl)) | ((with_reducible refine' x_append ?_ ?k1 ?k2 ?k3 ?k4 ?k5); (case k1 => rfl); (case k2 => rfl); (case k3 => rfl); (case k4 => rfl); (case k5 => rfl)) | ((with_reducible refine' x_extend ?_ ?k1 ?k2 ?k3 ?k4 ?k5); (case k1 => rfl); (case k2 => rfl); (case k3 => rfl); (case k4 => rfl); (case k5 => rfl))))
    | ((with_reducible show DL.WE _ (Expr.BinOp _ _ _ _) _ _ _); (first | with_reducible refine x_mulS ?_ | with_reducible refine x_addA ?_ | with_reducible refine x_mulA ?_ | with_reducible refine we_add ?_ | with_reducible refine we_sub' ?_ | with_reducible refine we_mul ?_ | with_reducible refine we_mod ?_ | with_reducible refine we_fdiv ?_ | with_reducible refine we_pow ?_))
    | ((with_reducible show DL.WE _ (Expr.List _ _) _ _ _); (first | with_reducible refine we_lstF ?_))
    | ((with_reducible show DL.WE _ (Expr.Call (Expr.Name _ _) _ _ _) _ _ _); (first | ((with_reducible refine' x_listA ?kx ?kz ?kg ?_ ?k1 ?k2); (case kx => assumption); (case kz => assumption); (case kg => walk_at "gl"); (case k1 => rfl); (case k2 => rfl)) | ((with_reducible refine' x_repr ?kx ?kz ?kg ?_ ?k1 ?k2); (case kx => assumption); (case kz => assumption); (case kg => walk_at "gl"); (case k1 => rfl); (case k2 => rfl)) | ((with_reducible refine' x_isiT ?kx ?kz ?kg ?_ ?k1 ?k2); (case kx => assumption); (case kz => assumption); (case kg => walk_at "gl"); (case k1 => rfl); (case k2 => rfl)) | ((with_reducible refine' x_isi ?kx ?kz ?kg ?_ ?k1 ?k2); (case kx => assumption); (case kz => assumption); (case kg => walk_at "gl"); (case k1 => rfl); (case k2 => rfl)) | ((with_reducible refine' x_len ?kx ?kz ?kg ?_ ?k1 ?k2); (case kx => assumption); (case kz => assumption); (case kg => walk_at "gl"); (case k1 => rfl); (case k2 => rfl)) | ((with_reducible refine' x_abs ?kx ?kz ?kg ?_ ?k1 ?k2); (case kx => assumption); (case kz => assumption); (case kg => walk_at "gl"); (case k1 => rfl); (case k2 => rfl)) | ((with_reducible refine' x_max2 ?kx ?kz ?kg ?_ ?k1 ?k2); (case kx => assumption); (case kz => assumption); (case kg => walk_at "gl"); (case k1 => rfl); (case k2 => rfl)) | ((with_reducible refine' x_min2 ?kx ?kz ?kg ?_ ?k1 ?k2); (case kx => assumption); (case kz => assumption); (case kg => walk_at "gl"); (case k1 => rfl); (case k2 => rfl)) | ((with_reducible refine' x_minL ?kx ?kz ?kg ?_ ?k1 ?k2); (case kx => assumption); (case kz => assumption); (case kg => walk_at "gl"); (case k1 => rfl); (case k2 => rfl)) | ((with_reducible refine' x_any ?kx ?kz ?kg ?_ ?k1 ?k2); (case kx => assumption); (case kz => assumption); (case kg => walk_at "gl"); (case k1 => rfl); (case k2 => rfl)) | ((with_reducible refine' x_all ?kx ?kz ?kg ?_ ?k1 ?k2); (case kx => assumption); (case kz => assumption); (case kg => walk_at "gl"); (case k1 => rfl); (case k2 => rfl)) | ((with_reducible refine' x_sum ?kx ?kz ?kg ?_ ?k1 ?k2); (case kx => assumption); (case kz => assumption); (case kg => walk_at "gl"); (case k1 => rfl); (case k2 => rfl)) | ((with_reducible refine' x_intC ?kx ?kz ?kg ?_ ?k1 ?k2); (case kx => assumption); (case kz => assumption); (case kg => walk_at "gl"); (case k1 => rfl); (case k2 => rfl)) | ((with_reducible refine' x_strC ?kx ?kz ?kg ?_ ?k1 ?k2); (case kx => assumption); (case kz => assumption); (case kg => walk_at "gl"); (case k1 => rfl); (case k2 => rfl)) | ((with_reducible refine' x_tupleC ?kx ?kz ?kg ?_ ?k1 ?k2); (case kx => assumption); (case kz => assumption); (case kg => walk_at "gl"); (case k1 => rfl); (case k2 => rfl)) | ((with_reducible refine' x_listC ?kx ?kz ?kg ?_ ?k1 ?k2); (case kx => assumption); (case kz => assumption); (case kg => walk_at "gl"); (case k1 => rfl); (case k2 => rfl)) | ((with_reducible refine' x_call ?kx ?kh ?kg ?_ ?kl ?kd ?k1 ?k2); (case kh => assumption); (case kx => assumption); (case kg => walk_at "gl"); (case kl => first | decide | omega); (case kd => decide); (case k1 => rfl); (case k2 => rfl))))
    | ((with_reducible show DL.WE _ (Expr.BoolOp _ _ _) _ _ _); (first | with_reducible refine we_and ?_ | with_reducible refine x_orLim ?_ | with_reducible refine we_one ?_))
    | ((with_reducible show DL.WE _ (Expr.UnaryOp _ _ _) _ _ _); (first | with_reducible refine we_not ?_ | with_reducible refine we_neg ?_))
    | ((with_reducible show DL.WE _ (Expr.IfExp _ _ _ _) _ _ _); (first | with_reducible refine we_if ?_))
    | ((with_reducible show DL.WE _ (Expr.Constant _ _ _) _ _ _); (first | with_reducible refine we_int ?_ | with_reducible refine we_bl ?_ | with_reducible refine we_non ?_ | with_reducible refine we_str ?_))
    | ((with_reducible show DL.WE _ (Expr.Tuple _ _ _) _ _ _); (first | with_reducible refine we_tup ?_))
    | ((with_reducible show DL.WE _ (Expr.Name _ _) _ _ _); (first | ((with_reducible refine' we_nm ?k1 ?k0 ?k2 ?_); (case k1 => assumption); (case k0 => walk_at "nm"); (case k2 => walk_at "nm")) | ((with_reducible refine' x_tyInt ?kx ?kz ?kg ?_); (case kx => assumption); (case kz => assumption); (case kg => walk_at "gl")) | ((with_reducible refine' x_tyBool ?kx ?kz ?kg ?_); (case kx => assumption); (case kz => assumption); (case kg => walk_at "gl")) | ((with_reducible refine' x_tyStr ?kx ?kz ?kg ?_); (case kx => assumption); (case kz => assumption); (case kg => walk_at "gl")) | ((with_reducible refine' x_tyList ?kx ?kz ?kg ?_); (case kx => assumption); (case kz => assumption); (case kg => walk_at "gl")) | ((with_reducible refine' x_tyTuple ?kx ?kz ?kg ?_); (case kx => assumption); (case kz => assumption); (case kg => walk_at "gl")) | ((with_reducible refine' x_glob ?kx ?kh ?kg ?_ ?kd); (case kh => assumption); (case kx => assumption); (case kg => walk_at "gl"); (case kd => decide))))))
  | ((with_reducible show DL.WSs _ _ _ _ _); (first | with_reducible refine wss_cons ?_ | with_reducible refine wss_nil ?_))
  | ((with_reducible show DL.WS _ _ _ _ _); (first
    | ((with_reducible show DL.WS _ (Stmt.If _ _ _ _) _ _ _); (first | ((with_reducible refine' x_ifWge ?kb ?k0 ?kp ?_); (case kb => assumption); (case k0 => walk_at "nm"); (case kp => walk_at "nm")) | with_reducible refine ws_if ?_))
    | ((with_reducible show DL.WS _ (Stmt.Return _ _) _ _ _); (first | with_reducible refine ws_ret ?_ | with_reducible refine ws_retN ?_))
    | ((with_reducible show DL.WS _ (Stmt.Pass _) _ _ _); (first | with_reducible refine ws_pass ?_))
    | ((with_reducible show DL.WS _ (Stmt.Break _) _ _ _); (first | with_reducible refine ws_break ?_))
    | ((with_reducible show DL.WS _ (Stmt.Continue _) _ _ _); (first | with_reducible refine ws_continue ?_))
    | ((with_reducible show DL.WS _ (Stmt.Assign _ _ _) _ _ _); (first | ((with_reducible refine' ws_nm ?kb ?k0 ?kp ?_ ?k1); (case kb => assumption); (case k0 => walk_at "nm"); (case kp => walk_at "nm"); (case k1 => rfl)) | ((with_reducible refine' x_par2 ?kd ?k1 ?k2 ?k3 ?k4 ?k5 ?k6 ?_ ?k7); (case kd => assumption); (case k1 => walk_at "nm"); (case k2 => (intro _; walk_at "nm")); (case k3 => decide +kernel); (case k4 => decide +kernel); (case k5 => decide +kernel); (case k6 => rfl); (case k7 => rfl)) | ((with_reducible refine' x_par3 ?kd ?k1 ?k2 ?k3 ?k4 ?k5 ?k6 ?k7 ?_ ?k8); (case kd => assumption); (case k1 => walk_at "nm"); (case k2 => (intro _; walk_at "nm")); (case k3 => (intro _ _; walk_at "nm")); (case k4 => decide +kernel); (case k5 => decide +kernel); (case k6 => decide +kernel); (case k7 => rfl); (case k8 => rfl)) | ((with_reducible refine' ws_asg ?_ ?k1 ?k2 ?k3); (case k1 => rfl); (case k2 => rfl); (case k3 => rfl)) | ((with_reducible refine' ws_asgD ?kd ?_ ?k1 ?k2 ?k3); (case kd => assumption); (case k1 => rfl); (case k2 => rfl); (case k3 => rfl))))
    | ((with_reducible show DL.WS _ (Stmt.AugAssign _ _ _ _) _ _ _); (first | ((with_reducible refine' ws_augAdd ?kb ?k0 ?kg ?kp ?_); (case kb => assumption); (case k0 => walk_at "nm"); (case kg => walk_at "nm"); (case kp => walk_at "nm"))))
    | ((with_reducible show DL.WS _ (Stmt.Expr _ _) _ _ _); (first | ((with_reducible refine' ws_expr ?_ ?k1); (case k1 => rfl))))))
  | ((with_reducible show DL.WT _ _ _ _ _); (first | ((with_reducible refine' wt_lele ?_ ?k1); (case k1 => with_unfolding_all rfl)) | ((with_reducible refine' xt_eq ?k1 ?_); (case k1 => assumption)) | ((with_reducible refine' xt_ne ?k1 ?_); (case k1 => assumption)) | ((with_reducible refine' xt_in ?k1 ?_ ?k2); (case k1 => assumption); (case k2 => rfl)) | ((with_reducible refine' xt_nin ?k1 ?_ ?k2); (case k1 => assumption); (case k2 => rfl)) | with_reducible refine wt_lt ?_ | with_reducible refine wt_le ?_ | with_reducible refine wt_gt ?_ | with_reducible refine wt_ge ?_ | with_reducible refine wt_is ?_ | with_reducible refine wt_isnot ?_ | with_reducible refine wt_not ?_ | with_reducible refine wt_bo ?_ | ((with_reducible refine' wt_val ?_ ?k1); (case k1 => (intro _; rfl)))))
  | ((with_reducible show DL.WA _ _ _ _ _); (first | with_reducible refine wa_nil ?_ | ((with_reducible refine' wa_cons ?_ ?k1); (case k1 => rfl))))
  | ((with_reducible show DL.WW _ _ _ _ _); (first | with_reducible refine ww_and ?_ | with_reducible refine ww_or ?_ | with_reducible refine ww_and1 ?_ | with_reducible refine ww_or1 ?_))
  | ((with_reducible show DL.WG _ _ _ _ _ _); (first | ((with_reducible refine' wg_nm ?kb ?k0 ?kp ?_); (case kb => assumption); (case k0 => walk_at "nm"); (case kp => walk_at "nm")) | ((with_reducible refine' x_gtup ?kx ?kl ?_ ?k1); (case kx => assumption); (case kl => rfl); (case k1 => rfl)) | ((with_reducible refine' wg_setL ?_ ?k1); (case k1 => (intro _; rfl)))))
  | ((with_reducible show DL.WGs _ _ _ _ _ _); (first | ((with_reducible refine' wgs_cons ?_ ?k1); (case k1 => rfl)) | with_reducible refine wgs_nil ?_))
  | ((with_reducible show DL.WO _ _ _ _ _); (first | with_reducible refine wo_n ?_ | with_reducible refine wo_s ?_))
  | ((with_reducible show DL.FrzA _ _ _); (first | with_reducible refine fa_int ?_ | with_reducible refine fa_str ?_ | with_reducible refine fa_bl ?_ | with_reducible refine fa_non ?_ | with_reducible refine fa_tup ?_ | with_reducible refine fa_lst ?_ | ((with_reducible refine' fa_put ?k1 ?_); (case k1 => assumption))))
  | ((with_reducible show DL.dSl _ _ _ _ _); (first | with_reducible refine slA_f ?_ | with_reducible refine slA_t ?_ | with_reducible refine slA_p ?_ | ((with_reducible refine' slA_o ?k1 ?_); (case k1 => assumption)) | ((with_reducible refine' slA_z ?k1 ?_); (case k1 => walk_at "ct")) | with_reducible refine sl_t ?_ | with_reducible refine sl_f ?_))
  | ((with_reducible show DL.dAdd _ _ _ _); (first | with_reducible refine addA_ii ?_ | ((with_reducible refine' addA_ss ?k1 ?_); (case k1 => walk_at "ct")) | ((with_reducible refine' addA_tt ?k1 ?_); (case k1 => walk_at "ct")) | ((with_reducible refine' addA_ll ?k1 ?_); (case k1 => walk_at "sz")) | ((with_reducible refine' addA_pl ?k1 ?_); (case k1 => walk_at "sz")) | with_reducible refine add_ii ?_ | ((with_reducible refine' add_ss ?k1 ?_); (case k1 => walk_at "ct")) | ((with_reducible refine' add_tt ?k1 ?_); (case k1 => walk_at "ct"))))
  | ((with_reducible show DL.dList _ _ _); (first | with_reducible refine listA_l ?_ | with_reducible refine listA_t ?_ | with_reducible refine listA_p ?_ | ((with_reducible refine' listA_o ?k1 ?_); (case k1 => assumption))))
  | ((with_reducible show DL.dMul _ _ _ _); (first | ((with_reducible refine' mulA_ii ?k1 ?_); (case k1 => walk_at "ct")) | ((with_reducible refine' mul_ii ?k1 ?_); (case k1 => walk_at "ct"))))
  | ((with_reducible show DL.dMulS _ _ _ _); (first | ((with_reducible refine' mul_s ?k1 ?_); (case k1 => decide +kernel))))
  | ((with_reducible show DL.dAppend _ _ _ _); (first | ((with_reducible refine' app_put ?k1 ?_); (case k1 => walk_at "sz"))))
  | ((with_reducible show DL.tb _ _ _); (first | with_reducible refine tb_ok ?_))
  | ((with_reducible show DL.dIsi _ _ _); (first | ((with_reducible refine' isi_int ?k1 ?_); (case k1 => walk_at "kd")) | ((with_reducible refine' isi_bool ?k1 ?_); (case k1 => walk_at "kd")) | ((with_reducible refine' isi_str ?k1 ?_); (case k1 => walk_at "kd")) | ((with_reducible refine' isi_list ?k1 ?_); (case k1 => walk_at "kd")) | ((with_reducible refine' isi_tuple ?k1 ?_); (case k1 => walk_at "kd")) | ((with_reducible refine' isi_ls ?k1 ?_); (case k1 => assumption)) | ((with_reducible refine' isi_lsT ?k1 ?_); (case k1 => assumption))))
  | ((with_reducible show DL.dIsiT _ _ _); (first | ((with_reducible refine' isi_ltT ?k1 ?k2 ?_); (case k1 => rfl); (case k2 => rfl)) | ((with_reducible refine' isi_ltF ?k1 ?k2 ?_); (case k1 => rfl); (case k2 => rfl)) | ((with_reducible refine' isi_lt ?k1 ?_); (case k1 => walk_at "kd")) | ((with_reducible refine' isiT_ls ?k1 ?_); (case k1 => assumption))))
  | ((with_reducible show DL.dLen _ _ _); (first | ((with_reducible refine' len_ls ?k1 ?_); (case k1 => assumption)) | ((with_reducible refine' len_str ?k1 ?_); (case k1 => walk_at "ct")) | with_reducible refine len_tup ?_ | with_reducible refine len_fr ?_ | with_reducible refine len_sl ?_ | ((with_reducible refine' len_own ?k1 ?_); (case k1 => assumption)) | with_reducible refine len_put ?_))
  | ((with_reducible show DL.dEq _ _ _ _ _); (first | with_reducible refine eq_bb ?_ | with_reducible refine ne_bb ?_ | with_reducible refine eq_ii ?_ | with_reducible refine ne_ii ?_))
  | ((with_reducible show DL.dI2 _ _ _ _ _ _); (first | ((with_reducible refine' i2_ok ?k1 ?_); (case k1 => walk_at "ct"))))
  | ((with_reducible show DL.dB2 _ _ _ _ _); (first | with_reducible refine b2_ok ?_))
  | ((with_reducible show DL.dInt1 _ _ _ _); (first | with_reducible refine int1_ok ?_))
  | ((with_reducible show DL.dInt2 _ _ _ _); (first | with_reducible refine int2_ok ?_))
  | ((with_reducible show DL.dInt _ _ _); (first | with_reducible refine int_i ?_ | with_reducible refine int_b ?_))
  | ((with_reducible show DL.dIn _ _ _ _ _); (first | with_reducible refine ins_c ?_))
  | ((with_reducible show DL.dTuple _ _ _); (first | with_reducible refine tup_t ?_ | with_reducible refine tup_f ?_))
  | ((with_reducible show DL.dIx _ _ _ _); (first | ((with_reducible refine' ix_t ?k1 ?_); (case k1 => rfl)) | ((with_reducible refine' ix_f ?k1 ?_); (case k1 => rfl)) | ((with_reducible refine' ix_s ?k1 ?_); (case k1 => rfl)) | ((with_reducible refine' ix_p ?k1 ?_); (case k1 => rfl)) | ((with_reducible refine' ix_o ?k0 ?k1 ?_); (case k0 => assumption); (case k1 => rfl))))
  | ((with_reducible show DL.dIsN _ _ _ _ _); (first | ((with_reducible refine' isn_k ?k1 ?_); (case k1 => walk_at "kd")) | ((with_reducible refine' nisn_k ?k1 ?_); (case k1 => walk_at "kd"))))
  | with_reducible refine ex_bl ?_
  | with_reducible refine ex_int ?_
  | with_reducible refine ex_2 ?_
  | with_reducible refine ex_3 ?_
  | ((with_reducible refine' setL_p ?k1 ?_); (case k1 => rfl))
  | ((with_reducible refine' setL_o ?k0 ?k1 ?_); (case k0 => assumption); (case k1 => rfl))
  | with_reducible refine and_T ?_
  | with_reducible refine and_F ?_
  | ((with_reducible refine and_S ?_ ?_) <;> intro _)
  | with_reducible refine ty_str ?_
  | with_reducible refine ty_put ?_
  | ((with_reducible refine' ty_own ?k1 ?_); (case k1 => assumption))
  | ((with_reducible refine' sz_ok ?k1 ?_); (case k1 => rfl))
  | ((with_reducible refine' sz_as ?k1 ?_); (case k1 => assumption))))
local macro_rules | `(tactic| walk_at "pyKI") => `(tactic| repeat' (first
  | ((with_reducible show DL.WE _ _ _ _ _); (first
    | ((with_reducible show DL.WE _ (Expr.Subscript _ _ _) _ _ _); (first | ((with_reducible refine' x_ixD ?kx ?_ ?k1); (case kx => assumption); (case k1 => (intro _ _; rfl))) | with_reducible refine we_revT ?_ | ((with_reducible refine' x_ixL ?_ ?k1); (case k1 => (intro _ _; rfl))) | ((with_reducible refine' we_ix ?_ ?k1); (case k1 => (intro _ _; rfl))) | with_reducible refine we_slice ?_))
    | ((with_reducible show DL.WE _ (Expr.Compare _ _ _ _) _ _ _); (first | ((with_reducible refine' x_inX ?kx ?_ ?k1); (case kx => assumption); (case k1 => rfl)) | ((with_reducible refine' x_ninX ?kx ?_ ?k1); (case kx => assumption); (case k1 => rfl)) | ((with_reducible refine' we_lele ?_ ?k1); (case k1 => with_unfolding_all rfl)) | with_reducible refine we_lt ?_ | with_reducible refine we_le ?_ | with_reducible refine we_gt ?_ | with_reducible refine we_ge ?_ | with_reducible refine we_is ?_ | with_reducible refine we_isnot ?_ | ((with_reducible refine' x_in ?k1 ?_ ?k2); (case k1 => assumption); (case k2 => rfl)) | ((with_reducible refine' x_nin ?k1 ?_ ?k2); (case k1 => assumption); (case k2 => rfl))))
    | ((with_reducible show DL.WE _ (Expr.Call (Expr.Name _ _) _ _ _) _ _ _); (first | ((with_reducible refine' x_lenX ?kx ?kz ?kg ?_ ?k1 ?k2); (case kx => assumption); (case kz => assumption); (case kg => walk_at "gl"); (case k1 => rfl); (case k2 => rfl)) | ((with_reducible refine' x_dictP ?kx ?kz ?kg ?_ ?k1 ?k2); (case kx => assumption); (case kz => assumption); (case kg => walk_at "gl"); (case k1 => rfl); (case k2 => rfl)) | ((with_reducible refine' x_sortedK ?kx ?kz ?kg ?_ ?k1 ?k2); (case kx => assumption); (case kz => assumption); (case kg => walk_at "gl"); (case k1 => rfl); (case k2 => rfl)) | ((with_reducible refine' x_repr ?kx ?kz ?kg ?_ ?k1 ?k2); (case kx => assumption); (case kz => assumption); (case kg => walk_at "gl"); (case k1 => rfl); (case k2 => rfl)) | ((with_reducible refine' x_isC ?kx ?kz ?kg ?ki ?km ?kg2 ?_ ?k1 ?k2 ?k3 ?k4); (case kx => assumption); (case kz => assumption); (case km => assumption); (case ki => assumption); (case kg => walk_at "gl"); (case kg2 => walk_at "gl"); (case k1 => decide); (case k2 => rfl); (case k3 => rfl); (case k4 => rfl)) | ((with_reducible refine' x_isiT ?kx ?kz ?kg ?_ ?k1 ?k2); (case kx => assumption); (case kz => assumption); (case kg => walk_at "gl"); (case k1 => rfl); (case k2 => rfl)) | ((with_reducible refine' x_isi ?kx ?kz ?kg ?_ ?k1 ?k2); (case kx => assumption); (case kz => assumption); (case kg => walk_at "gl"); (case k1 => rfl); (case k2 => rfl)) | ((with_reducible refine' x_len ?kx ?kz ?kg ?_ ?k1 ?k2); (case kx => assumption); (case kz => assumption); (case kg => walk_at "gl"); (case k1 => rfl); (case k2 => rfl)) | ((with_reducible refine' x_abs ?kx ?kz ?kg ?_ ?k1 ?k2); (case kx => assumption); (case kz => assumption); (case kg => walk_at "gl"); (case k1 => rfl); (case k2 => rfl)) | ((with_reducible refine' x_max2 ?kx ?kz ?kg ?_ ?k1 ?k2); (case kx => assumption); (case kz => assumption); (case kg => walk_at "gl"); (case k1 => rfl); (case k2 => rfl)) | ((with_reducible refine' x_min2 ?kx ?kz ?kg ?_ ?k1 ?k2); (case kx => assumption); (case kz => assumption); (case kg => walk_at "gl"); (case k1 => rfl); (case k2 => rfl)) | ((with_reducible refine' x_minL ?kx ?kz ?kg ?_ ?k1 ?k2); (case kx => assumption); (case kz => assumption); (case kg => walk_at "gl"); (case k1 => rfl); (case k2 => rfl)) | ((with_reducible refine' x_any ?kx ?kz ?kg ?_ ?k1 ?k2); (case kx => assumption); (case kz => assumption); (case kg => walk_at "gl"); (case k1 => rfl); (case k2 => rfl)) | ((with_reducible refine' x_all ?kx ?kz ?kg ?_ ?k1 ?k2); (case kx => assumption); (case kz => assumption); (case kg => walk_at "gl"); (case k1 => rfl); (case k2 => rfl)) | ((with_reducible refine' x_sum ?kx ?kz ?kg ?_ ?k1 ?k2); (case kx => assumption); (case kz => assumption); (case kg => walk_at "gl"); (case k1 => rfl); (case k2 => rfl)) | ((with_reducible refine' x_intC ?kx ?kz ?kg ?_ ?k1 ?k2); (case kx => assumption); (case kz => assumption); (case kg => walk_at "gl"); (case k1 => rfl); (case k2 => rfl)) | ((with_reducible refine' x_strC ?kx ?kz ?kg ?_ ?k1 ?k2); (case kx => assumption); (case kz => assumption); (case kg => walk_at "gl"); (case k1 => rfl); (case k2 => rfl)) | ((with_reducible refine' x_tupleC ?kx ?kz ?kg ?_ ?k1 ?k2); (case kx => assumption); (case kz => assumption); (case kg => walk_at "gl"); (case k1 => rfl); (case k2 => rfl)) | ((with_reducible refine' x_listC ?kx ?kz ?kg ?_ ?k1 ?k2); (case kx => assumption); (case kz => assumption); (case kg => walk_at "gl"); (case k1 => rfl); (case k2 => rfl)) | ((with_reducible refine' x_call ?kx ?kh ?kg ?_ ?kl ?kd ?k1 ?k2); (case kh => assumption); (case kx => assumption); (case kg => walk_at "gl"); (case kl => first | decide | omega); (case kd => decide); (case k1 => rfl); (case k2 => rfl))))
    | ((with_reducible show DL.WE _ (Expr.Dict _ _ _) _ _ _); (first | with_reducible refine x_dnew ?_))
    | ((with_reducible show DL.WE _ (Expr.Call (Expr.Attribute _ _ _) _ _ _) _ _ _); (first | ((with_reducible refine' x_stripC ?_ ?k1 ?k2 ?k3 ?k4 ?k5); (case k1 => rfl); (case k2 => rfl); (case k3 => rfl); (case k4 => rfl); (case k5 => rfl)) | ((with_reducible refine' x_dget2 ?kx ?_ ?km); (case kx => assumption); (case km => exact ⟨rfl, rfl, rfl, rfl⟩)) | ((with_reducible refine' x_dpop1 ?_ ?km); (case km => exact ⟨rfl, rfl, rfl, rfl⟩)) | ((with_reducible refine' x_upper ?_ ?k1 ?k2); (case k1 => rfl); (case k2 => rfl)) | ((with_reducible refine' x_join ?_ ?k1 ?k2 ?k3 ?k4 ?k5); (case k1 => rfl); (case k2 => rfl); (case k3 => rfl); (case k4 => rfl); (case k5 => rfl)) | ((with_reducible refine' x_sindex ?_ ?k1 ?k2 ?k3 ?k4 ?k5); (case k1 => rfl); (case k2 => rfl); (case k3 => rfl); (case k4 => rfl); (case k5 => rfl)) | ((with_reducible refine' x_insert ?_ ?k1 ?k2 ?k3 ?k4 ?k5); (case k1 => rfl); (case k2 => rfl); (case k3 => rfl); (case k4 => rfl); (case k5 => rfl)) | ((with_reducible refine' x_popAt ?_ ?k1 ?k2 ?k3 ?k4 ?k5); (case k1 => rfl); (case k2 => rfl); (case k3 => rfl); (case k4 => rfl); (case k5 => rfl)) | ((with_reducible refine' x_append ?_ ?k1 ?k2 ?k3 ?k4 ?k5); (case k1 => rfl); (case k2 => rfl); (case k3 => rfl); (case k4 => rfl); (case k5 => rfl)) | ((with_reducible refine' x_extend ?_ ?k1 ?k2 ?k3 ?k4 ?k5); (case k1 => rfl); (case k2 => rfl); (case k3 => rfl); (case k4 => rfl); (case k5 => rfl))))
    | ((with_reducible show DL.WE _ (Expr.BoolOp _ _ _) _ _ _); (first | with_reducible refine we_and ?_ | with_reducible refine we_or ?_ | with_reducible refine we_one ?_))
    | ((with_reducible show DL.WE _ (Expr.UnaryOp _ _ _) _ _ _); (first | with_reducible refine we_not ?_ | with_reducible refine we_neg ?_))
    | ((with_reducible show DL.WE _ (Expr.IfExp _ _ _ _) _ _ _); (first | with_reducible refine we_if ?_))
    | ((with_reducible show DL.WE _ (Expr.Constant _ _ _) _ _ _); (first | with_reducible refine we_int ?_ | with_reducible refine we_bl ?_ | with_reducible refine we_non ?_ | with_reducible refine we_str ?_))
    | ((with_reducible show DL.WE _ (Expr.Tuple _ _ _) _ _ _); (first | with_reducible refine we_tup ?_))
    | ((with_reducible show DL.WE _ (Expr.Name _ _) _ _ _); (first | ((with_reducible refine' we_nm ?k1 ?k0 ?k2 ?_); (case k1 => assumption); (case k0 => walk_at "nm"); (case k2 => walk_at "nm")) | ((with_reducible refine' x_tyInt ?kx ?kz ?kg ?_); (case kx => assumption); (case kz => assumption); (case kg => walk_at "gl")) | ((with_reducible refine' x_tyBool ?kx ?kz ?kg ?_); (case kx => assumption); (case kz => assumption); (case kg => walk_at "gl")) | ((with_reducible refine' x_tyStr ?kx ?kz ?kg ?_); (case kx => assumption); (case kz => assumption); (case kg => walk_at "gl")) | ((with_reducible refine' x_tyList ?kx ?kz ?kg ?_); (case kx => assumption); (case kz => assumption); (case kg => walk_at "gl")) | ((with_reducible refine' x_tyTuple ?kx ?kz ?kg ?_); (case kx => assumption); (case kz => assumption); (case kg => walk_at "gl")) | ((with_reducible refine' x_glob ?kx ?kh ?kg ?_ ?kd); (case kh => assumption); (case kx => assumption); (case kg => walk_at "gl"); (case kd => decide))))
    | ((with_reducible show DL.WE _ (Expr.BinOp _ _ _ _) _ _ _); (first | with_reducible refine we_add ?_ | with_reducible refine we_sub' ?_ | with_reducible refine we_mul ?_ | with_reducible refine we_mod ?_ | with_reducible refine we_fdiv ?_ | with_reducible refine we_pow ?_))))
  | ((with_reducible show DL.WSs _ _ _ _ _); (first | with_reducible refine wss_cons ?_ | with_reducible refine wss_nil ?_))
  | ((with_reducible show DL.WS _ _ _ _ _); (first
    | ((with_reducible show DL.WS _ (Stmt.Assign _ _ _) _ _ _); (first | ((with_reducible refine' x_setFld ?kx ?_ ?k1); (case kx => assumption); (case k1 => rfl)) | ((with_reducible refine' ws_nm ?kb ?k0 ?kp ?_ ?k1); (case kb => assumption); (case k0 => walk_at "nm"); (case kp => walk_at "nm"); (case k1 => rfl)) | ((with_reducible refine' x_par2 ?kd ?k1 ?k2 ?k3 ?k4 ?k5 ?k6 ?_ ?k7); (case kd => assumption); (case k1 => walk_at "nm"); (case k2 => (intro _; walk_at "nm")); (case k3 => decide +kernel); (case k4 => decide +kernel); (case k5 => decide +kernel); (case k6 => rfl); (case k7 => rfl)) | ((with_reducible refine' x_par3 ?kd ?k1 ?k2 ?k3 ?k4 ?k5 ?k6 ?k7 ?_ ?k8); (case kd => assumption); (case k1 => walk_at "nm"); (case k2 => (intro _; walk_at "nm")); (case k3 => (intro _ _; walk_at "nm")); (case k4 => decide +kernel); (case k5 => decide +kernel); (case k6 => decide +kernel); (case k7 => rfl); (case k8 => rfl)) | ((with_reducible refine' ws_asg ?_ ?k1 ?k2 ?k3); (case k1 => rfl); (case k2 => rfl); (case k3 => rfl)) | ((with_reducible refine' ws_asgD ?kd ?_ ?k1 ?k2 ?k3); (case kd => assumption); (case k1 => rfl); (case k2 => rfl); (case k3 => rfl))))
    | ((with_reducible show DL.WS _ (Stmt.Delete _ _) _ _ _); (first | ((with_reducible refine' x_ddel ?_))))
    | ((with_reducible show DL.WS _ (Stmt.If _ _ _ _) _ _ _); (first | ((with_reducible refine' x_ifWge ?kb ?k0 ?kp ?_); (case kb => assumption); (case k0 => walk_at "nm"); (case kp => walk_at "nm")) | with_reducible refine ws_if ?_))
    | ((with_reducible show DL.WS _ (Stmt.Return _ _) _ _ _); (first | with_reducible refine ws_ret ?_ | with_reducible refine ws_retN ?_))
    | ((with_reducible show DL.WS _ (Stmt.Pass _) _ _ _); (first | with_reducible refine ws_pass ?_))
    | ((with_reducible show DL.WS _ (Stmt.Break _) _ _ _); (first | with_reducible refine ws_break ?_))
    | ((with_reducible show DL.WS _ (Stmt.Continue _) _ _ _); (first | with_reducible refine ws_continue ?_))
    | ((with_reducible show DL.WS _ (Stmt.AugAssign _ _ _ _) _ _ _); (first | ((with_reducible refine' ws_augAdd ?kb ?k0 ?kg ?kp ?_); (case kb => assumption); (case k0 => walk_at "nm"); (case kg => walk_at "nm"); (case kp => walk_at "nm"))))
    | ((with_reducible show DL.WS _ (Stmt.Expr _ _) _ _ _); (first | ((with_reducible refine' ws_expr ?_ ?k1); (case k1 => rfl))))))
  | ((with_reducible show DL.WT _ _ _ _ _); (first | ((with_reducible refine' xt_inX ?kx ?_ ?k1); (case kx => assumption); (case k1 => rfl)) | ((with_reducible refine' xt_ninX ?kx ?_ ?k1); (case kx => assumption); (case k1 => rfl)) | ((with_reducible refine' wt_lele ?_ ?k1); (case k1 => with_unfolding_all rfl)) | ((with_reducible refine' xt_in ?k1 ?_ ?k2); (case k1 => assumption); (case k2 => rfl)) | ((with_reducible refine' xt_nin ?k1 ?_ ?k2); (case k1 => assumption); (case k2 => rfl)) | with_reducible refine wt_lt ?_ | with_reducible refine wt_le ?_ | with_reducible refine wt_gt ?_ | with_reducible refine wt_ge ?_ | with_reducible refine wt_is ?_ | with_reducible refine wt_isnot ?_ | with_reducible refine wt_not ?_ | with_reducible refine wt_bo ?_ | ((with_reducible refine' wt_val ?_ ?k1); (case k1 => (intro _; rfl)))))
  | ((with_reducible show DL.WG _ _ _ _ _ _); (first | ((with_reducible refine' x_setX ?kx ?_ ?k1); (case kx => assumption); (case k1 => (intro _; rfl))) | ((with_reducible refine' wg_nm ?kb ?k0 ?kp ?_); (case kb => assumption); (case k0 => walk_at "nm"); (case kp => walk_at "nm")) | ((with_reducible refine' x_gtup ?kx ?kl ?_ ?k1); (case kx => assumption); (case kl => rfl); (case k1 => rfl)) | ((with_reducible refine' wg_setL ?_ ?k1); (case k1 => (intro _; rfl)))))
  | ((with_reducible show DL.WA _ _ _ _ _); (first | with_reducible refine wa_nil ?_ | ((with_reducible refine' wa_cons ?_ ?k1); (case k1 => rfl))))
  | ((with_reducible show DL.WW _ _ _ _ _); (first | with_reducible refine ww_and ?_ | with_reducible refine ww_or ?_ | with_reducible refine ww_and1 ?_ | with_reducible refine ww_or1 ?_))
  | ((with_reducible show DL.WGs _ _ _ _ _ _); (first | ((with_reducible refine' wgs_cons ?_ ?k1); (case k1 => rfl)) | with_reducible refine wgs_nil ?_))
  | ((with_reducible show DL.WO _ _ _ _ _); (first | with_reducible refine wo_n ?_ | with_reducible refine wo_s ?_))
  | ((with_reducible show DL.dIxD _ _ _ _); (first | ((with_reducible refine' ixD_ok ?h1 ?h2 ?_); (case h1 => assumption); (case h2 => assumption)) | ((with_reducible show dIxD (D.lst _) _ _ _); refine Or.inl ?_) | ((with_reducible show dIxD (D.tup _) _ _ _); refine Or.inl ?_) | ((with_reducible show dIxD (D.str _) _ _ _); refine Or.inl ?_)))
  | ((with_reducible show DL.dInX _ _ _ _ _); (first | ((with_reducible refine' inX_ok ?h1 ?_); (case h1 => assumption)) | ((with_reducible refine' ninX_ok ?h1 ?_); (case h1 => assumption))))
  | ((with_reducible show DL.dLenX _ _ _); (first | ((with_reducible refine' lenX_ok ?h1 ?_); (case h1 => assumption)) | ((with_reducible show dLenX [D.lst _] _ _); refine Or.inl ?_) | ((with_reducible show dLenX [D.tup _] _ _); refine Or.inl ?_) | ((with_reducible show dLenX [D.str _] _ _); refine Or.inl ?_)))
  | ((with_reducible show DL.tb _ _ _); (first | with_reducible refine tb_ok ?_))
  | ((with_reducible show DL.dIsi _ _ _); (first | ((with_reducible refine' isi_int ?k1 ?_); (case k1 => walk_at "kd")) | ((with_reducible refine' isi_bool ?k1 ?_); (case k1 => walk_at "kd")) | ((with_reducible refine' isi_str ?k1 ?_); (case k1 => walk_at "kd")) | ((with_reducible refine' isi_list ?k1 ?_); (case k1 => walk_at "kd")) | ((with_reducible refine' isi_tuple ?k1 ?_); (case k1 => walk_at "kd")) | ((with_reducible refine' isi_ls ?k1 ?_); (case k1 => assumption)) | ((with_reducible refine' isi_lsT ?k1 ?_); (case k1 => assumption))))
  | ((with_reducible show DL.dIsiT _ _ _); (first | ((with_reducible refine' isi_ltT ?k1 ?k2 ?_); (case k1 => rfl); (case k2 => rfl)) | ((with_reducible refine' isi_ltF ?k1 ?k2 ?_); (case k1 => rfl); (case k2 => rfl)) | ((with_reducible refine' isi_lt ?k1 ?_); (case k1 => walk_at "kd")) | ((with_reducible refine' isiT_ls ?k1 ?_); (case k1 => assumption))))
  | ((with_reducible show DL.dLen _ _ _); (first | ((with_reducible refine' len_ls ?k1 ?_); (case k1 => assumption)) | ((with_reducible refine' len_str ?k1 ?_); (case k1 => walk_at "ct")) | with_reducible refine len_tup ?_ | with_reducible refine len_fr ?_ | with_reducible refine len_sl ?_ | ((with_reducible refine' len_own ?k1 ?_); (case k1 => assumption)) | with_reducible refine len_put ?_))
  | ((with_reducible show DL.dEq _ _ _ _ _); (first | with_reducible refine eq_bb ?_ | with_reducible refine ne_bb ?_ | with_reducible refine eq_ii ?_ | with_reducible refine ne_ii ?_))
  | ((with_reducible show DL.dI2 _ _ _ _ _ _); (first | ((with_reducible refine' i2_ok ?k1 ?_); (case k1 => walk_at "ct"))))
  | ((with_reducible show DL.dB2 _ _ _ _ _); (first | with_reducible refine b2_ok ?_))
  | ((with_reducible show DL.dAdd _ _ _ _); (first | with_reducible refine add_ii ?_ | ((with_reducible refine' add_ss ?k1 ?_); (case k1 => walk_at "ct")) | ((with_reducible refine' add_tt ?k1 ?_); (case k1 => walk_at "ct"))))
  | ((with_reducible show DL.dMul _ _ _ _); (first | ((with_reducible refine' mul_ii ?k1 ?_); (case k1 => walk_at "ct"))))
  | ((with_reducible show DL.dSl _ _ _ _ _); (first | with_reducible refine sl_t ?_ | with_reducible refine sl_f ?_))
  | ((with_reducible show DL.dInt1 _ _ _ _); (first | with_reducible refine int1_ok ?_))
  | ((with_reducible show DL.dInt2 _ _ _ _); (first | with_reducible refine int2_ok ?_))
  | ((with_reducible show DL.dInt _ _ _); (first | with_reducible refine int_i ?_ | with_reducible refine int_b ?_))
  | ((with_reducible show DL.dIn _ _ _ _ _); (first | with_reducible refine ins_c ?_))
  | ((with_reducible show DL.dTuple _ _ _); (first | with_reducible refine tup_t ?_ | with_reducible refine tup_f ?_))
  | ((with_reducible show DL.dIx _ _ _ _); (first | ((with_reducible refine' ix_t ?k1 ?_); (case k1 => rfl)) | ((with_reducible refine' ix_f ?k1 ?_); (case k1 => rfl)) | ((with_reducible refine' ix_s ?k1 ?_); (case k1 => rfl)) | ((with_reducible refine' ix_p ?k1 ?_); (case k1 => rfl)) | ((with_reducible refine' ix_o ?k0 ?k1 ?_); (case k0 => assumption); (case k1 => rfl))))
  | ((with_reducible show DL.dIsN _ _ _ _ _); (first | ((with_reducible refine' isn_k ?k1 ?_); (case k1 => walk_at "kd")) | ((with_reducible refine' nisn_k ?k1 ?_); (case k1 => walk_at "kd"))))
  | ((refine' fld_ok ?h1 ?h2 ?h3 ?_); (case h1 => assumption); (case h2 => assumption); (case h3 => walk_at "fg"))
  | with_reducible refine ex_bl ?_
  | with_reducible refine ex_int ?_
  | with_reducible refine ex_2 ?_
  | with_reducible refine ex_3 ?_
  | ((with_reducible refine' setL_p ?k1 ?_); (case k1 => rfl))
  | ((with_reducible refine' setL_o ?k0 ?k1 ?_); (case k0 => assumption); (case k1 => rfl))
  | with_reducible refine and_T ?_
  | with_reducible refine and_F ?_
  | ((with_reducible refine and_S ?_ ?_) <;> intro _)
  | with_reducible refine ty_str ?_
  | with_reducible refine ty_put ?_
  | ((with_reducible refine' ty_own ?k1 ?_); (case k1 => assumption))
  | ((with_reducible refine' sz_ok ?k1 ?_); (case k1 => rfl))
  | ((with_reducible refine' sz_as ?k1 ?_); (case k1 => assumption))))
namespace K31
section
variable {P : Program} {w : World} {K : PySem.W.Frag} {mg : Str → Option Value} {base : Heap}
/-- data fit for == and for repr -/
structure Ob (d : D) : Prop where
  ex : ∃ n, n ≤ 60 ∧ d.fit n = true
  sh : d.shI = true
  wt : d.wt ≤ 200000
theorem fit_kind {x : D} {n : Nat} (h : x.fit n = true) : x.kind = true := kind_of_py (fit_py x h)
theorem Ob.kind {d : D} (h : Ob d) : d.kind = true := by obtain ⟨n, _, hf⟩ := h.ex; exact fit_kind hf
theorem wt_mem : ∀ {xs : List D} {d : D}, d ∈ xs → d.wt ≤ wtL xs
  | x :: xs, d, h => by
    rcases List.mem_cons.mp h with rfl | h
    · simp only [wtL]; omega
    · have := wt_mem h; simp only [wtL]; omega
theorem Ob.part {xs : List D} (h : Ob (.tup xs)) : ∀ d ∈ xs, Ob d := fun d hd => by
  obtain ⟨n, hn, hf⟩ := h.ex
  obtain ⟨m, rfl, hm⟩ := fit_tup hf
  exact ⟨⟨m, by omega, hm d hd⟩, shL_all.mp (by have := h.sh; simpa [D.shI] using this) d hd, Nat.le_trans (wt_mem hd) (by have := h.wt; simpa [D.wt] using this)⟩
theorem Ob.str {z : Str} (h : Ob (.str z)) : z.length ≤ sizeLine := Nat.le_trans h.wt (by decide)
theorem Ob.eq {C : CS} {k : KD} {x : D} {z : Str} (h : Ob x) (hz : PyData.strOk z = true) (q : k (.bl (PyData.eqv x.py (.str z))) C) : dEq false x (.str z) C k := by
  obtain ⟨n, hn, hf⟩ := h.ex
  exact eq_fit (n := n) (m := 0) hf hz q (by omega)
def isI : D → Bool
  | .int _ => true
  | _ => false
theorem isI_eq {x : D} (h : isI x = true) : ∃ i, x = .int i := by cases x <;> first | exact ⟨_, rfl⟩ | (simp [isI] at h; done)
theorem isI_of {x : D} : isI x = (x.isIntB && !x.isBl) := by cases x <;> rfl
def spIsInt : DSp := fun ds C k => ∃ x, ds = [x] ∧ x.kind = true ∧ k (.bl (isI x)) C
theorem ok_isInt {f : Addr} {fd : FuncData} (F : Fun K "is_integer" "is_integer" s_is_integer f fd) (Z : Zs mg) : FnG P w K mg base CX0 1 f fd P_is_integer (toSp K spIsInt) := by
  refine fnX F sc_is_integer v_is_integer l_is_integer g_is_integer (fun ds C k h => by obtain ⟨x, rfl, _⟩ := h; rfl) fun X hB ds C k h => ?_
  obtain ⟨x, rfl, hk, h⟩ := h
  obtain ⟨hx, hn, hs, hg, hd, hnox⟩ := hB
  change WSs X _ [some x] C _
  refine wss_cons ?_
  walk_at "py"
  · rename_i h1
    show k (.bl (!x.isBl)) C
    rw [isI_of, h1] at h; exact h
  · rename_i h1
    rw [isI_of, h1] at h; exact h
def geB : D → Int → Bool
  | .int i, l => decide (l ≤ i)
  | _, _ => false
def spIsFrom : DSp := fun ds C k => ∃ x l, ds = [x, .int l] ∧ x.kind = true ∧ k (.bl (geB x l)) C
theorem geB_no {x : D} {l : Int} (h : isI x = false) : geB x l = false := by cases x <;> first | rfl | (simp [isI] at h; done)
theorem ok_isFrom {f : Addr} {fd : FuncData} (F : Fun K "is_from" "is_from" s_is_from f fd) (h1 : FnC P w K mg base "is_integer" 1 spIsInt) : FnG P w K mg base CX0 2 f fd P_is_from (toSp K spIsFrom) := by
  refine fnX F sc_is_from v_is_from l_is_from g_is_from (fun ds C k h => by obtain ⟨x, l, rfl, _⟩ := h; rfl) fun X hB ds C k h => ?_
  obtain ⟨x, l, rfl, hk, h⟩ := h
  obtain ⟨hx, hn, hs, hg, hd, hnox⟩ := hB
  change WSs X _ [some x, some (.int l)] C _
  refine wss_cons ?_
  walk_at "py"
  refine ⟨x, rfl, hk, ?_⟩
  walk_at "py"
  · rename_i h1
    obtain ⟨i, rfl⟩ := isI_eq h1
    walk_at "py"
    exact h
  · rename_i h1
    rw [geB_no h1] at h
    exact h
abbrev abc : Str := "abcdefghijklmnopqrstuvwxyz"
def abcB (z : Str) : Bool := z.cps.toList.all fun c => decide (c ∈ abc.cps.toList)
def isNm : D → Bool
  | .str z => (decide (1 ≤ z.length) && decide (z.length ≤ 8)) && abcB z
  | _ => false
theorem isNm_no {x : D} (h : x.isStr = false) : isNm x = false := by cases x <;> first | rfl | (simp [D.isStr] at h; done)
def spIsNm : DSp := fun ds C k => ∃ x, ds = [x] ∧ Ob x ∧ k (.bl (isNm x)) C
def sgB (d : D) : Bool := match d with | .str s => s.cps.toList.all fun c => decide (c ∈ abc.cps.toList) | _ => false
theorem signs_all (z : Str) : (signsOf z).all sgB = abcB z := by
  unfold signsOf abcB
  rw [List.all_map]
  congr 1
  funext c
  simp [sgB]
theorem mem_signs {z : Str} {d : D} (h : d ∈ signsOf z) : ∃ c, d = .str ⟨#[c]⟩ := by
  obtain ⟨c, _, rfl⟩ := List.mem_map.mp h
  exact ⟨c, rfl⟩
theorem signs_len (z : Str) : (signsOf z).length = z.length := by
  unfold signsOf
  rw [List.length_map, Array.length_toList]; rfl
theorem ok_isName {f : Addr} {fd : FuncData} (F : Fun K "is_name" "is_name" s_is_name f fd) (Z : Zs mg) (g1 : MgK K mg "LETTERS" (.str abc)) (g2 : MgK K mg "MOST_LETTERS" (.int 8)) : FnG P w K mg base CX0 1 f fd P_is_name (toSp K spIsNm) := by
  refine fnX F sc_is_name v_is_name l_is_name g_is_name (fun ds C k h => by obtain ⟨x, rfl, _⟩ := h; rfl) fun X hB ds C k h => ?_
  obtain ⟨x, rfl, hO, h⟩ := h
  obtain ⟨hx, hn, hs, hg, hd, hnox⟩ := hB
  have hk := hO.kind
  change WSs X _ [some x, none] C _
  refine wss_cons ?_
  walk_at "pyR"
  · rename_i h2
    rw [isNm_no (by simpa using h2)] at h; exact h
  · rename_i h2
    obtain ⟨z, rfl⟩ := isStr_eq (by simpa using h2)
    have hz := hO.str
    walk_at "pyR"
    · rename_i h3 h4
      have e : isNm (.str z) = false := by
        have : ¬ z.length ≤ 8 := by have h4 := dec_f (by simpa using h4 : decide (((z.length : Nat) : Int) ≤ 8) = false); omega
        simp [isNm, this]
      rw [e] at h; exact h
    · rename_i h3 h4
      have e : isNm (.str z) = abcB z := by
        have h3 := dec_t h3
        have h4 := dec_t (by simpa using h4 : decide (((z.length : Nat) : Int) ≤ 8) = true)
        show ((decide (1 ≤ z.length) && decide (z.length ≤ 8)) && abcB z) = abcB z
        rw [decide_eq_true (by omega), decide_eq_true (by omega)]; rfl
      rw [e] at h
      refine we_fa (lc1 ["sign"] ["LETTERS"] hd (by walk_at "nm") (by decide +kernel) (by decide +kernel) (by decide +kernel) (by decide +kernel) (wi_str ?_))
      walk_at "pyR"
      refine ⟨z, rfl, LcB.map (fun d => .bl (sgB d)) trivial (by rw [signs_len]; exact hz) ?_ fun p hp => fa_put hp ?_⟩
      · intro d hdm X' hX hn' hg'
        have hx' := hx.blk hX
        obtain ⟨c, rfl⟩ := mem_signs hdm
        walk_at "pyR"
        exact ⟨by simp [sgB], rfl⟩
      · walk_at "pyR"
        refine all_map (f := sgB) ?_
        rw [signs_all]; exact h
    · rename_i h3 h4
      have e : isNm (.str z) = false := by
        have : ¬ 1 ≤ z.length := by have h3 := dec_f h3; omega
        simp [isNm, this]
      rw [e] at h; exact h
    · rename_i h3 h4; exact absurd h4 (by decide)
def isLn : D → Bool
  | .str z => !decide (10 ∈ z.cps.toList)
  | _ => false
theorem isLn_no {x : D} (h : x.isStr = false) : isLn x = false := by cases x <;> first | rfl | (simp [D.isStr] at h; done)
def spIsLn : DSp := fun ds C k => ∃ x, ds = [x] ∧ x.kind = true ∧ k (.bl (isLn x)) C
theorem nin_feed {C : CS} {k : KD} {z : Str} (q : k (.bl (!decide (10 ∈ z.cps.toList))) C) : dIn true (.str "\n") (.str z) C k := ⟨10, z, congrArg D.str (show (("\n" : Str)) = ⟨#[10]⟩ by decide +kernel), rfl, q⟩
theorem ok_isLine {f : Addr} {fd : FuncData} (F : Fun K "is_line" "is_line" s_is_line f fd) (Z : Zs mg) (g1 : MgK K mg "FEED" (.str "\n")) : FnG P w K mg base CX0 1 f fd P_is_line (toSp K spIsLn) := by
  refine fnX F sc_is_line v_is_line l_is_line g_is_line (fun ds C k h => by obtain ⟨x, rfl, _⟩ := h; rfl) fun X hB ds C k h => ?_
  obtain ⟨x, rfl, hk, h⟩ := h
  obtain ⟨hx, hn, hs, hg, hd, hnox⟩ := hB
  change WSs X _ [some x] C _
  refine wss_cons ?_
  walk_at "pyR"
  · rename_i h1
    obtain ⟨z, rfl⟩ := isStr_eq h1
    refine nin_feed ?_
    exact h
  · rename_i h1
    rw [isLn_no h1] at h; exact h
abbrev lacks : List Str := ["changed", "gone", "short"]
def isLk : D → Bool
  | .str z => decide (z ∈ lacks)
  | _ => false
theorem isLk_no {x : D} (h : x.isStr = false) : isLk x = false := by cases x <;> first | rfl | (simp [D.isStr] at h; done)
def shB (a b : D) : Bool := if PyData.eqv a.py (.str "text") = true then isLn b else PyData.eqv a.py (.str "lack") && isLk b
def isSh : D → Bool
  | .non => true
  | .tup [a, b] => shB a b
  | _ => false
theorem eqv_str {a : D} {z : Str} (h : a.isStr = false) (hk : a.kind = true) : PyData.eqv a.py (.str z) = false := by
  cases a <;> first | (simp [D.isStr] at h; done) | (simp [D.kind] at hk; done) | (simp [D.py, PyData.eqv])
theorem isSh_no {x : D} (h : x.isTup = false) (hn : x.isNon = false) : isSh x = false := by cases x <;> first | rfl | (simp [D.isTup] at h; done) | (simp [D.isNon] at hn; done)
theorem isSh_len {xs : List D} (h : xs.length ≠ 2) : isSh (.tup xs) = false := by
  unfold isSh
  split
  · rename_i e; cases e
  · rename_i e; injection e with e; subst e; exact absurd rfl h
  · rfl
theorem non_eq {x : D} (h : x.isNon = true) : x = .non := by cases x <;> first | rfl | (simp [D.isNon] at h; done)
theorem strOk_text : PyData.strOk ("text" : Str) = true := by decide +kernel
theorem strOk_lack : PyData.strOk ("lack" : Str) = true := by decide +kernel
theorem strOk_gap : PyData.strOk ("gap" : Str) = true := by decide +kernel
def spIsSh : DSp := fun ds C k => ∃ x, ds = [x] ∧ Ob x ∧ k (.bl (isSh x)) C
theorem len_of {n m : Nat} (h : (!((n : Int) == (m : Nat))) = false) : n = m := by
  have : ((n : Int) == (m : Nat)) = true := by simpa using h
  have := beq_iff_eq.mp this
  omega
theorem len_nof {n m : Nat} (h : (!((n : Int) == (m : Nat))) = true) : n ≠ m := by
  have : ((n : Int) == (m : Nat)) = false := by simpa using h
  have := beq_eq_false_iff_ne.mp this
  omega
theorem ok_isShown {f : Addr} {fd : FuncData} (F : Fun K "is_shown" "is_shown" s_is_shown f fd) (Z : Zs mg) (h1 : FnC P w K mg base "is_line" 1 spIsLn) (g1 : MgK K mg "TEXT" (.str "text")) (g2 : MgK K mg "LACK" (.str "lack")) (g3 : MgK K mg "LACKS" (.tup (lacks.map D.str))) : FnG P w K mg base CX0 2 f fd P_is_shown (toSp K spIsSh) := by
  refine fnX F sc_is_shown v_is_shown l_is_shown g_is_shown (fun ds C k h => by obtain ⟨x, rfl, _⟩ := h; rfl) fun X hB ds C k h => ?_
  obtain ⟨x, rfl, hO, h⟩ := h
  obtain ⟨hx, hn, hs, hg, hd, hnox⟩ := hB
  have hk := hO.kind
  change WSs X _ [some x] C _
  refine wss_cons ?_
  walk_at "pyR"
  · rename_i h2
    rw [non_eq h2] at h; exact h
  · rename_i h2 h3
    rw [isSh_no (by simpa using h3) h2] at h; exact h
  · rename_i h2 h3
    obtain ⟨xs, rfl⟩ := isTup_eq (by simpa using h3)
    walk_at "pyR"
    · rename_i h4
      rw [isSh_len (len_nof (m := 2) h4)] at h; exact h
    · rename_i h4
      obtain ⟨a, b, rfl⟩ := two_of (len_of (m := 2) h4)
      have oa := hO.part a (by simp)
      have ob := hO.part b (by simp)
      have ka := oa.kind
      have kb := ob.kind
      walk_at "pyR"
      · rename_i h5
        have e : isSh (.tup [a, b]) = false := by
          show shB a b = false
          unfold shB
          rw [eqv_str (by simpa using h5) ka, if_neg (by simp), eqv_str (by simpa using h5) ka]; rfl
        rw [e] at h; exact h
      · rename_i h5
        refine oa.eq strOk_text ?_
        walk_at "pyR"
        · rename_i h6
          refine ⟨b, rfl, kb, ?_⟩
          rw [show isSh (.tup [a, b]) = isLn b from if_pos h6] at h; exact h
        · rename_i h6
          rw [show isSh (.tup [a, b]) = (PyData.eqv a.py (.str "lack") && isLk b) from if_neg (by rw [h6]; simp)] at h
          refine oa.eq strOk_lack ?_
          walk_at "pyR"
          · rename_i h7 h8
            obtain ⟨z, rfl⟩ := isStr_eq h8
            refine in_tup rfl ?_
            rw [h7, Bool.true_and] at h; exact h
          · rename_i h7 h8
            rw [h7, isLk_no h8] at h; exact h
          · rename_i h7
            rw [h7, Bool.false_and] at h; exact h
def isRow : D → Bool
  | .tup [f, e, l, g, s] => isNm f && isNm g && isSh s && (geB e 0 && geB l 1)
  | _ => false
theorem isRow_no {x : D} (h : x.isTup = false) : isRow x = false := by cases x <;> first | rfl | (simp [D.isTup] at h; done)
theorem isRow_len {xs : List D} (h : xs.length ≠ 5) : isRow (.tup xs) = false := by
  unfold isRow
  split
  · rename_i e; injection e with e; subst e; exact absurd rfl h
  · rfl
theorem five_of {α : Type} {xs : List α} (h : xs.length = 5) : ∃ a b c d e, xs = [a, b, c, d, e] := by
  match xs, h with
  | [a, b, c, d, e], _ => exact ⟨a, b, c, d, e, rfl⟩
def spIsRow : DSp := fun ds C k => ∃ x, ds = [x] ∧ Ob x ∧ k (.bl (isRow x)) C
theorem ok_isRow {f : Addr} {fd : FuncData} (F : Fun K "is_row" "is_row" s_is_row f fd) (Z : Zs mg) (h1 : FnC P w K mg base "is_name" 1 spIsNm) (h2 : FnC P w K mg base "is_shown" 2 spIsSh) (h3 : FnC P w K mg base "is_from" 2 spIsFrom) : FnG P w K mg base CX0 3 f fd P_is_row (toSp K spIsRow) := by
  refine fnX F sc_is_row v_is_row l_is_row g_is_row (fun ds C k h => by obtain ⟨x, rfl, _⟩ := h; rfl) fun X hB ds C k h => ?_
  obtain ⟨x, rfl, hO, h⟩ := h
  obtain ⟨hx, hn, hs, hg, hd, hnox⟩ := hB
  have hk := hO.kind
  change WSs X _ [some x, none, none, none, none, none] C _
  refine wss_cons ?_
  walk_at "pyR"
  · rename_i h4
    rw [isRow_no (by simpa using h4)] at h; exact h
  · rename_i h4
    obtain ⟨xs, rfl⟩ := isTup_eq (by simpa using h4)
    walk_at "pyR"
    · rename_i h5
      rw [isRow_len (len_nof (m := 5) h5)] at h; exact h
    · rename_i h5
      obtain ⟨a, b, c, d, e, rfl⟩ := five_of (len_of (m := 5) h5)
      have oa := hO.part a (by simp)
      have ob := hO.part b (by simp)
      have oc := hO.part c (by simp)
      have od := hO.part d (by simp)
      have oe := hO.part e (by simp)
      change k (.bl (isNm a && isNm d && isSh e && (geB b 0 && geB c 1))) C at h
      walk_at "pyR"
      refine ⟨_, rfl, oa, ?_⟩
      walk_at "pyR"
      · rename_i h6
        show k (.bl false) C
        simp_all
      · rename_i h6
        refine ⟨_, rfl, od, ?_⟩
        walk_at "pyR"
        · rename_i h7
          show k (.bl false) C
          simp_all
        · rename_i h7
          refine ⟨_, rfl, oe, ?_⟩
          walk_at "pyR"
          · rename_i h8
            show k (.bl false) C
            simp_all
          · rename_i h8
            refine ⟨b, 0, rfl, ob.kind, ?_⟩
            walk_at "pyR"
            · rename_i h9
              refine ⟨c, 1, rfl, oc.kind, ?_⟩
              show k (.bl _) C
              simp_all
            · rename_i h9
              show k (.bl false) C
              simp_all
def isGap : D → Bool
  | .tup [.str z, .int i] => z == ("gap" : Str) && decide (1 ≤ i)
  | _ => false
theorem isGap_two (a b : D) : isGap (.tup [a, b]) = (PyData.eqv a.py (.str "gap") && geB b 1 && a.isStr) := by
  cases a <;> cases b <;> simp [isGap, D.py, PyData.eqv, geB, D.isStr]
theorem isGap_no {x : D} (h : x.isTup = false) : isGap x = false := by cases x <;> first | rfl | (simp [D.isTup] at h; done)
theorem isGap_len {xs : List D} (h : xs.length ≠ 2) : isGap (.tup xs) = false := by
  unfold isGap
  split
  · rename_i e; injection e with e; subst e; exact absurd rfl h
  · rfl
def spIsGap : DSp := fun ds C k => ∃ x, ds = [x] ∧ Ob x ∧ k (.bl (isGap x)) C
theorem ok_isGap {f : Addr} {fd : FuncData} (F : Fun K "is_gap" "is_gap" s_is_gap f fd) (Z : Zs mg) (h1 : FnC P w K mg base "is_from" 2 spIsFrom) (g1 : MgK K mg "GAP" (.str "gap")) : FnG P w K mg base CX0 3 f fd P_is_gap (toSp K spIsGap) := by
  refine fnX F sc_is_gap v_is_gap l_is_gap g_is_gap (fun ds C k h => by obtain ⟨x, rfl, _⟩ := h; rfl) fun X hB ds C k h => ?_
  obtain ⟨x, rfl, hO, h⟩ := h
  obtain ⟨hx, hn, hs, hg, hd, hnox⟩ := hB
  have hk := hO.kind
  change WSs X _ [some x] C _
  refine wss_cons ?_
  walk_at "pyR"
  · rename_i h2
    rw [isGap_no (by simpa using h2)] at h; exact h
  · rename_i h2
    obtain ⟨xs, rfl⟩ := isTup_eq (by simpa using h2)
    walk_at "pyR"
    · rename_i h3
      rw [isGap_len (len_nof (m := 2) h3)] at h; exact h
    · rename_i h3
      obtain ⟨a, b, rfl⟩ := two_of (len_of (m := 2) h3)
      have oa := hO.part a (by simp)
      have ob := hO.part b (by simp)
      have ka := oa.kind
      have kb := ob.kind
      rw [isGap_two] at h
      walk_at "pyR"
      · rename_i h4
        refine oa.eq strOk_gap ?_
        walk_at "pyR"
        · rename_i h5
          refine ⟨b, 1, rfl, kb, ?_⟩
          show k (.bl _) C
          rw [h5, h4, Bool.true_and, Bool.and_true] at h; exact h
        · rename_i h5
          rw [h5, Bool.false_and, Bool.false_and] at h; exact h
      · rename_i h4
        rw [h4, Bool.and_false] at h; exact h
end
end K31
namespace K31
section
variable {P : Program} {w : World} {K : PySem.W.Frag} {mg : Str → Option Value} {base : Heap}
/-- the bag of draws at b: at most n were mixed -/
def Bag (C : CS) (b : Addr) (n : Nat) : Prop := ∃ x y c : Int, C b = some (.lst [.int x, .int y, .int c]) ∧ 0 ≤ x ∧ 0 ≤ y ∧ y < 2305843009213693952 ∧ 0 ≤ c ∧ c ≤ n
theorem Bag.mono {C : CS} {b : Addr} {n m : Nat} (h : Bag C b n) (hm : n ≤ m) : Bag C b m := by
  obtain ⟨x, y, c, h1, h2, h3, h4, h5, h6⟩ := h
  exact ⟨x, y, c, h1, h2, h3, h4, h5, by omega⟩
theorem Bag.some {C : CS} {b : Addr} {n : Nat} (h : Bag C b n) : ∃ l, C b = some (.lst l) := by
  obtain ⟨x, y, c, h1, _⟩ := h
  exact ⟨_, h1⟩
theorem Bag.put {C : CS} {b p : Addr} {n : Nat} {c : Cell} (h : Bag C b n) (hp : b ≠ p) : Bag (put C p c) b n := by
  obtain ⟨x, y, c, h1, h2⟩ := h
  exact ⟨x, y, c, by rw [put_ne hp]; exact h1, h2⟩
theorem Bag.ne {C : CS} {b p : Addr} {n : Nat} (h : Bag C b n) (hp : C p = none) : b ≠ p := by
  obtain ⟨l, h⟩ := h.some
  exact cell_ne h hp
theorem Bag.of {C C1 : CS} {b : Addr} {n m : Nat} (h : Bag C b n) (e : C1 b = C b) (hm : n ≤ m) : Bag C1 b m := by
  obtain ⟨x, y, c, q1, q2⟩ := Bag.mono h hm
  exact ⟨x, y, c, e.trans q1, q2⟩
/-- any item -/
theorem at_any {xs : List D} {r : Int} (h0 : 0 ≤ r) (h1 : r < (xs.length : Nat)) : ∃ d ∈ xs, atI xs r = some d := by
  have hl : r.toNat < xs.length := by omega
  refine ⟨xs[r.toNat], List.getElem_mem hl, ?_⟩
  unfold atI ixN
  rw [if_pos h0, if_pos h1]
  exact List.getElem?_eq_getElem hl
theorem ix_any {C : CS} {k : KD} {xs : List D} {r : Int} (h0 : 0 ≤ r) (h1 : r < (xs.length : Nat)) (q : ∀ d ∈ xs, k d C) : dIx (.lst xs) (.int r) C k := by
  obtain ⟨d, hm, he⟩ := at_any h0 h1
  exact ix_f he (q d hm)
def spTake : DSp := fun ds C k => ∃ (b : Addr) (n : Nat) (m : Int), ds = [.own b, .int m] ∧ Bag C b n ∧ n ≤ 1000000 ∧ 1 ≤ m ∧ m < 1000000 ∧ ∀ r l, 0 ≤ r → r < m → Bag (put C b (.lst l)) b (n + 1) → k (.int r) (put C b (.lst l))
theorem ok_take {f : Addr} {fd : FuncData} (F : Fun K "_law_take" "_law_take" s_take f fd) (Z : Zs mg) : FnG P w K mg base CX0 1 f fd P_take (toSp K spTake) := by
  refine fnX F sc_take v_take l_take g_take (fun ds C k h => by obtain ⟨_, _, _, rfl, _⟩ := h; rfl) fun X hB ds C k h => ?_
  obtain ⟨b, n, m, rfl, ⟨x, y, c, hC, x0, y0, y1, c0, c1⟩, hn30, m1, m2, h⟩ := h
  obtain ⟨hx, hn, hs, hg, hd, hnox⟩ := hB
  change WSs X _ [some (.own b), some (.int m), none, none, none] C _
  refine wss_cons ?_
  have mz : 0 < m := by omega
  have cd : CDiv x m := ⟨by omega, by omega⟩
  have pw : CPowW (y * (2 * (c + 1) + 1) + 7919 * (c + 1) * (c + 1) + 29) 3 := by
    have h1 : y * (2 * (c + 1) + 1) ≤ 2305843009213693952 * 2000003 := Int.mul_le_mul (by omega) (by omega) (by omega) (by omega)
    have h2 : 0 ≤ y * (2 * (c + 1) + 1) := Int.mul_nonneg y0 (by omega)
    have h3 : 7919 * (c + 1) * (c + 1) ≤ 7919 * 1000001 * 1000001 := Int.mul_le_mul (by omega) (by omega) (by omega) (by omega)
    have h4 : 0 ≤ 7919 * (c + 1) * (c + 1) := Int.mul_nonneg (by omega) (by omega)
    refine ⟨by omega, by omega, ?_⟩
    have : (y * (2 * (c + 1) + 1) + 7919 * (c + 1) * (c + 1) + 29).natAbs < 2 ^ 100 := by omega
    exact Nat.lt_trans this (Nat.pow_lt_pow_right (by decide) (by decide))
  walk_at "py"
  · rename_i hx0
    have hx0 := dec_t hx0
    have := h (x % m) [.int (x / m), .int y, .int c] (Int.emod_nonneg _ (by omega)) (Int.emod_lt_of_pos _ mz) ⟨x / m, y, c, put_same, Int.ediv_nonneg x0 (by omega), y0, y1, c0, by omega⟩
    exact this
  · rename_i hx0
    exact h _ [.int x, .int y, .int (c + 1)] (Int.emod_nonneg _ (by omega)) (Int.emod_lt_of_pos _ mz) ⟨x, y, c + 1, put_same, x0, y0, y1, by omega, by omega⟩
/-- the bag that a cell of the script gives -/
def spBag : DSp := fun ds C k => ∃ (ns : List Int) (a : Nat), ds = [.slst (ns.map D.int), .int (a : Nat)] ∧ a ≤ 100 ∧ ∀ p l, C p = none → Bag (put C p (.lst l)) p 0 → k (.own p) (put C p (.lst l))
theorem at_map {ns : List Int} {a : Nat} (h : a < ns.length) : atI (ns.map D.int) (a : Int) = some (.int ns[a]) := by
  unfold atI ixN
  rw [if_pos (by omega), if_pos (by rw [List.length_map]; omega)]
  simp [h]
theorem ok_bag {f : Addr} {fd : FuncData} (F : Fun K "_law_bag" "_law_bag" s_bag f fd) (Z : Zs mg) : FnG P w K mg base CX0 1 f fd P_bag (toSp K spBag) := by
  refine fnX F sc_bag v_bag l_bag g_bag (fun ds C k h => by obtain ⟨_, _, rfl, _⟩ := h; rfl) fun X hB ds C k h => ?_
  obtain ⟨ns, a, rfl, ha, h⟩ := h
  obtain ⟨hx, hn, hs, hg, hd, hnox⟩ := hB
  change WSs X _ [some (.slst (ns.map D.int)), some (.int a), none, none] C _
  refine wss_cons ?_
  have pw : CPowW 10 18 := ⟨by decide, by decide, Nat.lt_of_lt_of_le (by decide : (10 : Int).natAbs < 2 ^ 10) (Nat.pow_le_pow_right (by decide) (by decide))⟩
  have e18 : (10 : Int) ^ Int.toNat 18 = 1000000000000000000 := by decide
  have nn : ∀ (i : Int) (t : Bool), 0 ≤ (if i < 0 then -i else i) * (if t = true then (1 : Int) else 0) := fun i t => Int.mul_nonneg (by split <;> omega) (by split <;> decide)
  walk_at "py"
  · rename_i hlt
    have hlt : a < ns.length := by have := dec_t hlt; rw [List.length_map] at this; omega
    refine ix_s (at_map hlt) ?_
    walk_at "py"
    refine we_lst ?_
    walk_at "py"
    intro p hp
    refine h p _ hp ⟨_, _, _, put_same, nn _ _, ?_, ?_, by decide, by decide⟩ <;> (rw [e18]; omega)
  · refine we_lst ?_
    walk_at "py"
    intro p hp
    refine h p _ hp ⟨_, _, _, put_same, nn _ _, ?_, ?_, by decide, by decide⟩ <;> (rw [e18]; omega)
end
end K31
namespace K31
/-! plain data: texts below 128, ints below a bound; t: truths and lists too -/
mutual
def gd (t : Bool) (B : Nat) : Nat → D → Bool
  | _, .non => true
  | _, .bl _ => t
  | _, .int i => decide (i.natAbs < B)
  | _, .str z => z.cps.toList.all fun c => decide (c < 128)
  | n + 1, .lst xs => t && gdL t B n xs
  | n + 1, .tup xs => gdL t B n xs
  | _, _ => false
def gdL (t : Bool) (B : Nat) : Nat → List D → Bool
  | _, [] => true
  | n, d :: ds => gd t B n d && gdL t B n ds
end
theorem asc_ok {z : Str} (h : (z.cps.toList.all fun c => decide (c < 128)) = true) : PyData.strOk z = true := by
  unfold PyData.strOk
  rw [← Array.all_toList, List.all_eq_true]
  rw [List.all_eq_true] at h
  exact fun c hc => decide_eq_true (by have := of_decide_eq_true (h c hc); omega)
mutual
theorem gd_fit {t : Bool} {B : Nat} (hB : B ≤ 10 ^ 60) : ∀ (d : D) {n : Nat}, gd t B n d = true → d.fit n = true ∧ d.shI = true
  | .non, _, _ | .bl _, _, _ => by simp [D.fit, D.shI]
  | .int i, n, h => by
    have h : i.natAbs < B := by cases n <;> simpa [gd] using h
    refine ⟨by cases n <;> rfl, ?_⟩
    simp only [D.shI, decide_eq_true_eq]; omega
  | .str z, n, h => by
    have h : (z.cps.toList.all fun c => decide (c < 128)) = true := by cases n <;> exact h
    exact ⟨by cases n <;> exact asc_ok h, rfl⟩
  | .lst xs, 0, h | .tup xs, 0, h => by simp [gd] at h
  | .lst xs, n + 1, h => by
    simp only [gd, Bool.and_eq_true] at h
    obtain ⟨a, b⟩ := gdL_fit hB xs h.2
    exact ⟨by simpa [D.fit] using a, by simpa [D.shI] using b⟩
  | .tup xs, n + 1, h => by
    simp only [gd] at h
    obtain ⟨a, b⟩ := gdL_fit hB xs h
    exact ⟨by simpa [D.fit] using a, by simpa [D.shI] using b⟩
  | .slst _, n, h | .obj _ _ _, n, h | .own _, n, h | .opq _, n, h => by cases n <;> simp [gd] at h
theorem gdL_fit {t : Bool} {B : Nat} (hB : B ≤ 10 ^ 60) : ∀ (ds : List D) {n : Nat}, gdL t B n ds = true → fitL n ds = true ∧ shL ds = true
  | [], _, _ => ⟨rfl, rfl⟩
  | d :: ds, n, h => by
    simp only [gdL, Bool.and_eq_true] at h
    obtain ⟨a, b⟩ := gd_fit hB d h.1
    obtain ⟨c, e⟩ := gdL_fit hB ds h.2
    exact ⟨by simp [fitL, a, c], by simp [shL, b, e]⟩
end
mutual
theorem gd_up {t : Bool} {B B' : Nat} (hB : B ≤ B') : ∀ (d : D) {n m : Nat}, gd t B n d = true → n ≤ m → gd true B' m d = true
  | .non, _, _, _, _ | .bl _, _, _, _, _ => by simp [gd]
  | .int i, n, m, h, _ => by
    have h : i.natAbs < B := by cases n <;> simpa [gd] using h
    have : decide (i.natAbs < B') = true := decide_eq_true (by omega)
    cases m <;> exact this
  | .str z, n, m, h, _ => by
    have h : (z.cps.toList.all fun c => decide (c < 128)) = true := by cases n <;> exact h
    cases m <;> exact h
  | .lst xs, 0, _, h, _ | .tup xs, 0, _, h, _ => by simp [gd] at h
  | .lst xs, n + 1, 0, h, l | .tup xs, n + 1, 0, h, l => absurd l (by omega)
  | .lst xs, n + 1, m + 1, h, l => by
    simp only [gd, Bool.and_eq_true] at h ⊢
    exact ⟨trivial, gdL_up hB xs h.2 (by omega)⟩
  | .tup xs, n + 1, m + 1, h, l => by
    simp only [gd] at h ⊢
    exact gdL_up hB xs h (by omega)
  | .slst _, n, _, h, _ | .obj _ _ _, n, _, h, _ | .own _, n, _, h, _ | .opq _, n, _, h, _ => by cases n <;> simp [gd] at h
theorem gdL_up {t : Bool} {B B' : Nat} (hB : B ≤ B') : ∀ (ds : List D) {n m : Nat}, gdL t B n ds = true → n ≤ m → gdL true B' m ds = true
  | [], _, _, _, _ => rfl
  | d :: ds, n, m, h, l => by
    simp only [gdL, Bool.and_eq_true] at h ⊢
    exact ⟨gd_up hB d h.1 l, gdL_up hB ds h.2 l⟩
end
/-! weights -/
end K31
namespace K31
/-! rows that are drawn -/
/-- the first item that cannot stand there; prev: a gap stands ahead -/
def badF (prev : Bool) (i : Nat) : List D → Option Nat
  | [] => none
  | d :: ds => if (!isRow d && (!isGap d || prev)) = true then some i else badF (isGap d) (i + 1) ds
/-! entries as data -/
inductive Mem where
  | non
  | deep (n : Int)
  | some (ns : List Nat) (more : Option Int)
structure Ent where
  kind : Str
  msg : Str
  notes : List Str
  rows : List D
  mem : Mem
  link : Option (Str × Option Nat)
def intsD (ns : List Nat) : List D := ns.map fun (x : Nat) => D.int x
def memD : Mem → D
  | .non => .non
  | .deep n => .tup [.tup [.str "deep", .int n]]
  | .some ns none => .tup (intsD ns)
  | .some ns (some k) => .tup (intsD ns ++ [.tup [.str "more", .int k]])
def lnkD : Option (Str × Option Nat) → D
  | none => .non
  | some (w, none) => .tup [.str w, .non]
  | some (w, some x) => .tup [.str w, .int (x : Nat)]
def entD (e : Ent) : D := .tup [.str e.kind, .str e.msg, .tup (e.notes.map D.str), .tup e.rows, memD e.mem, lnkD e.link]
def Mem.nums : Mem → List Nat
  | .some ns _ => ns
  | _ => []
def lnkN : Option (Str × Option Nat) → Option Nat
  | some (_, o) => o
  | none => none
section
variable {P : Program} {w : World} {K : PySem.W.Frag} {mg : Str → Option Value} {base : Heap}
theorem fnG_no {f : Addr} {fd : FuncData} {ps : List Str} {n : Nat} {S : DSp} (h : ∀ ds C k, ¬ S ds C k) : FnG P w K mg base CX0 n f fd ps (toSp K S) :=
  ⟨fun _ _ _ _ ⟨_, _, _, _, _, _, z, _⟩ => (h _ _ _ z).elim, fun _ _ _ _ _ ⟨_, _, _, _, _, _, z, _⟩ => (h _ _ _ z).elim⟩
end
end K31
namespace K31
section
variable {P : Program} {w : World} {K : PySem.W.Frag} {mg : Str → Option Value} {base : Heap}
def spIsTx : DSp := fun ds C k => ∃ x, ds = [x] ∧ x.kind = true ∧ k (.bl x.isStr) C
theorem ok_isText {f : Addr} {fd : FuncData} (F : Fun K "is_text" "is_text" s_is_text f fd) (Z : Zs mg) : FnG P w K mg base CX0 1 f fd P_is_text (toSp K spIsTx) := by
  refine fnX F sc_is_text v_is_text l_is_text g_is_text (fun ds C k h => by obtain ⟨x, rfl, _⟩ := h; rfl) fun X hB ds C k h => ?_
  obtain ⟨x, rfl, hk, h⟩ := h
  obtain ⟨hx, hn, hs, hg, hd, hnox⟩ := hB
  change WSs X _ [some x] C _
  refine wss_cons ?_
  walk_at "pyR"
  exact h
def inR : D → Int → Int → Bool
  | .int i, lo, hi => decide (lo ≤ i) && decide (i ≤ hi)
  | _, _, _ => false
theorem inR_no {x : D} {lo hi : Int} (h : isI x = false) : inR x lo hi = false := by cases x <;> first | rfl | (simp [isI] at h; done)
def spInR : DSp := fun ds C k => ∃ x lo hi, ds = [x, .int lo, .int hi] ∧ x.kind = true ∧ k (.bl (inR x lo hi)) C
theorem ok_inRange {f : Addr} {fd : FuncData} (F : Fun K "in_range" "in_range" s_in_range f fd) (h1 : FnC P w K mg base "is_integer" 1 spIsInt) : FnG P w K mg base CX0 2 f fd P_in_range (toSp K spInR) := by
  refine fnX F sc_in_range v_in_range l_in_range g_in_range (fun ds C k h => by obtain ⟨_, _, _, rfl, _⟩ := h; rfl) fun X hB ds C k h => ?_
  obtain ⟨x, lo, hi, rfl, hk, h⟩ := h
  obtain ⟨hx, hn, hs, hg, hd, hnox⟩ := hB
  change WSs X _ [some x, some (.int lo), some (.int hi)] C _
  refine wss_cons ?_
  walk_at "pyR"
  refine ⟨x, rfl, hk, ?_⟩
  walk_at "pyR"
  · rename_i h1
    obtain ⟨i, rfl⟩ := isI_eq h1
    walk_at "pyR"
    · rename_i h2
      rw [show inR (.int i) lo hi = (decide (lo ≤ i) && decide (i ≤ hi)) from rfl, h2] at h
      exact h
    · rename_i h2
      rw [show inR (.int i) lo hi = (decide (lo ≤ i) && decide (i ≤ hi)) from rfl, h2] at h
      exact h
  · rename_i h1
    rw [inR_no h1] at h; exact h
def spCnt : DSp := fun ds C k => ∃ x w, ds = [x, .str w] ∧ ((∃ i, x = .int i ∧ k (.bl false) C) ∨ ∃ z n, x = .tup [.str z, .int n] ∧ k (.bl (z == w && decide (1 ≤ n))) C)
theorem ok_isCounted {f : Addr} {fd : FuncData} (F : Fun K "is_counted" "is_counted" s_is_counted f fd) (Z : Zs mg) (h1 : FnC P w K mg base "is_from" 2 spIsFrom) : FnG P w K mg base CX0 3 f fd P_is_counted (toSp K spCnt) := by
  refine fnX F sc_is_counted v_is_counted l_is_counted g_is_counted (fun ds C k h => by obtain ⟨_, _, rfl, _⟩ := h; rfl) fun X hB ds C k h => ?_
  obtain ⟨x, wd, rfl, h⟩ := h
  obtain ⟨hx, hn, hs, hg, hd, hnox⟩ := hB
  rcases h with ⟨i, rfl, h⟩ | ⟨z, n, rfl, h⟩
  · change WSs X _ [some (.int i), some (.str wd)] C _
    refine wss_cons ?_
    walk_at "pyR"
    all_goals try walk_at "bad"
    exact h
  · change WSs X _ [some (.tup [.str z, .int n]), some (.str wd)] C _
    refine wss_cons ?_
    walk_at "pyR"
    all_goals try walk_at "bad"
    refine eq_sS ?_
    walk_at "pyR"
    · rename_i h2
      refine ⟨_, 1, rfl, rfl, ?_⟩
      rw [h2, Bool.true_and] at h
      exact h
    · rename_i h2
      rw [h2, Bool.false_and] at h
      exact h
/-- members that may stand in an entry of so many entries -/
def MemV (many : Nat) : Mem → Prop
  | .non => True
  | .deep n => 1 ≤ n
  | .some ns mo => ns ≠ [] ∧ ns.length ≤ 1000 ∧ (∀ x ∈ ns, x < many) ∧ ∀ k, mo = Option.some k → 1 ≤ k
def spMem : DSp := fun ds C k => ∃ m many, ds = [memD m, .int (many : Nat)] ∧ MemV many m ∧ k (.bl true) C
end
end K31
namespace K31
section
variable {P : Program} {w : World} {K : PySem.W.Frag} {mg : Str → Option Value} {base : Heap}
theorem strOk_deep : PyData.strOk ("deep" : Str) = true := by decide +kernel
theorem strOk_more : PyData.strOk ("more" : Str) = true := by decide +kernel
theorem memD_fit {m : Mem} : (memD m).fit 3 = true := by
  have hi : ∀ ns : List Nat, ∀ d ∈ intsD ns, d.fit 2 = true := fun ns d hd => by
    obtain ⟨x, _, rfl⟩ := List.mem_map.mp hd
    rfl
  cases m with
  | non => rfl
  | deep n => simp [memD, D.fit, fitL, strOk_deep]
  | some ns mo => cases mo with
    | none => exact fit_tupI (hi ns)
    | some k =>
      refine fit_tupI fun d hd => ?_
      rcases List.mem_append.mp hd with hd | hd
      · exact hi ns d hd
      · rw [List.mem_singleton.mp hd]; simp [D.fit, fitL, strOk_more]
theorem nil_fit : (D.tup []).fit 1 = true := rfl
theorem ne_nil {xs : List D} (h : xs ≠ []) : PyData.eqv (D.tup xs).py (D.tup []).py = false := by
  cases xs with
  | nil => exact absurd rfl h
  | cons x xs => simp [D.py, pyL, PyData.eqv, PyData.eqvAll]
theorem eqT_nil {C : CS} {k : KD} {xs : List D} {n : Nat} (h : xs ≠ []) (hf : (D.tup xs).fit n = true) (hn : n ≤ 64) (q : k (.bl false) C) : dEq false (.tup xs) (.tup []) C k := by
  refine eq_fit hf nil_fit ?_ hn
  rw [ne_nil h]; exact q
theorem at0_len1 {T : List D} {l : D} (h : (((T ++ [l]).length : Int) == 1) = true) : T = [] ∧ atI (T ++ [l]) 0 = some l := by
  have := eq_of_beq h
  have h0 : T = [] := List.length_eq_zero_iff.mp (by simp at this; omega)
  subst h0
  exact ⟨rfl, rfl⟩
theorem mem_tail {X : Cx} (hx : DL.Ctx P w K mg base 3 X) (hn : Nms X N_are_members M_are_members) (hs : Sts X N_are_members M_are_members) (hg : Gls X D_are_members) (hd : Dfc X N_are_members (defScope s_are_members)) (Z : Zs mg) (h2 : FnC P w K mg base "in_range" 2 spInR)
    {q : Addr} {C : CS} {o l : Option D} {ns : List Nat} {many : Nat} {k : KD} (hq : C q = some (.lst (intsD ns))) (hne : ns ≠ []) (hl : ns.length ≤ 1000) (hlt : ∀ x ∈ ns, x < many) (h : k (.bl true) C) :
    WSh X ((defBody s_are_members).drop 5) [o, some (.int (many : Nat)), l, some (.own q), none] C { nx := fun _ C' => k .non C', rt := k } := by
  refine wsh_go (wss_cons ?_)
  walk_at "pyS"
  refine ne_ol (n := 0) (m := 0) hq (fun d hd => ?_) (fun d hd => by simp at hd) (by decide) (by decide) ?_
  · obtain ⟨x, _, rfl⟩ := List.mem_map.mp hd
    rfl
  have e : eqL (intsD ns) [] = false := by
    cases ns with
    | nil => exact absurd rfl hne
    | cons x xs => rfl
  rw [e]
  walk_at "pyS"
  all_goals try walk_at "bad"
  refine we_fa (lc1 ["number", "many"] ["in_range"] hd (by walk_at "nm") (by decide +kernel) (by decide +kernel) (by decide +kernel) (by decide +kernel) (wi_ls ?_))
  walk_at "pyS"
  refine ⟨_, seqR_own hq, LcB.map (fun d => .bl (inR d 0 ((many : Int) - 1))) (fun a ha => by cases ha; exact hq) (by rw [show (intsD ns).length = ns.length from List.length_map ..]; exact Nat.le_trans hl (by decide)) ?_ fun p hp => fa_put hp ?_⟩
  · intro d hdm X' hX hn' hg'
    have hx' := hx.blk hX
    obtain ⟨x, _, rfl⟩ := List.mem_map.mp hdm
    walk_at "pyS"
    refine ⟨_, _, _, rfl, rfl, ?_⟩
    exact ⟨rfl, rfl⟩
  · walk_at "pyS"
    refine all_map (f := fun d => inR d 0 ((many : Int) - 1)) ?_
    have : (intsD ns).all (fun d => inR d 0 ((many : Int) - 1)) = true := by
      rw [List.all_eq_true]
      intro d hd
      obtain ⟨x, hx, rfl⟩ := List.mem_map.mp hd
      have := hlt x hx
      simp only [inR, Bool.and_eq_true, decide_eq_true_eq]
      omega
    rw [this]; exact h
theorem ok_areMembers {f : Addr} {fd : FuncData} (F : Fun K "are_members" "are_members" s_are_members f fd) (Z : Zs mg) (h1 : FnC P w K mg base "is_counted" 3 spCnt) (h2 : FnC P w K mg base "in_range" 2 spInR) (g1 : MgK K mg "DEEP" (.str "deep")) (g2 : MgK K mg "MORE" (.str "more")) : FnG P w K mg base CX0 4 f fd P_are_members (toSp K spMem) := by
  refine fnS F sc_are_members v_are_members l_are_members g_are_members (fun ds C k h => by obtain ⟨_, _, rfl, _⟩ := h; rfl) fun X hB ds C k h => ?_
  obtain ⟨m, many, rfl, hV, h⟩ := h
  obtain ⟨hx, hn, hs, hg, hd, hnox⟩ := hB
  change WSs X _ [some (memD m), some (.int many), none, none, none] C _
  cases m with
  | non =>
    show WSs X _ [some .non, some (.int many), none, none, none] C _
    refine wss_cons ?_
    walk_at "pyS"
    all_goals try walk_at "bad"
    exact ⟨C, Sub.refl C, h⟩
  | deep n =>
    show WSs X _ [some (.tup [.tup [.str "deep", .int n]]), some (.int many), none, none, none] C _
    have hV : 1 ≤ n := hV
    refine wss_cons ?_
    walk_at "pyS"
    all_goals try walk_at "bad"
    refine eqT_nil (by simp) (memD_fit (m := .deep n)) (by decide) ?_
    walk_at "pyS"
    all_goals try walk_at "bad"
    refine ⟨_, _, rfl, .inr ⟨_, _, rfl, ?_⟩⟩
    rw [show (("deep" : Str) == "deep" && decide (1 ≤ n)) = true by simp [hV]]
    walk_at "pyS"
    exact ⟨C, Sub.refl C, h⟩
  | some ns mo =>
    obtain ⟨hne, hl, hlt, hmo⟩ := hV
    obtain ⟨T, l, e, hT, hTl⟩ : ∃ (T : List D) (l : D), memD (.some ns mo) = .tup (T ++ [l]) ∧ ((mo = none ∧ T ++ [l] = intsD ns ∧ ∃ x : Nat, l = .int x) ∨ ∃ k, mo = some k ∧ T = intsD ns ∧ l = .tup [.str "more", .int k]) ∧ T.length ≤ 1000 := by
      cases mo with
      | none =>
        have hne' : intsD ns ≠ [] := by simpa [intsD] using hne
        refine ⟨(intsD ns).dropLast, (intsD ns).getLast hne', by rw [List.dropLast_concat_getLast]; rfl, .inl ⟨rfl, List.dropLast_concat_getLast hne', ?_⟩, by rw [List.length_dropLast, show (intsD ns).length = ns.length from List.length_map ..]; omega⟩
        obtain ⟨x, _, hx⟩ := List.mem_map.mp (List.getLast_mem hne')
        exact ⟨x, hx.symm⟩
      | some k => exact ⟨intsD ns, _, rfl, .inr ⟨k, rfl, rfl, rfl⟩, by rw [show (intsD ns).length = ns.length from List.length_map ..]; omega⟩
    have hfit := memD_fit (m := .some ns mo)
    rw [e] at hfit ⊢
    refine wss_cons ?_
    walk_at "pyS"
    all_goals try walk_at "bad"
    refine eqT_nil (by simp) hfit (by decide) ?_
    walk_at "pyS"
    all_goals try walk_at "bad"
    · rename_i h3
      obtain ⟨hT0, h0⟩ := at0_len1 h3
      refine ix_t h0 ?_
      walk_at "pyS"
      rcases hT with ⟨rfl, hTe, x, rfl⟩ | ⟨k', rfl, rfl, rfl⟩
      · refine ⟨_, _, rfl, .inl ⟨_, rfl, ?_⟩⟩
        walk_at "pyS"
        refine wg_starL hx.calm rfl rfl fun q hq => ?_
        walk_at "wg"
        show WSs X _ _ _ _
        refine wss_consH ?_
        walk_at "pyS"
        refine ⟨_, _, rfl, .inl ⟨_, rfl, ?_⟩⟩
        walk_at "pyS"
        all_goals try walk_at "bad"
        refine app_put (Nat.lt_of_le_of_lt hTl (by decide)) ?_
        rw [hTe]
        walk_at "pyS"
        exact mem_tail (k := fun d C1 => ∃ C2, Sub C2 C1 ∧ k d C2) hx hn hs hg hd Z h2 put_same hne hl hlt ⟨C, Sub.new (Sub.refl C) hq, h⟩
      · exact absurd (List.map_eq_nil_iff.mp hT0) hne
    · refine wg_starL hx.calm rfl rfl fun q hq => ?_
      walk_at "wg"
      show WSs X _ _ _ _
      refine wss_consH ?_
      walk_at "pyS"
      rcases hT with ⟨rfl, hTe, x, rfl⟩ | ⟨k', rfl, rfl, rfl⟩
      · refine ⟨_, _, rfl, .inl ⟨_, rfl, ?_⟩⟩
        walk_at "pyS"
        all_goals try walk_at "bad"
        refine app_put (Nat.lt_of_le_of_lt hTl (by decide)) ?_
        rw [hTe]
        walk_at "pyS"
        exact mem_tail (k := fun d C1 => ∃ C2, Sub C2 C1 ∧ k d C2) hx hn hs hg hd Z h2 put_same hne hl hlt ⟨C, Sub.new (Sub.refl C) hq, h⟩
      · refine ⟨_, _, rfl, .inr ⟨_, _, rfl, ?_⟩⟩
        rw [show (("more" : Str) == "more" && decide (1 ≤ k')) = true by simp [hmo k' rfl]]
        walk_at "pyS"
        all_goals try walk_at "bad"
        exact mem_tail (k := fun d C1 => ∃ C2, Sub C2 C1 ∧ k d C2) hx hn hs hg hd Z h2 put_same hne hl hlt ⟨C, Sub.new (Sub.refl C) hq, h⟩
end
end K31
namespace K31
section
variable {P : Program} {w : World} {K : PySem.W.Frag} {mg : Str → Option Value} {base : Heap}
/-- a link that may stand in an entry of so many entries -/
def LnkV (many : Nat) (o : Option (Str × Option Nat)) : Prop := ∀ w x, o = some (w, x) → (w = "cause" ∨ w = "context") ∧ ∀ y, x = some y → y < many
def spLnk : DSp := fun ds C k => ∃ o many, ds = [lnkD o, .int (many : Nat)] ∧ LnkV many o ∧ k (.bl true) C
theorem ok_isLink {f : Addr} {fd : FuncData} (F : Fun K "is_link" "is_link" s_is_link f fd) (Z : Zs mg) (h2 : FnC P w K mg base "in_range" 2 spInR) (g1 : MgK K mg "CAUSE" (.str "cause")) (g2 : MgK K mg "CONTEXT" (.str "context")) : FnG P w K mg base CX0 3 f fd P_is_link (toSp K spLnk) := by
  refine fnX F sc_is_link v_is_link l_is_link g_is_link (fun ds C k h => by obtain ⟨_, _, rfl, _⟩ := h; rfl) fun X hB ds C k h => ?_
  obtain ⟨o, many, rfl, hV, h⟩ := h
  obtain ⟨hx, hn, hs, hg, hd, hnox⟩ := hB
  have hin : ∀ w x, o = some (w, x) → decide (w ∈ (["cause", "context"] : List Str)) = true := fun w x e => by
    rcases (hV w x e).1 with rfl | rfl <;> decide +kernel
  rcases o with _ | ⟨w, _ | y⟩
  · show WSs X _ [some .non, some (.int many)] C _
    refine wss_cons ?_
    walk_at "pyR"
    all_goals try walk_at "bad"
    exact h
  · show WSs X _ [some (.tup [.str w, .non]), some (.int many)] C _
    refine wss_cons ?_
    walk_at "pyR"
    all_goals try walk_at "bad"
    refine in_tup (zs := ["cause", "context"]) rfl ?_
    rw [hin w none rfl]
    walk_at "pyR"
    all_goals try walk_at "bad"
    exact h
  · show WSs X _ [some (.tup [.str w, .int y]), some (.int many)] C _
    refine wss_cons ?_
    walk_at "pyR"
    all_goals try walk_at "bad"
    refine in_tup (zs := ["cause", "context"]) rfl ?_
    rw [hin w (some y) rfl]
    walk_at "pyR"
    all_goals try walk_at "bad"
    refine ⟨_, _, _, rfl, rfl, ?_⟩
    have := (hV w (some y) rfl).2 y rfl
    rw [show inR (.int (y : Nat)) 0 ((many : Int) - 1) = true by simp only [inR, Bool.and_eq_true, decide_eq_true_eq]; omega]
    walk_at "pyR"
    exact h
/-- the first item that cannot stand among rows -/
def spBad : DSp := fun ds C k => ∃ xs, ds = [.tup xs] ∧ (∀ d ∈ xs, Ob d) ∧ xs.length ≤ 100000 ∧ badF false 0 xs = none ∧ k .non C
theorem badF_at : ∀ (xs : List D) (p : Bool) (i j : Nat) (d : D), badF p i xs = none → xs[j]? = some d → isRow d = true ∨ isGap d = true ∧ ((j = 0 ∧ p = false) ∨ ∃ d', xs[j - 1]? = some d' ∧ 0 < j ∧ isGap d' = false)
  | [], _, _, j, d, _, h => by simp at h
  | x :: xs, p, i, 0, d, h, e => by
    simp only [List.getElem?_cons_zero, Option.some.injEq] at e
    subst e
    simp only [badF] at h
    split at h
    · cases h
    · rename_i hc
      cases h1 : isRow x with
      | true => exact .inl rfl
      | false =>
        right
        rw [h1] at hc
        cases h2 : isGap x with
        | false => rw [h2] at hc; simp at hc
        | true =>
          rw [h2] at hc
          cases p with
          | true => simp at hc
          | false => exact ⟨rfl, .inl ⟨rfl, rfl⟩⟩
  | x :: xs, p, i, j + 1, d, h, e => by
    simp only [badF] at h
    split at h
    · cases h
    · have e' : xs[j]? = some d := by simpa using e
      rcases badF_at xs (isGap x) (i + 1) j d h e' with h1 | ⟨h1, ⟨rfl, h2⟩ | ⟨d', h3, h4, h5⟩⟩
      · exact .inl h1
      · exact .inr ⟨h1, .inr ⟨x, rfl, by omega, h2⟩⟩
      · exact .inr ⟨h1, .inr ⟨d', by obtain ⟨j', rfl⟩ : ∃ j', j = j' + 1 := ⟨j - 1, by omega⟩
                                     simpa using h3, by omega, h5⟩⟩
theorem at_nat {xs : List D} {i : Nat} {d : D} (h : xs[i]? = some d) : atI xs (i : Nat) = some d := by
  have hl := (List.getElem?_eq_some_iff.mp h).1
  unfold atI ixN
  rw [if_pos (by omega), if_pos (by omega)]
  exact h
theorem ok_badRow {f : Addr} {fd : FuncData} (F : Fun K "bad_row" "bad_row" s_bad_row f fd) (Z : Zs mg) (h1 : FnC P w K mg base "is_row" 3 spIsRow) (h2 : FnC P w K mg base "is_gap" 3 spIsGap) : FnG P w K mg base CX0 4 f fd P_bad_row (toSp K spBad) := by
  refine fnX F sc_bad_row v_bad_row l_bad_row g_bad_row (fun ds C k h => by obtain ⟨_, rfl, _⟩ := h; rfl) fun X hB ds C k h => ?_
  obtain ⟨xs, rfl, hO, hl, hbad, h⟩ := h
  obtain ⟨hx, hn, hs, hg, hd, hnox⟩ := hB
  change WSs X _ [some (.tup xs), none, none] C _
  refine wss_cons ?_
  refine x_for hx hnox (wi_enum (hx.zs Z).enum (by walk_at "gl") ?_)
  walk_at "pyR"
  refine ⟨_, xs, rfl, .inr ⟨rfl, ?_⟩⟩
  refine ⟨fun i env C' => C' = C ∧ ∃ o1 o2, env = [some (.tup xs), o1, o2], ⟨rfl, _, _, rfl⟩, fun _ _ _ _ => trivial, ?_, ?_⟩
  · rintro i d env C1 hd ⟨rfl, o1, o2, rfl⟩
    obtain ⟨x, hxi, rfl⟩ := enumD_get hd
    have hOx := hO x (List.mem_of_getElem? hxi)
    walk_at "pyR"
    refine ⟨x, rfl, hOx, ?_⟩
    walk_at "pyR"
    · rename_i hr
      refine ⟨x, rfl, hOx, ?_⟩
      rcases badF_at xs false 0 i x hbad hxi with h3 | ⟨h3, h4⟩
      · rw [h3] at hr; exact absurd hr (by decide)
      · rw [h3]
        walk_at "pyR"
        all_goals try walk_at "bad"
        · rename_i hi
          rcases h4 with ⟨rfl, _⟩ | ⟨d', h5, h6, h7⟩
          · exact absurd hi (by decide)
          · refine ix_t (d := d') (by rw [show ((i : Int) - 1) = ((i - 1 : Nat) : Int) by omega]; exact at_nat h5) ?_
            walk_at "pyR"
            refine ⟨d', rfl, hO d' (List.mem_of_getElem? h5), ?_⟩
            rw [h7]
            walk_at "pyR"
            all_goals try walk_at "bad"
            exact ⟨rfl, _, _, rfl⟩
        · exact ⟨rfl, _, _, rfl⟩
    · exact ⟨rfl, _, _, rfl⟩
  · rintro env C1 ⟨rfl, o1, o2, rfl⟩
    walk_at "pyR"
    exact h
end
end K31
namespace K31
theorem spl_hd (S : List Nat) : ∀ (l : List Nat) (k : Nat) (acc : List Nat), ∃ p rest, TL.spl S k acc l = p :: rest ∧ p.length ≤ acc.length + l.length
  | [], k, acc => ⟨acc, [], TL.spl_nil S k acc, by simp⟩
  | c :: r, 0, acc => by
    cases h : TL.pre S (c :: r) with
    | true => exact ⟨acc, _, TL.spl_hit h, by omega⟩
    | false =>
      obtain ⟨p, rest, h1, h2⟩ := spl_hd S r 0 (acc ++ [c])
      exact ⟨p, rest, (TL.spl_miss h).trans h1, by rw [List.length_append] at h2; simp only [List.length_cons, List.length_nil] at h2 ⊢; omega⟩
  | c :: r, k + 1, acc => by
    obtain ⟨p, rest, h1, h2⟩ := spl_hd S r k acc
    exact ⟨p, rest, h1, by rw [List.length_cons]; omega⟩
theorem split_hd (z : Str) : ∃ y rest, Txt.split z "\n" = y :: rest ∧ y.length ≤ z.length := by
  have hy : TL.tl ("\n" : Str) ≠ [] := by decide +kernel
  have e := TL.split_spl z "\n" hy (TL.kind_ok (by decide +kernel))
  obtain ⟨p, rest, h1, h2⟩ := spl_hd (TL.tl ("\n" : Str)) (TL.tl z) 0 []
  rw [h1] at e
  cases hs : Txt.split z "\n" with
  | nil => rw [hs] at e; cases e
  | cons y ys =>
    rw [hs] at e
    simp only [List.map_cons, List.cons.injEq] at e
    refine ⟨y, ys, rfl, ?_⟩
    rw [str_len, str_len]
    have e1 : TL.tl y = p := e.1
    have : (TL.tl y).length ≤ (TL.tl z).length := by rw [e1]; simpa using h2
    exact this
/-- the kind, and the first line of the message -/
def headS (kd msg : Str) : Str := if (msg == "") = true then kd else kd ++ ": " ++ (Txt.split msg "\n").headD ""
/-- an entry that may stand among so many -/
structure EntV (many : Nat) (e : Ent) : Prop where
  kd : isNm (.str e.kind) = true
  ob : Ob (.str e.kind)
  rows : ∀ d ∈ e.rows, Ob d
  bad : badF false 0 e.rows = none
  rl : e.rows.length ≤ 1000
  nl : e.notes.length ≤ 1000
  ml : e.msg.length ≤ 1000000
  mem : MemV many e.mem
  lnk : LnkV many e.link
/-- how many members are left out -/
def goneM : Mem → Int
  | .non => 0
  | .deep n => n
  | .some _ mo => mo.getD 0
section
variable {P : Program} {w : World} {K : PySem.W.Frag} {mg : Str → Option Value} {base : Heap}
def spIsEnt : DSp := fun ds C k => ∃ e many, ds = [entD e, .int (many : Nat)] ∧ EntV many e ∧ k (.bl true) C
theorem ok_isEntry {f : Addr} {fd : FuncData} (F : Fun K "is_entry" "is_entry" s_is_entry f fd) (Z : Zs mg) (h1 : FnC P w K mg base "is_name" 1 spIsNm) (h2 : FnC P w K mg base "is_text" 1 spIsTx) (h3 : FnC P w K mg base "bad_row" 4 spBad) (h4 : FnC P w K mg base "are_members" 4 spMem) (h5 : FnC P w K mg base "is_link" 3 spLnk)
    (g1 : MgK K mg "MOST_ROWS" (.int 1000)) : FnG P w K mg base CX0 5 f fd P_is_entry (toSp K spIsEnt) := by
  refine fnX F sc_is_entry v_is_entry l_is_entry g_is_entry (fun ds C k h => by obtain ⟨_, _, rfl, _⟩ := h; rfl) fun X hB ds C k h => ?_
  obtain ⟨e, many, rfl, hV, h⟩ := h
  obtain ⟨hx, hn, hs, hg, hd, hnox⟩ := hB
  show WSs X _ [some (.tup [.str e.kind, .str e.msg, .tup (e.notes.map D.str), .tup e.rows, memD e.mem, lnkD e.link]), some (.int many), none, none, none, none, none, none, none] C _
  refine wss_cons ?_
  walk_at "pyA"
  all_goals try walk_at "bad"
  refine ⟨_, rfl, hV.ob, ?_⟩
  rw [hV.kd]
  walk_at "pyA"
  all_goals try walk_at "bad"
  refine ⟨_, rfl, rfl, ?_⟩
  walk_at "pyA"
  all_goals try walk_at "bad"
  refine we_fa (lc1 ["note"] ["is_text"] hd (by walk_at "nm") (by decide +kernel) (by decide +kernel) (by decide +kernel) (by decide +kernel) (wi_tup ?_))
  walk_at "pyA"
  refine ⟨_, rfl, LcB.map (fun d => .bl d.isStr) trivial (by rw [List.length_map]; exact Nat.le_trans hV.nl (by decide)) ?_ fun p hp => fa_put hp ?_⟩
  · intro d hdm X' hX hn' hg'
    have hx' := hx.blk hX
    obtain ⟨z, _, rfl⟩ := List.mem_map.mp hdm
    walk_at "pyA"
    exact ⟨_, rfl, rfl, rfl, rfl⟩
  · walk_at "pyA"
    refine all_map (f := fun d => d.isStr) ?_
    have : (e.notes.map D.str).all (fun d => d.isStr) = true := by
      rw [List.all_eq_true]
      intro d hd
      obtain ⟨z, _, rfl⟩ := List.mem_map.mp hd
      rfl
    rw [this]
    walk_at "pyA"
    all_goals try walk_at "bad"
    refine ⟨_, rfl, hV.rows, Nat.le_trans hV.rl (by decide), hV.bad, ?_⟩
    walk_at "pyA"
    all_goals try walk_at "bad"
    · rename_i hq
      have := of_decide_eq_true hq
      have := hV.rl
      omega
    · refine ⟨_, _, rfl, hV.mem, ?_⟩
      walk_at "pyA"
      all_goals try walk_at "bad"
      refine ⟨_, _, rfl, hV.lnk, ?_⟩
      exact h
def spNums : DSp := fun ds C k => ∃ m, ds = [memD m] ∧ m ≠ .non ∧ m.nums.length ≤ 1000 ∧ ∀ p, C p = none → k (.own p) (DL.put C p (.lst (intsD m.nums)))
theorem mem_tup {m : Mem} (h : m ≠ .non) : ∃ T, memD m = .tup (intsD m.nums ++ T) ∧ (T = [] ∧ goneM m = 0 ∨ ∃ z, T = [.tup [.str z, .int (goneM m)]]) := by
  cases m with
  | non => exact absurd rfl h
  | deep n => exact ⟨_, rfl, .inr ⟨_, rfl⟩⟩
  | some ns mo => cases mo with
    | none => exact ⟨[], by simp [memD, Mem.nums], .inl ⟨rfl, rfl⟩⟩
    | some k => exact ⟨_, rfl, .inr ⟨_, rfl⟩⟩
theorem ints_fil (ns : List Nat) : (intsD ns).filter D.isIntB = intsD ns := List.filter_eq_self.mpr fun d hd => by
  obtain ⟨x, _, rfl⟩ := List.mem_map.mp hd
  rfl
theorem ints_filT (ns : List Nat) : (intsD ns).filter D.isTup = [] := List.filter_eq_nil_iff.mpr fun d hd => by
  obtain ⟨x, _, rfl⟩ := List.mem_map.mp hd
  simp [D.isTup]
theorem ints_len (ns : List Nat) : (intsD ns).length = ns.length := List.length_map ..
theorem mem_kind {m : Mem} {T : List D} (h : memD m = .tup T) : ∀ d ∈ T, d.kind = true := by
  have hf := memD_fit (m := m)
  rw [h] at hf
  obtain ⟨n, _, hf⟩ := fit_tup hf
  exact fun d hd => fit_kind (hf d hd)
theorem ok_numbersIn {f : Addr} {fd : FuncData} (F : Fun K "numbers_in" "numbers_in" s_numbers_in f fd) (Z : Zs mg) : FnG P w K mg base CX0 1 f fd P_numbers_in (toSp K spNums) := by
  refine fnX F sc_numbers_in v_numbers_in l_numbers_in g_numbers_in (fun ds C k h => by obtain ⟨_, rfl, _⟩ := h; rfl) fun X hB ds C k h => ?_
  obtain ⟨m, rfl, hm, hl, h⟩ := h
  obtain ⟨hx, hn, hs, hg, hd, hnox⟩ := hB
  obtain ⟨T, e, hT⟩ := mem_tup hm
  have hk := mem_kind e
  rw [e]
  change WSs X _ [some (.tup (intsD m.nums ++ T)), none] C _
  have hTl : T.length ≤ 1 := by rcases hT with ⟨rfl, _⟩ | ⟨z, rfl⟩ <;> simp
  have hfil : (intsD m.nums ++ T).filter D.isIntB = intsD m.nums := by
    rw [List.filter_append, ints_fil]
    rcases hT with ⟨rfl, _⟩ | ⟨z, rfl⟩ <;> simp [D.isIntB]
  refine wss_cons ?_
  walk_at "pyR"
  refine lc1 ["item"] ["isinstance", "int"] hd (by walk_at "nm") (by decide +kernel) (by decide +kernel) (by decide +kernel) (by decide +kernel) (wi_tup ?_)
  walk_at "pyR"
  refine ⟨_, rfl, LcB.filter D.isIntB id trivial (by rw [List.length_append, ints_len]; exact Nat.le_trans (by omega : _ ≤ 2000) (by decide)) ?_ ?_ fun p hp => ?_⟩
  · intro d hdm X' hX hn' hg'
    have hx' := hx.blk hX
    have hkd := hk d hdm
    walk_at "pyR"
    exact ⟨rfl, rfl⟩
  · intro d hdm _ X' hX hn' hg'
    have hx' := hx.blk hX
    walk_at "pyR"
    exact ⟨rfl, rfl⟩
  · rw [hfil, List.map_id]
    exact h p hp
def spGone : DSp := fun ds C k => ∃ m, ds = [memD m] ∧ m ≠ .non ∧ m.nums.length ≤ 1000 ∧ k (.int (goneM m)) C
theorem ok_leftOut {f : Addr} {fd : FuncData} (F : Fun K "left_out" "left_out" s_left_out f fd) (Z : Zs mg) : FnG P w K mg base CX0 1 f fd P_left_out (toSp K spGone) := by
  refine fnX F sc_left_out v_left_out l_left_out g_left_out (fun ds C k h => by obtain ⟨_, rfl, _⟩ := h; rfl) fun X hB ds C k h => ?_
  obtain ⟨m, rfl, hm, hl, h⟩ := h
  obtain ⟨hx, hn, hs, hg, hd, hnox⟩ := hB
  obtain ⟨T, e, hT⟩ := mem_tup hm
  have hk := mem_kind e
  rw [e]
  change WSs X _ [some (.tup (intsD m.nums ++ T)), none] C _
  have hTl : T.length ≤ 1 := by rcases hT with ⟨rfl, _⟩ | ⟨z, rfl⟩ <;> simp
  have hTt : T.filter D.isTup = T := by rcases hT with ⟨rfl, _⟩ | ⟨z, rfl⟩ <;> simp [D.isTup]
  have hfil : (intsD m.nums ++ T).filter D.isTup = T := by rw [List.filter_append, ints_filT, List.nil_append, hTt]
  obtain ⟨g, hg2⟩ : ∃ g : D → D, g = fun d => match d with | .tup [_, y] => y | _ => .non := ⟨_, rfl⟩
  refine wss_cons ?_
  walk_at "pyR"
  refine we_fz (lc1 ["item"] ["isinstance", "tuple"] hd (by walk_at "nm") (by decide +kernel) (by decide +kernel) (by decide +kernel) (by decide +kernel) (wi_tup ?_))
  walk_at "pyR"
  refine ⟨_, rfl, LcB.filter D.isTup g trivial (by rw [List.length_append, ints_len]; exact Nat.le_trans (by omega : _ ≤ 2000) (by decide)) ?_ ?_ fun p hp => frz_ok hp ?_⟩
  · intro d hdm X' hX hn' hg'
    have hx' := hx.blk hX
    have hkd := hk d hdm
    walk_at "pyR"
    exact ⟨rfl, rfl⟩
  · intro d hdm ht X' hX hn' hg'
    have hx' := hx.blk hX
    have hdT : d ∈ T := by rw [← hfil]; exact List.mem_filter.mpr ⟨hdm, ht⟩
    rcases hT with ⟨rfl, _⟩ | ⟨z, rfl⟩
    · simp at hdT
    · rw [List.mem_singleton.mp hdT]
      walk_at "pyR"
      exact ⟨by rw [hg2], rfl⟩
  · rw [hfil]
    walk_at "pyR"
    rcases hT with ⟨rfl, h0⟩ | ⟨z, rfl⟩
    · refine ⟨_, [], rfl, rfl, ?_⟩
      rw [h0] at h; exact h
    · refine ⟨_, [goneM m], rfl, by rw [hg2]; rfl, ?_⟩
      rw [show ([goneM m] : List Int).sum = goneM m by simp]; exact h
end
end K31
namespace K31
section
variable {P : Program} {w : World} {K : PySem.W.Frag} {mg : Str → Option Value} {base : Heap}
theorem slen_app (x y : Str) : (x ++ y).length = x.length + y.length := by rw [str_len, str_len, str_len, str_app, List.length_append]
theorem emp_app (x : Str) : Str.empty ++ x = x := str_ext (by rw [str_app]; rfl)
def spHead : DSp := fun ds C k => ∃ e, ds = [entD e] ∧ e.kind.length ≤ 1000 ∧ e.msg.length ≤ 1000000 ∧ k (.str (headS e.kind e.msg)) C
theorem ok_headline {f : Addr} {fd : FuncData} (F : Fun K "headline" "headline" s_headline f fd) (Z : Zs mg) (g1 : MgK K mg "FEED" (.str "\n")) : FnG P w K mg base CX0 1 f fd P_headline (toSp K spHead) := by
  refine fnS F sc_headline v_headline l_headline g_headline (fun ds C k h => by obtain ⟨_, rfl, _⟩ := h; rfl) fun X hB ds C k h => ?_
  obtain ⟨e, rfl, hk, hm, h⟩ := h
  obtain ⟨hx, hn, hs, hg, hd, hnox⟩ := hB
  show WSs X _ [some (.tup [.str e.kind, .str e.msg, .tup (e.notes.map D.str), .tup e.rows, memD e.mem, lnkD e.link]), none, none, none, none] C _
  refine wss_cons ?_
  walk_at "pyS"
  refine wg_tupS (m := 3) (i := 2) hx.calm rfl rfl (by decide) (Nat.le_of_ble_eq_true rfl) fun q hq => ?_
  show WGs X _ [.str e.kind, .str e.msg, .own q] _ _ _
  walk_at "pyS"
  refine ⟨e.msg, "\n", rfl, rfl, by decide +kernel, Nat.le_trans (by omega : _ ≤ 2000000) (by decide), fun p hp => ?_⟩
  obtain ⟨y, rest, hsp, hyl⟩ := split_hd e.msg
  have hhd : (Txt.split e.msg "\n").headD "" = y := by rw [hsp]; rfl
  rw [hsp]
  walk_at "pyS"
  refine ix_p (d := .str y) (at_nat (i := 0) rfl) ?_
  show WSs X _ _ _ _
  walk_at "pyS"
  refine eq_sS ?_
  walk_at "pyS"
  · rename_i hq2
    refine ⟨C, (Sub.new (Sub.refl C) hq).trans (Sub.new (Sub.refl _) hp), ?_⟩
    rw [show headS e.kind e.msg = e.kind from if_pos hq2] at h
    exact h
  · rename_i hq2
    have l1 : (Str.empty ++ e.kind).length ≤ 1000 := by rw [slen_app]; exact Nat.le_trans (by rw [show Str.empty.length = 0 from rfl]; omega) hk
    have l2 : (Str.empty ++ e.kind ++ ": ").length ≤ 1002 := by rw [slen_app, show ((": " : Str)).length = 2 by decide +kernel]; omega
    have l3 : (Str.empty ++ e.kind ++ ": " ++ y).length ≤ 1001002 := by rw [slen_app]; omega
    refine .inl ⟨_, rfl, Nat.le_trans hk (by decide), _, rfl, Nat.le_trans l1 (by decide), ?_⟩
    walk_at "pyS"
    refine ⟨_, rfl, Nat.le_trans l2 (by decide), ?_⟩
    walk_at "pyS"
    refine .inl ⟨_, rfl, Nat.le_trans hyl (Nat.le_trans hm (by decide)), _, rfl, Nat.le_trans l3 (by decide), ?_⟩
    walk_at "pyS"
    refine ⟨C, (Sub.new (Sub.refl C) hq).trans (Sub.new (Sub.refl _) hp), ?_⟩
    rw [show headS e.kind e.msg = Str.empty ++ e.kind ++ ": " ++ y by rw [show headS e.kind e.msg = e.kind ++ ": " ++ (Txt.split e.msg "\n").headD "" from if_neg (by rw [hq2]; simp), hhd, emp_app]] at h
    exact h
end
end K31
namespace K31
/-! walks over entries -/
structure Lim where
  w : Option Nat := none
  d : Option Nat := none
  c : Option Nat := none
def limD : Option Nat → D
  | none => .non
  | some n => .int (n : Nat)
def over (o : Option Nat) (n : Nat) : Bool := match o with
  | none => false
  | some m => decide (m ≤ n)
abbrev WSt := List Nat × List D
def allF (M : Nat → WSt → Option (Nat × WSt)) : List Nat → WSt → Option (List Nat × WSt)
  | [], s => some ([], s)
  | x :: xs, s => (M x s).bind fun r => (allF M xs r.2).bind fun rs => some (r.1 :: rs.1, rs.2)
def cutN (o : Option Nat) (ns : List Nat) : List Nat := match o with
  | none => ns
  | some n => ns.take n
def moreM (rs : List Nat) (many : Int) : Mem := if 0 < many then .some rs (some many) else .some rs none
def memF (L : Lim) (dep : Nat) (M : Nat → WSt → Option (Nat × WSt)) (m : Mem) (s : WSt) : Option (Mem × WSt) := match m with
  | .non => some (.non, s)
  | m => if m.nums = [] ∨ over L.d dep = true then some (.deep (m.nums.length + goneM m), s)
    else (allF M (cutN L.w m.nums) s).bind fun r => some (moreM r.1 (m.nums.length - (cutN L.w m.nums).length + goneM m), r.2)
def lnkF (L : Lim) (dis : Nat) (M : Nat → WSt → Option (Nat × WSt)) (l : Option (Str × Option Nat)) (s : WSt) : Option (Option (Str × Option Nat) × WSt) := match l with
  | none => some (none, s)
  | some (w, none) => some (some (w, none), s)
  | some (w, some x) => if over L.c dis = true then some (some (w, none), s) else (M x s).bind fun r => some (some (w, some r.1), r.2)
/-- an entry is met -/
def meetF (L : Lim) (E : List Ent) : Nat → Nat → Nat → Nat → WSt → Option (Nat × WSt)
  | 0, _, _, _, _ => none
  | n + 1, key, dep, dis, s => if key ∈ s.1 then some (s.1.idxOf key, s) else (E[key]?).bind fun e =>
    (memF L dep (fun x s => meetF L E n x (dep + 1) 0 s) e.mem (s.1 ++ [key], s.2 ++ [.non])).bind fun m =>
    (lnkF L dis (fun x s => meetF L E n x dep (dis + 1) s) e.link m.2).bind fun l =>
    some (s.2.length, (l.2.1, l.2.2.set s.2.length (entD { e with mem := m.1, link := l.1 })))
/-! the numbers as a dict -/
def numFrom (i : Nat) : List Nat → List (Key × D)
  | [] => []
  | k :: ks => (Sum.inl (k : Int), .int (i : Nat)) :: numFrom (i + 1) ks
abbrev numD (ks : List Nat) : List (Key × D) := numFrom 0 ks
theorem numF_len : ∀ (ks : List Nat) (i : Nat), (numFrom i ks).length = ks.length
  | [], _ => rfl
  | k :: ks, i => by simp [numFrom, numF_len ks]
theorem num_val (x : Nat) : ∀ (ks : List Nat) (i : Nat), valD (numFrom i ks) (Sum.inl (x : Int)) = if x ∈ ks then some (.int ((i + ks.idxOf x : Nat) : Int)) else none
  | [], i => rfl
  | k :: ks, i => by
    have ih := num_val x ks (i + 1)
    unfold valD at ih ⊢
    rw [numFrom, List.find?_cons]
    by_cases h : k = x
    · subst h; simp
    · have h' : ¬ ((Sum.inl (k : Int) : Key) = Sum.inl (x : Int)) := fun e => h (by have := Sum.inl.inj e; omega)
      have h2 : ¬ x = k := fun e => h e.symm
      simp only [h', decide_false]
      rw [ih]
      by_cases hm : x ∈ ks
      · rw [if_pos hm, if_pos (List.mem_cons_of_mem _ hm), List.idxOf_cons, beq_eq_false_iff_ne.mpr h, cond_false]
        congr 2; omega
      · rw [if_neg hm, if_neg (by simp [h2, hm])]
theorem num_app (x : Nat) : ∀ (ks : List Nat) (i : Nat), numFrom i ks ++ [(Sum.inl (x : Int), .int ((i + ks.length : Nat) : Int))] = numFrom i (ks ++ [x])
  | [], i => rfl
  | k :: ks, i => by
    rw [numFrom, List.cons_append, List.cons_append, numFrom, ← num_app x ks (i + 1), List.length_cons, show i + 1 + ks.length = i + (ks.length + 1) by omega]
theorem num_any (x : Nat) : ∀ (ks : List Nat) (i : Nat), x ∉ ks → ((numFrom i ks).any fun kv => decide (kv.1 = Sum.inl (x : Int))) = false
  | [], _, _ => rfl
  | k :: ks, i, h => by
    have h' : ¬ ((Sum.inl (k : Int) : Key) = Sum.inl (x : Int)) := fun e => h (by have := Sum.inl.inj e; simp; omega)
    rw [numFrom, List.any_cons, num_any x ks (i + 1) fun z => h (List.mem_cons_of_mem _ z)]
    simp [h']
theorem num_put {x : Nat} {ks : List Nat} (h : x ∉ ks) : putD (numD ks) (Sum.inl (x : Int)) (.int (ks.length : Nat)) = numD (ks ++ [x]) := by
  unfold putD
  rw [num_any x ks 0 h, if_neg (by simp)]
  have := num_app x ks 0
  rw [Nat.zero_add] at this
  exact this
/-! the walk as an object -/
abbrev wkKs : List Str := ["old", "most_members", "most_depth", "most_links", "numbers", "found"]
def OldIs (C : CS) (old : D) (E : List Ent) : Prop := old = .tup (E.map entD) ∨ old = .lst (E.map entD) ∨ ∃ o, old = .own o ∧ C o = some (.lst (E.map entD))
structure Wk (Cl p a f : Addr) (old : D) (L : Lim) (E : List Ent) (s : WSt) (C : CS) : Prop where
  ho : C p = some (.ins Cl wkKs [old, limD L.w, limD L.d, limD L.c, .own a, .own f])
  ha : C a = some (.dic (numD s.1))
  hf : C f = some (.lst s.2)
  hl : s.2.length = s.1.length
  nd : s.1.Nodup
  lt : ∀ x ∈ s.1, x < E.length
  olds : OldIs C old E
  onf : old ≠ .own f
  el : E.length ≤ 1000
  en : ∀ e ∈ E, e.mem.nums.length ≤ 1000
section
variable {Cl p a f q : Addr} {old : D} {L : Lim} {E : List Ent} {s : WSt} {C C' : CS} {k : KD}
theorem Wk.pa (h : Wk Cl p a f old L E s C) : p ≠ a := fun e => by have := h.ho; rw [e, h.ha] at this; cases this
theorem Wk.pf (h : Wk Cl p a f old L E s C) : p ≠ f := fun e => by have := h.ho; rw [e, h.hf] at this; cases this
theorem Wk.af (h : Wk Cl p a f old L E s C) : a ≠ f := fun e => by have := h.ha; rw [e, h.hf] at this; cases this
theorem Wk.ins (h : Wk Cl p a f old L E s C) : insD C (.own p) = some (Cl, wkKs, [old, limD L.w, limD L.d, limD L.c, .own a, .own f]) := insD_own h.ho
theorem OldIs.fx {bs : List Addr} (h : OldIs C old E) (hf : Fx bs C C') (ho : ∀ o, old = .own o → o ∉ bs) : OldIs C' old E := by
  rcases h with h | h | ⟨o, h1, h2⟩
  · exact .inl h
  · exact .inr (.inl h)
  · exact .inr (.inr ⟨o, h1, hf.at (ho o h1) h2⟩)
theorem Wk.oa (h : Wk Cl p a f old L E s C) (o : Addr) (e : old = .own o) : o ∉ [a, f] := fun hm => by
  rcases h.olds with h1 | h1 | ⟨o', h1, h2⟩
  · rw [e] at h1; cases h1
  · rw [e] at h1; cases h1
  · rw [e] at h1; cases h1
    simp only [List.mem_cons, List.not_mem_nil, or_false] at hm
    rcases hm with rfl | rfl
    · rw [h.ha] at h2; cases h2
    · exact h.onf e
theorem Wk.nw (h : Wk Cl p a f old L E s C) {c : Cell} (hq : C q = none) : Wk Cl p a f old L E s (DL.put C q c) := by
  have fx : Fx [] C (DL.put C q c) := (Fx.refl C).put (.inr hq)
  exact ⟨fx.at (by simp) h.ho, fx.at (by simp) h.ha, fx.at (by simp) h.hf, h.hl, h.nd, h.lt, h.olds.fx fx (fun _ _ => by simp), h.onf, h.el, h.en⟩
theorem Wk.ksl (h : Wk Cl p a f old L E s C) : s.1.length ≤ E.length := by
  have := nodup_sub s.1 (List.range E.length) h.nd fun x hx => List.mem_range.mpr (h.lt x hx)
  rwa [List.length_range] at this
theorem old_ix {i : Nat} {e : Ent} (h : OldIs C old E) (he : E[i]? = some e) (q : k (entD e) C) : dIx old (.int (i : Nat)) C k := by
  have hx : atI (E.map entD) (i : Nat) = some (entD e) := at_nat (by rw [List.getElem?_map, he]; rfl)
  rcases h with rfl | rfl | ⟨o, rfl, h2⟩
  · exact ix_t hx q
  · exact ix_f hx q
  · exact ix_o h2 hx q
end
/-- what the text says of the class -/
structure Twc (K : PySem.W.Frag) (Cl : Addr) : Prop where
  f1 : FldC K Cl "old"
  f2 : FldC K Cl "most_members"
  f3 : FldC K Cl "most_depth"
  f4 : FldC K Cl "most_links"
  f5 : FldC K Cl "numbers"
  f6 : FldC K Cl "found"
section
variable {P : Program} {w : World} {K : PySem.W.Frag} {mg : Str → Option Value} {base : Heap} {Cl : Addr}
def spWInit (Cl : Addr) : DSp := fun ds C k => ∃ p old L E, ds = [.own p, old, limD L.w, limD L.d, limD L.c] ∧ C p = some (.ins Cl [] []) ∧ OldIs C old E ∧ E.length ≤ 1000 ∧ (∀ e ∈ E, e.mem.nums.length ≤ 1000) ∧
  ∀ C' a f, Wk Cl p a f old L E ([], []) C' → Fx [p] C C' → C a = none → C f = none → k .non C'
theorem fp_app {f : Str} {d : D} : ∀ {ks : List Str} {xs : List D}, ks.length = xs.length → f ∉ ks → FPut f d ks xs (ks ++ [f]) (xs ++ [d])
  | [], [], _, _ => .nil
  | g :: ks, x :: xs, hl, h => .there (beq_eq_false_iff_ne.mpr fun e => h (by simp [e])) (fp_app (by simpa using hl) fun z => h (by simp [z]))
  | [], _ :: _, hl, _ => by simp at hl
  | _ :: _, [], hl, _ => by simp at hl
theorem wInit_end {p a f' : Addr} {C : CS} {old : D} {L : Lim} {E : List Ent} (hp : C p = some (.ins Cl [] [])) (ha0 : C a = none) (hf : C f' = none) (hpa : p ≠ a) (hpf : p ≠ f') (haf : a ≠ f') (hold : OldIs C old E) (hel : E.length ≤ 1000) (hen : ∀ e ∈ E, e.mem.nums.length ≤ 1000) (c1 c3 : Cell) :
    Wk Cl p a f' old L E ([], []) (DL.put (DL.put (DL.put (DL.put (DL.put C p c1) a (.dic [])) p c3) f' (.lst [])) p (.ins Cl wkKs [old, limD L.w, limD L.d, limD L.c, .own a, .own f'])) ∧
    Fx [p] C (DL.put (DL.put (DL.put (DL.put (DL.put C p c1) a (.dic [])) p c3) f' (.lst [])) p (.ins Cl wkKs [old, limD L.w, limD L.d, limD L.c, .own a, .own f'])) := by
  have F : Fx [p] C (DL.put (DL.put (DL.put (DL.put (DL.put C p c1) a (.dic [])) p c3) f' (.lst [])) p (.ins Cl wkKs [old, limD L.w, limD L.d, limD L.c, .own a, .own f'])) :=
    (((((Fx.refl C).put (.inl (by simp))).put (.inr ha0)).put (.inl (by simp))).put (.inr hf)).put (.inl (by simp))
  refine ⟨⟨put_same, ?_, ?_, rfl, List.nodup_nil, fun _ hx => by simp at hx, hold.fx F fun o e => ?_, fun e => ?_, hel, hen⟩, F⟩
  · rw [put_ne hpa.symm, put_ne haf, put_ne hpa.symm]; exact put_same
  · rw [put_ne hpf.symm]; exact put_same
  · rcases hold with h1 | h1 | ⟨o', h1, h2⟩
    · rw [e] at h1; cases h1
    · rw [e] at h1; cases h1
    · rw [e] at h1; cases h1
      intro z
      rw [List.mem_singleton.mp z, hp] at h2; cases h2
  · rcases hold with h1 | h1 | ⟨o', h1, h2⟩
    · rw [e] at h1; cases h1
    · rw [e] at h1; cases h1
    · rw [e] at h1; cases h1
      rw [hf] at h2; cases h2
theorem ok_wInit {f : Addr} {fd : FuncData} (F : Fun K "__init__" "Walk.__init__" s_Walk___init__ f fd) (T : Twc K Cl) : FnG P w K mg base CX0 1 f fd P_Walk___init__ (toSp K (spWInit Cl)) := by
  refine fnX F sc_Walk___init__ v_Walk___init__ l_Walk___init__ g_Walk___init__ (fun ds C k h => by obtain ⟨_, _, _, _, rfl, _⟩ := h; rfl) fun X hB ds C k h => ?_
  obtain ⟨p, old, L, E, rfl, hp, hold, hel, hen, h⟩ := h
  obtain ⟨hx, hn, hs, hg, hd, hnox⟩ := hB
  change WSs X _ [some (.own p), some old, some (limD L.w), some (limD L.d), some (limD L.c)] C _
  refine wss_cons ?_
  walk_at "pyC"
  refine ⟨p, Cl, [], [], _, _, rfl, hp, T.f1, by decide, fp_app rfl (by decide), ?_⟩
  walk_at "pyC"
  refine ⟨p, Cl, _, _, _, _, rfl, put_same, T.f2, by decide, fp_app rfl (by decide +kernel), ?_⟩
  rw [put_put]
  walk_at "pyC"
  refine ⟨p, Cl, _, _, _, _, rfl, put_same, T.f3, by decide, fp_app rfl (by decide +kernel), ?_⟩
  rw [put_put]
  walk_at "pyC"
  refine ⟨p, Cl, _, _, _, _, rfl, put_same, T.f4, by decide, fp_app rfl (by decide +kernel), ?_⟩
  rw [put_put]
  walk_at "pyC"
  intro a ha
  have hpa : p ≠ a := fun e => by rw [e, put_same] at ha; cases ha
  have ha0 : C a = none := by rw [put_ne hpa.symm] at ha; exact ha
  walk_at "pyC"
  refine ⟨p, Cl, _, _, _, _, rfl, by rw [put_ne hpa]; exact put_same, T.f5, by decide, fp_app rfl (by decide +kernel), ?_⟩
  walk_at "pyC"
  refine we_nil fun f' hf => ?_
  have hpf : p ≠ f' := fun e => by rw [e, put_same] at hf; cases hf
  rw [put_ne hpf.symm] at hf
  have haf : a ≠ f' := fun e => by rw [e, put_same] at hf; cases hf
  rw [put_ne haf.symm, put_ne hpf.symm] at hf
  walk_at "pyC"
  refine ⟨p, Cl, _, _, _, _, rfl, by rw [put_ne hpf]; exact put_same, T.f6, by decide, fp_app rfl (by decide +kernel), ?_⟩
  walk_at "pyC"
  have z := wInit_end (L := L) hp ha0 hf hpa hpf haf hold hel hen
  exact h _ a f' (z _ _).1 (z _ _).2 ha0 hf
end
end K31
namespace K31
section
variable {P : Program} {w : World} {K : PySem.W.Frag} {mg : Str → Option Value} {base : Heap} {Cl : Addr}
/-- an entry is met, n deep -/
def spMeet (Cl : Addr) (n : Nat) : DSp := fun ds C k => ∃ (p a f : Addr) (old : D) (L : Lim) (E : List Ent) (s : WSt) (key dep dis : Nat), ds = [.own p, .int (key : Nat), .int (dep : Nat), .int (dis : Nat)] ∧ Wk Cl p a f old L E s C ∧ ∃ r s', meetF L E n key dep dis s = some (r, s') ∧
  ∀ C', Wk Cl p a f old L E s' C' → Fx [a, f] C C' → k (.int (r : Nat)) C'
def spMLink (Cl : Addr) (n : Nat) : DSp := fun ds C k => ∃ (p a f : Addr) (old : D) (L : Lim) (E : List Ent) (s : WSt) (l : Option (Str × Option Nat)) (dep dis : Nat), ds = [.own p, lnkD l, .int (dep : Nat), .int (dis : Nat)] ∧ Wk Cl p a f old L E s C ∧
  ∃ r s', lnkF L dis (fun x s => meetF L E n x dep (dis + 1) s) l s = some (r, s') ∧ ∀ C', Wk Cl p a f old L E s' C' → Fx [a, f] C C' → k (lnkD r) C'
def spMMem (Cl : Addr) (n : Nat) : DSp := fun ds C k => ∃ (p a f : Addr) (old : D) (L : Lim) (E : List Ent) (s : WSt) (m : Mem) (dep : Nat), ds = [.own p, memD m, .int (dep : Nat)] ∧ Wk Cl p a f old L E s C ∧ m.nums.length ≤ 1000 ∧
  ∃ r s', memF L dep (fun x s => meetF L E n x (dep + 1) 0 s) m s = some (r, s') ∧ ∀ C', Wk Cl p a f old L E s' C' → Fx [a, f] C C' → k (memD r) C'
theorem ok_meet0 {f : Addr} {fd : FuncData} {ps : List Str} {n : Nat} : FnG P w K mg base CX0 n f fd ps (toSp K (spMeet Cl 0)) := fnG_no fun ds C k h => by
  obtain ⟨_, _, _, _, _, _, _, _, _, _, _, _, _, _, hm, _⟩ := h
  cases hm
theorem ok_mLink {f : Addr} {fd : FuncData} (n : Nat) (F : Fun K "met_link" "Walk.met_link" s_Walk_met_link f fd) (T : Twc K Cl) (h1 : MthC P w K mg base Cl "meet" (2 * n + 2) [] (spMeet Cl n)) : FnG P w K mg base CX0 (2 * n + 3) f fd P_Walk_met_link (toSp K (spMLink Cl n)) := by
  refine fnX F sc_Walk_met_link v_Walk_met_link l_Walk_met_link g_Walk_met_link (fun ds C k h => by obtain ⟨_, _, _, _, _, _, _, _, _, _, rfl, _⟩ := h; rfl) fun X hB ds C k h => ?_
  obtain ⟨p, a, f', old, L, E, s, l, dep, dis, rfl, hW, r, s', hr, h⟩ := h
  obtain ⟨hx, hn, hs, hg, hd, hnox⟩ := hB
  have hI := hW.ins
  have tf := T.f4
  rcases l with _ | ⟨wd, _ | x⟩
  · show WSs X _ [some (.own p), some .non, some (.int dep), some (.int dis), none, none] C _
    cases hr
    refine wss_cons ?_
    walk_at "pyC"
    all_goals try walk_at "bad"
    exact h C hW (Fx.refl C)
  · show WSs X _ [some (.own p), some (.tup [.str wd, .non]), some (.int dep), some (.int dis), none, none] C _
    cases hr
    refine wss_cons ?_
    walk_at "pyC"
    all_goals try walk_at "bad"
    exact h C hW (Fx.refl C)
  · show WSs X _ [some (.own p), some (.tup [.str wd, .int x]), some (.int dep), some (.int dis), none, none] C _
    unfold lnkF at hr
    simp only at hr
    cases hc : L.c with
    | none =>
      rw [hc] at hI hr
      have hI : insD C (.own p) = some (Cl, wkKs, [old, limD L.w, limD L.d, .non, .own a, .own f']) := hI
      rw [if_neg (by simp [over])] at hr
      refine wss_cons ?_
      walk_at "pyC"
      all_goals try walk_at "bad"
      refine x_meth hx h1 ?_ (by omega)
      walk_at "pyC"
      refine ⟨⟨_, _, hI, by decide +kernel⟩, ?_⟩
      walk_at "pyC"
      cases hm : meetF L E n x dep (dis + 1) s with
      | none => rw [hm] at hr; cases hr
      | some v =>
        rw [hm] at hr
        cases hr
        refine ⟨p, a, f', old, L, E, s, x, dep, dis + 1, rfl, hW, v.1, v.2, hm, fun C' hW' hF => ?_⟩
        walk_at "pyC"
        exact h C' hW' hF
    | some c =>
      rw [hc] at hI hr
      have hI : insD C (.own p) = some (Cl, wkKs, [old, limD L.w, limD L.d, .int c, .own a, .own f']) := hI
      refine wss_cons ?_
      walk_at "pyC"
      all_goals try walk_at "bad"
      · rename_i hq
        rw [if_pos (show over (some c) dis = true from decide_eq_true (by have := of_decide_eq_true hq; omega))] at hr
        cases hr
        exact h C hW (Fx.refl C)
      · rename_i hq
        have ho : over (some c) dis = false := decide_eq_false (by have := of_decide_eq_false hq; omega)
        rw [if_neg (by rw [ho]; simp)] at hr
        refine x_meth hx h1 ?_ (by omega)
        walk_at "pyC"
        refine ⟨⟨_, _, hI, by decide +kernel⟩, ?_⟩
        walk_at "pyC"
        cases hm : meetF L E n x dep (dis + 1) s with
        | none => rw [hm] at hr; cases hr
        | some v =>
          rw [hm] at hr
          cases hr
          refine ⟨p, a, f', old, L, E, s, x, dep, dis + 1, rfl, hW, v.1, v.2, hm, fun C' hW' hF => ?_⟩
          walk_at "pyC"
          exact h C' hW' hF
end
end K31
namespace K31
theorem cut_take (ns : List Nat) (n : Nat) : cutD (intsD ns) none (some (n : Int)) = intsD (ns.take n) := by
  unfold cutD
  have e1 : HT.sIx (intsD ns).length 0 none = 0 := rfl
  rw [e1, sIx_nat', List.drop_zero, Nat.sub_zero, ints_len]
  unfold intsD
  rw [List.map_take]
  rcases Nat.le_total n ns.length with h | h
  · rw [Nat.min_eq_left h]
  · rw [Nat.min_eq_right h, List.take_of_length_le (by simp), List.take_of_length_le (by simpa using h)]
theorem ints_fit (ns : List Nat) : ∀ d ∈ intsD ns, d.fit 0 = true := fun d hd => by
  obtain ⟨x, _, rfl⟩ := List.mem_map.mp hd
  rfl
theorem ints_nil (ns : List Nat) : eqL (intsD ns) [] = decide (ns = []) := by
  cases ns <;> rfl
theorem ints_at {ns : List Nat} {j : Nat} {d : D} (h : (intsD ns)[j]? = some d) : ∃ x, ns.drop j = x :: ns.drop (j + 1) ∧ d = .int (x : Nat) := by
  unfold intsD at h
  rw [List.getElem?_map] at h
  cases e : ns[j]? with
  | none => rw [e] at h; cases h
  | some x =>
    rw [e] at h
    cases h
    obtain ⟨hj, hx⟩ := List.getElem?_eq_some_iff.mp e
    exact ⟨x, by rw [← hx]; exact List.drop_eq_getElem_cons hj, rfl⟩
theorem cutN_len (o : Option Nat) (ns : List Nat) : (cutN o ns).length ≤ ns.length := by
  cases o with
  | none => exact Nat.le_refl _
  | some n => exact List.length_take_le' ..
section
variable {P : Program} {w : World} {K : PySem.W.Frag} {mg : Str → Option Value} {base : Heap} {Cl : Addr}
theorem ok_mMem {f : Addr} {fd : FuncData} (n : Nat) (F : Fun K "met_members" "Walk.met_members" s_Walk_met_members f fd) (T : Twc K Cl) (Z : Zs mg) (h1 : MthC P w K mg base Cl "meet" (2 * n + 2) [] (spMeet Cl n)) (h2 : FnC P w K mg base "numbers_in" 1 spNums) (h3 : FnC P w K mg base "left_out" 1 spGone)
    (g1 : MgK K mg "DEEP" (.str "deep")) (g2 : MgK K mg "MORE" (.str "more")) : FnG P w K mg base CX0 (2 * n + 3) f fd P_Walk_met_members (toSp K (spMMem Cl n)) := by
  refine fnX F sc_Walk_met_members v_Walk_met_members l_Walk_met_members g_Walk_met_members (fun ds C k h => by obtain ⟨_, _, _, _, _, _, _, _, _, rfl, _⟩ := h; rfl) fun X hB ds C k h => ?_
  obtain ⟨p, a, f', old, L, E, s, m, dep, rfl, hW, hml, r, s', hr, h⟩ := h
  obtain ⟨hx, hn, hs, hg, hd, hnox⟩ := hB
  have hI := hW.ins
  by_cases hm : m = .non
  · subst hm
    cases hr
    show WSs X _ [some (.own p), some .non, some (.int dep), none, none, none, none, none, none] C _
    refine wss_cons ?_
    walk_at "pyC"
    all_goals try walk_at "bad"
    exact h C hW (Fx.refl C)
  obtain ⟨T', e, hT⟩ := mem_tup hm
  have hr : (if m.nums = [] ∨ over L.d dep = true then some (Mem.deep (m.nums.length + goneM m), s)
    else (allF (fun x s => meetF L E n x (dep + 1) 0 s) (cutN L.w m.nums) s).bind fun r => some (moreM r.1 (m.nums.length - (cutN L.w m.nums).length + goneM m), r.2)) = some (r, s') := by
    cases m with
    | non => exact absurd rfl hm
    | deep n => exact hr
    | some ns mo => exact hr
  show WSs X _ [some (.own p), some (memD m), some (.int dep), none, none, none, none, none, none] C _
  rw [e]
  refine wss_cons ?_
  walk_at "py"
  all_goals try walk_at "bad"
  refine ⟨m, by rw [e], hm, hml, fun q hq => ?_⟩
  walk_at "py"
  refine ⟨m, by rw [e], hm, hml, ?_⟩
  refine wa_nil (ex_2 ?_)
  show WSs X _ _ _ _
  refine wss_frzI 6 rfl put_same ?_
  rw [del_put hq]
  simp only [List.set_cons_succ, List.set_cons_zero]
  have t2 := T.f2
  have t3 := T.f3
  have rest2 : m.nums ≠ [] → over L.d dep = false → ∀ o : Option D, WSh X ((defBody s_Walk_met_members).drop 4) [some (.own p), some (.tup (intsD m.nums ++ T')), some (.int dep), some (.lst (intsD (cutN L.w m.nums))), none, none, some (.lst (intsD m.nums)), some (.int (goneM m)), o] C { nx := fun _ C' => k .non C', rt := k } := by
    intro hne hov o
    rw [if_neg (by simp [hne, hov])] at hr
    cases ha : allF (fun x s => meetF L E n x (dep + 1) 0 s) (cutN L.w m.nums) s with
    | none => rw [ha] at hr; cases hr
    | some v =>
      rw [ha] at hr
      cases hr
      obtain ⟨R, sE⟩ := v
      refine wsh_go (wss_cons ?_)
      refine ws_lc1 (M0 := []) ["self", "depth", "key"] [] hd (by walk_at "nm") (by decide +kernel) (by walk_at "nm") (by decide +kernel) (by decide +kernel) (by decide +kernel) (by decide +kernel) ((sww_env hd.sc _ _ _).trans (by rfl)) (wi_ls ?_)
      walk_at "py"
      refine ⟨_, rfl, ?_⟩
      refine ⟨fun j acc C' => ∃ (rs rest : List Nat) (s1 : WSt), acc = intsD rs ∧ rs.length = j ∧ j ≤ (cutN L.w m.nums).length ∧ Wk Cl p a f' old L E s1 C' ∧ Fx [a, f'] C C' ∧ allF (fun x s => meetF L E n x (dep + 1) 0 s) ((cutN L.w m.nums).drop j) s1 = some (rest, sE) ∧ rs ++ rest = R,
        ⟨[], R, s, rfl, rfl, Nat.zero_le _, hW, Fx.refl C, ha, rfl⟩, fun _ _ _ _ a ha => (by cases ha), ?_, ?_⟩
      · rintro j d acc C2 hj ⟨rs, rest, s1, rfl, hrl, hjl, hW1, hF1, hA, hR⟩ X' hX hn' hg'
        obtain ⟨x, hdr, rfl⟩ := ints_at hj
        have hj2 := (List.getElem?_eq_some_iff.mp hj).1
        rw [ints_len] at hj2
        refine wif_nil ⟨fun _ X' hX hn' hg' => ?_, fun h => Bool.noConfusion h⟩
        have hx' := hx.blk hX
        rw [hdr] at hA
        simp only [allF] at hA
        cases hm1 : meetF L E n x (dep + 1) 0 s1 with
        | none => rw [hm1] at hA; cases hA
        | some v1 =>
          rw [hm1] at hA
          simp only [Option.bind_some] at hA
          cases hm2 : allF (fun x s => meetF L E n x (dep + 1) 0 s) ((cutN L.w m.nums).drop (j + 1)) v1.2 with
          | none => rw [hm2] at hA; cases hA
          | some v2 =>
            rw [hm2] at hA
            cases hA
            refine x_meth hx' h1 ?_ (by omega)
            walk_at "py"
            refine ⟨⟨_, _, hW1.ins, by decide +kernel⟩, ?_⟩
            walk_at "py"
            refine ⟨p, a, f', old, L, E, s1, x, dep + 1, 0, rfl, hW1, v1.1, v1.2, hm1, fun C3 hW3 hF3 => ?_⟩
            refine ⟨by rw [ints_len]; exact Nat.lt_of_lt_of_le (by have := cutN_len L.w m.nums; omega : rs.length < 1000) (by decide), rs ++ [v1.1], v2.1, v1.2, by simp [intsD], by rw [List.length_append, hrl]; rfl, by omega, hW3, hF1.trans hF3, hm2, by simpa using hR⟩
      · rintro acc C2 ⟨rs, rest, s1, rfl, hrl, hjl, hW1, hF1, hA, hR⟩ q2 hq2
        rw [ints_len, List.drop_length] at hA
        cases hA
        rw [List.append_nil] at hR
        subst hR
        refine wss_frzI 4 rfl put_same ?_
        rw [del_put hq2]
        simp only [List.set_cons_succ, List.set_cons_zero]
        have hk := h C2 hW1 hF1
        have hcl := cutN_len L.w m.nums
        rw [ints_len] at hrl
        walk_at "pyS"
        · rename_i hq3
          rw [ints_len, ints_len] at hq3
          unfold moreM at hk
          rw [if_pos (of_decide_eq_true hq3)] at hk
          refine ⟨_, rfl, ?_⟩
          have hsz : (intsD rs ++ [D.tup [D.str "more", D.int (((intsD m.nums).length : Nat) - ((intsD (cutN L.w m.nums)).length : Nat) + goneM m)]]).length ≤ sizeLine := by
            rw [List.length_append, ints_len]; exact Nat.le_trans (by simp only [List.length_cons, List.length_nil]; omega : _ ≤ 2000) (by decide)
          walk_at "pyS"
          rw [ints_len, ints_len]
          exact hk
        · rename_i hq3
          rw [ints_len, ints_len] at hq3
          unfold moreM at hk
          rw [if_neg (of_decide_eq_false hq3)] at hk
          exact hk
  have rest : m.nums ≠ [] → over L.d dep = false → WSh X ((defBody s_Walk_met_members).drop 3) [some (.own p), some (.tup (intsD m.nums ++ T')), some (.int dep), none, none, none, some (.lst (intsD m.nums)), some (.int (goneM m)), none] C { nx := fun _ C' => k .non C', rt := k } := by
    intro hne hov
    have r2 := rest2 hne hov none
    refine wsh_go (wss_consH ?_)
    cases hL : L.w with
    | none =>
      rw [hL] at hI r2
      have hI : insD C (.own p) = some (Cl, wkKs, [old, .non, limD L.d, limD L.c, .own a, .own f']) := hI
      walk_at "pyS"
      all_goals try walk_at "bad"
      exact r2
    | some c =>
      rw [hL] at hI r2
      have hI : insD C (.own p) = some (Cl, wkKs, [old, .int c, limD L.d, limD L.c, .own a, .own f']) := hI
      walk_at "pyS"
      all_goals try walk_at "bad"
      rw [cut_take]
      exact r2
  have hdp : (m.nums = [] ∨ over L.d dep = true) → k (.tup [.tup [.str "deep", .int (((intsD m.nums).length : Nat) + goneM m)]]) C := fun hc => by
    rw [if_pos hc] at hr
    cases hr
    rw [ints_len]
    exact h C hW (Fx.refl C)
  -- cut by depth
  refine wss_consH ?_
  walk_at "pyS"
  refine eq_ll (ints_fit _) (fun d hd => by simp at hd) (by decide) (by decide) (m := 0) ?_
  rw [ints_nil]
  cases hL : L.d with
  | none =>
    rw [hL] at hI
    have hI : insD C (.own p) = some (Cl, wkKs, [old, limD L.w, .non, limD L.c, .own a, .own f']) := hI
    walk_at "pyS"
    all_goals try walk_at "bad"
    · rename_i hq; exact hdp (.inl (of_decide_eq_true hq))
    · rename_i hq _; exact rest (of_decide_eq_false hq) (by rw [hL]; rfl)
  | some c =>
    rw [hL] at hI
    have hI : insD C (.own p) = some (Cl, wkKs, [old, limD L.w, .int c, limD L.c, .own a, .own f']) := hI
    walk_at "pyS"
    all_goals try walk_at "bad"
    · rename_i hq; exact hdp (.inl (of_decide_eq_true hq))
    · rename_i hq; exact hdp (.inr (by rw [hL]; exact decide_eq_true (by have := of_decide_eq_true hq; omega)))
    · rename_i hq0 _ hq; exact rest (of_decide_eq_false hq0) (by rw [hL]; exact decide_eq_false (by have := of_decide_eq_false hq; omega))
end
end K31
namespace K31
section
variable {P : Program} {w : World} {K : PySem.W.Frag} {mg : Str → Option Value} {base : Heap} {Cl : Addr}
def Ext (s s' : WSt) : Prop := ∃ t, s'.1 = s.1 ++ t
theorem Ext.refl (s : WSt) : Ext s s := ⟨[], by simp⟩
theorem Ext.trans {s s1 s2 : WSt} (h : Ext s s1) (h2 : Ext s1 s2) : Ext s s2 := by
  obtain ⟨t, e⟩ := h
  obtain ⟨t2, e2⟩ := h2
  exact ⟨t ++ t2, by rw [e2, e, List.append_assoc]⟩
theorem allF_ext {M : Nat → WSt → Option (Nat × WSt)} (hM : ∀ x s r s', M x s = some (r, s') → Ext s s') : ∀ {xs : List Nat} {s : WSt} {rs : List Nat} {s' : WSt}, allF M xs s = some (rs, s') → Ext s s'
  | [], s, rs, s', h => by cases h; exact Ext.refl _
  | x :: xs, s, rs, s', h => by
    simp only [allF] at h
    cases h1 : M x s with
    | none => rw [h1] at h; cases h
    | some v =>
      rw [h1] at h
      simp only [Option.bind_some] at h
      cases h2 : allF M xs v.2 with
      | none => rw [h2] at h; cases h
      | some v2 =>
        rw [h2] at h
        cases h
        exact (hM x s v.1 v.2 h1).trans (allF_ext hM h2)
theorem memF_ext {L : Lim} {dep : Nat} {M : Nat → WSt → Option (Nat × WSt)} (hM : ∀ x s r s', M x s = some (r, s') → Ext s s') {m : Mem} {s : WSt} {r : Mem × WSt} (h : memF L dep M m s = some r) : Ext s r.2 := by
  have key : ∀ m : Mem, (if m.nums = [] ∨ over L.d dep = true then some (Mem.deep (m.nums.length + goneM m), s)
    else (allF M (cutN L.w m.nums) s).bind fun r => some (moreM r.1 (m.nums.length - (cutN L.w m.nums).length + goneM m), r.2)) = some r → Ext s r.2 := by
    intro m h
    split at h
    · cases h; exact Ext.refl _
    · cases h1 : allF M (cutN L.w m.nums) s with
      | none => rw [h1] at h; cases h
      | some v =>
        rw [h1] at h
        cases h
        exact allF_ext hM h1
  cases m with
  | non => cases h; exact Ext.refl _
  | deep n => exact key (.deep n) h
  | some ns mo => exact key (.some ns mo) h
theorem lnkF_ext {L : Lim} {dis : Nat} {M : Nat → WSt → Option (Nat × WSt)} (hM : ∀ x s r s', M x s = some (r, s') → Ext s s') {l : Option (Str × Option Nat)} {s : WSt} {r : Option (Str × Option Nat) × WSt} (h : lnkF L dis M l s = some r) : Ext s r.2 := by
  rcases l with _ | ⟨wd, _ | x⟩
  · cases h; exact Ext.refl _
  · cases h; exact Ext.refl _
  · simp only [lnkF] at h
    split at h
    · cases h; exact Ext.refl _
    · cases h1 : M x s with
      | none => rw [h1] at h; cases h
      | some v =>
        rw [h1] at h
        cases h
        exact hM x s v.1 v.2 h1
theorem meetF_ext {L : Lim} {E : List Ent} : ∀ (n : Nat) {key dep dis : Nat} {s : WSt} {r : Nat} {s' : WSt}, meetF L E n key dep dis s = some (r, s') → Ext s s'
  | 0, _, _, _, _, _, _, h => by cases h
  | n + 1, key, dep, dis, s, r, s', h => by
    unfold meetF at h
    split at h
    · cases h; exact Ext.refl _
    · cases he : E[key]? with
      | none => rw [he] at h; cases h
      | some e =>
        rw [he] at h
        simp only [Option.bind_some] at h
        cases hm1 : memF L dep (fun x s => meetF L E n x (dep + 1) 0 s) e.mem (s.1 ++ [key], s.2 ++ [.non]) with
        | none => rw [hm1] at h; cases h
        | some m =>
          rw [hm1] at h
          simp only [Option.bind_some] at h
          cases hm2 : lnkF L dis (fun x s => meetF L E n x dep (dis + 1) s) e.link m.2 with
          | none => rw [hm2] at h; cases h
          | some l =>
            rw [hm2] at h
            simp only [Option.bind_some, Option.some.injEq, Prod.mk.injEq] at h
            obtain ⟨rfl, rfl⟩ := h
            obtain ⟨t1, e1⟩ := memF_ext (fun x s r s' h => meetF_ext n h) hm1
            obtain ⟨t2, e2⟩ := lnkF_ext (fun x s r s' h => meetF_ext n h) hm2
            exact ⟨key :: (t1 ++ t2), by rw [e2, e1]; simp⟩
theorem ok_meet {f : Addr} {fd : FuncData} (n : Nat) (F : Fun K "meet" "Walk.meet" s_Walk_meet f fd) (T : Twc K Cl) (Z : Zs mg) (h1 : MthC P w K mg base Cl "met_members" (2 * n + 3) [] (spMMem Cl n)) (h2 : MthC P w K mg base Cl "met_link" (2 * n + 3) [] (spMLink Cl n)) : FnG P w K mg base CX0 (2 * n + 4) f fd P_Walk_meet (toSp K (spMeet Cl (n + 1))) := by
  refine fnX F sc_Walk_meet v_Walk_meet l_Walk_meet g_Walk_meet (fun ds C k h => by obtain ⟨_, _, _, _, _, _, _, _, _, _, rfl, _⟩ := h; rfl) fun X hB ds C k h => ?_
  obtain ⟨p, a, f', old, L, E, s, key, dep, dis, rfl, hW, r, s', hr, h⟩ := h
  obtain ⟨hx, hn, hs, hg, hd, hnox⟩ := hB
  have hI := hW.ins
  have t1 := T.f1
  have t5 := T.f5
  have t6 := T.f6
  change WSs X _ [some (.own p), some (.int key), some (.int dep), some (.int dis), none, none, none, none, none, none, none, none, none] C _
  have hA := hW.ha
  have hF := hW.hf
  unfold meetF at hr
  refine wss_cons ?_
  by_cases hk : key ∈ s.1
  · rw [if_pos hk] at hr
    cases hr
    have hv : valD (numD s.1) (Sum.inl (key : Int)) = some (.int (s.1.idxOf key : Nat)) := by rw [num_val, if_pos hk, Nat.zero_add]
    walk_at "pyK"
    refine .inr ⟨_, _, Sum.inl (key : Int), rfl, rfl, hA, ?_⟩
    rw [hv]
    walk_at "pyK"
    all_goals try walk_at "bad"
    refine .inr ⟨_, _, Sum.inl (key : Int), _, rfl, rfl, hA, hv, ?_⟩
    exact h C hW (Fx.refl C)
  · rw [if_neg hk] at hr
    have hv : valD (numD s.1) (Sum.inl (key : Int)) = none := by rw [num_val, if_neg hk]
    cases he : E[key]? with
    | none => rw [he] at hr; cases hr
    | some e =>
    rw [he] at hr
    simp only [Option.bind_some] at hr
    cases hm1 : memF L dep (fun x s => meetF L E n x (dep + 1) 0 s) e.mem (s.1 ++ [key], s.2 ++ [.non]) with
    | none => rw [hm1] at hr; cases hr
    | some m =>
    rw [hm1] at hr
    simp only [Option.bind_some] at hr
    cases hm2 : lnkF L dis (fun x s => meetF L E n x dep (dis + 1) s) e.link m.2 with
    | none => rw [hm2] at hr; cases hr
    | some l =>
    rw [hm2] at hr
    simp only [Option.bind_some, Option.some.injEq, Prod.mk.injEq] at hr
    obtain ⟨rfl, rfl⟩ := hr
    obtain ⟨hkl, hke⟩ := List.getElem?_eq_some_iff.mp he
    walk_at "pyK"
    refine .inr ⟨_, _, Sum.inl (key : Int), rfl, rfl, hA, ?_⟩
    rw [hv]
    walk_at "pyK"
    all_goals try walk_at "bad"
    refine .inl (len_own hF ?_)
    walk_at "pyK"
    refine .inr ⟨_, _, Sum.inl (key : Int), rfl, rfl, hA, by rw [numF_len]; exact Nat.lt_of_le_of_lt (Nat.le_trans hW.ksl hW.el) (by decide), ?_⟩
    rw [hW.hl, num_put hk]
    have ho1 : (DL.put C a (.dic (numD (s.1 ++ [key])))) p = some (.ins Cl wkKs [old, limD L.w, limD L.d, limD L.c, .own a, .own f']) := by rw [put_ne hW.pa]; exact hW.ho
    have ha1 : (DL.put C a (.dic (numD (s.1 ++ [key])))) a = some (.dic (numD (s.1 ++ [key]))) := put_same
    have hf1 : (DL.put C a (.dic (numD (s.1 ++ [key])))) f' = some (.lst s.2) := by rw [put_ne hW.af.symm]; exact hW.hf
    have F1 : Fx [a, f'] C (DL.put C a (.dic (numD (s.1 ++ [key])))) := (Fx.refl C).put (.inl (by simp))
    generalize DL.put C a (.dic (numD (s.1 ++ [key]))) = C1 at ho1 ha1 hf1 F1 ⊢
    have hI1 := insD_own ho1
    have ol1 := hW.olds.fx F1 hW.oa
    walk_at "pyK"
    refine .inl (old_ix ol1 he ?_)
    show WG X _ (.tup [.str e.kind, .str e.msg, .tup (e.notes.map D.str), .tup e.rows, memD e.mem, lnkD e.link]) _ _ _
    walk_at "pyK"
    refine app_ok hf1 (by have := hW.hl; have := hW.ksl; have := hW.el; exact Nat.lt_of_le_of_lt (by omega : _ ≤ 1000) (by decide)) ?_
    have W2 : Wk Cl p a f' old L E (s.1 ++ [key], s.2 ++ [.non]) (DL.put C1 f' (.lst (s.2 ++ [.non]))) := by
      have F2 : Fx [a, f'] C (DL.put C1 f' (.lst (s.2 ++ [.non]))) := F1.put (.inl (by simp))
      refine ⟨by rw [put_ne hW.pf]; exact ho1, by rw [put_ne hW.af]; exact ha1, put_same, by simp [hW.hl], ?_, fun x hx => ?_, hW.olds.fx F2 hW.oa, hW.onf, hW.el, hW.en⟩
      · refine List.nodup_append.mpr ⟨hW.nd, by simp, fun x hx y hy e => ?_⟩
        rw [List.mem_singleton.mp hy] at e
        exact hk (e ▸ hx)
      · rcases List.mem_append.mp hx with hx | hx
        · exact hW.lt x hx
        · rw [List.mem_singleton.mp hx]; exact hkl
    have F2 : Fx [a, f'] C (DL.put C1 f' (.lst (s.2 ++ [.non]))) := F1.put (.inl (by simp))
    generalize DL.put C1 f' (.lst (s.2 ++ [.non])) = C2 at W2 F2 ⊢
    walk_at "pyK"
    refine x_meth hx h1 ?_ (by omega)
    walk_at "pyK"
    refine ⟨⟨_, _, W2.ins, by decide +kernel⟩, ?_⟩
    walk_at "pyK"
    refine ⟨p, a, f', old, L, E, _, e.mem, dep, rfl, W2, hW.en e (by rw [← hke]; exact List.getElem_mem hkl), m.1, m.2, hm1, fun C3 W3 F3 => ?_⟩
    walk_at "pyK"
    refine x_meth hx h2 ?_ (by omega)
    walk_at "pyK"
    refine ⟨⟨_, _, W3.ins, by decide +kernel⟩, ?_⟩
    walk_at "pyK"
    refine ⟨p, a, f', old, L, E, _, e.link, dep, dis, rfl, W3, l.1, l.2, hm2, fun C4 W4 F4 => ?_⟩
    have hI4 := W4.ins
    walk_at "pyK"
    -- the keys that were met
    obtain ⟨t1', e1⟩ := memF_ext (fun x s r s' h => meetF_ext n h) hm1
    obtain ⟨t2', e2⟩ := lnkF_ext (fun x s r s' h => meetF_ext n h) hm2
    have e3 : l.2.1 = s.1 ++ key :: (t1' ++ t2') := by rw [e2, e1]; simp
    have hlen : s.2.length < l.2.2.length := by rw [W4.hl, hW.hl, e3, List.length_append, List.length_cons]; omega
    have hix : l.2.1.idxOf key = s.2.length := by rw [e3, List.idxOf_append, if_neg hk, hW.hl]; simp
    have hmem : key ∈ l.2.1 := by rw [e3]; simp
    rw [hW.hl] at hlen hix
    refine .inl ⟨f', _, _, s.1.length, rfl, rfl, W4.hf, by unfold ixN; rw [if_pos (by omega), if_pos (by omega)]; simp, ?_⟩
    have W5 : Wk Cl p a f' old L E (l.2.1, l.2.2.set s.1.length (entD { e with mem := m.1, link := l.1 })) (DL.put C4 f' (.lst (l.2.2.set s.1.length (entD { e with mem := m.1, link := l.1 })))) := by
      have F5 : Fx [a, f'] C4 (DL.put C4 f' (.lst (l.2.2.set s.1.length (entD { e with mem := m.1, link := l.1 })))) := (Fx.refl C4).put (.inl (by simp))
      exact ⟨by rw [put_ne W4.pf]; exact W4.ho, by rw [put_ne W4.af]; exact W4.ha, put_same, by simp [W4.hl], W4.nd, W4.lt, W4.olds.fx F5 W4.oa, W4.onf, W4.el, W4.en⟩
    have F5 : Fx [a, f'] C (DL.put C4 f' (.lst (l.2.2.set s.1.length (entD { e with mem := m.1, link := l.1 })))) := ((F2.trans F3).trans F4).put (.inl (by simp))
    rw [hW.hl] at h
    have hv5 : valD (numD l.2.1) (Sum.inl (key : Int)) = some (.int (s.1.length : Nat)) := by rw [num_val, if_pos hmem, hix, Nat.zero_add]
    have hk5 := h _ W5 F5
    change WSs X _ _ (DL.put C4 f' (.lst (l.2.2.set s.1.length (entD { e with mem := m.1, link := l.1 })))) _
    generalize DL.put C4 f' (.lst (l.2.2.set s.1.length (entD { e with mem := m.1, link := l.1 }))) = C5 at W5 hk5 ⊢
    have hI5 := W5.ins
    have ha5 := W5.ha
    walk_at "pyK"
    refine .inr ⟨_, _, Sum.inl (key : Int), _, rfl, rfl, ha5, hv5, ?_⟩
    exact hk5
end
end K31
namespace K31
section
variable {C : CS} {k : KD} {x : D} {E : List Ent}
theorem OldIs.seqA (h : OldIs C x E) : DL.seqA C x = some (E.map entD) := by
  rcases h with rfl | rfl | ⟨o, rfl, h2⟩
  · rfl
  · rfl
  · exact seqR_own h2
theorem OldIs.isi (h : OldIs C x E) (q : k (.bl true) C) : dIsiT [x, .tup [.opq (.ty "list"), .opq (.ty "tuple")]] C k := by
  rcases h with rfl | rfl | ⟨o, rfl, h2⟩
  · exact isi_ltT rfl rfl q
  · exact isi_ltT rfl rfl q
  · exact isi_ownLT h2 q
theorem OldIs.len (h : OldIs C x E) (q : k (.int (E.length : Nat)) C) : dLen [x] C k := by
  have e : ((E.map entD).length : Int) = (E.length : Nat) := by rw [List.length_map]
  rcases h with rfl | rfl | ⟨o, rfl, h2⟩
  · exact len_tup (by rw [e]; exact q)
  · exact len_fr (by rw [e]; exact q)
  · exact len_own h2 (by rw [e]; exact q)
theorem OldIs.list (h : OldIs C x E) (q : k (.lst (E.map entD)) C) : dList [x] C (FrzA k) := by
  rcases h with rfl | rfl | ⟨o, rfl, h2⟩
  · exact listA_t q
  · exact listA_l q
  · exact listA_o h2 q
end
theorem wi_enumO {X : Cx} {a : Expr} {env : DEnv} {C : CS} {kI : KI} {ts : List Expr} {n : Nat} {tpos p pos : Pos} (hm : X.mg "enumerate" = none) (hg : Gl X "enumerate") (h : WA X [a] env C fun ds C1 => ∃ x E, ds = [x] ∧ OldIs C1 x E ∧ ∀ Pc : CS → Prop, Pc C1 → kI (enumD (E.map entD)) Pc C1)
    (hs : starEach [a] X.env = [(false, eval a X.env)] := by rfl) : WI X (.Tuple ts n tpos) (.Call (.Name "enumerate" p) [a] [] pos) env C kI := by
  refine wi_enum hm hg (h.imp ?_) hs
  rintro ds C1 ⟨x, E, rfl, hE, hk⟩
  rcases hE with rfl | rfl | ⟨o, rfl, h2⟩
  · exact ⟨_, _, rfl, .inr ⟨rfl, hk _ trivial⟩⟩
  · exact ⟨_, _, rfl, .inl ⟨rfl, hk _ fun a ha => by cases ha⟩⟩
  · exact ⟨_, _, rfl, .inl ⟨seqR_own h2, hk _ fun a ha => by cases ha; exact h2⟩⟩
theorem Fx.via {bs bs' : List Addr} {C C1 C2 : CS} (h2 : Fx bs' C1 C2) (h : Fx bs C C1) (hb : ∀ q ∈ bs', q ∈ bs ∨ C q = none) : Fx bs C C2 := fun q x y => by
  have e := h q x y
  rw [h2 q (fun z => (hb q z).elim x y) (by rw [e]; exact y), e]
theorem Fx.none {C C1 : CS} (h : Fx [] C C1) {r : Addr} (hr : C1 r = Option.none) : C r = Option.none := by
  cases e : C r with
  | none => rfl
  | some c => have := h.at (by simp) e; rw [hr] at this; cases this
theorem put_none {C : CS} {a b : Addr} {c : Cell} (h : (DL.put C b c) a = Option.none) : C a = Option.none := by
  by_cases e : a = b
  · subst e; rw [put_same] at h; cases h
  · rwa [put_ne e] at h
abbrev recKs : List Str := ["kept", "head"]
def recFs (E : List Ent) : List D := [.tup (E.map entD), .str (match E with | [] => "" | e :: _ => headS e.kind e.msg)]
/-- a record: its cell, or frozen -/
def RecIs (Cr : Addr) (C : CS) (x : D) (E : List Ent) : Prop := insD C x = some (Cr, recKs, recFs E)
structure Trc (K : PySem.W.Frag) (Cl : Addr) : Prop where
  f1 : FldC K Cl "kept"
  f2 : FldC K Cl "head"
section
variable {P : Program} {w : World} {K : PySem.W.Frag} {mg : Str → Option Value} {base : Heap} {Cr Cw : Addr}
def spRInit (Cr : Addr) : DSp := fun ds C k => ∃ p x E, ds = [.own p, x] ∧ C p = some (.ins Cr [] []) ∧ OldIs C x E ∧ E ≠ [] ∧ (∀ e ∈ E, e.kind.length ≤ 1000 ∧ e.msg.length ≤ 1000000) ∧ ∀ C', C' p = some (.ins Cr recKs (recFs E)) → Fx [p] C C' → k .non C'
theorem ok_rInit {f : Addr} {fd : FuncData} (F : Fun K "__init__" "Record.__init__" s_Record___init__ f fd) (T : Trc K Cr) (Z : Zs mg) (h1 : FnC P w K mg base "headline" 1 spHead) : FnG P w K mg base CX0 2 f fd P_Record___init__ (toSp K (spRInit Cr)) := by
  refine fnX F sc_Record___init__ v_Record___init__ l_Record___init__ g_Record___init__ (fun ds C k h => by obtain ⟨_, _, _, rfl, _⟩ := h; rfl) fun X hB ds C k h => ?_
  obtain ⟨p, x, E, rfl, hp, hE, hne, hlen, h⟩ := h
  obtain ⟨hx, hn, hs, hg, hd, hnox⟩ := hB
  have tf1 := T.f1
  have tf2 := T.f2
  cases E with
  | nil => exact absurd rfl hne
  | cons e es =>
  change WSs X _ [some (.own p), some x] C _
  refine wss_cons ?_
  walk_at "pyK"
  refine tuple_A hE.seqA ?_
  walk_at "pyK"
  refine ⟨p, Cr, [], [], _, _, rfl, hp, T.f1, by decide, fp_app rfl (by decide), ?_⟩
  have hI1 : insD (DL.put C p (.ins Cr (([] : List Str) ++ (["kept"] : List Str)) (([] : List D) ++ [D.tup ((e :: es).map entD)]))) (.own p) = some (Cr, ([] : List Str) ++ (["kept"] : List Str), ([] : List D) ++ [D.tup ((e :: es).map entD)]) := insD_own put_same
  walk_at "pyK"
  walk_at "pyK"
  refine ix_t (at_nat (i := 0) rfl) ?_
  walk_at "pyK"
  have hl := hlen e (by simp)
  refine ⟨e, rfl, hl.1, hl.2, ?_⟩
  walk_at "pyK"
  refine ⟨p, Cr, _, _, _, _, rfl, put_same, T.f2, by decide, fp_app rfl (by decide +kernel), ?_⟩
  rw [put_put]
  walk_at "pyK"
  exact h _ put_same ((Fx.refl C).put (.inl (by simp)))
/-- entries that a record may have, in order -/
structure EsV (N : Nat) (E : List Ent) : Prop where
  l1 : 1 ≤ E.length
  l2 : E.length ≤ 100
  ev : ∀ e ∈ E, EntV E.length e
  fit : ∀ e ∈ E, (entD e).fit 10 = true
  kl : ∀ e ∈ E, e.kind.length ≤ 1000
  nl : ∀ e ∈ E, e.mem.nums.length ≤ 1000
  met : ∃ n ks, n ≤ N ∧ meetF {} E n 0 0 0 ([], []) = some (0, (ks, E.map entD))
def spROf (Cr : Addr) (N : Nat) : DSp := fun ds C k => ∃ x E, ds = [.opq (.ref Cr), x] ∧ OldIs C x E ∧ EsV N E ∧ ∀ C' r, C r = none → C' r = some (.ins Cr recKs (recFs E)) → Fx [] C C' → k (.own r) C'
theorem ok_rOf {f : Addr} {fd : FuncData} (N : Nat) (hN : 5 ≤ N) (F : Fun K "of" "Record.of" s_Record_of f fd) (Tw : Twc K Cw) (Z : Zs mg) (h1 : FnC P w K mg base "is_entry" 5 spIsEnt) (h2 : MakC P w K mg base "Walk" Cw 1 [.non, .non, .non] (spWInit Cw)) (h3 : ∀ n, n ≤ N → MthC P w K mg base Cw "meet" (2 * n + 2) [] (spMeet Cw n))
    (h4 : MakC P w K mg base "Record" Cr 2 [] (spRInit Cr)) (g1 : MgK K mg "MOST_ENTRIES" (.int 100)) : FnG P w K mg base CX0 (2 * N + 3) f fd P_Record_of (toSp K (spROf Cr N)) := by
  refine fnX F sc_Record_of v_Record_of l_Record_of g_Record_of (fun ds C k h => by obtain ⟨_, _, rfl, _⟩ := h; rfl) fun X hB ds C k h => ?_
  obtain ⟨x, E, rfl, hE, hV, h⟩ := h
  obtain ⟨hx, hn, hs, hg, hd, hnox⟩ := hB
  obtain ⟨n, ks, hnN, hmet⟩ := hV.met
  have hM := h3 n hnN
  have tw6 := Tw.f6
  change WSs X _ [some (.opq (.ref Cr)), some x, none, none, none] C _
  refine wss_cons ?_
  walk_at "pyA"
  refine hE.isi ?_
  walk_at "pyA"
  all_goals try walk_at "bad"
  refine x_for hx hnox (wi_enumO (hx.zs Z).enum (by walk_at "gl") ?_)
  walk_at "pyA"
  refine ⟨x, E, rfl, hE, fun Pc hPc => ?_⟩
  refine ⟨fun i env C' => C' = C ∧ ∃ o1 o2, env = [some (.opq (.ref Cr)), some x, none, o1, o2], ⟨rfl, _, _, rfl⟩, fun _ _ _ h => by rw [h.1]; exact hPc, ?_, ?_⟩
  · rintro i d env C1 hd ⟨rfl, o1, o2, rfl⟩
    obtain ⟨y, hyi, rfl⟩ := enumD_get hd
    obtain ⟨e, he, rfl⟩ := List.mem_map.mp (List.mem_of_getElem? hyi)
    walk_at "pyA"
    refine hE.len ?_
    walk_at "pyA"
    refine ⟨e, E.length, rfl, hV.ev e he, ?_⟩
    walk_at "pyA"
    all_goals try walk_at "bad"
    exact ⟨rfl, _, _, rfl⟩
  rintro env C1 ⟨rfl, o1, o2, rfl⟩
  walk_at "pyA"
  refine hE.len ?_
  walk_at "pyA"
  · rename_i q1 q2
    have := hV.l2
    simp at q2; omega
  · rename_i q1 q2
    refine x_make hx h2 (by walk_at "gl") ?_ (by omega)
    walk_at "pyA"
    intro wk hwk
    refine ⟨wk, x, {}, E, rfl, put_same, hE.fx ((Fx.refl C1).put (.inr hwk)) (fun _ _ => List.not_mem_nil), by have := hV.l2; omega, hV.nl, fun C2 a f W0 F0 ha hf => ⟨rfl, ?_⟩⟩
    have F1 : Fx [] C1 C2 := Fx.via F0 ((Fx.refl C1).put (.inr hwk)) fun q hq => by rw [List.mem_singleton.mp hq]; exact .inr hwk
    have ha := put_none ha
    have hf := put_none hf
    walk_at "pyA"
    refine x_meth hx hM ?_ (by omega)
    walk_at "pyA"
    refine ⟨⟨_, _, W0.ins, by decide +kernel⟩, ?_⟩
    walk_at "pyA"
    refine ⟨wk, a, f, x, {}, E, ([], []), 0, 0, 0, rfl, W0, 0, _, hmet, fun C3 W3 F3 => ?_⟩
    have F2 : Fx [] C1 C3 := Fx.via F3 F1 fun q hq => by
      simp only [List.mem_cons, List.not_mem_nil, or_false] at hq
      rcases hq with rfl | rfl
      · exact .inr ha
      · exact .inr hf
    have hI3 := W3.ins
    have hfit : ∀ d ∈ E.map entD, d.fit 10 = true := fun d hd => by
      obtain ⟨e, he, rfl⟩ := List.mem_map.mp hd
      exact hV.fit e he
    walk_at "pyCA"
    refine W3.olds.list ?_
    refine ne_ol W3.hf hfit hfit (by decide) (by decide) ?_
    rw [eqL_refl hfit]
    walk_at "pyCA"
    all_goals try walk_at "bad"
    refine x_makeL hx h4 hn (by walk_at "nm") (by walk_at "nm") rfl ?_ (by omega)
    walk_at "pyCA"
    intro r hr
    refine ⟨r, x, E, rfl, put_same, W3.olds.fx ((Fx.refl C3).put (.inr hr)) (fun _ _ => List.not_mem_nil), (fun e => by have := hV.l1; rw [e] at this; simp at this), fun e he => ⟨hV.kl e he, (hV.ev e he).ml⟩, fun C4 h5 F4 => ⟨rfl, ?_⟩⟩
    have hr1 := Fx.none F2 hr
    exact h C4 r hr1 h5 (Fx.via F4 (F2.put (.inr hr1)) fun q hq => by rw [List.mem_singleton.mp hq]; exact .inr hr1)
  · rename_i q1 q2
    have := of_decide_eq_false q1
    have := hV.l1
    omega
  · rename_i q1 q2
    exact absurd q2 (by decide)
end
end K31
namespace K31
section
variable {P : Program} {w : World} {K : PySem.W.Frag} {mg : Str → Option Value} {base : Heap}
/-- the meeting of entries, however deep -/
theorem all_meet {Cw : Addr} {f1 f2 f3 : Addr} {d1 d2 d3 : FuncData} (c : Cls K Cw) (T : Twc K Cw) (F1 : Fun K "meet" "Walk.meet" s_Walk_meet f1 d1) (b1 : Binds K d1 P_Walk_meet []) (m1 : Meth K Cw "meet" f1)
    (F2 : Fun K "met_members" "Walk.met_members" s_Walk_met_members f2 d2) (b2 : Binds K d2 P_Walk_met_members []) (m2 : Meth K Cw "met_members" f2)
    (F3 : Fun K "met_link" "Walk.met_link" s_Walk_met_link f3 d3) (b3 : Binds K d3 P_Walk_met_link []) (m3 : Meth K Cw "met_link" f3)
    (Z : Zs mg) (h2 : FnC P w K mg base "numbers_in" 1 spNums) (h3 : FnC P w K mg base "left_out" 1 spGone) (g1 : MgK K mg "DEEP" (.str "deep")) (g2 : MgK K mg "MORE" (.str "more")) :
    ∀ n : Nat, MthC P w K mg base Cw "meet" (2 * n + 2) [] (spMeet Cw n)
  | 0 => ⟨c, f1, m1, d1, P_Walk_meet, [], [], ok_meet0, b1, .nil, fun _ => .nil⟩
  | n + 1 => by
    have h := all_meet c T F1 b1 m1 F2 b2 m2 F3 b3 m3 Z h2 h3 g1 g2 n
    have hm : MthC P w K mg base Cw "met_members" (2 * n + 3) [] (spMMem Cw n) := ⟨c, f2, m2, d2, P_Walk_met_members, [], [], ok_mMem n F2 T Z h h2 h3 g1 g2, b2, .nil, fun _ => .nil⟩
    have hl : MthC P w K mg base Cw "met_link" (2 * n + 3) [] (spMLink Cw n) := ⟨c, f3, m3, d3, P_Walk_met_link, [], [], ok_mLink n F3 T h, b3, .nil, fun _ => .nil⟩
    exact ⟨c, f1, m1, d1, P_Walk_meet, [], [], ok_meet n F1 T Z hm hl, b1, .nil, fun _ => .nil⟩
theorem bd_wInit {f kd : Addr} {oc cdv ct doc pm : Value} {od an : Option Addr} {osl : Array (Option Value)} (l : K.lookup f = some ⟨oc, od, .func (PySem.W.fnOf "__init__" "Walk.__init__" (defArgs s_Walk___init__) (defBody s_Walk___init__) (defScope s_Walk___init__) .none (.ref kd) doc pm an cdv ct), osl⟩)
    (c : PySem.W.codeIn K cdv "Walk.__init__" = true) (k : PySem.W.keepIn K (.ref f) = true) (w1 : PySem.W.nsIn K kd "width" = some (some .none)) (w2 : PySem.W.nsIn K kd "depth" = some (some .none)) (w3 : PySem.W.nsIn K kd "chain" = some (some .none)) :
    ∃ ds, Vals [V.non, .non, .non] ds ∧ Binds K (PySem.W.fnOf "__init__" "Walk.__init__" (defArgs s_Walk___init__) (defBody s_Walk___init__) (defScope s_Walk___init__) .none (.ref kd) doc pm an cdv ct) P_Walk___init__ ds := by
  have FD : FunD K "__init__" "Walk.__init__" (defArgs s_Walk___init__) (defBody s_Walk___init__) (defScope s_Walk___init__) [] [("width", .non), ("depth", .non), ("chain", .non)] f (PySem.W.fnOf "__init__" "Walk.__init__" (defArgs s_Walk___init__) (defBody s_Walk___init__) (defScope s_Walk___init__) .none (.ref kd) doc pm an cdv ct) :=
    ⟨⟨oc, od, .none, .ref kd, doc, pm, an, cdv, ct, osl, rfl, l, c, .inl ⟨rfl, rfl⟩, .inr ⟨kd, rfl, fun q hq => by
      simp only [List.mem_cons, List.not_mem_nil, or_false] at hq
      rcases hq with rfl | rfl | rfl
      · exact ⟨_, w1, rfl⟩
      · exact ⟨_, w2, rfl⟩
      · exact ⟨_, w3, rfl⟩⟩⟩, k⟩
  exact FD.binds0 (ps := P_Walk___init__) 2 (by simp) rfl fun D doc pm an cdv ct us ks h1 h2 => match us, ks, h1, h2 with
    | [_, _], [_, _, _], _, _ => ⟨_, _, _, _, _, _, rfl, rfl, _, _, _, _, _, _, rfl, rfl, _, _, _, _, _, _, rfl, rfl, rfl⟩
end
end K31
namespace K31
/-- rows that are drawn -/
structure RowG (d : D) : Prop where
  row : isRow d = true
  gd : gd false (10 ^ 10) 2 d = true
  wt : d.wt ≤ 500
def GapG (d : D) : Prop := ∃ i : Int, d = .tup [.str "gap", .int i] ∧ 1 ≤ i ∧ i ≤ 70
theorem GapG.gap {d : D} (h : GapG d) : isGap d = true := by
  obtain ⟨i, rfl, h1, _⟩ := h
  simp [isGap, h1]
theorem RowG.tup {d : D} (h : RowG d) : ∃ f e l g s, d = .tup [f, e, l, g, s] := by
  have := h.row
  unfold isRow at this
  split at this
  · exact ⟨_, _, _, _, _, rfl⟩
  · cases this
theorem RowG.ngap {d : D} (h : RowG d) : isGap d = false := by
  obtain ⟨f, e, l, g, s, rfl⟩ := h.tup
  exact isGap_len (by simp)
/-- rows and gaps that are drawn -/
structure RsG (xs : List D) : Prop where
  it : ∀ d ∈ xs, RowG d ∨ GapG d
  gg : badF false 0 xs = none
theorem GapG.fit {d : D} (h : GapG d) : d.fit 3 = true := by
  obtain ⟨i, rfl, _⟩ := h
  have : PyData.strOk ("gap" : Str) = true := by decide +kernel
  simp [D.fit, fitL, this]
theorem RsG.fit {xs : List D} (h : RsG xs) : ∀ d ∈ xs, d.fit 3 = true := fun d hd => by
  rcases h.it d hd with h | h
  · exact fit_mono _ (gd_fit (by decide) d h.gd).1 (by omega)
  · exact h.fit
theorem RsG.nil : RsG [] := ⟨fun _ h => (by simp at h), rfl⟩
end K31
namespace K31
/-! rows cut short: the plain law -/
/-- for how many rows an item stands -/
def szD : D → Int
  | .tup [_, .int i] => i
  | _ => 1
def t2 : D → Bool
  | .tup [_, _] => true
  | _ => false
def gapD (i : Int) : D := .tup [.str "gap", .int i]
@[simp] theorem szD_gap (i : Int) : szD (gapD i) = i := rfl
@[simp] theorem t2_gap (i : Int) : t2 (gapD i) = true := rfl
/-- an item: a row, or a gap of one row or more -/
def ItG (d : D) : Prop := RowG d ∨ ∃ i : Int, d = gapD i ∧ 1 ≤ i
theorem RowG.t2 {d : D} (h : RowG d) : t2 d = false := by
  obtain ⟨f, e, l, g, s, rfl⟩ := h.tup
  rfl
theorem RowG.sz {d : D} (h : RowG d) : szD d = 1 := by
  obtain ⟨f, e, l, g, s, rfl⟩ := h.tup
  simp [szD]
theorem ItG.pos {d : D} (h : ItG d) : 1 ≤ szD d := by
  rcases h with h | ⟨i, rfl, h⟩
  · rw [h.sz]; decide
  · exact h
def sumSz : List D → Int
  | [] => 0
  | d :: ds => szD d + sumSz ds
theorem sumSz_app : ∀ (xs ys : List D), sumSz (xs ++ ys) = sumSz xs + sumSz ys
  | [], ys => by simp [sumSz]
  | d :: xs, ys => by simp only [List.cons_append, sumSz, sumSz_app xs ys]; omega
/-- one more item, neighbouring gaps put together -/
def cl1 (acc : List D) (d : D) : List D := match acc.getLast? with
  | some l => if (t2 d && t2 l) = true then acc.dropLast ++ [gapD (szD l + szD d)] else acc ++ [d]
  | none => acc ++ [d]
def closedF (xs : List D) : List D := xs.foldl cl1 []
/-- an item at a place: it stays, or a gap for it -/
def cutI (lo hi at_ : Int) (d : D) : D := if (decide (at_ < lo) || decide (at_ ≥ hi) || t2 d) = true then d else gapD 1
def cutS (lo hi : Int) (s : Int × List D) (d : D) : Int × List D := (s.1 + szD d, s.2 ++ [cutI lo hi s.1 d])
def shortF (lo hi : Option Nat) (xs : List D) : List D := if lo = none ∧ hi = none then xs else
  closedF (xs.foldl (cutS (lo.getD 0 : Nat) (sumSz xs - (hi.getD 0 : Nat))) (0, [])).2
theorem cutI_it {lo hi a : Int} {d : D} (h : ItG d) : ItG (cutI lo hi a d) ∧ szD (cutI lo hi a d) = szD d := by
  unfold cutI
  split
  · exact ⟨h, rfl⟩
  · rename_i e
    rcases h with h | ⟨i, rfl, h⟩
    · exact ⟨.inr ⟨1, rfl, by decide⟩, h.sz.symm⟩
    · simp at e
/-- what stays when it is cut again -/
def StayF (lo hi : Int) : Int → List D → Prop
  | _, [] => True
  | a, d :: ds => cutI lo hi a d = d ∧ StayF lo hi (a + szD d) ds
theorem stay_app {lo hi : Int} : ∀ {xs ys : List D} {a : Int}, StayF lo hi a (xs ++ ys) ↔ StayF lo hi a xs ∧ StayF lo hi (a + sumSz xs) ys
  | [], ys, a => by simp [StayF, sumSz]
  | d :: xs, ys, a => by
    simp only [List.cons_append, StayF, sumSz, stay_app (xs := xs), and_assoc]
    rw [show a + szD d + sumSz xs = a + (szD d + sumSz xs) by omega]
/-- no two gaps next to each other -/
def apart : Bool → List D → Bool
  | _, [] => true
  | p, d :: ds => (!(p && t2 d)) && apart (t2 d) ds
def lastT (p : Bool) : List D → Bool
  | [] => p
  | d :: ds => lastT (t2 d) ds
theorem apart_app : ∀ (xs ys : List D) (p : Bool), apart p (xs ++ ys) = (apart p xs && apart (lastT p xs) ys)
  | [], ys, p => by simp [apart, lastT]
  | d :: xs, ys, p => by simp only [List.cons_append, apart, lastT, apart_app xs ys, Bool.and_assoc]
theorem lastT_app : ∀ (xs ys : List D) (p : Bool), lastT p (xs ++ ys) = lastT (lastT p xs) ys
  | [], _, _ => rfl
  | d :: xs, ys, p => lastT_app xs ys (t2 d)
structure ClG (lo hi : Int) (a : Int) (acc : List D) : Prop where
  it : ∀ d ∈ acc, ItG d
  sum : sumSz acc = a
  stay : StayF lo hi 0 acc
  apart : K31.apart false acc = true
theorem snoc_cases (acc : List D) : acc = [] ∨ ∃ xs l, acc = xs ++ [l] := by
  rcases List.eq_nil_or_concat acc with h | ⟨xs, l, h⟩
  · exact .inl h
  · exact .inr ⟨xs, l, by rw [h, List.concat_eq_append]⟩
theorem ClG.step {lo hi a : Int} {acc : List D} {d : D} (h : ClG lo hi a acc) (hd : ItG d) (hs : cutI lo hi a d = d) : ClG lo hi (a + szD d) (cl1 acc d) := by
  have e0 : ItG d := hd
  rcases snoc_cases acc with rfl | ⟨xs, l, rfl⟩
  · have e := h.sum
    simp only [sumSz] at e
    subst e
    refine ⟨fun y hy => ?_, ?_, ?_, ?_⟩
    · simp [cl1] at hy; subst hy; exact hd
    · simp [cl1, sumSz]
    · simp only [cl1, List.getLast?_nil, List.nil_append, StayF, and_true]; exact hs
    · simp [cl1, K31.apart]
  · have hl := h.it l (by simp)
    have hx : ∀ y ∈ xs, ItG y := fun y hy => h.it y (by simp [hy])
    have hsum := h.sum
    have hst := h.stay
    have hap := h.apart
    rw [sumSz_app] at hsum
    rw [stay_app] at hst
    rw [apart_app] at hap
    simp only [sumSz] at hsum
    simp only [Bool.and_eq_true] at hap
    have eg : (xs ++ [l]).getLast? = some l := by simp
    have ec : cl1 (xs ++ [l]) d = if (t2 d && t2 l) = true then xs ++ [gapD (szD l + szD d)] else xs ++ [l] ++ [d] := by
      simp [cl1]
    rw [ec]
    by_cases c : (t2 d && t2 l) = true
    · rw [if_pos c]
      rw [Bool.and_eq_true] at c
      have p1 := hl.pos
      have p2 := hd.pos
      refine ⟨fun y hy => ?_, ?_, ?_, ?_⟩
      · rcases List.mem_append.mp hy with hy | hy
        · exact hx y hy
        · simp at hy; subst hy; exact .inr ⟨_, rfl, by omega⟩
      · rw [sumSz_app]; simp only [sumSz, szD_gap]; omega
      · rw [stay_app]; exact ⟨hst.1, by simp [StayF, cutI]⟩
      · rw [apart_app, Bool.and_eq_true]
        refine ⟨hap.1, ?_⟩
        have := hap.2
        simp only [K31.apart, c.2, Bool.and_true] at this
        simp only [K31.apart, t2_gap, Bool.and_true]
        exact this
    · rw [if_neg c]
      refine ⟨fun y hy => ?_, ?_, ?_, ?_⟩
      · rcases List.mem_append.mp hy with hy | hy
        · exact h.it y hy
        · simp at hy; subst hy; exact hd
      · rw [sumSz_app, sumSz_app]; simp only [sumSz]; omega
      · rw [stay_app]
        refine ⟨by rw [stay_app]; exact hst, ?_⟩
        rw [sumSz_app]
        simp only [StayF, and_true, sumSz]
        rw [show 0 + (sumSz xs + (szD l + 0)) = a by omega]
        exact hs
      · rw [apart_app, Bool.and_eq_true]
        refine ⟨by rw [apart_app, Bool.and_eq_true]; exact hap, ?_⟩
        rw [lastT_app]
        simp only [lastT, K31.apart, Bool.and_true, Bool.not_eq_true']
        rw [Bool.and_comm]
        exact Bool.eq_false_iff.mpr c
theorem ClG.nil {lo hi : Int} : ClG lo hi 0 [] := ⟨fun _ h => by simp at h, rfl, trivial, rfl⟩
end K31
namespace K31
section
variable {P : Program} {w : World} {K : PySem.W.Frag} {mg : Str → Option Value} {base : Heap}
/-! size_of, closed, shortened -/
theorem ItG.cases {d : D} (h : ItG d) : (∃ f e l g s, d = .tup [f, e, l, g, s]) ∨ ∃ i : Int, d = .tup [.str "gap", .int i] ∧ 1 ≤ i := by
  rcases h with h | ⟨i, rfl, h⟩
  · exact .inl h.tup
  · exact .inr ⟨i, rfl, h⟩
def spSize : DSp := fun ds C k => ∃ d, ds = [d] ∧ ItG d ∧ k (.int (szD d)) C
theorem ok_sizeOf {f : Addr} {fd : FuncData} (F : Fun K "size_of" "size_of" s_size_of f fd) (Z : Zs mg) : FnG P w K mg base CX0 1 f fd P_size_of (toSp K spSize) := by
  refine fnX F sc_size_of v_size_of l_size_of g_size_of (fun ds C k h => by obtain ⟨_, rfl, _⟩ := h; rfl) fun X hB ds C k h => ?_
  obtain ⟨d, rfl, hd0, h⟩ := h
  obtain ⟨hx, hn, hs, hg, hd, hnox⟩ := hB
  change WSs X _ [some d] C _
  rcases hd0.cases with ⟨a1, a2, a3, a4, a5, rfl⟩ | ⟨i, rfl, hi⟩
  · rw [show szD (.tup [a1, a2, a3, a4, a5]) = 1 by simp [szD]] at h
    refine wss_cons ?_
    walk_at "pyA"
    all_goals try walk_at "bad"
    exact h
  · refine wss_cons ?_
    walk_at "pyA"
    all_goals try walk_at "bad"
    exact h
theorem ItG.fit {d : D} (h : ItG d) : d.fit 3 = true := by
  rcases h with h | ⟨i, rfl, _⟩
  · exact fit_mono _ (gd_fit (by decide) d h.gd).1 (by omega)
  · have : PyData.strOk ("gap" : Str) = true := by decide +kernel
    simp [gapD, D.fit, fitL, this]
theorem ixN_last {α : Type} (xs : List α) (l : α) : ixN (xs ++ [l]).length (-1) = some xs.length := by
  unfold ixN
  rw [if_neg (by decide), if_pos (by rw [List.length_append]; simp; omega)]
  congr 1
  rw [List.length_append]
  simp only [List.length_singleton]
  omega
theorem atI_last (xs : List D) (l : D) : atI (xs ++ [l]) (-1) = some l := by
  unfold atI
  rw [ixN_last]
  simp
theorem set_last {α : Type} (xs : List α) (l d : α) : (xs ++ [l]).set xs.length d = xs ++ [d] := by
  simp
theorem cl1_row {acc : List D} {d : D} (h : t2 d = false) : cl1 acc d = acc ++ [d] := by
  rcases snoc_cases acc with rfl | ⟨zs, l, rfl⟩
  · rfl
  · simp [cl1, h]
theorem cl1_snoc {zs : List D} {l d : D} : cl1 (zs ++ [l]) d = if (t2 d && t2 l) = true then zs ++ [gapD (szD l + szD d)] else zs ++ [l] ++ [d] := by simp [cl1]
def spClosed : DSp := fun ds C k => ∃ a xs, ds = [.own a] ∧ C a = some (.lst xs) ∧ (∀ d ∈ xs, ItG d) ∧ xs.length ≤ 1000 ∧ k (.tup (closedF xs)) C
def clN (xs : List D) (i : Nat) : List D := (xs.take i).foldl cl1 []
theorem clN_succ {xs : List D} {i : Nat} {d : D} (h : xs[i]? = some d) : clN xs (i + 1) = cl1 (clN xs i) d := by
  unfold clN
  rw [List.take_succ, h]
  simp [List.foldl_append]
theorem cl1_len (acc : List D) (d : D) : (cl1 acc d).length ≤ acc.length + 1 := by
  rcases snoc_cases acc with rfl | ⟨zs, l, rfl⟩
  · simp [cl1]
  · simp only [cl1, List.getLast?_append, List.getLast?_singleton]
    simp
    split <;> simp
theorem clN_len (xs : List D) : ∀ i, (clN xs i).length ≤ i
  | 0 => by simp [clN]
  | i + 1 => by
    cases h : xs[i]? with
    | none =>
      have : clN xs (i + 1) = clN xs i := by unfold clN; rw [List.take_succ, h]; simp
      rw [this]; have := clN_len xs i; omega
    | some d => rw [clN_succ h]; have := cl1_len (clN xs i) d; have := clN_len xs i; omega
theorem clN_it {xs : List D} (h : ∀ d ∈ xs, ItG d) (i : Nat) : ∀ d ∈ clN xs i, ItG d := by
  have h2 : ∀ d ∈ xs.take i, ItG d := fun d hd => h d (List.mem_of_mem_take hd)
  have key : ∀ (ys acc : List D), (∀ d ∈ ys, ItG d) → (∀ d ∈ acc, ItG d) → ∀ d ∈ ys.foldl cl1 acc, ItG d := by
    intro ys
    induction ys with
    | nil => intro acc _ ha; exact ha
    | cons y ys ih =>
      intro acc hy ha
      refine ih _ (fun d hd => hy d (List.mem_cons_of_mem _ hd)) ?_
      have hy0 := hy y List.mem_cons_self
      rcases snoc_cases acc with rfl | ⟨zs, l, rfl⟩
      · intro d hd; simp [cl1] at hd; subst hd; exact hy0
      · have e : cl1 (zs ++ [l]) y = if (t2 y && t2 l) = true then zs ++ [gapD (szD l + szD y)] else zs ++ [l] ++ [y] := by simp [cl1]
        rw [e]
        have p1 := (ha l (by simp)).pos
        have p2 := hy0.pos
        split
        · intro d hd
          rcases List.mem_append.mp hd with hd | hd
          · exact ha d (by simp [hd])
          · simp at hd; subst hd; exact .inr ⟨_, rfl, by omega⟩
        · intro d hd
          rcases List.mem_append.mp hd with hd | hd
          · exact ha d hd
          · simp at hd; subst hd; exact hy0
  exact key _ [] h2 (fun _ h => by simp at h)
theorem ok_closed {f : Addr} {fd : FuncData} (F : Fun K "closed" "closed" s_closed f fd) (Z : Zs mg) (g1 : MgK K mg "GAP" (.str "gap")) : FnG P w K mg base CX0 1 f fd P_closed (toSp K spClosed) := by
  refine fnS F sc_closed v_closed l_closed g_closed (fun ds C k h => by obtain ⟨_, _, rfl, _⟩ := h; rfl) fun X hB ds C k h => ?_
  obtain ⟨a, xs, rfl, hS, hI, hl, h⟩ := h
  obtain ⟨hx, hn, hs, hg, hd, hnox⟩ := hB
  change WSs X _ [some (.own a), none, none] C _
  refine wss_cons ?_
  walk_at "py"
  refine we_nil fun p hp => ?_
  walk_at "pyA"
  have ne : a ≠ p := fun z => by subst z; rw [hp] at hS; cases hS
  have hS' : ∀ acc, DL.put C p (.lst acc) a = some (.lst xs) := fun acc => (DL.put_ne ne).trans hS
  refine x_for hx hnox (wi_list ?_)
  walk_at "pyA"
  refine ⟨xs, by simp [seqR, hS'], fun i env' C' => C' = DL.put C p (.lst (clN xs i)) ∧ ∃ o, env' = [some (.own a), some (.own p), o], ⟨rfl, _, rfl⟩, ?_, ?_, ?_⟩
  · rintro i env' C' ⟨rfl, _⟩
    exact hS' _
  · rintro i d env' C' hi ⟨rfl, o, rfl⟩
    have hd0 := hI d (List.mem_of_getElem? hi)
    have hlen := clN_len xs i
    have hil : i < xs.length := (List.getElem?_eq_some_iff.mp hi).1
    have hc : DL.put C p (.lst (clN xs i)) p = some (.lst (clN xs i)) := put_same
    have hit := clN_it hI i
    have hsuc := clN_succ hi
    rcases hd0.cases with ⟨a1, a2, a3, a4, a5, rfl⟩ | ⟨g, rfl, hg0⟩
    · walk_at "wg"
      walk_at "pyA"
      all_goals try walk_at "bad"
      refine app_put (Nat.lt_of_le_of_lt (by omega : _ ≤ 1000) (by decide)) ?_
      walk_at "pyA"
      rw [cl1_row rfl] at hsuc
      exact ⟨by rw [hsuc], _, rfl⟩
    · walk_at "wg"
      walk_at "pyA"
      all_goals try walk_at "bad"
      refine ne_ol (n := 3) (m := 0) hc (fun d hd => (hit d hd).fit) (fun _ h => by simp at h) (by decide) (by decide) ?_
      rcases snoc_cases (clN xs i) with e | ⟨zs, l, e⟩
      · rw [e] at hsuc hc ⊢
        walk_at "pyA"
        all_goals try walk_at "bad"
        exact ⟨by rw [hsuc]; rfl, _, rfl⟩
      · rw [e] at hsuc hc hlen hit ⊢
        rw [cl1_snoc] at hsuc
        have hne : eqL (zs ++ [l]) [] = false := by cases zs <;> rfl
        rw [hne]
        walk_at "pyA"
        all_goals try walk_at "bad"
        refine ix_o hc (atI_last zs l) ?_
        rcases (hit l (by simp)).cases with ⟨b1, b2, b3, b4, b5, rfl⟩ | ⟨g2, rfl, hg2⟩
        · walk_at "pyA"
          all_goals try walk_at "bad"
          rw [List.length_append, List.length_singleton] at hlen
          refine app_put (Nat.lt_of_le_of_lt (by simp; omega : _ ≤ 1000) (by decide)) ?_
          walk_at "pyA"
          exact ⟨by rw [hsuc]; rfl, _, rfl⟩
        · walk_at "pyA"
          all_goals try walk_at "bad"
          refine ix_o hc (atI_last zs _) ?_
          walk_at "pyA"
          refine ⟨p, -1, _, zs.length, rfl, rfl, hc, ixN_last zs _, ?_⟩
          rw [put_put, set_last]
          show WSs X [] _ _ _
          walk_at "pyA"
          exact ⟨by rw [hsuc]; rfl, _, rfl⟩
  · rintro env' C' ⟨rfl, o, rfl⟩
    show WSs X _ _ _ _
    walk_at "pyA"
    have hAA : seqA (DL.put C p (.lst (clN xs xs.length))) (.own p) = some (closedF xs) := by simp [seqA, seqR, put_same, clN, closedF]
    refine tuple_A hAA ?_
    walk_at "pyA"
    exact ⟨C, fun b c e => by rw [DL.put_ne (fun z => by subst z; rw [hp] at e; cases e)]; exact e, h⟩
end
end K31
namespace K31
section
variable {P : Program} {w : World} {K : PySem.W.Frag} {mg : Str → Option Value} {base : Heap}
/-! look_limits -/
def limOk (d : D) (lo : Int) : Prop := d = .non ∨ ∃ i : Int, d = .int i ∧ lo ≤ i
def limK (a b c d e : D) : List (Key × D) := [(.inr "first", a), (.inr "last", b), (.inr "width", c), (.inr "depth", d), (.inr "chain", e)]
def spLooks : DSp := fun ds C k => ∃ q a b c d e, ds = [.own q] ∧ C q = some (.dic (limK a b c d e)) ∧ limOk a 0 ∧ limOk b 0 ∧ limOk c 1 ∧ limOk d 0 ∧ limOk e 0 ∧ k .non C
theorem ok_lookLimits {f : Addr} {fd : FuncData} (F : Fun K "look_limits" "look_limits" s_look_limits f fd) (Z : Zs mg) (h1 : FnC P w K mg base "is_from" 2 spIsFrom) : FnG P w K mg base CX0 3 f fd P_look_limits (toSp K spLooks) := by
  refine fnX F sc_look_limits v_look_limits l_look_limits g_look_limits (fun ds C k h => by obtain ⟨_, _, _, _, _, _, rfl, _⟩ := h; rfl) fun X hB ds C k h => ?_
  obtain ⟨q, a, b, c, d, e, rfl, hq, l1, l2, l3, l4, l5, h⟩ := h
  obtain ⟨hx, hn, hs, hg, hd, hnox⟩ := hB
  change WSs X _ [some (.own q), none, none] C _
  have hk : ∀ (i : Nat) (ky : Key) (y : D), (limK a b c d e)[i]? = some (ky, y) → ∃ nm : Str, ky = (Sum.inr nm : Key) ∧ limOk y (if nm = "width" then 1 else 0) := by
    intro i ky y hi
    match i, hi with
    | 0, hi => simp [limK] at hi; obtain ⟨rfl, rfl⟩ := hi; exact ⟨_, rfl, by rw [if_neg (by decide)]; exact l1⟩
    | 1, hi => simp [limK] at hi; obtain ⟨rfl, rfl⟩ := hi; exact ⟨_, rfl, by rw [if_neg (by decide)]; exact l2⟩
    | 2, hi => simp [limK] at hi; obtain ⟨rfl, rfl⟩ := hi; exact ⟨_, rfl, by rw [if_pos rfl]; exact l3⟩
    | 3, hi => simp [limK] at hi; obtain ⟨rfl, rfl⟩ := hi; exact ⟨_, rfl, by rw [if_neg (by decide)]; exact l4⟩
    | 4, hi => simp [limK] at hi; obtain ⟨rfl, rfl⟩ := hi; exact ⟨_, rfl, by rw [if_neg (by decide)]; exact l5⟩
    | i + 5, hi => simp [limK] at hi
  refine wss_cons ?_
  refine x_forItems hx hnox hq ?_
  walk_at "pyK"
  have hpd : DL.put (del C q) q (.dic (limK a b c d e)) = C := by
    funext x
    by_cases z : x = q
    · subst z; rw [put_same, hq]
    · rw [put_ne z, DL.del_ne z]
  refine ⟨rfl, fun i env' C' => C' = del C q ∧ ∃ o1 o2, env' = [some (.own q), o1, o2], ⟨rfl, _, _, rfl⟩, ?_, ?_⟩
  · rintro i ky y env' C' hi ⟨rfl, o1, o2, rfl⟩
    obtain ⟨nm, rfl, hl⟩ := hk _ _ _ hi
    rcases hl with rfl | ⟨j, rfl, hj⟩
    · walk_at "wg"
      walk_at "pyK"
      all_goals try walk_at "bad"
      exact ⟨rfl, _, _, rfl⟩
    · show WG X _ (.tup [.str nm, .int j]) _ _ _
      walk_at "wg"
      walk_at "pyK"
      all_goals try walk_at "bad"
      refine eq_sS ?_
      walk_at "pyK"
      · rename_i hw
        have hw : nm = "width" := by simpa using hw
        rw [if_pos hw] at hj
        refine ⟨.int j, 1, rfl, rfl, ?_⟩
        rw [show geB (.int j) 1 = true by simp [geB]; omega]
        walk_at "pyK"
        all_goals try walk_at "bad"
        exact ⟨rfl, _, _, rfl⟩
      · rename_i hw
        have hw : nm ≠ "width" := by simpa using hw
        rw [if_neg hw] at hj
        refine ⟨.int j, 0, rfl, rfl, ?_⟩
        rw [show geB (.int j) 0 = true by simp [geB]; omega]
        walk_at "pyK"
        all_goals try walk_at "bad"
        exact ⟨rfl, _, _, rfl⟩
  · rintro env' C' ⟨rfl, o1, o2, rfl⟩
    rw [hpd]
    show WSs X [] _ _ _
    walk_at "pyK"
    exact h
end
end K31
namespace K31
section
variable {P : Program} {w : World} {K : PySem.W.Frag} {mg : Str → Option Value} {base : Heap}
/-! shortened -/
def spShort : DSp := fun ds C k => ∃ xs lo hi, ds = [.tup xs, limN lo, limN hi] ∧ (∀ d ∈ xs, ItG d) ∧ xs.length ≤ 1000 ∧ k (.tup (shortF lo hi xs)) C
theorem sum_sz : ∀ (xs : List D), (xs.map szD).sum = sumSz xs
  | [] => rfl
  | d :: xs => by simp [sumSz, sum_sz xs]
def cutP (lo hi : Int) (xs : List D) (i : Nat) : Int × List D := (xs.take i).foldl (cutS lo hi) (0, [])
theorem cutP_succ {lo hi : Int} {xs : List D} {i : Nat} {d : D} (h : xs[i]? = some d) : cutP lo hi xs (i + 1) = ((cutP lo hi xs i).1 + szD d, (cutP lo hi xs i).2 ++ [cutI lo hi (cutP lo hi xs i).1 d]) := by
  unfold cutP
  rw [List.take_succ, h]
  simp [List.foldl_append, cutS]
theorem cutS_len {lo hi : Int} : ∀ (xs : List D) (a : Int) (ys : List D), (xs.foldl (cutS lo hi) (a, ys)).2.length = ys.length + xs.length
  | [], _, _ => rfl
  | d :: xs, a, ys => by
    rw [List.foldl_cons, show cutS lo hi (a, ys) d = (a + szD d, ys ++ [cutI lo hi a d]) from rfl, cutS_len xs]
    simp only [List.length_append, List.length_cons, List.length_nil]; omega
theorem cutP_len {lo hi : Int} {xs : List D} {i : Nat} (h : i ≤ xs.length) : (cutP lo hi xs i).2.length = i := by
  unfold cutP
  rw [cutS_len, List.length_take]; simp; omega
theorem cutS_it {lo hi : Int} : ∀ (xs : List D) (a : Int) (ys : List D), (∀ d ∈ xs, ItG d) → (∀ d ∈ ys, ItG d) → ∀ d ∈ (xs.foldl (cutS lo hi) (a, ys)).2, ItG d
  | [], _, _, _, h => h
  | d :: xs, a, ys, hx, h => by
    rw [List.foldl_cons, show cutS lo hi (a, ys) d = (a + szD d, ys ++ [cutI lo hi a d]) from rfl]
    refine cutS_it xs _ _ (fun y hy => hx y (List.mem_cons_of_mem _ hy)) fun y hy => ?_
    rcases List.mem_append.mp hy with hy | hy
    · exact h y hy
    · rw [List.mem_singleton.mp hy]; exact (cutI_it (hx d List.mem_cons_self)).1
theorem ok_shortened {f : Addr} {fd : FuncData} (F : Fun K "shortened" "shortened" s_shortened f fd) (Z : Zs mg) (g1 : MgK K mg "GAP" (.str "gap")) (h1 : FnC P w K mg base "size_of" 1 spSize) (h2 : FnC P w K mg base "closed" 1 spClosed) : FnG P w K mg base CX0 2 f fd P_shortened (toSp K spShort) := by
  refine fnS F sc_shortened v_shortened l_shortened g_shortened (fun ds C k h => by obtain ⟨_, _, _, rfl, _⟩ := h; rfl) fun X hB ds C k h => ?_
  obtain ⟨xs, lo, hi, rfl, hI, hl, h⟩ := h
  obtain ⟨hx, hn, hs, hg, hd, hnox⟩ := hB
  by_cases hnn : lo = none ∧ hi = none
  · obtain ⟨rfl, rfl⟩ := hnn
    change WSs X _ [some (.tup xs), some .non, some .non, none, none, none, none, none, none, none, none] C _
    refine wss_cons ?_
    walk_at "pyA"
    all_goals try walk_at "bad"
    exact ⟨C, fun _ _ e => e, h⟩
  · have rest : WSs X (defBody s_shortened).tail [some (.tup xs), some (limN lo), some (limN hi), none, none, none, none, none, none, none, none] C { nx := fun x C1 => ∃ C2, DL.Sub C2 C1 ∧ k D.non C2, rt := fun d C1 => ∃ C2, DL.Sub C2 C1 ∧ k d C2 } := by
      refine wss_consH ?_
      walk_at "pyA"
      refine we_fz (lc1 ["item"] ["size_of"] hd (by walk_at "nm") (by decide +kernel) (by decide +kernel) (by decide +kernel) (by decide +kernel) (wi_tup ?_))
      walk_at "pyA"
      refine ⟨xs, rfl, LcB.map (fun d => .int (szD d)) trivial (Nat.le_trans hl (by decide)) ?_ fun p hp => frz_ok hp ?_⟩
      · intro d hdm X' hX hn' hg'
        have hx' := hx.blk hX
        walk_at "pyA"
        refine ⟨d, rfl, hI d hdm, ?_⟩
        exact ⟨rfl, rfl⟩
      walk_at "pyA"
      refine ⟨_, xs.map szD, rfl, by simp [seqR], ?_⟩
      rw [sum_sz]
      walk_at "pyA"
      refine wsh_go (wss_consH ?_)
      walk_at "pyAO"
      refine ⟨lo, rfl, ?_⟩
      walk_at "pyAO"
      refine ⟨hi, rfl, ?_⟩
      walk_at "pyAO"
      refine wsh_go (wss_consH ?_)
      walk_at "py"
      refine we_nil fun p hp => ?_
      walk_at "py"
      refine wsh_go (wss_consH ?_)
      obtain ⟨L, hL⟩ : ∃ L : Int, L = ((lo.getD 0 : Nat) : Int) := ⟨_, rfl⟩
      obtain ⟨Hh, hH⟩ : ∃ Hh : Int, Hh = sumSz xs - ((hi.getD 0 : Nat) : Int) := ⟨_, rfl⟩
      rw [← hL, ← hH]
      refine x_for hx hnox (wi_tup ?_)
      walk_at "py"
      refine ⟨xs, rfl, fun i env' C' => C' = DL.put C p (.lst (cutP L Hh xs i).2) ∧ ∃ o1 o2 o3, env' = [some (.tup xs), some (limN lo), some (limN hi), some (.int (sumSz xs)), o1, some (.int L), some (.int Hh), some (.own p), some (.int (cutP L Hh xs i).1), o2, o3], ⟨rfl, _, _, _, rfl⟩, fun _ _ _ _ => trivial, ?_, ?_⟩
      · rintro i d env' C' hd' ⟨rfl, o1, o2, o3, rfl⟩
        have hd0 := hI d (List.mem_of_getElem? hd')
        have hil : i < xs.length := (List.getElem?_eq_some_iff.mp hd').1
        have hlen := cutP_len (lo := L) (hi := Hh) (xs := xs) (i := i) (by omega)
        have hsuc := cutP_succ (lo := L) (hi := Hh) hd'
        walk_at "wg"
        walk_at "pyA"
        refine ⟨d, rfl, hd0, ?_⟩
        walk_at "pyA"
        · rename_i q1
          have hcut : cutI L Hh (cutP L Hh xs i).1 d = d := if_pos (by simp only [Bool.or_eq_true, decide_eq_true_eq]; exact .inl (.inl (by simpa using q1)))
          refine app_put (Nat.lt_of_le_of_lt (by omega : _ ≤ 1000) (by decide)) ?_
          walk_at "pyA"
          exact ⟨by rw [hsuc, hcut], _, _, _, by rw [hsuc]⟩
        · rename_i q1 q2
          have hcut : cutI L Hh (cutP L Hh xs i).1 d = d := if_pos (by simp only [Bool.or_eq_true, decide_eq_true_eq]; exact .inl (.inr (by simpa using q2)))
          refine app_put (Nat.lt_of_le_of_lt (by omega : _ ≤ 1000) (by decide)) ?_
          walk_at "pyA"
          exact ⟨by rw [hsuc, hcut], _, _, _, by rw [hsuc]⟩
        · rename_i q1 q2
          rcases hd0.cases with ⟨a1, a2, a3, a4, a5, rfl⟩ | ⟨g, rfl, hg0⟩
          · have hcut : cutI L Hh (cutP L Hh xs i).1 (.tup [a1, a2, a3, a4, a5]) = gapD 1 := if_neg (by
              simp only [Bool.or_eq_true, decide_eq_true_eq, t2, Bool.false_eq_true, or_false]
              simp at q1 q2
              omega)
            walk_at "pyA"
            all_goals try walk_at "bad"
            rw [show szD (.tup [a1, a2, a3, a4, a5]) = 1 by simp [szD]] at *
            refine app_put (Nat.lt_of_le_of_lt (by omega : _ ≤ 1000) (by decide)) ?_
            walk_at "pyA"
            exact ⟨by rw [hsuc, hcut]; rfl, _, _, _, by rw [hsuc]⟩
          · have hcut : cutI L Hh (cutP L Hh xs i).1 (.tup [.str "gap", .int g]) = .tup [.str "gap", .int g] := if_pos (by simp [t2])
            walk_at "pyA"
            all_goals try walk_at "bad"
            refine app_put (Nat.lt_of_le_of_lt (by omega : _ ≤ 1000) (by decide)) ?_
            walk_at "pyA"
            exact ⟨by rw [hsuc, hcut], _, _, _, by rw [hsuc]⟩
      · rintro env' C' ⟨rfl, o1, o2, o3, rfl⟩
        refine wsh_go ?_
        have hcl : (cutP L Hh xs xs.length).2.length = xs.length := cutP_len (Nat.le_refl _)
        walk_at "pyA"
        refine ⟨p, (cutP L Hh xs xs.length).2, rfl, put_same, ?_, by omega, ?_⟩
        · unfold cutP
          rw [List.take_length]
          exact cutS_it xs 0 [] hI (fun _ h => by simp at h)
        · have e : closedF (cutP L Hh xs xs.length).2 = shortF lo hi xs := by
            unfold shortF cutP
            rw [if_neg hnn, List.take_length, hL, hH]
          rw [e]
          walk_at "pyA"
          exact ⟨C, fun b c e => by rw [DL.put_ne (fun z => by subst z; rw [hp] at e; cases e)]; exact e, h⟩
    rcases lo with _ | lo
    · rcases hi with _ | hi
      · exact absurd ⟨rfl, rfl⟩ hnn
      · change WSs X _ [some (.tup xs), some .non, some (.int hi), none, none, none, none, none, none, none, none] C _
        refine wss_consH ?_
        walk_at "pyA"
        all_goals try walk_at "bad"
        exact wsh_go rest
    · change WSs X _ [some (.tup xs), some (.int lo), some (limN hi), none, none, none, none, none, none, none, none] C _
      refine wss_consH ?_
      walk_at "pyA"
      all_goals try walk_at "bad"
      exact wsh_go rest
end
end K31
namespace K31
/-! entries that are drawn, or cut: the plain law -/
theorem RowG.tt {d : D} (h : RowG d) : isGap d = K31.t2 d := by rw [h.ngap, h.t2]
theorem gap_is {i : Int} (h : 1 ≤ i) : isGap (gapD i) = true := by simp [isGap, gapD, h]
theorem ItG.tt {d : D} (h : ItG d) : isGap d = K31.t2 d := by
  rcases h with h | ⟨i, rfl, h⟩
  · exact h.tt
  · rw [gap_is h]; rfl
theorem GapG.it {d : D} (h : GapG d) : ItG d := by
  obtain ⟨i, rfl, h1, _⟩ := h
  exact .inr ⟨i, rfl, h1⟩
def setR (e : Ent) (xs : List D) : Ent := { e with rows := xs }
def shortE (lo hi : Option Nat) (e : Ent) : Ent := setR e (shortF lo hi e.rows)
end K31
namespace K31
/-! the chain -/
def chainF (E : List Ent) : Nat → List Nat → Option (Str × Option Nat) → List Nat
  | n + 1, fs, some (_, some x) => if x ∈ fs then fs else chainF E n (fs ++ [x]) ((E[x]?).bind (·.link))
  | _, fs, _ => fs
def alongF (E : List Ent) : List Nat := chainF E 200 [0] ((E[0]?).bind (·.link))
theorem RecIs.nw {Cr q : Addr} {C : CS} {x : D} {E : List Ent} {c : Cell} (h : RecIs Cr C x E) (hq : C q = none) : RecIs Cr (DL.put C q c) x E := by
  cases x with
  | own a =>
    have h : insD C (.own a) = some (Cr, recKs, recFs E) := h
    show insD (DL.put C q c) (.own a) = _
    have hne : a ≠ q := fun e => by subst e; simp [insD, hq] at h
    have e : insD (DL.put C q c) (.own a) = insD C (.own a) := by simp only [insD, put_ne hne]
    rw [e]; exact h
  | _ => exact h
theorem nodup_len {fs : List Nat} {n : Nat} (h : fs.Nodup) (hl : ∀ x ∈ fs, x < n) : fs.length ≤ n := by
  have := nodup_sub fs (List.range n) h fun x hx => List.mem_range.mpr (hl x hx)
  rwa [List.length_range] at this
/-- a chain that is gone along -/
structure Chn (E : List Ent) (m : Nat) (fs : List Nat) (l : Option (Str × Option Nat)) : Prop where
  eq : alongF E = chainF E m fs l
  sum : m + fs.length = 201
  nd : fs.Nodup
  lt : ∀ x ∈ fs, x < E.length
  ll : ∀ x, lnkN l = some x → x < E.length
theorem Chn.start {E : List Ent} {e : Ent} (h : E[0]? = some e) (hl : ∀ e ∈ E, ∀ x, lnkN e.link = some x → x < E.length) : Chn E 200 [0] e.link :=
  ⟨by unfold alongF; rw [h]; rfl, rfl, by simp, fun x hx => by rw [List.mem_singleton.mp hx]; exact (List.getElem?_eq_some_iff.mp h).1, hl e (List.mem_of_getElem? h)⟩
theorem Chn.next {E : List Ent} {m x : Nat} {fs : List Nat} {w : Str} {e : Ent} (h : Chn E m fs (some (w, some x))) (hE : E.length ≤ 100) (hx : x ∉ fs) (he : E[x]? = some e) (hl : ∀ e ∈ E, ∀ x, lnkN e.link = some x → x < E.length) : Chn E (m - 1) (fs ++ [x]) e.link := by
  have h1 := nodup_len h.nd h.lt
  have h2 := h.sum
  obtain ⟨m', rfl⟩ : ∃ m', m = m' + 1 := ⟨m - 1, by omega⟩
  refine ⟨?_, by simp; omega, ?_, fun y hy => ?_, hl e (List.mem_of_getElem? he)⟩
  · rw [h.eq]
    simp only [chainF, if_neg hx, he]
    rfl
  · refine List.nodup_append.mpr ⟨h.nd, by simp, fun a ha b hb e => ?_⟩
    rw [List.mem_singleton.mp hb] at e
    exact hx (e ▸ ha)
  · rcases List.mem_append.mp hy with hy | hy
    · exact h.lt y hy
    · rw [List.mem_singleton.mp hy]; exact (List.getElem?_eq_some_iff.mp he).1
section
variable {P : Program} {w : World} {K : PySem.W.Frag} {mg : Str → Option Value} {base : Heap} {Cr Cw : Addr}
end
end K31
namespace K31
section
variable {P : Program} {w : World} {K : PySem.W.Frag} {mg : Str → Option Value} {base : Heap} {Cr Cw : Addr}
end
end K31
namespace K31
theorem lim_eq (o : Option Nat) : limD o = limN o := by cases o <;> rfl
def shD (lo hi : Option Nat) : D → D
  | .tup [a, b, c, .tup xs, m, l] => .tup [a, b, c, .tup (shortF lo hi xs), m, l]
  | d => d
theorem merge_lim (a b c d e : D) : mergeD [] (limK a b c d e) = limK a b c d e := by
  rfl
theorem limOk_of {o : Option Nat} {lo : Int} (h : ∀ n, o = some n → lo ≤ (n : Int)) : limOk (limN o) lo := by
  cases o with
  | none => exact .inl rfl
  | some n => exact .inr ⟨_, rfl, h n rfl⟩
theorem limOk0 (o : Option Nat) : limOk (limN o) 0 := limOk_of fun n _ => by omega
section
variable {P : Program} {w : World} {K : PySem.W.Frag} {mg : Str → Option Value} {base : Heap} {Cr Cw : Addr}
def spCut (Cr : Addr) (N : Nat) : DSp := fun ds C k => ∃ x E fi la L E' ks n, ds = [x, limN fi, limN la, limN (Lim.w L), limN L.d, limN L.c] ∧ RecIs Cr C x E ∧ E.length ≤ 1000 ∧ (∀ e ∈ E, e.mem.nums.length ≤ 1000) ∧ (∀ m, L.w = some m → 1 ≤ m) ∧ n ≤ N ∧ meetF L E n 0 0 0 ([], []) = some (0, (ks, E'.map entD)) ∧ E' ≠ [] ∧ E'.length ≤ 1000 ∧
  (∀ e ∈ E', e.kind.length ≤ 1000 ∧ e.msg.length ≤ 1000000 ∧ (∀ d ∈ e.rows, ItG d) ∧ e.rows.length ≤ 1000) ∧ ∀ C' r, C r = none → C' r = some (.ins Cr recKs (recFs (E'.map (shortE fi la)))) → Fx [] C C' → k (.own r) C'
theorem ok_cut {f : Addr} {fd : FuncData} (N : Nat) (hN : 5 ≤ N) (F : Fun K "cut" "Record.cut" s_Record_cut f fd) (T : Trc K Cr) (Tw : Twc K Cw) (Z : Zs mg) (h1 : FnC P w K mg base "look_limits" 3 spLooks) (h2 : MakK P w K mg base "Walk" Cw 1 1 ["width", "depth", "chain"] (fun ds zs => ds ++ zs) (spWInit Cw)) (h3 : ∀ n, n ≤ N → MthC P w K mg base Cw "meet" (2 * n + 2) [] (spMeet Cw n))
    (h4 : MakC P w K mg base "Record" Cr 2 [] (spRInit Cr)) (h5 : FnC P w K mg base "shortened" 2 spShort) : FnG P w K mg base CX0 (2 * N + 3) f fd P_Record_cut (toSp K (spCut Cr N)) := by
  refine fnX F sc_Record_cut v_Record_cut l_Record_cut g_Record_cut (fun ds C k h => by obtain ⟨_, _, _, _, _, _, _, _, rfl, _⟩ := h; rfl) fun X hB ds C k h => ?_
  obtain ⟨x, E, fi, la, L, E', ks, n, rfl, hR, hl, hen, hw, hnN, hmet, hne, hl', hok, h⟩ := h
  obtain ⟨hx, hn, hs, hg, hd, hnox⟩ := hB
  have hM := h3 n hnN
  have tf1 := T.f1
  have tw6 := Tw.f6
  change WSs X _ [some x, some (limN fi), some (limN la), some (limN L.w), some (limN L.d), some (limN L.c), none, none] C _
  refine wss_consH ?_
  walk_at "pyK"
  refine x_disp (wd_cons ?_)
  walk_at "pyK"
  refine wd_cons ?_
  walk_at "pyK"
  refine wd_cons ?_
  walk_at "pyK"
  refine wd_cons ?_
  walk_at "pyK"
  refine wd_cons ?_
  walk_at "pyK"
  refine wd_nil ?_
  refine ⟨limK (limN fi) (limN la) (limN L.w) (limN L.d) (limN L.c), rfl, Nat.le_of_ble_eq_true rfl, fun q hq => ?_⟩
  rw [merge_lim]
  walk_at "pyK"
  refine ⟨q, _, _, _, _, _, rfl, put_same, limOk0 _, limOk0 _, limOk_of fun m hm => by have := hw m hm; omega, limOk0 _, limOk0 _, ?_⟩
  have hRq := hR.nw (c := .dic (limK (limN fi) (limN la) (limN L.w) (limN L.d) (limN L.c))) hq
  have F0 : Fx [] C (DL.put C q (.dic (limK (limN fi) (limN la) (limN L.w) (limN L.d) (limN L.c)))) := (Fx.refl C).put (.inr hq)
  generalize DL.put C q (.dic (limK (limN fi) (limN la) (limN L.w) (limN L.d) (limN L.c))) = C1 at hRq F0 ⊢
  refine wsh_go (wss_consH ?_)
  walk_at "pyK"
  refine x_makeK hx h2 (by walk_at "gl") ?_ (by omega)
  walk_at "pyK"
  refine wk_cons ?_
  walk_at "pyK"
  refine wk_cons ?_
  walk_at "pyK"
  refine wk_cons ?_
  walk_at "pyK"
  refine wk_nil ?_
  refine ⟨rfl, rfl, fun wk hwk => ?_⟩
  refine ⟨wk, _, L, E, by rw [lim_eq, lim_eq, lim_eq]; rfl, put_same, .inl rfl, hl, hen, fun C2 a f W0 F1 ha hf => ⟨rfl, ?_⟩⟩
  have hwk0 := Fx.none F0 hwk
  have F2 : Fx [] C C2 := Fx.via F1 (F0.put (.inr hwk0)) fun q hq => by rw [List.mem_singleton.mp hq]; exact .inr hwk0
  have ha := Fx.none F0 (put_none ha)
  have hf := Fx.none F0 (put_none hf)
  refine wsh_go (wss_consH ?_)
  walk_at "pyK"
  refine x_meth hx hM ?_ (by omega)
  walk_at "pyK"
  refine ⟨⟨_, _, W0.ins, by decide +kernel⟩, ?_⟩
  walk_at "pyK"
  refine ⟨wk, a, f, _, L, E, ([], []), 0, 0, 0, rfl, W0, 0, _, hmet, fun C3 W3 F3 => ?_⟩
  have F4 : Fx [] C C3 := Fx.via F3 F2 fun q hq => by
    simp only [List.mem_cons, List.not_mem_nil, or_false] at hq
    rcases hq with rfl | rfl
    · exact .inr ha
    · exact .inr hf
  have hI3 := W3.ins
  have hf3 := W3.hf
  refine wsh_go ?_
  walk_at "pyK"
  refine x_make hx h4 (by walk_at "gl") ?_ (by omega)
  refine wa_cons (lc1 ["first", "last", "entry"] ["shortened"] hd (by walk_at "nm") (by decide +kernel) (by decide +kernel) (by decide +kernel) (by decide +kernel) (wi_list ?_)) rfl
  walk_at "pyK"
  refine ⟨E'.map entD, seqR_own hf3, LcB.map (shD fi la) hf3 (by rw [List.length_map]; exact Nat.le_trans hl' (by decide)) ?_ fun p hp => ?_⟩
  · intro d hdm X' hX hn' hg'
    have hx' := hx.blk hX
    obtain ⟨e, he, rfl⟩ := List.mem_map.mp hdm
    obtain ⟨_, _, k3, k4⟩ := hok e he
    show WE X' _ [some x, some (limN fi), some (limN la), some (limN L.w), some (limN L.d), some (limN L.c), some (.own wk), some (.tup [.str e.kind, .str e.msg, .tup (e.notes.map D.str), .tup e.rows, memD e.mem, lnkD e.link])] _ _
    walk_at "pyS"
    refine ⟨_, rfl, ?_⟩
    walk_at "pyS"
    refine ⟨e.rows, fi, la, rfl, k3, k4, ?_⟩
    walk_at "pyS"
    refine ⟨_, rfl, ?_⟩
    walk_at "pyS"
    exact ⟨rfl, rfl⟩
  · walk_at "pyK"
    intro r hr
    have F5 : Fx [] C (DL.put C3 p (.lst ((E'.map entD).map (shD fi la)))) := F4.put (.inr (Fx.none F4 hp))
    have hr0 := Fx.none F5 hr
    have hmm : (E'.map entD).map (shD fi la) = (E'.map (shortE fi la)).map entD := by rw [List.map_map, List.map_map]; rfl
    have hO : OldIs (DL.put C3 p (.lst ((E'.map entD).map (shD fi la)))) (.own p) (E'.map (shortE fi la)) := .inr (.inr ⟨p, rfl, by rw [hmm]; exact put_same⟩)
    refine ⟨r, _, E'.map (shortE fi la), rfl, put_same, hO.fx ((Fx.refl _).put (.inr hr)) (fun _ _ => List.not_mem_nil), (fun e => hne (List.map_eq_nil_iff.mp e)), fun e he => ?_, fun C4 h6 F6 => ⟨rfl, ?_⟩⟩
    · obtain ⟨e0, h0, rfl⟩ := List.mem_map.mp he
      exact ⟨(hok e0 h0).1, (hok e0 h0).2.1⟩
    · exact h C4 r hr0 h6 (Fx.via F6 (F5.put (.inr hr0)) fun q hq => by rw [List.mem_singleton.mp hq]; exact .inr hr0)
end
end K31
namespace K31
section
variable {P : Program} {w : World} {K : PySem.W.Frag} {mg : Str → Option Value} {base : Heap} {Cl Cr : Addr}
/-- a def whose keyword-only parameters have defaults -/
theorem funD_kw {x qual : Str} {params : Arguments} {body : List Stmt} {scope : Scope} {kws : List (Str × V)} {f kd : Addr} {oc cdv ct doc pm : Value} {od an : Option Addr} {osl : Array (Option Value)}
    (l : K.lookup f = some ⟨oc, od, .func (PySem.W.fnOf x qual params body scope .none (.ref kd) doc pm an cdv ct), osl⟩) (c : PySem.W.codeIn K cdv qual = true) (k : PySem.W.keepIn K (.ref f) = true) (hw : ∀ q ∈ kws, ∃ v, PySem.W.nsIn K kd q.1 = some (some v) ∧ RelV q.2 v) :
    FunD K x qual params body scope [] kws f (PySem.W.fnOf x qual params body scope .none (.ref kd) doc pm an cdv ct) :=
  ⟨⟨oc, od, .none, .ref kd, doc, pm, an, cdv, ct, osl, rfl, l, c, .inl ⟨rfl, rfl⟩, .inr ⟨kd, rfl, hw⟩⟩, k⟩
abbrev walkKw : List (Str × V) := [("width", .non), ("depth", .non), ("chain", .non)]
abbrev cutKw : List (Str × V) := [("first", .non), ("last", .non), ("width", .non), ("depth", .non), ("chain", .non)]
theorem fk_wInit {f : Addr} {fd : FuncData} (FD : FunD K "__init__" "Walk.__init__" (defArgs s_Walk___init__) (defBody s_Walk___init__) (defScope s_Walk___init__) [] walkKw f fd) (F : FnG P w K mg base CX0 1 f fd P_Walk___init__ (toSp K (spWInit Cl))) : FnK P w K mg base f 1 2 ["width", "depth", "chain"] (fun ds zs => ds ++ zs) (spWInit Cl) := by
  obtain ⟨mv, hb⟩ := FD.kbinds0 (ps := P_Walk___init__) 2 ["width", "depth", "chain"] [] (fun us mv ws => us ++ ws) (by simp) (by simp) (fun a b c => a.append c) fun D doc pm an cdv ct us mv ws h1 h2 h3 => match us, mv, ws, h1, h2, h3 with
    | [_, _], [], [_, _, _], _, _, _ => rfl
  exact ⟨fd, _, _, _, F, hb, fun G vs ds zs es h1 h2 _ _ => h1.append h2⟩
section
variable {f : Addr} {fd : FuncData} (FD : FunD K "cut" "Record.cut" (defArgs s_Record_cut) (defBody s_Record_cut) (defScope s_Record_cut) [] cutKw f fd)
include FD
theorem bd_cut : ∃ ds, Vals [V.non, .non, .non, .non, .non] ds ∧ Binds K fd P_Record_cut ds :=
  FD.binds0 (ps := P_Record_cut) 1 (by simp) rfl fun D doc pm an cdv ct us ks h1 h2 => match us, ks, h1, h2 with
    | [_], [_, _, _, _, _], _, _ => ⟨_, _, _, _, _, _, rfl, rfl, _, _, _, _, _, _, rfl, rfl, _, _, _, _, _, _, rfl, rfl, _, _, _, _, _, _, rfl, rfl, _, _, _, _, _, _, rfl, rfl, rfl⟩
end
theorem kw5 {kd : Addr} (w1 : PySem.W.nsIn K kd "first" = some (some .none)) (w2 : PySem.W.nsIn K kd "last" = some (some .none)) (w3 : PySem.W.nsIn K kd "width" = some (some .none)) (w4 : PySem.W.nsIn K kd "depth" = some (some .none)) (w5 : PySem.W.nsIn K kd "chain" = some (some .none)) : ∀ q ∈ cutKw, ∃ v, PySem.W.nsIn K kd q.1 = some (some v) ∧ RelV q.2 v := fun q hq => by
  simp only [List.mem_cons, List.not_mem_nil, or_false] at hq
  rcases hq with rfl | rfl | rfl | rfl | rfl
  · exact ⟨_, w1, rfl⟩
  · exact ⟨_, w2, rfl⟩
  · exact ⟨_, w3, rfl⟩
  · exact ⟨_, w4, rfl⟩
  · exact ⟨_, w5, rfl⟩
theorem kw3 {kd : Addr} (w3 : PySem.W.nsIn K kd "width" = some (some .none)) (w4 : PySem.W.nsIn K kd "depth" = some (some .none)) (w5 : PySem.W.nsIn K kd "chain" = some (some .none)) : ∀ q ∈ walkKw, ∃ v, PySem.W.nsIn K kd q.1 = some (some v) ∧ RelV q.2 v := fun q hq => by
  simp only [List.mem_cons, List.not_mem_nil, or_false] at hq
  rcases hq with rfl | rfl | rfl
  · exact ⟨_, w3, rfl⟩
  · exact ⟨_, w4, rfl⟩
  · exact ⟨_, w5, rfl⟩
end
end K31
namespace K31
section
variable {P : Program} {w : World} {K : PySem.W.Frag} {mg : Str → Option Value} {base : Heap} {Cr Cw Ce : Addr}
abbrev bmAE : List Value := [.type "ArithmeticError", .type "Exception", .type "BaseException", .type "object"]
theorem boot_ArithE : bootBuiltins "ArithmeticError" = some (.type "ArithmeticError") := by decide +kernel
theorem ok_xNoLimit {fI : Addr} {fd : FuncData} (F : Fun K "__init__" "NoLimit.__init__" s_NoLimit___init__ fI fd) (T : OxB K "ArithmeticError.__new__" bmAE Ce) (hm : mg "ArithmeticError" = none)
    (vV : PySem.W.findCls K (.type "ArithmeticError") (.type "type") "__init__" = some (.val (.builtin "ArithmeticError.__init__"))) (hno : PySem.W.findIn K (.ref Ce) "name" = some none) (n : Nat) : FnOk P w K mg base CX0 (n + 1) fI fd P_NoLimit___init__ (spXI Ce "name") := by
  refine F.ok sc_NoLimit___init__ (fun vs H Q E h => by obtain ⟨a, y, rfl, _⟩ := h; rfl) fun cdv A outer s H vs Q E hr h => ?_
  obtain ⟨a, y, rfl, ha, hq⟩ := h
  obtain ⟨X, hX⟩ : ∃ X : Cx, X = (cxOf CX0 P w K mg base N_NoLimit___init__ "NoLimit.__init__" (defScope s_NoLimit___init__) fI cdv A outer s H E).nox := ⟨_, rfl⟩
  have hNm : Nms X N_NoLimit___init__ M_NoLimit___init__ := by rw [hX]; exact nms_of rfl (sc := defScope s_NoLimit___init__) rfl sc_NoLimit___init__.nd v_NoLimit___init__
  have hGl : Gls X D_NoLimit___init__ := by rw [hX]; exact gls_of (sc := defScope s_NoLimit___init__) rfl g_NoLimit___init__
  have hmg : X.mg = mg := by rw [hX]; rfl
  have hK : X.K = K := by rw [hX]; rfl
  rw [← hX]
  clear hX
  have i0 : X.N[0]? = some ("self" : Str) := by rw [hNm.n]; rfl
  have i1 : X.N[1]? = some ("name" : Str) := by rw [hNm.n]; rfl
  have b0 := fun p => pe_var (X := X) (i := 0) (pos := p) i0 (hNm.vis "self" (by simp))
  have b1 := fun p => pe_var (X := X) (i := 1) (pos := p) i1 (hNm.vis "name" (by simp))
  refine ⟨_, pss_cons (ps_expr (pe_bI xb_ArithmeticError (hGl.gl "ArithmeticError" (by simp)) (by rw [hmg]; exact hm) boot_ArithE (by rw [hK]; exact vV) (pa_cons (b0 _) (pa_cons pe_str pa_nil)) (by decide) (by decide) rfl (by decide +kernel))) (pss_cons (ps_ostB xb_ArithmeticError (b0 _) (b1 _)) pss_nil), ?_⟩
  refine ⟨V.ref a, rfl, ?_⟩
  refine ⟨a, Ce, [.str "not a limit"], rfl, by simp, by rw [hK]; exact T, ha, ?_⟩
  refine ⟨y, rfl, V.ref a, rfl, a, Ce, rfl, by rw [hK]; exact T, by rw [hK]; exact hno, ha, fun dx h1 h2 => ?_⟩
  exact hq dx h1 h2
/-! the first limit that is none -/
def okL (nm : Str) (d : D) : Bool := d.isNon || geB d (if (nm == "width") = true then 1 else 0)
def badL : List (Str × D) → Option Str
  | [] => none
  | (nm, d) :: r => if okL nm d = true then badL r else some nm
abbrev limS (a b c d e : D) : List (Str × D) := [("first", a), ("last", b), ("width", c), ("depth", d), ("chain", e)]
def spLooksX (Ce : Addr) : DSpX := fun ds C _ kx => ∃ q a b c d e nm, ds = [.own q] ∧ C q = some (.dic (limK a b c d e)) ∧ (∀ y ∈ [a, b, c, d, e], y.kind = true) ∧ badL (limS a b c d e) = some nm ∧ kx (.ref Ce) [("name", .str nm)] (del C q)
theorem ok_lookLimitsX {f : Addr} {fd : FuncData} (n : Nat) (hn9 : n ≤ 1) (F : Fun K "look_limits" "look_limits" s_look_limits f fd) (Z : Zs mg) (h1 : FnC P w K mg base "is_from" 2 spIsFrom) (hX : XMk P w K mg base "NoLimit" Ce "name" n) : FnG P w K mg base (L2.CX P w) 3 f fd P_look_limits (toSpX K (spLooksX Ce)) := by
  refine fnXP F sc_look_limits v_look_limits l_look_limits g_look_limits (fun ds C k kx h => by obtain ⟨_, _, _, _, _, _, _, rfl, _⟩ := h; rfl) fun X A hB ds k kx h hT => ?_
  obtain ⟨q, a, b, c, d, e, nm, rfl, hq, hk, hbad, h⟩ := h
  obtain ⟨hxX, hBn, hpo⟩ := hB
  obtain ⟨hx, hn, hs, hg, hd, hnox⟩ := hBn
  have hnX := hn.ofnox
  have hsX := hs.ofnox
  have hgX := hg.ofnox
  change WSsA X A _ [some (.own q), none, none] A.C _
  have hk2 : ∀ (i : Nat) (ky : Key) (y : D), (limK a b c d e)[i]? = some (ky, y) → ∃ nm : Str, ky = (Sum.inr nm : Key) ∧ y.kind = true ∧ (limS a b c d e).drop i = (nm, y) :: (limS a b c d e).drop (i + 1) := by
    intro i ky y hi
    match i, hi with
    | 0, hi => simp [limK] at hi; obtain ⟨rfl, rfl⟩ := hi; exact ⟨_, rfl, hk _ (by simp), rfl⟩
    | 1, hi => simp [limK] at hi; obtain ⟨rfl, rfl⟩ := hi; exact ⟨_, rfl, hk _ (by simp), rfl⟩
    | 2, hi => simp [limK] at hi; obtain ⟨rfl, rfl⟩ := hi; exact ⟨_, rfl, hk _ (by simp), rfl⟩
    | 3, hi => simp [limK] at hi; obtain ⟨rfl, rfl⟩ := hi; exact ⟨_, rfl, hk _ (by simp), rfl⟩
    | 4, hi => simp [limK] at hi; obtain ⟨rfl, rfl⟩ := hi; exact ⟨_, rfl, hk _ (by simp), rfl⟩
    | i + 5, hi => simp [limK] at hi
  refine wssA_cons ?_
  refine wsA_forItems hpo hxX.calm hq ?_
  refine we_nm hnX (by walk_at "nm") (by walk_at "nm") ?_
  refine ⟨rfl, fun i env' C' => C' = del A.C q ∧ badL ((limS a b c d e).drop i) = some nm ∧ ∃ o1 o2, env' = [some (.own q), o1, o2], ⟨rfl, hbad, _, _, rfl⟩, ?_, ?_⟩
  · rintro i ky y env' C' hi ⟨rfl, hbi, o1, o2, rfl⟩
    obtain ⟨n1, rfl, hyk, hdr⟩ := hk2 _ _ _ hi
    rw [hdr] at hbi
    show WG X _ (.tup [.str n1, y]) _ _ _
    refine wg_tup hxX.calm rfl (wgs_cons (wg_nm hsX (by walk_at "nm") (by walk_at "nm") (wgs_cons (wg_nm hsX (by walk_at "nm") (by walk_at "nm") (wgs_nil ?_)))))
    have hstop : okL n1 y = false → n1 = nm := fun ho => by
      simp only [badL, ho, Bool.false_eq_true, if_false] at hbi
      exact Option.some.inj hbi
    have hgo : okL n1 y = true → badL ((limS a b c d e).drop (i + 1)) = some nm := fun ho => by
      simp only [badL, ho, if_true] at hbi
      exact hbi
    refine wssA_cons (wsA_if ?_)
    walk_at "pyK"
    · rename_i q1
      refine eq_sS ?_
      have hw : okL n1 y = geB y (if (n1 == "width") = true then 1 else 0) := by
        unfold okL
        rw [show y.isNon = false by simpa using q1]
        rfl
      walk_at "pyK"
      · rename_i q2
        rw [if_pos q2] at hw
        refine ⟨y, 1, rfl, hyk, ?_⟩
        rw [← hw]
        walk_at "pyK"
        · rename_i q3
          have en := hstop (by simpa using q3)
          subst en
          refine wssA_cons (wsA_raise1 hxX hX hT (Gls.at hgX (by walk_at "nm")) ?_ (by omega))
          walk_at "pyK"
          exact h
        · rename_i q3
          exact wssA_nil (wssA_nil ⟨rfl, hgo (by simpa using q3), _, _, rfl⟩)
      · rename_i q2
        rw [if_neg (by rw [q2]; decide)] at hw
        refine ⟨y, 0, rfl, hyk, ?_⟩
        rw [← hw]
        walk_at "pyK"
        · rename_i q3
          have en := hstop (by simpa using q3)
          subst en
          refine wssA_cons (wsA_raise1 hxX hX hT (Gls.at hgX (by walk_at "nm")) ?_ (by omega))
          walk_at "pyK"
          exact h
        · rename_i q3
          exact wssA_nil (wssA_nil ⟨rfl, hgo (by simpa using q3), _, _, rfl⟩)
    · rename_i q1
      refine wssA_nil (wssA_nil ⟨rfl, hgo ?_, _, _, rfl⟩)
      unfold okL
      rw [show y.isNon = true by simpa using q1]
      rfl
  · rintro env' C' ⟨rfl, hbi, o1, o2, rfl⟩
    exact absurd hbi (by simp [badL, limK])
def spCutX (Cr Ce : Addr) : DSpX := fun ds C _ kx => ∃ x E a b c d e nm, ds = [x, a, b, c, d, e] ∧ RecIs Cr C x E ∧ (∀ y ∈ [a, b, c, d, e], y.kind = true) ∧ badL (limS a b c d e) = some nm ∧ kx (.ref Ce) [("name", .str nm)] C
theorem ok_cutX {f : Addr} {fd : FuncData} (F : Fun K "cut" "Record.cut" s_Record_cut f fd) (hL : FnXC P w K mg base "look_limits" 3 [] (spLooksX Ce)) : FnG P w K mg base (L2.CX P w) 45 f fd P_Record_cut (toSpX K (spCutX Cr Ce)) := by
  refine fnXE F sc_Record_cut v_Record_cut l_Record_cut g_Record_cut (fun ds C k kx h => by obtain ⟨_, _, _, _, _, _, _, _, rfl, _⟩ := h; rfl) fun X A hB ds k kx h hT => ?_
  obtain ⟨x, E, a, b, c, d, e, nm, rfl, hR, hk, hbad, h⟩ := h
  obtain ⟨hxX, hx, hn, hs, hg, hd, hnox⟩ := hB
  have hgX : Gls X D_Record_cut := ⟨hg.gl⟩
  change WSsA X A _ [some x, some a, some b, some c, some d, some e, none, none] A.C _
  refine wssA_cons (wsA_expr (weA_callX hxX hL hT (Gls.at hgX (by walk_at "nm")) ?_ (by omega)))
  refine wa_cons ?_ rfl
  refine x_disp (wd_cons ?_)
  walk_at "pyK"
  refine wd_cons ?_
  walk_at "pyK"
  refine wd_cons ?_
  walk_at "pyK"
  refine wd_cons ?_
  walk_at "pyK"
  refine wd_cons ?_
  walk_at "pyK"
  refine wd_nil ?_
  refine ⟨limK a b c d e, rfl, Nat.le_of_ble_eq_true rfl, fun q hq => ?_⟩
  rw [merge_lim]
  walk_at "pyK"
  refine ⟨q, a, b, c, d, e, nm, rfl, put_same, hk, hbad, ?_⟩
  rw [del_put hq]
  exact h
/-! limits of any size -/
theorem okL_lim {nm : Str} {d : D} (h : okL nm d = true) : ∃ o : Option Nat, d = limN o ∧ ((nm == "width") = true → ∀ m, o = some m → 1 ≤ m) := by
  unfold okL at h
  cases d with
  | non => exact ⟨none, rfl, fun _ m e => nomatch e⟩
  | int i =>
    have hg : geB (.int i) (if (nm == "width") = true then 1 else 0) = true := by simpa [D.isNon] using h
    have hi : (if (nm == "width") = true then (1 : Int) else 0) ≤ i := of_decide_eq_true hg
    have h0 : 0 ≤ i := by split at hi <;> omega
    refine ⟨some i.toNat, ?_, fun hw m e => ?_⟩
    · show D.int i = .int ((i.toNat : Nat) : Int)
      rw [Int.toNat_of_nonneg h0]
    · rw [if_pos hw] at hi
      cases e
      omega
  | _ => simp [D.isNon, geB] at h
theorem badL_ok {a b c d e : D} (h : badL (limS a b c d e) = none) : ∃ (fi la : Option Nat) (L : Lim), a = limN fi ∧ b = limN la ∧ c = limN L.w ∧ d = limN L.d ∧ e = limN L.c ∧ ∀ m, L.w = some m → 1 ≤ m := by
  unfold limS at h
  simp only [badL] at h
  split at h
  · rename_i h1
    split at h
    · rename_i h2
      split at h
      · rename_i h3
        split at h
        · rename_i h4
          split at h
          · rename_i h5
            obtain ⟨fi, rfl, _⟩ := okL_lim h1
            obtain ⟨la, rfl, _⟩ := okL_lim h2
            obtain ⟨w, rfl, hw⟩ := okL_lim h3
            obtain ⟨d, rfl, _⟩ := okL_lim h4
            obtain ⟨c, rfl, _⟩ := okL_lim h5
            exact ⟨fi, la, ⟨w, d, c⟩, rfl, rfl, rfl, rfl, rfl, hw (by decide +kernel)⟩
          · cases h
        · cases h
      · cases h
    · cases h
  · cases h
end
end K31
namespace K31
section
variable {P : Program} {w : World} {K : PySem.W.Frag} {mg : Str → Option Value} {base : Heap} {Cr Cw Ce Cd : Addr}
abbrev gAll (ds zs : List D) : List D := ds ++ zs
theorem fk_cut5 {f : Addr} {fd : FuncData} (FD : FunD K "cut" "Record.cut" (defArgs s_Record_cut) (defBody s_Record_cut) (defScope s_Record_cut) [] cutKw f fd) (F : FnG P w K mg base CX0 45 f fd P_Record_cut (toSp K (spCut Cr 21))) : FnK P w K mg base f 45 1 ["first", "last", "width", "depth", "chain"] gAll (spCut Cr 21) := by
  obtain ⟨mv, hb⟩ := FD.kbinds0 (ps := P_Record_cut) 1 ["first", "last", "width", "depth", "chain"] [] (fun us mv ws => us ++ ws) (by simp) (by simp) (fun a b c => a.append c) fun D doc pm an cdv ct us mv ws h1 h2 h3 => match us, mv, ws, h1, h2, h3 with
    | [_], [], [_, _, _, _, _], _, _, _ => rfl
  exact ⟨fd, _, _, _, F, hb, fun G vs ds zs es h1 h2 _ _ => h1.append h2⟩
theorem fk_cut5X {f : Addr} {fd : FuncData} (FD : FunD K "cut" "Record.cut" (defArgs s_Record_cut) (defBody s_Record_cut) (defScope s_Record_cut) [] cutKw f fd) (F : FnG P w K mg base (L2.CX P w) 45 f fd P_Record_cut (toSpX K (spCutX Cr Ce))) : FnKX P w K mg base f 45 1 ["first", "last", "width", "depth", "chain"] gAll (spCutX Cr Ce) := by
  obtain ⟨mv, hb⟩ := FD.kbinds0 (ps := P_Record_cut) 1 ["first", "last", "width", "depth", "chain"] [] (fun us mv ws => us ++ ws) (by simp) (by simp) (fun a b c => a.append c) fun D doc pm an cdv ct us mv ws h1 h2 h3 => match us, mv, ws, h1, h2, h3 with
    | [_], [], [_, _, _, _, _], _, _, _ => rfl
  exact ⟨fd, _, _, _, F, hb, fun G vs ds zs es h1 h2 _ _ => h1.append h2⟩
end
end K31
namespace K31
section
variable {P : Program} {w : World} {K : PySem.W.Frag} {mg : Str → Option Value} {base : Heap} {Cr Cw Ce Cd Cs : Addr}
/-! styles: their limits -/
def spIsLimit : DSp := fun ds C k => ∃ nm d, ds = [.str nm, d] ∧ nm.length ≤ 10 ∧ d.kind = true ∧ k (.bl (okL nm d)) C
theorem ok_isLimit {f : Addr} {fd : FuncData} (F : Fun K "is_limit" "is_limit" s_is_limit f fd) (Z : Zs mg) : FnG P w K mg base CX0 1 f fd P_is_limit (toSp K spIsLimit) := by
  refine fnX F sc_is_limit v_is_limit l_is_limit g_is_limit (fun ds C k h => by obtain ⟨_, _, rfl, _⟩ := h; rfl) fun X hB ds C k h => ?_
  obtain ⟨nm, d, rfl, hl, hk, h⟩ := h
  obtain ⟨hx, hn, hs, hg, hd, hnox⟩ := hB
  change WSs X _ [some (.str nm), some d] C _
  refine wss_cons ?_
  walk_at "pyK"
  · rename_i q
    rw [show okL nm d = true by unfold okL; rw [q]; rfl] at h
    exact h
  · rename_i q1 q2 q3
    obtain ⟨i, rfl⟩ := isI_eq (x := d) (by rw [isI_of, q2, q3]; rfl)
    have e : okL nm (.int i) = decide ((if (nm == "width") = true then (1 : Int) else 0) ≤ i) := rfl
    rw [e] at h
    refine eq_sS ?_
    cases hw : (nm == "width") with
    | true =>
      rw [hw, if_pos rfl] at h
      walk_at "pyK"
      exact h
    | false =>
      rw [hw, if_neg (by decide)] at h
      walk_at "pyK"
      exact h
  · rename_i q1 q2 q3
    have hi : isI d = false := by rw [isI_of, q2, q3]; rfl
    rw [show okL nm d = false by unfold okL; rw [q1, geB_no hi]; rfl] at h
    exact h
  · rename_i q1 q2
    have hi : isI d = false := by rw [isI_of, q2]; rfl
    rw [show okL nm d = false by unfold okL; rw [q1, geB_no hi]; rfl] at h
    exact h
/-! the law's own: what is due -/
def spDueL : DSp := fun ds C k => ∃ a b c d e, ds = [.lst [a, b, c, d, e]] ∧ (∀ y ∈ [a, b, c, d, e], y.kind = true) ∧ k (.str ((badL (limS a b c d e)).getD "")) C
theorem ok_dueL {f : Addr} {fd : FuncData} (F : Fun K "_law_due" "_law_due" s_due f fd) (Z : Zs mg) : FnG P w K mg base CX0 1 f fd P_due (toSp K spDueL) := by
  refine fnX F sc_due v_due l_due g_due (fun ds C k h => by obtain ⟨_, _, _, _, _, rfl, _⟩ := h; rfl) fun X hB ds C k h => ?_
  obtain ⟨a, b, c, d, e, rfl, hk, h⟩ := h
  obtain ⟨hx, hn, hs, hg, hd, hnox⟩ := hB
  change WSs X _ [some (.lst [a, b, c, d, e]), none, none] C _
  have hk2 : ∀ (i : Nat) (y : D), [a, b, c, d, e][i]? = some y → y.kind = true ∧ i < 5 ∧ ∃ nm : Str, (limS a b c d e).drop i = (nm, y) :: (limS a b c d e).drop (i + 1) ∧ [D.str "first", .str "last", .str "width", .str "depth", .str "chain"][i]? = some (.str nm) ∧ (nm == "width") = decide (i = 2) := by
    intro i y hi
    match i, hi with
    | 0, hi => simp at hi; subst hi; exact ⟨hk _ (by simp), by decide, _, rfl, rfl, by decide +kernel⟩
    | 1, hi => simp at hi; subst hi; exact ⟨hk _ (by simp), by decide, _, rfl, rfl, by decide +kernel⟩
    | 2, hi => simp at hi; subst hi; exact ⟨hk _ (by simp), by decide, _, rfl, rfl, by decide +kernel⟩
    | 3, hi => simp at hi; subst hi; exact ⟨hk _ (by simp), by decide, _, rfl, rfl, by decide +kernel⟩
    | 4, hi => simp at hi; subst hi; exact ⟨hk _ (by simp), by decide, _, rfl, rfl, by decide +kernel⟩
    | i + 5, hi => simp at hi
  have h0 : badL ((limS a b c d e).drop 0) = badL (limS a b c d e) := rfl
  generalize badL (limS a b c d e) = B at h h0
  refine wss_cons ?_
  refine x_for hx hnox (wi_enum (hx.zs Z).enum (by walk_at "gl") ?_)
  walk_at "pyK"
  refine ⟨_, _, rfl, .inl ⟨rfl, ?_⟩⟩
  refine ⟨fun i env C' => C' = C ∧ badL ((limS a b c d e).drop i) = B ∧ ∃ o1 o2, env = [some (.lst [a, b, c, d, e]), o1, o2], ⟨rfl, h0, _, _, rfl⟩, (fun _ _ _ _ _ z => nomatch z), ?_, ?_⟩
  · rintro i y env C' hi ⟨rfl, hb, o1, o2, rfl⟩
    obtain ⟨z, hzi, rfl⟩ := enumD_get hi
    obtain ⟨hzk, hi5, nm, hdr, hnm, hw⟩ := hk2 i z hzi
    rw [hdr] at hb
    have hgo : okL nm z = true → badL ((limS a b c d e).drop (i + 1)) = B := fun ho => by
      simp only [badL, ho, if_true] at hb
      exact hb
    have hst : okL nm z = false → B.getD "" = nm := fun ho => by
      simp only [badL, ho, Bool.false_eq_true, if_false] at hb
      rw [← hb]; rfl
    have hokI : ∀ j : Int, z = .int j → okL nm z = decide ((if i = 2 then (1 : Int) else 0) ≤ j) := fun j hj => by
      subst hj
      unfold okL
      rw [hw]
      by_cases h2 : i = 2 <;> simp [h2, D.isNon, geB]
    have fin : okL nm z = false → dIx (.lst [D.str "first", .str "last", .str "width", .str "depth", .str "chain"]) (.int (i : Nat)) C' k := fun ho => by
      refine ix_f (at_nat hnm) ?_
      rw [← hst ho]; exact h
    walk_at "pyK"
    · rename_i q
      exact ⟨rfl, hgo (by unfold okL; rw [q]; rfl), _, _, rfl⟩
    · rename_i q1 q2
      have hi : isI z = false := by rw [isI_of, show z.isIntB = false by simpa using q2]; rfl
      refine we_lstF ?_
      walk_at "pyA"
      exact Or.inl (fin (by unfold okL; rw [q1, geB_no hi]; rfl))
    · rename_i q1 q2 q3
      have hi : isI z = false := by rw [isI_of, q3, Bool.not_true, Bool.and_false]
      refine we_lstF ?_
      walk_at "pyA"
      exact Or.inl (fin (by unfold okL; rw [q1, geB_no hi]; rfl))
    · rename_i q1 q2 q3
      obtain ⟨j, rfl⟩ := isI_eq (x := z) (by rw [isI_of, show z.isIntB = true by simpa using q2, q3]; rfl)
      have hj := hokI j rfl
      have e2 : (((i : Nat) : Int) == 2) = decide (i = 2) := by
        by_cases h2 : i = 2
        · subst h2; rfl
        · have : ¬ ((i : Nat) : Int) = 2 := fun z => h2 (by omega)
          simp [h2, this]
      rw [e2]
      have e3 : (if decide (i = 2) = true then (1 : Int) else 0) = if i = 2 then 1 else 0 := by
        by_cases h2 : i = 2 <;> simp [h2]
      rw [e3]
      walk_at "pyK"
      · rename_i q4
        have q4 := of_decide_eq_true q4
        refine we_lstF ?_
        walk_at "pyA"
        exact Or.inl (fin (by rw [hj]; exact decide_eq_false (by omega)))
      · rename_i q4
        have q4 := of_decide_eq_false q4
        exact ⟨rfl, hgo (by rw [hj]; exact decide_eq_true (by omega)), _, _, rfl⟩
  · rintro env C' ⟨rfl, hb, o1, o2, rfl⟩
    have hB : B = none := hb.symm
    rw [hB] at h
    walk_at "pyK"
    exact h
end
end K31
namespace K31
section
variable {P : Program} {w : World} {K : PySem.W.Frag} {mg : Str → Option Value} {base : Heap} {Cr Cw Ce Cd Cs : Addr}
/-- a smaller table of cells is enough for what is raised -/
theorem thr_sub {X : Cx} {A : Anc} {kx : DEnv → KX} (T : Thr X A kx) : Thr X A fun env cls fs C' => ∃ C1, (∀ a c, C1 a = some c → C' a = some c) ∧ kx env cls fs C1 := by
  obtain ⟨W, tk, h⟩ := T
  refine ⟨W, tk, fun cls fs od σ env G' C' H' fr w' er ex hk => ?_⟩
  obtain ⟨C1, hs, hk⟩ := hk
  obtain ⟨w1, f1⟩ := w'.sub hs
  exact h cls fs od σ env G' C1 H' (fr.trans f1) w1 er (ex.fr f1) hk
theorem wssA_sub {X : Cx} {A : Anc} {sts : List Stmt} {env : DEnv} {C C1 : CS} {E : DEnds} (hs : ∀ a c, C1 a = some c → C a = some c) (h : WSsA X A sts env C1 E) : WSsA X A sts env C E := by
  intro G σ H D w er fr q
  obtain ⟨w1, f1⟩ := w.sub hs
  exact h G σ H D w1 er (fr.trans f1) (q.after f1)
abbrev styKs : List Str := ["limits"]
def spStyI (Cs Ce : Addr) : DSpX := fun ds C k kx => ∃ p a b c d e, ds = [.own p, a, b, c, d, e] ∧ C p = some (.ins Cs [] []) ∧ (∀ y ∈ [a, b, c, d, e], y.kind = true) ∧
  (badL (limS a b c d e) = none → k .non (put C p (.ins Cs styKs [.tup [a, b, c, d, e]]))) ∧ ∀ nm, badL (limS a b c d e) = some nm → kx (.ref Ce) [("name", .str nm)] (del C p)
abbrev namesD : D := .tup ((["first", "last", "width", "depth", "chain"] : List Str).map D.str)
theorem ok_styI {f : Addr} {fd : FuncData} (n : Nat) (hn9 : n ≤ 1) (F : Fun K "__init__" "Style.__init__" s_Style___init__ f fd) (Z : Zs mg) (hF : FldC K Cs "limits") (g1 : MgK K mg "NAMES" namesD) (h1 : FnC P w K mg base "is_limit" 1 spIsLimit) (hX : XMk P w K mg base "NoLimit" Ce "name" n) : FnG P w K mg base (L2.CX P w) 4 f fd P_Style___init__ (toSpX K (spStyI Cs Ce)) := by
  refine fnXP F sc_Style___init__ v_Style___init__ l_Style___init__ g_Style___init__ (fun ds C k kx h => by obtain ⟨_, _, _, _, _, _, rfl, _⟩ := h; rfl) fun X A hB ds k kx h hT => ?_
  obtain ⟨p, a, b, c, d, e, rfl, hp, hk, hgood, hbad⟩ := h
  obtain ⟨hxX, hBn, hpo⟩ := hB
  obtain ⟨hx, hn, hs, hg, hd, hnox⟩ := hBn
  have hnX := hn.ofnox
  have hsX := hs.ofnox
  have hgX := hg.ofnox
  change WSsA X A _ [some (.own p), some a, some b, some c, some d, some e, none, none] A.C _
  have hk2 : ∀ (i : Nat) (y : D), (zipD ((["first", "last", "width", "depth", "chain"] : List Str).map D.str) [a, b, c, d, e])[i]? = some y → ∃ (nm : Str) (z : D), y = .tup [.str nm, z] ∧ nm.length ≤ 10 ∧ z.kind = true ∧ (limS a b c d e).drop i = (nm, z) :: (limS a b c d e).drop (i + 1) := by
    intro i y hi
    match i, hi with
    | 0, hi => simp [zipD] at hi; subst hi; exact ⟨_, _, rfl, by decide, hk _ (by simp), rfl⟩
    | 1, hi => simp [zipD] at hi; subst hi; exact ⟨_, _, rfl, by decide, hk _ (by simp), rfl⟩
    | 2, hi => simp [zipD] at hi; subst hi; exact ⟨_, _, rfl, by decide, hk _ (by simp), rfl⟩
    | 3, hi => simp [zipD] at hi; subst hi; exact ⟨_, _, rfl, by decide, hk _ (by simp), rfl⟩
    | 4, hi => simp [zipD] at hi; subst hi; exact ⟨_, _, rfl, by decide, hk _ (by simp), rfl⟩
    | i + 5, hi => simp [zipD] at hi
  refine wssA_cons (wsA_nox ?_)
  refine x_setFld hx ?_
  walk_at "pyK"
  refine ⟨p, Cs, [], [], styKs, [.tup [a, b, c, d, e]], rfl, hp, hF, by decide, .nil, ?_⟩
  have hC1 : DL.put A.C p (.ins Cs styKs [.tup [a, b, c, d, e]]) p = some (.ins Cs styKs [.tup [a, b, c, d, e]]) := put_same
  have hC2 : ∀ x y, DL.del A.C p x = some y → DL.put A.C p (.ins Cs styKs [.tup [a, b, c, d, e]]) x = some y := fun x y hxy => by
    by_cases hxp : x = p
    · subst hxp; rw [DL.del_same] at hxy; cases hxy
    · rw [put_ne hxp]; rwa [DL.del_ne hxp] at hxy
  generalize DL.put A.C p (.ins Cs styKs [.tup [a, b, c, d, e]]) = C1 at hC1 hC2 hgood ⊢
  refine wssA_cons ?_
  refine wsA_for hpo hxX.calm ?_
  refine wi_zipS hxX Z (Gls.at hgX (by walk_at "nm")) ?_
  walk_at "pyK"
  refine ⟨Cs, _, _, .tup [a, b, c, d, e], insD_own hC1, hF, .here _ _ _ _, ?_⟩
  walk_at "pyK"
  refine wk_cons ?_
  walk_at "pyK"
  refine wk_nil ?_
  refine ⟨_, _, rfl, rfl, rfl, ?_⟩
  refine ⟨fun i env' C' => C' = C1 ∧ (badL ((limS a b c d e).drop i) = badL (limS a b c d e)) ∧ ∃ o1 o2, env' = [some (.own p), some a, some b, some c, some d, some e, o1, o2], ⟨rfl, rfl, _, _, rfl⟩, fun _ _ _ _ => trivial, ?_, ?_⟩
  · rintro i y env' C' hi ⟨rfl, hbi, o1, o2, rfl⟩
    obtain ⟨n1, z, rfl, hn1, hzk, hdr⟩ := hk2 _ _ hi
    rw [hdr] at hbi
    refine wg_tup hxX.calm rfl (wgs_cons (wg_nm hsX (by walk_at "nm") (by walk_at "nm") (wgs_cons (wg_nm hsX (by walk_at "nm") (by walk_at "nm") (wgs_nil ?_)))))
    refine wssA_cons (wsA_if ?_)
    walk_at "pyK"
    refine ⟨n1, z, rfl, hn1, hzk, ?_⟩
    walk_at "pyK"
    · rename_i q
      have ho : okL n1 z = false := by simpa using q
      simp only [badL, ho, Bool.false_eq_true, if_false] at hbi
      refine wssA_cons (wsA_raise1 hxX hX (thr_sub hT) (Gls.at hgX (by walk_at "nm")) ?_ (by omega))
      walk_at "pyK"
      exact ⟨_, hC2, hbad n1 hbi.symm⟩
    · rename_i q
      have ho : okL n1 z = true := by simpa using q
      simp only [badL, ho, if_true] at hbi
      exact wssA_nil (wssA_nil ⟨rfl, hbi, _, _, rfl⟩)
  · rintro env' C' ⟨rfl, hbi, o1, o2, rfl⟩
    refine wssA_nil ?_
    exact hgood (hbi.symm.trans rfl)
end
end K31
namespace K31
section
variable {P : Program} {w : World} {K : PySem.W.Frag} {mg : Str → Option Value} {base : Heap} {Cr Cw Ce Cd Cs : Addr}
theorem fk_sty {f : Addr} {fd : FuncData} (FD : FunD K "__init__" "Style.__init__" (defArgs s_Style___init__) (defBody s_Style___init__) (defScope s_Style___init__) [] cutKw f fd) (F : FnG P w K mg base (L2.CX P w) 4 f fd P_Style___init__ (toSpX K (spStyI Cs Ce))) : FnKX P w K mg base f 4 1 ["first", "last", "width", "depth", "chain"] gAll (spStyI Cs Ce) := by
  obtain ⟨mv, hb⟩ := FD.kbinds0 (ps := P_Style___init__) 1 ["first", "last", "width", "depth", "chain"] [] (fun us mv ws => us ++ ws) (by simp) (by simp) (fun a b c => a.append c) fun D doc pm an cdv ct us mv ws h1 h2 h3 => match us, mv, ws, h1, h2, h3 with
    | [_], [], [_, _, _, _, _], _, _, _ => rfl
  exact ⟨fd, _, _, _, F, hb, fun G vs ds zs es h1 h2 _ _ => h1.append h2⟩
abbrev fiveK : List Str := ["first", "last", "width", "depth", "chain"]
/-- the style of limits: it is made, or the first bad name is raised; what else stands is kept -/
def spSty (Ce : Addr) : DSpX := fun ds C k kx => ∃ x a b c d e, ds = [x] ∧ seqR C x = some [a, b, c, d, e] ∧ (∀ y ∈ [a, b, c, d, e], y.kind = true) ∧
  (badL (limS a b c d e) = none → ∀ r C', (∀ q c, C q = some c → C' q = some c) → k r C') ∧ ∀ nm, badL (limS a b c d e) = some nm → kx (.ref Ce) [("name", .str nm)] C
theorem ix_R {x : D} {i : Int} {C : CS} {k : KD} {xs : List D} {d : D} (e : seqR C x = some xs) (h : atI xs i = some d) (hk : k d C) : dIx x (.int i) C k := ix_lst e h hk
theorem sub_put {C : CS} {p : Addr} {c : Cell} (h : C p = none) : ∀ q z, C q = some z → DL.put C p c q = some z := fun q z hq => by
  rw [put_ne (cell_ne hq h)]; exact hq
theorem ok_sty {f : Addr} {fd : FuncData} (F : Fun K "_law_style" "_law_style" s_style f fd) (h1 : MakKX P w K mg base "Style" Cs 4 0 fiveK gAll (spStyI Cs Ce)) : FnG P w K mg base (L2.CX P w) 6 f fd P_style (toSpX K (spSty Ce)) := by
  refine fnXE F sc_style v_style l_style g_style (fun ds C k kx h => by obtain ⟨_, _, _, _, _, _, rfl, _⟩ := h; rfl) fun X A hB ds k kx h hT => ?_
  obtain ⟨x, a, b, c, d, e, rfl, hx5, hk, hgood, hbad⟩ := h
  obtain ⟨hxX, hx, hn, hs, hg, hd, hnox⟩ := hB
  have hgX : Gls X D_style := ⟨hg.gl⟩
  change WSsA X A _ [some x] A.C _
  refine wssA_cons (wsA_ret (weA_makeXK0 hxX h1 hT (Gls.at hgX (by walk_at "nm")) ?_ (by omega)))
  refine wk_cons ?_
  walk_at "pyK"
  refine Or.inl (ix_R hx5 (at_nat (i := 0) rfl) ?_)
  refine wk_cons ?_
  walk_at "pyK"
  refine Or.inl (ix_R hx5 (at_nat (i := 1) rfl) ?_)
  refine wk_cons ?_
  walk_at "pyK"
  refine Or.inl (ix_R hx5 (at_nat (i := 2) rfl) ?_)
  refine wk_cons ?_
  walk_at "pyK"
  refine Or.inl (ix_R hx5 (at_nat (i := 3) rfl) ?_)
  refine wk_cons ?_
  walk_at "pyK"
  refine Or.inl (ix_R hx5 (at_nat (i := 4) rfl) ?_)
  refine wk_nil ⟨rfl, fun p hp => ?_⟩
  refine ⟨p, a, b, c, d, e, rfl, put_same, hk, fun hb => ⟨rfl, ?_⟩, fun nm hb => ?_⟩
  · rw [put_put]
    exact hgood hb _ _ (sub_put hp)
  · rw [del_put hp]
    exact hbad nm hb
/-! the record of one entry -/
abbrev rw0 : D := .tup [.str "f", .int 0, .int 1, .str "g", .non]
abbrev ent0 : Ent := ⟨"a", "", [], [rw0, rw0, rw0], .non, none⟩
theorem rw0_g : RowG rw0 := ⟨by decide +kernel, by decide +kernel, by decide +kernel⟩
theorem met0 (L : Lim) : meetF L [ent0] 1 0 0 0 ([], []) = some (0, ([0], [ent0].map entD)) := by
  simp [meetF, memF, lnkF]
theorem ent0_v : EsV 21 [ent0] := ⟨by decide, by decide, fun e he => by
    rw [List.mem_singleton.mp he]
    exact ⟨by decide +kernel, ⟨⟨3, by decide, by decide +kernel⟩, by decide +kernel, by decide +kernel⟩, fun d hd => by
      have : d = rw0 := by simpa using hd
      subst this
      exact ⟨⟨6, by decide, by decide +kernel⟩, by decide +kernel, by decide +kernel⟩, by decide +kernel, by decide, by decide, by decide, trivial, fun w x z => nomatch z⟩, fun e he => by rw [List.mem_singleton.mp he]; decide +kernel, fun e he => by rw [List.mem_singleton.mp he]; decide +kernel, fun e he => by rw [List.mem_singleton.mp he]; decide +kernel, 1, [0], by decide, met0 {}⟩
def spCutBy (Cr Ce : Addr) : DSpX := fun ds C k kx => ∃ r x a b c d e, ds = [r, x] ∧ RecIs Cr C r [ent0] ∧ seqR C x = some [a, b, c, d, e] ∧ (∀ y ∈ [a, b, c, d, e], y.kind = true) ∧
  (badL (limS a b c d e) = none → ∀ q C', (∀ q c, C q = some c → C' q = some c) → k q C') ∧ ∀ nm, badL (limS a b c d e) = some nm → kx (.ref Ce) [("name", .str nm)] C
theorem ok_cutBy {f : Addr} {fd : FuncData} (F : Fun K "_law_cut_by" "_law_cut_by" s_cut_by f fd) (h1 : MthK P w K mg base Cr "cut" 45 0 fiveK gAll (spCut Cr 21)) (h2 : MthKX P w K mg base Cr "cut" 45 0 fiveK gAll (spCutX Cr Ce)) : FnG P w K mg base (L2.CX P w) 46 f fd P_cut_by (toSpX K (spCutBy Cr Ce)) := by
  refine fnXE F sc_cut_by v_cut_by l_cut_by g_cut_by (fun ds C k kx h => by obtain ⟨_, _, _, _, _, _, _, rfl, _⟩ := h; rfl) fun X A hB ds k kx h hT => ?_
  obtain ⟨r, x, a, b, c, d, e, rfl, hR, hx5, hk, hgood, hbad⟩ := h
  obtain ⟨hxX, hx, hn, hs, hg, hd, hnox⟩ := hB
  change WSsA X A _ [some r, some x] A.C _
  cases hb : badL (limS a b c d e) with
  | none =>
    obtain ⟨fi, la, L, rfl, rfl, rfl, rfl, rfl, hw⟩ := badL_ok hb
    refine wssA_cons (wsA_nox (ws_ret ?_))
    refine x_methK0 hx h1 ?_ (by omega)
    walk_at "pyK"
    refine ⟨⟨_, _, hR, by decide +kernel⟩, ?_⟩
    refine wk_cons ?_
    walk_at "pyK"
    refine Or.inl (ix_R hx5 (at_nat (i := 0) rfl) ?_)
    refine wk_cons ?_
    walk_at "pyK"
    refine Or.inl (ix_R hx5 (at_nat (i := 1) rfl) ?_)
    refine wk_cons ?_
    walk_at "pyK"
    refine Or.inl (ix_R hx5 (at_nat (i := 2) rfl) ?_)
    refine wk_cons ?_
    walk_at "pyK"
    refine Or.inl (ix_R hx5 (at_nat (i := 3) rfl) ?_)
    refine wk_cons ?_
    walk_at "pyK"
    refine Or.inl (ix_R hx5 (at_nat (i := 4) rfl) ?_)
    refine wk_nil ⟨rfl, ?_⟩
    refine ⟨r, [ent0], fi, la, L, [ent0], [0], 1, rfl, hR, by decide, fun e he => by rw [List.mem_singleton.mp he]; decide, hw, by decide, met0 L, by simp, by decide, fun e he => by
      rw [List.mem_singleton.mp he]
      refine ⟨by decide, by decide, fun d hd => ?_, by decide⟩
      have : d = rw0 := by simpa using hd
      subst this
      exact .inl rw0_g, fun C' q hq hq2 F => ?_⟩
    exact hgood hb _ _ fun q c hc => F.at (by simp) hc
  | some nm =>
    refine wssA_cons (wsA_ret (weA_methXK0 hxX h2 hT ?_ (by omega)))
    walk_at "pyK"
    refine ⟨⟨_, _, hR, by decide +kernel⟩, ?_⟩
    refine wk_cons ?_
    walk_at "pyK"
    refine Or.inl (ix_R hx5 (at_nat (i := 0) rfl) ?_)
    refine wk_cons ?_
    walk_at "pyK"
    refine Or.inl (ix_R hx5 (at_nat (i := 1) rfl) ?_)
    refine wk_cons ?_
    walk_at "pyK"
    refine Or.inl (ix_R hx5 (at_nat (i := 2) rfl) ?_)
    refine wk_cons ?_
    walk_at "pyK"
    refine Or.inl (ix_R hx5 (at_nat (i := 3) rfl) ?_)
    refine wk_cons ?_
    walk_at "pyK"
    refine Or.inl (ix_R hx5 (at_nat (i := 4) rfl) ?_)
    refine wk_nil ⟨rfl, r, [ent0], a, b, c, d, e, nm, rfl, hR, hk, hb, ?_⟩
    exact hbad nm hb
end
end K31
namespace K31
section
variable {P : Program} {w : World} {K : PySem.W.Frag} {mg : Str → Option Value} {base : Heap} {Cr Cw Ce Cd Cs C1 C2 C3 C4 : Addr}
theorem we_cls {X : Cx} {x : Str} {Cl : Addr} {env : DEnv} {C : CS} {k : KD} {pos : Pos} (hm : X.mg x = some (.ref Cl)) (hg : Gl X x) (h : k (.opq (.ref Cl)) C) (hd : (x == ("__debug__" : Str)) = false := by decide) : WE X (.Name x pos) env C k := we_glob ⟨.ref Cl, .ref Cl, hm, rfl, fun G => .opq _⟩ hg h hd
/-- what the law asks of NoLimit's class -/
structure X39 (K : PySem.W.Frag) (mg : Str → Option Value) (Ce C1 C2 C3 C4 : Addr) : Prop where
  is : XIs K Ce
  c : XCat K mg "NoLimit" Ce
  ie : PySem.W.kitOne K (.ref Ce) (.type "ArithmeticError") = some true
  an : PySem.W.kitAny K (.ref Ce) [.ref C1, .ref C2, .ref C3, .ref C4, .type "ValueError"] = some false
  m1 : mg "BadReport" = some (.ref C1)
  m2 : mg "NoEntry" = some (.ref C2)
  m3 : mg "NoRecord" = some (.ref C3)
  m4 : mg "TooMany" = some (.ref C4)
  mv : mg "ValueError" = none
  mi : mg "ArithmeticError" = none
  no : PySem.W.findIn K (.ref Ce) "name" = some none
theorem refused_ok {XT : Cx} {A : Anc} {f : Addr} {env : DEnv} {S : DEnv → CS → KD → KX → Prop} {E : DEnds} {n : Nat} {B : Option Str} (Z : Zs mg) (H4 : X39 K mg Ce C1 C2 C3 C4)
    (hB : BdyT P w K mg base n N_refused M_refused D_refused (defScope s_refused) XT) (hAct : ActD XT A "_law_call" f env S) (hS : ∀ kk kx, (B = none → ∀ r C', (∀ q c, A.C q = some c → C' q = some c) → kk r C') → (∀ nm, B = some nm → kx (.ref Ce) [("name", .str nm)] A.C) → S env A.C kk kx) (hk : E.rt (.str (B.getD "")) A.C) :
    WSsA XT A (defBody s_refused) (startD N_refused [.opq (.ref f)]) A.C E := by
  obtain ⟨hB, hst, hfr, hkind⟩ := hB
  have ⟨hx, hn, hs, hg, hd, hnox⟩ := hB
  have hK := hx.K
  have hmg := hx.mg
  have hke := hkind "e" (by decide +kernel)
  change WSsA XT A _ [some (.opq (.ref f)), none, none] A.C _
  refine wssA_cons ?_
  refine wsA_tryM hst hfr hB (.cons (i := 1) (by rw [hn.n]; rfl) hke (by walk_at "gl") rfl (by rw [hmg]; exact H4.c.nm) (by rw [hK]; exact H4.c.exm) .nil) fun pn xe A2 hT hA hfr2 hThr => ?_
  refine wssA_cons (wsA_expr (hAct pn xe A2 _ _ _ _ _ _ hfr2 hThr rfl ?_))
  refine hS _ _ (fun hb r C' hC' => ?_) fun nm hb => ?_
  · rw [hb] at hk
    refine wssA_nil ?_
    refine wssA_sub hC' ?_
    refine wssA_cons (wsA_ret (weA_of (we_str ?_)))
    exact hk
  · rw [hb] at hk
    refine .inl ⟨rfl, fun q oe od pn A3 hz hv hA3 ha hE => ?_⟩
    have hns := hn.suite q ((q, oe) :: pn)
    have hgs := hg.suite q ((q, oe) :: pn)
    have hss := hs.suite q ((q, oe) :: pn)
    rw [hK] at hE
    show WSsA (XT.suite q ((q, oe) :: pn)) A3 _ [some (.opq (.ref f)), some (.opq (.ref q)), none] A.C _
    refine wssA_cons (wsA_nm hss (by walk_at "nm") (by walk_at "nm") ?_)
    refine weA_isXT hx Z (by walk_at "gl") H4.is hz hv (by rw [hA3]; exact hE) ?_
    walk_at "py"
    refine we_cls (by show XT.mg _ = _; rw [hmg]; exact H4.m1) (by walk_at "gl") ?_
    walk_at "py"
    refine we_cls (by show XT.mg _ = _; rw [hmg]; exact H4.m2) (by walk_at "gl") ?_
    walk_at "py"
    refine we_cls (by show XT.mg _ = _; rw [hmg]; exact H4.m3) (by walk_at "gl") ?_
    walk_at "py"
    refine we_cls (by show XT.mg _ = _; rw [hmg]; exact H4.m4) (by walk_at "gl") ?_
    walk_at "py"
    refine we_bty (by show XT.mg _ = none; rw [hmg]; exact H4.mv) (by walk_at "gl") boot_ValueError ?_
    walk_at "py"
    refine ⟨_, _, false, rfl, rfl, H4.an, ?_⟩
    refine wssA_cons (wsA_ret (weA_if (wwA_pt (wwA_or (wtA_of ?_)))))
    walk_at "py"
    refine wwA_or1 (wtA_not (wtA_val ?_))
    refine weA_isX1 hx Z (by walk_at "gl") H4.is hz hv (by rw [hA3]; exact hE) ?_
    walk_at "py"
    refine we_bty (by show XT.mg _ = none; rw [hmg]; exact H4.mi) (by walk_at "gl") boot_ArithE ?_
    walk_at "py"
    refine ⟨_, _, true, rfl, rfl, H4.ie, true, rfl, (fun z => nomatch z), fun _ => ?_⟩
    refine weA_xf (by rw [hK]; exact H4.is.xf) (by rw [hK]; exact H4.no) hz hv (by rw [hK, hA3]; exact hE) ?_
    walk_at "py"
    exact ⟨rfl, .str nm, rfl, hk⟩
end
end K31
namespace K31
section
variable {P : Program} {w : World} {K : PySem.W.Frag} {mg : Str → Option Value} {base : Heap} {Cr Cw Ce Cd Cs : Addr}
/-! any objects, limits -/
def cAny : Nat → Nat
  | 0 => 2
  | m + 1 => 3 + 4 * cAny m
def spAny (m : Nat) : DSp := fun ds C k => ∃ b n, ds = [.own b, .int (m : Nat)] ∧ Bag C b n ∧ n + cAny m ≤ 900000 ∧ ∀ d l, d.kind = true → Bag (DL.put C b (.lst l)) b (n + cAny m) → k d (DL.put C b (.lst l))
abbrev plains : List D := [.non, .bl true, .bl false, .int 0, .int 1, .int (-1), .int (10 ^ 30), .str "", .str "a", .str "end", .str "ask", .str "alike", .str "apart", .str "Ann", .str "a b", .str "new"]
theorem plains_k : ∀ d ∈ plains, d.kind = true := by
  intro d hd
  simp only [plains, List.mem_cons, List.not_mem_nil, or_false] at hd
  rcases hd with rfl | rfl | rfl | rfl | rfl | rfl | rfl | rfl | rfl | rfl | rfl | rfl | rfl | rfl | rfl | rfl <;> rfl
theorem ok_any0 {f : Addr} {fd : FuncData} (F : Fun K "_law_any" "_law_any" s_any f fd) (Z : Zs mg) (h1 : FnC P w K mg base "_law_take" 1 spTake) : FnG P w K mg base CX0 2 f fd P_any (toSp K (spAny 0)) := by
  refine fnX F sc_any v_any l_any g_any (fun ds C k h => by obtain ⟨_, _, rfl, _⟩ := h; rfl) fun X hB ds C k h => ?_
  obtain ⟨b, n, rfl, hBag, hn9, h⟩ := h
  obtain ⟨hx, hn, hs, hg, hd, hnox⟩ := hB
  change WSs X _ [some (.own b), some (.int (0 : Nat)), none, none, none, none] C _
  refine wss_consH ?_
  walk_at "pyA"
  refine wsh_go ?_
  show WSs X _ [some (.own b), some (.int (0 : Nat)), some (.lst plains), none, none, none] C _
  have hpl : plains.length = 16 := rfl
  have hpk := plains_k
  generalize plains = pl at hpl hpk ⊢
  refine wss_consH ?_
  walk_at "pyA"
  refine ⟨b, n, 4, rfl, hBag, by omega, by decide, by decide, fun r l r0 r1 hB1 => ?_⟩
  refine wsh_go (wss_consH ?_)
  walk_at "pyA"
  refine ⟨b, n + 1, 16, rfl, hB1, by omega, by decide, by decide, fun r l2 r0 r1 hB2 => ?_⟩
  rw [put_put] at hB2 ⊢
  refine ix_any r0 (by rw [hpl]; exact r1) fun d hd => ?_
  exact h d l2 (hpk d hd) hB2
  · rename_i q _; exact absurd q (by decide)
  · rename_i q _; exact absurd q (by decide)
theorem ok_anyS {f : Addr} {fd : FuncData} (m : Nat) (hm : m ≤ 2) (F : Fun K "_law_any" "_law_any" s_any f fd) (Z : Zs mg) (h1 : FnC P w K mg base "_law_take" 1 spTake) (h2 : FnC P w K mg base "_law_any" (2 * m + 2) (spAny m)) : FnG P w K mg base CX0 (2 * m + 3 + 1) f fd P_any (toSp K (spAny (m + 1))) := by
  have hc : cAny m ≤ 100 := by
    obtain rfl | rfl | rfl : m = 0 ∨ m = 1 ∨ m = 2 := by omega
    all_goals decide
  refine fnX F sc_any v_any l_any g_any (fun ds C k h => by obtain ⟨_, _, rfl, _⟩ := h; rfl) fun X hB ds C k h => ?_
  obtain ⟨b, n, rfl, hBag, hn9, h⟩ := h
  obtain ⟨hx, hn, hs, hg, hd, hnox⟩ := hB
  have hcS : cAny (m + 1) = 3 + 4 * cAny m := rfl
  change WSs X _ [some (.own b), some (.int ((m + 1 : Nat) : Int)), none, none, none, none] C _
  refine wss_consH ?_
  walk_at "pyA"
  refine wsh_go ?_
  show WSs X _ [some (.own b), some (.int ((m + 1 : Nat) : Int)), some (.lst plains), none, none, none] C _
  have hpl : plains.length = 16 := rfl
  have hpk := plains_k
  generalize plains = pl at hpl hpk ⊢
  refine wss_consH ?_
  walk_at "pyA"
  refine ⟨b, n, 4, rfl, hBag, by omega, by decide, by decide, fun r l r0 r1 hB1 => ?_⟩
  refine wsh_go (wss_consH ?_)
  walk_at "pyA"
  · rename_i q; exact absurd q (by rw [beq_iff_eq]; omega)
  · refine ⟨b, n + 1, 16, rfl, hB1, by omega, by decide, by decide, fun r l2 r0 r1 hB2 => ?_⟩
    rw [put_put] at hB2 ⊢
    refine ix_any r0 (by rw [hpl]; exact r1) fun d hd => ?_
    exact h d l2 (hpk d hd) (hB2.mono (by omega))
  · rename_i _ q
    have hr4 : r ≠ 0 := by simpa using q
    refine wsh_go (wss_consH ?_)
    refine ws_lc1 (M0 := []) ["_law_bag_here", "_law_deep"] ["_law_any"] hd (by walk_at "nm") (by decide +kernel) (by walk_at "nm") (by decide +kernel) (by decide +kernel) (by decide +kernel) (by decide +kernel) ((sww_env hd.sc _ _ _).trans (by rfl)) (x_range1 hx Z (by walk_at "gl") ?_)
    walk_at "pyA"
    refine ⟨b, n + 1, 5, rfl, hB1, by omega, by decide, by decide, fun r2 l2 r20 r21 hB2 => ?_⟩
    rw [put_put] at hB2 ⊢
    walk_at "pyA"
    refine ⟨r2, rfl, by omega, by omega, ?_⟩
    refine ⟨fun j acc C' => ∃ l : List D, C' = DL.put C b (.lst l) ∧ Bag C' b (n + 2 + cAny m * j) ∧ acc.length = j ∧ ∀ z ∈ acc, z.kind = true, ⟨l2, rfl, hB2, rfl, fun _ h => by simp at h⟩, fun _ _ _ _ => trivial, ?_, ?_⟩
    · rintro j dd acc C3 hj ⟨l3, rfl, hB3, hzl, hzs⟩ X' hX hn' hg'
      obtain ⟨hj4, rfl⟩ := intsFrom_get hj
      have hj4 : j < 4 := by omega
      refine wif_nil ⟨fun _ X' hX hn' hg' => ?_, fun h => Bool.noConfusion h⟩
      have hx' := hx.blk hX
      walk_at "pyA"
      have hcj : cAny m * j ≤ cAny m * 3 := Nat.mul_le_mul (Nat.le_refl _) (by omega)
      refine ⟨b, _, by rw [show ((m + 1 : Nat) : Int) - 1 = (m : Nat) by omega], hB3, by omega, fun z l4 hz hB4 => ?_⟩
      rw [put_put] at hB4 ⊢
      refine ⟨Nat.lt_of_lt_of_le (by omega : acc.length < 100) (by decide), l4, rfl, hB4.mono (by rw [Nat.mul_succ]; omega), by rw [List.length_append, hzl]; rfl, fun x hx => ?_⟩
      rcases List.mem_append.mp hx with hx | hx
      · exact hzs x hx
      · rw [List.mem_singleton.mp hx]; exact hz
    rintro acc C3 ⟨l3, rfl, hB3, hzl, hzs⟩ q hq
    rw [intsFrom_length] at hB3 hzl
    refine wss_frzI 4 rfl put_same ?_
    rw [del_put hq]
    simp only [List.set_cons_succ, List.set_cons_zero]
    have hlen : acc.length ≤ 4 := by omega
    refine wss_consH ?_
    walk_at "pyA"
    refine ix_any (by omega) (by show r - 1 < 3; omega) fun d hd => ?_
    have hcj : cAny m * r2.toNat ≤ cAny m * 4 := Nat.mul_le_mul (Nat.le_refl _) (by omega)
    refine h d l3 ?_ (hB3.mono (by rw [hcS, Nat.mul_comm 4]; omega))
    simp only [List.mem_cons, List.not_mem_nil, or_false] at hd
    rcases hd with rfl | rfl | rfl <;> rfl
/-- five limits -/
def spLimits : DSp := fun ds C k => ∃ b n, ds = [.own b] ∧ Bag C b n ∧ n ≤ 900000 ∧ ∀ p l xs, C p = none → p ≠ b → xs.length = 5 → (∀ y ∈ xs, y.kind = true) → Bag (DL.put C b (.lst l)) b (n + 15) → k (.own p) (DL.put (DL.put C b (.lst l)) p (.lst xs))
theorem ok_limits {f : Addr} {fd : FuncData} (F : Fun K "_law_limits" "_law_limits" s_limits f fd) (Z : Zs mg) (h1 : FnC P w K mg base "_law_take" 1 spTake) : FnG P w K mg base CX0 2 f fd P_limits (toSp K spLimits) := by
  refine fnX F sc_limits v_limits l_limits g_limits (fun ds C k h => by obtain ⟨_, _, rfl, _⟩ := h; rfl) fun X hB ds C k h => ?_
  obtain ⟨b, n, rfl, hBag, hn9, h⟩ := h
  obtain ⟨hx, hn, hs, hg, hd, hnox⟩ := hB
  change WSs X _ [some (.own b), none, none, none, none] C _
  refine wss_consH ?_
  walk_at "pyC"
  refine we_lst ?_
  walk_at "pyC"
  intro p hp
  have hpb : p ≠ b := fun e => (hBag.ne hp) e.symm
  have hB0 : Bag (DL.put C p (.lst [])) b n := hBag.put hpb.symm
  refine wsh_go (wss_consH ?_)
  refine x_for hx hnox (x_range1 hx Z (by walk_at "gl") ?_)
  walk_at "pyA"
  refine ⟨5, rfl, by decide, by decide, ?_⟩
  refine ⟨fun j env' C' => ∃ (o2 o3 o4 : Option D) (l xs : List D), env' = [some (.own b), some (.own p), o2, o3, o4] ∧ C' = DL.put (DL.put C b (.lst l)) p (.lst xs) ∧ xs.length = j ∧ (∀ y ∈ xs, y.kind = true) ∧ Bag (DL.put C b (.lst l)) b (n + 3 * j), ?_, fun _ _ _ _ => trivial, ?_, ?_⟩
  · obtain ⟨l, hl⟩ := hBag.some
    have e : DL.put C b (.lst l) = C := by
      funext a
      by_cases ha : a = b
      · subst ha; rw [put_same, hl]
      · rw [put_ne ha]
    exact ⟨_, _, _, l, [], rfl, by rw [e], rfl, fun _ h => by simp at h, by rw [e]; exact hBag⟩
  · rintro j dd env' C' hj ⟨o2, o3, o4, l, xs, rfl, rfl, hxl, hxk, hBj⟩
    obtain ⟨hj5, rfl⟩ := intsFrom_get hj
    have hj5 : j < 5 := by omega
    have hBj' : Bag (DL.put (DL.put C b (.lst l)) p (.lst xs)) b (n + 3 * j) := hBj.put hpb.symm
    walk_at "wg"
    refine wss_consH ?_
    walk_at "pyA"
    refine ⟨b, _, 2, rfl, hBj', by omega, by decide, by decide, fun r l2 r0 r1 hB2 => ?_⟩
    have hcom : ∀ l l2 : List D, DL.put (DL.put (DL.put C b (.lst l)) p (.lst xs)) b (.lst l2) = DL.put (DL.put C b (.lst l2)) p (.lst xs) := fun l l2 => by
      funext a
      by_cases ha : a = b
      · subst ha; rw [put_same, put_ne hpb.symm, put_same]
      · by_cases hp' : a = p
        · subst hp'; rw [put_ne ha, put_same, put_same]
        · rw [put_ne ha, put_ne hp', put_ne hp', put_ne ha, put_ne ha]
    rw [hcom] at hB2 ⊢
    have hB2' : Bag (DL.put C b (.lst l2)) b (n + 3 * j + 1) := hB2.of (by rw [put_ne hpb.symm]) (Nat.le_refl _)
    refine ix_any r0 r1 fun mo hmo => ?_
    obtain ⟨mi, rfl, hmi⟩ : ∃ i : Int, mo = .int i ∧ (i = 2 ∨ i = 6) := by
      simp only [List.mem_cons, List.not_mem_nil, or_false] at hmo
      rcases hmo with rfl | rfl
      · exact ⟨_, rfl, .inl rfl⟩
      · exact ⟨_, rfl, .inr rfl⟩
    clear hmo r0 r1 hBj hBj'
    walk_at "pyA"
    refine wsh_go (wss_consH ?_)
    walk_at "pyA"
    refine ⟨b, _, mi, rfl, hB2, by omega, by omega, by omega, fun r l3 r0 r1 hB3 => ?_⟩
    rw [hcom] at hB3 ⊢
    have hB3' : Bag (DL.put C b (.lst l3)) b (n + 3 * j + 1 + 1) := hB3.of (by rw [put_ne hpb.symm]) (Nat.le_refl _)
    walk_at "pyA"
    refine ⟨b, _, 5, rfl, hB3, by omega, by decide, by decide, fun r2 l4 r20 r21 hB4 => ?_⟩
    rw [hcom] at hB4 ⊢
    have hB4' : Bag (DL.put C b (.lst l4)) b (n + 3 * j + 1 + 1 + 1) := hB4.of (by rw [put_ne hpb.symm]) (Nat.le_refl _)
    refine ix_any r20 r21 fun d hdm => ?_
    have hdk : d.kind = true := by
      simp only [List.mem_cons, List.not_mem_nil, or_false] at hdm
      rcases hdm with rfl | rfl | rfl | rfl | rfl <;> rfl
    walk_at "pyA"
    refine app_ok put_same (by rw [hxl]; exact Nat.lt_of_lt_of_le (by omega : j < 1000) (by decide)) ?_
    rw [put_put]
    walk_at "pyA"
    refine wsh_go (wss_nil ?_)
    exact ⟨_, _, _, l4, xs ++ [d], rfl, rfl, by rw [List.length_append, hxl]; rfl, fun y hy => (List.mem_append.mp hy).elim (hxk y) (fun h => by rw [List.mem_singleton.mp h]; exact hdk), hB4'⟩
  · rintro env' C' ⟨o2, o3, o4, l, xs, rfl, rfl, hxl, hxk, hBj⟩
    rw [intsFrom_length] at hxl hBj
    refine wsh_go (wss_consH ?_)
    walk_at "pyA"
    exact h p l xs hp hpb hxl hxk hBj
end
end K31
namespace K31
section
variable {P : Program} {w : World} {K : PySem.W.Frag} {mg : Str → Option Value} {base : Heap} {Cr Cw Ce Cd Cs C1 C2 C3 C4 : Addr}
/-! the law -/
abbrev qLam : Str := (PyProof.Rows.envOfC "law" (defScope s_law) 0 0 .none).qual ++ "<lambda>"
structure RefF (K : PySem.W.Frag) (mg : Str → Option Value) : Prop where
  ex : ∃ g fd, Fun K "_law_refused" "_law_refused" s_refused g fd ∧ Binds K fd ["_law_call"] [] ∧ mg "_law_refused" = some (.ref g) ∧ PySem.W.keepIn K (.ref g) = true
def spLawT (Pt : Addr) : DSp := fun ds C k => ∃ ns : List Int, ds = [.slst (ns.map D.int)] ∧ ns.length ≤ 63 ∧ C Pt = some (.tbl qLam []) ∧ ∀ C', k (.bl true) C'
theorem vis_refused : L2.Vis (defScope s_refused) "_law_call" := .inl (by decide +kernel)
def forB : Stmt → List Stmt
  | .For _ _ b _ _ => b
  | _ => []
def turnB : List Stmt := forB ((forB ((defBody s_law).getD 1 (.Pass ⟨0, 0, 0, 0⟩))).getD 1 (.Pass ⟨0, 0, 0, 0⟩))
theorem wss_mid {X : Cx} {st : Stmt} {rest : List Stmt} {env : DEnv} {C : CS} {E : DEnds} (Pm : DEnv → CS → Prop) (h : WS X st env C { E with nx := Pm }) (hk : ∀ env' C', Pm env' C' → WSs X rest env' C' E) : WSs X (st :: rest) env C E := wss_cons (WS.imp h hk)
theorem five5 {xs : List D} (h : xs.length = 5) : ∃ a b c d e, xs = [a, b, c, d, e] := by
  match xs, h with
  | [a, b, c, d, e], _ => exact ⟨a, b, c, d, e, rfl⟩
theorem ix5 {t : Nat} (h : t < 5) : ixN 5 ((t : Nat) : Int) = some t := by
  obtain rfl | rfl | rfl | rfl | rfl : t = 0 ∨ t = 1 ∨ t = 2 ∨ t = 3 ∨ t = 4 := by omega
  all_goals rfl
structure S39 (Cr rr Pt b : Addr) (n : Nat) (C : CS) : Prop where
  rc : C rr = some (.ins Cr recKs (recFs [ent0]))
  tb : ∃ cs, C Pt = some (.tbl qLam cs)
  bag : Bag C b n
theorem S39.up {rr Pt b : Addr} {n : Nat} {C C' : CS} (h : S39 Cr rr Pt b n C) (hs : ∀ q c, C q = some c → C' q = some c) : S39 Cr rr Pt b n C' := by
  obtain ⟨cs, hcs⟩ := h.tb
  obtain ⟨l, hl⟩ := h.bag.some
  exact ⟨hs _ _ h.rc, ⟨cs, hs _ _ hcs⟩, h.bag.of (by rw [hs _ _ hl, hl]) (Nat.le_refl _)⟩
theorem S39.mono {rr Pt b : Addr} {n m : Nat} {C : CS} (h : S39 Cr rr Pt b n C) (hm : n ≤ m) : S39 Cr rr Pt b m C := ⟨h.rc, h.tb, h.bag.mono hm⟩
theorem S39.draw {rr Pt b : Addr} {n m : Nat} {C : CS} {l : List D} (h : S39 Cr rr Pt b n C) (hB : Bag (DL.put C b (.lst l)) b m) : S39 Cr rr Pt b m (DL.put C b (.lst l)) := by
  obtain ⟨cs, hcs⟩ := h.tb
  obtain ⟨l0, hl⟩ := h.bag.some
  refine ⟨?_, ⟨cs, ?_⟩, hB⟩
  · rw [put_ne fun e => by have := h.rc; rw [e, hl] at this; cases this]; exact h.rc
  · rw [put_ne fun e => by rw [e, hl] at hcs; cases hcs]; exact hcs
theorem S39.tab {rr Pt b : Addr} {n : Nat} {C : CS} {cs : List Addr} (h : S39 Cr rr Pt b n C) : S39 Cr rr Pt b n (DL.put C Pt (.tbl qLam cs)) := by
  obtain ⟨c0, hcs⟩ := h.tb
  obtain ⟨l0, hl⟩ := h.bag.some
  refine ⟨?_, ⟨cs, put_same⟩, h.bag.put fun e => by rw [e, hcs] at hl; cases hl⟩
  rw [put_ne fun e => by have := h.rc; rw [e, hcs] at this; cases this]; exact h.rc
theorem turn39 {X : Cx} {B : List Stmt} (hB : B = turnB) {ct Pt bg rr : Addr} {n : Nat} {d0 d2 d4 o5 o6 o7 o8 : Option D} {C : CS} {E : DEnds} (hx : DL.Ctx P w K mg base 48 X) (hn : Nms X N_law M_law) (hs : Sts X N_law M_law) (hg : Gls X D_law) (hd : Dfc X N_law (defScope s_law)) (hnox : Nox X) (hcode : X.env.code = .ref ct) (hqual : X.env.qual = (PyProof.Rows.envOfC "law" (defScope s_law) 0 0 .none).qual)
    (TB : LamX.TabB base mg ct Pt) (Z : Zs mg) (hTo : RefF K mg) (H4 : X39 K mg Ce C1 C2 C3 C4) (h1 : FnC P w K mg base "_law_take" 1 spTake) (h2 : FnC P w K mg base "_law_limits" 2 spLimits) (h3 : FnC P w K mg base "_law_any" 6 (spAny 2)) (h4 : FnC P w K mg base "_law_due" 1 spDueL)
    (x1 : FnXC P w K mg base "_law_style" 6 [] (spSty Ce)) (x2 : FnXC P w K mg base "_law_cut_by" 46 [] (spCutBy Cr Ce)) (hn9 : n ≤ 100000) (hT : S39 Cr rr Pt bg n C)
    (hE : ∀ C' o5 o6 o7 o8, S39 Cr rr Pt bg (n + 200) C' → E.nx [d0, some (.own rr), d2, some (.own bg), d4, o5, o6, o7, o8] C') :
    WSs X B [d0, some (.own rr), d2, some (.own bg), d4, o5, o6, o7, o8] C E := by
  subst hB
  refine wss_consH ?_
  walk_at "pyCA"
  refine ⟨bg, n, rfl, hT.bag, by omega, fun p l xs hp hpb hxl hxk hB1 => ?_⟩
  refine wsh_go ?_
  have hT1 : S39 Cr rr Pt bg (n + 15) (DL.put (DL.put C bg (.lst l)) p (.lst xs)) := (hT.draw hB1).up (sub_put (by rw [put_ne hpb]; exact hp))
  have hp1 : DL.put (DL.put C bg (.lst l)) p (.lst xs) p = some (.lst xs) := put_same
  generalize DL.put (DL.put C bg (.lst l)) p (.lst xs) = CA at hT1 hp1 ⊢
  clear hT hB1 hp
  refine wss_consH ?_
  refine x_for hx hnox (x_range1 hx Z (by walk_at "gl") ?_)
  walk_at "pyCA"
  refine ⟨bg, _, 4, rfl, hT1.bag, by omega, by decide, by decide, fun r l r0 r1 hB2 => ?_⟩
  have hpn : p ≠ bg := hpb
  have hT2 := hT1.draw hB2
  have hp2 : DL.put CA bg (.lst l) p = some (.lst xs) := by rw [put_ne hpn]; exact hp1
  generalize DL.put CA bg (.lst l) = CB at hB2 hT2 hp2 ⊢
  clear hT1 hp1 hB2
  walk_at "pyCA"
  refine ⟨r, rfl, by omega, by omega, ?_⟩
  refine ⟨fun j env' C' => ∃ (o6 o8 : Option D) (xs : List D), env' = [d0, some (.own rr), d2, some (.own bg), d4, some (.own p), o6, o7, o8] ∧ C' p = some (.lst xs) ∧ xs.length = 5 ∧ (∀ y ∈ xs, y.kind = true) ∧ S39 Cr rr Pt bg (n + 16 + 50 * j) C', ⟨_, _, xs, rfl, hp2, hxl, hxk, hT2⟩, fun _ _ _ _ => trivial, ?_, ?_⟩
  · clear hp2 hxl hxk hT2
    rintro j dd env' C' hj ⟨o6, o8, xs, rfl, hp3, hxl, hxk, hT3⟩
    obtain ⟨hj4, rfl⟩ := intsFrom_get hj
    have hj3 : j < 3 := by omega
    walk_at "wg"
    refine wss_consH ?_
    walk_at "pyCA"
    refine ⟨bg, _, rfl, hT3.bag, by show n + 16 + 50 * j + 47 ≤ 900000; omega, fun z l2 hz hB4 => ?_⟩
    have hT4 := hT3.draw hB4
    have hp4 : DL.put C' bg (.lst l2) p = some (.lst xs) := by rw [put_ne hpn]; exact hp3
    generalize DL.put C' bg (.lst l2) = CC at hB4 hT4 hp4 ⊢
    clear hT3 hp3 hB4
    walk_at "pyCA"
    obtain ⟨LS, hLS, hLk, hLl⟩ : ∃ LS, LS = [D.bl true, .bl false, .int (-1), .str "1", .tup [], .lst [.int 0], .tup [.int 1], .str "", .int 0, .int (10 ^ 20), z, .non] ∧ (∀ y ∈ LS, y.kind = true) ∧ LS.length = 12 := ⟨_, rfl, fun y hy => by
      simp only [List.mem_cons, List.not_mem_nil, or_false] at hy
      rcases hy with rfl | rfl | rfl | rfl | rfl | rfl | rfl | rfl | rfl | rfl | rfl | rfl
      all_goals first | exact hz | rfl, rfl⟩
    refine wsh_go ?_
    show WSs X _ [d0, some (.own rr), d2, some (.own bg), d4, some (.own p), some (.int (0 + (j : Nat))), o7, some (.lst [D.bl true, .bl false, .int (-1), .str "1", .tup [], .lst [.int 0], .tup [.int 1], .str "", .int 0, .int (10 ^ 20), z, .non])] CC _
    rw [← hLS]
    clear hLS
    refine wss_consH ?_
    walk_at "pyCA"
    refine ⟨bg, _, 12, rfl, hT4.bag, by show n + 16 + 50 * j + 47 ≤ 1000000; omega, by decide, by decide, fun r l3 r0 r1 hB5 => ?_⟩
    have hT5 := hT4.draw hB5
    have hp5 : DL.put CC bg (.lst l3) p = some (.lst xs) := by rw [put_ne hpn]; exact hp4
    generalize DL.put CC bg (.lst l3) = CF at hB5 hT5 hp5 ⊢
    clear hT4 hp4 hB5
    refine Or.inl (ix_any r0 (by rw [hLl]; exact r1) fun y hy => ?_)
    have hyk := hLk y hy
    clear hy hLk hLl r0 r1
    walk_at "pyCA"
    refine ⟨bg, _, 5, rfl, hT5.bag, by show n + 16 + 50 * j + 47 + 1 ≤ 1000000; omega, by decide, by decide, fun r l4 r0 r1 hB6 => ?_⟩
    have hT6 := hT5.draw hB6
    have hp6 : DL.put CF bg (.lst l4) p = some (.lst xs) := by rw [put_ne hpn]; exact hp5
    generalize DL.put CF bg (.lst l4) = CG at hB6 hT6 hp6 ⊢
    clear hT5 hp5 hB6
    obtain ⟨t, rfl⟩ := Int.eq_ofNat_of_zero_le r0
    refine .inl ⟨p, _, xs, t, rfl, rfl, hp6, by rw [hxl]; exact ix5 (by omega), ?_⟩
    refine wsh_go (wss_nil ?_)
    refine ⟨_, _, xs.set t y, rfl, put_same, by rw [List.length_set]; exact hxl, fun d hd => ?_, ?_⟩
    · rcases List.mem_or_eq_of_mem_set hd with h | rfl
      · exact hxk d h
      · exact hyk
    · obtain ⟨cs, hcs⟩ := hT6.tb
      refine ⟨?_, ⟨cs, ?_⟩, (hT6.bag.put hpn.symm).mono (by show n + 16 + 50 * j + 47 + 1 + 1 ≤ _; omega)⟩
      · rw [put_ne fun e => by have := hT6.rc; rw [e, hp6] at this; cases this]; exact hT6.rc
      · rw [put_ne fun e => by rw [e, hp6] at hcs; cases hcs]; exact hcs
  · rintro env' C' ⟨o6, o8, xs, rfl, hp3, hxl, hxk, hT3⟩
    rw [intsFrom_length] at hT3
    have hT4 : S39 Cr rr Pt bg (n + 200) C' := hT3.mono (by omega)
    clear hT3
    obtain ⟨a1, a2, a3, a4, a5, rfl⟩ := five5 hxl
    refine wsh_go ?_
    have hd9 : S39 Cr rr Pt bg (n + 200) (DL.del C' p) := by
      obtain ⟨cs, hcs⟩ := hT4.tb
      refine ⟨?_, ⟨cs, ?_⟩, hT4.bag.of (DL.del_ne hpn.symm) (Nat.le_refl _)⟩
      · rw [DL.del_ne fun e => by have := hT4.rc; rw [e, hp3] at this; cases this]; exact hT4.rc
      · rw [DL.del_ne fun e => by rw [e, hp3] at hcs; cases hcs]; exact hcs
    refine wss_frzI 5 rfl hp3 ?_
    simp only [List.set_cons_succ, List.set_cons_zero]
    generalize DL.del C' p = CD at hd9 ⊢
    clear hp3 hT4
    refine wss_consH ?_
    walk_at "pyCA"
    refine ⟨a1, a2, a3, a4, a5, rfl, hxk, ?_⟩
    obtain ⟨due, hdue⟩ : ∃ z, z = (badL (limS a1 a2 a3 a4 a5)).getD "" := ⟨_, rfl⟩
    rw [← hdue]
    refine wsh_go ?_
    obtain ⟨gT, fT, FT, bT, mT, kT⟩ := hTo.ex
    refine wss_mid (fun env' C' => env' = [d0, some (.own rr), d2, some (.own bg), d4, some (.lst [a1, a2, a3, a4, a5]), o6, some (.str due), o8] ∧ S39 Cr rr Pt bg (n + 200) C') ?_ ?_
    · walk_at "pyCA"
      obtain ⟨cs, hcs⟩ := hd9.tb
      refine we_lamcall (k := 46) (cs := cs) (S := fun env' C' kk kx => env' = [d0, some (.own rr), d2, some (.own bg), d4, some (.lst [a1, a2, a3, a4, a5]), o6, some (.str due), o8] ∧ (badL (limS a1 a2 a3 a4 a5) = none → ∀ r C'', (∀ q c, C' q = some c → C'' q = some c) → kk r C'') ∧ (∀ nm, badL (limS a1 a2 a3 a4 a5) = some nm → kx (.ref Ce) [("name", .str nm)] C')) hx (by omega) (by walk_at "gl") mT kT FT bT sc_refused v_refused l_refused g_refused rfl vis_refused TB hcode ?hC ?hL (by rfl) ?hbd ?hbody ?hT
      case hC => rw [hqual]; exact hcs
      case hL => rw [hd.sc]; exact LamX.lamS_by (by decide +kernel)
      case hbd => exact fun q cl pm cv ctv => by rfl
      case hbody =>
        rintro XL hxL hNL hsc A env' kk kx ⟨rfl, hg1, hg2⟩ hThr
        have hnL : Nms XL.nox N_law ["_law_limits_here"] := nms_of (hNL.trans hn.n) hsc (by show XL.N.Nodup; rw [hNL]; exact hn.nd) (by decide +kernel)
        have hgL : Gls XL ["_law_style"] := gls_of hsc (by decide +kernel)
        refine weA_callX hxL x1 hThr (Gls.at hgL (by walk_at "nm")) ?_ (by omega)
        walk_at "pyC"
        exact ⟨_, a1, a2, a3, a4, a5, rfl, rfl, hxk, hg1, hg2⟩
      case hT =>
        intro f c' XT A hBT hAC hAct
        have hT4 := hd9.tab (cs := c' :: cs)
        rw [hqual] at hAC
        refine refused_ok Z H4 hBT hAct (fun kk kx h1 h2 => ⟨rfl, h1, h2⟩) ?_
        rw [← hdue, hAC]
        generalize DL.put CD Pt _ = C4 at hT4 ⊢
        walk_at "pyCA"
        refine ne_sS ?_
        rw [beq_self_eq_true]
        walk_at "pyCA"
        all_goals try walk_at "bad"
        exact ⟨rfl, hT4⟩
    · rintro env' CE ⟨rfl, hdE⟩
      refine wss_consH ?_
      walk_at "pyCA"
      obtain ⟨cs, hcs⟩ := hdE.tb
      refine we_lamcall (k := 46) (cs := cs) (S := fun env' C' kk kx => env' = [d0, some (.own rr), d2, some (.own bg), d4, some (.lst [a1, a2, a3, a4, a5]), o6, some (.str due), o8] ∧ C' rr = some (.ins Cr recKs (recFs [ent0])) ∧ (badL (limS a1 a2 a3 a4 a5) = none → ∀ r C'', (∀ q c, C' q = some c → C'' q = some c) → kk r C'') ∧ (∀ nm, badL (limS a1 a2 a3 a4 a5) = some nm → kx (.ref Ce) [("name", .str nm)] C')) hx (by omega) (by walk_at "gl") mT kT FT bT sc_refused v_refused l_refused g_refused rfl vis_refused TB hcode ?hC ?hL (by rfl) ?hbd ?hbody ?hT
      case hC => rw [hqual]; exact hcs
      case hL => rw [hd.sc]; exact LamX.lamS_by (by decide +kernel)
      case hbd => exact fun q cl pm cv ctv => by rfl
      case hbody =>
        rintro XL hxL hNL hsc A env' kk kx ⟨rfl, hrr, hg1, hg2⟩ hThr
        have hnL : Nms XL.nox N_law ["_law_limits_here", "_law_record"] := nms_of (hNL.trans hn.n) hsc (by show XL.N.Nodup; rw [hNL]; exact hn.nd) (by decide +kernel)
        have hgL : Gls XL ["_law_cut_by"] := gls_of hsc (by decide +kernel)
        refine weA_callX hxL x2 hThr (Gls.at hgL (by walk_at "nm")) ?_ (by omega)
        walk_at "pyC"
        exact ⟨_, _, a1, a2, a3, a4, a5, rfl, insD_own hrr, rfl, hxk, hg1, hg2⟩
      case hT =>
        intro f c' XT A hBT hAC hAct
        have hT4 := hdE.tab (cs := c' :: cs)
        rw [hqual] at hAC
        refine refused_ok Z H4 hBT hAct (fun kk kx h1 h2 => ⟨rfl, by rw [hAC]; exact hT4.rc, h1, h2⟩) ?_
        rw [← hdue, hAC]
        generalize DL.put CE Pt _ = C4 at hT4 ⊢
        walk_at "pyCA"
        refine ne_sS ?_
        rw [beq_self_eq_true]
        walk_at "pyCA"
        all_goals try walk_at "bad"
        refine wsh_go (wss_nil ?_)
        exact hE _ _ _ _ _ hT4
end
end K31
namespace K31
section
variable {P : Program} {w : World} {K : PySem.W.Frag} {mg : Str → Option Value} {base : Heap} {Cr Cw Ce Cd Cs C1 C2 C3 C4 : Addr}
theorem ok_law {f ct Pt : Addr} {fd : FuncData} (F : Fun K "law" "law" s_law f fd) (hcd : fd.code = .ref ct) (TB : LamX.TabB base mg ct Pt) (Z : Zs mg) (hTo : RefF K mg) (H4 : X39 K mg Ce C1 C2 C3 C4) (h1 : FnC P w K mg base "_law_take" 1 spTake) (h2 : FnC P w K mg base "_law_limits" 2 spLimits) (h3 : FnC P w K mg base "_law_any" 6 (spAny 2)) (h4 : FnC P w K mg base "_law_due" 1 spDueL)
    (h5 : FnC P w K mg base "_law_bag" 1 spBag) (h6 : CmtC P w K mg base "Record" Cr "of" 45 [] (spROf Cr 21)) (x1 : FnXC P w K mg base "_law_style" 6 [] (spSty Ce)) (x2 : FnXC P w K mg base "_law_cut_by" 46 [] (spCutBy Cr Ce)) : FnG P w K mg base CX0 49 f fd P_law (toSp K (spLawT Pt)) := by
  refine fnXL F hcd sc_law v_law l_law g_law (fun ds C k h => by obtain ⟨_, rfl, _⟩ := h; rfl) ?_
  intro X hB hcode hqual ds C k h
  obtain ⟨ns0, rfl, hl63, hC0, h⟩ := h
  obtain ⟨hx, hn, hs, hg, hd, hnox⟩ := hB
  change WSs X _ [some (.slst (ns0.map D.int)), none, none, none, none, none, none, none, none] C _
  refine wss_consH ?_
  refine ws_nm hs (by walk_at "nm") (by walk_at "nm") ?_
  refine x_cmeth hx h6 (by walk_at "gl") ?_ (by omega)
  ((with_reducible refine' wa_cons ?_ ?k1); (case k1 => rfl))
  with_reducible refine' we_lstF ?_
  ((with_reducible refine' wa_cons ?_ ?k1); (case k1 => rfl))
  with_reducible refine' we_tup ?_
  ((with_reducible refine' wa_cons ?_ ?k1); (case k1 => rfl))
  with_reducible refine' we_str ?_
  ((with_reducible refine' wa_cons ?_ ?k1); (case k1 => rfl))
  with_reducible refine' we_str ?_
  ((with_reducible refine' wa_cons ?_ ?k1); (case k1 => rfl))
  with_reducible refine' we_tup ?_
  with_reducible refine' wa_nil ?_
  refine ⟨by show 0 ≤ sizeLine; decide, ?_⟩
  ((with_reducible refine' wa_cons ?_ ?k1); (case k1 => rfl))
  with_reducible refine' x_mulT ?_
  walk_at "pyA"
  refine ⟨_, 3, rfl, rfl, by simp, by decide, by decide, by decide, ?_⟩
  show WA X _ _ _ _
  walk_at "pyA"
  refine ⟨.lst ([ent0].map entD), [ent0], rfl, .inr (.inl rfl), ent0_v, fun CA rr hrr hR F => ?_⟩
  have hP0 : CA Pt = some (.tbl qLam []) := F.at (by simp) hC0
  have hrP : rr ≠ Pt := fun e => by rw [e, hC0] at hrr; cases hrr
  clear hC0 hrr F
  refine wsh_go ?_
  refine wss_consH ?_
  refine x_for hx hnox (x_range1 hx Z (by walk_at "gl") ?_)
  walk_at "pyA"
  refine ⟨_, rfl, by rw [List.length_map]; split <;> (try split) <;> omega, by rw [List.length_map]; split <;> (try split) <;> omega, ?_⟩
  refine ⟨fun i env C' => (∃ cs, C' Pt = some (.tbl qLam cs)) ∧ C' rr = some (.ins Cr recKs (recFs [ent0])) ∧ ∃ o2 o3 o4 o5 o6 o7 o8 : Option D, env = [some (.slst (ns0.map D.int)), some (.own rr), o2, o3, o4, o5, o6, o7, o8], ⟨⟨_, hP0⟩, hR, _, _, _, _, _, _, _, rfl⟩, fun _ _ _ _ => trivial, ?_, ?_⟩
  · rintro i d env CB hd' ⟨⟨cs0, hPt⟩, hRB, o2, o3, o4, o5, o6, o7, o8, rfl⟩
    obtain ⟨hi, rfl⟩ := intsFrom_get hd'
    have hi6 : i < 64 := by
      have : ∀ j : Int, j ≤ 63 → i < j.toNat → i < 64 := fun j h1 h2 => by omega
      refine this _ ?_ hi
      rw [List.length_map]
      split <;> (try split) <;> omega
    walk_at "wg"
    refine wss_gen ?_
    intro EE hEE _
    refine wss_consH ?_
    walk_at "pyC"
    refine ⟨ns0, i, by rw [Int.zero_add], by omega, ?_⟩
    intro bg l hbg hB0
    have hT : S39 Cr rr Pt bg 0 (DL.put CB bg (.lst l)) := ⟨by rw [put_ne (cell_ne hRB hbg)]; exact hRB, ⟨cs0, by rw [put_ne (cell_ne hPt hbg)]; exact hPt⟩, hB0⟩
    generalize DL.put CB bg (.lst l) = CC at hT ⊢
    clear hbg hB0 hPt hRB
    walk_at "pyC"
    refine wsh_go ?_
    refine wss_consH ?_
    refine x_for hx hnox (x_range1 hx Z (by walk_at "gl") ?_)
    walk_at "pyC"
    refine ⟨12, rfl, by omega, by omega, ?_⟩
    refine ⟨fun j env C' => ∃ o4 o5 o6 o7 o8 : Option D, env = [some (.slst (ns0.map D.int)), some (.own rr), some (.int (0 + (i : Nat))), some (.own bg), o4, o5, o6, o7, o8] ∧ S39 Cr rr Pt bg (200 * j) C', ⟨_, _, _, _, _, rfl, hT⟩, fun _ _ _ _ => trivial, ?_, ?_⟩
    · clear hT
      rintro j d env CD hd' ⟨o4, o5, o6, o7, o8, rfl, hT⟩
      obtain ⟨hj, rfl⟩ := intsFrom_get hd'
      have hj : j < 12 := by simpa using hj
      walk_at "wg"
      refine wss_gen ?_
      intro E2 hE2 _
      refine turn39 (Cr := Cr) (Ce := Ce) (ct := ct) (by kernel_rfl) hx hn hs hg hd hnox hcode hqual TB Z hTo H4 h1 h2 h3 h4 x1 x2 (by omega) hT ?_
      intro C' o5 o6 o7 o8 hT'
      exact hE2 _ _ ⟨_, _, _, _, _, rfl, hT'.mono (by omega)⟩
    · rintro env CD ⟨o4, o5, o6, o7, o8, rfl, hT⟩
      refine wsh_go ?_
      refine wss_nil ?_
      exact hEE _ _ ⟨hT.tb, hT.rc, _, _, _, _, _, _, _, rfl⟩
  · rintro env CD ⟨_, _, o2, o3, o4, o5, o6, o7, o8, rfl⟩
    refine wsh_go ?_
    refine wss_consH ?_
    walk_at "pyC"
    exact h _
end
end K31
namespace K31
section
theorem dat_ints {K : PySem.W.Frag} {G : Hp} : ∀ ns : List Int, DatAll K G (ns.map V.int) (ns.map D.int)
  | [] => .nil
  | _ :: ns => .cons (.int _) (dat_ints ns)
theorem all_mk {l : PySem.W.OpenLaw} {w : World} {K : PySem.W.Frag} {h : Heap} {mg : Str → Option Value} {fa : Addr} (X : K.In h) (G : h.Ns mainGlobals mg) (hfa : mg "law" = some (.ref fa))
    {C1 : Addr}
    {C2 : Addr}
    {C3 : Addr}
    {f1 : Addr} {od1 an1 : Option Addr} {sl1 : Array (Option Value)} {oc1 kV1 dc1 pm1 cd1 ct1 : Value}
    {f2 : Addr} {od2 an2 : Option Addr} {sl2 : Array (Option Value)} {oc2 kV2 dc2 pm2 cd2 ct2 : Value}
    {f3 : Addr} {od3 an3 : Option Addr} {sl3 : Array (Option Value)} {oc3 kV3 dc3 pm3 cd3 ct3 : Value}
    {f4 : Addr} {od4 an4 : Option Addr} {sl4 : Array (Option Value)} {oc4 kV4 dc4 pm4 cd4 ct4 : Value}
    {f5 : Addr} {od5 an5 : Option Addr} {sl5 : Array (Option Value)} {oc5 kV5 dc5 pm5 cd5 ct5 : Value}
    {f6 : Addr} {od6 an6 : Option Addr} {sl6 : Array (Option Value)} {oc6 kV6 dc6 pm6 cd6 ct6 : Value}
    {f7 : Addr} {od7 an7 : Option Addr} {sl7 : Array (Option Value)} {oc7 kV7 dc7 pm7 cd7 ct7 : Value}
    {f8 : Addr} {od8 an8 : Option Addr} {sl8 : Array (Option Value)} {oc8 kV8 dc8 pm8 cd8 ct8 : Value}
    {f9 : Addr} {od9 an9 : Option Addr} {sl9 : Array (Option Value)} {oc9 kV9 dc9 pm9 cd9 ct9 : Value}
    {f10 : Addr} {od10 an10 : Option Addr} {sl10 : Array (Option Value)} {oc10 kV10 dc10 pm10 cd10 ct10 : Value}
    {f11 : Addr} {od11 an11 : Option Addr} {sl11 : Array (Option Value)} {oc11 kV11 dc11 pm11 cd11 ct11 : Value}
    {f12 : Addr} {od12 an12 : Option Addr} {sl12 : Array (Option Value)} {oc12 kV12 dc12 pm12 cd12 ct12 : Value}
    {f13 : Addr} {od13 an13 : Option Addr} {sl13 : Array (Option Value)} {oc13 kV13 dc13 pm13 cd13 ct13 : Value}
    {f14 : Addr} {od14 an14 : Option Addr} {sl14 : Array (Option Value)} {oc14 kV14 dc14 pm14 cd14 ct14 : Value}
    {f15 : Addr} {od15 an15 : Option Addr} {sl15 : Array (Option Value)} {oc15 kV15 dc15 pm15 cd15 ct15 : Value}
    {f16 : Addr} {od16 an16 : Option Addr} {sl16 : Array (Option Value)} {oc16 kV16 dc16 pm16 cd16 ct16 : Value}
    {f17 : Addr} {od17 an17 : Option Addr} {sl17 : Array (Option Value)} {oc17 kV17 dc17 pm17 cd17 ct17 : Value}
    {f18 : Addr} {od18 an18 : Option Addr} {sl18 : Array (Option Value)} {oc18 kV18 dc18 pm18 cd18 ct18 : Value}
    {f19 : Addr} {od19 an19 : Option Addr} {sl19 : Array (Option Value)} {oc19 kV19 dc19 pm19 cd19 ct19 : Value}
    {f20 : Addr} {od20 an20 : Option Addr} {sl20 : Array (Option Value)} {oc20 kV20 dc20 pm20 cd20 ct20 : Value}
    {f21 : Addr} {od21 an21 : Option Addr} {sl21 : Array (Option Value)} {oc21 kV21 dc21 pm21 cd21 ct21 : Value}
    {f22 : Addr} {od22 an22 : Option Addr} {sl22 : Array (Option Value)} {oc22 kV22 dc22 pm22 cd22 ct22 : Value}
    {f23 : Addr} {od23 an23 : Option Addr} {sl23 : Array (Option Value)} {oc23 dc23 pm23 cd23 ct23 : Value}
    {kd23 : Addr}
    {f24 : Addr} {od24 an24 : Option Addr} {sl24 : Array (Option Value)} {oc24 kV24 dc24 pm24 cd24 ct24 : Value}
    {f25 : Addr} {od25 an25 : Option Addr} {sl25 : Array (Option Value)} {oc25 kV25 dc25 pm25 cd25 ct25 : Value}
    {f26 : Addr} {od26 an26 : Option Addr} {sl26 : Array (Option Value)} {oc26 kV26 dc26 pm26 cd26 ct26 : Value}
    {f27 : Addr} {od27 an27 : Option Addr} {sl27 : Array (Option Value)} {oc27 kV27 dc27 pm27 cd27 ct27 : Value}
    {f28 : Addr} {od28 an28 : Option Addr} {sl28 : Array (Option Value)} {oc28 kV28 dc28 pm28 cd28 ct28 : Value}
    {pp28 : Addr}
    {f29 : Addr} {od29 an29 : Option Addr} {sl29 : Array (Option Value)} {oc29 dc29 pm29 cd29 ct29 : Value}
    {kd29 : Addr}
    {f30 : Addr} {od30 an30 : Option Addr} {sl30 : Array (Option Value)} {oc30 kV30 dc30 pm30 cd30 ct30 : Value}
    {f31 : Addr} {od31 an31 : Option Addr} {sl31 : Array (Option Value)} {oc31 dc31 pm31 cd31 ct31 : Value}
    {kd31 : Addr}
    {f32 : Addr} {od32 an32 : Option Addr} {sl32 : Array (Option Value)} {oc32 kV32 dc32 pm32 cd32 ct32 : Value}
    {f33 : Addr} {od33 an33 : Option Addr} {sl33 : Array (Option Value)} {oc33 kV33 dc33 pm33 cd33 ct33 : Value}
    {f34 : Addr} {od34 an34 : Option Addr} {sl34 : Array (Option Value)} {oc34 kV34 dc34 pm34 cd34 ct34 : Value}
    {f35 : Addr} {od35 an35 : Option Addr} {sl35 : Array (Option Value)} {oc35 kV35 dc35 pm35 cd35 ct35 : Value}
    {f36 : Addr} {od36 an36 : Option Addr} {sl36 : Array (Option Value)} {oc36 kV36 dc36 pm36 cd36 ct36 : Value}
    {f37 : Addr} {od37 an37 : Option Addr} {sl37 : Array (Option Value)} {oc37 kV37 dc37 pm37 cd37 ct37 : Value}
    {f38 : Addr} {od38 an38 : Option Addr} {sl38 : Array (Option Value)} {oc38 kV38 dc38 pm38 cd38 ct38 : Value}
    {f39 : Addr} {od39 an39 : Option Addr} {sl39 : Array (Option Value)} {oc39 kV39 dc39 pm39 cd39 ct39 : Value}
    {f40 : Addr} {od40 an40 : Option Addr} {sl40 : Array (Option Value)} {oc40 kV40 dc40 pm40 cd40 ct40 : Value}
    {X1 XN1 : Addr} {xnm1 xq1 : Str} {xbs1 xsb1 : List Value} {xsn1 : List Str} {xab1 : Bool} {xco1 : Option Bool} {xdd1 : Option Addr} {xk01 xk11 xk21 xk31 xk51 : Option Value}
    {Y1_1 : Addr}
    {Y1_2 : Addr}
    {Y1_3 : Addr}
    {Y1_4 : Addr}
    {tk0 : Tok}
    {tk1 : Tok}
    {tk2 : Tok}
    {tk3 : Tok}
    {tk4 : Tok}
    {tk5 : Tok}
    {ta6 : Addr} {od06 : Option Addr} {nn6 : Nat} {ss6 : Array (Option Value)} {tk6_0 tk6_1 tk6_2 : Tok}
    {tk7 : Tok}
    {tk8 : Tok}
    {tk9 : Tok}
    {tk10 : Tok}
    {tk11 : Tok}
    {tk12 : Tok}
    {ta13 : Addr} {od013 : Option Addr} {nn13 : Nat} {ss13 : Array (Option Value)} {tk13_0 tk13_1 tk13_2 tk13_3 tk13_4 : Tok}
    {ct0 Pt0 : Addr}
    {oct0 : Value} {odt0 : Option Addr} {vst0 : Array Value} {slt0 : Array (Option Value)}
    (aC1 : PySem.W.nsIn K mainGlobals "Walk" = some (some (.ref C1))) (cg1 : PySem.W.plainGet K C1 Str.empty = true) (ch1 : PySem.W.hasDictIn K C1 = true) (co1 : PySem.W.plainOver K C1 = true) (cx1 : PySem.W.findIn K (.ref C1) "__setattr__" = some (some (.builtin "object.__setattr__"))) (cm1 : PySem.W.makesIn K C1 = true) (ck1 : PySem.W.keepIn K (.ref C1) = true) (n1_0 : PySem.W.findIn K (.ref C1) "old" = some none) (n1_1 : PySem.W.findIn K (.ref C1) "most_members" = some none) (n1_2 : PySem.W.findIn K (.ref C1) "most_depth" = some none) (n1_3 : PySem.W.findIn K (.ref C1) "most_links" = some none) (n1_4 : PySem.W.findIn K (.ref C1) "numbers" = some none) (n1_5 : PySem.W.findIn K (.ref C1) "found" = some none)
    (aC2 : PySem.W.nsIn K mainGlobals "Record" = some (some (.ref C2))) (cg2 : PySem.W.plainGet K C2 Str.empty = true) (ch2 : PySem.W.hasDictIn K C2 = true) (co2 : PySem.W.plainOver K C2 = true) (cx2 : PySem.W.findIn K (.ref C2) "__setattr__" = some (some (.builtin "object.__setattr__"))) (cm2 : PySem.W.makesIn K C2 = true) (ck2 : PySem.W.keepIn K (.ref C2) = true) (n2_0 : PySem.W.findIn K (.ref C2) "kept" = some none) (n2_1 : PySem.W.findIn K (.ref C2) "head" = some none)
    (aC3 : PySem.W.nsIn K mainGlobals "Style" = some (some (.ref C3))) (cg3 : PySem.W.plainGet K C3 Str.empty = true) (ch3 : PySem.W.hasDictIn K C3 = true) (co3 : PySem.W.plainOver K C3 = true) (cx3 : PySem.W.findIn K (.ref C3) "__setattr__" = some (some (.builtin "object.__setattr__"))) (cm3 : PySem.W.makesIn K C3 = true) (ck3 : PySem.W.keepIn K (.ref C3) = true) (n3_0 : PySem.W.findIn K (.ref C3) "limits" = some none)
    (l1 : K.lookup f1 = some ⟨oc1, od1, .func (PySem.W.fnOf "__init__" "NoLimit.__init__" (defArgs s_NoLimit___init__) (defBody s_NoLimit___init__) (defScope s_NoLimit___init__) .none kV1 dc1 pm1 an1 cd1 ct1), sl1⟩) (c1 : PySem.W.codeIn K cd1 "NoLimit.__init__" = true) (k1 : PySem.W.keepIn K (.ref f1) = true)
    (a2 : PySem.W.nsIn K mainGlobals "is_integer" = some (some (.ref f2))) (l2 : K.lookup f2 = some ⟨oc2, od2, .func (PySem.W.fnOf "is_integer" "is_integer" (defArgs s_is_integer) (defBody s_is_integer) (defScope s_is_integer) .none kV2 dc2 pm2 an2 cd2 ct2), sl2⟩) (c2 : PySem.W.codeIn K cd2 "is_integer" = true) (k2 : PySem.W.keepIn K (.ref f2) = true)
    (a3 : PySem.W.nsIn K mainGlobals "is_from" = some (some (.ref f3))) (l3 : K.lookup f3 = some ⟨oc3, od3, .func (PySem.W.fnOf "is_from" "is_from" (defArgs s_is_from) (defBody s_is_from) (defScope s_is_from) .none kV3 dc3 pm3 an3 cd3 ct3), sl3⟩) (c3 : PySem.W.codeIn K cd3 "is_from" = true) (k3 : PySem.W.keepIn K (.ref f3) = true)
    (a4 : PySem.W.nsIn K mainGlobals "is_name" = some (some (.ref f4))) (l4 : K.lookup f4 = some ⟨oc4, od4, .func (PySem.W.fnOf "is_name" "is_name" (defArgs s_is_name) (defBody s_is_name) (defScope s_is_name) .none kV4 dc4 pm4 an4 cd4 ct4), sl4⟩) (c4 : PySem.W.codeIn K cd4 "is_name" = true) (k4 : PySem.W.keepIn K (.ref f4) = true)
    (a5 : PySem.W.nsIn K mainGlobals "is_line" = some (some (.ref f5))) (l5 : K.lookup f5 = some ⟨oc5, od5, .func (PySem.W.fnOf "is_line" "is_line" (defArgs s_is_line) (defBody s_is_line) (defScope s_is_line) .none kV5 dc5 pm5 an5 cd5 ct5), sl5⟩) (c5 : PySem.W.codeIn K cd5 "is_line" = true) (k5 : PySem.W.keepIn K (.ref f5) = true)
    (a6 : PySem.W.nsIn K mainGlobals "is_shown" = some (some (.ref f6))) (l6 : K.lookup f6 = some ⟨oc6, od6, .func (PySem.W.fnOf "is_shown" "is_shown" (defArgs s_is_shown) (defBody s_is_shown) (defScope s_is_shown) .none kV6 dc6 pm6 an6 cd6 ct6), sl6⟩) (c6 : PySem.W.codeIn K cd6 "is_shown" = true) (k6 : PySem.W.keepIn K (.ref f6) = true)
    (a7 : PySem.W.nsIn K mainGlobals "is_row" = some (some (.ref f7))) (l7 : K.lookup f7 = some ⟨oc7, od7, .func (PySem.W.fnOf "is_row" "is_row" (defArgs s_is_row) (defBody s_is_row) (defScope s_is_row) .none kV7 dc7 pm7 an7 cd7 ct7), sl7⟩) (c7 : PySem.W.codeIn K cd7 "is_row" = true) (k7 : PySem.W.keepIn K (.ref f7) = true)
    (a8 : PySem.W.nsIn K mainGlobals "is_gap" = some (some (.ref f8))) (l8 : K.lookup f8 = some ⟨oc8, od8, .func (PySem.W.fnOf "is_gap" "is_gap" (defArgs s_is_gap) (defBody s_is_gap) (defScope s_is_gap) .none kV8 dc8 pm8 an8 cd8 ct8), sl8⟩) (c8 : PySem.W.codeIn K cd8 "is_gap" = true) (k8 : PySem.W.keepIn K (.ref f8) = true)
    (a9 : PySem.W.nsIn K mainGlobals "is_text" = some (some (.ref f9))) (l9 : K.lookup f9 = some ⟨oc9, od9, .func (PySem.W.fnOf "is_text" "is_text" (defArgs s_is_text) (defBody s_is_text) (defScope s_is_text) .none kV9 dc9 pm9 an9 cd9 ct9), sl9⟩) (c9 : PySem.W.codeIn K cd9 "is_text" = true) (k9 : PySem.W.keepIn K (.ref f9) = true)
    (a10 : PySem.W.nsIn K mainGlobals "in_range" = some (some (.ref f10))) (l10 : K.lookup f10 = some ⟨oc10, od10, .func (PySem.W.fnOf "in_range" "in_range" (defArgs s_in_range) (defBody s_in_range) (defScope s_in_range) .none kV10 dc10 pm10 an10 cd10 ct10), sl10⟩) (c10 : PySem.W.codeIn K cd10 "in_range" = true) (k10 : PySem.W.keepIn K (.ref f10) = true)
    (a11 : PySem.W.nsIn K mainGlobals "bad_row" = some (some (.ref f11))) (l11 : K.lookup f11 = some ⟨oc11, od11, .func (PySem.W.fnOf "bad_row" "bad_row" (defArgs s_bad_row) (defBody s_bad_row) (defScope s_bad_row) .none kV11 dc11 pm11 an11 cd11 ct11), sl11⟩) (c11 : PySem.W.codeIn K cd11 "bad_row" = true) (k11 : PySem.W.keepIn K (.ref f11) = true)
    (a12 : PySem.W.nsIn K mainGlobals "is_counted" = some (some (.ref f12))) (l12 : K.lookup f12 = some ⟨oc12, od12, .func (PySem.W.fnOf "is_counted" "is_counted" (defArgs s_is_counted) (defBody s_is_counted) (defScope s_is_counted) .none kV12 dc12 pm12 an12 cd12 ct12), sl12⟩) (c12 : PySem.W.codeIn K cd12 "is_counted" = true) (k12 : PySem.W.keepIn K (.ref f12) = true)
    (a13 : PySem.W.nsIn K mainGlobals "are_members" = some (some (.ref f13))) (l13 : K.lookup f13 = some ⟨oc13, od13, .func (PySem.W.fnOf "are_members" "are_members" (defArgs s_are_members) (defBody s_are_members) (defScope s_are_members) .none kV13 dc13 pm13 an13 cd13 ct13), sl13⟩) (c13 : PySem.W.codeIn K cd13 "are_members" = true) (k13 : PySem.W.keepIn K (.ref f13) = true)
    (a14 : PySem.W.nsIn K mainGlobals "is_link" = some (some (.ref f14))) (l14 : K.lookup f14 = some ⟨oc14, od14, .func (PySem.W.fnOf "is_link" "is_link" (defArgs s_is_link) (defBody s_is_link) (defScope s_is_link) .none kV14 dc14 pm14 an14 cd14 ct14), sl14⟩) (c14 : PySem.W.codeIn K cd14 "is_link" = true) (k14 : PySem.W.keepIn K (.ref f14) = true)
    (a15 : PySem.W.nsIn K mainGlobals "is_entry" = some (some (.ref f15))) (l15 : K.lookup f15 = some ⟨oc15, od15, .func (PySem.W.fnOf "is_entry" "is_entry" (defArgs s_is_entry) (defBody s_is_entry) (defScope s_is_entry) .none kV15 dc15 pm15 an15 cd15 ct15), sl15⟩) (c15 : PySem.W.codeIn K cd15 "is_entry" = true) (k15 : PySem.W.keepIn K (.ref f15) = true)
    (a16 : PySem.W.nsIn K mainGlobals "numbers_in" = some (some (.ref f16))) (l16 : K.lookup f16 = some ⟨oc16, od16, .func (PySem.W.fnOf "numbers_in" "numbers_in" (defArgs s_numbers_in) (defBody s_numbers_in) (defScope s_numbers_in) .none kV16 dc16 pm16 an16 cd16 ct16), sl16⟩) (c16 : PySem.W.codeIn K cd16 "numbers_in" = true) (k16 : PySem.W.keepIn K (.ref f16) = true)
    (a17 : PySem.W.nsIn K mainGlobals "left_out" = some (some (.ref f17))) (l17 : K.lookup f17 = some ⟨oc17, od17, .func (PySem.W.fnOf "left_out" "left_out" (defArgs s_left_out) (defBody s_left_out) (defScope s_left_out) .none kV17 dc17 pm17 an17 cd17 ct17), sl17⟩) (c17 : PySem.W.codeIn K cd17 "left_out" = true) (k17 : PySem.W.keepIn K (.ref f17) = true)
    (a18 : PySem.W.nsIn K mainGlobals "headline" = some (some (.ref f18))) (l18 : K.lookup f18 = some ⟨oc18, od18, .func (PySem.W.fnOf "headline" "headline" (defArgs s_headline) (defBody s_headline) (defScope s_headline) .none kV18 dc18 pm18 an18 cd18 ct18), sl18⟩) (c18 : PySem.W.codeIn K cd18 "headline" = true) (k18 : PySem.W.keepIn K (.ref f18) = true)
    (a19 : PySem.W.nsIn K mainGlobals "size_of" = some (some (.ref f19))) (l19 : K.lookup f19 = some ⟨oc19, od19, .func (PySem.W.fnOf "size_of" "size_of" (defArgs s_size_of) (defBody s_size_of) (defScope s_size_of) .none kV19 dc19 pm19 an19 cd19 ct19), sl19⟩) (c19 : PySem.W.codeIn K cd19 "size_of" = true) (k19 : PySem.W.keepIn K (.ref f19) = true)
    (a20 : PySem.W.nsIn K mainGlobals "closed" = some (some (.ref f20))) (l20 : K.lookup f20 = some ⟨oc20, od20, .func (PySem.W.fnOf "closed" "closed" (defArgs s_closed) (defBody s_closed) (defScope s_closed) .none kV20 dc20 pm20 an20 cd20 ct20), sl20⟩) (c20 : PySem.W.codeIn K cd20 "closed" = true) (k20 : PySem.W.keepIn K (.ref f20) = true)
    (a21 : PySem.W.nsIn K mainGlobals "shortened" = some (some (.ref f21))) (l21 : K.lookup f21 = some ⟨oc21, od21, .func (PySem.W.fnOf "shortened" "shortened" (defArgs s_shortened) (defBody s_shortened) (defScope s_shortened) .none kV21 dc21 pm21 an21 cd21 ct21), sl21⟩) (c21 : PySem.W.codeIn K cd21 "shortened" = true) (k21 : PySem.W.keepIn K (.ref f21) = true)
    (a22 : PySem.W.nsIn K mainGlobals "look_limits" = some (some (.ref f22))) (l22 : K.lookup f22 = some ⟨oc22, od22, .func (PySem.W.fnOf "look_limits" "look_limits" (defArgs s_look_limits) (defBody s_look_limits) (defScope s_look_limits) .none kV22 dc22 pm22 an22 cd22 ct22), sl22⟩) (c22 : PySem.W.codeIn K cd22 "look_limits" = true) (k22 : PySem.W.keepIn K (.ref f22) = true)
    (a23 : PySem.W.findIn K (.ref C1) "__init__" = some (some (.ref f23))) (i23 : PySem.W.isFn K (.ref f23) = true) (l23 : K.lookup f23 = some ⟨oc23, od23, .func (PySem.W.fnOf "__init__" "Walk.__init__" (defArgs s_Walk___init__) (defBody s_Walk___init__) (defScope s_Walk___init__) .none (.ref kd23) dc23 pm23 an23 cd23 ct23), sl23⟩) (c23 : PySem.W.codeIn K cd23 "Walk.__init__" = true) (k23 : PySem.W.keepIn K (.ref f23) = true) (w23_0 : PySem.W.nsIn K kd23 "width" = some (some .none)) (w23_1 : PySem.W.nsIn K kd23 "depth" = some (some .none)) (w23_2 : PySem.W.nsIn K kd23 "chain" = some (some .none))
    (a24 : PySem.W.findIn K (.ref C1) "meet" = some (some (.ref f24))) (i24 : PySem.W.isFn K (.ref f24) = true) (l24 : K.lookup f24 = some ⟨oc24, od24, .func (PySem.W.fnOf "meet" "Walk.meet" (defArgs s_Walk_meet) (defBody s_Walk_meet) (defScope s_Walk_meet) .none kV24 dc24 pm24 an24 cd24 ct24), sl24⟩) (c24 : PySem.W.codeIn K cd24 "Walk.meet" = true) (k24 : PySem.W.keepIn K (.ref f24) = true)
    (a25 : PySem.W.findIn K (.ref C1) "met_members" = some (some (.ref f25))) (i25 : PySem.W.isFn K (.ref f25) = true) (l25 : K.lookup f25 = some ⟨oc25, od25, .func (PySem.W.fnOf "met_members" "Walk.met_members" (defArgs s_Walk_met_members) (defBody s_Walk_met_members) (defScope s_Walk_met_members) .none kV25 dc25 pm25 an25 cd25 ct25), sl25⟩) (c25 : PySem.W.codeIn K cd25 "Walk.met_members" = true) (k25 : PySem.W.keepIn K (.ref f25) = true)
    (a26 : PySem.W.findIn K (.ref C1) "met_link" = some (some (.ref f26))) (i26 : PySem.W.isFn K (.ref f26) = true) (l26 : K.lookup f26 = some ⟨oc26, od26, .func (PySem.W.fnOf "met_link" "Walk.met_link" (defArgs s_Walk_met_link) (defBody s_Walk_met_link) (defScope s_Walk_met_link) .none kV26 dc26 pm26 an26 cd26 ct26), sl26⟩) (c26 : PySem.W.codeIn K cd26 "Walk.met_link" = true) (k26 : PySem.W.keepIn K (.ref f26) = true)
    (a27 : PySem.W.findIn K (.ref C2) "__init__" = some (some (.ref f27))) (i27 : PySem.W.isFn K (.ref f27) = true) (l27 : K.lookup f27 = some ⟨oc27, od27, .func (PySem.W.fnOf "__init__" "Record.__init__" (defArgs s_Record___init__) (defBody s_Record___init__) (defScope s_Record___init__) .none kV27 dc27 pm27 an27 cd27 ct27), sl27⟩) (c27 : PySem.W.codeIn K cd27 "Record.__init__" = true) (k27 : PySem.W.keepIn K (.ref f27) = true)
    (rd28 : PySem.W.readsIn K C2 (.type "type") = true) (ga28 : PySem.W.specialIn K (.ref C2) "__getattribute__" = some (some (.builtin "type.__getattribute__"))) (a28 : PySem.W.findCls K (.ref C2) (.type "type") "of" = some (.get (.builtin "classmethod.__get__") (.ref pp28) .none (.ref C2))) (pr28 : ∃ rest, PySem.W.recIn K pp28 "classmethod" = some (.ref f28 :: rest)) (fi28 : PySem.W.fnIn K f28 = true) (l28 : K.lookup f28 = some ⟨oc28, od28, .func (PySem.W.fnOf "of" "Record.of" (defArgs s_Record_of) (defBody s_Record_of) (defScope s_Record_of) .none kV28 dc28 pm28 an28 cd28 ct28), sl28⟩) (c28 : PySem.W.codeIn K cd28 "Record.of" = true) (k28 : PySem.W.keepIn K (.ref f28) = true)
    (a29 : PySem.W.findIn K (.ref C2) "cut" = some (some (.ref f29))) (i29 : PySem.W.isFn K (.ref f29) = true) (l29 : K.lookup f29 = some ⟨oc29, od29, .func (PySem.W.fnOf "cut" "Record.cut" (defArgs s_Record_cut) (defBody s_Record_cut) (defScope s_Record_cut) .none (.ref kd29) dc29 pm29 an29 cd29 ct29), sl29⟩) (c29 : PySem.W.codeIn K cd29 "Record.cut" = true) (k29 : PySem.W.keepIn K (.ref f29) = true) (w29_0 : PySem.W.nsIn K kd29 "first" = some (some .none)) (w29_1 : PySem.W.nsIn K kd29 "last" = some (some .none)) (w29_2 : PySem.W.nsIn K kd29 "width" = some (some .none)) (w29_3 : PySem.W.nsIn K kd29 "depth" = some (some .none)) (w29_4 : PySem.W.nsIn K kd29 "chain" = some (some .none))
    (a30 : PySem.W.nsIn K mainGlobals "is_limit" = some (some (.ref f30))) (l30 : K.lookup f30 = some ⟨oc30, od30, .func (PySem.W.fnOf "is_limit" "is_limit" (defArgs s_is_limit) (defBody s_is_limit) (defScope s_is_limit) .none kV30 dc30 pm30 an30 cd30 ct30), sl30⟩) (c30 : PySem.W.codeIn K cd30 "is_limit" = true) (k30 : PySem.W.keepIn K (.ref f30) = true)
    (a31 : PySem.W.findIn K (.ref C3) "__init__" = some (some (.ref f31))) (i31 : PySem.W.isFn K (.ref f31) = true) (l31 : K.lookup f31 = some ⟨oc31, od31, .func (PySem.W.fnOf "__init__" "Style.__init__" (defArgs s_Style___init__) (defBody s_Style___init__) (defScope s_Style___init__) .none (.ref kd31) dc31 pm31 an31 cd31 ct31), sl31⟩) (c31 : PySem.W.codeIn K cd31 "Style.__init__" = true) (k31 : PySem.W.keepIn K (.ref f31) = true) (w31_0 : PySem.W.nsIn K kd31 "first" = some (some .none)) (w31_1 : PySem.W.nsIn K kd31 "last" = some (some .none)) (w31_2 : PySem.W.nsIn K kd31 "width" = some (some .none)) (w31_3 : PySem.W.nsIn K kd31 "depth" = some (some .none)) (w31_4 : PySem.W.nsIn K kd31 "chain" = some (some .none))
    (a32 : PySem.W.nsIn K mainGlobals "_law_bag" = some (some (.ref f32))) (l32 : K.lookup f32 = some ⟨oc32, od32, .func (PySem.W.fnOf "_law_bag" "_law_bag" (defArgs s_bag) (defBody s_bag) (defScope s_bag) .none kV32 dc32 pm32 an32 cd32 ct32), sl32⟩) (c32 : PySem.W.codeIn K cd32 "_law_bag" = true) (k32 : PySem.W.keepIn K (.ref f32) = true)
    (a33 : PySem.W.nsIn K mainGlobals "_law_take" = some (some (.ref f33))) (l33 : K.lookup f33 = some ⟨oc33, od33, .func (PySem.W.fnOf "_law_take" "_law_take" (defArgs s_take) (defBody s_take) (defScope s_take) .none kV33 dc33 pm33 an33 cd33 ct33), sl33⟩) (c33 : PySem.W.codeIn K cd33 "_law_take" = true) (k33 : PySem.W.keepIn K (.ref f33) = true)
    (a34 : PySem.W.nsIn K mainGlobals "_law_any" = some (some (.ref f34))) (l34 : K.lookup f34 = some ⟨oc34, od34, .func (PySem.W.fnOf "_law_any" "_law_any" (defArgs s_any) (defBody s_any) (defScope s_any) .none kV34 dc34 pm34 an34 cd34 ct34), sl34⟩) (c34 : PySem.W.codeIn K cd34 "_law_any" = true) (k34 : PySem.W.keepIn K (.ref f34) = true)
    (a35 : PySem.W.nsIn K mainGlobals "_law_limits" = some (some (.ref f35))) (l35 : K.lookup f35 = some ⟨oc35, od35, .func (PySem.W.fnOf "_law_limits" "_law_limits" (defArgs s_limits) (defBody s_limits) (defScope s_limits) .none kV35 dc35 pm35 an35 cd35 ct35), sl35⟩) (c35 : PySem.W.codeIn K cd35 "_law_limits" = true) (k35 : PySem.W.keepIn K (.ref f35) = true)
    (a36 : PySem.W.nsIn K mainGlobals "_law_style" = some (some (.ref f36))) (l36 : K.lookup f36 = some ⟨oc36, od36, .func (PySem.W.fnOf "_law_style" "_law_style" (defArgs s_style) (defBody s_style) (defScope s_style) .none kV36 dc36 pm36 an36 cd36 ct36), sl36⟩) (c36 : PySem.W.codeIn K cd36 "_law_style" = true) (k36 : PySem.W.keepIn K (.ref f36) = true)
    (a37 : PySem.W.nsIn K mainGlobals "_law_refused" = some (some (.ref f37))) (l37 : K.lookup f37 = some ⟨oc37, od37, .func (PySem.W.fnOf "_law_refused" "_law_refused" (defArgs s_refused) (defBody s_refused) (defScope s_refused) .none kV37 dc37 pm37 an37 cd37 ct37), sl37⟩) (c37 : PySem.W.codeIn K cd37 "_law_refused" = true) (k37 : PySem.W.keepIn K (.ref f37) = true)
    (a38 : PySem.W.nsIn K mainGlobals "_law_due" = some (some (.ref f38))) (l38 : K.lookup f38 = some ⟨oc38, od38, .func (PySem.W.fnOf "_law_due" "_law_due" (defArgs s_due) (defBody s_due) (defScope s_due) .none kV38 dc38 pm38 an38 cd38 ct38), sl38⟩) (c38 : PySem.W.codeIn K cd38 "_law_due" = true) (k38 : PySem.W.keepIn K (.ref f38) = true)
    (a39 : PySem.W.nsIn K mainGlobals "_law_cut_by" = some (some (.ref f39))) (l39 : K.lookup f39 = some ⟨oc39, od39, .func (PySem.W.fnOf "_law_cut_by" "_law_cut_by" (defArgs s_cut_by) (defBody s_cut_by) (defScope s_cut_by) .none kV39 dc39 pm39 an39 cd39 ct39), sl39⟩) (c39 : PySem.W.codeIn K cd39 "_law_cut_by" = true) (k39 : PySem.W.keepIn K (.ref f39) = true)
    (a40 : PySem.W.nsIn K mainGlobals "law" = some (some (.ref f40))) (l40 : K.lookup f40 = some ⟨oc40, od40, .func (PySem.W.fnOf "law" "law" (defArgs s_law) (defBody s_law) (defScope s_law) .none kV40 dc40 pm40 an40 cd40 ct40), sl40⟩) (c40 : PySem.W.codeIn K cd40 "law" = true) (k40 : PySem.W.keepIn K (.ref f40) = true)
    (xa1 : PySem.W.nsIn K mainGlobals "NoLimit" = some (some (.ref X1))) (xl1 : K.lookup X1 = some (excClassObj xnm1 xq1 X1 XN1 xbs1 bmAE true xsn1 xsb1 xab1 xco1 xdd1 xk01 xk11 xk21 xk31 xk51 "ArithmeticError.__new__")) (xs1 : PySem.W.findIn K (.ref X1) "__setattr__" = some (some (.builtin "object.__setattr__"))) (xe1 : PySem.W.subIn K (.ref X1) (.type "BaseException") = some true) (xt1 : PySem.W.typeIn K (.ref X1) = some (.type "type")) (xp1 : PySem.W.keepIn K (.ref X1) = true) (xi1 : PySem.W.findIn K (.ref X1) "__init__" = some (some (.ref f1))) (xy1 : PySem.W.typeIn K (.ref f1) = some (.type "function")) (xv1 : PySem.W.findCls K (.type "ArithmeticError") (.type "type") "__init__" = some (.val (.builtin "ArithmeticError.__init__"))) (xn1 : PySem.W.findIn K (.ref X1) "name" = some none) (xg1 : PySem.W.findIn K (.ref X1) "__getattribute__" = some (some (.builtin "BaseException.__getattribute__"))) (xh1 : PySem.W.findIn K (.ref X1) "__getattr__" = some none) (xd1 : PySem.W.hasDictIn K X1 = true) (xm1 : PySem.W.subIn K (.ref X1) (.ref X1) = some true) (xz1 : PySem.W.nsIn K mainGlobals "ArithmeticError" = some none)
    (va1 : PySem.W.findIn K (.ref X1) "__class__" = some (some (.builtin "object.__class__"))) (vb1 : PySem.W.specialIn K (.builtin "object.__class__") "__get__" = some (some (.builtin "getset_descriptor.__get__"))) (vc1 : PySem.W.takesIn K (.builtin "object.__class__") = some true) (vd1 : PySem.W.mroIn K X1 (.type "object") = some true)
    (ws1_0 : PySem.W.subIn K (.ref X1) (.type "ArithmeticError") = some true) (wz1_0 : PySem.W.nsIn K mainGlobals "ArithmeticError" = some none)
    (wz1_1 : PySem.W.nsIn K mainGlobals "BadReport" = some (some (.ref Y1_1))) (wd1_1 : PySem.W.hasDictIn K Y1_1 = true) (wt1_1 : PySem.W.typeIn K (.ref Y1_1) = some (.type "type")) (ws1_1 : PySem.W.subIn K (.ref X1) (.ref Y1_1) = some false)
    (wz1_2 : PySem.W.nsIn K mainGlobals "NoEntry" = some (some (.ref Y1_2))) (wd1_2 : PySem.W.hasDictIn K Y1_2 = true) (wt1_2 : PySem.W.typeIn K (.ref Y1_2) = some (.type "type")) (ws1_2 : PySem.W.subIn K (.ref X1) (.ref Y1_2) = some false)
    (wz1_3 : PySem.W.nsIn K mainGlobals "NoRecord" = some (some (.ref Y1_3))) (wd1_3 : PySem.W.hasDictIn K Y1_3 = true) (wt1_3 : PySem.W.typeIn K (.ref Y1_3) = some (.type "type")) (ws1_3 : PySem.W.subIn K (.ref X1) (.ref Y1_3) = some false)
    (wz1_4 : PySem.W.nsIn K mainGlobals "TooMany" = some (some (.ref Y1_4))) (wd1_4 : PySem.W.hasDictIn K Y1_4 = true) (wt1_4 : PySem.W.typeIn K (.ref Y1_4) = some (.type "type")) (ws1_4 : PySem.W.subIn K (.ref X1) (.ref Y1_4) = some false)
    (ws1_5 : PySem.W.subIn K (.ref X1) (.type "ValueError") = some false) (wz1_5 : PySem.W.nsIn K mainGlobals "ValueError" = some none)
    (m0 : PySem.W.nsIn K mainGlobals "LETTERS" = some (some (.str "abcdefghijklmnopqrstuvwxyz" tk0)))
    (m1 : PySem.W.nsIn K mainGlobals "MOST_LETTERS" = some (some (.int 8 tk1)))
    (m2 : PySem.W.nsIn K mainGlobals "TEXT" = some (some (.str "text" tk2)))
    (m3 : PySem.W.nsIn K mainGlobals "LACK" = some (some (.str "lack" tk3)))
    (m4 : PySem.W.nsIn K mainGlobals "GAP" = some (some (.str "gap" tk4)))
    (m5 : PySem.W.nsIn K mainGlobals "FEED" = some (some (.str "\n" tk5)))
    (m6 : PySem.W.nsIn K mainGlobals "LACKS" = some (some (.ref ta6)))
    (t6 : K.lookup ta6 = some ⟨.type "tuple", od06, .seq #[.str "changed" tk6_0, .str "gone" tk6_1, .str "short" tk6_2] nn6, ss6⟩)
    (m7 : PySem.W.nsIn K mainGlobals "MOST_ROWS" = some (some (.int 1000 tk7)))
    (m8 : PySem.W.nsIn K mainGlobals "CAUSE" = some (some (.str "cause" tk8)))
    (m9 : PySem.W.nsIn K mainGlobals "CONTEXT" = some (some (.str "context" tk9)))
    (m10 : PySem.W.nsIn K mainGlobals "MORE" = some (some (.str "more" tk10)))
    (m11 : PySem.W.nsIn K mainGlobals "DEEP" = some (some (.str "deep" tk11)))
    (m12 : PySem.W.nsIn K mainGlobals "MOST_ENTRIES" = some (some (.int 100 tk12)))
    (m13 : PySem.W.nsIn K mainGlobals "NAMES" = some (some (.ref ta13)))
    (t13 : K.lookup ta13 = some ⟨.type "tuple", od013, .seq #[.str "first" tk13_0, .str "last" tk13_1, .str "width" tk13_2, .str "depth" tk13_3, .str "chain" tk13_4] nn13, ss13⟩)
    (z0 : PySem.W.nsIn K mainGlobals "int" = some none)
    (z1 : PySem.W.nsIn K mainGlobals "bool" = some none)
    (z2 : PySem.W.nsIn K mainGlobals "str" = some none)
    (z3 : PySem.W.nsIn K mainGlobals "list" = some none)
    (z4 : PySem.W.nsIn K mainGlobals "tuple" = some none)
    (z5 : PySem.W.nsIn K mainGlobals "len" = some none)
    (z6 : PySem.W.nsIn K mainGlobals "isinstance" = some none)
    (z7 : PySem.W.nsIn K mainGlobals "abs" = some none)
    (z8 : PySem.W.nsIn K mainGlobals "min" = some none)
    (z9 : PySem.W.nsIn K mainGlobals "max" = some none)
    (z10 : PySem.W.nsIn K mainGlobals "any" = some none)
    (z11 : PySem.W.nsIn K mainGlobals "all" = some none)
    (z12 : PySem.W.nsIn K mainGlobals "sum" = some none)
    (z13 : PySem.W.nsIn K mainGlobals "range" = some none)
    (z14 : PySem.W.nsIn K mainGlobals "zip" = some none)
    (z15 : PySem.W.nsIn K mainGlobals "enumerate" = some none)
    (z16 : PySem.W.nsIn K mainGlobals "repr" = some none)
    (z17 : PySem.W.nsIn K mainGlobals "sorted" = some none)
    (z18 : PySem.W.nsIn K mainGlobals "dict" = some none)
    (tc : cd40 = .ref ct0) (tlc : K.lookup ct0 = some ⟨oct0, odt0, .fields vst0, slt0⟩) (tlv : (vst0[11]? : Option Value) = some (.ref Pt0)) (tn : K.lookup Pt0 = none) :
    ∃ (fd : FuncData) (ct Pt : Addr), PySem.W.tabIn K "law" = some (ct, Pt) ∧ K.lookup Pt = none ∧ (∀ (s : Shared) (v : Value), BindsTo s fd ⟨[v], []⟩ [("_law_script", v)]) ∧ ∀ base : Heap, K.In base → base.Ns mainGlobals mg → LamX.TabB base mg ct Pt → FnG l.prog w K mg base CX0 49 fa fd ["_law_script"] (toSp K (spLawT Pt)) := by
  have e := hfa.symm.trans (PySem.W.mg_of X G a40)
  cases e
  have Z : Zs mg := ⟨PySem.W.mg_none_of X G z0, PySem.W.mg_none_of X G z1, PySem.W.mg_none_of X G z2, PySem.W.mg_none_of X G z3, PySem.W.mg_none_of X G z4, PySem.W.mg_none_of X G z5, PySem.W.mg_none_of X G z6, PySem.W.mg_none_of X G z7, PySem.W.mg_none_of X G z8, PySem.W.mg_none_of X G z9, PySem.W.mg_none_of X G z10, PySem.W.mg_none_of X G z11, PySem.W.mg_none_of X G z12, PySem.W.mg_none_of X G z13, PySem.W.mg_none_of X G z14, PySem.W.mg_none_of X G z15, PySem.W.mg_none_of X G z16, PySem.W.mg_none_of X G z17, PySem.W.mg_none_of X G z18⟩
  have g0 : MgK K mg "LETTERS" (.str "abcdefghijklmnopqrstuvwxyz") := mgk_str (PySem.W.mg_of X G m0)
  have g1 : MgK K mg "MOST_LETTERS" (.int 8) := mgk_int (PySem.W.mg_of X G m1)
  have g2 : MgK K mg "TEXT" (.str "text") := mgk_str (PySem.W.mg_of X G m2)
  have g3 : MgK K mg "LACK" (.str "lack") := mgk_str (PySem.W.mg_of X G m3)
  have g4 : MgK K mg "GAP" (.str "gap") := mgk_str (PySem.W.mg_of X G m4)
  have g5 : MgK K mg "FEED" (.str "\n") := mgk_str (PySem.W.mg_of X G m5)
  have g6 : MgK K mg "LACKS" (.tup ((["changed", "gone", "short"] : List Str).map D.str)) := mgk_tup (xs := (["changed", "gone", "short"] : List Str).map V.str) (PySem.W.mg_of X G m6) t6 rfl rfl (Nat.le_trans (Nat.le_of_ble_eq_true (m := 1000) rfl) (by decide)) (.cons ⟨_, rfl⟩ (.cons ⟨_, rfl⟩ (.cons ⟨_, rfl⟩ .nil))) fun G => datAll_strsI _
  have g7 : MgK K mg "MOST_ROWS" (.int 1000) := mgk_int (PySem.W.mg_of X G m7)
  have g8 : MgK K mg "CAUSE" (.str "cause") := mgk_str (PySem.W.mg_of X G m8)
  have g9 : MgK K mg "CONTEXT" (.str "context") := mgk_str (PySem.W.mg_of X G m9)
  have g10 : MgK K mg "MORE" (.str "more") := mgk_str (PySem.W.mg_of X G m10)
  have g11 : MgK K mg "DEEP" (.str "deep") := mgk_str (PySem.W.mg_of X G m11)
  have g12 : MgK K mg "MOST_ENTRIES" (.int 100) := mgk_int (PySem.W.mg_of X G m12)
  have g13 : MgK K mg "NAMES" (.tup ((["first", "last", "width", "depth", "chain"] : List Str).map D.str)) := mgk_tup (xs := (["first", "last", "width", "depth", "chain"] : List Str).map V.str) (PySem.W.mg_of X G m13) t13 rfl rfl (Nat.le_trans (Nat.le_of_ble_eq_true (m := 1000) rfl) (by decide)) (.cons ⟨_, rfl⟩ (.cons ⟨_, rfl⟩ (.cons ⟨_, rfl⟩ (.cons ⟨_, rfl⟩ (.cons ⟨_, rfl⟩ .nil))))) fun G => datAll_strsI _
  have cls1 : Cls K C1 := ⟨cg1, ch1, co1, cx1⟩
  have T1 := (⟨⟨cls1, n1_0⟩, ⟨cls1, n1_1⟩, ⟨cls1, n1_2⟩, ⟨cls1, n1_3⟩, ⟨cls1, n1_4⟩, ⟨cls1, n1_5⟩⟩ : Twc K C1)
  have cls2 : Cls K C2 := ⟨cg2, ch2, co2, cx2⟩
  have T2 := (⟨⟨cls2, n2_0⟩, ⟨cls2, n2_1⟩⟩ : Trc K C2)
  have cls3 : Cls K C3 := ⟨cg3, ch3, co3, cx3⟩
  have T3 := (⟨cls3, n3_0⟩ : FldC K C3 "limits")
  have F1 := fun_mk (st := s_NoLimit___init__) l1 c1 k1
  have b1 := F1.binds (ps := ["self", "name"]) fun _ _ _ _ _ _ us hl => match us, hl with | [_, _], _ => rfl
  have F2 := fun_mk (st := s_is_integer) l2 c2 k2
  have b2 := F2.binds (ps := ["thing"]) fun _ _ _ _ _ _ us hl => match us, hl with | [_], _ => rfl
  have F3 := fun_mk (st := s_is_from) l3 c3 k3
  have b3 := F3.binds (ps := ["thing", "low"]) fun _ _ _ _ _ _ us hl => match us, hl with | [_, _], _ => rfl
  have F4 := fun_mk (st := s_is_name) l4 c4 k4
  have b4 := F4.binds (ps := ["thing"]) fun _ _ _ _ _ _ us hl => match us, hl with | [_], _ => rfl
  have F5 := fun_mk (st := s_is_line) l5 c5 k5
  have b5 := F5.binds (ps := ["thing"]) fun _ _ _ _ _ _ us hl => match us, hl with | [_], _ => rfl
  have F6 := fun_mk (st := s_is_shown) l6 c6 k6
  have b6 := F6.binds (ps := ["thing"]) fun _ _ _ _ _ _ us hl => match us, hl with | [_], _ => rfl
  have F7 := fun_mk (st := s_is_row) l7 c7 k7
  have b7 := F7.binds (ps := ["thing"]) fun _ _ _ _ _ _ us hl => match us, hl with | [_], _ => rfl
  have F8 := fun_mk (st := s_is_gap) l8 c8 k8
  have b8 := F8.binds (ps := ["thing"]) fun _ _ _ _ _ _ us hl => match us, hl with | [_], _ => rfl
  have F9 := fun_mk (st := s_is_text) l9 c9 k9
  have b9 := F9.binds (ps := ["thing"]) fun _ _ _ _ _ _ us hl => match us, hl with | [_], _ => rfl
  have F10 := fun_mk (st := s_in_range) l10 c10 k10
  have b10 := F10.binds (ps := ["thing", "low", "high"]) fun _ _ _ _ _ _ us hl => match us, hl with | [_, _, _], _ => rfl
  have F11 := fun_mk (st := s_bad_row) l11 c11 k11
  have b11 := F11.binds (ps := ["rows"]) fun _ _ _ _ _ _ us hl => match us, hl with | [_], _ => rfl
  have F12 := fun_mk (st := s_is_counted) l12 c12 k12
  have b12 := F12.binds (ps := ["thing", "word"]) fun _ _ _ _ _ _ us hl => match us, hl with | [_, _], _ => rfl
  have F13 := fun_mk (st := s_are_members) l13 c13 k13
  have b13 := F13.binds (ps := ["thing", "many"]) fun _ _ _ _ _ _ us hl => match us, hl with | [_, _], _ => rfl
  have F14 := fun_mk (st := s_is_link) l14 c14 k14
  have b14 := F14.binds (ps := ["thing", "many"]) fun _ _ _ _ _ _ us hl => match us, hl with | [_, _], _ => rfl
  have F15 := fun_mk (st := s_is_entry) l15 c15 k15
  have b15 := F15.binds (ps := ["thing", "many"]) fun _ _ _ _ _ _ us hl => match us, hl with | [_, _], _ => rfl
  have F16 := fun_mk (st := s_numbers_in) l16 c16 k16
  have b16 := F16.binds (ps := ["members"]) fun _ _ _ _ _ _ us hl => match us, hl with | [_], _ => rfl
  have F17 := fun_mk (st := s_left_out) l17 c17 k17
  have b17 := F17.binds (ps := ["members"]) fun _ _ _ _ _ _ us hl => match us, hl with | [_], _ => rfl
  have F18 := fun_mk (st := s_headline) l18 c18 k18
  have b18 := F18.binds (ps := ["entry"]) fun _ _ _ _ _ _ us hl => match us, hl with | [_], _ => rfl
  have F19 := fun_mk (st := s_size_of) l19 c19 k19
  have b19 := F19.binds (ps := ["item"]) fun _ _ _ _ _ _ us hl => match us, hl with | [_], _ => rfl
  have F20 := fun_mk (st := s_closed) l20 c20 k20
  have b20 := F20.binds (ps := ["items"]) fun _ _ _ _ _ _ us hl => match us, hl with | [_], _ => rfl
  have F21 := fun_mk (st := s_shortened) l21 c21 k21
  have b21 := F21.binds (ps := ["rows", "first", "last"]) fun _ _ _ _ _ _ us hl => match us, hl with | [_, _, _], _ => rfl
  have F22 := fun_mk (st := s_look_limits) l22 c22 k22
  have b22 := F22.binds (ps := ["limits"]) fun _ _ _ _ _ _ us hl => match us, hl with | [_], _ => rfl
  have F23 := fun_mk (st := s_Walk___init__) l23 c23 k23
  have FD23 := funD_kw (kws := walkKw) l23 c23 k23 (kw3 w23_0 w23_1 w23_2)
  obtain ⟨ds23, vd23, b23⟩ := bd_wInit l23 c23 k23 w23_0 w23_1 w23_2
  have F24 := fun_mk (st := s_Walk_meet) l24 c24 k24
  have b24 := F24.binds (ps := ["self", "key", "depth", "distance"]) fun _ _ _ _ _ _ us hl => match us, hl with | [_, _, _, _], _ => rfl
  have F25 := fun_mk (st := s_Walk_met_members) l25 c25 k25
  have b25 := F25.binds (ps := ["self", "members", "depth"]) fun _ _ _ _ _ _ us hl => match us, hl with | [_, _, _], _ => rfl
  have F26 := fun_mk (st := s_Walk_met_link) l26 c26 k26
  have b26 := F26.binds (ps := ["self", "link", "depth", "distance"]) fun _ _ _ _ _ _ us hl => match us, hl with | [_, _, _, _], _ => rfl
  have F27 := fun_mk (st := s_Record___init__) l27 c27 k27
  have b27 := F27.binds (ps := ["self", "entries"]) fun _ _ _ _ _ _ us hl => match us, hl with | [_, _], _ => rfl
  have F28 := fun_mk (st := s_Record_of) l28 c28 k28
  have b28 := F28.binds (ps := ["cls", "entries"]) fun _ _ _ _ _ _ us hl => match us, hl with | [_, _], _ => rfl
  have F29 := fun_mk (st := s_Record_cut) l29 c29 k29
  have FD29 := funD_kw (kws := cutKw) l29 c29 k29 (kw5 w29_0 w29_1 w29_2 w29_3 w29_4)
  obtain ⟨ds29, vd29, b29⟩ := bd_cut FD29
  have F30 := fun_mk (st := s_is_limit) l30 c30 k30
  have b30 := F30.binds (ps := ["name", "thing"]) fun _ _ _ _ _ _ us hl => match us, hl with | [_, _], _ => rfl
  have F31 := fun_mk (st := s_Style___init__) l31 c31 k31
  have FD31 := funD_kw (kws := cutKw) l31 c31 k31 (kw5 w31_0 w31_1 w31_2 w31_3 w31_4)
  have F32 := fun_mk (st := s_bag) l32 c32 k32
  have b32 := F32.binds (ps := ["_law_script", "_law_at"]) fun _ _ _ _ _ _ us hl => match us, hl with | [_, _], _ => rfl
  have F33 := fun_mk (st := s_take) l33 c33 k33
  have b33 := F33.binds (ps := ["_law_bag_here", "_law_many"]) fun _ _ _ _ _ _ us hl => match us, hl with | [_, _], _ => rfl
  have F34 := fun_mk (st := s_any) l34 c34 k34
  have b34 := F34.binds (ps := ["_law_bag_here", "_law_deep"]) fun _ _ _ _ _ _ us hl => match us, hl with | [_, _], _ => rfl
  have F35 := fun_mk (st := s_limits) l35 c35 k35
  have b35 := F35.binds (ps := ["_law_bag_here"]) fun _ _ _ _ _ _ us hl => match us, hl with | [_], _ => rfl
  have F36 := fun_mk (st := s_style) l36 c36 k36
  have b36 := F36.binds (ps := ["_law_limits_here"]) fun _ _ _ _ _ _ us hl => match us, hl with | [_], _ => rfl
  have F37 := fun_mk (st := s_refused) l37 c37 k37
  have b37 := F37.binds (ps := ["_law_call"]) fun _ _ _ _ _ _ us hl => match us, hl with | [_], _ => rfl
  have F38 := fun_mk (st := s_due) l38 c38 k38
  have b38 := F38.binds (ps := ["_law_limits_here"]) fun _ _ _ _ _ _ us hl => match us, hl with | [_], _ => rfl
  have F39 := fun_mk (st := s_cut_by) l39 c39 k39
  have b39 := F39.binds (ps := ["_law_record", "_law_limits_here"]) fun _ _ _ _ _ _ us hl => match us, hl with | [_, _], _ => rfl
  have ti : PySem.W.tabIn K "law" = some (ct0, Pt0) := by
    unfold PySem.W.tabIn
    rw [a40]
    simp only [l40, PySem.W.fnOf, tc, tlc, tlv]
  refine ⟨PySem.W.fnOf "law" "law" (defArgs s_law) (defBody s_law) (defScope s_law) .none kV40 dc40 pm40 an40 cd40 ct40, ct0, Pt0, ti, tn, fun s v => .of_eq rfl, fun base _ _ hTB => ?_⟩
  have hox1 : OxB K "ArithmeticError.__new__" bmAE X1 := ⟨⟨_, _, _, _, _, _, _, _, _, _, _, _, _, _, xl1⟩, xs1, xe1, xt1, xp1⟩
  have hxm1 : XMk l.prog w K mg base "NoLimit" X1 "name" 1 := ⟨PySem.W.mg_of X G xa1, _, _, _, _, _, _, _, xb_ArithmeticError, hox1, xi1, xy1, ok_xNoLimit F1 hox1 (PySem.W.mg_none_of X G xz1) xv1 xn1 0, b1⟩
  have hxf1 : XfC K X1 := ⟨xg1, xh1, xe1, xd1⟩
  have hxi1 : XIs K X1 := ⟨hxf1, va1, vb1, vc1, vd1⟩
  have hk1_0 : PySem.W.kitOne K (.ref X1) (.type "ArithmeticError") = some true := kit_bt (by decide +kernel) ws1_0
  have hz1_0 : mg "ArithmeticError" = none := PySem.W.mg_none_of X G wz1_0
  have hne1_1 : X1 ≠ Y1_1 := fun e => by rw [← e, xm1] at ws1_1; cases ws1_1
  have hk1_1 : PySem.W.kitOne K (.ref X1) (.ref Y1_1) = some false := kit_oc hne1_1 wd1_1 wt1_1 ws1_1
  have hz1_1 : mg "BadReport" = some (.ref Y1_1) := PySem.W.mg_of X G wz1_1
  have hne1_2 : X1 ≠ Y1_2 := fun e => by rw [← e, xm1] at ws1_2; cases ws1_2
  have hk1_2 : PySem.W.kitOne K (.ref X1) (.ref Y1_2) = some false := kit_oc hne1_2 wd1_2 wt1_2 ws1_2
  have hz1_2 : mg "NoEntry" = some (.ref Y1_2) := PySem.W.mg_of X G wz1_2
  have hne1_3 : X1 ≠ Y1_3 := fun e => by rw [← e, xm1] at ws1_3; cases ws1_3
  have hk1_3 : PySem.W.kitOne K (.ref X1) (.ref Y1_3) = some false := kit_oc hne1_3 wd1_3 wt1_3 ws1_3
  have hz1_3 : mg "NoRecord" = some (.ref Y1_3) := PySem.W.mg_of X G wz1_3
  have hne1_4 : X1 ≠ Y1_4 := fun e => by rw [← e, xm1] at ws1_4; cases ws1_4
  have hk1_4 : PySem.W.kitOne K (.ref X1) (.ref Y1_4) = some false := kit_oc hne1_4 wd1_4 wt1_4 ws1_4
  have hz1_4 : mg "TooMany" = some (.ref Y1_4) := PySem.W.mg_of X G wz1_4
  have hk1_5 : PySem.W.kitOne K (.ref X1) (.type "ValueError") = some false := kit_bt (by decide +kernel) ws1_5
  have hz1_5 : mg "ValueError" = none := PySem.W.mg_none_of X G wz1_5
  have hxc1 : XCat K mg "NoLimit" X1 := ⟨PySem.W.mg_of X G xa1, PySem.W.exm_ref xe1 xd1 xt1 xm1⟩
  have h2 : FnC l.prog w K mg base "is_integer" 1 spIsInt := ⟨_, _, _, ok_isInt F2 Z, PySem.W.mg_of X G a2, k2, b2⟩
  have h3 : FnC l.prog w K mg base "is_from" 2 spIsFrom := ⟨_, _, _, ok_isFrom F3 h2, PySem.W.mg_of X G a3, k3, b3⟩
  have h4 : FnC l.prog w K mg base "is_name" 1 spIsNm := ⟨_, _, _, ok_isName F4 Z g0 g1, PySem.W.mg_of X G a4, k4, b4⟩
  have h5 : FnC l.prog w K mg base "is_line" 1 spIsLn := ⟨_, _, _, ok_isLine F5 Z g5, PySem.W.mg_of X G a5, k5, b5⟩
  have h6 : FnC l.prog w K mg base "is_shown" 2 spIsSh := ⟨_, _, _, ok_isShown F6 Z h5 g2 g3 g6, PySem.W.mg_of X G a6, k6, b6⟩
  have h7 : FnC l.prog w K mg base "is_row" 3 spIsRow := ⟨_, _, _, ok_isRow F7 Z h4 h6 h3, PySem.W.mg_of X G a7, k7, b7⟩
  have h8 : FnC l.prog w K mg base "is_gap" 3 spIsGap := ⟨_, _, _, ok_isGap F8 Z h3 g4, PySem.W.mg_of X G a8, k8, b8⟩
  have h9 : FnC l.prog w K mg base "is_text" 1 spIsTx := ⟨_, _, _, ok_isText F9 Z, PySem.W.mg_of X G a9, k9, b9⟩
  have h10 : FnC l.prog w K mg base "in_range" 2 spInR := ⟨_, _, _, ok_inRange F10 h2, PySem.W.mg_of X G a10, k10, b10⟩
  have h11 : FnC l.prog w K mg base "bad_row" 4 spBad := ⟨_, _, _, ok_badRow F11 Z h7 h8, PySem.W.mg_of X G a11, k11, b11⟩
  have h12 : FnC l.prog w K mg base "is_counted" 3 spCnt := ⟨_, _, _, ok_isCounted F12 Z h3, PySem.W.mg_of X G a12, k12, b12⟩
  have h13 : FnC l.prog w K mg base "are_members" 4 spMem := ⟨_, _, _, ok_areMembers F13 Z h12 h10 g11 g10, PySem.W.mg_of X G a13, k13, b13⟩
  have h14 : FnC l.prog w K mg base "is_link" 3 spLnk := ⟨_, _, _, ok_isLink F14 Z h10 g8 g9, PySem.W.mg_of X G a14, k14, b14⟩
  have h15 : FnC l.prog w K mg base "is_entry" 5 spIsEnt := ⟨_, _, _, ok_isEntry F15 Z h4 h9 h11 h13 h14 g7, PySem.W.mg_of X G a15, k15, b15⟩
  have h16 : FnC l.prog w K mg base "numbers_in" 1 spNums := ⟨_, _, _, ok_numbersIn F16 Z, PySem.W.mg_of X G a16, k16, b16⟩
  have h17 : FnC l.prog w K mg base "left_out" 1 spGone := ⟨_, _, _, ok_leftOut F17 Z, PySem.W.mg_of X G a17, k17, b17⟩
  have h18 : FnC l.prog w K mg base "headline" 1 spHead := ⟨_, _, _, ok_headline F18 Z g5, PySem.W.mg_of X G a18, k18, b18⟩
  have h19 : FnC l.prog w K mg base "size_of" 1 spSize := ⟨_, _, _, ok_sizeOf F19 Z, PySem.W.mg_of X G a19, k19, b19⟩
  have h20 : FnC l.prog w K mg base "closed" 1 spClosed := ⟨_, _, _, ok_closed F20 Z g4, PySem.W.mg_of X G a20, k20, b20⟩
  have h21 : FnC l.prog w K mg base "shortened" 2 spShort := ⟨_, _, _, ok_shortened F21 Z g4 h19 h20, PySem.W.mg_of X G a21, k21, b21⟩
  have h22 : FnC l.prog w K mg base "look_limits" 3 spLooks := ⟨_, _, _, ok_lookLimits F22 Z h3, PySem.W.mg_of X G a22, k22, b22⟩
  have h23 : MakC l.prog w K mg base "Walk" C1 1 [.non, .non, .non] (spWInit C1) := ⟨PySem.W.mg_of X G aC1, _, ⟨cm1, a23, i23, ck1⟩, ⟨_, _, ds23, _, ok_wInit F23 T1, b23, vd23, fun _ => (.cons .non (.cons .non (.cons .non .nil)))⟩⟩
  have hWK : MakK l.prog w K mg base "Walk" C1 1 1 ["width", "depth", "chain"] (fun ds zs => ds ++ zs) (spWInit C1) := ⟨PySem.W.mg_of X G aC1, _, ⟨cm1, a23, i23, ck1⟩, fk_wInit FD23 (ok_wInit F23 T1)⟩
  have hme := all_meet (P := l.prog) (w := w) (base := base) cls1 T1 F24 b24 ⟨a24, i24, k24⟩ F25 b25 ⟨a25, i25, k25⟩ F26 b26 ⟨a26, i26, k26⟩ Z h16 h17 g11 g10
  have h27 : MakC l.prog w K mg base "Record" C2 2 [] (spRInit C2) := ⟨PySem.W.mg_of X G aC2, _, ⟨cm2, a27, i27, ck2⟩, ⟨_, _, _, _, ok_rInit F27 T2 Z h18, b27, .nil, fun _ => .nil⟩⟩
  have h28 : CmtC l.prog w K mg base "Record" C2 "of" 45 [] (spROf C2 21) := ⟨PySem.W.mg_of X G aC2, _, _, _, ⟨rd28, ga28⟩, ⟨a28, pr28, fi28⟩, ⟨_, _, _, _, ok_rOf 21 (by decide) F28 T1 Z h15 h23 (fun n _ => hme n) h27 g12, b28, .nil, fun _ => .nil⟩⟩
  have h29 : MthC l.prog w K mg base C2 "cut" 45 [.non, .non, .non, .non, .non] (spCut C2 21) := ⟨cls2, _, ⟨a29, i29, k29⟩, ⟨_, _, ds29, _, ok_cut 21 (by decide) F29 T2 T1 Z h22 hWK (fun n _ => hme n) h27 h21, b29, vd29, fun _ => (.cons .non (.cons .non (.cons .non (.cons .non (.cons .non .nil)))))⟩⟩
  have h5K : MthK l.prog w K mg base C2 "cut" 45 0 ["first", "last", "width", "depth", "chain"] gAll (spCut C2 21) := ⟨cls2, _, ⟨a29, i29, k29⟩, fk_cut5 FD29 (ok_cut 21 (by decide) F29 T2 T1 Z h22 hWK (fun n _ => hme n) h27 h21)⟩
  have hLX : FnXC l.prog w K mg base "look_limits" 3 [] (spLooksX X1) := ⟨_, PySem.W.mg_of X G a22, k22, _, _, [], [], ok_lookLimitsX 1 (by decide) F22 Z h3 hxm1, b22, .nil, fun _ => .nil⟩
  have h5X : MthKX l.prog w K mg base C2 "cut" 45 0 ["first", "last", "width", "depth", "chain"] gAll (spCutX C2 X1) := ⟨cls2, _, ⟨a29, i29, k29⟩, fk_cut5X FD29 (ok_cutX F29 hLX)⟩
  have h39 : X39 K mg X1 Y1_1 Y1_2 Y1_3 Y1_4 := ⟨hxi1, hxc1, hk1_0, kits_no hk1_1 (kits_no hk1_2 (kits_no hk1_3 (kits_no hk1_4 (kits_no hk1_5 kits_nil)))), hz1_1, hz1_2, hz1_3, hz1_4, hz1_5, hz1_0, xn1⟩
  have h30 : FnC l.prog w K mg base "is_limit" 1 spIsLimit := ⟨_, _, _, ok_isLimit F30 Z, PySem.W.mg_of X G a30, k30, b30⟩
  have hStX : MakKX l.prog w K mg base "Style" C3 4 0 ["first", "last", "width", "depth", "chain"] gAll (spStyI C3 X1) := ⟨PySem.W.mg_of X G aC3, _, ⟨cm3, a31, i31, ck3⟩, fk_sty FD31 (ok_styI 1 (by decide) F31 Z T3 g13 h30 hxm1)⟩
  have h32 : FnC l.prog w K mg base "_law_bag" 1 spBag := ⟨_, _, _, ok_bag F32 Z, PySem.W.mg_of X G a32, k32, b32⟩
  have h33 : FnC l.prog w K mg base "_law_take" 1 spTake := ⟨_, _, _, ok_take F33 Z, PySem.W.mg_of X G a33, k33, b33⟩
  have ha0 : FnC l.prog w K mg base "_law_any" 2 (spAny 0) := ⟨_, _, _, ok_any0 F34 Z h33, PySem.W.mg_of X G a34, k34, b34⟩
  have ha1 : FnC l.prog w K mg base "_law_any" 4 (spAny 1) := ⟨_, _, _, ok_anyS 0 (by decide) F34 Z h33 ha0, PySem.W.mg_of X G a34, k34, b34⟩
  have ha2 : FnC l.prog w K mg base "_law_any" 6 (spAny 2) := ⟨_, _, _, ok_anyS 1 (by decide) F34 Z h33 ha1, PySem.W.mg_of X G a34, k34, b34⟩
  have h35 : FnC l.prog w K mg base "_law_limits" 2 spLimits := ⟨_, _, _, ok_limits F35 Z h33, PySem.W.mg_of X G a35, k35, b35⟩
  have hst : FnXC l.prog w K mg base "_law_style" 6 [] (spSty X1) := ⟨_, PySem.W.mg_of X G a36, k36, _, _, [], [], ok_sty F36 hStX, b36, .nil, fun _ => .nil⟩
  have hTo : RefF K mg := ⟨_, _, F37, b37, PySem.W.mg_of X G a37, k37⟩
  have h38 : FnC l.prog w K mg base "_law_due" 1 spDueL := ⟨_, _, _, ok_dueL F38 Z, PySem.W.mg_of X G a38, k38, b38⟩
  have hcb : FnXC l.prog w K mg base "_law_cut_by" 46 [] (spCutBy C2 X1) := ⟨_, PySem.W.mg_of X G a39, k39, _, _, [], [], ok_cutBy F39 h5K h5X, b39, .nil, fun _ => .nil⟩
  exact ok_law (fun_mk (st := s_law) l40 c40 k40) tc hTB Z (hTo) (h39) h33 h35 (ha2) h38 h32 h28 (hst) (hcb)
theorem sqL_G {K : PySem.W.Frag} {H : Hp} {a Pt : Addr} {xs : List V} (h : SqL K H a xs) (hP : H Pt = some (.tbl #[])) : SqL K (fun b => if b = Pt then none else H b) a xs := by
  rcases h with (h | ⟨ob, h⟩) | h
  · have n : a ≠ Pt := fun e => by rw [e, hP] at h; cases h
    exact .inl (.inl ((if_neg n).trans h))
  · have n : a ≠ Pt := fun e => by rw [e, hP] at h; cases h
    exact .inl (.inr ⟨ob, (if_neg n).trans h⟩)
  · exact .inr h
theorem wld0T {K : PySem.W.Frag} {H : Hp} {Pt : Addr} {q : Str} (hO : OnlyT Pt H) : Wld K (fun b => if b = Pt then none else H b) (fun b => if b = Pt then some (.tbl q []) else none) H := by
  refine ⟨fun b o e => ?_, fun b d e => ?_, fun b ps e => ?_⟩
  · by_cases z : b = Pt
    · rw [if_pos z] at e; cases e
    · rw [if_neg z] at e; exact e
  · by_cases z : b = Pt
    · rw [if_pos z] at e
      cases e
      refine ⟨if_pos z, #[], by rw [z]; exact hO.1, True.intro, fun pos cv hc => ?_, fun c hc => by cases hc⟩
      have hc' : PySem.codeAmong pos [] = some cv := hc
      simp [PySem.codeAmong] at hc'
    · rw [if_neg z] at e; cases e
  · by_cases z : b = Pt
    · rw [if_pos z] at e; cases e
    · rw [if_neg z] at e
      rcases hO.2 b z with h | ⟨o, xs, h⟩ <;> (rw [h] at e; cases e)
theorem walk {l : PySem.W.OpenLaw} {q : Program} {loose : List Str} {XP : (Str → Option Value) → Heap → Prop} {YP : World → Heap → Prop} {d : DefRec} {K : Params → PySem.W.Frag} (hn : l.most = some 63) (hdf : d.params.defaults = []) (hrc : (PyProof.Rows.recsOf q).find? (fun e => e.name == ("law" : Str)) = some d)
    (hY : ∀ (w : World) (h : Heap), YP w h → (K w.params).In h)
    (F : ∀ (w : World) (mg : Str → Option Value) (fa : Addr) (h : Heap), (K w.params).In h → h.Ns mainGlobals mg → mg d.name = some (.ref fa) →
      ∃ (fd : FuncData) (ct Pt : Addr), PySem.W.tabIn (K w.params) "law" = some (ct, Pt) ∧ (K w.params).lookup Pt = none ∧ (∀ (s : Shared) (u : Value), BindsTo s fd ⟨[u], []⟩ [("_law_script", u)]) ∧ ∀ base : Heap, (K w.params).In base → base.Ns mainGlobals mg → LamX.TabB base mg ct Pt → FnG l.prog w (K w.params) mg base CX0 49 fa fd ["_law_script"] (toSp (K w.params) (spLawT Pt))) :
    PySem.W.WalkO q loose XP YP l.row.toRowW d [] (fun f vs => PySem.call f vs) :=
  walk_ofT (z := 63) (n := 49) (x := "_law_script") (y := "law") (CT := fun _ => CX0) (sp := fun w Pt => toSp (K w.params) (spLawT Pt)) hn (by decide) hdf hrc ⟨rfl, by decide, by decide⟩ hY F
    (fun w Pt H a ns hl hbits hO hS => ⟨fun b => if b = Pt then none else H b, fun b => if b = Pt then some (.tbl qLam []) else none, [.slst (ns.map D.int)], fun d _ => d = .bl true, wld0T hO, .cons (.slst (sqL_G hS hO.1) (dat_ints ns)) .nil, ⟨ns, rfl, hl, if_pos rfl, fun _ => rfl⟩, fun v G' C' H' d f w' r z => by subst z; cases r; rfl⟩) fun _ _ _ _ _ z => z
end
end K31

open PySem PySem.W PyProof.Rows in
set_option maxRecDepth 100000 in
set_option maxHeartbeats 0 in
theorem PySem.Challenge.cw_chainedreports_k39_styles_refused_holds : PySem.Challenge.rw_chainedreports_k39_styles_refused.Holds := by
  w_on; o_law; k_head; (case hw => w_witness2)
  k_fill
  refine K31.walk (l := PySem.Challenge.rw_chainedreports_k39_styles_refused) rfl rfl rfl (fun w h Y => PySem.W.km_in_of Y) ?F
  case F =>
    intro w mg fa h KX G hmg
    refine' K31.all_mk KX G hmg ?aC1 ?cg1 ?ch1 ?co1 ?cx1 ?cm1 ?ck1 ?n1_0 ?n1_1 ?n1_2 ?n1_3 ?n1_4 ?n1_5 ?aC2 ?cg2 ?ch2 ?co2 ?cx2 ?cm2 ?ck2 ?n2_0 ?n2_1 ?aC3 ?cg3 ?ch3 ?co3 ?cx3 ?cm3 ?ck3 ?n3_0 ?l1 ?c1 ?k1 ?a2 ?l2 ?c2 ?k2 ?a3 ?l3 ?c3 ?k3 ?a4 ?l4 ?c4 ?k4 ?a5 ?l5 ?c5 ?k5 ?a6 ?l6 ?c6 ?k6 ?a7 ?l7 ?c7 ?k7 ?a8 ?l8 ?c8 ?k8 ?a9 ?l9 ?c9 ?k9 ?a10 ?l10 ?c10 ?k10 ?a11 ?l11 ?c11 ?k11 ?a12 ?l12 ?c12 ?k12 ?a13 ?l13 ?c13 ?k13 ?a14 ?l14 ?c14 ?k14 ?a15 ?l15 ?c15 ?k15 ?a16 ?l16 ?c16 ?k16 ?a17 ?l17 ?c17 ?k17 ?a18 ?l18 ?c18 ?k18 ?a19 ?l19 ?c19 ?k19 ?a20 ?l20 ?c20 ?k20 ?a21 ?l21 ?c21 ?k21 ?a22 ?l22 ?c22 ?k22 ?a23 ?i23 ?l23 ?c23 ?k23 ?w23_0 ?w23_1 ?w23_2 ?a24 ?i24 ?l24 ?c24 ?k24 ?a25 ?i25 ?l25 ?c25 ?k25 ?a26 ?i26 ?l26 ?c26 ?k26 ?a27 ?i27 ?l27 ?c27 ?k27 ?rd28 ?ga28 ?a28 ?pr28 ?fi28 ?l28 ?c28 ?k28 ?a29 ?i29 ?l29 ?c29 ?k29 ?w29_0 ?w29_1 ?w29_2 ?w29_3 ?w29_4 ?a30 ?l30 ?c30 ?k30 ?a31 ?i31 ?l31 ?c31 ?k31 ?w31_0 ?w31_1 ?w31_2 ?w31_3 ?w31_4 ?a32 ?l32 ?c32 ?k32 ?a33 ?l33 ?c33 ?k33 ?a34 ?l34 ?c34 ?k34 ?a35 ?l35 ?c35 ?k35 ?a36 ?l36 ?c36 ?k36 ?a37 ?l37 ?c37 ?k37 ?a38 ?l38 ?c38 ?k38 ?a39 ?l39 ?c39 ?k39 ?a40 ?l40 ?c40 ?k40 ?xa1 ?xl1 ?xs1 ?xe1 ?xt1 ?xp1 ?xi1 ?xy1 ?xv1 ?xn1 ?xg1 ?xh1 ?xd1 ?xm1 ?xz1 ?va1 ?vb1 ?vc1 ?vd1 ?ws1_0 ?wz1_0 ?wz1_1 ?wd1_1 ?wt1_1 ?ws1_1 ?wz1_2 ?wd1_2 ?wt1_2 ?ws1_2 ?wz1_3 ?wd1_3 ?wt1_3 ?ws1_3 ?wz1_4 ?wd1_4 ?wt1_4 ?ws1_4 ?ws1_5 ?wz1_5 ?m0 ?m1 ?m2 ?m3 ?m4 ?m5 ?m6 ?t6 ?m7 ?m8 ?m9 ?m10 ?m11 ?m12 ?m13 ?t13 ?z0 ?z1 ?z2 ?z3 ?z4 ?z5 ?z6 ?z7 ?z8 ?z9 ?z10 ?z11 ?z12 ?z13 ?z14 ?z15 ?z16 ?z17 ?z18 ?tc ?tlc ?tlv ?tn
    (case aC1 => k_is)
    (case cg1 => k_is)
    (case ch1 => k_is)
    (case co1 => k_is)
    (case cx1 => k_is)
    (case cm1 => k_is)
    (case ck1 => k_is)
    (case n1_0 => k_is)
    (case n1_1 => k_is)
    (case n1_2 => k_is)
    (case n1_3 => k_is)
    (case n1_4 => k_is)
    (case n1_5 => k_is)
    (case aC2 => k_is)
    (case cg2 => k_is)
    (case ch2 => k_is)
    (case co2 => k_is)
    (case cx2 => k_is)
    (case cm2 => k_is)
    (case ck2 => k_is)
    (case n2_0 => k_is)
    (case n2_1 => k_is)
    (case aC3 => k_is)
    (case cg3 => k_is)
    (case ch3 => k_is)
    (case co3 => k_is)
    (case cx3 => k_is)
    (case cm3 => k_is)
    (case ck3 => k_is)
    (case n3_0 => k_is)
    (case a2 => k_is)
    (case l2 => k_is)
    (case c2 => k_is)
    (case k2 => k_is)
    (case a3 => k_is)
    (case l3 => k_is)
    (case c3 => k_is)
    (case k3 => k_is)
    (case a4 => k_is)
    (case l4 => k_is)
    (case c4 => k_is)
    (case k4 => k_is)
    (case a5 => k_is)
    (case l5 => k_is)
    (case c5 => k_is)
    (case k5 => k_is)
    (case a6 => k_is)
    (case l6 => k_is)
    (case c6 => k_is)
    (case k6 => k_is)
    (case a7 => k_is)
    (case l7 => k_is)
    (case c7 => k_is)
    (case k7 => k_is)
    (case a8 => k_is)
    (case l8 => k_is)
    (case c8 => k_is)
    (case k8 => k_is)
    (case a9 => k_is)
    (case l9 => k_is)
    (case c9 => k_is)
    (case k9 => k_is)
    (case a10 => k_is)
    (case l10 => k_is)
    (case c10 => k_is)
    (case k10 => k_is)
    (case a11 => k_is)
    (case l11 => k_is)
    (case c11 => k_is)
    (case k11 => k_is)
    (case a12 => k_is)
    (case l12 => k_is)
    (case c12 => k_is)
    (case k12 => k_is)
    (case a13 => k_is)
    (case l13 => k_is)
    (case c13 => k_is)
    (case k13 => k_is)
    (case a14 => k_is)
    (case l14 => k_is)
    (case c14 => k_is)
    (case k14 => k_is)
    (case a15 => k_is)
    (case l15 => k_is)
    (case c15 => k_is)
    (case k15 => k_is)
    (case a16 => k_is)
    (case l16 => k_is)
    (case c16 => k_is)
    (case k16 => k_is)
    (case a17 => k_is)
    (case l17 => k_is)
    (case c17 => k_is)
    (case k17 => k_is)
    (case a18 => k_is)
    (case l18 => k_is)
    (case c18 => k_is)
    (case k18 => k_is)
    (case a19 => k_is)
    (case l19 => k_is)
    (case c19 => k_is)
    (case k19 => k_is)
    (case a20 => k_is)
    (case l20 => k_is)
    (case c20 => k_is)
    (case k20 => k_is)
    (case a21 => k_is)
    (case l21 => k_is)
    (case c21 => k_is)
    (case k21 => k_is)
    (case a22 => k_is)
    (case l22 => k_is)
    (case c22 => k_is)
    (case k22 => k_is)
    (case a23 => k_is)
    (case i23 => k_is)
    (case l23 => k_is)
    (case c23 => k_is)
    (case k23 => k_is)
    (case w23_0 => k_is)
    (case w23_1 => k_is)
    (case w23_2 => k_is)
    (case a24 => k_is)
    (case i24 => k_is)
    (case l24 => k_is)
    (case c24 => k_is)
    (case k24 => k_is)
    (case a25 => k_is)
    (case i25 => k_is)
    (case l25 => k_is)
    (case c25 => k_is)
    (case k25 => k_is)
    (case a26 => k_is)
    (case i26 => k_is)
    (case l26 => k_is)
    (case c26 => k_is)
    (case k26 => k_is)
    (case a27 => k_is)
    (case i27 => k_is)
    (case l27 => k_is)
    (case c27 => k_is)
    (case k27 => k_is)
    (case rd28 => k_is)
    (case ga28 => k_is)
    (case a28 => k_is)
    (case pr28 => exact ⟨_, by k_is⟩)
    (case fi28 => k_is)
    (case l28 => k_is)
    (case c28 => k_is)
    (case k28 => k_is)
    (case a29 => k_is)
    (case i29 => k_is)
    (case l29 => k_is)
    (case c29 => k_is)
    (case k29 => k_is)
    (case w29_0 => k_is)
    (case w29_1 => k_is)
    (case w29_2 => k_is)
    (case w29_3 => k_is)
    (case w29_4 => k_is)
    (case a30 => k_is)
    (case l30 => k_is)
    (case c30 => k_is)
    (case k30 => k_is)
    (case a31 => k_is)
    (case i31 => k_is)
    (case l31 => k_is)
    (case c31 => k_is)
    (case k31 => k_is)
    (case w31_0 => k_is)
    (case w31_1 => k_is)
    (case w31_2 => k_is)
    (case w31_3 => k_is)
    (case w31_4 => k_is)
    (case a32 => k_is)
    (case l32 => k_is)
    (case c32 => k_is)
    (case k32 => k_is)
    (case a33 => k_is)
    (case l33 => k_is)
    (case c33 => k_is)
    (case k33 => k_is)
    (case a34 => k_is)
    (case l34 => k_is)
    (case c34 => k_is)
    (case k34 => k_is)
    (case a35 => k_is)
    (case l35 => k_is)
    (case c35 => k_is)
    (case k35 => k_is)
    (case a36 => k_is)
    (case l36 => k_is)
    (case c36 => k_is)
    (case k36 => k_is)
    (case a37 => k_is)
    (case l37 => k_is)
    (case c37 => k_is)
    (case k37 => k_is)
    (case a38 => k_is)
    (case l38 => k_is)
    (case c38 => k_is)
    (case k38 => k_is)
    (case a39 => k_is)
    (case l39 => k_is)
    (case c39 => k_is)
    (case k39 => k_is)
    (case a40 => k_is)
    (case l40 => k_is)
    (case c40 => k_is)
    (case k40 => k_is)
    (case xa1 => k_is)
    (case xl1 => k_is)
    (case xs1 => k_is)
    (case xe1 => k_is)
    (case xt1 => k_is)
    (case xp1 => k_is)
    (case xi1 => k_is)
    (case xy1 => k_is)
    (case xv1 => k_is)
    (case xn1 => k_is)
    (case xg1 => k_is)
    (case xh1 => k_is)
    (case xd1 => k_is)
    (case xm1 => k_is)
    (case xz1 => k_is)
    (case va1 => k_is)
    (case vb1 => k_is)
    (case vc1 => k_is)
    (case vd1 => k_is)
    (case ws1_0 => k_is)
    (case wz1_0 => k_is)
    (case wz1_1 => k_is)
    (case wd1_1 => k_is)
    (case wt1_1 => k_is)
    (case ws1_1 => k_is)
    (case wz1_2 => k_is)
    (case wd1_2 => k_is)
    (case wt1_2 => k_is)
    (case ws1_2 => k_is)
    (case wz1_3 => k_is)
    (case wd1_3 => k_is)
    (case wt1_3 => k_is)
    (case ws1_3 => k_is)
    (case wz1_4 => k_is)
    (case wd1_4 => k_is)
    (case wt1_4 => k_is)
    (case ws1_4 => k_is)
    (case ws1_5 => k_is)
    (case wz1_5 => k_is)
    (case m0 => k_is)
    (case m1 => k_is)
    (case m2 => k_is)
    (case m3 => k_is)
    (case m4 => k_is)
    (case m5 => k_is)
    (case m6 => k_is)
    (case t6 => k_is)
    (case m7 => k_is)
    (case m8 => k_is)
    (case m9 => k_is)
    (case m10 => k_is)
    (case m11 => k_is)
    (case m12 => k_is)
    (case m13 => k_is)
    (case t13 => k_is)
    (case z0 => k_is)
    (case z1 => k_is)
    (case z2 => k_is)
    (case z3 => k_is)
    (case z4 => k_is)
    (case z5 => k_is)
    (case z6 => k_is)
    (case z7 => k_is)
    (case z8 => k_is)
    (case z9 => k_is)
    (case z10 => k_is)
    (case z11 => k_is)
    (case z12 => k_is)
    (case z13 => k_is)
    (case z14 => k_is)
    (case z15 => k_is)
    (case z16 => k_is)
    (case z17 => k_is)
    (case z18 => k_is)
    (case tc => exact rfl)
    (case tlc => k_is)
    (case tlv => exact rfl)
    (case tn => kernel_rfl)
    (case l1 => k_is)
    (case c1 => k_is)
    (case k1 => k_is)
