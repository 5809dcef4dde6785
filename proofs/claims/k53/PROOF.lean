import PyProof.Rows.All
import Wide.All
import OpenK.AllK
import Wide.FinOn
import PySem.Challenge.RW_shortweave_k53_texts_of_none
import HandS.ForMost
import HandS.Exc
import HandS.TryOnly
import HandS.ExcOwn
import HandS.WordsExc
import HandS.Ends
import HandS.Lambda
import KE.KDictKeyed
import HandS.TupAny
import HandS.TupLe
import HandS.Style
import HandS.StrMore
import HandS.StrSplit
import HandS.Zip
import HandS.RevRange
import KE.GoesNew
import KE.GoesEnum
import HandS.IsInst
import KE.KRevSl
import PyProof.ListStr
import HandS.More
import KE.SortData
import KE.DataMinMax
import PyProof.Rows.RegReprOcc
import HandS.Dict
import HandS.TupLen
import PyProof.Rows.TupDisplay
import HandS.TupMul
import PyProof.StrLawsFrom
import HandS.Flow
import PyProof.ReprRoads
import PyProof.ReprBulk
import PyProof.CallFns
import PyProof.NeKinds
import HandS.ExcIs
import KE.KDictZip
import HandS.TupSets
import HandS.SetKeys
import HandS.SortInts
import PyProof.Rows.SortShellAny
import PyProof.Rows.StrMeet
import HandS.Deep
import HandS.Replace
import HandS.ReplaceLit
import HandS.ReplaceList
import PyProof.MeetsStr3
import PyProof.StrLawsLast
set_option Elab.async false
set_option linter.all false
set_option maxRecDepth 100000
section
set_option Elab.async false
set_option linter.all false
set_option maxRecDepth 100000
/-! Room and promises of a def where no display is under way (repr asks it): the layer's own, with that one fact beside. -/
namespace SW
open PySem PySem.Spec PyProof.Rows L2
/-- an exception object of the class cls, without a dict -/
def ExB (cls : Value) (a : Addr) : HO := .ext fun h => ∃ (oe : Obj) (vs : Array Value), h.get? a = some oe ∧ Zc cls none oe ∧ oe.data = .fields vs

structure Room (k : Nat) (A : Around) : Prop where
  r : L2.Room k A
  gd : A.guards = some []
theorem Room.mono {i j : Nat} {B : Around} (z : SW.Room j B) (le : i ≤ j) : SW.Room i B := ⟨L2.Room.mono z.r le, z.gd⟩
theorem Room.units {k : Nat} {B : Around} (z : SW.Room k B) : B.units + 64 < cLine := z.r.units
section
variable {P : Program} {w : World} {K : PySem.W.Frag} {mg : Str → Option Value} {base : Heap} {CX : CXT} {k : Nat} {f : Addr} {fd : FuncData} {ps : List Str} {sp : Sp}
/-- the promise of the def at f, called where no display is under way -/
structure FnOk (P : Program) (w : World) (K : PySem.W.Frag) (mg : Str → Option Value) (base : Heap) (CX : CXT) (k : Nat) (f : Addr) (fd : FuncData) (ps : List Str) (sp : Sp) : Prop where
  many : ∀ {vs H Q E}, sp vs H Q E → vs.length = ps.length
  go : ∀ {A : Around} {outer : List Env} {s : Shared} {H : Hp} {args : Args} {us : List Value} {vs : List V} {Q : VK} {E : XK}, SW.Room k A →
    Env0 P w K mg base A outer s H → BindsTo s fd args (ps.zip us) → Vals vs us → sp vs H Q E → codeAny (model P w) A (.call (.ref f) args) (CR CX outer P w H s Q E) s
/-- by its body; the code object is known -/
theorem okXC {x qual : Str} {st : Stmt} {N : List Str} (F : L2.Fun K x qual st f fd) (Sc : FnScope N ps (defScope st)) (many : ∀ vs H Q E, sp vs H Q E → vs.length = ps.length)
    (body : ∀ (cdv : Value) (A : Around) (outer : List Env) (s : Shared) (H : Hp) (vs : List V) (Q : VK) (E : XK), (∃ (ob : Obj) (fd' : FuncData), K.lookup f = some ob ∧ ob.data = .func fd' ∧ fd'.code = cdv) → SW.Room k (A.deeper (envOfC qual (defScope st) s.heap.objs.size f cdv)) → sp vs H Q E →
      ∃ t, PSs (cxOf (L2.CX P w) P w K mg base N qual (defScope st) f cdv A outer s H E) (defBody st) t ∧ t { nx := fun _ H' => Q .non H', rt := Q } (start N vs) H) :
    SW.FnOk P w K mg base (L2.CX P w) (k + 1) f fd ps sp := by
  obtain ⟨oc, od, kV, doc, pm, an, cdv, ct, osl, rfl, lk, hcd⟩ := F.ex
  constructor
  · intro vs H Q E q
    exact many vs H Q E q
  · intro A outer s H args us vs Q E room e0 bind rel q
    obtain ⟨t, run, q1⟩ := body cdv A outer s H vs Q E ⟨_, _, lk, rfl, rfl⟩ ⟨room.r.deeper _, room.gd⟩ q
    have kin : K.In s.heap := e0.mod.kin.keeps (fun b u z => (e0.bs b u z).1)
    have nol : s.heap.NoLimit := e0.mod.nolimit.keeps (fun b u z => (e0.bs b u z).1)
    apply codeAny_call_function room.r.depth (kin _ _ lk) rfl Sc.co Sc.gen rfl (PySem.W.codeRec_of kin hcd)
    apply bind
    apply wpAny_newFunctionEnv_cells Sc.kind
    · rintro ⟨y, v⟩ hy
      have hp := Sc.par y (List.of_mem_zip hy).1
      exact hp.imp_right fun z => ⟨z, PySem.W.cellsFrom_some _ _ _ (.inl z)⟩
    · rintro _ rfl s1 ic
      have I0 := inv_start (CX := L2.CX P w) (E := E) Sc room.r.hd e0 (many _ _ _ _ q) rel ic
      refine ⟨nol.keeps ic.toInCall.keep, codeAny_func (wpAny_mono (run.run [] s1 _ H _ I0 q1) ?_ fun _ _ z => z)⟩
      intro fl s2 z
      match fl, z with
      | .ret u, ⟨v, _, H2, J, rv, qv⟩ => exact ⟨v, H2, J.os, J.bare, J.base, J.hok, rv, qv⟩
      | .next, ⟨_, H2, J, qv⟩ => exact ⟨V.non, H2, J.os, J.bare, J.base, J.hok, rfl, qv⟩
      | .brk, ⟨_, _, _, qv⟩ => exact qv.elim
      | .cont, ⟨_, _, _, qv⟩ => exact qv.elim
/-- by its body -/
theorem okX {x qual : Str} {st : Stmt} {N : List Str} (F : L2.Fun K x qual st f fd) (Sc : FnScope N ps (defScope st)) (many : ∀ vs H Q E, sp vs H Q E → vs.length = ps.length)
    (body : ∀ (cdv : Value) (A : Around) (outer : List Env) (s : Shared) (H : Hp) (vs : List V) (Q : VK) (E : XK), SW.Room k (A.deeper (envOfC qual (defScope st) s.heap.objs.size f cdv)) → sp vs H Q E →
      ∃ t, PSs (cxOf (L2.CX P w) P w K mg base N qual (defScope st) f cdv A outer s H E) (defBody st) t ∧ t { nx := fun _ H' => Q .non H', rt := Q } (start N vs) H) :
    SW.FnOk P w K mg base (L2.CX P w) (k + 1) f fd ps sp :=
  okXC F Sc many fun cdv A outer s H vs Q E _ => body cdv A outer s H vs Q E
end
section
variable {X : Cx} {CX : CXT} {k : Nat} {f : Addr} {fd : FuncData} {ps : List Str} {sp : Sp} {E : L2.St → XK} {x : Str} {p pos : Pos} {e : Expr} {es : List Expr} {t : TA}
theorem fnS_run (F : SW.FnOk X.prog X.w X.K X.mg X.base CX k f fd ps sp) (room : SW.Room k X.A) (bnd : Binds X.K fd ps []) {σ : L2.St} (out : PassesAt CX X σ (E σ)) {pins : List (Addr × Obj)} {H : Hp} {s : Shared} {Q : VK} {us : List Value} {vs : List V}
    (I : Inv X pins σ H s) (rel : Vals vs us) (q : sp vs H Q (E σ)) : wpAny (model X.prog X.w) X.A (call (.ref f) us) (EP X pins σ Q) X.xe s := by
  have same : us ++ [] = us := List.append_nil us
  have b := bnd s us I.kIn (by rw [same, ← rel.length, F.many q])
  rw [same] at b
  refine wpAny_call (codeAny_mono (F.go room I.env0 b rel q) ?_)
  rintro (er | fl) s2 z
  · exact out pins H s er s2 I z
  · match fl, z with
    | .ret u, z => exact I.after z
    | .next, z => exact z.elim
    | .brk, z => exact z.elim
    | .cont, z => exact z.elim
theorem pe_callS (F : SW.FnOk X.prog X.w X.K X.mg X.base CX k f fd ps sp) (room : SW.Room k X.A) (gl : Gl X x) (at_ : X.mg x = some (.ref f)) (kp : PySem.W.keepIn X.K (.ref f) = true) (bnd : Binds X.K fd ps []) (out : ∀ σ, PassesAt CX X σ (E σ)) (ha : PA X (e :: es) t)
    (db : (x == ("__debug__" : Str)) = false := by decide) (st : starEach (e :: es) X.env = (false, eval e X.env) :: starEach es X.env := by rfl) (pl : (backTo pos (starEach es X.env)).any (·.1) = false := by rfl) :
    PE X (.Call (.Name x p) (e :: es) [] pos) (tCallS sp E t) := by
  constructor
  intro pins s σ H Q I z
  apply wpAny_Call_Name_kw
  apply ld_glob I gl at_ ?_ db
  apply PySem.W.callWith_K (h₀ := X.base) I.ok.mod.kin kp ?_ st pl
  exact thn (ha.run pos pins s σ H _ I z) fun us s1 ⟨vs, H1, I1, rel, q⟩ => ⟨I1.kIn, fnS_run F room bnd (out σ) I1 rel q⟩
end
/-! the base heap holds the table of the modules: what is tracked stands elsewhere -/
/-- voted's code object stands at c, its table (of the lambda's code object) at P -/
def LamC (K : PySem.W.Frag) (c P : Addr) : Prop := ∃ (f : Addr) (ob oc : Obj) (fd : FuncData) (vs : Array Value), PySem.W.nsIn K mainGlobals "voted" = some (some (.ref f)) ∧ K.lookup f = some ob ∧ ob.data = .func fd ∧ fd.code = .ref c ∧ K.lookup c = some oc ∧ oc.data = .fields vs ∧ vs[11]? = some (.ref P)
theorem lamC_no {K : PySem.W.Frag} {c P : Addr} {B : Prop} (h : PySem.W.nsIn K mainGlobals "voted" = some none) (l : LamC K c P) : B := by
  obtain ⟨f, _, _, _, _, e, _⟩ := l
  rw [h] at e
  cases e
structure SmB (K : PySem.W.Frag) (mg : Str → Option Value) (base : Heap) : Prop where
  m : ∃ m, base.Ns sysModules m
  tb : ∀ c P, LamC K c P → LamX.TabB base mg c P
/-! ### the end -/
section
variable {P : Program} {w : World} {K : PySem.W.Frag} {mg mb : Str → Option Value} {CX : CXT} {k : Nat} {fa a : Addr} {fd : FuncData} {x : Str} {sp : Sp} {s : Shared} {vs : List Value} {ns : List Int}
open Classical in
/-- what is tracked at the start: the tables, the script, if it is no object of the module -/
noncomputable def topH (K : PySem.W.Frag) (a : Addr) (vs : List Value) (ns : List Int) : Hp := fun b =>
  if ∃ c, LamC K c b then some (.tbl #[]) else if b = a ∧ K.lookup b = none then some (.frz { cls := .type "list", data := .seq vs.toArray } (.lst (ns.map V.int))) else none
theorem topH_of {b : Addr} {u : HO} (h : topH K a vs ns b = some u) : ((∃ c, LamC K c b) ∧ u = .tbl #[]) ∨ b = a ∧ K.lookup b = none ∧ u = .frz { cls := .type "list", data := .seq vs.toArray } (.lst (ns.map V.int)) := by
  unfold topH at h
  split at h
  · rename_i c
    cases h
    exact .inl ⟨c, rfl⟩
  · split at h
    · rename_i c
      cases h
      exact .inr ⟨c.1, c.2, rfl⟩
    · cases h
theorem topH_none {b : Addr} (h : ∀ u, topH K a vs ns b ≠ some u) : topH K a vs ns b = none := by
  cases q : topH K a vs ns b with
  | none => rfl
  | some u => exact (h u q).elim
/-- the tables stand, empty -/
def TopT (K : PySem.W.Frag) (H : Hp) : Prop := ∀ c P, LamC K c P → H P = some (.tbl #[])
theorem top_goes (kin : K.In s.heap) (gl : s.heap.Ns mainGlobals mg) (bl : s.heap.Ns builtinsNs mb) (bb : ∀ x : Str, x ≠ "__name__" → mb x = bootBuiltins x) (nol : s.heap.NoLimit) (gens : s.gens = #[])
    (scr : s.heap.get? a = some { cls := .type "list", data := .seq vs.toArray }) (nsok : IntsAre vs ns) (short : ns.length ≤ sizeLine) (room : SW.Room k callerA)
    (lam : ∀ c P, LamC K c P → K.lookup P = none ∧ PySem.W.CodeHd s.heap c P ∧ s.heap.get? P = some { cls := .none, data := .fields #[] } ∧ isCodeTable s.heap P)
    (bmain : ∃ (bm : Addr) (ob : Obj), mg "__builtins__" = some (.ref bm) ∧ bm ≠ builtinsNs ∧ s.heap.get? bm = some ob ∧ ob.cls = .type "module" ∧ ob.dict = some builtinsNs ∧ ob.data = .plain)
    (mods : ∃ m, s.heap.Ns sysModules m) (F : ∀ base : Heap, K.In base → base.Ns mainGlobals mg → SmB K mg base → SW.FnOk P w K mg base CX k fa fd [x] sp) (bnd : ∀ (s : Shared) (u : Value), BindsTo s fd ⟨[u], []⟩ [(x, u)])
    (want : ∀ H : Hp, TopT K H → SqL K H a (ns.map V.int) → sp [.ref a] H (fun v _ => v = .bl true) fun _ _ _ => False)
    (no : ∀ H e s', CX [] H s (fun _ _ _ => False) e s' → False) :
    codeAny (model P w) callerA (.call (.ref fa) ⟨[.ref a], []⟩) (fun r s' => r = .ok (.ret (.bool true)) ∧ OldK s.heap s'.heap ∧ s'.os = s.os ∧ AllBare s'.gens) s := by
  have rel := vals_ints nsok
  have len : vs.length = ns.length := nsok.length
  let H := topH K a vs ns
  have unK : ∀ b u, K.lookup b = some u → H b = none := fun b u e => topH_none fun o z => by
    rcases topH_of z with ⟨⟨c, hc⟩, _⟩ | ⟨_, n, _⟩
    · rw [(lam c b hc).1] at e
      cases e
    · rw [e] at n
      cases n
  have unD : ∀ b u, s.heap.get? b = some u → (∀ xs n, u.data ≠ .seq xs n) → u.data ≠ .fields #[] → H b = none := fun b u e nd nf => topH_none fun o z => by
    rcases topH_of z with ⟨⟨c, hc⟩, _⟩ | ⟨rfl, _, _⟩
    · rw [(lam c b hc).2.2.1] at e
      cases e
      exact nf rfl
    · rw [scr] at e
      cases e
      exact nd _ _ rfl
  have nss : ∀ {b : Addr} {m : Str → Option Value}, s.heap.Ns b m → (hidT s.heap H).Ns b m := by
    rintro b m ⟨u, es, ep, e, d, more⟩
    exact ⟨u, es, ep, hidT_get e (unD b u e (fun xs n z => by rw [d] at z; cases z) fun z => by rw [d] at z; cases z), d, more⟩
  have kinT : K.In (hidT s.heap H) := fun b u e => hidT_get (kin b u e) (unK b u e)
  have mod : Mod K mg (hidT s.heap H) := by
    obtain ⟨mc, l1, l2⟩ := nol
    exact ⟨kinT, nss gl, ⟨mb, nss bl, bb⟩, ⟨mc, nss l1, l2⟩⟩
  have ok : HOk P w H s.heap := fun b u e => by
    rcases topH_of e with ⟨⟨c, hc⟩, rfl⟩ | ⟨rfl, _, rfl⟩
    · exact (lam c b hc).2.2.1
    · exact ⟨scr, by rw [List.length_map]; exact short, vs, _, rel, scr⟩
  have tabs : ∀ c P, LamC K c P → LamX.TabB (hidT s.heap H) mg c P := fun c P hc => by
    obtain ⟨_, hcd, hP, _⟩ := lam c P hc
    refine ⟨?_, ?_, fun z => ?_⟩
    · obtain ⟨o, us, file, tf, flags, tg, inF, text, tt, e1, r1, r2, r3, r⟩ := hcd
      refine ⟨o, us, file, tf, flags, tg, inF, text, tt, hidT_get e1 (unD _ _ e1 (fun xs n z => ?_) fun z => ?_), r1, r2, r3, r⟩
      · rw [r2] at z; cases z
      · rw [r2] at z
        cases z
        simp at r3
    · obtain ⟨bm, ob, b1, b2, b3, b4, b5, b6⟩ := bmain
      have nG : bm ≠ mainGlobals := fun q => by
        obtain ⟨o, es, ep, e, hd, _⟩ := gl
        rw [q, e] at b3
        cases b3
        rw [hd] at b6
        cases b6
      have nP : bm ≠ P := fun q => by
        rw [q, hP] at b3
        cases b3
        cases b6
      exact ⟨bm, ob, b1, b2, nG, nP, hidT_get b3 (unD _ _ b3 (fun xs n z => by rw [b6] at z; cases z) fun z => by rw [b6] at z; cases z), b4, b5, b6⟩
    · obtain ⟨o, es, ep, e, hd, _⟩ := gl
      rw [z, hP] at e
      cases e
      cases hd
  have e0 : Env0 P w K mg (hidT s.heap H) callerA [] s H := by
    refine ⟨rfl, mod, ?_, Nat.le_of_eq (hidT_size s.heap H), True.intro, ?_, ok, AllBare.of_eq gens⟩
    · intro b u e
      exact of_hidT e
    · intro b hb
      cases hb
  have tops : TopT K H := fun c P hc => if_pos ⟨c, hc⟩
  have sq : SqL K H a (ns.map V.int) := by
    cases q : K.lookup a with
    | none =>
      refine .inl (.inr ⟨{ cls := .type "list", data := .seq vs.toArray }, ?_⟩)
      have nl : ¬ ∃ c, LamC K c a := fun z => by
        obtain ⟨c, hc⟩ := z
        have := (lam c a hc).2.2.1
        rw [scr] at this
        cases this
      show topH K a vs ns a = _
      unfold topH
      rw [if_neg nl, if_pos ⟨rfl, q⟩]
    | some u =>
      have e := kin a u q
      rw [scr] at e
      cases e
      exact .inr ⟨_, vs.toArray, _, q, rfl, rfl, rfl, by rw [List.size_toArray, len]; exact short, rel⟩
  refine codeAny_mono ((F _ kinT (nss gl) ⟨mods.imp fun _ z => nss z, tabs⟩).go (us := [.ref a]) (vs := [.ref a]) room e0 (bnd s (.ref a)) (.cons rfl .nil) (want H tops sq)) ?_
  rintro (er | fl) s2 z
  · exact (no H er s2 z).elim
  · match fl, z with
    | .next, z => exact z.elim
    | .brk, z => exact z.elim
    | .cont, z => exact z.elim
    | .ret u, ⟨v, H2, os, bare, un, ok2, rv, ev⟩ =>
      cases (show v = .bl true from ev)
      obtain rfl : u = Value.bool true := rv
      have keep : ∀ b o, s.heap.get? b = some o → (¬ ∃ c, LamC K c b) → s2.heap.get? b = some o := fun b o e nt => by
        cases q : H b with
        | none => exact un.keep b o e q (by intro z; cases z) (by intro z; cases z)
        | some v =>
          rcases topH_of q with ⟨hc, _⟩ | ⟨_, _, rfl⟩
          · exact absurd hc nt
          · have there := (ok2 b _ (un.frzs b _ _ q)).1
            have here := (ok b _ q).1
            rw [e] at here
            rw [here]
            exact there
      have grown : ∀ c b, LamC K c b → ∃ more : Array Value, s2.heap.get? b = some { cls := .none, data := .fields more } := fun c b hc => by
        obtain ⟨more, z⟩ := un.tbls b #[] (tops c b hc)
        exact ⟨_, ok2 b _ z⟩
      refine ⟨rfl, ⟨fun b o e => ?_, fun b o e => ?_⟩, os, bare⟩
      · by_cases hb : ∃ c, LamC K c b
        · obtain ⟨c, hc⟩ := hb
          obtain ⟨more, hm⟩ := grown c b hc
          obtain ⟨_, hcd, hP, hT⟩ := lam c b hc
          rw [hP] at e
          cases e
          exact .inr (.inl ⟨hT, rfl, #[], more, rfl, by rw [Array.empty_append]; exact hm⟩)
        · exact .inl (keep b o e hb)
      · by_cases hb : ∃ c, LamC K c b
        · obtain ⟨c, hc⟩ := hb
          obtain ⟨more, hm⟩ := grown c b hc
          exact ⟨_, hm⟩
        · exact ⟨o, keep b o e hb⟩
end
theorem walk_of {l : PySem.W.OpenLaw} {n k : Nat} {q : Program} {loose : List Str} {XP : (Str → Option Value) → Heap → Prop} {YP : World → Heap → Prop} {d : DefRec} {K : Params → PySem.W.Frag} {CX : World → CXT} {sp : World → Sp} {x : Str} (most : l.most = some n) (short : n ≤ sizeLine) (nodf : d.params.defaults = []) (noimp : PyProof.Rows.importsNone q = true) (room : SW.Room k callerA)
    (lam : ∀ (w : World) (c P : Addr), LamC (K w.params) c P → (K w.params).lookup P = none ∧ ((recsOf q).any fun e => e.name == "voted") = true)
    (kin : ∀ (w : World) (h : Heap), YP w h → (K w.params).In h) (F : ∀ (w : World) (mg : Str → Option Value) (fa : Addr) (h : Heap), (K w.params).In h → h.Ns mainGlobals mg → mg d.name = some (.ref fa) → ∃ fd : FuncData, (∀ (s : Shared) (u : Value), BindsTo s fd ⟨[u], []⟩ [(x, u)]) ∧
        ∀ base : Heap, (K w.params).In base → base.Ns mainGlobals mg → SmB (K w.params) mg base → SW.FnOk l.prog w (K w.params) mg base (CX w) k fa fd [x] (sp w))
    (want : ∀ (w : World) (H : Hp) (a : Addr) (ns : List Int), ns.length ≤ n → TopT (K w.params) H → SqL (K w.params) H a (ns.map V.int) → sp w [.ref a] H (fun v _ => v = .bl true) fun _ _ _ => False) (no : ∀ (w : World) (H : Hp) (s : Shared) (e : Value) (s' : Shared), CX w [] H s (fun _ _ _ => False) e s' → False) :
    PySem.W.WalkO q loose XP YP l.row.toRowW d [] (fun f vs => PySem.call f vs) := by
  apply Att.attach_call most nodf
  intro w s₀ s mg mb fa o pm cd doc a vs ns G Y _ _ _ at_ scr nsok le gens
  obtain ⟨fd, bnd, run⟩ := F w mg fa _ (kin w _ Y) G.T.g at_
  refine top_goes (kin w _ Y) G.T.g G.T.b G.T.builtins G.T.nolimit gens scr nsok (Nat.le_trans le short) room (fun c P hc => ?_) G.T.bmain (let ⟨m, z, _⟩ := (G.T.seer noimp).mods; ⟨m, z⟩) run bnd (fun H => want w H a ns le) fun H => no w H s
  obtain ⟨nP, hrec⟩ := lam w c P hc
  obtain ⟨f, ob, oc, fd2, vs2, k1, k2, k3, k4, k5, k6, k7⟩ := hc
  have KX := kin w _ Y
  obtain ⟨dL, hm, hn1⟩ := List.any_eq_true.mp hrec
  have hn2 : dL.name = "voted" := beq_iff_eq.mp hn1
  obtain ⟨a', o', fd', c', P', h1, h2, h3, h4, h5, h6⟩ := G.T.tab dL hm
  rw [hn2, PySem.W.mg_of KX G.T.g k1] at h1
  cases h1
  rw [KX _ _ k2] at h2
  cases h2
  rw [k3] at h3
  cases h3
  rw [k4] at h4
  cases h4
  have hcd := PySem.W.CodeHd.of h5 h6
  have hT := h6.isCodeTable
  obtain ⟨⟨oc2, vc, e1, _, e3, e4⟩, hP⟩ := h6
  rw [KX _ _ k5] at e1
  cases e1
  rw [k6] at e3
  cases e3
  rw [k7] at e4
  cases e4
  exact ⟨nP, hcd, hP, hT⟩
end SW

end

section
set_option Elab.async false
set_option linter.all false
set_option maxRecDepth 100000
/-! Data in place of heaps: D is what a value means, Mu the cells that a def may change; up lifts a reading over data to a reading over the layer's heap. -/
namespace SW
open PySem L2

inductive D where
  | non
  | bl (b : Bool)
  | int (i : Int)
  | str (s : List Nat)
  | tup (xs : List D)
  | lst (xs : List D)
  | dct (t : Bool) (ks vs : List D)
  | dcn (w : World) (kk : List NestedKey) (vs : List D)
  | cell (k : Nat)
  | scr (xs : List D)
  | val (v : V)
  | exc (C : Value)

instance : Inhabited D := ⟨.non⟩

/-- a text by its codes -/
abbrev mkS (l : List Nat) : Str := ⟨l.toArray⟩
def kD : Key → D
  | .inl i => .int i
  | .inr x => .str x.cps.toList

/-! dicts whose keys are tuples of tuples: what is known of the object, and of the keys' own tuples -/
mutual
/-- the value is the key -/
def NK (F : Hp) : NestedKey → V → Prop
  | .none, v => v = .non
  | .num i, v => v = .int i
  | .text x, v => v = .str x
  | .tup ks, v => ∃ p vs, v = .ref p ∧ F p = some (.tup vs) ∧ NKs F ks vs
def NKs (F : Hp) : List NestedKey → List V → Prop
  | [], vs => vs = []
  | k :: ks, vs => ∃ v r, vs = v :: r ∧ NK F k v ∧ NKs F ks r
end
abbrev Sub (F F' : Hp) : Prop := ∀ b o, F b = some o → F' b = some o
mutual
theorem NK.mono {F F' : Hp} (e : Sub F F') : ∀ (k : NestedKey) (v : V), NK F k v → NK F' k v
  | .none, _, h => h
  | .num _, _, h => h
  | .text _, _, h => h
  | .tup ks, _, ⟨p, vs, h1, h2, h3⟩ => ⟨p, vs, h1, e _ _ h2, NKs.mono e ks vs h3⟩
theorem NKs.mono {F F' : Hp} (e : Sub F F') : ∀ (ks : List NestedKey) (vs : List V), NKs F ks vs → NKs F' ks vs
  | [], _, h => h
  | k :: ks, _, ⟨v, r, h1, h2, h3⟩ => ⟨v, r, h1, NK.mono e k v h2, NKs.mono e ks r h3⟩
end
/-- an entry: the key, where its tuple stands, the value -/
abbrev NEnt := NestedKey × Addr × V
def EntR (w : World) (x : NEnt) (e : DictEntry) : Prop := e.hash = x.1.hash w ∧ e.key = .ref x.2.1 ∧ RelV x.2.2 e.val
/-- what is true of such a dict's one object -/
def nkP (w : World) (p : Addr) (xs : List NEnt) (h : Heap) : Prop := xs.length ≤ sizeLine ∧ (p == sysModules) = false ∧ (xs.map (·.1)).Nodup ∧ (∀ x ∈ xs, x.1.depth ≤ 8) ∧
  ∃ o es ep, h.get? p = some o ∧ o.ExactDict ∧ o.data = .dict es ep ∧ Paired (EntR w) xs es.toList
def NkO (w : World) (p : Addr) (xs : List NEnt) : HO := .ext (nkP w p xs)
def nents (kk : List NestedKey) (bs : List Addr) (vs : List V) : List NEnt := kk.zip (bs.zip vs)
mutual
def Rep (K : PySem.W.Frag) (F : Hp) (θ : List Addr) : D → V → Prop
  | .non, v => v = .non
  | .bl b, v => v = .bl b
  | .int i, v => v = .int i
  | .str s, v => v = .str (mkS s)
  | .tup ds, v => ∃ p vs, v = .ref p ∧ F p = some (.tup vs) ∧ Reps K F θ ds vs
  | .lst ds, v => ∃ p vs, v = .ref p ∧ F p = some (.lst vs) ∧ Reps K F θ ds vs
  | .scr ds, v => ∃ p vs, v = .ref p ∧ SqL K F p vs ∧ Reps K F θ ds vs
  | .dct tt ks ds, v => ∃ p vs, v = .ref p ∧ Reps K F θ ds vs ∧ ks.length = vs.length ∧
      ((∃ kk : List Key, (tt = false ∧ ks = kk.map kD) ∧ ∃ ob, F p = some (.frz ob (.dK (kk.zip vs)))) ∨ (∃ kk : List (List Key), (tt = true ∧ ks = kk.map (fun x => .tup (x.map kD))) ∧ ∃ ob, F p = some (.frz ob (.dT (kk.zip vs)))))
  | .dcn w kk ds, v => ∃ p vs bs, v = .ref p ∧ Reps K F θ ds vs ∧ kk.length = vs.length ∧ NKs F kk (bs.map V.ref) ∧ ∃ ob, F p = some (.frz ob (NkO w p (nents kk bs vs)))
  | .cell k, v => ∃ p, v = .ref p ∧ θ[k]? = some p
  | .val u, v => v = u
  | .exc C, v => ∃ p, v = .ref p ∧ F p = some (ExB C p)
def Reps (K : PySem.W.Frag) (F : Hp) (θ : List Addr) : List D → List V → Prop
  | [], vs => vs = []
  | d :: ds, vs => ∃ v r, vs = v :: r ∧ Rep K F θ d v ∧ Reps K F θ ds r
end


section
variable {K : PySem.W.Frag} {F F' : Hp} {θ θ' : List Addr}
theorem sub_sqL {a : Addr} {xs : List V} (e : Sub F F') (h : SqL K F a xs) : SqL K F' a xs := Same.seq e h
theorem sub_sqT {a : Addr} {xs : List V} (e : Sub F F') (h : SqT K F a xs) : SqT K F' a xs := by
  rcases h with (h | ⟨o, h⟩) | h
  · exact .inl (.inl (e _ _ h))
  · exact .inl (.inr ⟨o, e _ _ h⟩)
  · exact .inr h

mutual
theorem Rep.mono (e : Sub F F') (t : ∀ (k : Nat) p, θ[k]? = some p → θ'[k]? = some p) : ∀ (d : D) (v : V), Rep K F θ d v → Rep K F' θ' d v
  | .non, v, h => by unfold Rep at h ⊢; exact h
  | .bl b, v, h => by unfold Rep at h ⊢; exact h
  | .int i, v, h => by unfold Rep at h ⊢; exact h
  | .str s, v, h => by unfold Rep at h ⊢; exact h
  | .tup ds, v, h => by
    unfold Rep at h ⊢
    obtain ⟨p, vs, h1, h2, h3⟩ := h
    exact ⟨p, vs, h1, e _ _ h2, Reps.mono e t ds vs h3⟩
  | .lst ds, v, h => by
    unfold Rep at h ⊢
    obtain ⟨p, vs, h1, h2, h3⟩ := h
    exact ⟨p, vs, h1, e _ _ h2, Reps.mono e t ds vs h3⟩
  | .scr ds, v, h => by
    unfold Rep at h ⊢
    obtain ⟨p, vs, h1, h2, h3⟩ := h
    exact ⟨p, vs, h1, sub_sqL e h2, Reps.mono e t ds vs h3⟩
  | .dct tt ks ds, v, h => by
    unfold Rep at h ⊢
    obtain ⟨p, vs, h1, h2, h3, h4⟩ := h
    refine ⟨p, vs, h1, Reps.mono e t ds vs h2, h3, ?_⟩
    rcases h4 with ⟨kk, e1, e2⟩ | ⟨kk, e1, e2⟩
    · exact .inl ⟨kk, e1, e2.imp fun o z => e _ _ z⟩
    · exact .inr ⟨kk, e1, e2.imp fun o z => e _ _ z⟩
  | .dcn w kk ds, v, h => by
    unfold Rep at h ⊢
    obtain ⟨p, vs, bs, h1, h2, h3, h4, ob, h5⟩ := h
    exact ⟨p, vs, bs, h1, Reps.mono e t ds vs h2, h3, NKs.mono e _ _ h4, ob, e _ _ h5⟩
  | .cell k, v, h => by
    unfold Rep at h ⊢
    obtain ⟨p, h1, h2⟩ := h
    exact ⟨p, h1, t _ _ h2⟩
  | .val u, v, h => by unfold Rep at h ⊢; exact h
  | .exc C, v, h => by
    unfold Rep at h ⊢
    obtain ⟨p, h1, h2⟩ := h
    exact ⟨p, h1, e _ _ h2⟩
theorem Reps.mono (e : Sub F F') (t : ∀ (k : Nat) p, θ[k]? = some p → θ'[k]? = some p) : ∀ (ds : List D) (vs : List V), Reps K F θ ds vs → Reps K F' θ' ds vs
  | [], vs, h => by unfold Reps at h ⊢; exact h
  | d :: ds, vs, h => by
    unfold Reps at h ⊢
    obtain ⟨v, r, h1, h2, h3⟩ := h
    exact ⟨v, r, h1, Rep.mono e t d v h2, Reps.mono e t ds r h3⟩
end
end

/-! ### cells -/
inductive MO where
  | lst (xs : List D)
  | dct (t : Bool) (ks vs : List D)
  | dcn (w : World) (kk : List NestedKey) (vs : List D)
  | dcl (ob : Obj) (u : HO) (t : Bool) (ks vs : List D)
  | dcm (ob : Obj) (u : HO) (w : World) (kk : List NestedKey) (vs : List D)
  | ins (C : Addr) (fs : List (Str × D))
  | dead

abbrev DS := List (Option D)
abbrev Mu := List MO
abbrev DQ := D → Mu → Prop
/-- an exception's class, the cells behind it -/
abbrev DE := Value → DS → Mu → Prop
abbrev TD := DS → Mu → DQ → DE → Prop
abbrev TDT := DS → Mu → (Bool → Mu → Prop) → DE → Prop
abbrev TDA := DS → Mu → (List D → Mu → Prop) → DE → Prop
structure DEnds where
  nx : DS → Mu → Prop
  rt : DQ
  ex : DE
  bk : DS → Mu → Prop := fun _ _ => False
  ct : DS → Mu → Prop := fun _ _ => False
abbrev TDS := DEnds → DS → Mu → Prop

/-- fields, by name -/
def RepF (K : PySem.W.Frag) (F : Hp) (θ : List Addr) : List (Str × D) → List (Str × V) → Prop
  | [], fv => fv = []
  | (x, d) :: r, fv => ∃ v fr, fv = (x, v) :: fr ∧ Rep K F θ d v ∧ RepF K F θ r fr
def RepO (K : PySem.W.Frag) (F : Hp) (θ : List Addr) (H : Hp) (p : Addr) : MO → Prop
  | .lst xs => ∃ vs, H p = some (.lst vs) ∧ Reps K F θ xs vs
  | .dct tt ks ds => ∃ vs, Reps K F θ ds vs ∧ ks.length = vs.length ∧
      ((∃ kk : List Key, (tt = false ∧ ks = kk.map kD) ∧ H p = some (.dK (kk.zip vs))) ∨ (∃ kk : List (List Key), (tt = true ∧ ks = kk.map (fun x => .tup (x.map kD))) ∧ H p = some (.dT (kk.zip vs))))
  | .dcn w kk ds => ∃ vs bs, H p = some (NkO w p (nents kk bs vs)) ∧ Reps K F θ ds vs ∧ kk.length = vs.length ∧ NKs F kk (bs.map V.ref)
  | .dcl ob u tt ks ds => H p = some (.frz ob u) ∧ ∃ vs, Reps K F θ ds vs ∧ ks.length = vs.length ∧
      ((∃ kk : List Key, (tt = false ∧ ks = kk.map kD) ∧ u = .dK (kk.zip vs)) ∨ (∃ kk : List (List Key), (tt = true ∧ ks = kk.map (fun x => .tup (x.map kD))) ∧ u = .dT (kk.zip vs)))
  | .dcm ob u w kk ds => H p = some (.frz ob u) ∧ ∃ vs bs, Reps K F θ ds vs ∧ kk.length = vs.length ∧ NKs F kk (bs.map V.ref) ∧ u = NkO w p (nents kk bs vs)
  | .ins C fs => ∃ dx fv, H p = some (.ins C dx fv) ∧ RepF K F θ fs fv
  | .dead => True

structure Wd where
  F : Hp
  th : List Addr

def Live (μ : Mu) (k : Nat) : Prop := ∃ o, μ[k]? = some o ∧ o ≠ .dead

/-! tables of code objects: the one of voted, whose lambda's code object is made at the first call -/
def lamQ : Str := "voted.<locals>.<lambda>"
/-- what has no part in a table, and is no tuple -/
def plainO : HO → Prop
  | .tup _ => False
  | .tbl _ => False
  | .ext φ => ∃ w p xs, φ = nkP w p xs
  | _ => True
/-- a code object is no such dict -/
theorem code_no {c : Addr} {q : Str} : ¬ plainO (LamX.CodeO c q) := by
  rintro ⟨w, p, xs, e⟩
  have e' := congrFun e { objs := (Array.replicate (c + 1) { cls := .none, data := .fields #[.none, .str q 0] } : Array Obj) }
  have g : ∀ b, b < c + 1 → Heap.get? { objs := (Array.replicate (c + 1) { cls := .none, data := .fields #[.none, .str q 0] } : Array Obj) } b = some { cls := .none, data := .fields #[.none, .str q 0] } := fun b hb => by
    unfold Heap.get?
    simp [hb]
  have y : nkP w p xs { objs := (Array.replicate (c + 1) { cls := .none, data := .fields #[.none, .str q 0] } : Array Obj) } := by
    rw [← e']
    exact ⟨_, _, 0, g c (Nat.lt_succ_self c), rfl, rfl⟩
  obtain ⟨_, _, _, _, o, es, ep, ho, _, hd, _⟩ := y
  by_cases hp : p < c + 1
  · rw [g p hp] at ho
    cases ho
    cases hd
  · unfold Heap.get? at ho
    simp [hp] at ho
def TabK (K : PySem.W.Frag) (F H : Hp) : Prop := ∀ c P, LamC K c P → LamX.TabS H P lamQ ∧ F P = none
theorem TabK.upd {K : PySem.W.Frag} {F H : Hp} {p : Addr} {o : HO} (t : TabK K F H) (h : ∀ u, H p = some u → plainO u) : TabK K F (upd H p o) := fun c P hP => by
  obtain ⟨⟨ps, h1, h2, h3⟩, hF⟩ := t c P hP
  have np : ∀ b u, H b = some u → ¬ plainO u → b ≠ p := fun b u e n z => n (h u (by rw [← z]; exact e))
  refine ⟨⟨ps, by rw [upd_ne (np P _ h1 (fun z => z))]; exact h1, h2, fun pos cv hc => ?_⟩, hF⟩
  obtain ⟨c, e1, e2⟩ := h3 pos cv hc
  exact ⟨c, e1, by rw [upd_ne (np c _ e2 code_no)]; exact e2⟩
theorem TabK.inF {K : PySem.W.Frag} {F H : Hp} {p : Addr} {o : HO} (t : TabK K F H) (h : ∀ ps, H p ≠ some (.tbl ps)) : TabK K (L2.upd F p o) H := fun c P hP => by
  obtain ⟨⟨ps, h1, h2, h3⟩, hF⟩ := t c P hP
  exact ⟨⟨ps, h1, h2, h3⟩, by rw [upd_ne (fun z => h ps (by rw [← z]; exact h1))]; exact hF⟩
theorem plain_none {H : Hp} {p : Addr} (h : H p = none) : ∀ u, H p = some u → plainO u := fun u e => by rw [h] at e; cases e
theorem plain_some {H : Hp} {p : Addr} {o : HO} (h : H p = some o) (n : plainO o) : ∀ u, H p = some u → plainO u := fun u e => by rw [h] at e; cases e; exact n
theorem plain_tbl {H : Hp} {p : Addr} (h : ∀ u, H p = some u → plainO u) : ∀ ps, H p ≠ some (.tbl ps) := fun ps e => h _ e
structure At (K : PySem.W.Frag) (g : Wd) (μ : Mu) (H : Hp) : Prop where
  sub : Sub g.F H
  len : g.th.length = μ.length
  obj : ∀ (k : Nat) o p, μ[k]? = some o → g.th[k]? = some p → o ≠ .dead → g.F p = none ∧ RepO K g.F g.th H p o
  inj : ∀ (j k : Nat) p, Live μ j → Live μ k → g.th[j]? = some p → g.th[k]? = some p → j = k
  al : ∀ p ∈ g.th, ∃ o, H p = some o
  tab : TabK K g.F H

theorem repO_plain {K : PySem.W.Frag} {F H : Hp} {θ : List Addr} {p : Addr} {o : MO} (hd : o ≠ .dead) (r : RepO K F θ H p o) : ∀ u, H p = some u → plainO u := by
  cases o with
  | lst xs => obtain ⟨_, h, _⟩ := r; exact plain_some h trivial
  | dct tt ks ds =>
    obtain ⟨_, _, _, h⟩ := r
    rcases h with ⟨_, _, h⟩ | ⟨_, _, h⟩ <;> exact plain_some h trivial
  | dcn w kk ds => obtain ⟨_, _, h, _⟩ := r; exact plain_some h ⟨_, _, _, rfl⟩
  | dcl ob u tt ks ds => obtain ⟨h, _⟩ := r; exact plain_some h trivial
  | dcm ob u w kk ds => obtain ⟨h, _⟩ := r; exact plain_some h trivial
  | ins C fs => obtain ⟨_, _, h, _⟩ := r; exact plain_some h trivial
  | dead => exact absurd rfl hd
structure Ext (g : Wd) (H : Hp) (g' : Wd) (H' : Hp) : Prop where
  F : Sub g.F g'.F
  th : ∃ more, g'.th = g.th ++ more ∧ ∀ p ∈ more, H p = none
  fr : ∀ b o, H b = some o → b ∉ g.th → (∀ ps, o ≠ .tbl ps) → H' b = some o
  tb : ∀ b ps, H b = some (.tbl ps) → b ∉ g.th → ∃ ps', H' b = some (.tbl ps')
  ek : ∀ b φ, H b = some (.ext φ) → ¬ plainO (.ext φ) → H' b = some (.ext φ)
  nw : ∀ b o, g'.F b = some o → g.F b = none → H b = none ∨ b ∈ g.th ∨ ∃ vs, H b = some (.tup vs)
  dom : ∀ b o, H b = some o → ∃ o', H' b = some o'

theorem Ext.refl (g : Wd) (H : Hp) : Ext g H g H := ⟨fun _ _ h => h, ⟨[], by simp, by simp⟩, fun _ _ h _ _ => h, fun b ps h _ => ⟨ps, h⟩, fun _ _ h _ => h, fun b o h h' => (by rw [h] at h'; cases h'), fun _ o h => ⟨o, h⟩⟩
theorem Ext.trans {g g1 g2 : Wd} {H H1 H2 : Hp} (a : Ext g H g1 H1) (b : Ext g1 H1 g2 H2) : Ext g H g2 H2 := by
  obtain ⟨m1, e1, f1⟩ := a.th
  obtain ⟨m2, e2, f2⟩ := b.th
  refine ⟨fun x o h => b.F _ _ (a.F _ _ h), ⟨m1 ++ m2, by rw [e2, e1, List.append_assoc], fun p hp => ?_⟩, fun x o h hx n => b.fr _ _ (a.fr _ _ h hx n) ?_ n, fun x ps h hx => ?_, fun x φ h n => b.ek _ _ (a.ek _ _ h n) n, fun x o h h' => ?_, fun x o h => ?_⟩
  · rcases List.mem_append.mp hp with hp | hp
    · exact f1 p hp
    · cases e : H p with
      | none => rfl
      | some o =>
        obtain ⟨o', h'⟩ := a.dom _ _ e
        rw [f2 p hp] at h'
        cases h'
  · intro hm
    rw [e1] at hm
    rcases List.mem_append.mp hm with hm | hm
    · exact hx hm
    · have := f1 _ hm
      rw [h] at this
      cases this
  · obtain ⟨ps', h'⟩ := a.tb _ _ h hx
    refine b.tb _ _ h' fun hm => ?_
    rw [e1] at hm
    rcases List.mem_append.mp hm with hm | hm
    · exact hx hm
    · have := f1 _ hm
      rw [h] at this
      cases this
  · cases e : g1.F x with
    | some o1 => exact a.nw _ _ e h'
    | none =>
      rcases b.nw _ _ h e with q | q | ⟨vs, q⟩
      · cases e2 : H x with
        | none => exact .inl rfl
        | some o2 =>
          obtain ⟨o', h'⟩ := a.dom _ _ e2
          rw [q] at h'
          cases h'
      · rw [e1] at q
        rcases List.mem_append.mp q with q | q
        · exact .inr (.inl q)
        · exact .inl (f1 _ q)
      · cases e2 : H x with
        | none => exact .inl rfl
        | some o2 =>
          by_cases hx : x ∈ g.th
          · exact .inr (.inl hx)
          · by_cases ht : ∃ ps, o2 = .tbl ps
            · obtain ⟨ps, rfl⟩ := ht
              obtain ⟨ps', h'⟩ := a.tb _ _ e2 hx
              rw [q] at h'
              cases h'
            · have := a.fr _ _ e2 hx fun ps z => ht ⟨ps, z⟩
              rw [q] at this
              cases this
              exact .inr (.inr ⟨vs, rfl⟩)
  · obtain ⟨o1, h1⟩ := a.dom _ _ h
    exact b.dom _ _ h1
theorem Ext.ix {g g' : Wd} {H H' : Hp} (e : Ext g H g' H') : ∀ (k : Nat) p, g.th[k]? = some p → g'.th[k]? = some p := by
  obtain ⟨m, e1, _⟩ := e.th
  intro k p h
  rw [e1, List.getElem?_append_left (List.getElem?_eq_some_iff.mp h).1]
  exact h
theorem Rep.ext {K : PySem.W.Frag} {g g' : Wd} {H H' : Hp} {d : D} {v : V} (h : Rep K g.F g.th d v) (e : Ext g H g' H') : Rep K g'.F g'.th d v := Rep.mono e.F e.ix d v h
theorem Reps.ext {K : PySem.W.Frag} {g g' : Wd} {H H' : Hp} {d : List D} {v : List V} (h : Reps K g.F g.th d v) (e : Ext g H g' H') : Reps K g'.F g'.th d v := Reps.mono e.F e.ix d v h

/-- the slots -/
structure Sl (K : PySem.W.Frag) (g : Wd) (σ : St) (δ : DS) : Prop where
  len : δ.length = σ.length
  get : ∀ (i : Nat) d, δ[i]? = some (some d) → ∃ v, σ[i]? = some (some v) ∧ Rep K g.F g.th d v
theorem Sl.ext {K : PySem.W.Frag} {g g' : Wd} {H H' : Hp} {σ : St} {δ : DS} (h : Sl K g σ δ) (e : Ext g H g' H') : Sl K g' σ δ :=
  ⟨h.len, fun i d q => let ⟨v, a, b⟩ := h.get i d q; ⟨v, a, b.ext e⟩⟩
theorem Sl.set {K : PySem.W.Frag} {g : Wd} {σ : St} {δ : DS} {i : Nat} {d : D} {v : V} (h : Sl K g σ δ) (r : Rep K g.F g.th d v) : Sl K g (σ.set i (some v)) (δ.set i (some d)) := by
  refine ⟨by simp [h.len], fun j d' q => ?_⟩
  by_cases e : i = j
  · subst e
    by_cases hl : i < δ.length
    · rw [List.getElem?_set_self hl] at q
      cases q
      exact ⟨v, List.getElem?_set_self (by rw [← h.len]; exact hl), r⟩
    · rw [List.getElem?_eq_none (by simpa using hl)] at q
      cases q
  · rw [List.getElem?_set_ne e] at q ⊢
    exact h.get j d' q
/-! ### the lift -/
section
variable (K : PySem.W.Frag) (W : WX)
def up (A : TD) : TE := fun σ H Q => ∃ (g : Wd) (μ : Mu) (δ : DS) (Q' : DQ) (E' : DE), At K g μ H ∧ Sl K g σ δ ∧ A δ μ Q' E' ∧
  (∀ g' H' μ' d v, At K g' μ' H' → Ext g H g' H' → Rep K g'.F g'.th d v → Q' d μ' → Q v H') ∧
  (∀ g' H' μ' C δ', At K g' μ' H' → Ext g H g' H' → Sl K g' σ δ' → E' C δ' μ' → W C none σ H')
def upT (A : TDT) : TT := fun σ H Q => ∃ (g : Wd) (μ : Mu) (δ : DS) (Q' : Bool → Mu → Prop) (E' : DE), At K g μ H ∧ Sl K g σ δ ∧ A δ μ Q' E' ∧
  (∀ g' H' μ' b, At K g' μ' H' → Ext g H g' H' → Q' b μ' → Q b H') ∧
  (∀ g' H' μ' C δ', At K g' μ' H' → Ext g H g' H' → Sl K g' σ δ' → E' C δ' μ' → W C none σ H')
def upA (A : TDA) : TA := fun σ H Q => ∃ (g : Wd) (μ : Mu) (δ : DS) (Q' : List D → Mu → Prop) (E' : DE), At K g μ H ∧ Sl K g σ δ ∧ A δ μ Q' E' ∧
  (∀ g' H' μ' ds vs, At K g' μ' H' → Ext g H g' H' → Reps K g'.F g'.th ds vs → Q' ds μ' → Q vs H') ∧
  (∀ g' H' μ' C δ', At K g' μ' H' → Ext g H g' H' → Sl K g' σ δ' → E' C δ' μ' → W C none σ H')
def upS (A : TDS) : TS := fun D σ H => ∃ (g : Wd) (μ : Mu) (δ : DS) (D' : DEnds), At K g μ H ∧ Sl K g σ δ ∧ A D' δ μ ∧
  (∀ g' H' μ' δ' σ', At K g' μ' H' → Ext g H g' H' → Sl K g' σ' δ' → D'.nx δ' μ' → D.nx σ' H') ∧
  (∀ g' H' μ' d v, At K g' μ' H' → Ext g H g' H' → Rep K g'.F g'.th d v → D'.rt d μ' → D.rt v H') ∧
  (∀ g' H' μ' δ' σ', At K g' μ' H' → Ext g H g' H' → Sl K g' σ' δ' → D'.bk δ' μ' → D.bk σ' H') ∧
  (∀ g' H' μ' δ' σ', At K g' μ' H' → Ext g H g' H' → Sl K g' σ' δ' → D'.ct δ' μ' → D.ct σ' H') ∧
  (∀ g' H' μ' C δ' σ', At K g' μ' H' → Ext g H g' H' → Sl K g' σ' δ' → D'.ex C δ' μ' → W C none σ' H')
end

theorem PE.imp {X : Cx} {e : Expr} {t t' : TE} (h : PE X e t) (i : ∀ σ H Q, t' σ H Q → t σ H Q) : PE X e t' := ⟨fun pins s σ H Q I q => h.run pins s σ H Q I (i _ _ _ q)⟩
theorem PT.imp {X : Cx} {e : Expr} {t t' : TT} (h : PT X e t) (i : ∀ σ H Q, t' σ H Q → t σ H Q) : PT X e t' := ⟨fun pins s σ H Q I q => h.run pins s σ H Q I (i _ _ _ q)⟩
theorem PW.imp {X : Cx} {e : Expr} {t t' : TT} (h : PW X e t) (i : ∀ σ H Q, t' σ H Q → t σ H Q) : PW X e t' := ⟨fun w pins s σ H Q I q => h.run w pins s σ H Q I (i _ _ _ q)⟩
theorem PA.imp {X : Cx} {e : List Expr} {t t' : TA} (h : PA X e t) (i : ∀ σ H Q, t' σ H Q → t σ H Q) : PA X e t' := ⟨fun w pins s σ H Q I q => h.run w pins s σ H Q I (i _ _ _ q)⟩
theorem PS.imp {X : Cx} {e : Stmt} {t t' : TS} (h : PS X e t) (i : ∀ D σ H, t' D σ H → t D σ H) : PS X e t' := ⟨fun pins s σ H Q I q => h.run pins s σ H Q I (i _ _ _ q)⟩
theorem PSs.imp {X : Cx} {e : List Stmt} {t t' : TS} (h : PSs X e t) (i : ∀ D σ H, t' D σ H → t D σ H) : PSs X e t' := ⟨fun pins s σ H Q I q => h.run pins s σ H Q I (i _ _ _ q)⟩

end SW

end

section
set_option Elab.async false
set_option linter.all false
set_option maxRecDepth 100000
namespace SW
open PySem L2

theorem RepF.mono {K : PySem.W.Frag} {F F' : Hp} {θ θ' : List Addr} (e : Sub F F') (t : ∀ (k : Nat) p, θ[k]? = some p → θ'[k]? = some p) : ∀ (fs : List (Str × D)) (fv : List (Str × V)), RepF K F θ fs fv → RepF K F' θ' fs fv
  | [], _, h => h
  | (x, d) :: r, fv, h => by
    obtain ⟨v, fr, a, b, c⟩ := h
    exact ⟨v, fr, a, Rep.mono e t d v b, RepF.mono e t r fr c⟩
theorem RepO.mono {K : PySem.W.Frag} {F F' : Hp} {θ θ' : List Addr} {H H' : Hp} {p : Addr} {o : MO} (e : Sub F F') (t : ∀ (k : Nat) p, θ[k]? = some p → θ'[k]? = some p) (hp : o ≠ .dead → H' p = H p) (h : RepO K F θ H p o) : RepO K F' θ' H' p o := by
  cases o with
  | lst xs =>
    obtain ⟨vs, a, b⟩ := h
    exact ⟨vs, by rw [hp (by simp)]; exact a, Reps.mono e t _ _ b⟩
  | dct tt ks ds =>
    obtain ⟨vs, a, b, c⟩ := h
    refine ⟨vs, Reps.mono e t _ _ a, b, ?_⟩
    rw [hp (by simp)]
    exact c
  | dcn w kk ds =>
    obtain ⟨vs, bs, a, b, c, d⟩ := h
    exact ⟨vs, bs, by rw [hp (by simp)]; exact a, Reps.mono e t _ _ b, c, NKs.mono e _ _ d⟩
  | dcl ob u tt ks ds =>
    obtain ⟨a, vs, b, c⟩ := h
    exact ⟨by rw [hp (by simp)]; exact a, vs, Reps.mono e t _ _ b, c⟩
  | dcm ob u w kk ds =>
    obtain ⟨a, vs, bs, b, c, d, q⟩ := h
    exact ⟨by rw [hp (by simp)]; exact a, vs, bs, Reps.mono e t _ _ b, c, NKs.mono e _ _ d, q⟩
  | ins C fs =>
    obtain ⟨dx, fv, a, b⟩ := h
    exact ⟨dx, fv, by rw [hp (by simp)]; exact a, RepF.mono e t _ _ b⟩
  | dead => trivial

theorem alloc_upd {H : Hp} {p q : Addr} {o : HO} (h : ∃ u, H q = some u) : ∃ u, (upd H p o) q = some u := by
  by_cases e : q = p
  · subst e
    exact ⟨_, upd_same⟩
  · rw [upd_ne e]
    exact h
theorem th_get {g : Wd} {μ : Mu} {H : Hp} {K : PySem.W.Frag} (a : At K g μ H) {k : Nat} {o : MO} (h : μ[k]? = some o) : ∃ p, g.th[k]? = some p := by
  have := (List.getElem?_eq_some_iff.mp h).1
  rw [← a.len] at this
  exact ⟨_, List.getElem?_eq_getElem this⟩

section
variable {K : PySem.W.Frag} {g : Wd} {μ : Mu} {H : Hp}

/-- the address of a live cell -/
theorem At.cellAt (a : At K g μ H) {k : Nat} {o : MO} (h : μ[k]? = some o) (hd : o ≠ .dead) {v : V} (r : Rep K g.F g.th (.cell k) v) : ∃ p, v = .ref p ∧ g.th[k]? = some p ∧ g.F p = none ∧ RepO K g.F g.th H p o := by
  unfold Rep at r
  obtain ⟨p, e, hp⟩ := r
  obtain ⟨x, y⟩ := a.obj k o p h hp hd
  exact ⟨p, e, hp, x, y⟩

/-- an object that no one changes is made -/
theorem At.newF (a : At K g μ H) {p : Addr} (hp : H p = none) (o : HO) : At K ⟨upd g.F p o, g.th⟩ μ (upd H p o) ∧ Ext g H ⟨upd g.F p o, g.th⟩ (upd H p o) ∧ (upd g.F p o) p = some o := by
  have hF : g.F p = none := Same.free a.sub hp
  have sub : Sub g.F (upd g.F p o) := fun b u e => by rw [upd_ne (ne_of_none e hF)]; exact e
  refine ⟨⟨fun b u e => ?_, a.len, fun k u q h1 h2 h3 => ?_, a.inj, fun q hq => alloc_upd (a.al q hq), (a.tab.inF (o := o) (plain_tbl (plain_none hp))).upd (plain_none hp)⟩, ⟨sub, ⟨[], by simp, by simp⟩, fun b u e _ _ => ?_, fun b ps e _ => ⟨ps, by rw [upd_ne (ne_of_none e hp)]; exact e⟩, fun b φ e _ => by rw [upd_ne (ne_of_none e hp)]; exact e, fun b u e e' => ?_, fun b u e => ?_⟩, upd_same⟩
  · have e : upd g.F p o b = some u := e
    by_cases hb : b = p
    · subst hb
      rw [upd_same] at e ⊢
      exact e
    · rw [upd_ne hb] at e ⊢
      exact a.sub _ _ e
  · obtain ⟨x, y⟩ := a.obj k u q h1 h2 h3
    have hq : q ≠ p := by
      rintro rfl
      cases u with
      | lst xs => obtain ⟨vs, z, _⟩ := y; rw [hp] at z; cases z
      | dct tt ks ds =>
        obtain ⟨vs, _, _, z⟩ := y
        rw [hp] at z
        rcases z with ⟨_, _, z⟩ | ⟨_, _, z⟩ <;> cases z
      | dcn w kk ds => obtain ⟨vs, bs, z, _⟩ := y; rw [hp] at z; cases z
      | dcl ob u tt ks ds => obtain ⟨z, _⟩ := y; rw [hp] at z; cases z
      | dcm ob u w kk ds => obtain ⟨z, _⟩ := y; rw [hp] at z; cases z
      | ins C fs => obtain ⟨dx, fv, z, _⟩ := y; rw [hp] at z; cases z
      | dead => exact h3 rfl
    exact ⟨by show upd g.F p o q = none; rw [upd_ne hq]; exact x, RepO.mono sub (fun _ _ h => h) (fun _ => upd_ne hq) y⟩
  · rw [upd_ne (ne_of_none e hp)]
    exact e
  · by_cases hb : b = p
    · subst hb
      exact .inl hp
    · have e : upd g.F p o b = some u := e
      rw [upd_ne hb, e'] at e
      cases e
  · exact ⟨u, by rw [upd_ne (ne_of_none e hp)]; exact e⟩
theorem At.newLst (a : At K g μ H) {p : Addr} (hp : H p = none) {ds : List D} {vs : List V} (r : Reps K g.F g.th ds vs) :
    ∃ g', At K g' μ (upd H p (.lst vs)) ∧ Ext g H g' (upd H p (.lst vs)) ∧ Rep K g'.F g'.th (.lst ds) (.ref p) := by
  obtain ⟨x, y, z⟩ := a.newF hp (.lst vs)
  exact ⟨_, x, y, by unfold Rep; exact ⟨p, vs, rfl, z, r.ext y⟩⟩
theorem At.newTup (a : At K g μ H) {p : Addr} (hp : H p = none) {ds : List D} {vs : List V} (r : Reps K g.F g.th ds vs) :
    ∃ g', At K g' μ (upd H p (.tup vs)) ∧ Ext g H g' (upd H p (.tup vs)) ∧ Rep K g'.F g'.th (.tup ds) (.ref p) := by
  obtain ⟨x, y, z⟩ := a.newF hp (.tup vs)
  exact ⟨_, x, y, by unfold Rep; exact ⟨p, vs, rfl, z, r.ext y⟩⟩

/-- a cell is made -/
theorem At.newC (a : At K g μ H) {p : Addr} (hp : H p = none) {ho : HO} {o : MO} (r : RepO K g.F (g.th ++ [p]) (upd H p ho) p o) :
    At K ⟨g.F, g.th ++ [p]⟩ (μ ++ [o]) (upd H p ho) ∧ Ext g H ⟨g.F, g.th ++ [p]⟩ (upd H p ho) ∧ Rep K g.F (g.th ++ [p]) (.cell μ.length) (.ref p) := by
  have hF : g.F p = none := Same.free a.sub hp
  have ix : ∀ (k : Nat) q, g.th[k]? = some q → (g.th ++ [p])[k]? = some q := fun k q h => by
    rw [List.getElem?_append_left (List.getElem?_eq_some_iff.mp h).1]
    exact h
  have old : ∀ (k : Nat) u, (μ ++ [o])[k]? = some u → (k < μ.length ∧ μ[k]? = some u) ∨ (k = μ.length ∧ u = o) := fun k u h => by
    by_cases hk : k < μ.length
    · rw [List.getElem?_append_left hk] at h
      exact .inl ⟨hk, h⟩
    · rw [List.getElem?_append_right (by omega)] at h
      have : k - μ.length = 0 := by
        cases e : k - μ.length with
        | zero => rfl
        | succ n => rw [e] at h; simp at h
      rw [this] at h
      simp at h
      exact .inr ⟨by omega, h.symm⟩
  have oldθ : ∀ (k : Nat) q, k < μ.length → (g.th ++ [p])[k]? = some q → g.th[k]? = some q := fun k q hk h => by
    rw [List.getElem?_append_left (by rw [a.len]; exact hk)] at h
    exact h
  have newθ : ∀ q, (g.th ++ [p])[μ.length]? = some q → q = p := fun q h => by
    rw [← a.len, List.getElem?_append_right (Nat.le_refl _), Nat.sub_self] at h
    simp at h
    exact h.symm
  have nep : ∀ (k : Nat) u q, μ[k]? = some u → u ≠ .dead → g.th[k]? = some q → q ≠ p := by
    rintro k u q h1 h3 h2 rfl
    obtain ⟨x, y⟩ := a.obj k u q h1 h2 h3
    cases u with
    | lst xs => obtain ⟨vs, z, _⟩ := y; rw [hp] at z; cases z
    | dct tt ks ds =>
      obtain ⟨vs, _, _, z⟩ := y
      rw [hp] at z
      rcases z with ⟨_, _, z⟩ | ⟨_, _, z⟩ <;> cases z
    | dcn w kk ds => obtain ⟨vs, bs, z, _⟩ := y; rw [hp] at z; cases z
    | dcl ob u tt ks ds => obtain ⟨z, _⟩ := y; rw [hp] at z; cases z
    | dcm ob u w kk ds => obtain ⟨z, _⟩ := y; rw [hp] at z; cases z
    | ins C fs => obtain ⟨dx, fv, z, _⟩ := y; rw [hp] at z; cases z
    | dead => exact h3 rfl
  refine ⟨⟨fun b u e => ?_, by simp [a.len], fun k u q h1 h2 h3 => ?_, fun j k q lj lk h1 h2 => ?_, fun q hq => ?_, a.tab.upd (plain_none hp)⟩, ⟨fun _ _ e => e, ⟨[p], rfl, fun q hq => ?_⟩, fun b u e _ _ => ?_, fun b ps e _ => ⟨ps, by rw [upd_ne (ne_of_none e hp)]; exact e⟩, fun b φ e _ => by rw [upd_ne (ne_of_none e hp)]; exact e, fun b u e e' => ?_, fun b u e => ?_⟩, ?_⟩
  · rw [upd_ne (ne_of_none (a.sub _ _ e) hp)]
    exact a.sub _ _ e
  · rcases old k u h1 with ⟨hk, h1⟩ | ⟨rfl, rfl⟩
    · have h2 := oldθ k q hk h2
      obtain ⟨x, y⟩ := a.obj k u q h1 h2 h3
      exact ⟨x, RepO.mono (fun _ _ e => e) ix (fun _ => upd_ne (nep k u q h1 h3 h2)) y⟩
    · have e := newθ q h2
      subst e
      exact ⟨hF, r⟩
  · obtain ⟨u, hu, du⟩ := lj
    obtain ⟨w, hw, dw⟩ := lk
    rcases old j u hu with ⟨hj, hu⟩ | ⟨rfl, eu⟩
    · rcases old k w hw with ⟨hk, hw⟩ | ⟨rfl, ew⟩
      · exact a.inj j k q ⟨u, hu, du⟩ ⟨w, hw, dw⟩ (oldθ _ _ hj h1) (oldθ _ _ hk h2)
      · have e := newθ q h2
        exact absurd e (nep j u q hu du (oldθ _ _ hj h1))
    · rcases old k w hw with ⟨hk, hw⟩ | ⟨rfl, _⟩
      · have e := newθ q h1
        exact absurd e (nep k w q hw dw (oldθ _ _ hk h2))
      · rfl
  · rcases List.mem_append.mp hq with hq | hq
    · exact alloc_upd (a.al q hq)
    · have : q = p := by simpa using hq
      subst this
      exact ⟨_, upd_same⟩
  · have : q = p := by simpa using hq
    subst this
    exact hp
  · rw [upd_ne (ne_of_none e hp)]
    exact e
  · have e : g.F b = some u := e
    rw [e'] at e
    cases e
  · exact ⟨u, by rw [upd_ne (ne_of_none e hp)]; exact e⟩
  · unfold Rep
    refine ⟨p, rfl, ?_⟩
    rw [← a.len, List.getElem?_append_right (Nat.le_refl _), Nat.sub_self]
    rfl
theorem At.newCL (a : At K g μ H) {p : Addr} (hp : H p = none) {ds : List D} {vs : List V} (r : Reps K g.F g.th ds vs) :
    ∃ g', At K g' (μ ++ [.lst ds]) (upd H p (.lst vs)) ∧ Ext g H g' (upd H p (.lst vs)) ∧ Rep K g'.F g'.th (.cell μ.length) (.ref p) := by
  refine ⟨_, a.newC hp ⟨vs, upd_same, Reps.mono (fun _ _ e => e) (fun k q h => ?_) _ _ r⟩⟩
  rw [List.getElem?_append_left (List.getElem?_eq_some_iff.mp h).1]
  exact h

/-- a cell is changed -/
theorem At.setC (a : At K g μ H) {k : Nat} {p : Addr} {o o' : MO} {ho : HO} (hk : μ[k]? = some o) (hd : o ≠ .dead) (hp : g.th[k]? = some p) (r : RepO K g.F g.th (upd H p ho) p o') :
    At K g (μ.set k o') (upd H p ho) ∧ Ext g H g (upd H p ho) := by
  obtain ⟨hF, y⟩ := a.obj k o p hk hp hd
  have hlt := (List.getElem?_eq_some_iff.mp hk).1
  have nep : ∀ (j : Nat) u q, j ≠ k → μ[j]? = some u → u ≠ .dead → g.th[j]? = some q → q ≠ p := by
    rintro j u q hj h1 h3 h2 rfl
    exact hj (a.inj j k q ⟨u, h1, h3⟩ ⟨o, hk, hd⟩ h2 hp)
  have liveOld : ∀ j, Live (μ.set k o') j → Live μ j := fun j ⟨u, h, d⟩ => by
    by_cases e : k = j
    · subst e
      exact ⟨o, hk, hd⟩
    · rw [List.getElem?_set_ne e] at h
      exact ⟨u, h, d⟩
  refine ⟨⟨fun b u e => ?_, by simp [a.len], fun j u q h1 h2 h3 => ?_, fun i j q li lj h1 h2 => a.inj i j q (liveOld i li) (liveOld j lj) h1 h2, fun q hq => alloc_upd (a.al q hq), a.tab.upd (repO_plain hd y)⟩, ⟨fun _ _ e => e, ⟨[], by simp, by simp⟩, fun b u e hb _ => ?_, fun b ps e hb => ⟨ps, by rw [upd_ne (fun e2 => hb (by rw [e2]; exact List.mem_of_getElem? hp))]; exact e⟩, fun b φ e n => by rw [upd_ne (fun z => n (repO_plain hd y (.ext φ) (by rw [← z]; exact e)))]; exact e, fun b u e e' => ?_, fun b u e => ?_⟩⟩
  · rw [upd_ne (ne_of_none e hF)]
    exact a.sub _ _ e
  · by_cases e : k = j
    · subst e
      rw [List.getElem?_set_self hlt] at h1
      cases h1
      rw [hp] at h2
      cases h2
      exact ⟨hF, r⟩
    · rw [List.getElem?_set_ne e] at h1
      obtain ⟨x, z⟩ := a.obj j u q h1 h2 h3
      exact ⟨x, RepO.mono (fun _ _ e => e) (fun _ _ e => e) (fun _ => upd_ne (nep j u q (Ne.symm e) h1 h3 h2)) z⟩
  · rw [upd_ne (fun e2 => hb (by rw [e2]; exact List.mem_of_getElem? hp))]
    exact e
  · rw [e'] at e
    cases e
  · by_cases hb : b = p
    · subst hb
      exact ⟨_, upd_same⟩
    · exact ⟨u, by rw [upd_ne hb]; exact e⟩

/-- a cell is changed no more -/
theorem At.frz (a : At K g μ H) {k : Nat} {p : Addr} {o : MO} {ho : HO} (hk : μ[k]? = some o) (hd : o ≠ .dead) (hp : g.th[k]? = some p) (h : H p = some ho) :
    At K ⟨upd g.F p ho, g.th⟩ (μ.set k .dead) H ∧ Ext g H ⟨upd g.F p ho, g.th⟩ H := by
  obtain ⟨hF, y⟩ := a.obj k o p hk hp hd
  have hlt := (List.getElem?_eq_some_iff.mp hk).1
  have sub : Sub g.F (upd g.F p ho) := fun b u e => by rw [upd_ne (ne_of_none e hF)]; exact e
  have liveOld : ∀ j, Live (μ.set k .dead) j → j ≠ k ∧ Live μ j := fun j ⟨u, h, d⟩ => by
    by_cases e : k = j
    · subst e
      rw [List.getElem?_set_self hlt] at h
      cases h
      exact absurd rfl d
    · rw [List.getElem?_set_ne e] at h
      exact ⟨Ne.symm e, u, h, d⟩
  refine ⟨⟨fun b u e => ?_, by simp [a.len], fun j u q h1 h2 h3 => ?_, fun i j q li lj h1 h2 => a.inj i j q (liveOld i li).2 (liveOld j lj).2 h1 h2, a.al, a.tab.inF (plain_tbl (repO_plain hd y))⟩, ⟨sub, ⟨[], by simp, by simp⟩, fun b u e _ _ => e, fun b ps e _ => ⟨ps, e⟩, fun _ _ e _ => e, fun b u e e' => ?_, fun b u e => ⟨u, e⟩⟩⟩
  · by_cases hb : b = p
    · subst hb
      have e : upd g.F b ho b = some u := e
      rw [upd_same] at e
      cases e
      exact h
    · have e : upd g.F p ho b = some u := e
      rw [upd_ne hb] at e
      exact a.sub _ _ e
  · obtain ⟨nk, u', hu', du'⟩ := liveOld j ⟨u, h1, h3⟩
    rw [List.getElem?_set_ne (Ne.symm nk)] at h1
    obtain ⟨x, z⟩ := a.obj j u q h1 h2 h3
    have hq : q ≠ p := by
      rintro rfl
      exact nk (a.inj j k q ⟨u, h1, h3⟩ ⟨o, hk, hd⟩ h2 hp)
    exact ⟨by show upd g.F p ho q = none; rw [upd_ne hq]; exact x, RepO.mono sub (fun _ _ e => e) (fun _ => rfl) z⟩
  · by_cases hb : b = p
    · subst hb
      exact .inr (.inl (List.mem_of_getElem? hp))
    · have e : upd g.F p ho b = some u := e
      rw [upd_ne hb, e'] at e
      cases e
/-- .. and locked -/
theorem At.frzL (a : At K g μ H) {k : Nat} {p : Addr} {o : MO} {ho : HO} (hk : μ[k]? = some o) (hd : o ≠ .dead) (hp : g.th[k]? = some p) :
    At K ⟨upd g.F p ho, g.th⟩ (μ.set k .dead) (upd H p ho) ∧ Ext g H ⟨upd g.F p ho, g.th⟩ (upd H p ho) := by
  obtain ⟨hF, y⟩ := a.obj k o p hk hp hd
  have hlt := (List.getElem?_eq_some_iff.mp hk).1
  have sub : Sub g.F (upd g.F p ho) := fun b u e => by rw [upd_ne (ne_of_none e hF)]; exact e
  have liveOld : ∀ j, Live (μ.set k .dead) j → j ≠ k ∧ Live μ j := fun j ⟨u, h, d⟩ => by
    by_cases e : k = j
    · subst e
      rw [List.getElem?_set_self hlt] at h
      cases h
      exact absurd rfl d
    · rw [List.getElem?_set_ne e] at h
      exact ⟨Ne.symm e, u, h, d⟩
  refine ⟨⟨fun b u e => ?_, by simp [a.len], fun j u q h1 h2 h3 => ?_, fun i j q li lj h1 h2 => a.inj i j q (liveOld i li).2 (liveOld j lj).2 h1 h2, fun q hq => alloc_upd (a.al q hq), (a.tab.inF (o := ho) (plain_tbl (repO_plain hd y))).upd (repO_plain hd y)⟩, ⟨sub, ⟨[], by simp, by simp⟩, fun b u e hb _ => by rw [upd_ne (fun z => hb (by rw [z]; exact List.mem_of_getElem? hp))]; exact e, fun b ps e hb => ⟨ps, by rw [upd_ne (fun z => hb (by rw [z]; exact List.mem_of_getElem? hp))]; exact e⟩, fun b φ e n => by rw [upd_ne (fun z => n (repO_plain hd y (.ext φ) (by rw [← z]; exact e)))]; exact e, fun b u e e' => ?_, fun b u e => alloc_upd ⟨u, e⟩⟩⟩
  · by_cases hb : b = p
    · subst hb
      have e : upd g.F b ho b = some u := e
      rw [upd_same] at e ⊢
      exact e
    · have e : upd g.F p ho b = some u := e
      rw [upd_ne hb] at e ⊢
      exact a.sub _ _ e
  · obtain ⟨nk, u', hu', du'⟩ := liveOld j ⟨u, h1, h3⟩
    rw [List.getElem?_set_ne (Ne.symm nk)] at h1
    obtain ⟨x, z⟩ := a.obj j u q h1 h2 h3
    have hq : q ≠ p := by
      rintro rfl
      exact nk (a.inj j k q ⟨u, h1, h3⟩ ⟨o, hk, hd⟩ h2 hp)
    exact ⟨by show upd g.F p ho q = none; rw [upd_ne hq]; exact x, RepO.mono sub (fun _ _ e => e) (fun _ => upd_ne hq) z⟩
  · by_cases hb : b = p
    · subst hb
      exact .inr (.inl (List.mem_of_getElem? hp))
    · have e : upd g.F p ho b = some u := e
      rw [upd_ne hb, e'] at e
      cases e
end

/-! ### lists of data -/
theorem Reps.length {K : PySem.W.Frag} {F : Hp} {θ : List Addr} : ∀ {ds : List D} {vs : List V}, Reps K F θ ds vs → ds.length = vs.length
  | [], vs, h => by unfold Reps at h; subst h; rfl
  | d :: ds, vs, h => by
    unfold Reps at h
    obtain ⟨v, r, e, _, h⟩ := h
    subst e
    simp [Reps.length h]
theorem Reps.get {K : PySem.W.Frag} {F : Hp} {θ : List Addr} : ∀ {ds : List D} {vs : List V} {i : Nat} {d : D}, Reps K F θ ds vs → ds[i]? = some d → ∃ v, vs[i]? = some v ∧ Rep K F θ d v
  | [], vs, i, d, h, e => by simp at e
  | x :: ds, vs, 0, d, h, e => by
    unfold Reps at h
    obtain ⟨v, r, q, h1, h⟩ := h
    subst q
    simp at e
    subst e
    exact ⟨v, rfl, h1⟩
  | x :: ds, vs, i + 1, d, h, e => by
    unfold Reps at h
    obtain ⟨v, r, q, h1, h⟩ := h
    subst q
    exact Reps.get (ds := ds) (vs := r) (i := i) h (by simpa using e)
theorem Reps.nil {K : PySem.W.Frag} {F : Hp} {θ : List Addr} : Reps K F θ [] [] := by unfold Reps; rfl
theorem Reps.cons {K : PySem.W.Frag} {F : Hp} {θ : List Addr} {d : D} {v : V} {ds : List D} {vs : List V} (a : Rep K F θ d v) (b : Reps K F θ ds vs) : Reps K F θ (d :: ds) (v :: vs) := by
  unfold Reps
  exact ⟨v, vs, rfl, a, b⟩
theorem Reps.append {K : PySem.W.Frag} {F : Hp} {θ : List Addr} : ∀ {ds es : List D} {vs ws : List V}, Reps K F θ ds vs → Reps K F θ es ws → Reps K F θ (ds ++ es) (vs ++ ws)
  | [], es, vs, ws, h, h2 => by unfold Reps at h; subst h; exact h2
  | d :: ds, es, vs, ws, h, h2 => by
    unfold Reps at h
    obtain ⟨v, r, q, h1, h⟩ := h
    subst q
    exact Reps.cons h1 (Reps.append h h2)
theorem Reps.take {K : PySem.W.Frag} {F : Hp} {θ : List Addr} : ∀ {ds : List D} {vs : List V} (n : Nat), Reps K F θ ds vs → Reps K F θ (ds.take n) (vs.take n)
  | [], vs, n, h => by unfold Reps at h; subst h; simp [Reps.nil]
  | d :: ds, vs, 0, h => by simp [Reps.nil]
  | d :: ds, vs, n + 1, h => by
    unfold Reps at h
    obtain ⟨v, r, q, h1, h⟩ := h
    subst q
    exact Reps.cons h1 (Reps.take n h)
theorem Reps.drop {K : PySem.W.Frag} {F : Hp} {θ : List Addr} : ∀ {ds : List D} {vs : List V} (n : Nat), Reps K F θ ds vs → Reps K F θ (ds.drop n) (vs.drop n)
  | [], vs, n, h => by unfold Reps at h; subst h; simp [Reps.nil]
  | d :: ds, vs, 0, h => h
  | d :: ds, vs, n + 1, h => by
    unfold Reps at h
    obtain ⟨v, r, q, h1, h⟩ := h
    subst q
    exact Reps.drop n h
theorem Reps.set {K : PySem.W.Frag} {F : Hp} {θ : List Addr} {d : D} {v : V} (a : Rep K F θ d v) : ∀ {ds : List D} {vs : List V} (n : Nat), Reps K F θ ds vs → Reps K F θ (ds.set n d) (vs.set n v)
  | [], vs, n, h => by unfold Reps at h; subst h; simp [Reps.nil]
  | x :: ds, vs, 0, h => by
    unfold Reps at h
    obtain ⟨w, r, q, h1, h⟩ := h
    subst q
    exact Reps.cons a h
  | x :: ds, vs, n + 1, h => by
    unfold Reps at h
    obtain ⟨w, r, q, h1, h⟩ := h
    subst q
    exact Reps.cons h1 (Reps.set a n h)
theorem Reps.flat {K : PySem.W.Frag} {F : Hp} {θ : List Addr} {ds : List D} {vs : List V} (h : Reps K F θ ds vs) : ∀ n, Reps K F θ (List.replicate n ds).flatten (List.replicate n vs).flatten
  | 0 => by simp [Reps.nil]
  | n + 1 => by
    rw [List.replicate_succ, List.replicate_succ, List.flatten_cons, List.flatten_cons]
    exact Reps.append h (Reps.flat h n)
theorem Reps.reverse {K : PySem.W.Frag} {F : Hp} {θ : List Addr} : ∀ {ds : List D} {vs : List V}, Reps K F θ ds vs → Reps K F θ ds.reverse vs.reverse
  | [], vs, h => by unfold Reps at h; subst h; exact Reps.nil
  | d :: ds, vs, h => by
    unfold Reps at h
    obtain ⟨v, r, q, h1, h⟩ := h
    subst q
    rw [List.reverse_cons, List.reverse_cons]
    exact Reps.append (Reps.reverse h) (Reps.cons h1 Reps.nil)
end SW

end

section
set_option Elab.async false
set_option linter.all false
set_option maxRecDepth 100000
namespace SW
open PySem L2 PyProof.Rows

/-! ### operations over data -/
abbrev DOp := D → D → Mu → DQ → Prop
abbrev DUn := D → Mu → DQ → Prop
abbrev DCa := List D → Mu → DQ → Prop
abbrev DMt := D → List D → Mu → DQ → Prop
/-- what is wanted behind an operation -/
abbrev Kt (K : PySem.W.Frag) (g : Wd) (H : Hp) (Q' : DQ) (Q : VK) : Prop := ∀ g' H' μ' d v, At K g' μ' H' → Ext g H g' H' → Rep K g'.F g'.th d v → Q' d μ' → Q v H'
def LOp (K : PySem.W.Frag) (r : R2) (f : DOp) : Prop := ∀ g μ H x y a b Q' Q, At K g μ H → Rep K g.F g.th x a → Rep K g.F g.th y b → f x y μ Q' → Kt K g H Q' Q → r a b H Q
def LCa (K : PySem.W.Frag) (r : List V → Hp → VK → Prop) (f : DCa) : Prop := ∀ g μ H xs as Q' Q, At K g μ H → Reps K g.F g.th xs as → f xs μ Q' → Kt K g H Q' Q → r as H Q
def LMt (K : PySem.W.Frag) (r : V → List V → Hp → VK → Prop) (f : DMt) : Prop := ∀ g μ H x a xs as Q' Q, At K g μ H → Rep K g.F g.th x a → Reps K g.F g.th xs as → f x xs μ Q' → Kt K g H Q' Q → r a as H Q
theorem Kt.here {K : PySem.W.Frag} {g : Wd} {H : Hp} {Q' : DQ} {Q : VK} {μ : Mu} {d : D} {v : V} (k : Kt K g H Q' Q) (a : At K g μ H) (r : Rep K g.F g.th d v) (q : Q' d μ) : Q v H := k g H μ d v a (Ext.refl _ _) r q

/-! ### readings over data -/
def dVar (i : Nat) : TD := fun δ μ Q _ => ∃ d, δ[i]? = some (some d) ∧ Q d μ
def dC (d : D) : TD := fun _ μ Q _ => Q d μ
def dOp (f : DOp) (A B : TD) : TD := fun δ μ Q E => A δ μ (fun x μ1 => B δ μ1 (fun y μ2 => f x y μ2 Q) E) E
def dUn (f : DUn) (A : TD) : TD := fun δ μ Q E => A δ μ (fun x μ1 => f x μ1 Q) E
def dNil : TDA := fun _ μ Q _ => Q [] μ
def dCons (A : TD) (B : TDA) : TDA := fun δ μ Q E => A δ μ (fun x μ1 => B δ μ1 (fun xs μ2 => Q (x :: xs) μ2) E) E
def dCB (f : DCa) (A : TDA) : TD := fun δ μ Q E => A δ μ (fun xs μ1 => f xs μ1 Q) E
def dTest (A : TD) : TDT := fun δ μ Q E => A δ μ (fun x μ1 => ∃ b, x = .bl b ∧ Q b μ1) E
def dAnd (A B : TDT) : TDT := fun δ μ Q E => A δ μ (fun b μ1 => (b = true → B δ μ1 Q E) ∧ (b = false → Q false μ1)) E
def dOr (A B : TDT) : TDT := fun δ μ Q E => A δ μ (fun b μ1 => (b = true → Q true μ1) ∧ (b = false → B δ μ1 Q E)) E
def dNot (A : TDT) : TDT := fun δ μ Q E => A δ μ (fun b μ1 => Q (!b) μ1) E
def dAndV (A B : TD) : TD := fun δ μ Q E => A δ μ (fun x μ1 => ∃ b, x = .bl b ∧ (b = true → B δ μ1 Q E) ∧ (b = false → Q (.bl false) μ1)) E
def dOrV (A B : TD) : TD := fun δ μ Q E => A δ μ (fun x μ1 => ∃ b, x = .bl b ∧ (b = true → Q (.bl true) μ1) ∧ (b = false → B δ μ1 Q E)) E
def dNotV (A : TD) : TD := fun δ μ Q E => A δ μ (fun x μ1 => ∃ b, x = .bl b ∧ Q (.bl (!b)) μ1) E
def dIf (T : TDT) (A B : TD) : TD := fun δ μ Q E => T δ μ (fun b μ1 => (b = true → A δ μ1 Q E) ∧ (b = false → B δ μ1 Q E)) E
def dChain (f f' : DOp) (A B C : TD) : TD := fun δ μ Q E => A δ μ (fun x μ1 => B δ μ1 (fun y μ2 => f x y μ2 (fun z μ3 => ∃ b, z = .bl b ∧ (b = true → C δ μ3 (fun w μ4 => f' y w μ4 Q) E) ∧ (b = false → Q (.bl false) μ3))) E) E
/-- displays: new objects that no one changes, or a cell -/
def dTup (A : TDA) : TD := fun δ μ Q E => A δ μ (fun xs μ1 => xs.length ≤ sizeLine ∧ Q (.tup xs) μ1) E
def dLst (A : TDA) : TD := fun δ μ Q E => A δ μ (fun xs μ1 => xs.length ≤ sizeLine ∧ Q (.lst xs) μ1) E
def dLstC (A : TDA) : TD := fun δ μ Q E => A δ μ (fun xs μ1 => xs.length ≤ sizeLine ∧ Q (.cell μ1.length) (μ1 ++ [.lst xs])) E
/-- a cell is changed no more -/
def dFrz (A : TD) : TD := fun δ μ Q E => A δ μ (fun x μ1 => ∃ k, x = .cell k ∧ ((∃ xs, μ1[k]? = some (.lst xs) ∧ Q (.lst xs) (μ1.set k .dead)) ∨ (∃ tt ks vs, μ1[k]? = some (.dct tt ks vs) ∧ Q (.dct tt ks vs) (μ1.set k .dead)))) E

section
variable {X : Cx} {W : WX} {a b c e : Expr} {es : List Expr} {A B C : TD} {TA' : TDA} {S T : TDT} {pos : Pos}

theorem up_op {K : PySem.W.Frag} {r : R2} {f : DOp} (l : LOp K r f) : ∀ σ H Q, up K W (dOp f A B) σ H Q → tOp r (up K W A) (up K W B) σ H Q := by
  rintro σ H Q ⟨g, μ, δ, Q', E', at0, sl, h, k, kx⟩
  refine ⟨g, μ, δ, _, E', at0, sl, h, fun g1 H1 μ1 x v a1 e1 r1 q1 => ?_, kx⟩
  refine ⟨g1, μ1, δ, _, E', a1, sl.ext e1, q1, fun g2 H2 μ2 y w a2 e2 r2 q2 => ?_, fun g2 H2 μ2 C δ2 a2 e2 s2 q2 => kx g2 H2 μ2 C δ2 a2 (e1.trans e2) s2 q2⟩
  exact l g2 μ2 H2 x y v w Q' Q a2 (r1.ext e2) r2 q2 fun g3 H3 μ3 d u a3 e3 r3 q3 => k g3 H3 μ3 d u a3 (e1.trans (e2.trans e3)) r3 q3
theorem up_cb {K : PySem.W.Frag} {r : List V → Hp → VK → Prop} {f : DCa} (l : LCa K r f) : ∀ σ H Q, up K W (dCB f TA') σ H Q → tCB r (upA K W TA') σ H Q := by
  rintro σ H Q ⟨g, μ, δ, Q', E', at0, sl, h, k, kx⟩
  refine ⟨g, μ, δ, _, E', at0, sl, h, fun g1 H1 μ1 x v a1 e1 r1 q1 => ?_, kx⟩
  exact l g1 μ1 H1 x v Q' Q a1 r1 q1 fun g3 H3 μ3 d u a3 e3 r3 q3 => k g3 H3 μ3 d u a3 (e1.trans e3) r3 q3
end
/-- the judgements -/
abbrev WX0 (X : Cx) (W : WX) (e : Expr) (A : TD) : Prop := PE X e (up X.K W A)
abbrev WT (X : Cx) (W : WX) (e : Expr) (A : TDT) : Prop := PT X e (upT X.K W A)
abbrev WA (X : Cx) (W : WX) (es : List Expr) (A : TDA) : Prop := PA X es (upA X.K W A)
structure BinD (X : Cx) (op : Operator) (f : DOp) : Prop where
  ex : ∃ r, OpR X (binaryOp op) r ∧ LOp X.K r f
structure CmpD (X : Cx) (op : CmpOp) (f : DOp) : Prop where
  ex : ∃ r, OpR X (compareOp op) r ∧ LOp X.K r f
structure CalD (X : Cx) (v : Value) (f : DCa) : Prop where
  ex : ∃ r, CallR X v r ∧ LCa X.K r f
section
variable {X : Cx} {W : WX} {a b c e : Expr} {es : List Expr} {A B C : TD} {TA' : TDA} {S T : TDT} {pos : Pos}
theorem we_bin {op : Operator} {f : DOp} (o : BinD X op f) (ha : WX0 X W a A) (hb : WX0 X W b B) : WX0 X W (.BinOp a op b pos) (dOp f A B) := by
  obtain ⟨r, h1, h2⟩ := o.ex
  exact PE.imp (pe_op h1 ha hb) (up_op h2)
theorem we_cmp {op : CmpOp} {f : DOp} (o : CmpD X op f) (ha : WX0 X W a A) (hb : WX0 X W b B) (hm : behindInMarks op b = false := by first | exact nobehind _ (by decide) (by decide) | rfl) : WX0 X W (.Compare a [op] [b] pos) (dOp f A B) := by
  obtain ⟨r, h1, h2⟩ := o.ex
  exact PE.imp (pe_cmpR h1 ha hb hm) (up_op h2)
theorem we_var (i : Nat) {x : Str} (hN : X.N[i]? = some x := by rfl) (hv : Vis X.env.scope x := by first | exact Or.inl rfl | exact Or.inr (Or.inl rfl) | exact Or.inr (Or.inr rfl)) (hd : (x == ("__debug__" : Str)) = false := by decide)
    (hcd : (x == ("__classdict__" : Str)) = false := by decide) : WX0 X W (.Name x pos) (dVar i) := by
  refine PE.imp (pe_var hN hv hd hcd) ?_
  rintro σ H Q ⟨g, μ, δ, Q', E', at0, sl, ⟨d, hd, h⟩, k, kx⟩
  obtain ⟨v, hv, r⟩ := sl.get i d hd
  exact ⟨v, hv, k g H μ d v at0 (Ext.refl _ _) r h⟩
theorem up_c {K : PySem.W.Frag} {d : D} {v : V} (r : ∀ F θ, Rep K F θ d v) : ∀ σ H Q, up K W (dC d) σ H Q → tC v σ H Q := by
  rintro σ H Q ⟨g, μ, δ, Q', E', at0, sl, h, k, kx⟩
  exact k g H μ d v at0 (Ext.refl _ _) (r _ _) h
theorem we_int {i j} : WX0 X W (.Constant (.int i) j pos) (dC (.int i)) := PE.imp pe_int (up_c fun _ _ => by unfold Rep; rfl)
theorem we_bl {b j} : WX0 X W (.Constant (.bool b) j pos) (dC (.bl b)) := PE.imp pe_bl (up_c fun _ _ => by unfold Rep; rfl)
theorem we_non {j} : WX0 X W (.Constant .none j pos) (dC .non) := PE.imp pe_non (up_c fun _ _ => by unfold Rep; rfl)
theorem mkS_of (x : Str) : mkS x.cps.toList = x := by cases x; rfl
theorem we_str {x : Str} {j} : WX0 X W (.Constant (.str x) j pos) (dC (.str x.cps.toList)) := PE.imp pe_str (up_c fun _ _ => by unfold Rep; rw [mkS_of])
/-- a constant of the module -/
theorem we_globI {x : Str} {i : Int} (hg : Gl X x) (hm : ∃ t, X.mg x = some (.int i t)) (hd : (x == ("__debug__" : Str)) = false := by decide) : WX0 X W (.Name x pos) (dC (.int i)) := let ⟨t, hm⟩ := hm; PE.imp (pe_glob (v := .int i) hg hm ⟨_, rfl⟩ hd) (up_c fun _ _ => by unfold Rep; rfl)
theorem we_globS {x y : Str} (hg : Gl X x) (hm : ∃ t, X.mg x = some (.str y t)) (hd : (x == ("__debug__" : Str)) = false := by decide) : WX0 X W (.Name x pos) (dC (.str y.cps.toList)) := let ⟨t, hm⟩ := hm; PE.imp (pe_glob (v := .str y) hg hm ⟨_, rfl⟩ hd) (up_c fun _ _ => by unfold Rep; rw [mkS_of])
/-! #### truth -/
theorem wt_val (h : WX0 X W e A) (he : ∀ whole, isTrue e X.env whole = (do let v ← whole; standAt e.pos; holding [v] (truthy v)) := by intro _; rfl) : WT X W e (dTest A) := by
  refine PT.imp (pt_val h he) ?_
  rintro σ H Q ⟨g, μ, δ, Q', E', at0, sl, h, k, kx⟩
  refine ⟨g, μ, δ, _, E', at0, sl, h, fun g1 H1 μ1 x v a1 e1 r1 ⟨b, hb, q1⟩ => ?_, kx⟩
  subst hb
  unfold Rep at r1
  exact ⟨b, r1, k g1 H1 μ1 b a1 e1 q1⟩
/-- comparisons as tests -/
theorem wt_cmp {op : CmpOp} {f : DOp} (o : CmpD X op f) (ha : WX0 X W a A) (hb : WX0 X W b B) (hm : behindInMarks op b = false := by first | exact nobehind _ (by decide) (by decide) | rfl) : WT X W (.Compare a [op] [b] pos) (dTest (dOp f A B)) := by
  obtain ⟨r, h1, h2⟩ := o.ex
  refine PT.imp (pt_cmpR h1 ha hb hm) ?_
  rintro σ H Q ⟨g, μ, δ, Q', E', at0, sl, h, k, kx⟩
  refine up_op (W := W) h2 σ H _ ⟨g, μ, δ, _, E', at0, sl, h, fun g1 H1 μ1 x v a1 e1 r1 ⟨b, hb, q1⟩ => ?_, kx⟩
  subst hb
  unfold Rep at r1
  exact ⟨b, r1, k g1 H1 μ1 b a1 e1 q1⟩
abbrev WW (X : Cx) (W : WX) (e : Expr) (A : TDT) : Prop := PW X e (upT X.K W A)
theorem ww_and1 (h : WT X W a S) : WW X W (.BoolOp .And [a] pos) S := pw_and1 h
theorem ww_or1 (h : WT X W a S) : WW X W (.BoolOp .Or [a] pos) S := pw_or1 h
theorem ww_and {rest : List Expr} (ha : WT X W a S) (hb : WW X W (.BoolOp .And (b :: rest) pos) T) : WW X W (.BoolOp .And (a :: b :: rest) pos) (dAnd S T) := by
  refine PW.imp (pw_and ha hb) ?_
  rintro σ H Q ⟨g, μ, δ, Q', E', at0, sl, h, k, kx⟩
  refine ⟨g, μ, δ, _, E', at0, sl, h, fun g1 H1 μ1 b a1 e1 q1 => ?_, kx⟩
  cases b with
  | true =>
    rw [if_pos rfl]
    exact ⟨g1, μ1, δ, Q', E', a1, sl.ext e1, q1.1 rfl, fun g2 H2 μ2 b a2 e2 q2 => k g2 H2 μ2 b a2 (e1.trans e2) q2, fun g2 H2 μ2 C δ2 a2 e2 s2 q2 => kx g2 H2 μ2 C δ2 a2 (e1.trans e2) s2 q2⟩
  | false =>
    rw [if_neg Bool.false_ne_true]
    exact k g1 H1 μ1 false a1 e1 (q1.2 rfl)
theorem ww_or {rest : List Expr} (ha : WT X W a S) (hb : WW X W (.BoolOp .Or (b :: rest) pos) T) : WW X W (.BoolOp .Or (a :: b :: rest) pos) (dOr S T) := by
  refine PW.imp (pw_or ha hb) ?_
  rintro σ H Q ⟨g, μ, δ, Q', E', at0, sl, h, k, kx⟩
  refine ⟨g, μ, δ, _, E', at0, sl, h, fun g1 H1 μ1 b a1 e1 q1 => ?_, kx⟩
  cases b with
  | false =>
    rw [if_neg Bool.false_ne_true]
    exact ⟨g1, μ1, δ, Q', E', a1, sl.ext e1, q1.2 rfl, fun g2 H2 μ2 b a2 e2 q2 => k g2 H2 μ2 b a2 (e1.trans e2) q2, fun g2 H2 μ2 C δ2 a2 e2 s2 q2 => kx g2 H2 μ2 C δ2 a2 (e1.trans e2) s2 q2⟩
  | true =>
    rw [if_pos rfl]
    exact k g1 H1 μ1 true a1 e1 (q1.1 rfl)
theorem wt_bool (h : WW X W e S) : WT X W e S := h.pt
theorem wt_not (ha : WT X W a S) : WT X W (.UnaryOp .Not a pos) (dNot S) := by
  refine PT.imp (pt_not ha) ?_
  rintro σ H Q ⟨g, μ, δ, Q', E', at0, sl, h, k, kx⟩
  exact ⟨g, μ, δ, _, E', at0, sl, h, fun g1 H1 μ1 b a1 e1 q1 => k g1 H1 μ1 (!b) a1 e1 q1, kx⟩
theorem we_and1 {op} (h : WX0 X W a A) : WX0 X W (.BoolOp op [a] pos) A := pe_one h
theorem rep_bl {K : PySem.W.Frag} {F : Hp} {θ : List Addr} {b : Bool} : Rep K F θ (.bl b) (.bl b) := by unfold Rep; rfl
theorem we_and {rest : List Expr} (ha : WX0 X W a A) (hb : WX0 X W (.BoolOp .And (b :: rest) pos) B) : WX0 X W (.BoolOp .And (a :: b :: rest) pos) (dAndV A B) := by
  refine PE.imp (pe_and ha hb) ?_
  rintro σ H Q ⟨g, μ, δ, Q', E', at0, sl, h, k, kx⟩
  refine ⟨g, μ, δ, _, E', at0, sl, h, fun g1 H1 μ1 x v a1 e1 r1 ⟨b, hb, q1⟩ => ?_, kx⟩
  subst hb
  unfold Rep at r1
  refine ⟨b, r1, ?_⟩
  cases b with
  | true =>
    rw [if_pos rfl]
    exact ⟨g1, μ1, δ, Q', E', a1, sl.ext e1, q1.1 rfl, fun g2 H2 μ2 d v a2 e2 r2 q2 => k g2 H2 μ2 d v a2 (e1.trans e2) r2 q2, fun g2 H2 μ2 C δ2 a2 e2 s2 q2 => kx g2 H2 μ2 C δ2 a2 (e1.trans e2) s2 q2⟩
  | false =>
    rw [if_neg Bool.false_ne_true]
    exact k g1 H1 μ1 _ _ a1 e1 rep_bl (q1.2 rfl)
theorem we_not (ha : WX0 X W a A) : WX0 X W (.UnaryOp .Not a pos) (dNotV A) := by
  refine PE.imp (pe_not ha) ?_
  rintro σ H Q ⟨g, μ, δ, Q', E', at0, sl, h, k, kx⟩
  refine ⟨g, μ, δ, _, E', at0, sl, h, fun g1 H1 μ1 x v a1 e1 r1 ⟨b, hb, q1⟩ => ?_, kx⟩
  subst hb
  unfold Rep at r1
  exact ⟨b, r1, k g1 H1 μ1 _ _ a1 e1 rep_bl q1⟩
theorem we_if {t : Expr} (ht : WT X W t S) (ha : WX0 X W a A) (hb : WX0 X W b B) : WX0 X W (.IfExp t a b pos) (dIf S A B) := by
  refine PE.imp (pe_ifExp ht ha hb) ?_
  rintro σ H Q ⟨g, μ, δ, Q', E', at0, sl, h, k, kx⟩
  refine ⟨g, μ, δ, _, E', at0, sl, h, fun g1 H1 μ1 b a1 e1 q1 => ?_, kx⟩
  cases b with
  | true =>
    rw [if_pos rfl]
    exact ⟨g1, μ1, δ, Q', E', a1, sl.ext e1, q1.1 rfl, fun g2 H2 μ2 d v a2 e2 r2 q2 => k g2 H2 μ2 d v a2 (e1.trans e2) r2 q2, fun g2 H2 μ2 C δ2 a2 e2 s2 q2 => kx g2 H2 μ2 C δ2 a2 (e1.trans e2) s2 q2⟩
  | false =>
    rw [if_neg Bool.false_ne_true]
    exact ⟨g1, μ1, δ, Q', E', a1, sl.ext e1, q1.2 rfl, fun g2 H2 μ2 d v a2 e2 r2 q2 => k g2 H2 μ2 d v a2 (e1.trans e2) r2 q2, fun g2 H2 μ2 C δ2 a2 e2 s2 q2 => kx g2 H2 μ2 C δ2 a2 (e1.trans e2) s2 q2⟩
def nonD : D → Option Bool
  | .non => some true
  | .val _ => none
  | _ => some false
theorem rep_isnon {K : PySem.W.Frag} {F : Hp} {θ : List Addr} {x : D} {v : V} {b : Bool} (hx : nonD x = some b) (r : Rep K F θ x v) : decide (v = .non) = b := by
  cases x <;> unfold Rep at r <;> simp only [nonD, Option.some.injEq] at hx
  case non => subst r; subst hx; rfl
  case bl => subst r; subst hx; rfl
  case int => subst r; subst hx; rfl
  case str => subst r; subst hx; rfl
  case tup => obtain ⟨p, vs, e, _⟩ := r; subst e; subst hx; rfl
  case lst => obtain ⟨p, vs, e, _⟩ := r; subst e; subst hx; rfl
  case dct => obtain ⟨p, vs, e, _⟩ := r; subst e; subst hx; rfl
  case dcn => obtain ⟨p, vs, bs, e, _⟩ := r; subst e; subst hx; rfl
  case cell => obtain ⟨p, e, _⟩ := r; subst e; subst hx; rfl
  case scr => obtain ⟨p, vs, e, _⟩ := r; subst e; subst hx; rfl
  case val u => cases hx
  case exc => obtain ⟨p, e, _⟩ := r; subst e; subst hx; rfl
def dIsN (A : TD) : TD := fun δ μ Q E => A δ μ (fun x μ1 => ∃ b, nonD x = some b ∧ Q (.bl b) μ1) E
def dNotN (A : TD) : TD := fun δ μ Q E => A δ μ (fun x μ1 => ∃ b, nonD x = some b ∧ Q (.bl (!b)) μ1) E
/-! #### arguments, displays -/
theorem wa_nil : WA X W [] dNil := by
  refine PA.imp pa_nil ?_
  rintro σ H Q ⟨g, μ, δ, Q', E', at0, sl, h, k, kx⟩
  exact k g H μ [] [] at0 (Ext.refl _ _) Reps.nil h
theorem wa_cons (ha : WX0 X W e A) (hr : WA X W es TA') (hs : starEach (e :: es) X.env = (false, eval e X.env) :: starEach es X.env := by rfl) : WA X W (e :: es) (dCons A TA') := by
  refine PA.imp (pa_cons ha hr hs) ?_
  rintro σ H Q ⟨g, μ, δ, Q', E', at0, sl, h, k, kx⟩
  refine ⟨g, μ, δ, _, E', at0, sl, h, fun g1 H1 μ1 x v a1 e1 r1 q1 => ?_, kx⟩
  exact ⟨g1, μ1, δ, _, E', a1, sl.ext e1, q1, fun g2 H2 μ2 ds vs a2 e2 r2 q2 => k g2 H2 μ2 _ _ a2 (e1.trans e2) (Reps.cons (r1.ext e2) r2) q2, fun g2 H2 μ2 C δ2 a2 e2 s2 q2 => kx g2 H2 μ2 C δ2 a2 (e1.trans e2) s2 q2⟩
theorem we_tup {x1} (h : WA X W es TA') : WX0 X W (.Tuple es x1 pos) (dTup TA') := by
  refine PE.imp (pe_tup h) ?_
  rintro σ H Q ⟨g, μ, δ, Q', E', at0, sl, h, k, kx⟩
  refine ⟨g, μ, δ, _, E', at0, sl, h, fun g1 H1 μ1 x v a1 e1 r1 ⟨hl, q1⟩ => ⟨by rw [← r1.length]; exact hl, fun p hp => ?_⟩, kx⟩
  obtain ⟨g2, a2, e2, r2⟩ := a1.newTup hp r1
  exact k g2 _ μ1 _ _ a2 (e1.trans e2) r2 q1
theorem we_lst (h : WA X W es TA') : WX0 X W (.List es pos) (dLst TA') := by
  refine PE.imp (pe_lst h) ?_
  rintro σ H Q ⟨g, μ, δ, Q', E', at0, sl, h, k, kx⟩
  refine ⟨g, μ, δ, _, E', at0, sl, h, fun g1 H1 μ1 x v a1 e1 r1 ⟨hl, q1⟩ => ⟨by rw [← r1.length]; exact hl, fun p hp => ?_⟩, kx⟩
  obtain ⟨g2, a2, e2, r2⟩ := a1.newLst hp r1
  exact k g2 _ μ1 _ _ a2 (e1.trans e2) r2 q1
theorem we_lstC (h : WA X W es TA') : WX0 X W (.List es pos) (dLstC TA') := by
  refine PE.imp (pe_lst h) ?_
  rintro σ H Q ⟨g, μ, δ, Q', E', at0, sl, h, k, kx⟩
  refine ⟨g, μ, δ, _, E', at0, sl, h, fun g1 H1 μ1 x v a1 e1 r1 ⟨hl, q1⟩ => ⟨by rw [← r1.length]; exact hl, fun p hp => ?_⟩, kx⟩
  obtain ⟨g2, a2, e2, r2⟩ := a1.newCL hp r1
  exact k g2 _ _ _ _ a2 (e1.trans e2) r2 q1
theorem pe_gl {t : TE} (h : PE X e t) : PE X e (fun σ H Q => t σ H fun v H1 => Q v H1 ∨ ∃ d u, H1 d = some u ∧ Mut (some u) ∧ ∀ od, Q v (upd H1 d (.frz od u))) := by
  refine ⟨fun pins s σ H Q I q => thn (h.run pins s σ H _ I q) fun v s1 z => ?_⟩
  obtain ⟨x, H1, I1, r, q⟩ := z
  rcases q with q | ⟨d, u, hd, mu, q⟩
  · exact ⟨x, H1, I1, r, q⟩
  · obtain ⟨od, I2⟩ := I1.lock hd mu
    exact ⟨x, _, I2, r, q od⟩
theorem frz_dct {g1 : Wd} {μ1 : Mu} {H1 : Hp} {n : Nat} {v : V} {tt : Bool} {ks vs : List D} (a1 : At X.K g1 μ1 H1) (hx : μ1[n]? = some (.dct tt ks vs)) (r1 : Rep X.K g1.F g1.th (.cell n) v) :
    ∃ d u, H1 d = some u ∧ Mut (some u) ∧ ∀ od, ∃ g2, At X.K g2 (μ1.set n .dead) (upd H1 d (.frz od u)) ∧ Ext g1 H1 g2 (upd H1 d (.frz od u)) ∧ Rep X.K g2.F g2.th (.dct tt ks vs) v := by
  obtain ⟨p, ev, hp, hF, ws, rw', hl, hH⟩ := a1.cellAt hx (by simp) r1
  subst ev
  rcases hH with ⟨kk, ek, hH⟩ | ⟨kk, ek, hH⟩
  · refine ⟨p, _, hH, trivial, fun od => ?_⟩
    obtain ⟨a2, e2⟩ := a1.frzL (ho := .frz od (.dK (kk.zip ws))) hx (by simp) hp
    refine ⟨_, a2, e2, ?_⟩
    unfold Rep
    exact ⟨p, ws, rfl, rw'.ext e2, hl, .inl ⟨kk, ek, od, upd_same⟩⟩
  · refine ⟨p, _, hH, trivial, fun od => ?_⟩
    obtain ⟨a2, e2⟩ := a1.frzL (ho := .frz od (.dT (kk.zip ws))) hx (by simp) hp
    refine ⟨_, a2, e2, ?_⟩
    unfold Rep
    exact ⟨p, ws, rfl, rw'.ext e2, hl, .inr ⟨kk, ek, od, upd_same⟩⟩
theorem we_frz (h : WX0 X W e A) : WX0 X W e (dFrz A) := by
  refine PE.imp (pe_gl h) ?_
  rintro σ H Q ⟨g, μ, δ, Q', E', at0, sl, h, k, kx⟩
  refine ⟨g, μ, δ, _, E', at0, sl, h, fun g1 H1 μ1 x v a1 e1 r1 ⟨n, hn, q1⟩ => ?_, kx⟩
  subst hn
  rcases q1 with ⟨xs, hx, q1⟩ | ⟨tt, ks, vs, hx, q1⟩
  · obtain ⟨p, ev, hp, hF, ws, hH, rw'⟩ := a1.cellAt hx (by simp) r1
    subst ev
    obtain ⟨a2, e2⟩ := a1.frz hx (by simp) hp hH
    refine .inl (k _ _ _ _ _ a2 (e1.trans e2) ?_ q1)
    unfold Rep
    exact ⟨p, ws, rfl, upd_same, rw'.ext e2⟩
  · obtain ⟨d, u, hd, mu, z⟩ := frz_dct a1 hx r1
    refine .inr ⟨d, u, hd, mu, fun od => ?_⟩
    obtain ⟨g2, a2, e2, r2⟩ := z od
    exact k _ _ _ _ _ a2 (e1.trans e2) r2 q1
theorem we_callB {x : Str} {p : Pos} {id : String} {f : DCa} (c : CalD X (.builtin id) f) (hg : Gl X x) (hm : X.mg x = none) (hv : bootBuiltins x = some (.builtin id)) (ha : WA X W (e :: es) TA') (hn : x ≠ "__name__" := by decide) (hdb : (x == ("__debug__" : Str)) = false := by decide)
    (he : starEach (e :: es) X.env = (false, eval e X.env) :: starEach es X.env := by rfl) (hpl : (backTo pos (starEach es X.env)).any (·.1) = false := by rfl) : WX0 X W (.Call (.Name x p) (e :: es) [] pos) (dCB f TA') := by
  obtain ⟨r, h1, h2⟩ := c.ex
  exact PE.imp (pe_callB h1 hg hm hv ha hn hdb he hpl) (up_cb h2)
theorem we_callTy {x : Str} {p : Pos} {T : String} {f : DCa} (c : CalD X (.type T) f) (hg : Gl X x) (hm : X.mg x = none) (hv : bootBuiltins x = some (.type T)) (ha : WA X W (e :: es) TA') (hn : x ≠ "__name__" := by decide) (hdb : (x == ("__debug__" : Str)) = false := by decide)
    (he : starEach (e :: es) X.env = (false, eval e X.env) :: starEach es X.env := by rfl) (hpl : (backTo pos (starEach es X.env)).any (·.1) = false := by rfl) : WX0 X W (.Call (.Name x p) (e :: es) [] pos) (dCB f TA') := by
  obtain ⟨r, h1, h2⟩ := c.ex
  exact PE.imp (pe_callTy h1 hg hm hv ha hn hdb he hpl) (up_cb h2)
theorem we_chain {op op' : CmpOp} {f f' : DOp} (o : CmpD X op f) (o' : CmpD X op' f') (ha : WX0 X W a A) (hb : WX0 X W b B) (hc : WX0 X W c C) (hm : lastMarks [op, op'] [b, c] = false := by with_unfolding_all rfl) : WX0 X W (.Compare a [op, op'] [b, c] pos) (dChain f f' A B C) := by
  obtain ⟨r, h1, h2⟩ := o.ex
  obtain ⟨r', h1', h2'⟩ := o'.ex
  refine PE.imp (pe_chain h1 h1' ha hb hc hm) ?_
  rintro σ H Q ⟨g, μ, δ, Q', E', at0, sl, h, k, kx⟩
  refine ⟨g, μ, δ, _, E', at0, sl, h, fun g1 H1 μ1 x v a1 e1 r1 q1 => ?_, kx⟩
  refine ⟨g1, μ1, δ, _, E', a1, sl.ext e1, q1, fun g2 H2 μ2 y w a2 e2 r2 q2 => ?_, fun g2 H2 μ2 C δ2 a2 e2 s2 q2 => kx g2 H2 μ2 C δ2 a2 (e1.trans e2) s2 q2⟩
  refine h2 g2 μ2 H2 x y v w _ _ a2 (r1.ext e2) r2 q2 fun g3 H3 μ3 d u a3 e3 r3 ⟨b, hb, q3⟩ => ?_
  subst hb
  unfold Rep at r3
  refine ⟨b, r3, ?_⟩
  cases b with
  | true =>
    rw [if_pos rfl]
    refine ⟨g3, μ3, δ, _, E', a3, sl.ext (e1.trans (e2.trans e3)), q3.1 rfl, fun g4 H4 μ4 z t a4 e4 r4 q4 => ?_, fun g4 H4 μ4 C δ4 a4 e4 s4 q4 => kx g4 H4 μ4 C δ4 a4 (e1.trans (e2.trans (e3.trans e4))) s4 q4⟩
    exact h2' g4 μ4 H4 y z w t Q' Q a4 (r2.ext (e3.trans e4)) r4 q4 fun g5 H5 μ5 d u a5 e5 r5 q5 => k g5 H5 μ5 d u a5 (e1.trans (e2.trans (e3.trans (e4.trans e5)))) r5 q5
  | false =>
    rw [if_neg Bool.false_ne_true]
    exact k g3 H3 μ3 _ _ a3 (e1.trans (e2.trans e3)) rep_bl (q3.2 rfl)
end
end SW

end

section
set_option Elab.async false
set_option linter.all false
set_option maxRecDepth 100000
namespace SW
open PySem L2 PyProof.Rows

/-! ### statements -/
abbrev WS (X : Cx) (W : WX) (st : Stmt) (A : TDS) : Prop := PS X st (upS X.K W A)
abbrev WSs (X : Cx) (W : WX) (st : List Stmt) (A : TDS) : Prop := PSs X st (upS X.K W A)
def dNext : TDS := fun D δ μ => D.nx δ μ
def dSeq (A B : TDS) : TDS := fun D δ μ => A { D with nx := fun δ' μ' => B D δ' μ' } δ μ
def dDrop (A : TD) : TDS := fun D δ μ => A δ μ (fun _ μ1 => D.nx δ μ1) D.ex
def dRet (A : TD) : TDS := fun D δ μ => A δ μ D.rt D.ex
def dRetN : TDS := fun D _ μ => D.rt .non μ
def dBrk : TDS := fun D δ μ => D.bk δ μ
def dCnt : TDS := fun D δ μ => D.ct δ μ
def dIfS (T : TDT) (A B : TDS) : TDS := fun D δ μ => T δ μ (fun b μ1 => (b = true → A D δ μ1) ∧ (b = false → B D δ μ1)) D.ex

section
variable {X : Cx} {W : WX} {e : Expr} {st : Stmt} {rest : List Stmt} {A B : TDS} {E1 : TD} {T : TDT} {pos : Pos}
theorem ws_nil : WSs X W [] dNext := by
  refine PSs.imp pss_nil ?_
  rintro D σ H ⟨g, μ, δ, D', a0, sl, h, k1, k2, k3, k4, k5⟩
  exact k1 g H μ δ σ a0 (Ext.refl _ _) sl h
theorem ws_cons (h1 : WS X W st A) (h2 : WSs X W rest B) : WSs X W (st :: rest) (dSeq A B) := by
  refine PSs.imp (pss_cons h1 h2) ?_
  rintro D σ H ⟨g, μ, δ, D', a0, sl, h, k1, k2, k3, k4, k5⟩
  refine ⟨g, μ, δ, _, a0, sl, h, fun g1 H1 μ1 δ1 σ1 a1 e1 s1 q => ?_, k2, k3, k4, k5⟩
  exact ⟨g1, μ1, δ1, D', a1, s1, q, fun g' H' μ' δ' σ' a e s q => k1 g' H' μ' δ' σ' a (e1.trans e) s q, fun g' H' μ' d v a e r q => k2 g' H' μ' d v a (e1.trans e) r q, fun g' H' μ' δ' σ' a e s q => k3 g' H' μ' δ' σ' a (e1.trans e) s q,
    fun g' H' μ' δ' σ' a e s q => k4 g' H' μ' δ' σ' a (e1.trans e) s q, fun g' H' μ' C δ' σ' a e s q => k5 g' H' μ' C δ' σ' a (e1.trans e) s q⟩
theorem ws_one (h1 : WS X W st A) : WSs X W [st] A := pss_one h1
theorem ws_drop (he : WX0 X W e E1) (hs : swapsWith e none pos.line X.env = pure false := by rfl) : WS X W (.Expr e pos) (dDrop E1) := by
  refine PS.imp (ps_expr he hs) ?_
  rintro D σ H ⟨g, μ, δ, D', a0, sl, h, k1, k2, k3, k4, k5⟩
  exact ⟨g, μ, δ, _, _, a0, sl, h, fun g1 H1 μ1 d v a1 e1 r1 q => k1 g1 H1 μ1 δ σ a1 e1 (sl.ext e1) q, fun g1 H1 μ1 C δ' a1 e1 s1 q => k5 g1 H1 μ1 C δ' σ a1 e1 s1 q⟩
theorem ws_ret (he : WX0 X W e E1) : WS X W (.Return (some e) pos) (dRet E1) := by
  refine PS.imp (ps_ret he) ?_
  rintro D σ H ⟨g, μ, δ, D', a0, sl, h, k1, k2, k3, k4, k5⟩
  exact ⟨g, μ, δ, _, _, a0, sl, h, fun g1 H1 μ1 d v a1 e1 r1 q => k2 g1 H1 μ1 d v a1 e1 r1 q, fun g1 H1 μ1 C δ' a1 e1 s1 q => k5 g1 H1 μ1 C δ' σ a1 e1 s1 q⟩
theorem ws_if {c : Expr} {xs ys : List Stmt} (hc : WT X W c T) (ha : WSs X W xs A) (hb : WSs X W ys B) : WS X W (.If c xs ys pos) (dIfS T A B) := by
  refine PS.imp (ps_if hc ha hb) ?_
  rintro D σ H ⟨g, μ, δ, D', a0, sl, h, k1, k2, k3, k4, k5⟩
  refine ⟨g, μ, δ, _, _, a0, sl, h, fun g1 H1 μ1 b a1 e1 q => ?_, fun g1 H1 μ1 C δ' a1 e1 s1 q => k5 g1 H1 μ1 C δ' σ a1 e1 s1 q⟩
  have go : ∀ A : TDS, A D' δ μ1 → upS X.K W A D σ H1 := fun A q =>
    ⟨g1, μ1, δ, D', a1, sl.ext e1, q, fun g' H' μ' δ' σ' a e s q => k1 g' H' μ' δ' σ' a (e1.trans e) s q, fun g' H' μ' d v a e r q => k2 g' H' μ' d v a (e1.trans e) r q, fun g' H' μ' δ' σ' a e s q => k3 g' H' μ' δ' σ' a (e1.trans e) s q,
      fun g' H' μ' δ' σ' a e s q => k4 g' H' μ' δ' σ' a (e1.trans e) s q, fun g' H' μ' C δ' σ' a e s q => k5 g' H' μ' C δ' σ' a (e1.trans e) s q⟩
  cases b with
  | true => refine iteT ?_; exact go A (q.1 rfl)
  | false => refine iteF ?_; exact go B (q.2 rfl)
end

/-! ### targets -/
abbrev TGD := D → DS → Mu → (DS → Mu → Prop) → Prop
abbrev TGDs := List D → DS → Mu → (DS → Mu → Prop) → Prop
def upG (K : PySem.W.Frag) (is : List Nat) (A : TGD) : TG := fun v σ H Q => ∃ (g : Wd) (μ : Mu) (δ : DS) (d : D) (Q' : DS → Mu → Prop), At K g μ H ∧ Sl K g σ δ ∧ Rep K g.F g.th d v ∧ A d δ μ Q' ∧
  ∀ g' H' μ' δ' σ', At K g' μ' H' → Ext g H g' H' → Sl K g' σ' δ' → (∀ vs : List Nat, (∀ i ∈ is, i ∈ vs) → wipe σ' vs = wipe σ vs) → Q' δ' μ' → Q σ' H'
abbrev WG (X : Cx) (tg : Expr) (is : List Nat) (A : TGD) : Prop := PG X tg (upG X.K is A)
theorem PG.imp {X : Cx} {e : Expr} {t t' : TG} (h : PG X e t) (i : ∀ v σ H Q, t' v σ H Q → t v σ H Q) : PG X e t' := ⟨fun pins s σ H v u Q I r q => h.run pins s σ H v u Q I r (i _ _ _ _ q)⟩
theorem PGs.imp {X : Cx} {e : List Expr} {t t' : TGs} (h : PGs X e t) (i : ∀ v σ H Q, t' v σ H Q → t v σ H Q) : PGs X e t' := ⟨fun pins s σ H v u Q I r q => h.run pins s σ H v u Q I r (i _ _ _ _ q)⟩
theorem PG.or {X : Cx} {e : Expr} {t t' : TG} (h : PG X e t) (h' : PG X e t') : PG X e (fun v σ H Q => t v σ H Q ∨ t' v σ H Q) := ⟨fun pins s σ H v u Q I r q => q.elim (h.run pins s σ H v u Q I r) (h'.run pins s σ H v u Q I r)⟩
def gdName (i : Nat) : TGD := fun d δ μ Q => Q (δ.set i (some d)) μ
def gdNil : TGDs := fun ds δ μ Q => ds = [] ∧ Q δ μ
def gdCons (A : TGD) (B : TGDs) : TGDs := fun ds δ μ Q => ∃ d r, ds = d :: r ∧ A d δ μ (fun δ' μ' => B r δ' μ' Q)
def gdTup (n : Nat) (A : TGDs) : TGD := fun d δ μ Q => ∃ ds, (d = .tup ds ∨ d = .lst ds) ∧ ds.length = n ∧ A ds δ μ Q
theorem wipe_get {σ : L2.St} {j : Nat} : ∀ {vs : List Nat}, j < σ.length → (wipe σ vs)[j]? = if j ∈ vs then some none else σ[j]?
  | [], h => by simp [wipe]
  | v :: vs, h => by
    unfold wipe
    by_cases e : v = j
    · subst e
      rw [List.getElem?_set_self (by rw [wipe_length]; exact h), if_pos List.mem_cons_self]
    · rw [List.getElem?_set_ne e, wipe_get h]
      have : (j ∈ v :: vs) ↔ j ∈ vs := by simp [Ne.symm e]
      by_cases q : j ∈ vs
      · rw [if_pos q, if_pos (this.mpr q)]
      · rw [if_neg q, if_neg (fun z => q (this.mp z))]
theorem wipe_set {σ : L2.St} {i : Nat} {x : Option V} {vs : List Nat} (h : i ∈ vs) : wipe (σ.set i x) vs = wipe σ vs := by
  apply List.ext_getElem?
  intro j
  by_cases hj : j < σ.length
  · rw [wipe_get (by simpa using hj), wipe_get hj]
    by_cases e : i = j
    · subst e
      rw [if_pos h, if_pos h]
    · rw [List.getElem?_set_ne e]
  · rw [List.getElem?_eq_none (by rw [wipe_length]; simpa using hj), List.getElem?_eq_none (by rw [wipe_length]; simpa using hj)]
section
variable {X : Cx} {W : WX} {e : Expr} {pos : Pos} {E1 : TD}
theorem wg_name (i : Nat) {x : Str} (hN : X.N.Nodup) (hi : X.N[i]? = some x := by rfl) (hx : Loc X.env.scope x := by first | exact Or.inl rfl | exact Or.inr rfl) (hf : X.fn x = true ∨ X.env.scope.names.lookup x = some .local := by first | exact .inl rfl | exact .inr rfl | assumption) : WG X (.Name x pos) [i] (gdName i) := by
  refine PG.imp (pg_name hN hi hx hf) ?_
  rintro v σ H Q ⟨g, μ, δ, d, Q', a0, sl, r, h, k⟩
  exact k g H μ _ _ a0 (Ext.refl _ _) (sl.set r) (fun vs hv => wipe_set (hv i (by simp))) h
/-- o[i] = v, by data -/
abbrev DSet := D → D → D → Mu → (Mu → Prop) → Prop
structure SetD (X : Cx) (f : DSet) : Prop where
  ex : ∃ t, PSet X t ∧ ∀ g μ H o i v a b c Q' (Q : Hp → Prop), At X.K g μ H → Rep X.K g.F g.th o a → Rep X.K g.F g.th i b → Rep X.K g.F g.th v c → f o i v μ Q' → (∀ g' H' μ', At X.K g' μ' H' → Ext g H g' H' → Q' μ' → Q H') → t a b c H Q
def gdSub (A B : TD) (f : DSet) : TGD := fun d δ μ Q => A δ μ (fun o μ1 => B δ μ1 (fun i μ2 => f o i d μ2 (fun μ3 => Q δ μ3)) (fun _ _ _ => False)) (fun _ _ _ => False)
theorem wg_sub {o i : Expr} {A B : TD} {f : DSet} (hs : SetD X f) (ho : WX0 X (fun _ _ _ _ => False) o A) (hi : WX0 X (fun _ _ _ _ => False) i B)
    (ha : ∀ v, assign (.Subscript o i pos) X.env v = (do
      let ov ← holding [v] (eval o X.env)
      let iv ← holding [v, ov] (eval i X.env)
      standAt pos
      holding [v, ov, iv] (setItem ov iv v)
      release [v, ov, iv] []) := by intro _; rfl) : WG X (.Subscript o i pos) [] (gdSub A B f) := by
  obtain ⟨t, h1, h2⟩ := hs.ex
  refine PG.imp (pg_sub ho hi h1 ha) ?_
  rintro v σ H Q ⟨g, μ, δ, d, Q', a0, sl, r, h, k⟩
  refine ⟨g, μ, δ, _, _, a0, sl, h, fun g1 H1 μ1 x y a1 e1 r1 q1 => ?_, fun _ _ _ _ _ _ _ _ z => z.elim⟩
  refine ⟨g1, μ1, δ, _, _, a1, sl.ext e1, q1, fun g2 H2 μ2 z w a2 e2 r2 q2 => ?_, fun _ _ _ _ _ _ _ _ z => z.elim⟩
  exact h2 g2 μ2 H2 x z d y w v _ _ a2 (r1.ext e2) r2 (r.ext (e1.trans e2)) q2 fun g3 H3 μ3 a3 e3 q3 => k g3 H3 μ3 δ σ a3 (e1.trans (e2.trans e3)) (sl.ext (e1.trans (e2.trans e3))) (fun _ _ => rfl) q3
def dAsg (A : TD) (G : TGD) : TDS := fun D δ μ => A δ μ (fun d μ1 => G d δ μ1 D.nx) D.ex
theorem ws_asg {tg : Expr} {is : List Nat} {G : TGD} (he : WX0 X W e E1) (hg : WG X tg is G) (hs : swapsWithSole [tg] e pos.line X.env = pure false := by rfl) (hw : swappedStores [tg] e X.env = pure none := by rfl)
    (h1 : (assignEach [tg] X.env).map (·.2) = [assign tg X.env] := by rfl) : WS X W (.Assign [tg] e pos) (dAsg E1 G) := by
  refine PS.imp (ps_asg he hg hs hw h1) ?_
  rintro D σ H ⟨g, μ, δ, D', a0, sl, h, k1, k2, k3, k4, k5⟩
  refine ⟨g, μ, δ, _, _, a0, sl, h, fun g1 H1 μ1 d v a1 e1 r1 q => ?_, fun g1 H1 μ1 C δ' a1 e1 s1 q => k5 g1 H1 μ1 C δ' σ a1 e1 s1 q⟩
  exact ⟨g1, μ1, δ, d, _, a1, sl.ext e1, r1, q, fun g2 H2 μ2 δ2 σ2 a2 e2 s2 w2 q2 => k1 g2 H2 μ2 δ2 σ2 a2 (e1.trans e2) s2 q2⟩
theorem ws_set (i : Nat) {x : Str} {pos' : Pos} (hN : X.N.Nodup) (he : WX0 X W e E1) (hi : X.N[i]? = some x := by rfl) (hx : Loc X.env.scope x := by first | exact Or.inl rfl | exact Or.inr rfl) (hs : swapsWithSole [.Name x pos'] e pos.line X.env = pure false := by rfl)
    (hf : X.fn x = true ∨ X.env.scope.names.lookup x = some .local := by first | exact .inl rfl | exact .inr rfl | assumption) : WS X W (.Assign [.Name x pos'] e pos) (dAsg E1 (gdName i)) := by
  refine PS.imp (ps_set hN hi hx he hs hf) ?_
  rintro D σ H ⟨g, μ, δ, D', a0, sl, h, k1, k2, k3, k4, k5⟩
  exact ⟨g, μ, δ, _, _, a0, sl, h, fun g1 H1 μ1 d v a1 e1 r1 q => k1 g1 H1 μ1 _ _ a1 e1 ((sl.ext e1).set r1) q, fun g1 H1 μ1 C δ' a1 e1 s1 q => k5 g1 H1 μ1 C δ' σ a1 e1 s1 q⟩
/-- a, b = x, y -/
def dPar (i j : Nat) (A : TDA) : TDS := fun D δ μ => A δ μ (fun ds μ1 => ∃ v w, ds = [v, w] ∧ D.nx ((δ.set i (some v)).set j (some w)) μ1) D.ex
end

/-! ### what is walked -/
structure Le (g g' : Wd) : Prop where
  F : Sub g.F g'.F
  ix : ∀ (k : Nat) p, g.th[k]? = some p → g'.th[k]? = some p
theorem Ext.le {g g' : Wd} {H H' : Hp} (e : Ext g H g' H') : Le g g' := ⟨e.F, e.ix⟩
theorem Rep.le {K : PySem.W.Frag} {g g' : Wd} {d : D} {v : V} (h : Rep K g.F g.th d v) (e : Le g g') : Rep K g'.F g'.th d v := Rep.mono e.F e.ix d v h
theorem Reps.le {K : PySem.W.Frag} {g g' : Wd} {d : List D} {v : List V} (h : Reps K g.F g.th d v) (e : Le g g') : Reps K g'.F g'.th d v := Reps.mono e.F e.ix d v h
def ItRep (K : PySem.W.Frag) (J : It) (ds : List D) (g : Wd) : Prop := ∀ g' H' μ' i, At K g' μ' H' → Le g g' →
  (∀ d, ds[i]? = some d → J.go i H' ∧ ∀ x H2, J.yld i H' x H2 → ∃ g2, At K g2 μ' H2 ∧ Ext g' H' g2 H2 ∧ Rep K g2.F g2.th d x) ∧ (i = ds.length → J.stop i H')
abbrev TDI := TDA
def upI (K : PySem.W.Frag) (W : WX) (A : TDI) : TI := fun σ H R => ∃ (g : Wd) (μ : Mu) (δ : DS) (Q' : List D → Mu → Prop) (E' : DE), At K g μ H ∧ Sl K g σ δ ∧ A δ μ Q' E' ∧
  (∀ g' H' μ' ds J, At K g' μ' H' → Ext g H g' H' → ItRep K J ds g' → Q' ds μ' → R J H') ∧
  (∀ g' H' μ' C δ', At K g' μ' H' → Ext g H g' H' → Sl K g' σ δ' → E' C δ' μ' → W C none σ H')
abbrev WI (X : Cx) (W : WX) (tg iter : Expr) (A : TDI) : Prop := PI X tg iter (upI X.K W A)
theorem PI.imp {X : Cx} {tg e : Expr} {t t' : TI} (h : PI X tg e t) (i : ∀ σ H R, t' σ H R → t σ H R) : PI X tg e t' := ⟨fun pins s σ H R I q => h.run pins s σ H R I (i _ _ _ q)⟩

def dFor (IA : TDI) (G : TGD) (B : TDS) : TDS := fun D δ μ => IA δ μ (fun ds μ1 => ∃ I : Nat → DS → Mu → Prop, I 0 δ μ1 ∧
  (∀ i d δ μ, ds[i]? = some d → I i δ μ → G d δ μ (fun δ' μ' => B { D with nx := I (i + 1), ct := I (i + 1), bk := D.nx } δ' μ')) ∧ ∀ δ μ, I ds.length δ μ → D.nx δ μ) D.ex
theorem ws_for {X : Cx} {W : WX} {tg iter : Expr} {body : List Stmt} {IA : TDI} {is : List Nat} {G : TGD} {B : TDS} {pos : Pos} (hp : PassesOwn (model X.prog X.w) X.A X.env X.xe) (hi : WI X W tg iter IA) (hg : WG X tg is G) (hb : WSs X W body B)
    (hc : X.calm = true := by rfl) (hs : ∀ x, foldedSetIterable iter X.env x = pure x := by intro _; rfl) : WS X W (.For tg iter body [] pos) (dFor IA G B) := by
  refine PS.imp (ps_for hp hc hi hg hb hs) ?_
  rintro D σ H ⟨g, μ, δ, D', a0, sl, h, k1, k2, k3, k4, k5⟩
  refine ⟨g, μ, δ, _, _, a0, sl, h, fun g1 H1 μ1 ds J a1 e1 rJ ⟨I, i0, step, fin⟩ => ?_, fun g1 H1 μ1 C δ' a1 e1 s1 q => k5 g1 H1 μ1 C δ' σ a1 e1 s1 q⟩
  refine ⟨fun i m σ' H' => m = ds.length - i ∧ i ≤ ds.length ∧ ∃ gi μi δi, At X.K gi μi H' ∧ Ext g1 H1 gi H' ∧ Sl X.K gi σ' δi ∧ I i δi μi, ⟨_, rfl, Nat.zero_le _, g1, μ1, δ, a1, Ext.refl _ _, sl.ext e1, i0⟩, ?_⟩
  rintro i m σ2 H2 ⟨rfl, hle, g2, μ2, δ2, a2, e2, s2, hI⟩
  by_cases hlt : i < ds.length
  · have hd := List.getElem?_eq_getElem hlt
    obtain ⟨go, yl⟩ := (rJ g2 H2 μ2 i a2 e2.le).1 _ hd
    refine .inr ⟨go, fun σ' H' => ∃ gi μi δi, At X.K gi μi H' ∧ Ext g1 H1 gi H' ∧ Sl X.K gi σ' δi ∧ I (i + 1) δi μi, fun σ' H' q => ⟨_, by omega, rfl, hlt, q⟩, fun x H3 hy => ?_⟩
    obtain ⟨g3, a3, e3, r3⟩ := yl x H3 hy
    refine ⟨g3, μ2, δ2, _, _, a3, s2.ext e3, r3, step i _ δ2 μ2 hd hI, fun g4 H4 μ4 δ4 σ4 a4 e4 s4 w4 q4 => ?_⟩
    have e14 := e2.trans (e3.trans e4)
    refine ⟨g4, μ4, δ4, _, a4, s4, q4, fun g5 H5 μ5 δ5 σ5 a5 e5 s5 q5 => ⟨g5, μ5, δ5, a5, e14.trans e5, s5, q5⟩, fun g5 H5 μ5 d5 v5 a5 e5 r5 q5 => k2 g5 H5 μ5 d5 v5 a5 (e1.trans (e14.trans e5)) r5 q5,
      fun g5 H5 μ5 δ5 σ5 a5 e5 s5 q5 => k1 g5 H5 μ5 δ5 σ5 a5 (e1.trans (e14.trans e5)) s5 q5, fun g5 H5 μ5 δ5 σ5 a5 e5 s5 q5 => ⟨g5, μ5, δ5, a5, e14.trans e5, s5, q5⟩, fun g5 H5 μ5 C δ5 σ5 a5 e5 s5 q5 => k5 g5 H5 μ5 C δ5 σ5 a5 (e1.trans (e14.trans e5)) s5 q5⟩
  · have e : i = ds.length := by omega
    subst e
    exact .inl ⟨(rJ g2 H2 μ2 _ a2 e2.le).2 rfl, k1 g2 H2 μ2 δ2 σ2 a2 (e1.trans e2) s2 (fin δ2 μ2 hI)⟩

/-! ### comprehensions -/
structure Out (g : Wd) (H : Hp) (p : Addr) (o : HO) : Prop where
  at' : H p = some o
  F : g.F p = none
  th : p ∉ g.th
  nt : plainO o
theorem Out.ext {g g' : Wd} {H H' : Hp} {p : Addr} {o : HO} (h : Out g H p o) (e : Ext g H g' H') : Out g' H' p o := by
  refine ⟨e.fr _ _ h.at' h.th fun ps z => by have := h.nt; rw [z] at this; exact this, ?_, fun hm => ?_, h.nt⟩
  · cases q : g'.F p with
    | none => rfl
    | some u =>
      rcases e.nw _ _ q h.F with z | z | ⟨vs, z⟩
      · rw [h.at'] at z; cases z
      · exact absurd z h.th
      · have := h.nt; rw [Option.some.inj (h.at'.symm.trans z)] at this; exact this.elim
  · obtain ⟨more, e1, e2⟩ := e.th
    rw [e1] at hm
    rcases List.mem_append.mp hm with hm | hm
    · exact h.th hm
    · have := e2 _ hm
      rw [h.at'] at this; cases this
theorem At.out {K : PySem.W.Frag} {g : Wd} {μ : Mu} {H : Hp} {p : Addr} {o : HO} (a : At K g μ H) (hF : g.F p = none) (hθ : p ∉ g.th) (hq : ∀ u, H p = some u → plainO u) : At K g μ (upd H p o) := by
  have ne : ∀ (k : Nat) q, g.th[k]? = some q → q ≠ p := fun k q h e => hθ (by rw [← e]; exact List.mem_of_getElem? h)
  refine ⟨fun b u e => ?_, a.len, fun k u q h1 h2 h3 => ?_, a.inj, fun q hq => alloc_upd (a.al q hq), a.tab.upd hq⟩
  · rw [upd_ne (ne_of_none e hF)]
    exact a.sub _ _ e
  · obtain ⟨x, y⟩ := a.obj k u q h1 h2 h3
    exact ⟨x, RepO.mono (fun _ _ e => e) (fun _ _ e => e) (fun _ => upd_ne (ne k q h2)) y⟩
/-- what is outside, kept -/
theorem Ext.out {g g1 : Wd} {H H1 : Hp} {p : Addr} {o : HO} (e : Ext g H g1 H1) (hp : H p = none) : Ext g H g1 (upd H1 p o) :=
  ⟨e.F, e.th, fun b u h hb n => by rw [upd_ne (ne_of_none h hp)]; exact e.fr _ _ h hb n, fun b ps h hb => by rw [upd_ne (ne_of_none h hp)]; exact e.tb _ _ h hb, fun b φ h => by rw [upd_ne (ne_of_none h hp)]; exact e.ek _ _ h, e.nw, fun b u h => alloc_upd (e.dom _ _ h)⟩
theorem At.inF {K : PySem.W.Frag} {g : Wd} {μ : Mu} {H : Hp} {p : Addr} {o : HO} (a : At K g μ H) (h : Out g H p o) : At K ⟨upd g.F p o, g.th⟩ μ H := by
  have sub : Sub g.F (upd g.F p o) := fun b u e => by rw [upd_ne (ne_of_none e h.F)]; exact e
  have ne : ∀ (k : Nat) q, g.th[k]? = some q → q ≠ p := fun k q hq e => h.th (by rw [← e]; exact List.mem_of_getElem? hq)
  refine ⟨fun b u e => ?_, a.len, fun k u q h1 h2 h3 => ?_, a.inj, a.al, a.tab.inF (plain_tbl (plain_some h.at' h.nt))⟩
  · have e : upd g.F p o b = some u := e
    by_cases hb : b = p
    · subst hb
      rw [upd_same] at e
      cases e
      exact h.at'
    · rw [upd_ne hb] at e
      exact a.sub _ _ e
  · obtain ⟨x, y⟩ := a.obj k u q h1 h2 h3
    exact ⟨by show upd g.F p o q = none; rw [upd_ne (ne k q h2)]; exact x, RepO.mono sub (fun _ _ e => e) (fun _ => rfl) y⟩
theorem Ext.inF {g g1 : Wd} {H H1 : Hp} {p : Addr} {o : HO} (e : Ext g H g1 H1) (hp : H p = none) (hF : g1.F p = none) : Ext g H ⟨upd g1.F p o, g1.th⟩ H1 :=
  ⟨fun b u h => by
    have q := e.F _ _ h
    show upd g1.F p o b = some u
    rw [upd_ne (ne_of_none q hF)]
    exact q, e.th, e.fr, e.tb, e.ek, fun b u h h' => by
    have h : upd g1.F p o b = some u := h
    by_cases hb : b = p
    · subst hb
      exact .inl hp
    · rw [upd_ne hb] at h
      exact e.nw _ _ h h', e.dom⟩
def wipeD (δ : DS) : List Nat → DS
  | [] => δ
  | v :: vs => (wipeD δ vs).set v none
theorem Sl.wipe {K : PySem.W.Frag} {g : Wd} {σ : L2.St} {δ : DS} (h : Sl K g σ δ) : ∀ vs : List Nat, Sl K g (wipe σ vs) (wipeD δ vs)
  | [] => h
  | v :: vs => by
    have ih := Sl.wipe h vs
    unfold L2.wipe wipeD
    refine ⟨by simp [ih.len], fun j d q => ?_⟩
    by_cases e : v = j
    · subst e
      by_cases hl : v < (wipeD δ vs).length
      · rw [List.getElem?_set_self hl] at q
        cases q
      · rw [List.getElem?_eq_none (by simpa using hl)] at q
        cases q
    · rw [List.getElem?_set_ne e] at q ⊢
      exact ih.get j d q
abbrev E0D : DE := fun _ _ _ => False
/-- the body of a comprehension -/
def dLc0 (IA : TDI) (G : TGD) (T : TDT) (A : TD) (vs : List Nat) (fin : List D → Mu → DQ → Prop) : TD := fun δ μ Q E => IA δ μ (fun ds μ1 => ∃ I : Nat → List D → Mu → Prop, I 0 [] μ1 ∧
  (∀ i d acc μ, ds[i]? = some d → I i acc μ → G d (wipeD δ vs) μ (fun δ2 μ2 => T δ2 μ2 (fun b μ3 => (b = true → A δ2 μ3 (fun y μ4 => acc.length < sizeLine ∧ I (i + 1) (acc ++ [y]) μ4) E0D) ∧ (b = false → I (i + 1) acc μ3)) E0D)) ∧
  ∀ acc μ, I ds.length acc μ → fin acc μ Q) E
def finF : List D → Mu → DQ → Prop := fun acc μ Q => Q (.lst acc) μ
def finC : List D → Mu → DQ → Prop := fun acc μ Q => Q (.cell μ.length) (μ ++ [.lst acc])
def FinOk (K : PySem.W.Frag) (fin : List D → Mu → DQ → Prop) : Prop := ∀ (g1 g : Wd) (H1 H : Hp) (p : Addr) (acc : List D) (vs : List V) μ Q' (Q : VK), At K g μ H → Ext g1 H1 g H → H1 p = none → Out g H p (.lst vs) → Reps K g.F g.th acc vs → fin acc μ Q' →
  Kt K g1 H1 Q' Q → Q (.ref p) H
theorem finF_ok {K : PySem.W.Frag} : FinOk K finF := by
  intro g1 g H1 H p acc vs μ Q' Q a e hp o r q k
  refine k _ _ _ (.lst acc) _ (a.inF o) (e.inF hp o.F) ?_ q
  unfold Rep
  exact ⟨p, vs, rfl, upd_same, Reps.mono (fun b u h => by show upd g.F p (.lst vs) b = some u; rw [upd_ne (ne_of_none h o.F)]; exact h) (fun _ _ h => h) _ _ r⟩
theorem up_lc {K : PySem.W.Frag} {W : WX} {IA : TDI} {is : List Nat} {G : TGD} {T : TDT} {A : TD} {vs : List Nat} {fin : List D → Mu → DQ → Prop} (hf : FinOk K fin) (his : ∀ i ∈ is, i ∈ vs) :
    ∀ σ H Q, up K W (dLc0 IA G T A vs fin) σ H Q → tLc (upI K W IA) (upG K is G) (upT K (fun _ _ _ _ => False) T) (up K (fun _ _ _ _ => False) A) vs σ H Q := by
  rintro σ H Q ⟨g, μ, δ, Q', E', at0, sl, h, k, kx⟩
  refine ⟨g, μ, δ, _, E', at0, sl, h, fun g1 H1 μ1 ds J a1 e1 rJ ⟨I, i0, step, fi⟩ => ?_, kx⟩
  intro Dd hD
  have hF1 : g1.F Dd = none := Same.free a1.sub hD
  have hθ1 : Dd ∉ g1.th := fun hm => by
    obtain ⟨o, ho⟩ := a1.al _ hm
    rw [hD] at ho; cases ho
  refine ⟨fun i m H' => m = ds.length - i ∧ i ≤ ds.length ∧ ∃ gi μi acc ws, At K gi μi H' ∧ Ext g1 H1 gi H' ∧ Out gi H' Dd (.lst ws) ∧ Reps K gi.F gi.th acc ws ∧ I i acc μi, ⟨_, rfl, Nat.zero_le _, g1, μ1, [], [], a1.out hF1 hθ1 (plain_none hD), (Ext.refl g1 H1).out hD, ⟨upd_same, hF1, hθ1, trivial⟩, Reps.nil, i0⟩, ?_⟩
  rintro i m H2 ⟨rfl, hle, g2, μ2, acc, ws, a2, e2, o2, r2, hI⟩
  by_cases hlt : i < ds.length
  · have hd := List.getElem?_eq_getElem hlt
    obtain ⟨go, yl⟩ := (rJ g2 H2 μ2 i a2 e2.le).1 _ hd
    refine .inr ⟨go, fun H' => ∃ gi μi acc ws, At K gi μi H' ∧ Ext g1 H1 gi H' ∧ Out gi H' Dd (.lst ws) ∧ Reps K gi.F gi.th acc ws ∧ I (i + 1) acc μi, fun H' q => ⟨_, by omega, rfl, hlt, q⟩, fun x H3 hy => ?_⟩
    obtain ⟨g3, a3, e3, r3⟩ := yl x H3 hy
    have s3 : Sl K g3 (wipe σ vs) (wipeD δ vs) := (sl.ext (e1.trans (e2.trans e3))).wipe vs
    refine ⟨g3, μ2, _, _, _, a3, s3, r3, step i _ acc μ2 hd hI, fun g4 H4 μ4 δ4 σ4 a4 e4 s4 w4 q4 => ?_⟩
    have wv : wipe (wipe σ vs) vs = wipe σ vs := by
      apply List.ext_getElem?
      intro j
      by_cases hj : j < σ.length
      · rw [wipe_get (by rw [wipe_length]; exact hj), wipe_get hj]
        by_cases hm : j ∈ vs <;> simp [hm]
      · rw [List.getElem?_eq_none (by rw [wipe_length, wipe_length]; simpa using hj), List.getElem?_eq_none (by rw [wipe_length]; simpa using hj)]
    refine ⟨(w4 vs his).trans wv, g4, μ4, δ4, _, _, a4, s4, q4, fun g5 H5 μ5 b a5 e5 q5 => ?_, fun _ _ _ _ _ _ _ _ z => z.elim⟩
    have e25 := e3.trans (e4.trans e5)
    cases b with
    | true =>
      refine iteT ?_
      refine ⟨g5, μ5, δ4, _, _, a5, s4.ext e5, q5.1 rfl, fun g6 H6 μ6 y u a6 e6 r6 ⟨hz, q6⟩ => ?_, fun _ _ _ _ _ _ _ _ z => z.elim⟩
      have e26 := e25.trans e6
      have o6 := o2.ext e26
      refine ⟨ws, o6.at', by rw [← r2.length]; exact hz, g6, μ6, acc ++ [y], ws ++ [u], a6.out o6.F o6.th (plain_some o6.at' trivial), (e2.trans e26).out hD, ⟨upd_same, o6.F, o6.th, trivial⟩, Reps.append (r2.ext e26) (Reps.cons r6 Reps.nil), q6⟩
    | false =>
      refine iteF ?_
      exact ⟨g5, μ5, acc, ws, a5, e2.trans e25, o2.ext e25, r2.ext e25, q5.2 rfl⟩
  · have e : i = ds.length := by omega
    subst e
    refine .inl ⟨(rJ g2 H2 μ2 _ a2 e2.le).2 rfl, ?_⟩
    exact hf g1 g2 H1 H2 Dd acc ws μ2 Q' Q a2 e2 hD o2 r2 (fi acc μ2 hI) fun g3 H3 μ3 d u a3 e3 r3 q3 => k g3 H3 μ3 d u a3 (e1.trans e3) r3 q3
def dYes : TDT := fun _ μ Q _ => Q true μ
theorem wts_nil {X : Cx} {W : WX} : PTs X [] (upT X.K W dYes) := by
  refine ⟨fun pins s σ H Q I h => ?_⟩
  obtain ⟨g, μ, δ, Q', E', a0, sl, h, k, kx⟩ := h
  exact (pts_nil (X := X)).run pins s σ H Q I (k g H μ true a0 (Ext.refl _ _) h)
theorem wts_one {X : Cx} {W : WX} {c : Expr} {T : TDT} (h : WT X W c T) : PTs X [c] (upT X.K W T) := pts_one h
abbrev W0 : WX := fun _ _ _ _ => False
theorem we_lc {X : Cx} {W : WX} {fin : List D → Mu → DQ → Prop} (hf : FinOk X.K fin) (own : List (Str × Nat)) {is : List Nat} {elt tg iter : Expr} {ifs : List Expr} {scope : Scope} {pos : Pos} {IA : TDI} {G : TGD} {T : TDT} {A : TD} (hN : X.N.Nodup) (hi : WI X W tg iter IA) (ok : BlkOk X.N X.env.scope scope own)
    (hg : ∀ (s : Shared) (H : Hp) (C : Addr) (cl : List (Str × Addr)) (fp : List Addr), WG (X.blk s H scope (compEnvC scope cl C X.env) fp) tg is G) (ht : ∀ (s : Shared) (H : Hp) (C : Addr) (cl : List (Str × Addr)) (fp : List Addr), PTs (X.blk s H scope (compEnvC scope cl C X.env) fp) ifs (upT X.K W0 T))
    (he : ∀ (s : Shared) (H : Hp) (C : Addr) (cl : List (Str × Addr)) (fp : List Addr), WX0 (X.blk s H scope (compEnvC scope cl C X.env) fp) W0 elt A) (hc : X.calm = true := by rfl) (his : ∀ i ∈ is, i ∈ own.map (·.2) := by decide) (hs : ∀ x, foldedSetIterable iter X.env x = pure x := by intro _; rfl) :
    WX0 X W (.ListComp elt [⟨tg, iter, ifs, 0⟩] scope pos) (dLc0 IA G T A (own.map (·.2)) fin) := PE.imp (pe_lc hc hN hi ok hg ht he hs) (up_lc hf his)
theorem ws_setLc {X : Cx} {W : WX} {fin : List D → Mu → DQ → Prop} (hf : FinOk X.K fin) (i : Nat) (own : List (Str × Nat)) {is : List Nat} {y : Str} {py : Pos} {elt tg iter : Expr} {ifs : List Expr} {scope : Scope} {pos spos : Pos} {IA : TDI} {G : TGD} {T : TDT} {A : TD} (hN : X.N.Nodup) (hi : WI X W tg iter IA) (ok : BlkOk X.N X.env.scope scope own)
    (hg : ∀ (s : Shared) (H : Hp) (C : Addr) (cl : List (Str × Addr)) (fp : List Addr), WG (X.blk s H scope (compEnvC scope cl C X.env) fp) tg is G) (ht : ∀ (s : Shared) (H : Hp) (C : Addr) (cl : List (Str × Addr)) (fp : List Addr), PTs (X.blk s H scope (compEnvC scope cl C X.env) fp) ifs (upT X.K W0 T))
    (he : ∀ (s : Shared) (H : Hp) (C : Addr) (cl : List (Str × Addr)) (fp : List Addr), WX0 (X.blk s H scope (compEnvC scope cl C X.env) fp) W0 elt A)
    (hsw : swapsWith (.ListComp elt [⟨tg, iter, ifs, 0⟩] scope pos) (some (.Name y py)) spos.line X.env = pure true)
    (hc : X.calm = true := by rfl) (hy : X.N[i]? = some y := by rfl) (hyl : X.env.scope.names.lookup y = some .local := by rfl) (his : ∀ i ∈ is, i ∈ own.map (·.2) := by decide) (hs : ∀ x, foldedSetIterable iter X.env x = pure x := by intro _; rfl) :
    WS X W (.Assign [.Name y py] (.ListComp elt [⟨tg, iter, ifs, 0⟩] scope pos) spos) (dAsg (dLc0 IA G T A (own.map (·.2)) fin) (gdName i)) := by
  refine PS.imp (ps_setLc (g := upG X.K is G) (tt := upT X.K W0 T) (te := up X.K W0 A) hc hN hy hyl hsw hi ok hg ht he hs) ?_
  rintro D σ H ⟨g, μ, δ, D', a0, sl, h, k1, k2, k3, k4, k5⟩
  refine up_lc hf his σ H _ ⟨g, μ, δ, _, _, a0, sl, h, fun g1 H1 μ1 d v a1 e1 r1 q => ?_, fun g1 H1 μ1 C δ' a1 e1 s1 q => k5 g1 H1 μ1 C δ' σ a1 e1 s1 q⟩
  exact k1 g1 H1 μ1 _ _ a1 e1 ((sl.ext e1).set r1) q
end SW

end

section
set_option Elab.async false
set_option linter.all false
set_option maxRecDepth 100000
namespace SW
open PySem L2 PyProof.Rows

/-! ### renaming of cells -/
mutual
def ren (f : Nat → Nat) : D → D
  | .non => .non
  | .bl b => .bl b
  | .int i => .int i
  | .str s => .str s
  | .tup xs => .tup (rens f xs)
  | .lst xs => .lst (rens f xs)
  | .scr xs => .scr (rens f xs)
  | .dct tt ks vs => .dct tt ks (rens f vs)
  | .dcn w kk vs => .dcn w kk (rens f vs)
  | .cell k => .cell (f k)
  | .val v => .val v
  | .exc C => .exc C
def rens (f : Nat → Nat) : List D → List D
  | [] => []
  | x :: xs => ren f x :: rens f xs
end
def renF (f : Nat → Nat) : List (Str × D) → List (Str × D)
  | [] => []
  | (x, d) :: r => (x, ren f d) :: renF f r
def renO (f : Nat → Nat) : MO → MO
  | .lst xs => .lst (rens f xs)
  | .dct tt ks vs => .dct tt ks (rens f vs)
  | .dcn w kk vs => .dcn w kk (rens f vs)
  | .dcl ob u tt ks vs => .dcl ob u tt ks (rens f vs)
  | .dcm ob u w kk vs => .dcm ob u w kk (rens f vs)
  | .ins C fs => .ins C (renF f fs)
  | .dead => .dead

section
variable {K : PySem.W.Frag} {F : Hp} {θ θ' : List Addr} {f : Nat → Nat}
/- from the renamed to the plain -/
mutual
theorem Rep.unren (t : ∀ (k : Nat) p, θ[f k]? = some p → θ'[k]? = some p) : ∀ (d : D) (v : V), Rep K F θ (ren f d) v → Rep K F θ' d v
  | .non, v, h => by unfold ren Rep at h; unfold Rep; exact h
  | .bl b, v, h => by unfold ren Rep at h; unfold Rep; exact h
  | .int i, v, h => by unfold ren Rep at h; unfold Rep; exact h
  | .str s, v, h => by unfold ren Rep at h; unfold Rep; exact h
  | .val u, v, h => by unfold ren Rep at h; unfold Rep; exact h
  | .exc u, v, h => by unfold ren Rep at h; unfold Rep; exact h
  | .tup ds, v, h => by
    unfold ren Rep at h; unfold Rep
    obtain ⟨p, vs, h1, h2, h3⟩ := h
    exact ⟨p, vs, h1, h2, Reps.unren t ds vs h3⟩
  | .lst ds, v, h => by
    unfold ren Rep at h; unfold Rep
    obtain ⟨p, vs, h1, h2, h3⟩ := h
    exact ⟨p, vs, h1, h2, Reps.unren t ds vs h3⟩
  | .scr ds, v, h => by
    unfold ren Rep at h; unfold Rep
    obtain ⟨p, vs, h1, h2, h3⟩ := h
    exact ⟨p, vs, h1, h2, Reps.unren t ds vs h3⟩
  | .dct tt ks ds, v, h => by
    unfold ren Rep at h; unfold Rep
    obtain ⟨p, vs, h1, h2, h3, h4⟩ := h
    exact ⟨p, vs, h1, Reps.unren t ds vs h2, h3, h4⟩
  | .dcn w kk ds, v, h => by
    unfold ren Rep at h; unfold Rep
    obtain ⟨p, vs, bs, h1, h2, h3⟩ := h
    exact ⟨p, vs, bs, h1, Reps.unren t ds vs h2, h3⟩
  | .cell k, v, h => by
    unfold ren Rep at h; unfold Rep
    obtain ⟨p, h1, h2⟩ := h
    exact ⟨p, h1, t _ _ h2⟩
theorem Reps.unren (t : ∀ (k : Nat) p, θ[f k]? = some p → θ'[k]? = some p) : ∀ (ds : List D) (vs : List V), Reps K F θ (rens f ds) vs → Reps K F θ' ds vs
  | [], vs, h => by unfold rens Reps at h; unfold Reps; exact h
  | d :: ds, vs, h => by
    unfold rens Reps at h; unfold Reps
    obtain ⟨v, r, h1, h2, h3⟩ := h
    exact ⟨v, r, h1, Rep.unren t d v h2, Reps.unren t ds r h3⟩
end
mutual
theorem Rep.ren (t : ∀ (k : Nat) p, θ'[k]? = some p → θ[f k]? = some p) : ∀ (d : D) (v : V), Rep K F θ' d v → Rep K F θ (SW.ren f d) v
  | .non, v, h => by unfold Rep at h; unfold SW.ren Rep; exact h
  | .bl b, v, h => by unfold Rep at h; unfold SW.ren Rep; exact h
  | .int i, v, h => by unfold Rep at h; unfold SW.ren Rep; exact h
  | .str s, v, h => by unfold Rep at h; unfold SW.ren Rep; exact h
  | .val u, v, h => by unfold Rep at h; unfold SW.ren Rep; exact h
  | .exc u, v, h => by unfold Rep at h; unfold SW.ren Rep; exact h
  | .tup ds, v, h => by
    unfold Rep at h; unfold SW.ren Rep
    obtain ⟨p, vs, h1, h2, h3⟩ := h
    exact ⟨p, vs, h1, h2, Reps.ren t ds vs h3⟩
  | .lst ds, v, h => by
    unfold Rep at h; unfold SW.ren Rep
    obtain ⟨p, vs, h1, h2, h3⟩ := h
    exact ⟨p, vs, h1, h2, Reps.ren t ds vs h3⟩
  | .scr ds, v, h => by
    unfold Rep at h; unfold SW.ren Rep
    obtain ⟨p, vs, h1, h2, h3⟩ := h
    exact ⟨p, vs, h1, h2, Reps.ren t ds vs h3⟩
  | .dct tt ks ds, v, h => by
    unfold Rep at h; unfold SW.ren Rep
    obtain ⟨p, vs, h1, h2, h3, h4⟩ := h
    exact ⟨p, vs, h1, Reps.ren t ds vs h2, h3, h4⟩
  | .dcn w kk ds, v, h => by
    unfold Rep at h; unfold SW.ren Rep
    obtain ⟨p, vs, bs, h1, h2, h3⟩ := h
    exact ⟨p, vs, bs, h1, Reps.ren t ds vs h2, h3⟩
  | .cell k, v, h => by
    unfold Rep at h; unfold SW.ren Rep
    obtain ⟨p, h1, h2⟩ := h
    exact ⟨p, h1, t _ _ h2⟩
theorem Reps.ren (t : ∀ (k : Nat) p, θ'[k]? = some p → θ[f k]? = some p) : ∀ (ds : List D) (vs : List V), Reps K F θ' ds vs → Reps K F θ (rens f ds) vs
  | [], vs, h => by unfold Reps at h; unfold rens Reps; exact h
  | d :: ds, vs, h => by
    unfold Reps at h; unfold rens Reps
    obtain ⟨v, r, h1, h2, h3⟩ := h
    exact ⟨v, r, h1, Rep.ren t d v h2, Reps.ren t ds r h3⟩
end
theorem RepF.unren (t : ∀ (k : Nat) p, θ[f k]? = some p → θ'[k]? = some p) : ∀ (fs : List (Str × D)) (fv : List (Str × V)), RepF K F θ (renF f fs) fv → RepF K F θ' fs fv
  | [], _, h => h
  | (x, d) :: r, fv, h => by
    obtain ⟨v, fr, a, b, c⟩ := h
    exact ⟨v, fr, a, Rep.unren t d v b, RepF.unren t r fr c⟩
theorem RepF.ren (t : ∀ (k : Nat) p, θ'[k]? = some p → θ[f k]? = some p) : ∀ (fs : List (Str × D)) (fv : List (Str × V)), RepF K F θ' fs fv → RepF K F θ (renF f fs) fv
  | [], _, h => h
  | (x, d) :: r, fv, h => by
    obtain ⟨v, fr, a, b, c⟩ := h
    exact ⟨v, fr, a, Rep.ren t d v b, RepF.ren t r fr c⟩
theorem RepO.unren {H : Hp} {p : Addr} (t : ∀ (k : Nat) p, θ[f k]? = some p → θ'[k]? = some p) {o : MO} (h : RepO K F θ H p (renO f o)) : RepO K F θ' H p o := by
  cases o with
  | lst xs => obtain ⟨vs, a, b⟩ := h; exact ⟨vs, a, Reps.unren t _ _ b⟩
  | dct tt ks ds => obtain ⟨vs, a, b, c⟩ := h; exact ⟨vs, Reps.unren t _ _ a, b, c⟩
  | dcn w kk ds => obtain ⟨vs, bs, a, b, c⟩ := h; exact ⟨vs, bs, a, Reps.unren t _ _ b, c⟩
  | dcl ob u tt ks ds => obtain ⟨a, vs, b, c⟩ := h; exact ⟨a, vs, Reps.unren t _ _ b, c⟩
  | dcm ob u w kk ds => obtain ⟨a, vs, bs, b, c⟩ := h; exact ⟨a, vs, bs, Reps.unren t _ _ b, c⟩
  | ins C fs => obtain ⟨dx, fv, a, b⟩ := h; exact ⟨dx, fv, a, RepF.unren t _ _ b⟩
  | dead => trivial
theorem RepO.ren {H : Hp} {p : Addr} (t : ∀ (k : Nat) p, θ'[k]? = some p → θ[f k]? = some p) {o : MO} (h : RepO K F θ' H p o) : RepO K F θ H p (renO f o) := by
  cases o with
  | lst xs => obtain ⟨vs, a, b⟩ := h; exact ⟨vs, a, Reps.ren t _ _ b⟩
  | dct tt ks ds => obtain ⟨vs, a, b, c⟩ := h; exact ⟨vs, Reps.ren t _ _ a, b, c⟩
  | dcn w kk ds => obtain ⟨vs, bs, a, b, c⟩ := h; exact ⟨vs, bs, a, Reps.ren t _ _ b, c⟩
  | dcl ob u tt ks ds => obtain ⟨a, vs, b, c⟩ := h; exact ⟨a, vs, Reps.ren t _ _ b, c⟩
  | dcm ob u w kk ds => obtain ⟨a, vs, bs, b, c⟩ := h; exact ⟨a, vs, bs, Reps.ren t _ _ b, c⟩
  | ins C fs => obtain ⟨dx, fv, a, b⟩ := h; exact ⟨dx, fv, a, RepF.ren t _ _ b⟩
  | dead => trivial
end
theorem renO_dead {f : Nat → Nat} {o : MO} : renO f o = .dead ↔ o = .dead := by cases o <;> simp [renO]

/-- how a callee's cells are named by its caller: ks, then the new ones -/
def rn (ks : List Nat) (n : Nat) : Nat → Nat := fun j => match ks[j]? with
  | some k => k
  | none => n + (j - ks.length)
/-- the caller's cells behind the call -/
def putB (f : Nat → Nat) : List Nat → Mu → Mu → Mu
  | [], μ, os => μ ++ os.map (renO f)
  | k :: ks, μ, o :: os => putB f ks (μ.set k (renO f o)) os
  | _ :: _, μ, [] => μ
def Sub' (f : Nat → Nat) (ks : List Nat) (μ μs : Mu) : Prop := ks.Nodup ∧ ks.length = μs.length ∧ ∀ (j k : Nat) o, ks[j]? = some k → μs[j]? = some o → μ[k]? = some (renO f o) ∧ o ≠ .dead

theorem rn_lt {ks : List Nat} {n j k : Nat} (h : ks[j]? = some k) : rn ks n j = k := by unfold rn; rw [h]
theorem rn_ge {ks : List Nat} {n j : Nat} (h : ks.length ≤ j) : rn ks n j = n + (j - ks.length) := by unfold rn; rw [List.getElem?_eq_none h]

theorem putB_length (f : Nat → Nat) : ∀ (ks : List Nat) (μ os : Mu), ks.length ≤ os.length → (putB f ks μ os).length = μ.length + (os.length - ks.length)
  | [], μ, os, _ => by simp [putB]
  | k :: ks, μ, o :: os, h => by
    unfold putB
    rw [putB_length f ks _ os (by simpa using h)]
    simp
  | k :: ks, μ, [], h => by simp at h
theorem putB_new (f : Nat → Nat) : ∀ (ks : List Nat) (μ os : Mu) (j : Nat), ks.length ≤ os.length → (putB f ks μ os)[μ.length + j]? = (os[ks.length + j]?).map (renO f)
  | [], μ, os, j, _ => by
    unfold putB
    rw [List.getElem?_append_right (by omega), Nat.add_sub_cancel_left, List.getElem?_map]
    simp
  | k :: ks, μ, o :: os, j, h => by
    unfold putB
    have := putB_new f ks (μ.set k (renO f o)) os j (by simpa using h)
    rw [List.length_set] at this
    rw [this]
    have e : (k :: ks).length + j = (ks.length + j) + 1 := by simp; omega
    rw [e, List.getElem?_cons_succ]
  | k :: ks, μ, [], j, h => by simp at h
theorem putB_other (f : Nat → Nat) : ∀ (ks : List Nat) (μ os : Mu) (j : Nat), ks.length ≤ os.length → j < μ.length → j ∉ ks → (putB f ks μ os)[j]? = μ[j]?
  | [], μ, os, j, _, hj, _ => by
    unfold putB
    rw [List.getElem?_append_left hj]
  | k :: ks, μ, o :: os, j, h, hj, hk => by
    unfold putB
    rw [putB_other f ks _ os j (by simpa using h) (by simpa using hj) (fun z => hk (List.mem_cons_of_mem _ z)), List.getElem?_set_ne (fun e => hk (by rw [e]; exact List.mem_cons_self))]
  | k :: ks, μ, [], j, h, _, _ => by simp at h
theorem putB_old (f : Nat → Nat) : ∀ (ks : List Nat) (μ os : Mu) (j k : Nat), ks.Nodup → ks.length ≤ os.length → ks[j]? = some k → k < μ.length → (putB f ks μ os)[k]? = (os[j]?).map (renO f)
  | [], μ, os, j, k, _, _, h, _ => by simp at h
  | c :: ks, μ, o :: os, 0, k, nd, h, hj, hk => by
    simp at hj
    subst hj
    unfold putB
    have : c ∉ ks := (List.nodup_cons.mp nd).1
    rw [putB_other f ks _ os c (by simpa using h) (by simpa using hk) this, List.getElem?_set_self hk]
    rfl
  | c :: ks, μ, o :: os, j + 1, k, nd, h, hj, hk => by
    unfold putB
    have := putB_old f ks (μ.set c (renO f o)) os j k (List.nodup_cons.mp nd).2 (by simpa using h) (by simpa using hj) (by simpa using hk)
    rw [this]
    simp
  | c :: ks, μ, [], j, k, _, h, _, _ => by simp at h

section
variable {K : PySem.W.Frag} {g : Wd} {μ μs : Mu} {H : Hp} {ks : List Nat}
/-- the callee's world -/
def subW (g : Wd) (ks : List Nat) : Wd := ⟨g.F, ks.filterMap fun k => g.th[k]?⟩
theorem subW_get (a : At K g μ H) (h : Sub' (rn ks μ.length) ks μ μs) : ∀ j : Nat, (subW g ks).th[j]? = (ks[j]?).bind fun k => g.th[k]? := by
  have hl : ∀ k ∈ ks, ∃ p, g.th[k]? = some p := fun k hk => by
    obtain ⟨j, hj⟩ := List.getElem?_of_mem hk
    obtain ⟨_, e, w⟩ := h
    have hj' := (List.getElem?_eq_some_iff.mp hj).1
    have := (w j k _ hj (List.getElem?_eq_getElem (by rw [← e]; exact hj'))).1
    exact th_get a this
  unfold subW
  clear h a
  intro j
  revert j
  induction ks with
  | nil => intro j; simp
  | cons c r ih =>
    intro j
    obtain ⟨p, hp⟩ := hl c List.mem_cons_self
    rw [List.filterMap_cons, hp]
    cases j with
    | zero => simp [hp]
    | succ j =>
      have := ih (fun k hk => hl k (List.mem_cons_of_mem _ hk)) j
      simpa using this
theorem subW_un (a : At K g μ H) (h : Sub' (rn ks μ.length) ks μ μs) : ∀ (k : Nat) p, g.th[rn ks μ.length k]? = some p → (subW g ks).th[k]? = some p := fun k p e => by
  rw [subW_get a h]
  cases q : ks[k]? with
  | some c => rw [rn_lt q] at e; exact e
  | none =>
    rw [rn_ge (List.getElem?_eq_none_iff.mp q), List.getElem?_eq_none (by rw [a.len]; omega)] at e
    cases e
theorem subW_at (a : At K g μ H) (h : Sub' (rn ks μ.length) ks μ μs) : At K (subW g ks) μs H := by
  have un := subW_un a h
  have gt := subW_get a h
  obtain ⟨nd, e, w⟩ := h
  have lk : ∀ (j : Nat) o, μs[j]? = some o → ∃ k, ks[j]? = some k ∧ μ[k]? = some (renO (rn ks μ.length) o) ∧ o ≠ .dead := fun j o ho => by
    have hj := (List.getElem?_eq_some_iff.mp ho).1
    rw [← e] at hj
    exact ⟨_, List.getElem?_eq_getElem hj, w j _ o (List.getElem?_eq_getElem hj) ho⟩
  have lenθ : (subW g ks).th.length = ks.length := by
    apply Nat.le_antisymm
    · unfold subW; exact List.length_filterMap_le _ _
    · apply Nat.le_of_not_lt
      intro hlt
      have h1 := gt (subW g ks).th.length
      rw [List.getElem?_eq_none (Nat.le_refl _), List.getElem?_eq_getElem hlt] at h1
      have hlt2 : (subW g ks).th.length < μs.length := by rw [← e]; exact hlt
      obtain ⟨k, hk, hm, _⟩ := lk _ _ (List.getElem?_eq_getElem hlt2)
      rw [List.getElem?_eq_getElem hlt] at hk
      cases hk
      obtain ⟨p, hp⟩ := th_get a hm
      rw [Option.bind_some, hp] at h1
      cases h1
  refine ⟨a.sub, by rw [lenθ, e], fun j o p h1 h2 h3 => ?_, fun i j p li lj h1 h2 => ?_, fun p hp => ?_, a.tab⟩
  · obtain ⟨k, hk, hm, _⟩ := lk j o h1
    rw [gt, hk, Option.bind_some] at h2
    obtain ⟨x, y⟩ := a.obj k _ p hm h2 (fun z => h3 (renO_dead.mp z))
    exact ⟨x, RepO.unren un y⟩
  · obtain ⟨o1, ho1, _⟩ := li
    obtain ⟨o2, ho2, _⟩ := lj
    obtain ⟨k1, hk1, hm1, d1⟩ := lk i o1 ho1
    obtain ⟨k2, hk2, hm2, d2⟩ := lk j o2 ho2
    rw [gt, hk1, Option.bind_some] at h1
    rw [gt, hk2, Option.bind_some] at h2
    have ek := a.inj k1 k2 p ⟨_, hm1, fun z => d1 (renO_dead.mp z)⟩ ⟨_, hm2, fun z => d2 (renO_dead.mp z)⟩ h1 h2
    subst ek
    exact nd_ix nd hk1 hk2
  · obtain ⟨j, hj⟩ := List.getElem?_of_mem hp
    rw [gt] at hj
    cases q : ks[j]? with
    | none => rw [q] at hj; cases hj
    | some k => rw [q, Option.bind_some] at hj; exact a.al _ (List.mem_of_getElem? hj)
theorem subW_mem (a : At K g μ H) (h : Sub' (rn ks μ.length) ks μ μs) {p : Addr} (hp : p ∈ (subW g ks).th) : ∃ (k : Nat), k ∈ ks ∧ g.th[k]? = some p := by
  obtain ⟨j, hj⟩ := List.getElem?_of_mem hp
  rw [subW_get a h] at hj
  cases q : ks[j]? with
  | none => rw [q] at hj; cases hj
  | some k => rw [q, Option.bind_some] at hj; exact ⟨k, List.mem_of_getElem? q, hj⟩

theorem repO_notTup {K : PySem.W.Frag} {F H : Hp} {θ : List Addr} {p : Addr} {o : MO} (hd : o ≠ .dead) (r : RepO K F θ H p o) : ∀ vs, H p ≠ some (.tup vs) := fun vs e => by
  cases o with
  | lst xs => obtain ⟨_, h, _⟩ := r; rw [h] at e; cases e
  | dct tt ks ds =>
    obtain ⟨_, _, _, h⟩ := r
    rcases h with ⟨_, _, h⟩ | ⟨_, _, h⟩ <;> (rw [h] at e; cases e)
  | dcn w kk ds => obtain ⟨_, _, h, _⟩ := r; rw [h] at e; cases e
  | dcl ob u tt ks ds => obtain ⟨h, _⟩ := r; rw [h] at e; cases e
  | dcm ob u w kk ds => obtain ⟨h, _⟩ := r; rw [h] at e; cases e
  | ins C fs => obtain ⟨_, _, h, _⟩ := r; rw [h] at e; cases e
  | dead => exact hd rfl
/-- behind the call -/
theorem putB_at (a : At K g μ H) (h : Sub' (rn ks μ.length) ks μ μs) {g2 : Wd} {μ2 : Mu} {H2 : Hp} (a2 : At K g2 μ2 H2) (e2 : Ext (subW g ks) H g2 H2) :
    ∃ g', At K g' (putB (rn ks μ.length) ks μ μ2) H2 ∧ Ext g H g' H2 ∧ ∀ d v, Rep K g2.F g2.th d v → Rep K g'.F g'.th (ren (rn ks μ.length) d) v := by
  obtain ⟨more, em, fm⟩ := e2.th
  have gt := subW_get a h
  have lenθ : (subW g ks).th.length = ks.length := by rw [(subW_at a h).len, h.2.1]
  have len2 : μ2.length = ks.length + more.length := by rw [← a2.len, em, List.length_append, lenθ]
  -- how the callee's places lie in the caller's
  have rev : ∀ (k : Nat) p, g2.th[k]? = some p → (g.th ++ more)[rn ks μ.length k]? = some p := fun k p e => by
    rw [em] at e
    by_cases hk : k < ks.length
    · rw [List.getElem?_append_left (by rw [lenθ]; exact hk), gt, List.getElem?_eq_getElem hk, Option.bind_some] at e
      rw [rn_lt (List.getElem?_eq_getElem hk), List.getElem?_append_left (List.getElem?_eq_some_iff.mp e).1]
      exact e
    · rw [List.getElem?_append_right (by rw [lenθ]; omega), lenθ] at e
      rw [rn_ge (by omega), List.getElem?_append_right (by rw [a.len]; omega), a.len, Nat.add_sub_cancel_left]
      exact e
  have hks : ∀ k ∈ ks, k < μ.length := fun k hk => by
    obtain ⟨j, hj⟩ := List.getElem?_of_mem hk
    have hj' := (List.getElem?_eq_some_iff.mp hj).1
    exact (List.getElem?_eq_some_iff.mp (h.2.2 j k _ hj (List.getElem?_eq_getElem (by rw [← h.2.1]; exact hj'))).1).1
  have hle : ks.length ≤ μ2.length := by omega
  -- which object stands at a place of the caller
  have look : ∀ (k : Nat) o, (putB (rn ks μ.length) ks μ μ2)[k]? = some o → (k < μ.length ∧ k ∉ ks ∧ μ[k]? = some o) ∨ ∃ (j : Nat) (u : MO), μ2[j]? = some u ∧ rn ks μ.length j = k ∧ o = renO (rn ks μ.length) u := fun k o ho => by
    by_cases hk : k < μ.length
    · by_cases hm : k ∈ ks
      · obtain ⟨j, hj⟩ := List.getElem?_of_mem hm
        rw [putB_old _ ks μ μ2 j k h.1 hle hj hk] at ho
        cases q : μ2[j]? with
        | none => rw [q] at ho; cases ho
        | some u => rw [q] at ho; exact .inr ⟨j, u, q, rn_lt hj, (Option.some.inj ho).symm⟩
      · rw [putB_other _ ks μ μ2 k hle hk hm] at ho
        exact .inl ⟨hk, hm, ho⟩
    · have e : k = μ.length + (k - μ.length) := by omega
      rw [e, putB_new _ ks μ μ2 _ hle] at ho
      cases q : μ2[ks.length + (k - μ.length)]? with
      | none => rw [q] at ho; cases ho
      | some u =>
        rw [q] at ho
        exact .inr ⟨_, u, q, by rw [rn_ge (by omega)]; omega, (Option.some.inj ho).symm⟩
  have rinj : ∀ (j : Nat) u p, μ2[j]? = some u → (g.th ++ more)[rn ks μ.length j]? = some p → g2.th[j]? = some p := fun j u p hu hp => by
    obtain ⟨q, hq⟩ := th_get a2 hu
    rw [rev j q hq] at hp
    rw [hq]
    exact hp
  have other : ∀ (k : Nat) o p, k < μ.length → k ∉ ks → μ[k]? = some o → o ≠ .dead → (g.th ++ more)[k]? = some p → g.th[k]? = some p ∧ p ∉ (subW g ks).th ∧ g.F p = none ∧ H p ≠ none := fun k o p hk hm ho hd hp => by
    rw [List.getElem?_append_left (by rw [a.len]; exact hk)] at hp
    refine ⟨hp, fun z => ?_, (a.obj k o p ho hp hd).1, fun z => ?_⟩
    · obtain ⟨c, hc, hcp⟩ := subW_mem a h z
      obtain ⟨j, hj⟩ := List.getElem?_of_mem hc
      have hj' := (List.getElem?_eq_some_iff.mp hj).1
      have w := h.2.2 j c _ hj (List.getElem?_eq_getElem (by rw [← h.2.1]; exact hj'))
      have := a.inj k c p ⟨o, ho, hd⟩ ⟨_, w.1, fun z => w.2 (renO_dead.mp z)⟩ hp hcp
      exact hm (this ▸ hc)
    · obtain ⟨o', e⟩ := a.al p (List.mem_of_getElem? hp)
      rw [e] at z; cases z
  have eF : Sub g.F g2.F := e2.F
  have nF : ∀ p, g.F p = none → H p ≠ none → p ∉ (subW g ks).th → (∀ vs, H p ≠ some (.tup vs)) → g2.F p = none := fun p h1 h2 h3 h4 => by
    cases q : g2.F p with
    | none => rfl
    | some o =>
      rcases e2.nw p o q h1 with z | z | ⟨vs, z⟩
      · exact absurd z h2
      · exact absurd z h3
      · exact absurd z (h4 vs)
  refine ⟨⟨g2.F, g.th ++ more⟩, ⟨a2.sub, by rw [putB_length _ ks μ μ2 hle]; simp [a.len]; omega, fun k o p h1 h2 h3 => ?_, fun i j p li lj h1 h2 => ?_, fun p hp => ?_, a2.tab⟩, ⟨eF, ⟨more, rfl, fm⟩, fun b o hb hn nt => ?_, fun b ps hb hn => ?_, e2.ek, fun b o h1 h2 => ?_, e2.dom⟩, fun d v r => Rep.ren rev d v r⟩
  · rcases look k o h1 with ⟨hk, hm, ho⟩ | ⟨j, u, hu, ej, rfl⟩
    · obtain ⟨x1, x2, x3, x4⟩ := other k o p hk hm ho h3 h2
      obtain ⟨y1, y2⟩ := a.obj k o p ho x1 h3
      refine ⟨nF p x3 x4 x2 (repO_notTup h3 y2), RepO.mono eF (fun k q e => ?_) (fun _ => ?_) y2⟩
      · show (g.th ++ more)[k]? = some q
        rw [List.getElem?_append_left (List.getElem?_eq_some_iff.mp e).1]; exact e
      · obtain ⟨o', ho'⟩ := a.al p (List.mem_of_getElem? x1)
        rw [ho']; exact e2.fr _ _ ho' x2 fun ps z => plain_tbl (repO_plain h3 y2) ps (by rw [ho', z])
    · subst ej
      have hp := rinj j u p hu h2
      obtain ⟨x, y⟩ := a2.obj j u p hu hp (fun z => h3 (renO_dead.mpr z))
      exact ⟨x, RepO.ren rev y⟩
  · obtain ⟨o1, ho1, d1⟩ := li
    obtain ⟨o2, ho2, d2⟩ := lj
    rcases look i o1 ho1 with ⟨hi, mi, hoi⟩ | ⟨ji, ui, hui, eji, rfl⟩
    · obtain ⟨x1, x2, x3, x4⟩ := other i o1 p hi mi hoi d1 h1
      rcases look j o2 ho2 with ⟨hj, mj, hoj⟩ | ⟨jj, uj, huj, ejj, rfl⟩
      · exact a.inj i j p ⟨o1, hoi, d1⟩ ⟨o2, hoj, d2⟩ x1 (other j o2 p hj mj hoj d2 h2).1
      · subst ejj
        have hp := rinj jj uj p huj h2
        exfalso
        have hm := List.mem_of_getElem? hp
        rw [em] at hm
        rcases List.mem_append.mp hm with z | z
        · exact x2 z
        · exact x4 (fm p z)
    · subst eji
      have hpi := rinj ji ui p hui h1
      rcases look j o2 ho2 with ⟨hj, mj, hoj⟩ | ⟨jj, uj, huj, ejj, rfl⟩
      · obtain ⟨x1, x2, x3, x4⟩ := other j o2 p hj mj hoj d2 h2
        exfalso
        have hm := List.mem_of_getElem? hpi
        rw [em] at hm
        rcases List.mem_append.mp hm with z | z
        · exact x2 z
        · exact x4 (fm p z)
      · subst ejj
        have hpj := rinj jj uj p huj h2
        have := a2.inj ji jj p ⟨ui, hui, fun z => d1 (renO_dead.mpr z)⟩ ⟨uj, huj, fun z => d2 (renO_dead.mpr z)⟩ hpi hpj
        rw [this]
  · rcases List.mem_append.mp hp with z | z
    · obtain ⟨o, e⟩ := a.al p z
      exact e2.dom _ _ e
    · exact a2.al p (by rw [em]; exact List.mem_append_right _ z)
  · exact e2.fr _ _ hb (fun z => by
      obtain ⟨k, _, hk⟩ := subW_mem a h z
      exact hn (List.mem_of_getElem? hk)) nt
  · exact e2.tb _ _ hb (fun z => by
      obtain ⟨k, _, hk⟩ := subW_mem a h z
      exact hn (List.mem_of_getElem? hk))
  · rcases e2.nw b o h1 h2 with z | z | z
    · exact .inl z
    · obtain ⟨k, _, hk⟩ := subW_mem a h z
      exact .inr (.inl (List.mem_of_getElem? hk))
    · exact .inr (.inr z)
end
end SW

end

section
set_option Elab.async false
set_option linter.all false
set_option maxRecDepth 100000
namespace SW
open PySem L2 PyProof.Rows

/-! ### data without cells -/
mutual
def noC : D → Bool
  | .non => true
  | .bl _ => true
  | .int _ => true
  | .str _ => true
  | .tup xs => noCs xs
  | .lst xs => noCs xs
  | .scr xs => noCs xs
  | .dct _ _ vs => noCs vs
  | .dcn _ _ vs => noCs vs
  | .cell _ => false
  | .val _ => true
  | .exc _ => true
def noCs : List D → Bool
  | [] => true
  | x :: xs => noC x && noCs xs
end
def noCF : List (Str × D) → Bool
  | [] => true
  | (_, d) :: r => noC d && noCF r
def noCO : MO → Bool
  | .lst xs => noCs xs
  | .dct _ _ vs => noCs vs
  | .dcn _ _ vs => noCs vs
  | .dcl _ _ _ _ vs => noCs vs
  | .dcm _ _ _ _ vs => noCs vs
  | .ins _ fs => noCF fs
  | .dead => true
def noCM : Mu → Bool
  | [] => true
  | o :: r => noCO o && noCM r
mutual
theorem ren_noC (f : Nat → Nat) : ∀ d : D, noC d = true → ren f d = d
  | .non, _ => rfl
  | .bl _, _ => rfl
  | .int _, _ => rfl
  | .str _, _ => rfl
  | .val _, _ => rfl
  | .exc _, _ => rfl
  | .cell _, h => by cases h
  | .tup xs, h => by unfold noC at h; unfold ren; rw [rens_noC f xs h]
  | .lst xs, h => by unfold noC at h; unfold ren; rw [rens_noC f xs h]
  | .scr xs, h => by unfold noC at h; unfold ren; rw [rens_noC f xs h]
  | .dct tt ks xs, h => by unfold noC at h; unfold ren; rw [rens_noC f xs h]
  | .dcn w kk xs, h => by unfold noC at h; unfold ren; rw [rens_noC f xs h]
theorem rens_noC (f : Nat → Nat) : ∀ ds : List D, noCs ds = true → rens f ds = ds
  | [], _ => rfl
  | x :: xs, h => by
    unfold noCs at h
    rw [Bool.and_eq_true] at h
    unfold rens
    rw [ren_noC f x h.1, rens_noC f xs h.2]
end
theorem renF_noC (f : Nat → Nat) : ∀ fs : List (Str × D), noCF fs = true → renF f fs = fs
  | [], _ => rfl
  | (x, d) :: r, h => by
    unfold noCF at h
    rw [Bool.and_eq_true] at h
    unfold renF
    rw [ren_noC f d h.1, renF_noC f r h.2]
theorem renO_noC (f : Nat → Nat) : ∀ o : MO, noCO o = true → renO f o = o
  | .lst xs, h => by show MO.lst (rens f xs) = _; rw [rens_noC f xs h]
  | .dct tt ks xs, h => by show MO.dct tt ks (rens f xs) = _; rw [rens_noC f xs h]
  | .dcn w kk xs, h => by show MO.dcn w kk (rens f xs) = _; rw [rens_noC f xs h]
  | .dcl ob u tt ks xs, h => by show MO.dcl ob u tt ks (rens f xs) = _; rw [rens_noC f xs h]
  | .dcm ob u w kk xs, h => by show MO.dcm ob u w kk (rens f xs) = _; rw [rens_noC f xs h]
  | .ins C fs, h => by show MO.ins C (renF f fs) = _; rw [renF_noC f fs h]
  | .dead, _ => rfl
theorem noCs_map {α : Type} (f : α → D) (h : ∀ a, noC (f a) = true) : ∀ l : List α, noCs (l.map f) = true
  | [] => rfl
  | a :: l => by
    rw [List.map_cons]
    unfold noCs
    rw [h a, noCs_map f h l]
    rfl
theorem noCs_mem : ∀ {l : List D}, (∀ d ∈ l, noC d = true) → noCs l = true
  | [], _ => rfl
  | a :: l, h => by
    unfold noCs
    rw [h a List.mem_cons_self, noCs_mem fun d hd => h d (List.mem_cons_of_mem _ hd)]
    rfl
theorem rep_noC {K : PySem.W.Frag} {F : Hp} {θ θ' : List Addr} {d : D} {v : V} (h : noC d = true) (r : Rep K F θ d v) : Rep K F θ' d v := by
  have r' : Rep K F θ (ren (fun k => k + θ.length) d) v := by rw [ren_noC _ _ h]; exact r
  exact Rep.unren (fun k p e => by
    rw [List.getElem?_eq_none (by omega)] at e
    cases e) d v r'
theorem repO_noC {K : PySem.W.Frag} {F : Hp} {θ θ' : List Addr} {H : Hp} {p : Addr} {o : MO} (h : noCO o = true) (r : RepO K F θ H p o) : RepO K F θ' H p o := by
  have r' : RepO K F θ H p (renO (fun k => k + θ.length) o) := by rw [renO_noC _ _ h]; exact r
  exact RepO.unren (fun k p e => by
    rw [List.getElem?_eq_none (by omega)] at e
    cases e) r'
theorem noCM_get : ∀ {μ : Mu} {k : Nat} {o : MO}, noCM μ = true → μ[k]? = some o → noCO o = true
  | o :: r, 0, u, h, e => by
    unfold noCM at h
    rw [Bool.and_eq_true] at h
    simp at e
    rw [← e]; exact h.1
  | o :: r, k + 1, u, h, e => by
    unfold noCM at h
    rw [Bool.and_eq_true] at h
    exact noCM_get h.2 (by simpa using e)
  | [], k, u, h, e => by simp at e
/-- the newer cells are let go -/
theorem At.drop {K : PySem.W.Frag} {g : Wd} {μ : Mu} {H : Hp} (a : At K g μ H) (n : Nat) (h : noCM (μ.take n) = true) : At K ⟨g.F, g.th.take n⟩ (μ.take n) H := by
  have old : ∀ (k : Nat) o, (μ.take n)[k]? = some o → μ[k]? = some o := fun k o e => by
    rw [List.getElem?_take] at e
    split at e
    · exact e
    · cases e
  have oldθ : ∀ (k : Nat) p, (g.th.take n)[k]? = some p → g.th[k]? = some p := fun k p e => by
    rw [List.getElem?_take] at e
    split at e
    · exact e
    · cases e
  refine ⟨a.sub, by simp [a.len], fun k o p h1 h2 h3 => ?_, fun j k p ⟨u, hu, du⟩ ⟨w, hw, dw⟩ h1 h2 => a.inj j k p ⟨u, old _ _ hu, du⟩ ⟨w, old _ _ hw, dw⟩ (oldθ _ _ h1) (oldθ _ _ h2), fun p hp => a.al p (List.mem_of_mem_take hp), a.tab⟩
  obtain ⟨x, y⟩ := a.obj k o p (old _ _ h1) (oldθ _ _ h2) h3
  exact ⟨x, repO_noC (noCM_get h h1) y⟩
theorem Ext.drop {g g' : Wd} {H H' : Hp} (e : Ext g H g' H') : Ext g H ⟨g'.F, g'.th.take g.th.length⟩ H' := by
  obtain ⟨more, h1, h2⟩ := e.th
  exact ⟨e.F, ⟨[], by show g'.th.take g.th.length = _; rw [h1]; simp, by simp⟩, e.fr, e.tb, e.ek, e.nw, e.dom⟩

/-! ### defs -/
abbrev FE := Value → Mu → Prop
abbrev DSp := List D → Mu → DQ → FE → Prop
def upF (K : PySem.W.Frag) (S : DSp) : Sp := fun vs H Q E => ∃ (g : Wd) (μ : Mu) (ds : List D) (Q' : DQ) (E' : FE), At K g μ H ∧ Reps K g.F g.th ds vs ∧ S ds μ Q' E' ∧
  (∀ g' H' μ' d v, At K g' μ' H' → Ext g H g' H' → Rep K g'.F g'.th d v → Q' d μ' → Q v H') ∧
  (∀ g' H' μ' C, At K g' μ' H' → Ext g H g' H' → E' C μ' → E C none H')
structure Fd (P : Program) (w : World) (K : PySem.W.Frag) (mg : Str → Option Value) (base : Heap) (x : Str) (k : Nat) (S : DSp) : Prop where
  ex : ∃ f fd ps, FnOk P w K mg base (L2.CX P w) k f fd ps (upF K S) ∧ mg x = some (.ref f) ∧ PySem.W.keepIn K (.ref f) = true ∧ Binds K fd ps []
/-- a def of the text -/
structure GFun (K : PySem.W.Frag) (mg : Str → Option Value) (x : Str) (st : Stmt) (ps : List Str) : Prop where
  ex : ∃ f fd, Fun K x x st f fd ∧ mg x = some (.ref f) ∧ Binds K fd ps []
def startD (N : List Str) (ds : List D) : DS := ds.map some ++ List.replicate (N.length - ds.length) none
theorem sl_start {K : PySem.W.Frag} {g : Wd} {N : List Str} {ds : List D} {vs : List V} (r : Reps K g.F g.th ds vs) : Sl K g (start N vs) (startD N ds) := by
  have hl := r.length
  refine ⟨by simp [L2.start, startD, hl], fun i d h => ?_⟩
  unfold startD at h
  by_cases hi : i < ds.length
  · rw [List.getElem?_append_left (by simpa using hi), List.getElem?_map] at h
    cases q : ds[i]? with
    | none => rw [q] at h; cases h
    | some d' =>
      rw [q] at h
      cases h
      obtain ⟨v, hv, rv⟩ := r.get q
      refine ⟨v, ?_, rv⟩
      unfold L2.start
      rw [List.getElem?_append_left (by simp; omega), List.getElem?_map, hv]
      rfl
  · rw [List.getElem?_append_right (by simpa using hi), List.getElem?_replicate] at h
    split at h <;> cases h
/-- one newer cell is kept, the others are let go -/
theorem At.keep1 {K : PySem.W.Frag} {g : Wd} {μ : Mu} {H : Hp} (a : At K g μ H) {n k : Nat} {o : MO} {p : Addr} (hn : n ≤ k) (hk : μ[k]? = some o) (hd : o ≠ .dead) (hc : noCO o = true) (hp : g.th[k]? = some p) (h : noCM (μ.take n) = true) :
    At K ⟨g.F, g.th.take n ++ [p]⟩ (μ.take n ++ [o]) H := by
  have hlt := (List.getElem?_eq_some_iff.mp hk).1
  have hlt2 := (List.getElem?_eq_some_iff.mp hp).1
  have l1 : (μ.take n).length = n := by rw [List.length_take]; omega
  have l2 : (g.th.take n).length = n := by rw [List.length_take]; omega
  have old : ∀ (j : Nat) u, (μ.take n ++ [o])[j]? = some u → (j < n ∧ μ[j]? = some u) ∨ (j = n ∧ u = o) := fun j u e => by
    by_cases hj : j < n
    · rw [List.getElem?_append_left (by omega), List.getElem?_take, if_pos hj] at e
      exact .inl ⟨hj, e⟩
    · rw [List.getElem?_append_right (by omega), l1] at e
      have : j - n = 0 := by
        cases q : j - n with
        | zero => rfl
        | succ m => rw [q] at e; simp at e
      rw [this] at e
      simp at e
      exact .inr ⟨by omega, e.symm⟩
  have oldt : ∀ (j : Nat) q, (g.th.take n ++ [p])[j]? = some q → (j < n ∧ g.th[j]? = some q) ∨ (j = n ∧ q = p) := fun j q e => by
    by_cases hj : j < n
    · rw [List.getElem?_append_left (by omega), List.getElem?_take, if_pos hj] at e
      exact .inl ⟨hj, e⟩
    · rw [List.getElem?_append_right (by omega), l2] at e
      have : j - n = 0 := by
        cases q : j - n with
        | zero => rfl
        | succ m => rw [q] at e; simp at e
      rw [this] at e
      simp at e
      exact .inr ⟨by omega, e.symm⟩
  refine ⟨a.sub, by simp [a.len], fun j u q h1 h2 h3 => ?_, fun i j q li lj h1 h2 => ?_, fun q hq => ?_, a.tab⟩
  · rcases old j u h1 with ⟨hj, e1⟩ | ⟨ej, eu⟩
    · rcases oldt j q h2 with ⟨_, e2⟩ | ⟨ej, _⟩
      · obtain ⟨x, y⟩ := a.obj j u q e1 e2 h3
        refine ⟨x, repO_noC (noCM_get h (by rw [List.getElem?_take, if_pos hj]; exact e1)) y⟩
      · omega
    · rcases oldt j q h2 with ⟨hj, _⟩ | ⟨_, eq⟩
      · omega
      · subst eu eq
        obtain ⟨x, y⟩ := a.obj k _ _ hk hp hd
        exact ⟨x, repO_noC hc y⟩
  · obtain ⟨u, hu, du⟩ := li
    obtain ⟨w, hw, dw⟩ := lj
    rcases old i u hu with ⟨hi, e1⟩ | ⟨ei, eu⟩
    · rcases oldt i q h1 with ⟨_, e1'⟩ | ⟨z, _⟩
      · rcases old j w hw with ⟨hj, e2⟩ | ⟨ej, ew⟩
        · rcases oldt j q h2 with ⟨_, e2'⟩ | ⟨z, _⟩
          · exact a.inj i j q ⟨u, e1, du⟩ ⟨w, e2, dw⟩ e1' e2'
          · omega
        · rcases oldt j q h2 with ⟨z, _⟩ | ⟨_, eq⟩
          · omega
          · subst eq
            have := a.inj i k q ⟨u, e1, du⟩ ⟨o, hk, hd⟩ e1' hp
            omega
      · omega
    · rcases oldt i q h1 with ⟨z, _⟩ | ⟨_, eq⟩
      · omega
      · subst eq
        rcases old j w hw with ⟨hj, e2⟩ | ⟨ej, ew⟩
        · rcases oldt j q h2 with ⟨_, e2'⟩ | ⟨z, _⟩
          · have := a.inj j k q ⟨w, e2, dw⟩ ⟨o, hk, hd⟩ e2' hp
            omega
          · omega
        · omega
  · rcases List.mem_append.mp hq with hq | hq
    · exact a.al q (List.mem_of_mem_take hq)
    · rw [List.mem_singleton.mp hq]
      exact a.al p (List.mem_of_getElem? hp)
theorem Ext.keep1 {g g' : Wd} {H H' : Hp} (e : Ext g H g' H') {k : Nat} {p : Addr} (hn : g.th.length ≤ k) (hp : g'.th[k]? = some p) : Ext g H ⟨g'.F, g'.th.take g.th.length ++ [p]⟩ H' := by
  obtain ⟨more, h1, h2⟩ := e.th
  refine ⟨e.F, ⟨[p], by show g'.th.take g.th.length ++ [p] = _; rw [h1]; simp, fun q hq => ?_⟩, e.fr, e.tb, e.ek, e.nw, e.dom⟩
  rw [List.mem_singleton.mp hq]
  rw [h1, List.getElem?_append_right hn] at hp
  exact h2 p (List.mem_of_getElem? hp)
/-- what a body's end is to show: the cells made on the way may be let go -/
def rtD (n : Nat) (Q : DQ) : DQ := fun d μ => (noC d = true ∧ noCM (μ.take n) = true ∧ Q d (μ.take n)) ∨ Q d μ ∨
  ∃ k o, d = .cell k ∧ n ≤ k ∧ μ[k]? = some o ∧ o ≠ .dead ∧ noCO o = true ∧ noCM (μ.take n) = true ∧ Q (.cell n) (μ.take n ++ [o])
def exD (n : Nat) (E : FE) : DE := fun C _ μ => (noCM (μ.take n) = true ∧ E C (μ.take n)) ∨ E C μ
abbrev endD (n : Nat) (Q : DQ) (E : FE) : DEnds := { nx := fun _ μ => rtD n Q .non μ, rt := rtD n Q, ex := exD n E }
theorem rtD_run {K : PySem.W.Frag} {g : Wd} {μ : Mu} {H : Hp} {n : Nat} {Q' : DQ} {Q : VK} (hn : g.th.length = n) (k : Kt K g H Q' Q) {g' : Wd} {H' : Hp} {μ' : Mu} {d : D} {v : V} (a : At K g' μ' H') (e : Ext g H g' H') (r : Rep K g'.F g'.th d v) (q : rtD n Q' d μ') : Q v H' := by
  subst hn
  rcases q with ⟨h1, h2, h3⟩ | h | ⟨j, o, rfl, hj, ho, hd, hc, hm, h⟩
  · exact k _ _ _ d v (a.drop _ h2) e.drop (rep_noC h1 r) h3
  · exact k _ _ _ d v a e r h
  · unfold Rep at r
    obtain ⟨p, rfl, hp⟩ := r
    refine k _ _ _ (.cell g.th.length) _ (a.keep1 hj ho hd hc hp hm) (e.keep1 hj hp) ?_ h
    unfold Rep
    refine ⟨p, rfl, ?_⟩
    obtain ⟨more, h1, _⟩ := e.th
    have : (g'.th.take g.th.length).length = g.th.length := by rw [h1]; simp
    show (g'.th.take g.th.length ++ [p])[g.th.length]? = some p
    rw [List.getElem?_append_right (by omega), this, Nat.sub_self]
    rfl
theorem fd_mk {P : Program} {w : World} {K : PySem.W.Frag} {mg : Str → Option Value} {base : Heap} {x : Str} {st : Stmt} {N ps : List Str} {k : Nat} {S : DSp} (F : GFun K mg x st ps) (Sc : FnScope N ps (defScope st)) (len : ∀ ds μ Q E, S ds μ Q E → ds.length = ps.length)
    (hb : ∀ (f : Addr) (cdv : Value) (A : Around) (outer : List Env) (s : Shared) (H : Hp) (E : XK), Room k (A.deeper (envOfC x (defScope st) s.heap.objs.size f cdv)) →
      Takes (cxOf (L2.CX P w) P w K mg base N x (defScope st) f cdv A outer s H E) (fun c d _ H => E c d H) →
      PassesOwn (model P w) (A.deeper (envOfC x (defScope st) s.heap.objs.size f cdv)) (envOfC x (defScope st) s.heap.objs.size f cdv) (cxOf (L2.CX P w) P w K mg base N x (defScope st) f cdv A outer s H E).xe →
      ∃ A', WSs (cxOf (L2.CX P w) P w K mg base N x (defScope st) f cdv A outer s H E) (fun c d _ H => E c d H) (defBody st) A' ∧ ∀ ds μ Q E', S ds μ Q E' → A' (endD μ.length Q E') (startD N ds) μ) :
    Fd P w K mg base x (k + 1) S := by
  obtain ⟨f, fd, F0, hm, hbd⟩ := F.ex
  refine ⟨f, fd, ps, ?_, hm, F0.kp, hbd⟩
  refine SW.okX F0 Sc (fun vs H Q E ⟨g, μ, ds, Q', E', a, r, h, _⟩ => by rw [← r.length]; exact len ds μ Q' E' h) fun cdv A outer s H vs Q E hr hsp => ?_
  obtain ⟨A', hA, run⟩ := hb f cdv A outer s H E hr (takes_of rfl rfl rfl rfl) (passes_of rfl)
  refine ⟨_, hA, ?_⟩
  obtain ⟨g, μ, ds, Q', E', a, r, h, k1, k2⟩ := hsp
  refine ⟨g, μ, startD N ds, endD μ.length Q' E', a, sl_start r, run ds μ Q' E' h, fun g' H' μ' δ' σ' a' e' s' q => ?_, fun g' H' μ' d v a' e' r' q => rtD_run (μ := μ) a.len k1 a' e' r' q, fun _ _ _ _ _ _ _ _ z => z.elim, fun _ _ _ _ _ _ _ _ z => z.elim, fun g' H' μ' C δ' σ' a' e' s' q => ?_⟩
  · exact rtD_run (μ := μ) (d := .non) (v := .non) a.len k1 a' e' (by unfold Rep; rfl) q
  · rcases q with ⟨h1, h2⟩ | h
    · have e2 := e'.drop
      rw [a.len] at e2
      exact k2 _ _ _ C (a'.drop _ h1) e2 h2
    · exact k2 _ _ _ C a' e' h
/-! ### calls -/
section
variable {X : Cx} {W : WX} {e : Expr} {es : List Expr} {A : TDA} {S : DSp} {x : Str} {p pos : Pos} {k : Nat}
theorem WX0.imp {e : Expr} {A B : TD} (h : WX0 X W e A) (i : ∀ δ μ Q E, B δ μ Q E → A δ μ Q E) : WX0 X W e B := PE.imp h fun σ H Q ⟨g, μ, δ, Q', E', a0, sl, h, k, kx⟩ => ⟨g, μ, δ, Q', E', a0, sl, i _ _ _ _ h, k, kx⟩
end
/-- with nothing that changes: ds without cells; what is told too -/
def callP (S : DSp) (ds : List D) (μ : Mu) (Q : DQ) (E : Value → Mu → Prop) : Prop := noCs ds = true ∧ S ds [] (fun d μ2 => μ2 = [] ∧ noC d = true ∧ Q d μ) (fun C μ2 => μ2 = [] ∧ E C μ)
/-- one cell handed in, first -/
def callW (S : DSp) (ds : List D) (μ : Mu) (Q : DQ) (E : Value → Mu → Prop) : Prop := ∃ k o rest, ds = .cell k :: rest ∧ noCs rest = true ∧ μ[k]? = some o ∧ noCO o = true ∧ o ≠ .dead ∧
  S (.cell 0 :: rest) [o] (fun d μ2 => ∃ o', μ2 = [o'] ∧ noC d = true ∧ noCO o' = true ∧ Q d (μ.set k o')) (fun C μ2 => ∃ o', μ2 = [o'] ∧ noCO o' = true ∧ E C (μ.set k o'))
/-- a new cell is told -/
def callN (S : DSp) (ds : List D) (μ : Mu) (Q : DQ) (E : Value → Mu → Prop) : Prop := noCs ds = true ∧ S ds [] (fun d μ2 => ∃ o, d = .cell 0 ∧ μ2 = [o] ∧ noCO o = true ∧ Q (.cell μ.length) (μ ++ [o])) (fun C μ2 => μ2 = [] ∧ E C μ)
/-- what is told is new and changes, or is data -/
def callG (S : DSp) (ds : List D) (μ : Mu) (Q : DQ) (E : Value → Mu → Prop) : Prop := noCs ds = true ∧ S ds [] (fun d μ2 => (μ2 = [] ∧ noC d = true ∧ Q d μ) ∨ ∃ o, d = .cell 0 ∧ μ2 = [o] ∧ noCO o = true ∧ Q (.cell μ.length) (μ ++ [o])) (fun C μ2 => μ2 = [] ∧ E C μ)
abbrev CForm := DSp → List D → Mu → DQ → (Value → Mu → Prop) → Prop
def dCall (c : CForm) (S : DSp) (A : TDA) : TD := fun δ μ Q E => A δ μ (fun ds μ1 => c S ds μ1 Q (fun C μ2 => E C δ μ2)) E
/-- a spec wants more where more is wanted -/
structure MonoS (S : DSp) : Prop where
  mono : ∀ ds μ Q Q' E E', (∀ d μ, Q d μ → Q' d μ) → (∀ C μ, E C μ → E' C μ) → S ds μ Q E → S ds μ Q' E'
/-- the forms are the general one's -/
def FormOk (c : CForm) (S : DSp) : Prop := ∀ ds μ Q E, c S ds μ Q E → ∃ ks ds' μs, ds = rens (rn ks μ.length) ds' ∧ Sub' (rn ks μ.length) ks μ μs ∧
  ∃ Q0 E0, S ds' μs Q0 E0 ∧ (∀ d μ2, Q0 d μ2 → Q (ren (rn ks μ.length) d) (putB (rn ks μ.length) ks μ μ2)) ∧ (∀ C μ2, E0 C μ2 → E C (putB (rn ks μ.length) ks μ μ2))
theorem sub_nil {f : Nat → Nat} {μ : Mu} : Sub' f [] μ [] := ⟨List.nodup_nil, rfl, fun j k o h => by simp at h⟩
theorem callP_ok {S : DSp} : FormOk (callP) S := by
  rintro ds μ Q E ⟨h1, h2⟩
  refine ⟨[], ds, [], (rens_noC _ _ h1).symm, sub_nil, _, _, h2, ?_, ?_⟩
  · rintro d μ2 ⟨rfl, h3, q⟩
    rw [ren_noC _ _ h3]
    simpa [putB] using q
  · rintro C μ2 ⟨rfl, q⟩
    simpa [putB] using q
theorem callN_ok {S : DSp} : FormOk (callN) S := by
  rintro ds μ Q E ⟨h1, h2⟩
  refine ⟨[], ds, [], (rens_noC _ _ h1).symm, sub_nil, _, _, h2, ?_, ?_⟩
  · rintro d μ2 ⟨o, rfl, rfl, h3, q⟩
    show Q (.cell (rn [] μ.length 0)) (μ ++ [o].map (renO _))
    rw [List.map_cons, List.map_nil, renO_noC _ _ h3]
    exact q
  · rintro C μ2 ⟨rfl, q⟩
    simpa [putB] using q
theorem callW_ok {S : DSp} : FormOk callW S := by
  rintro ds μ Q E ⟨k, o, rest, rfl, h1, h2, h3, h4, h5⟩
  refine ⟨[k], .cell 0 :: rest, [o], ?_, ⟨by simp, rfl, fun j c u hj hu => ?_⟩, _, _, h5, ?_, ?_⟩
  · show _ = .cell (rn [k] μ.length 0) :: rens _ rest
    rw [rens_noC _ _ h1]
    rfl
  · cases j with
    | zero =>
      simp at hj hu
      subst hj; subst hu
      exact ⟨by rw [renO_noC _ _ h3]; exact h2, h4⟩
    | succ j => simp at hj
  · rintro d μ2 ⟨o', rfl, h6, h7, q⟩
    rw [ren_noC _ _ h6]
    show Q d (μ.set k (renO _ o') ++ [].map _)
    rw [renO_noC _ _ h7]
    simpa using q
  · rintro C μ2 ⟨o', rfl, h7, q⟩
    show E C (μ.set k (renO _ o') ++ [].map _)
    rw [renO_noC _ _ h7]
    simpa using q
section
variable {X : Cx} {W : WX} {e : Expr} {es : List Expr} {A : TDA} {S : DSp} {x : Str} {p pos : Pos} {k : Nat}
theorem we_call {c : CForm} (hc : FormOk c S) (F : Fd X.prog X.w X.K X.mg X.base x k S) (hr : Room k X.A) (tk : Takes X W) (ha : WA X W (e :: es) A) (hg : Gl X x := by rfl) (hdb : (x == ("__debug__" : Str)) = false := by decide)
    (he : starEach (e :: es) X.env = (false, eval e X.env) :: starEach es X.env := by rfl) (hpl : (backTo pos (starEach es X.env)).any (·.1) = false := by rfl) : WX0 X W (.Call (.Name x p) (e :: es) [] pos) (dCall c S A) := by
  obtain ⟨f, fd, ps, F0, hm, hk, hb⟩ := F.ex
  refine PE.imp (pe_callS F0 hr hg hm hk hb (fun σ => passAt tk σ) ha hdb he hpl) ?_
  rintro σ H Q ⟨g, μ, δ, Q', E', a0, sl, h, kq, kx⟩
  refine ⟨g, μ, δ, _, E', a0, sl, h, fun g1 H1 μ1 ds vs a1 e1 r1 hq => ?_, kx⟩
  obtain ⟨ks, ds', μs, hd, hs, Q0, E0, q, hQ, hE⟩ := hc _ _ _ _ hq
  subst hd
  refine ⟨subW g1 ks, μs, ds', Q0, E0, subW_at a1 hs, Reps.unren (subW_un a1 hs) _ _ r1, q, fun g2 H2 μ2 d v a2 e2 r2 q2 => ?_, fun g2 H2 μ2 C a2 e2 q2 => ?_⟩
  · obtain ⟨g3, a3, e3, r3⟩ := putB_at a1 hs a2 e2
    exact kq g3 H2 _ _ v a3 (e1.trans e3) (r3 d v r2) (hQ d μ2 q2)
  · obtain ⟨g3, a3, e3, r3⟩ := putB_at a1 hs a2 e2
    exact kx g3 H2 _ C δ a3 (e1.trans e3) (sl.ext (e1.trans e3)) (hE C μ2 q2)
end
theorem takesB {X : Cx} : Takes X W0 := takes0
end SW

end

section
set_option Elab.async false
set_option linter.all false
set_option maxRecDepth 100000
namespace SW
open PySem L2

/-! ### what is walked: lists, tuples, texts, ranges -/
def chars (s : List Nat) : List D := s.map fun c => .str [c]
def itemsOf : D → Option (List D)
  | .lst xs => some xs
  | .scr xs => some xs
  | .tup xs => some xs
  | .str s => some (chars s)
  | _ => none
def dIter (A : TD) : TDI := fun δ μ Q E => A δ μ (fun x μ1 => ∃ ds, itemsOf x = some ds ∧ Q ds μ1) E
section
variable {K : PySem.W.Frag} {g : Wd} {ds : List D} {vs : List V} {p : Addr}
theorem itrep_list (h : SqL K g.F p vs) (r : Reps K g.F g.th ds vs) : ItRep K (Itl K p) ds g := by
  intro g' H' μ' i a le
  have hs : SqL K H' p vs := sub_sqL a.sub (sub_sqL le.F h)
  refine ⟨fun d hd => ?_, fun hi => ⟨vs, hs, by rw [← r.length]; omega⟩⟩
  obtain ⟨v, hv, rv⟩ := r.get hd
  refine ⟨⟨vs, v, hs, hv⟩, fun x H2 ⟨e, hx⟩ => ?_⟩
  subst e
  have := hx vs hs
  rw [hv] at this
  cases this
  exact ⟨g', a, Ext.refl _ _, rv.le le⟩
theorem itrep_tup (h : SqT K g.F p vs) (r : Reps K g.F g.th ds vs) : ItRep K (Itt K p) ds g := by
  intro g' H' μ' i a le
  have hs : SqT K H' p vs := sub_sqT a.sub (sub_sqT le.F h)
  refine ⟨fun d hd => ?_, fun hi => ⟨vs, hs, by rw [← r.length]; omega⟩⟩
  obtain ⟨v, hv, rv⟩ := r.get hd
  refine ⟨⟨vs, v, hs, hv⟩, fun x H2 ⟨e, hx⟩ => ?_⟩
  subst e
  have := hx vs hs
  rw [hv] at this
  cases this
  exact ⟨g', a, Ext.refl _ _, rv.le le⟩
theorem itrep_str (s : List Nat) : ItRep K (Its (mkS s)) (chars s) g := by
  intro g' H' μ' i a le
  unfold chars
  refine ⟨fun d hd => ?_, fun hi => ?_⟩
  · rw [List.getElem?_map] at hd
    cases e : s[i]? with
    | none => rw [e] at hd; cases hd
    | some c =>
      rw [e] at hd
      cases hd
      have hl := (List.getElem?_eq_some_iff.mp e).1
      refine ⟨by show i < s.toArray.size; simpa using hl, fun x H2 ⟨e1, c', hc, ex⟩ => ?_⟩
      subst e1
      have hc : s.toArray[i]? = some c' := hc
      rw [List.getElem?_toArray, e] at hc
      cases hc
      subst ex
      exact ⟨g', a, Ext.refl _ _, by unfold Rep; rfl⟩
  · subst hi
    show s.toArray.size ≤ _
    rw [List.length_map]
    exact Nat.le_refl _
def rangeD (lo c : Int) (n : Nat) : List D := (List.range n).map fun (i : Nat) => .int (lo + (i : Int) * c)
theorem rangeD_length (lo c : Int) (n : Nat) : (rangeD lo c n).length = n := by unfold rangeD; rw [List.length_map, List.length_range]
theorem rangeD_get {lo c : Int} {n i : Nat} {d : D} (h : (rangeD lo c n)[i]? = some d) : i < n ∧ d = .int (lo + (i : Int) * c) := by
  unfold rangeD at h
  rw [List.getElem?_map] at h
  by_cases hi : i < n
  · rw [List.getElem?_range hi] at h
    exact ⟨hi, (Option.some.inj h).symm⟩
  · rw [List.getElem?_eq_none (by simpa using hi)] at h
    cases h
theorem itrep_rng (lo : Int) (n : Nat) : ItRep K (Itr lo n) (rangeD lo 1 n) g := by
  intro g' H' μ' i a le
  refine ⟨fun d hd => ?_, fun hi => ?_⟩
  · obtain ⟨h, rfl⟩ := rangeD_get hd
    refine ⟨h, fun x H2 ⟨e1, ex⟩ => ?_⟩
    subst e1; subst ex
    exact ⟨g', a, Ext.refl _ _, by unfold Rep; rw [Int.mul_one]⟩
  · rw [hi, rangeD_length]
    exact Nat.le_refl n
end
/-- iter(v), by values -/
def PIV (X : Cx) (tg : Expr) (r : V → Hp → (It → Hp → Prop) → Prop) : Prop := ∀ (pins : List (Addr × Obj)) (s : Shared) (σ : L2.St) (H : Hp) (x : V) (v : Value) (R : It → Hp → Prop), Inv X pins σ H s → RelV x v → r x H R →
  wpAny (model X.prog X.w) X.A (pyIter v) (PIE X pins σ tg R) X.xe s
theorem PIV.or {X : Cx} {tg : Expr} {r r' : V → Hp → (It → Hp → Prop) → Prop} (h : PIV X tg r) (h' : PIV X tg r') : PIV X tg (fun x H R => r x H R ∨ r' x H R) := fun pins s σ H x v R I rv q =>
  q.elim (h pins s σ H x v R I rv) (h' pins s σ H x v R I rv)
theorem pi_of {X : Cx} {tg e : Expr} {te : TE} {r : V → Hp → (It → Hp → Prop) → Prop} (he : PE X e te) (h : PIV X tg r) : PI X tg e (fun σ H R => te σ H fun x H1 => r x H1 R) := by
  refine ⟨fun pins s σ H R I q => thn (he.run pins s σ H _ I q) fun v s1 ⟨x, H1, I1, rv, q1⟩ => h pins s1 σ H1 x v R I1 rv q1⟩
theorem piv_list {X : Cx} {tg : Expr} : PIV X tg (fun x H R => ∃ a xs, x = .ref a ∧ SqL X.K H a xs ∧ R (Itl X.K a) H) := by
  rintro pins s σ H x v R I rv ⟨a, xs, rfl, hq, q⟩
  cases rv
  obtain ⟨its, _, pl, _⟩ := I.list hq
  exact wpAny_pyIter_list pl.isList (pi_one (tk := s.toks) I _ (turn_list a _) ⟨_, Heap.get?_push_size _ rfl, rfl, rfl⟩ q)
theorem piv_tup {X : Cx} {tg : Expr} : PIV X tg (fun x H R => ∃ a xs, x = .ref a ∧ SqT X.K H a xs ∧ R (Itt X.K a) H) := by
  rintro pins s σ H x v R I rv ⟨a, xs, rfl, hq, q⟩
  cases rv
  obtain ⟨its, _, pl, _⟩ := I.tuple hq
  exact wpAny_pyIter_tuple (show Heap.IsTuple s.heap a its.toArray from pl) (pi_one (tk := s.toks) I _ (turn_tuple a _) ⟨_, Heap.get?_push_size _ rfl, rfl, rfl⟩ q)
theorem piv_str {X : Cx} {tg : Expr} : PIV X tg (fun x H R => ∃ z, x = .str z ∧ R (Its z) H) := by
  rintro pins s σ H x v R I rv ⟨z, rfl, q⟩
  obtain ⟨t, rfl⟩ := rv
  cases ha : z.cps.all (· < 128)
  · exact wpAny_pyIter_wide ha (pi_one (tk := s.toks) I _ (turn_str _ z t _ (.inr rfl)) ⟨_, Heap.get?_push_size _ rfl, rfl, rfl⟩ q)
  · exact wpAny_pyIter_ascii ha (pi_one (tk := s.toks) I _ (turn_str _ z t _ (.inl rfl)) ⟨_, Heap.get?_push_size _ rfl, rfl, rfl⟩ q)
section
variable {X : Cx} {W : WX} {e tg : Expr} {es : List Expr} {A : TD} {TA' : TDA} {pos p : Pos}
theorem wi_any (he : WX0 X W e A) : WI X W tg e (dIter A) := by
  refine PI.imp (pi_of he (PIV.or piv_list (PIV.or piv_tup piv_str))) ?_
  rintro σ H R ⟨g, μ, δ, Q', E', a0, sl, h, k, kx⟩
  refine ⟨g, μ, δ, _, E', a0, sl, h, fun g1 H1 μ1 d v a1 e1 r1 ⟨ds, hi, q⟩ => ?_, kx⟩
  cases d with
  | lst xs =>
    cases hi
    unfold Rep at r1
    obtain ⟨p, vs, rfl, hF, rs⟩ := r1
    exact .inl ⟨p, vs, rfl, SqL.of (a1.sub _ _ hF), k g1 H1 μ1 _ _ a1 e1 (itrep_list (SqL.of hF) rs) q⟩
  | scr xs =>
    cases hi
    unfold Rep at r1
    obtain ⟨p, vs, rfl, hF, rs⟩ := r1
    exact .inl ⟨p, vs, rfl, sub_sqL a1.sub hF, k g1 H1 μ1 _ _ a1 e1 (itrep_list hF rs) q⟩
  | tup xs =>
    cases hi
    unfold Rep at r1
    obtain ⟨p, vs, rfl, hF, rs⟩ := r1
    exact .inr (.inl ⟨p, vs, rfl, SqT.of (a1.sub _ _ hF), k g1 H1 μ1 _ _ a1 e1 (itrep_tup (SqT.of hF) rs) q⟩)
  | str s =>
    cases hi
    unfold Rep at r1
    subst r1
    exact .inr (.inr ⟨_, rfl, k g1 H1 μ1 _ _ a1 e1 (itrep_str s) q⟩)
  | _ => cases hi
/-- range -/
def dRng1 (A : TDA) : TDI := fun δ μ Q E => A δ μ (fun ds μ1 => ∃ j, ds = [.int j] ∧ -(2 ^ 62) ≤ j ∧ j < 2 ^ 62 ∧ Q (rangeD 0 1 j.toNat) μ1) E
def dRng2 (A : TDA) : TDI := fun δ μ Q E => A δ μ (fun ds μ1 => ∃ i j, ds = [.int i, .int j] ∧ (-(2 ^ 62) ≤ i ∧ i < 2 ^ 62 ∧ -(2 ^ 62) ≤ j ∧ j < 2 ^ 62) ∧ Q (rangeD i 1 (j - i).toNat) μ1) E
def dRng3 (A : TDA) : TDI := fun δ μ Q E => A δ μ (fun ds μ1 => ∃ i j c n, ds = [.int i, .int j, .int c] ∧ RgC i j c n ∧ Q (rangeD i c n) μ1) E
theorem reps1 {K : PySem.W.Frag} {F : Hp} {θ : List Addr} {d : D} {vs : List V} (r : Reps K F θ [d] vs) : ∃ v, vs = [v] ∧ Rep K F θ d v := by
  unfold Reps at r
  obtain ⟨v, r, rfl, h1, h2⟩ := r
  unfold Reps at h2
  subst h2
  exact ⟨v, rfl, h1⟩
theorem reps2 {K : PySem.W.Frag} {F : Hp} {θ : List Addr} {d d2 : D} {vs : List V} (r : Reps K F θ [d, d2] vs) : ∃ v w, vs = [v, w] ∧ Rep K F θ d v ∧ Rep K F θ d2 w := by
  unfold Reps at r
  obtain ⟨v, r, rfl, h1, h2⟩ := r
  obtain ⟨w, rfl, h3⟩ := reps1 h2
  exact ⟨v, w, rfl, h1, h3⟩
theorem rep_int {K : PySem.W.Frag} {F : Hp} {θ : List Addr} {i : Int} {v : V} (r : Rep K F θ (.int i) v) : v = .int i := by unfold Rep at r; exact r
theorem rep_blv {K : PySem.W.Frag} {F : Hp} {θ : List Addr} {i : Bool} {v : V} (r : Rep K F θ (.bl i) v) : v = .bl i := by unfold Rep at r; exact r
theorem rep_str {K : PySem.W.Frag} {F : Hp} {θ : List Addr} {i : List Nat} {v : V} (r : Rep K F θ (.str i) v) : v = .str (mkS i) := by unfold Rep at r; exact r
theorem wi_rng1 {a : Expr} (hm : X.mg "range" = none) (ha : WA X W [a] TA') (hg : Gl X "range" := by rfl) (hs : starEach [a] X.env = [(false, eval a X.env)] := by rfl) : WI X W tg (.Call (.Name "range" p) [a] [] pos) (dRng1 TA') := by
  refine PI.imp (pi_range1 hg hm ha hs) ?_
  rintro σ H R ⟨g, μ, δ, Q', E', a0, sl, h, k, kx⟩
  refine ⟨g, μ, δ, _, E', a0, sl, h, fun g1 H1 μ1 ds vs a1 e1 r1 ⟨j, hd, h1, h2, q⟩ => ?_, kx⟩
  subst hd
  obtain ⟨v, rfl, rv⟩ := reps1 r1
  obtain rfl := rep_int rv
  exact ⟨j, rfl, h1, h2, k g1 H1 μ1 _ _ a1 e1 (itrep_rng 0 _) q⟩
end

/-! ### enumerate and zip over lists, tuples, texts -/
inductive Kd where
  | lst | tup | txt
/-- what is read of a source -/
def Sv (K : PySem.W.Frag) (H : Hp) : Kd → V → List V → Prop
  | .lst, x, xs => ∃ a, x = .ref a ∧ SqL K H a xs
  | .tup, x, xs => ∃ a, x = .ref a ∧ SqT K H a xs
  | .txt, x, xs => ∃ z : Str, x = .str z ∧ xs = z.cps.toList.map fun c => .str ⟨#[c]⟩
/-- its iterator's own state -/
def Own : Kd → Value → Addr → Nat → Heap → Prop
  | .lst, v, it, i, h => ∃ a, v = .ref a ∧ h.IsListIter it a i
  | .tup, v, it, i, h => ∃ a, v = .ref a ∧ h.IsTupleIter it a i
  | .txt, v, it, i, h => ∃ z t, v = .str z t ∧ h.IsStrIter it (strIterType z) z t i
/-- what a source draws, at a state -/
structure DrawsAt (X : Cx) (pins : List (Addr × Obj)) (H : Hp) (xs : List V) (k : Kd) (v : Value) (it : Addr) (i : Nat) (h : Heap) (fp : List Addr) (P : Nat → Value → Prop) (St : Nat → Heap → Prop) : Prop where
  D : ∀ A : Around, A.handled = none → Draws X.prog X.w A it fp xs.length P St
  now : St i h
  own : ∀ j h', St j h' → Own k v it j h'
  val : ∀ j u, P j u → ∃ y, xs[j]? = some y ∧ RelV y u
  mem : it ∈ fp
  oth : ∀ b ∈ fp, b ≠ it → ∀ c, FpOk X pins H c → c ≠ b
end SW

end

section
set_option Elab.async false
set_option linter.all false
set_option maxRecDepth 100000
namespace SW
open PySem PySem.Spec L2

def ItE (K : PySem.W.Frag) (k : Kd) (x : V) (xs : List V) : It :=
  ⟨fun i H => i < xs.length ∧ Sv K H k x xs, fun i H v H' => ∃ T y, v = .ref T ∧ H T = none ∧ xs[i]? = some y ∧ H' = upd H T (.tup [.int (i : Nat), y]), fun i H => i = xs.length ∧ Sv K H k x xs⟩
/-- five cells that lie apart -/
structure Ap5 (z TI TO i1 i2 : Addr) : Prop where
  a : TI ≠ z
  b : TO ≠ z
  c : TI ≠ TO
  d : TI ≠ i1
  e : z ≠ i1
  f : TO ≠ i1
  g : TI ≠ i2
  h : z ≠ i2
  i : TO ≠ i2
  j : i1 ≠ i2
/-! ### the sources begin -/
/-- a source's data -/
inductive SrcD (K : PySem.W.Frag) (g : Wd) : D → List D → V → Kd → List V → Prop
  | lst {p : Addr} {ds : List D} {vs : List V} : SqL K g.F p vs → Reps K g.F g.th ds vs → SrcD K g (.lst ds) ds (.ref p) .lst vs
  | scr {p : Addr} {ds : List D} {vs : List V} : SqL K g.F p vs → Reps K g.F g.th ds vs → SrcD K g (.scr ds) ds (.ref p) .lst vs
  | tup {p : Addr} {ds : List D} {vs : List V} : SqT K g.F p vs → Reps K g.F g.th ds vs → SrcD K g (.tup ds) ds (.ref p) .tup vs
  | str {s : List Nat} : SrcD K g (.str s) (chars s) (.str (mkS s)) .txt (s.map fun c => .str ⟨#[c]⟩)
theorem SrcD.sv {K : PySem.W.Frag} {g : Wd} {d : D} {v : V} {ds : List D} {k : Kd} {vs : List V} (h : SrcD K g d ds v k vs) : Sv K g.F k v vs := by
  cases h with
  | lst a b => exact ⟨_, rfl, a⟩
  | scr a b => exact ⟨_, rfl, a⟩
  | tup a b => exact ⟨_, rfl, a⟩
  | str => exact ⟨_, rfl, by simp⟩
theorem reps_chars {K : PySem.W.Frag} {F : Hp} {θ : List Addr} : ∀ s : List Nat, Reps K F θ (chars s) (s.map fun c => .str ⟨#[c]⟩)
  | [] => Reps.nil
  | c :: s => Reps.cons (by unfold Rep; rfl) (reps_chars s)
theorem SrcD.le {K : PySem.W.Frag} {g g' : Wd} {d : D} {v : V} {ds : List D} {k : Kd} {vs : List V} (h : SrcD K g d ds v k vs) (l : Le g g') : SrcD K g' d ds v k vs := by
  cases h with
  | lst a b => exact .lst (sub_sqL l.F a) (b.le l)
  | scr a b => exact .scr (sub_sqL l.F a) (b.le l)
  | tup a b => exact .tup (sub_sqT l.F a) (b.le l)
  | str => exact .str
def pairI (ds : List D) : List D := (List.range ds.length).map fun (i : Nat) => .tup [.int (i : Int), ds.getD i .non]
def pairZ (ds es : List D) : List D := (List.range (min ds.length es.length)).map fun (i : Nat) => .tup [ds.getD i .non, es.getD i .non]
def isTupD : D → Bool
  | .tup _ => true
  | _ => false
def dEnum (A : TDA) : TDI := fun δ μ Q E => A δ μ (fun xs μ1 => ∃ d ds, xs = [d] ∧ isTupD d = false ∧ itemsOf d = some ds ∧ Q (pairI ds) μ1) E
def dZip (A : TDA) : TDI := fun δ μ Q E => A δ μ (fun xs μ1 => ∃ d e ds es, xs = [d, e] ∧ itemsOf d = some ds ∧ itemsOf e = some es ∧ Q (pairZ ds es) μ1) E
section
variable {X : Cx} {W : WX} {TA' : TDA} {pos p tpos : Pos} {elts : List Expr} {kk : Nat}
end
end SW

end

section
set_option Elab.async false
set_option linter.all false
set_option maxRecDepth 100000
namespace SW
open PySem L2

/-! ### what is read -/
/-- the items of a list or tuple that is read, of a cell too -/
def seqOf (μ : Mu) : D → Option (List D)
  | .lst xs => some xs
  | .scr xs => some xs
  | .tup xs => some xs
  | .cell k => match μ[k]? with
    | some (.lst xs) => some xs
    | _ => none
  | _ => none
def lstOf (μ : Mu) : D → Option (List D)
  | .lst xs => some xs
  | .cell k => match μ[k]? with
    | some (.lst xs) => some xs
    | _ => none
  | _ => none
theorem seq_rd {K : PySem.W.Frag} {g : Wd} {μ : Mu} {H : Hp} {d : D} {v : V} {xs : List D} (a : At K g μ H) (r : Rep K g.F g.th d v) (h : seqOf μ d = some xs) : ∃ p vs, v = .ref p ∧ (SqL K H p vs ∨ SqT K H p vs) ∧ Reps K g.F g.th xs vs := by
  cases d with
  | lst ys =>
    cases h
    unfold Rep at r
    obtain ⟨p, vs, e, q, rs⟩ := r
    exact ⟨p, vs, e, .inl (SqL.of (a.sub _ _ q)), rs⟩
  | scr ys =>
    cases h
    unfold Rep at r
    obtain ⟨p, vs, e, q, rs⟩ := r
    exact ⟨p, vs, e, .inl (sub_sqL a.sub q), rs⟩
  | tup ys =>
    cases h
    unfold Rep at r
    obtain ⟨p, vs, e, q, rs⟩ := r
    exact ⟨p, vs, e, .inr (SqT.of (a.sub _ _ q)), rs⟩
  | cell k =>
    unfold seqOf at h
    cases e : μ[k]? with
    | none => simp [e] at h
    | some o =>
      cases o with
      | lst ys =>
        simp [e] at h
        subst h
        obtain ⟨p, ev, hp, hF, vs, hH, rs⟩ := a.cellAt e (by simp) r
        exact ⟨p, vs, ev, .inl (SqL.of hH), rs⟩
      | _ => simp [e] at h
  | _ => cases h
theorem lst_rd {K : PySem.W.Frag} {g : Wd} {μ : Mu} {H : Hp} {d : D} {v : V} {xs : List D} (a : At K g μ H) (r : Rep K g.F g.th d v) (h : lstOf μ d = some xs) : ∃ p vs, v = .ref p ∧ H p = some (.lst vs) ∧ Reps K g.F g.th xs vs := by
  cases d with
  | lst ys =>
    cases h
    unfold Rep at r
    obtain ⟨p, vs, e, q, rs⟩ := r
    exact ⟨p, vs, e, a.sub _ _ q, rs⟩
  | cell k =>
    unfold lstOf at h
    cases e : μ[k]? with
    | none => simp [e] at h
    | some o =>
      cases o with
      | lst ys =>
        simp [e] at h
        subst h
        obtain ⟨p, ev, hp, hF, vs, hH, rs⟩ := a.cellAt e (by simp) r
        exact ⟨p, vs, ev, hH, rs⟩
      | _ => simp [e] at h
  | _ => cases h

/-! ### operators -/
theorem OpR.or {X : Cx} {f : Value → Value → Sem Value} {r r' : R2} (h : OpR X f r) (h' : OpR X f r') : OpR X f (fun x y H Q => r x y H Q ∨ r' x y H Q) := fun pins s σ H x y v u Q I rx ry q =>
  q.elim (h pins s σ H x y v u Q I rx ry) (h' pins s σ H x y v u Q I rx ry)
theorem CallR.or {X : Cx} {f : Value} {r r' : List V → Hp → VK → Prop} (h : CallR X f r) (h' : CallR X f r') : CallR X f (fun x H Q => r x H Q ∨ r' x H Q) := fun pins s σ H xs us Q I rx q =>
  q.elim (h pins s σ H xs us Q I rx) (h' pins s σ H xs us Q I rx)
theorem rep_intI {K : PySem.W.Frag} {F : Hp} {θ : List Addr} {i : Int} : Rep K F θ (.int i) (.int i) := by unfold Rep; rfl
theorem rep_strI {K : PySem.W.Frag} {F : Hp} {θ : List Addr} {i : List Nat} : Rep K F θ (.str i) (.str (mkS i)) := by unfold Rep; rfl
theorem mkS_app (a b : List Nat) : mkS a ++ mkS b = mkS (a ++ b) := by
  show Str.append _ _ = _
  unfold Str.append
  simp [mkS]
theorem mkS_len (a : List Nat) : (mkS a).length = a.length := by
  show (mkS a).cps.size = _
  simp [mkS]
/-- the result a list that no one changes, or a cell -/
def outF (xs : List D) (μ : Mu) (Q : DQ) : Prop := Q (.lst xs) μ
def outC (xs : List D) (μ : Mu) (Q : DQ) : Prop := Q (.cell μ.length) (μ ++ [.lst xs])
def OutOk (K : PySem.W.Frag) (o : List D → Mu → DQ → Prop) : Prop := ∀ g μ H p xs vs Q' Q, At K g μ H → H p = none → Reps K g.F g.th xs vs → o xs μ Q' → Kt K g H Q' Q → Q (.ref p) (upd H p (.lst vs))
theorem outF_ok {K : PySem.W.Frag} : OutOk K outF := by
  intro g μ H p xs vs Q' Q a hp r q k
  obtain ⟨g', a', e', r'⟩ := a.newLst hp r
  exact k _ _ _ _ _ a' e' r' q
theorem outC_ok {K : PySem.W.Frag} : OutOk K outC := by
  intro g μ H p xs vs Q' Q a hp r q k
  obtain ⟨g', a', e', r'⟩ := a.newCL hp r
  exact k _ _ _ _ _ a' e' r' q
def dAdd (o : List D → Mu → DQ → Prop) : DOp := fun x y μ Q => match x, y with
  | .int i, .int j => Q (.int (i + j)) μ
  | .str a, .str b => a.length + b.length ≤ sizeLine ∧ Q (.str (a ++ b)) μ
  | .tup a, .tup b => a.length + b.length ≤ sizeLine ∧ Q (.tup (a ++ b)) μ
  | x, y => ∃ xs ys, lstOf μ x = some xs ∧ lstOf μ y = some ys ∧ xs.length + ys.length ≤ sizeLine ∧ o (xs ++ ys) μ Q
theorem bd_add {X : Cx} {o : List D → Mu → DQ → Prop} (ho : OutOk X.K o) : BinD X .Add (dAdd o) := by
  refine ⟨_, OpR.or op_add (OpR.or op_add_str (OpR.or op_catA op_cat)), ?_⟩
  have lists : ∀ g μ H x y a b Q' (Q : VK), At X.K g μ H → Rep X.K g.F g.th x a → Rep X.K g.F g.th y b → (∃ xs ys, lstOf μ x = some xs ∧ lstOf μ y = some ys ∧ xs.length + ys.length ≤ sizeLine ∧ o (xs ++ ys) μ Q') → Kt X.K g H Q' Q → rCat a b H Q := by
    rintro g μ H x y a b Q' Q a0 rx ry ⟨xs, ys, h1, h2, h3, q⟩ k
    obtain ⟨p, vs, rfl, hH, r1⟩ := lst_rd a0 rx h1
    obtain ⟨p2, ws, rfl, hH2, r2⟩ := lst_rd a0 ry h2
    exact ⟨p, p2, vs, ws, rfl, rfl, hH, hH2, by rw [← r1.length, ← r2.length]; exact h3, fun n hn => ho g μ H n _ _ Q' Q a0 hn (r1.append r2) q k⟩
  intro g μ H x y a b Q' Q a0 rx ry q k
  unfold dAdd at q
  split at q
  · obtain rfl := rep_int rx
    obtain rfl := rep_int ry
    exact .inl ⟨_, _, rfl, rfl, k.here a0 rep_intI q⟩
  · obtain rfl := rep_str rx
    obtain rfl := rep_str ry
    refine .inr (.inl ⟨_, _, rfl, rfl, by rw [mkS_len, mkS_len]; exact q.1, ?_⟩)
    rw [mkS_app]
    exact k.here a0 rep_strI q.2
  · rename_i ds1 ds2
    unfold Rep at rx ry
    obtain ⟨p, vs, rfl, h1, r1⟩ := rx
    obtain ⟨p2, ws, rfl, h2, r2⟩ := ry
    refine .inr (.inr (.inl ⟨p, p2, vs, ws, rfl, rfl, SqT.of (a0.sub _ _ h1), SqT.of (a0.sub _ _ h2), by rw [← r1.length, ← r2.length]; exact q.1, fun e => ?_, fun _ e => ?_, fun _ _ n hn => ?_⟩))
    · have e0 : ds1 = [] := List.eq_nil_of_length_eq_zero (by rw [r1.length, e]; rfl)
      subst e0
      refine k.here a0 ?_ q.2
      unfold Rep
      exact ⟨p2, ws, rfl, h2, r2⟩
    · have e0 : ds2 = [] := List.eq_nil_of_length_eq_zero (by rw [r2.length, e]; rfl)
      subst e0
      have q2 := q.2
      rw [List.append_nil] at q2
      refine k.here a0 ?_ q2
      unfold Rep
      exact ⟨p, vs, rfl, h1, r1⟩
    · obtain ⟨g', a', e', r'⟩ := a0.newTup hn (r1.append r2)
      exact k _ _ _ _ _ a' e' r' q.2
  · exact .inr (.inr (.inr (lists g μ H _ _ a b Q' Q a0 rx ry q k)))
def dInt2 (C : Int → Int → Prop) (f : Int → Int → Int) : DOp := fun x y μ Q => ∃ i j, x = .int i ∧ y = .int j ∧ C i j ∧ Q (.int (f i j)) μ
theorem lop_int {K : PySem.W.Frag} {C : Int → Int → Prop} {f : Int → Int → Int} : LOp K (rI C fun i j => .int (f i j)) (dInt2 C f) := by
  rintro g μ H x y a b Q' Q a0 rx ry ⟨i, j, rfl, rfl, c, q⟩ k
  obtain rfl := rep_int rx
  obtain rfl := rep_int ry
  exact ⟨i, j, rfl, rfl, c, k.here a0 rep_intI q⟩
def dSub : DOp := dInt2 (fun _ _ => True) (fun i j => i - j)
def dFdv : DOp := dInt2 CDivN Int.fdiv
theorem bd_fdv {X : Cx} : BinD X .FloorDiv dFdv := ⟨_, op_fdivN, lop_int⟩
def dMod : DOp := dInt2 (fun _ j => j ≠ 0) Int.fmod
theorem bd_mod {X : Cx} : BinD X .Mod dMod := ⟨_, op_modN, lop_int⟩
def dPow : DOp := dInt2 CPow (fun i j => i ^ j.toNat)
theorem bd_pow {X : Cx} : BinD X .Pow dPow := ⟨_, op_pow, lop_int⟩
/-- s * n of a text -/
theorem op_mul_str {X : Cx} : OpR X (binaryOp .Mult) (fun x y H Q => ∃ z n, x = .str z ∧ y = .int n ∧ MulOk z n ∧ Q (.str (Txt.mul z n)) H) := by
  rintro pins s σ H x y v u Q I rx ry ⟨z, n, rfl, rfl, h, q⟩
  obtain ⟨t, rfl⟩ := rx
  obtain ⟨t', rfl⟩ := ry
  exact SB.mul h fun t2 k => ⟨.str _, H, I.tok k, ⟨t2, rfl⟩, q⟩
def dMul (o : List D → Mu → DQ → Prop) : DOp := fun x y μ Q => match x, y with
  | .int i, .int j => CMul i j ∧ Q (.int (i * j)) μ
  | .str s, .int n => 0 ≤ n ∧ n ≤ 100000 ∧ s.length * n.toNat ≤ 100000 ∧ Q (.str (List.replicate n.toNat s).flatten) μ
  | x, y => ∃ xs n, lstOf μ x = some xs ∧ y = .int n ∧ -(2 ^ 63) ≤ n ∧ n < 2 ^ 63 ∧ xs.length * n.toNat ≤ sizeLine ∧ o (List.replicate n.toNat xs).flatten μ Q
theorem foldl_app (z : Array Nat) : ∀ (n : Nat) (a : Array Nat), (List.replicate n z).foldl (· ++ ·) a = a ++ (List.replicate n z.toList).flatten.toArray
  | 0, a => by simp
  | n + 1, a => by
    rw [List.replicate_succ, List.foldl_cons, foldl_app z n, List.replicate_succ, List.flatten_cons]
    apply Array.toList_inj.mp
    simp
theorem mul_mkS (s : List Nat) (n : Int) : Txt.mul (mkS s) n = mkS (List.replicate n.toNat s).flatten := by
  unfold Txt.mul
  split
  · have : n.toNat = 0 := by omega
    rw [this]
    rfl
  · split
    · rename_i h1 h2
      rw [Bool.or_eq_true] at h2
      rcases h2 with h2 | h2
      · have : n = 1 := by simpa using h2
        subst this
        simp
      · have : s = [] := by
          have : (mkS s).length = 0 := by simpa using h2
          rw [mkS_len] at this
          exact List.eq_nil_of_length_eq_zero this
        subst this
        have : (List.replicate n.toNat ([] : List Nat)).flatten = [] := by simp
        rw [this]
    · rw [foldl_app]
      simp
theorem bd_mul {X : Cx} {o : List D → Mu → DQ → Prop} (ho : OutOk X.K o) : BinD X .Mult (dMul o) := by
  refine ⟨_, OpR.or op_mul (OpR.or op_mul_str op_rep), ?_⟩
  intro g μ H x y a b Q' Q a0 rx ry q k
  unfold dMul at q
  split at q
  · obtain rfl := rep_int rx
    obtain rfl := rep_int ry
    exact .inl ⟨_, _, rfl, rfl, q.1, k.here a0 rep_intI q.2⟩
  · obtain rfl := rep_str rx
    obtain rfl := rep_int ry
    rename_i s n
    obtain ⟨h0, h1, h2, q⟩ := q
    refine .inr (.inl ⟨_, _, rfl, rfl, ?_, ?_⟩)
    · have hl : (mkS s).length = s.length := mkS_len s
      refine ⟨?_, fun h3 h4 => ?_, fun h3 h4 => ?_⟩
      · have e1 : ¬ n < -(2 ^ 63 : Int) := by omega
        have e2 : ¬ n ≥ (2 ^ 63 : Int) := by omega
        rw [decide_eq_false e1, decide_eq_false e2]
        rfl
      · intro h5
        have e3 : ((mkS s).length : Int) * n ≤ 100000 := by
          rw [hl]
          have : n = (n.toNat : Int) := by omega
          rw [this, ← Int.natCast_mul]
          exact Int.ofNat_le.mpr h2
        have hn : 0 < n := by omega
        have e4 := (Int.ediv_lt_iff_lt_mul hn).mp (show ((2 : Int) ^ 63 - 1) / n < ((mkS s).length : Int) from h5)
        omega
      · unfold Builtin.Str.tooLong
        rw [hl]
        exact decide_eq_false (Nat.not_lt_of_le (Nat.le_trans h2 (by decide)))
    · rw [mul_mkS]
      exact k.here a0 rep_strI q
  · obtain ⟨xs, n, h1, rfl, h2, h3, h4, q⟩ := q
    obtain rfl := rep_int ry
    obtain ⟨p, vs, rfl, hH, r1⟩ := lst_rd a0 rx h1
    exact .inr (.inr ⟨p, n, vs, rfl, rfl, hH, h2, h3, by rw [← r1.length]; exact h4, fun m hm => ho g μ H m _ _ Q' Q a0 hm (r1.flat _) q k⟩)
/-! ### comparisons -/
def dCmpI (f : Int → Int → Bool) (f' : List Nat → List Nat → Bool) : DOp := fun x y μ Q => match x, y with
  | .int i, .int j => Q (.bl (f i j)) μ
  | .str a, .str b => Q (.bl (f' a b)) μ
  | _, _ => False
theorem lop_cmp {K : PySem.W.Frag} {f : Int → Int → Bool} {f' : List Nat → List Nat → Bool} : LOp K (fun x y H Q => rI0 (fun i j => .bl (f i j)) x y H Q ∨ (∃ i j : Str, x = .str i ∧ y = .str j ∧ Q (.bl (f' i.cps.toList j.cps.toList)) H)) (dCmpI f f') := by
  intro g μ H x y a b Q' Q a0 rx ry q k
  unfold dCmpI at q
  split at q
  · obtain rfl := rep_int rx
    obtain rfl := rep_int ry
    exact .inl ⟨_, _, rfl, rfl, k.here a0 rep_bl q⟩
  · obtain rfl := rep_str rx
    obtain rfl := rep_str ry
    refine .inr ⟨_, _, rfl, rfl, k.here a0 rep_bl ?_⟩
    simpa [mkS] using q
  · exact q.elim
def dLt : DOp := dCmpI (fun i j => decide (i < j)) (fun a b => decide (a < b))
def dLe : DOp := dCmpI (fun i j => decide (i ≤ j)) (fun a b => !decide (b < a))
def dGt : DOp := dCmpI (fun i j => decide (i > j)) (fun a b => decide (b < a))
def dGe : DOp := dCmpI (fun i j => decide (i ≥ j)) (fun a b => !decide (a < b))
theorem cd_lt {X : Cx} : CmpD X .Lt dLt := ⟨_, OpR.or op_lt op_lt_str, lop_cmp⟩
theorem cd_le {X : Cx} : CmpD X .LtE dLe := ⟨_, OpR.or op_le op_le_str, lop_cmp⟩
theorem cd_gt {X : Cx} : CmpD X .Gt dGt := ⟨_, OpR.or op_gt op_gt_str, lop_cmp⟩
theorem cd_ge {X : Cx} : CmpD X .GtE dGe := ⟨_, OpR.or op_ge op_ge_str, lop_cmp⟩
/-! #### == -/
mutual
def toPy : D → PyData
  | .non => .none
  | .bl b => .bool b
  | .int i => .int i
  | .str s => .str (mkS s)
  | .tup xs => .tuple (toPys xs)
  | .lst xs => .list (toPys xs)
  | .scr xs => .list (toPys xs)
  | _ => .dict []
def toPys : List D → List PyData
  | [] => []
  | x :: xs => toPy x :: toPys xs
end
mutual
/-- what == may be asked of: no dicts, no cells within; at most n deep; signs that there are -/
def okD : Nat → D → Prop
  | _, .non => True
  | _, .bl _ => True
  | _, .int _ => True
  | _, .str s => ∀ c ∈ s, c < 0x110000
  | n, .tup xs => 1 ≤ n ∧ okDs (n - 1) xs
  | n, .lst xs => 1 ≤ n ∧ okDs (n - 1) xs
  | n, .scr xs => 1 ≤ n ∧ okDs (n - 1) xs
  | _, _ => False
def okDs : Nat → List D → Prop
  | _, [] => True
  | n, x :: xs => okD n x ∧ okDs n xs
end
mutual
theorem okD_can : ∀ (n : Nat) (d : D), okD n d → (toPy d).canLay0 = true ∧ (toPy d).depth ≤ n
  | n, .non, h => by unfold toPy; exact ⟨rfl, Nat.zero_le _⟩
  | n, .bl _, h => by unfold toPy; exact ⟨rfl, Nat.zero_le _⟩
  | n, .int _, h => by unfold toPy; exact ⟨rfl, Nat.zero_le _⟩
  | n, .str s, h => by
    unfold okD at h
    unfold toPy
    refine ⟨?_, Nat.zero_le _⟩
    show PyData.strOk (mkS s) = true
    unfold PyData.strOk mkS
    simpa using h
  | n, .tup xs, h => by
    unfold okD at h
    unfold toPy
    obtain ⟨h1, h2⟩ := okDs_can (n - 1) xs h.2
    refine ⟨h1, ?_⟩
    show PyData.depthAll _ + 1 ≤ n
    have := h.1
    omega
  | n, .lst xs, h => by
    unfold okD at h
    unfold toPy
    obtain ⟨h1, h2⟩ := okDs_can (n - 1) xs h.2
    refine ⟨h1, ?_⟩
    show PyData.depthAll _ + 1 ≤ n
    have := h.1
    omega
  | n, .scr xs, h => by
    unfold okD at h
    unfold toPy
    obtain ⟨h1, h2⟩ := okDs_can (n - 1) xs h.2
    refine ⟨h1, ?_⟩
    show PyData.depthAll _ + 1 ≤ n
    have := h.1
    omega
  | n, .dct _ _ _, h => by unfold okD at h; exact h.elim
  | n, .cell _, h => by unfold okD at h; exact h.elim
  | n, .val _, h => by unfold okD at h; exact h.elim
  | n, .exc _, h => by unfold okD at h; exact h.elim
theorem okDs_can : ∀ (n : Nat) (ds : List D), okDs n ds → PyData.canLayAll0 (toPys ds) = true ∧ PyData.depthAll (toPys ds) ≤ n
  | n, [], h => by unfold toPys; exact ⟨rfl, Nat.zero_le _⟩
  | n, x :: xs, h => by
    unfold okDs at h
    unfold toPys
    obtain ⟨h1, h2⟩ := okD_can n x h.1
    obtain ⟨h3, h4⟩ := okDs_can n xs h.2
    refine ⟨?_, ?_⟩
    · show ((toPy x).canLay0 && PyData.canLayAll0 (toPys xs)) = true
      rw [h1, h3]; rfl
    · show max _ _ ≤ n
      omega
end
theorem okD_shaped {d : D} (h : okD 60 d) : SeqAt.shaped (toPy d) = true := by
  obtain ⟨h1, h2⟩ := okD_can 60 d h
  unfold SeqAt.shaped
  rw [h1, Bool.true_and]
  exact decide_eq_true (by omega)
mutual
theorem dp_of {K : PySem.W.Frag} {F : Hp} {θ : List Addr} {H : Hp} (sub : Sub F H) : ∀ (n : Nat) (d : D) (v : V), okD n d → Rep K F θ d v → Dp K H v (toPy d)
  | n, .non, v, h, r => by unfold Rep at r; unfold toPy; subst r; exact .non
  | n, .bl _, v, h, r => by unfold Rep at r; unfold toPy; subst r; exact .bl _
  | n, .int _, v, h, r => by unfold Rep at r; unfold toPy; subst r; exact .int _
  | n, .str s, v, h, r => by unfold Rep at r; unfold toPy; subst r; exact .str _
  | n, .tup xs, v, h, r => by
    unfold okD at h
    unfold Rep at r
    unfold toPy
    obtain ⟨p, vs, rfl, q, rs⟩ := r
    exact .tup (SqT.of (sub _ _ q)) (dps_of sub _ xs vs h.2 rs)
  | n, .lst xs, v, h, r => by
    unfold okD at h
    unfold Rep at r
    unfold toPy
    obtain ⟨p, vs, rfl, q, rs⟩ := r
    exact .lst (SqL.of (sub _ _ q)) (dps_of sub _ xs vs h.2 rs)
  | n, .scr xs, v, h, r => by
    unfold okD at h
    unfold Rep at r
    unfold toPy
    obtain ⟨p, vs, rfl, q, rs⟩ := r
    exact .lst (sub_sqL sub q) (dps_of sub _ xs vs h.2 rs)
  | n, .dct _ _ _, v, h, r => by unfold okD at h; exact h.elim
  | n, .cell _, v, h, r => by unfold okD at h; exact h.elim
  | n, .val _, v, h, r => by unfold okD at h; exact h.elim
  | n, .exc _, v, h, r => by unfold okD at h; exact h.elim
theorem dps_of {K : PySem.W.Frag} {F : Hp} {θ : List Addr} {H : Hp} (sub : Sub F H) : ∀ (n : Nat) (ds : List D) (vs : List V), okDs n ds → Reps K F θ ds vs → DpAll K H vs (toPys ds)
  | n, [], vs, h, r => by unfold Reps at r; unfold toPys; subst r; exact .nil
  | n, x :: xs, vs, h, r => by
    unfold okDs at h
    unfold Reps at r
    unfold toPys
    obtain ⟨v, q, rfl, r1, r2⟩ := r
    exact .cons (dp_of sub n x v h.1 r1) (dps_of sub n xs q h.2 r2)
end
def dr (μ : Mu) : D → D
  | .cell k => match μ[k]? with
    | some (.lst xs) => .lst xs
    | _ => .cell k
  | x => x
theorem dp_dr {K : PySem.W.Frag} {g : Wd} {μ : Mu} {H : Hp} {d : D} {v : V} (a : At K g μ H) (r : Rep K g.F g.th d v) (h : okD 60 (dr μ d)) : Dp K H v (toPy (dr μ d)) := by
  cases d with
  | cell k =>
    have hd : dr μ (.cell k) = (match μ[k]? with | some (.lst xs) => .lst xs | _ => .cell k) := rfl
    rw [hd] at h ⊢
    cases e : μ[k]? with
    | none => rw [e] at h; unfold okD at h; exact h.elim
    | some o =>
      rw [e] at h
      cases o with
      | lst xs =>
        obtain ⟨p, ev, hp, hF, vs, hH, rs⟩ := a.cellAt e (by simp) r
        subst ev
        show Dp K H (.ref p) (toPy (.lst xs))
        unfold okD at h
        unfold toPy
        exact .lst (SqL.of hH) (dps_of a.sub _ xs vs h.2 rs)
      | _ => unfold okD at h; exact h.elim
  | _ => exact dp_of a.sub 60 _ v h r
def deq (x y : D) : Bool := PyData.eqv (toPy x) (toPy y)
def scalD : D → D → Option Bool
  | .non, .non => some true
  | .non, .int _ => some false
  | .int _, .non => some false
  | .non, .bl _ => some false
  | .bl _, .non => some false
  | .non, .str _ => some false
  | .str _, .non => some false
  | .int i, .int j => some (decide (i = j))
  | .bl a, .bl b => some (decide (a = b))
  | .str a, .str b => some (decide (a = b))
  | .int _, .str _ => some false
  | .str _, .int _ => some false
  | .bl _, .str _ => some false
  | .str _, .bl _ => some false
  | _, _ => none
def dEq : DOp := fun x y μ Q => match scalD x y with
  | some b => Q (.bl b) μ
  | none => okD 60 (dr μ x) ∧ okD 60 (dr μ y) ∧ Q (.bl (deq (dr μ x) (dr μ y))) μ
def dNe : DOp := fun x y μ Q => match scalD x y with
  | some b => Q (.bl (!b)) μ
  | none => okD 60 (dr μ x) ∧ okD 60 (dr μ y) ∧ Q (.bl (!deq (dr μ x) (dr μ y))) μ
theorem mkS_inj {a b : List Nat} : mkS a = mkS b ↔ a = b := by
  constructor
  · intro h
    have : a.toArray = b.toArray := by injection h
    simpa using this
  · rintro rfl; rfl
theorem scal_rd {K : PySem.W.Frag} {F : Hp} {θ : List Addr} {x y : D} {a b : V} {c : Bool} (h : scalD x y = some c) (rx : Rep K F θ x a) (ry : Rep K F θ y b) : scal a b = true ∧ decide (a = b) = c := by
  unfold scalD at h
  split at h <;> cases h <;> unfold Rep at rx ry <;> subst rx <;> subst ry <;> refine ⟨rfl, ?_⟩ <;> first
    | rfl
    | simp [mkS_inj]
theorem cd_eq {X : Cx} (hu : X.A.units + 64 < cLine) : CmpD X .Eq dEq := by
  refine ⟨_, OpR.or op_eq (op_eqD hu), ?_⟩
  intro g μ H x y a b Q' Q a0 rx ry q k
  unfold dEq at q
  split at q
  · rename_i c hc
    obtain ⟨h1, h2⟩ := scal_rd hc rx ry
    refine .inl ⟨h1, ?_⟩
    rw [h2]
    exact k.here a0 rep_bl q
  · obtain ⟨h1, h2, q⟩ := q
    exact .inr ⟨_, _, dp_dr a0 rx h1, dp_dr a0 ry h2, okD_shaped h1, okD_shaped h2, k.here a0 rep_bl q⟩
theorem cd_ne {X : Cx} (hu : X.A.units + 64 < cLine) : CmpD X .NotEq dNe := by
  refine ⟨_, OpR.or op_ne (op_neD hu), ?_⟩
  intro g μ H x y a b Q' Q a0 rx ry q k
  unfold dNe at q
  split at q
  · rename_i c hc
    obtain ⟨h1, h2⟩ := scal_rd hc rx ry
    refine .inl ⟨h1, ?_⟩
    rw [h2]
    exact k.here a0 rep_bl q
  · obtain ⟨h1, h2, q⟩ := q
    exact .inr ⟨_, _, dp_dr a0 rx h1, dp_dr a0 ry h2, okD_shaped h1, okD_shaped h2, k.here a0 rep_bl q⟩
/-! #### in -/
def flatD : D → Bool
  | .non => true
  | .bl _ => true
  | .int _ => true
  | .str _ => true
  | _ => false
def inD (x : D) (ys : List D) : Bool := ys.any fun y => deq y x
def dIn (neg : Bool) : DOp := fun x y μ Q => match y with
  | .str s => ∃ c, x = .str [c] ∧ Q (.bl (if neg then !decide (c ∈ s) else decide (c ∈ s))) μ
  | y => ∃ ys, seqOf μ y = some ys ∧ flatD x = true ∧ ys.all flatD = true ∧ Q (.bl (if neg then !inD x ys else inD x ys)) μ
theorem flat_rd {K : PySem.W.Frag} {F : Hp} {θ : List Addr} {x : D} {a : V} (h : flatD x = true) (rx : Rep K F θ x a) : flatV a = true := by
  cases x <;> first | (exact Bool.noConfusion h) | (unfold Rep at rx; subst rx; rfl)
theorem feq_rd {K : PySem.W.Frag} {F : Hp} {θ : List Addr} {x y : D} {a b : V} (h : flatD x = true) (h' : flatD y = true) (rx : Rep K F θ x a) (ry : Rep K F θ y b) : eqV a b = deq x y := by
  cases x <;> first
    | (exact Bool.noConfusion h)
    | (cases y <;> first
        | (exact Bool.noConfusion h')
        | (unfold Rep at rx ry
           subst rx
           subst ry
           unfold deq
           simp [toPy, PyData.eqv, eqV]))
theorem in_rd {K : PySem.W.Frag} {F : Hp} {θ : List Addr} {x : D} {a : V} (h : flatD x = true) (rx : Rep K F θ x a) : ∀ {ys : List D} {vs : List V}, ys.all flatD = true → Reps K F θ ys vs → vs.all flatV = true ∧ inV a vs = inD x ys
  | [], vs, _, r => by unfold Reps at r; subst r; exact ⟨rfl, rfl⟩
  | y :: ys, vs, h', r => by
    unfold Reps at r
    obtain ⟨v, q, rfl, r1, r2⟩ := r
    rw [List.all_cons, Bool.and_eq_true] at h'
    obtain ⟨e1, e2⟩ := in_rd h rx h'.2 r2
    refine ⟨by rw [List.all_cons, flat_rd h'.1 r1, e1]; rfl, ?_⟩
    unfold inV inD at e2 ⊢
    rw [List.any_cons, List.any_cons, e2, feq_rd h'.1 h r1 rx]
theorem cd_in {X : Cx} : CmpD X .In (dIn false) := by
  refine ⟨_, OpR.or op_in_sign op_in_seq, ?_⟩
  intro g μ H x y a b Q' Q a0 rx ry q k
  unfold dIn at q
  split at q
  · obtain ⟨c, rfl, q⟩ := q
    obtain rfl := rep_str rx
    obtain rfl := rep_str ry
    exact .inl ⟨c, _, rfl, rfl, k.here a0 rep_bl q⟩
  · obtain ⟨ys, h1, h2, h3, q⟩ := q
    obtain ⟨p, vs, rfl, hs, rs⟩ := seq_rd a0 ry h1
    obtain ⟨e1, e2⟩ := in_rd h2 rx h3 rs
    refine .inr ⟨p, vs, rfl, hs, flat_rd h2 rx, e1, ?_⟩
    rw [e2]
    exact k.here a0 rep_bl q
theorem cd_notIn {X : Cx} : CmpD X .NotIn (dIn true) := by
  refine ⟨_, OpR.or op_notIn_sign op_notIn_seq, ?_⟩
  intro g μ H x y a b Q' Q a0 rx ry q k
  unfold dIn at q
  split at q
  · obtain ⟨c, rfl, q⟩ := q
    obtain rfl := rep_str rx
    obtain rfl := rep_str ry
    exact .inl ⟨c, _, rfl, rfl, k.here a0 rep_bl q⟩
  · obtain ⟨ys, h1, h2, h3, q⟩ := q
    obtain ⟨p, vs, rfl, hs, rs⟩ := seq_rd a0 ry h1
    obtain ⟨e1, e2⟩ := in_rd h2 rx h3 rs
    refine .inr ⟨p, vs, rfl, hs, flat_rd h2 rx, e1, ?_⟩
    rw [e2]
    exact k.here a0 rep_bl q
/-! #### is, of truths -/
def dIs (neg : Bool) : DOp := fun x y μ Q => ∃ a b, x = .bl a ∧ y = .bl b ∧ Q (.bl (if neg then !decide (a = b) else decide (a = b))) μ
/-! ### unary -/
def dNeg : DUn := fun x μ Q => ∃ i, x = .int i ∧ Q (.int (-i)) μ
section
variable {X : Cx} {W : WX} {e a b : Expr} {A B : TD} {pos : Pos}
end
end SW

end

section
set_option Elab.async false
set_option linter.all false
set_option maxRecDepth 100000
namespace SW
open PySem L2

/-! ### subscripts -/
def dIx : DOp := fun x i μ Q => match x with
  | .str s => ∃ n c, i = .int n ∧ s.length ≤ sizeLine ∧ atI s n = some c ∧ Q (.str [c]) μ
  | x => ∃ n xs d, i = .int n ∧ seqOf μ x = some xs ∧ atI xs n = some d ∧ Q d μ
theorem at_reps {K : PySem.W.Frag} {F : Hp} {θ : List Addr} {xs : List D} {vs : List V} {n : Int} {d : D} (r : Reps K F θ xs vs) (h : atI xs n = some d) : ∃ v, atI vs n = some v ∧ Rep K F θ d v := by
  unfold atI at h ⊢
  rw [r.length] at h
  cases e : ixN vs.length n with
  | none => rw [e] at h; cases h
  | some j =>
    rw [e] at h
    exact r.get h
structure IxD (X : Cx) (f : DOp) : Prop where
  ex : ∃ r, IxR X r ∧ LOp X.K r f
theorem id_ix {X : Cx} : IxD X dIx := by
  refine ⟨_, IxR.or ix_list (IxR.or ix_tup ix_str), ?_⟩
  intro g μ H x y a b Q' Q a0 rx ry q k
  unfold dIx at q
  split at q
  · obtain ⟨n, c, rfl, hl, hc, q⟩ := q
    obtain rfl := rep_str rx
    obtain rfl := rep_int ry
    refine .inr (.inr ⟨_, n, c, rfl, rfl, by rw [mkS_len]; exact hl, by simpa [mkS] using hc, k.here a0 ?_ q⟩)
    unfold Rep
    rfl
  · obtain ⟨n, xs, d, rfl, hs, hd, q⟩ := q
    obtain rfl := rep_int ry
    obtain ⟨p, vs, rfl, h1, rs⟩ := seq_rd a0 rx hs
    obtain ⟨v, hv, rv⟩ := at_reps rs hd
    rcases h1 with h1 | h1
    · exact .inl ⟨p, vs, n, v, rfl, rfl, h1, hv, k.here a0 rv q⟩
    · exact .inr (.inl ⟨p, vs, n, v, rfl, rfl, h1, hv, k.here a0 rv q⟩)
section
variable {X : Cx} {W : WX} {e a b : Expr} {A B : TD} {pos : Pos}
theorem we_ix {f : DOp} (o : IxD X f) (ha : WX0 X W a A) (hb : WX0 X W b B) (hs : PlainIx b := by exact fun _ _ => rfl) : WX0 X W (.Subscript a b pos) (dOp f A B) := by
  obtain ⟨r, h1, h2⟩ := o.ex
  exact PE.imp (pe_ix h1 ha hb hs) (up_op h2)
end
/-- xs[i] = v, of a cell -/
def dSetL : DSet := fun o i v μ Q => ∃ k xs n j, o = .cell k ∧ μ[k]? = some (.lst xs) ∧ i = .int n ∧ ixN xs.length n = some j ∧ Q (μ.set k (.lst (xs.set j v)))
theorem sd_lst {X : Cx} : SetD X dSetL := by
  refine ⟨_, set_list, ?_⟩
  rintro g μ H o i v a b c Q' Q a0 ro ri rv ⟨k, xs, n, j, rfl, hk, rfl, hj, q⟩ kq
  obtain rfl := rep_int ri
  obtain ⟨p, rfl, hp, hF, vs, hH, rs⟩ := a0.cellAt hk (by simp) ro
  refine ⟨p, vs, n, j, rfl, rfl, hH, by rw [← rs.length]; exact hj, ?_⟩
  obtain ⟨a1, e1⟩ := a0.setC (ho := .lst (vs.set j c)) hk (by simp) hp (o' := .lst (xs.set j v)) ⟨_, upd_same, rs.set rv j⟩
  exact kq _ _ _ a1 e1 q

/-! ### lists that are read -/
def rdL (μ : Mu) : D → Option (List D)
  | .lst xs => some xs
  | .scr xs => some xs
  | .cell k => match μ[k]? with
    | some (.lst xs) => some xs
    | _ => none
  | _ => none
theorem rdL_rd {K : PySem.W.Frag} {g : Wd} {μ : Mu} {H : Hp} {d : D} {v : V} {xs : List D} (a : At K g μ H) (r : Rep K g.F g.th d v) (h : rdL μ d = some xs) : ∃ p vs, v = .ref p ∧ SqL K H p vs ∧ Reps K g.F g.th xs vs := by
  cases d with
  | lst ys =>
    cases h
    unfold Rep at r
    obtain ⟨p, vs, e, q, rs⟩ := r
    exact ⟨p, vs, e, SqL.of (a.sub _ _ q), rs⟩
  | scr ys =>
    cases h
    unfold Rep at r
    obtain ⟨p, vs, e, q, rs⟩ := r
    exact ⟨p, vs, e, sub_sqL a.sub q, rs⟩
  | cell k =>
    unfold rdL at h
    cases e : μ[k]? with
    | none => simp [e] at h
    | some o =>
      cases o with
      | lst ys =>
        simp [e] at h
        subst h
        obtain ⟨p, ev, hp, hF, vs, hH, rs⟩ := a.cellAt e (by simp) r
        exact ⟨p, vs, ev, SqL.of hH, rs⟩
      | _ => simp [e] at h
  | _ => cases h

/-! ### slices -/
abbrev TDP := DS → Mu → (Option Int → Mu → Prop) → DE → Prop
def upP (K : PySem.W.Frag) (W : WX) (A : TDP) : TO := fun σ H Q => ∃ (g : Wd) (μ : Mu) (δ : DS) (Q' : Option Int → Mu → Prop) (E' : DE), At K g μ H ∧ Sl K g σ δ ∧ A δ μ Q' E' ∧
  (∀ g' H' μ' b, At K g' μ' H' → Ext g H g' H' → Q' b μ' → Q b H') ∧
  (∀ g' H' μ' C δ', At K g' μ' H' → Ext g H g' H' → Sl K g' σ δ' → E' C δ' μ' → W C none σ H')
theorem PO.imp {X : Cx} {e : Option Expr} {t t' : TO} (h : PO X e t) (i : ∀ σ H Q, t' σ H Q → t σ H Q) : PO X e t' := ⟨fun pins s σ H Q I q => h.run pins s σ H Q I (i _ _ _ q)⟩
def dNoP : TDP := fun _ μ Q _ => Q none μ
def dPart (A : TD) : TDP := fun δ μ Q E => A δ μ (fun x μ1 => ∃ i, x = .int i ∧ Q (some i) μ1) E
abbrev WP (X : Cx) (W : WX) (e : Option Expr) (A : TDP) : Prop := PO X e (upP X.K W A)
def cutL {α : Type} (xs : List α) (lo hi : Option Int) : List α := (xs.drop (HT.sIx xs.length 0 lo)).take (HT.sIx xs.length xs.length hi - HT.sIx xs.length 0 lo)
abbrev DSl := D → Option Int → Option Int → Mu → DQ → Prop
def dSl (f : DSl) (A : TD) (L U : TDP) : TD := fun δ μ Q E => A δ μ (fun x μ1 => L δ μ1 (fun lo μ2 => U δ μ2 (fun hi μ3 => f x lo hi μ3 Q) E) E) E
def dCut (o : List D → Mu → DQ → Prop) : DSl := fun x lo hi μ Q => match x with
  | .str s => s.length ≤ sizeLine ∧ Q (.str (cutL s lo hi)) μ
  | .tup xs => Q (.tup (cutL xs lo hi)) μ
  | x => ∃ xs, rdL μ x = some xs ∧ o (cutL xs lo hi) μ Q
theorem cutL_reps {K : PySem.W.Frag} {F : Hp} {θ : List Addr} {xs : List D} {vs : List V} (r : Reps K F θ xs vs) (lo hi : Option Int) : Reps K F θ (cutL xs lo hi) (cutV vs lo hi) := by
  unfold cutL cutV
  rw [r.length]
  exact (r.drop _).take _
theorem cutS_mk (s : List Nat) (lo hi : Option Int) : cutS (mkS s) lo hi = mkS (cutL s lo hi) := by
  unfold cutS cutL
  rw [mkS_len]
section
variable {X : Cx} {W : WX} {e a b : Expr} {A B : TD} {L U : TDP} {lo hi : Option Expr} {pos p2 : Pos}
theorem wp_none : WP X W none dNoP := by
  refine PO.imp po_none ?_
  rintro σ H Q ⟨g, μ, δ, Q', E', a0, sl, h, k, kx⟩
  exact k g H μ none a0 (Ext.refl _ _) h
theorem wp_some (he : WX0 X W e A) : WP X W (some e) (dPart A) := by
  refine PO.imp (po_some he) ?_
  rintro σ H Q ⟨g, μ, δ, Q', E', a0, sl, h, k, kx⟩
  refine ⟨g, μ, δ, _, E', a0, sl, h, fun g1 H1 μ1 d v a1 e1 r1 ⟨i, hi, q⟩ => ?_, kx⟩
  subst hi
  exact ⟨i, rep_int r1, k g1 H1 μ1 _ a1 e1 q⟩
theorem we_cut {o : List D → Mu → DQ → Prop} (ho : OutOk X.K o) (he : WX0 X W e A) (hl : WP X W lo L) (hu : WP X W hi U) : WX0 X W (.Subscript e (.Slice lo hi none p2) pos) (dSl (dCut o) A L U) := by
  refine PE.imp (pe_slice (SlR.or sl_list (SlR.or sl_tupA sl_str)) he hl hu) ?_
  rintro σ H Q ⟨g, μ, δ, Q', E', a0, sl, h, k, kx⟩
  refine ⟨g, μ, δ, _, E', a0, sl, h, fun g1 H1 μ1 x v a1 e1 r1 q1 => ?_, kx⟩
  refine ⟨g1, μ1, δ, _, E', a1, sl.ext e1, q1, fun g2 H2 μ2 l a2 e2 q2 => ?_, fun g2 H2 μ2 C δ2 a2 e2 s2 q2 => kx g2 H2 μ2 C δ2 a2 (e1.trans e2) s2 q2⟩
  refine ⟨g2, μ2, δ, _, E', a2, sl.ext (e1.trans e2), q2, fun g3 H3 μ3 u a3 e3 q3 => ?_, fun g3 H3 μ3 C δ3 a3 e3 s3 q3 => kx g3 H3 μ3 C δ3 a3 (e1.trans (e2.trans e3)) s3 q3⟩
  have e13 := e1.trans (e2.trans e3)
  have r3 := (r1.ext e2).ext e3
  have kk : Kt X.K g3 H3 Q' Q := fun g4 H4 μ4 d w a4 e4 r4 q4 => k g4 H4 μ4 d w a4 (e13.trans e4) r4 q4
  clear r1
  unfold dCut at q3
  split at q3
  · obtain rfl := rep_str r3
    refine .inr (.inr ⟨_, rfl, by rw [mkS_len]; exact q3.1, ?_⟩)
    rw [cutS_mk]
    exact kk.here a3 rep_strI q3.2
  · unfold Rep at r3
    obtain ⟨p, vs, rfl, hq, rs⟩ := r3
    rename_i xs
    refine .inr (.inl ⟨p, vs, rfl, SqT.of (a3.sub _ _ hq), fun hw => ?_, fun _ n hn => ?_⟩)
    · have ew : cutL xs l u = xs := by
        unfold cutL
        rw [rs.length, hw.1, hw.2]
        simp [← rs.length]
      rw [ew] at q3
      refine kk.here a3 ?_ q3
      unfold Rep
      exact ⟨p, vs, rfl, hq, rs⟩
    · obtain ⟨g4, a4, e4, r4⟩ := a3.newTup hn (cutL_reps rs l u)
      exact kk _ _ _ _ _ a4 e4 r4 q3
  · obtain ⟨xs, hs, q3⟩ := q3
    obtain ⟨p, vs, rfl, h1, rs⟩ := rdL_rd a3 r3 hs
    exact .inl ⟨p, vs, rfl, h1, fun n hn => ho g3 μ3 H3 n _ _ Q' Q a3 hn (cutL_reps rs l u) q3 kk⟩
end

/-! ### methods of lists and texts -/
inductive MK where
  | lst | str
def MK.n : MK → String
  | .lst => "list"
  | .str => "str"
def isK (μ : Mu) (x : D) : MK → Prop
  | .lst => ∃ xs, rdL μ x = some xs
  | .str => ∃ s, x = .str s
theorem isK_ty {K : PySem.W.Frag} {g : Wd} {μ : Mu} {H : Hp} {x : D} {v : V} {k : MK} (a : At K g μ H) (r : Rep K g.F g.th x v) (h : isK μ x k) : tyV K k.n v H := by
  cases k with
  | lst =>
    obtain ⟨xs, h⟩ := h
    obtain ⟨p, vs, rfl, q, _⟩ := rdL_rd a r h
    exact .inl ⟨rfl, _, q⟩
  | str =>
    obtain ⟨s, rfl⟩ := h
    obtain rfl := rep_str r
    rfl
def dBM (k : MK) (f : DMt) (A : TD) (B : TDA) : TD := fun δ μ Q E => A δ μ (fun x μ1 => isK μ1 x k ∧ B δ μ1 (fun xs μ2 => f x xs μ2 Q) E) E
structure MtD (X : Cx) (id : String) (f : DMt) : Prop where
  ex : ∃ r, MtR X id r ∧ LMt X.K r f
section
variable {X : Cx} {W : WX} {o e : Expr} {es : List Expr} {A : TD} {B : TDA} {name : Str} {apos cpos : Pos} {id : String} {f : DMt}
theorem we_bm (k : MK) (m : MtD X id f) (pa : PlainAttrs k.n) (slot : Slot k.n name id) (hty : typeOf (.builtin id) = pure (.type "method_descriptor")) (ho : WX0 X W o A) (ha : WA X W (e :: es) B)
    (hbase : attributeBase o name X.env (eval o X.env) = eval o X.env := by rfl)
    (hfew : ((backTo cpos (starEach (e :: es) X.env)).all (fun x => !x.1) && (backToKw cpos (keywordEach [] X.env)).all (fun x => x.1.isSome)
      && decide ((e :: es).length + ([] : List Keyword).length + (if ([] : List Keyword).isEmpty then 0 else 1) < 30)) = true := by rfl)
    (hline : (apos.endLine == cpos.line) = true := by rfl) (hs : starEach (e :: es) X.env = (false, eval e X.env) :: starEach es X.env := by rfl) (hplain : (backTo cpos (starEach es X.env)).any (·.1) = false := by rfl) :
    WX0 X W (.Call (.Attribute o name apos) (e :: es) [] cpos) (dBM k f A B) := by
  obtain ⟨r, h1, h2⟩ := m.ex
  refine PE.imp (pe_bm pa slot hty h1 ho ha hbase hfew hline hs hplain) ?_
  rintro σ H Q ⟨g, μ, δ, Q', E', a0, sl, h, kq, kx⟩
  refine ⟨g, μ, δ, _, E', a0, sl, h, fun g1 H1 μ1 x v a1 e1 r1 ⟨hk, q1⟩ => ⟨isK_ty a1 r1 hk, ?_⟩, kx⟩
  refine ⟨g1, μ1, δ, _, E', a1, sl.ext e1, q1, fun g2 H2 μ2 xs vs a2 e2 r2 q2 => ?_, fun g2 H2 μ2 C δ2 a2 e2 s2 q2 => kx g2 H2 μ2 C δ2 a2 (e1.trans e2) s2 q2⟩
  exact h2 g2 μ2 H2 x v xs vs Q' Q a2 (r1.ext e2) r2 q2 fun g3 H3 μ3 d u a3 e3 r3 q3 => kq g3 H3 μ3 d u a3 (e1.trans (e2.trans e3)) r3 q3
theorem we_bm0 (k : MK) (m : MtD X id f) (pa : PlainAttrs k.n) (slot : Slot k.n name id) (hty : typeOf (.builtin id) = pure (.type "method_descriptor")) (ho : WX0 X W o A)
    (hbase : attributeBase o name X.env (eval o X.env) = eval o X.env := by rfl) (hline : (apos.endLine == cpos.line) = true := by rfl) : WX0 X W (.Call (.Attribute o name apos) [] [] cpos) (dBM k f A dNil) := by
  obtain ⟨r, h1, h2⟩ := m.ex
  refine PE.imp (pe_bm0 pa slot hty h1 ho hbase hline) ?_
  rintro σ H Q ⟨g, μ, δ, Q', E', a0, sl, h, kq, kx⟩
  refine ⟨g, μ, δ, _, E', a0, sl, h, fun g1 H1 μ1 x v a1 e1 r1 ⟨hk, q1⟩ => ⟨isK_ty a1 r1 hk, ?_⟩, kx⟩
  exact h2 g1 μ1 H1 x v [] [] Q' Q a1 r1 Reps.nil q1 fun g3 H3 μ3 d u a3 e3 r3 q3 => kq g3 H3 μ3 d u a3 (e1.trans e3) r3 q3
end
theorem rep_nonI {K : PySem.W.Frag} {F : Hp} {θ : List Addr} : Rep K F θ .non .non := by unfold Rep; rfl
def dAppend : DMt := fun x ys μ Q => ∃ k xs y, x = .cell k ∧ ys = [y] ∧ μ[k]? = some (.lst xs) ∧ xs.length < sizeLine ∧ Q .non (μ.set k (.lst (xs ++ [y])))
theorem md_append {X : Cx} : MtD X "list.append" dAppend := by
  refine ⟨_, mt_append, ?_⟩
  rintro g μ H x a xs as Q' Q a0 rx rs ⟨k, ys, y, rfl, rfl, hk, hl, q⟩ kq
  obtain ⟨p, rfl, hp, hF, vs, hH, r⟩ := a0.cellAt hk (by simp) rx
  obtain ⟨w, rfl, rw'⟩ := reps1 rs
  obtain ⟨a1, e1⟩ := a0.setC (ho := .lst (vs ++ [w])) hk (by simp) hp (o' := .lst (ys ++ [y])) ⟨_, upd_same, r.append (Reps.cons rw' Reps.nil)⟩
  exact ⟨p, vs, w, rfl, rfl, hH, by rw [← r.length]; exact hl, kq _ _ _ _ _ a1 e1 rep_nonI q⟩
def dExtend : DMt := fun x ys μ Q => ∃ k xs y zs, x = .cell k ∧ ys = [y] ∧ μ[k]? = some (.lst xs) ∧ y ≠ .cell k ∧ lstOf μ y = some zs ∧ xs.length + zs.length ≤ sizeLine ∧ Q .non (μ.set k (.lst (xs ++ zs)))
theorem Reps.dropLast {K : PySem.W.Frag} {F : Hp} {θ : List Addr} {ds : List D} {vs : List V} (r : Reps K F θ ds vs) : Reps K F θ ds.dropLast vs.dropLast := by
  rw [List.dropLast_eq_take, List.dropLast_eq_take, r.length]
  exact r.take _
def dPop : DMt := fun x ys μ Q => ∃ k xs y, x = .cell k ∧ ys = [] ∧ μ[k]? = some (.lst xs) ∧ xs[xs.length - 1]? = some y ∧ Q y (μ.set k (.lst xs.dropLast))
theorem md_pop {X : Cx} : MtD X "list.pop" dPop := by
  refine ⟨_, mt_pop, ?_⟩
  rintro g μ H x a xs as Q' Q a0 rx rs ⟨k, ys, y, rfl, rfl, hk, hy, q⟩ kq
  obtain ⟨p, rfl, hp, hF, vs, hH, r⟩ := a0.cellAt hk (by simp) rx
  unfold Reps at rs
  subst rs
  obtain ⟨w, hw, rw'⟩ := r.get hy
  obtain ⟨a1, e1⟩ := a0.setC (ho := .lst vs.dropLast) hk (by simp) hp (o' := .lst ys.dropLast) ⟨_, upd_same, r.dropLast⟩
  exact ⟨p, vs, w, rfl, rfl, hH, by rw [← r.length]; exact hw, kq _ _ _ _ _ a1 e1 (rw'.ext e1) q⟩
/-- texts -/
def dFind2 : DMt := fun x ys μ Q => ∃ s t i, x = .str s ∧ ys = [.str t, .int i] ∧ Q (.int (Txt.find3 (mkS s) (mkS t) i)) μ
def dRfind3 : DMt := fun x ys μ Q => ∃ s t i j, x = .str s ∧ ys = [.str t, .int i, .int j] ∧ Q (.int (Txt.rfindIn (mkS s) (mkS t) i j)) μ
/-- texts in a list -/
def strsOf : List D → Option (List (List Nat))
  | [] => some []
  | .str s :: r => (strsOf r).map fun t => s :: t
  | _ :: _ => none
def joinL (sep : List Nat) : List (List Nat) → List Nat
  | [] => []
  | [x] => x
  | x :: y :: r => x ++ sep ++ joinL sep (y :: r)
theorem strs_rd {K : PySem.W.Frag} {F : Hp} {θ : List Addr} : ∀ {ds : List D} {vs : List V} {ss : List (List Nat)}, strsOf ds = some ss → Reps K F θ ds vs → vs = (ss.map mkS).map V.str
  | [], vs, ss, h, r => by unfold Reps at r; cases h; subst r; rfl
  | d :: ds, vs, ss, h, r => by
    unfold Reps at r
    obtain ⟨v, q, rfl, r1, r2⟩ := r
    cases d <;> first
      | (unfold strsOf at h
         rw [Option.map_eq_some_iff] at h
         obtain ⟨t, ht, rfl⟩ := h
         rw [strs_rd ht r2, rep_str r1]
         rfl)
      | (unfold strsOf at h
         cases h)
theorem join_fold (sep : List Nat) : ∀ (r : List (List Nat)) (a : Array Nat), (r.map mkS).foldl (fun acc p => acc ++ (mkS sep).cps ++ p.cps) a = a ++ ((r.map fun t => sep ++ t).flatten).toArray
  | [], a => by simp
  | t :: r, a => by
    rw [List.map_cons, List.foldl_cons, join_fold sep r, List.map_cons, List.flatten_cons]
    apply Array.toList_inj.mp
    simp [mkS]
theorem joinL_cons (sep x : List Nat) : ∀ r : List (List Nat), joinL sep (x :: r) = x ++ (r.map fun t => sep ++ t).flatten
  | [] => by simp [joinL]
  | y :: r => by
    unfold joinL
    rw [joinL_cons sep y r]
    simp
theorem join_mkS (sep : List Nat) (ss : List (List Nat)) : Txt.join (mkS sep) (ss.map mkS) = mkS (joinL sep ss) := by
  unfold Txt.join Builtin.Str.glued
  cases ss with
  | nil => rfl
  | cons x r =>
    rw [List.map_cons, List.drop_succ_cons, List.drop_zero, List.headD_cons, join_fold, joinL_cons]
    simp [mkS]
def dJoin : DMt := fun x ys μ Q => ∃ sep y xs ss, x = .str sep ∧ ys = [y] ∧ rdL μ y = some xs ∧ strsOf xs = some ss ∧ (ss.map List.length).sum + ss.length * sep.length ≤ 16777216 ∧ Q (.str (joinL sep ss)) μ
theorem md_join {X : Cx} : MtD X "str.join" dJoin := by
  refine ⟨_, mt_join, ?_⟩
  rintro g μ H x a xs as Q' Q a0 rx rs ⟨sep, y, ds, ss, rfl, rfl, hy, hs, hl, q⟩ kq
  obtain rfl := rep_str rx
  obtain ⟨v, rfl, r1⟩ := reps1 rs
  obtain ⟨p, vs, rfl, hq, rr⟩ := rdL_rd a0 r1 hy
  have e := strs_rd hs rr
  subst e
  refine ⟨mkS sep, p, ss.map mkS, rfl, rfl, .inl hq, ?_, ?_⟩
  · have e1 : (ss.map mkS).map (fun z : Str => z.length) = ss.map List.length := by
      rw [List.map_map]
      exact List.map_congr_left fun t _ => mkS_len t
    rw [e1, List.length_map, mkS_len]
    exact hl
  · rw [join_mkS]
    exact kq.here a0 rep_strI q

/-! ### calls of what is built in -/
def ca1 (f : DUn) : DCa := fun xs μ Q => ∃ x, xs = [x] ∧ f x μ Q
def dLen : DUn := fun x μ Q => match x with
  | .str s => s.length ≤ sizeLine ∧ Q (.int s.length) μ
  | .cell k => (∃ xs, μ[k]? = some (.lst xs) ∧ Q (.int xs.length) μ)
  | x => ∃ xs, seqOf μ x = some xs ∧ Q (.int xs.length) μ
theorem ld_len {X : Cx} : CalD X (.builtin "len") (ca1 dLen) := by
  refine ⟨_, call_len, ?_⟩
  rintro g μ H xs as Q' Q a0 rs ⟨x, rfl, q⟩ k
  obtain ⟨v, rfl, rv⟩ := reps1 rs
  have seq : ∀ ys, seqOf μ x = some ys → Q' (.int ys.length) μ → ∃ y n, [v] = [y] ∧ LenV X.K y H n ∧ Q (.int n) H := fun ys hs q => by
    obtain ⟨p, vs, rfl, h1, rr⟩ := seq_rd a0 rv hs
    refine ⟨.ref p, vs.length, rfl, ?_, by rw [← rr.length]; exact k.here a0 rep_intI q⟩
    rcases h1 with h1 | h1
    · exact .inl ⟨vs, h1, rfl⟩
    · exact .inr ⟨vs, h1, rfl⟩
  unfold dLen at q
  split at q
  · obtain rfl := rep_str rv
    refine ⟨_, _, rfl, ⟨by rw [mkS_len]; exact q.1, rfl⟩, ?_⟩
    rw [mkS_len]
    exact k.here a0 rep_intI q.2
  · obtain ⟨ys, hk, q⟩ := q
    exact seq ys (by simp [seqOf, hk]) q
  · obtain ⟨ys, hs, q⟩ := q
    exact seq ys hs q
def dIntOf : DUn := fun x μ Q => match x with
  | .int i => Q (.int i) μ
  | .bl b => Q (.int (if b then 1 else 0)) μ
  | _ => False
theorem ld_int {X : Cx} : CalD X (.type "int") (ca1 dIntOf) := by
  refine ⟨_, call_int1, ?_⟩
  rintro g μ H xs as Q' Q a0 rs ⟨x, rfl, q⟩ k
  obtain ⟨v, rfl, rv⟩ := reps1 rs
  unfold dIntOf at q
  split at q
  · obtain rfl := rep_int rv
    exact .inl ⟨_, rfl, k.here a0 rep_intI q⟩
  · obtain rfl := rep_blv rv
    exact .inr ⟨_, rfl, k.here a0 rep_intI q⟩
  · exact q.elim
def dMin2 : DCa := fun xs μ Q => ∃ i j, xs = [.int i, .int j] ∧ Q (.int (if j < i then j else i)) μ
def dMax2 : DCa := fun xs μ Q => ∃ i j, xs = [.int i, .int j] ∧ Q (.int (if j > i then j else i)) μ
/-- list(x), tuple(x) of a list or tuple -/
def dListOf (o : List D → Mu → DQ → Prop) : DUn := fun x μ Q => ∃ xs, seqOf μ x = some xs ∧ o xs μ Q
def dTupOf : DUn := fun x μ Q => ∃ xs, seqOf μ x = some xs ∧ Q (.tup xs) μ
/-! #### isinstance -/
def tyN : Mu → D → Option String
  | _, .non => some "NoneType"
  | _, .bl _ => some "bool"
  | _, .int _ => some "int"
  | _, .str _ => some "str"
  | _, .tup _ => some "tuple"
  | _, .lst _ => some "list"
  | _, .dct _ _ _ => some "dict"
  | _, .dcn _ _ _ => some "dict"
  | μ, .cell k => match μ[k]? with
    | some (.lst _) => some "list"
    | some (.dct _ _ _) => some "dict"
    | some (.dcn _ _ _) => some "dict"
    | _ => none
  | _, _ => none
def dIsi : DCa := fun xs μ Q => ∃ x n t b, xs = [x, .val (.ty n)] ∧ tyN μ x = some t ∧ kitB t n = some b ∧ Q (.bl b) μ
theorem tyN_rd {K : PySem.W.Frag} {g : Wd} {μ : Mu} {H : Hp} {x : D} {v : V} {t : String} (a : At K g μ H) (r : Rep K g.F g.th x v) (h : tyN μ x = some t) : TyX K H v (.type t) ∨ (∃ (p : Addr) (o : Obj) (kvs : List (List Key × V)), v = .ref p ∧ H p = some (.frz o (.dT kvs)) ∧ t = "dict") ∨ ∃ (p : Addr) (w : World) (xs : List NEnt), v = .ref p ∧ Rd H p (NkO w p xs) ∧ t = "dict" := by
  cases x with
  | non => cases h; unfold Rep at r; subst r; exact .inl <| .base .non
  | bl b => cases h; unfold Rep at r; subst r; exact .inl <| .base (.bl _)
  | int b => cases h; unfold Rep at r; subst r; exact .inl <| .base (.int _)
  | str b => cases h; unfold Rep at r; subst r; exact .inl <| .base (.str _)
  | tup xs =>
    cases h
    unfold Rep at r
    obtain ⟨p, vs, rfl, q, _⟩ := r
    exact .inl <| .base (.tup (a.sub _ _ q))
  | lst xs =>
    cases h
    unfold Rep at r
    obtain ⟨p, vs, rfl, q, _⟩ := r
    exact .inl <| .base (.lst (a.sub _ _ q))
  | dct tt ks vs =>
    cases h
    unfold Rep at r
    obtain ⟨p, ws, rfl, _, _, q⟩ := r
    rcases q with ⟨kk, _, q⟩ | ⟨kk, _, q⟩
    · obtain ⟨o, q⟩ := q
      exact .inl <| .fDict (a.sub _ _ q)
    · obtain ⟨o, q⟩ := q
      exact .inr <| .inl ⟨p, o, _, rfl, a.sub _ _ q, rfl⟩
  | dcn w kk vs =>
    cases h
    unfold Rep at r
    obtain ⟨p, ws, bs, rfl, _, _, _, o, q⟩ := r
    exact .inr <| .inr ⟨p, _, _, rfl, .inr ⟨o, a.sub _ _ q⟩, rfl⟩
  | cell k =>
    unfold tyN at h
    cases e : μ[k]? with
    | none => simp [e] at h
    | some o =>
      cases o with
      | lst ys =>
        simp [e] at h
        subst h
        obtain ⟨p, rfl, hp, hF, vs, hH, rs⟩ := a.cellAt e (by simp) r
        exact .inl <| .base (.lst hH)
      | dct tt ks ys =>
        simp [e] at h
        subst h
        obtain ⟨p, rfl, hp, hF, vs, _, _, q⟩ := a.cellAt e (by simp) r
        rcases q with ⟨kk, _, q⟩ | ⟨kk, _, q⟩
        · exact .inl <| .base (.dK q)
        · exact .inl <| .base (.dT q)
      | dcn w kk ys =>
        simp [e] at h
        subst h
        obtain ⟨p, rfl, hp, hF, vs, bs, q, _⟩ := a.cellAt e (by simp) r
        exact .inr <| .inr ⟨p, _, _, rfl, .inl q, rfl⟩
      | _ => simp [e] at h
  | scr xs => cases h
  | val v => cases h
  | exc v => cases h
theorem call_isiFT {X : Cx} : CallR X (.builtin "isinstance") (fun xs H Q => ∃ (p : Addr) (o : Obj) (kvs : List (List Key × V)) (n : String) (b : Bool), xs = [.ref p, .ty n] ∧ H p = some (.frz o (.dT kvs)) ∧ kitB "dict" n = some b ∧ Q (.bl b) H) := by
  intro pins s σ H xs us Q I r h
  obtain ⟨p, o, kvs, n, b, rfl, hp, e, q⟩ := h
  obtain ⟨u1, u2, rfl, r1, r2⟩ := vals2 r
  cases (show u1 = Value.ref p from r1)
  obtain rfl : u2 = .type n := r2
  obtain ⟨hs, hgd, hx, _⟩ := I.frzT hp
  exact PySem.W.kia_one PySem.W.kitx_dict I.kIn ⟨o, hgd, hx.1⟩ (kit_ty e) (fun z => nomatch z) fun tk => ⟨.bl b, H, I.tok tk, rfl, q⟩
theorem call_isiN {X : Cx} : CallR X (.builtin "isinstance") (fun xs H Q => ∃ (p : Addr) (w : World) (ys : List NEnt) (n : String) (b : Bool), xs = [.ref p, .ty n] ∧ Rd H p (NkO w p ys) ∧ kitB "dict" n = some b ∧ Q (.bl b) H) := by
  intro pins s σ H xs us Q I r h
  obtain ⟨p, w, ys, n, b, rfl, hp, e, q⟩ := h
  obtain ⟨u1, u2, rfl, r1, r2⟩ := vals2 r
  cases (show u1 = Value.ref p from r1)
  obtain rfl : u2 = .type n := r2
  obtain ⟨_, _, _, _, o, es, ep, hgd, hx, _⟩ := (hp.ok I.hok).1
  exact PySem.W.kia_one PySem.W.kitx_dict I.kIn ⟨o, hgd, hx.1⟩ (kit_ty e) (fun z => nomatch z) fun tk => ⟨.bl b, H, I.tok tk, rfl, q⟩
theorem ld_isi {X : Cx} : CalD X (.builtin "isinstance") dIsi := by
  refine ⟨_, CallR.or call_isi (CallR.or call_isiFT call_isiN), ?_⟩
  rintro g μ H xs as Q' Q a0 rs ⟨x, n, t, b, rfl, ht, hb, q⟩ k
  obtain ⟨v, w, rfl, r1, r2⟩ := reps2 rs
  have e : w = .ty n := by unfold Rep at r2; exact r2
  subst e
  rcases tyN_rd a0 r1 ht with z | ⟨p, o, kvs, rfl, hp, rfl⟩ | ⟨p, w, ys, rfl, hp, rfl⟩
  · exact .inl ⟨v, .ty n, .type t, .type n, b, rfl, .ty n, z, kit_ty hb, k.here a0 rep_bl q⟩
  · exact .inr (.inl ⟨p, o, kvs, n, b, rfl, hp, hb, k.here a0 rep_bl q⟩)
  · exact .inr (.inr ⟨p, w, ys, n, b, rfl, hp, hb, k.here a0 rep_bl q⟩)
/-- a built-in class as a value -/
theorem we_bty {X : Cx} {W : WX} {x : Str} {n : String} {pos : Pos} (hm : X.mg x = none) (hv : bootBuiltins x = some (.type n)) (hg : Gl X x := by rfl) (hn : x ≠ "__name__" := by decide) (hd : (x == ("__debug__" : Str)) = false := by decide) : WX0 X W (.Name x pos) (dC (.val (.ty n))) :=
  PE.imp (pe_bltn (v := .ty n) hg hm hv rfl hn hd) (up_c fun _ _ => by unfold Rep; rfl)
end SW

end

section
set_option Elab.async false
set_option linter.all false
set_option maxRecDepth 100000
namespace SW
open PySem PySem.Spec L2

/-! ### raise -/
structure ExcF (K : PySem.W.Frag) (mg : Str → Option Value) (x : Str) (C : Addr) : Prop where
  g : mg x = some (.ref C)
  k : PySem.W.keepIn K (.ref C) = true
  q : PySem.W.excIn K C [.type "ValueError", .type "Exception", .type "BaseException", .type "object"] "ValueError.__new__" = true
  b : PySem.W.subIn K (.ref C) (.type "BaseException") = some true
  t : PySem.W.typeIn K (.ref C) = some (.type "type")
def dRaise (C : Addr) : TDS := fun D δ μ => D.ex (.ref C) δ μ
theorem ws_raise {X : Cx} {W : WX} {x m : Str} {C : Addr} {j : Nat} {p p2 pos pos2 : Pos} (T : ExcF X.K X.mg x C) (tk : Takes X W) (hc : X.calm = true := by rfl) (hg : Gl X x := by rfl) (hdb : (x == ("__debug__" : Str)) = false := by decide) :
    WS X W (.Raise (some (.Call (.Name x p) [.Constant (.str m) j p2] [] pos)) none pos2) (dRaise C) := by
  refine PS.imp (ps_raise hc tk (pmk_own PySem.F.excBase_ValueError T.q T.g T.k (raises_own T.b T.t) hg hdb)) ?_
  rintro D σ H ⟨g, μ, δ, D', a0, sl, h, k1, k2, k3, k4, k5⟩
  exact k5 g H μ _ δ σ a0 (Ext.refl _ _) sl h

/-! ### reversed -/
def dRev (A : TDA) : TDI := fun δ μ Q E => A δ μ (fun xs μ1 => ∃ ds, xs = [.lst ds] ∧ Q ds.reverse μ1) E
/-! ### the items turned about -/
def stepL (c : Int) (s : List Nat) : List Nat := (Builtin.Str.strSliceIndices none none c s.length).filterMap (s[·]?)
theorem range_rev (n : Nat) : ((List.range n).map fun (k : Nat) => (((n : Int) - 1) + (-1) * (k : Int)).toNat) = (List.range n).reverse := by
  apply List.ext_getElem
  · simp
  · intro i h1 h2
    simp at h1
    simp [List.getElem_reverse]
    omega
theorem stepL_rev (s : List Nat) : stepL (-1) s = s.reverse := by
  unfold stepL Builtin.Str.strSliceIndices
  have e1 : sliceRange ((s.length : Int) - 1) (-1) (-1) = (List.range s.length).reverse := by
    unfold sliceRange
    have : (if ((-1 : Int) > 0) then (if ((s.length : Int) - 1) < (-1) then ((-1 : Int) - ((s.length : Int) - 1) + (-1) - 1) / (-1) else 0) else (if ((s.length : Int) - 1) > (-1) then (((s.length : Int) - 1) - (-1) - (-1) - 1) / (-(-1)) else 0)) = (s.length : Int) := by
      rw [if_neg (by decide)]
      split
      · simp
      · omega
    rw [this]
    simp only [Int.toNat_natCast]
    exact range_rev _
  show (sliceRange ((s.length : Int) - 1) (-1) (-1)).filterMap _ = _
  rw [e1, List.filterMap_reverse]
  congr 1
  apply List.ext_getElem?
  intro i
  have go : ∀ (l : List Nat) (n : Nat), n ≤ l.length → (List.range n).filterMap (l[·]?) = l.take n := by
    intro l n
    induction n with
    | zero => intro _; rfl
    | succ n ih =>
      intro hn
      rw [List.range_succ, List.filterMap_append, ih (by omega), List.take_add_one]
      simp [List.getElem?_eq_getElem (show n < l.length by omega)]
  rw [go s _ (Nat.le_refl _), List.take_length]
/-- e[::c] -/
def dStep (c : Int) (o : List D → Mu → DQ → Prop) : DUn := fun x μ Q => match x with
  | .str s => s.length ≤ sizeLine ∧ Q (.str (stepL c s)) μ
  | x => c = -1 ∧ ∃ xs, rdL μ x = some xs ∧ o xs.reverse μ Q
section
variable {X : Cx} {W : WX} {e : Expr} {A : TD} {p1 p2 p3 pos : Pos} {k : Nat}
end
end SW

end

section
set_option Elab.async false
set_option linter.all false
set_option maxRecDepth 100000
namespace SW
open PySem L2
/-! ### list(text) -/
theorem call_list_txt {X : Cx} (hc : X.calm = true := by rfl) : CallR X (.type "list") (fun xs H Q => ∃ z : Str, xs = [.str z] ∧ z.cps.size ≤ sizeLine ∧ ∀ l, H l = none → Q (.ref l) (upd H l (.lst (z.cps.toList.map fun c => .str ⟨#[c]⟩)))) := by
  intro pins s σ H xs us Q I r h
  obtain ⟨z, rfl, hz, q⟩ := h
  obtain ⟨u, rfl, rx⟩ := vals1 r
  obtain ⟨t, rfl⟩ : ∃ t, u = .str z t := rx
  refine call_list_str (I.ok.hd hc) z t (fun h' tk acc' c' kp e hit => ?_) hz
  have rv : Vals (z.cps.toList.map fun c => V.str ⟨#[c]⟩) acc'.toList := by
    refine vals_of_at ?_ ?_
    · rw [List.length_map, Array.length_toList, Array.length_toList, hit.1]
    · intro j x u hx hu
      rw [List.getElem?_map, Array.getElem?_toList] at hx
      rw [Array.getElem?_toList] at hu
      obtain ⟨c, w, h1, rfl⟩ := hit.2 j u hu
      rw [h1] at hx
      cases hx
      exact ⟨_, rfl⟩
  exact ⟨.ref s.heap.objs.size, _, I.laid (t' := tk) kp (Nat.le_refl _) (show ObjOk X.prog X.w _ h' _ (.lst _) from ⟨by rw [List.length_map, Array.length_toList]; exact hz, acc'.toList, c', rv, e⟩), rfl, q _ (I.hok.fresh (Nat.le_refl _))⟩
def dListA (o : List D → Mu → DQ → Prop) : DUn := fun x μ Q => match x with
  | .str s => s.length ≤ sizeLine ∧ o (chars s) μ Q
  | x => dListOf o x μ Q
theorem ld_listA {X : Cx} {o : List D → Mu → DQ → Prop} (ho : OutOk X.K o) (hc : X.calm = true := by rfl) : CalD X (.type "list") (ca1 (dListA o)) := by
  refine ⟨_, CallR.or call_list_of (call_list_txt hc), ?_⟩
  rintro g μ H xs as Q' Q a0 rs ⟨x, rfl, q⟩ k
  obtain ⟨v, rfl, rv⟩ := reps1 rs
  have old : dListOf o x μ Q' → ∃ p ys, [v] = [V.ref p] ∧ (SqL X.K H p ys ∨ SqT X.K H p ys) ∧ ∀ l, H l = none → Q (.ref l) (upd H l (.lst ys)) := fun ⟨ys, hy, q⟩ => by
    obtain ⟨p, vs, rfl, h1, rr⟩ := seq_rd a0 rv hy
    exact ⟨p, vs, rfl, h1, fun n hn => ho g μ H n _ _ Q' Q a0 hn rr q k⟩
  cases x with
  | str s =>
    obtain rfl := rep_str rv
    refine .inr ⟨mkS s, rfl, ?_, fun n hn => ?_⟩
    · show s.toArray.size ≤ sizeLine
      rw [List.size_toArray]
      exact q.1
    · have e : (mkS s).cps.toList = s := List.toList_toArray ..
      rw [e]
      exact ho g μ H n _ _ Q' Q a0 hn (reps_chars s) q.2 k
  | _ => exact .inl (old q)
end SW

end

section
set_option Elab.async false
set_option linter.all false
set_option maxRecDepth 100000
namespace SW
open PySem L2 PyProof.Rows

/-! ### the end: from the reading of the law's own def to the row's promise -/
theorem fn_mk {P : Program} {w : World} {K : PySem.W.Frag} {mg : Str → Option Value} {base : Heap} {x : Str} {st : Stmt} {f : Addr} {fd : FuncData} {N ps : List Str} {k : Nat} {S : DSp} (F0 : Fun K x x st f fd) (Sc : FnScope N ps (defScope st)) (len : ∀ ds μ Q E, S ds μ Q E → ds.length = ps.length)
    (hb : ∀ (f : Addr) (cdv : Value) (A : Around) (outer : List Env) (s : Shared) (H : Hp) (E : XK), Room k (A.deeper (envOfC x (defScope st) s.heap.objs.size f cdv)) →
      Takes (cxOf (L2.CX P w) P w K mg base N x (defScope st) f cdv A outer s H E) (fun c d _ H => E c d H) →
      PassesOwn (model P w) (A.deeper (envOfC x (defScope st) s.heap.objs.size f cdv)) (envOfC x (defScope st) s.heap.objs.size f cdv) (cxOf (L2.CX P w) P w K mg base N x (defScope st) f cdv A outer s H E).xe →
      ∃ A', WSs (cxOf (L2.CX P w) P w K mg base N x (defScope st) f cdv A outer s H E) (fun c d _ H => E c d H) (defBody st) A' ∧ ∀ ds μ Q E', S ds μ Q E' → A' (endD μ.length Q E') (startD N ds) μ) :
    FnOk P w K mg base (L2.CX P w) (k + 1) f fd ps (upF K S) := by
  refine SW.okX F0 Sc (fun vs H Q E ⟨g, μ, ds, Q', E', a, r, h, _⟩ => by rw [← r.length]; exact len ds μ Q' E' h) fun cdv A outer s H vs Q E hr hsp => ?_
  obtain ⟨A', hA, run⟩ := hb f cdv A outer s H E hr (takes_of rfl rfl rfl rfl) (passes_of rfl)
  refine ⟨_, hA, ?_⟩
  obtain ⟨g, μ, ds, Q', E', a, r, h, k1, k2⟩ := hsp
  refine ⟨g, μ, startD N ds, endD μ.length Q' E', a, sl_start r, run ds μ Q' E' h, fun g' H' μ' δ' σ' a' e' s' q => ?_, fun g' H' μ' d v a' e' r' q => rtD_run (μ := μ) a.len k1 a' e' r' q, fun _ _ _ _ _ _ _ _ z => z.elim, fun _ _ _ _ _ _ _ _ z => z.elim, fun g' H' μ' C δ' σ' a' e' s' q => ?_⟩
  · exact rtD_run (μ := μ) (d := .non) (v := .non) a.len k1 a' e' (by unfold Rep; rfl) q
  · rcases q with ⟨h1, h2⟩ | h
    · have e2 := e'.drop
      rw [a.len] at e2
      exact k2 _ _ _ C (a'.drop _ h1) e2 h2
    · exact k2 _ _ _ C a' e' h
theorem gfun_mk {K : PySem.W.Frag} {h : Heap} {mg : Str → Option Value} {x : Str} {st : Stmt} {ps : List Str} {f : Addr} {od an : Option Addr} {sl : Array (Option Value)} {oc kV dc pm cd ct : Value} (X : K.In h) (G : h.Ns mainGlobals mg)
    (a : PySem.W.nsIn K mainGlobals x = some (some (.ref f))) (l : K.lookup f = some ⟨oc, od, .func (PySem.W.fnOf x x (defArgs st) (defBody st) (defScope st) .none kV dc pm an cd ct), sl⟩) (c : PySem.W.codeIn K cd x = true) (k : PySem.W.keepIn K (.ref f) = true)
    (b : ∀ (kV doc pm : Value) (an : Option Addr) (cdv ct : Value) (us : List Value), us.length = ps.length → bindArgs (PySem.W.fnOf x x (defArgs st) (defBody st) (defScope st) .none kV doc pm an cdv ct) ⟨us, []⟩ = pure (ps.zip us)) : GFun K mg x st ps :=
  ⟨f, _, fun_mk l c k, PySem.W.mg_of X G a, (fun_mk l c k).binds b⟩
theorem excf_mk {K : PySem.W.Frag} {h : Heap} {mg : Str → Option Value} {x : Str} {C : Addr} (X : K.In h) (G : h.Ns mainGlobals mg) (a : PySem.W.nsIn K mainGlobals x = some (some (.ref C))) (k : PySem.W.keepIn K (.ref C) = true)
    (q : PySem.W.excIn K C [.type "ValueError", .type "Exception", .type "BaseException", .type "object"] "ValueError.__new__" = true)
    (b : PySem.W.subIn K (.ref C) (.type "BaseException") = some true) (t : PySem.W.typeIn K (.ref C) = some (.type "type")) : ExcF K mg x C := ⟨PySem.W.mg_of X G a, k, q, b, t⟩
/-- all but the tables -/
def noTab (H : Hp) : Hp := fun b => match H b with
  | some (.tbl _) => none
  | r => r
theorem noTab_sub {H : Hp} : Sub (noTab H) H := fun b o e => by
  unfold noTab at e
  split at e
  · cases e
  · exact e
theorem noTab_of {H : Hp} {b : Addr} {o : HO} (h : H b = some o) (n : ∀ ps, o ≠ .tbl ps) : noTab H b = some o := by
  unfold noTab
  rw [h]
  split
  · rename_i ps e
    cases e
    exact absurd rfl (n ps)
  · rfl
theorem at_scr {K : PySem.W.Frag} {H : Hp} (t : TopT K H) : At K ⟨noTab H, []⟩ [] H where
  sub := noTab_sub
  tab := fun c P hP => ⟨.nil (t c P hP), by show noTab H P = none; unfold noTab; rw [t c P hP]⟩
  len := rfl
  obj := fun k o p h => by simp at h
  inj := fun j k p h => by obtain ⟨o, h, _⟩ := h; simp at h
  al := fun p h => by cases h
theorem sp_scr {K : PySem.W.Frag} {S : DSp} {H : Hp} {a : Addr} {ns : List Int} (hT : TopT K H) (hS : SqL K H a (ns.map V.int)) (h : S [.scr (ns.map .int)] [] (fun d _ => d = .bl true) (fun _ _ => False)) : upF K S [.ref a] H (fun v _ => v = .bl true) (fun _ _ _ => False) := by
  replace hS : SqL K (noTab H) a (ns.map V.int) := by
    rcases hS with (z | ⟨o, z⟩) | z
    · exact .inl (.inl (noTab_of z fun _ q => nomatch q))
    · exact .inl (.inr ⟨o, noTab_of z fun _ q => nomatch q⟩)
    · exact .inr z
  refine ⟨⟨noTab H, []⟩, [], [.scr (ns.map .int)], _, _, at_scr hT, ?_, h, ?_, fun _ _ _ _ _ _ z => z⟩
  · unfold Reps Rep
    refine ⟨_, _, rfl, ⟨a, ns.map V.int, rfl, hS, ?_⟩, by unfold Reps; rfl⟩
    clear h hS
    induction ns with
    | nil => unfold List.map Reps; rfl
    | cons n ns ih => rw [List.map_cons, List.map_cons]; unfold Reps; exact ⟨_, _, rfl, rep_intI, ih⟩
  · rintro g' H' μ' d v _ _ r rfl
    exact rep_blv r
theorem cx_out {P : Program} {w : World} (H : Hp) (s : Shared) (e : Value) (s' : Shared) (h : L2.CX P w [] H s (fun _ _ _ => False) e s') : False := by
  obtain ⟨a, B, H', cls, d, _, _, _, _, _, _, _, z⟩ := h
  exact z
end SW

end

section
set_option Elab.async false
set_option linter.all false
set_option maxRecDepth 100000
namespace SW
open PySem L2

/-! ### loops and comprehensions: the forms one uses -/
theorem lc_pure {ds : List D} {G : TGD} {T : TDT} {A : TD} {δ : DS} {vs : List Nat} {μ : Mu} {fin : List D → Mu → DQ → Prop} {Q : DQ} (p : D → Bool) (f : D → D) (hz : ds.length ≤ sizeLine)
    (h : ∀ (i : Nat) d, ds[i]? = some d → ∀ (KA : D → Mu → Prop) (KF : Mu → Prop), (p d = true → KA (f d) μ) → (p d = false → KF μ) →
      G d (wipeD δ vs) μ (fun δ2 μ2 => T δ2 μ2 (fun b μ3 => (b = true → A δ2 μ3 KA E0D) ∧ (b = false → KF μ3)) E0D))
    (q : fin ((ds.filter p).map f) μ Q) :
    ∃ I : Nat → List D → Mu → Prop, I 0 [] μ ∧ (∀ i d acc μ, ds[i]? = some d → I i acc μ → G d (wipeD δ vs) μ (fun δ2 μ2 => T δ2 μ2 (fun b μ3 => (b = true → A δ2 μ3 (fun y μ4 => acc.length < sizeLine ∧ I (i + 1) (acc ++ [y]) μ4) E0D) ∧ (b = false → I (i + 1) acc μ3)) E0D)) ∧
      ∀ acc μ, I ds.length acc μ → fin acc μ Q := by
  refine ⟨fun i acc μ' => μ' = μ ∧ acc = ((ds.take i).filter p).map f, ⟨rfl, by simp⟩, ?_, ?_⟩
  · rintro i d acc μ' hd ⟨rfl, rfl⟩
    have hi := (List.getElem?_eq_some_iff.mp hd).1
    have et : ds.take (i + 1) = ds.take i ++ [d] := by rw [List.take_add_one, hd]; rfl
    refine h i d hd _ _ (fun hp => ⟨?_, rfl, ?_⟩) (fun hp => ⟨rfl, ?_⟩)
    · refine Nat.lt_of_le_of_lt (m := i) ?_ (Nat.lt_of_lt_of_le hi hz)
      rw [List.length_map]
      refine Nat.le_trans (List.length_filter_le _ _) ?_
      rw [List.length_take]
      exact Nat.min_le_left _ _
    · rw [et, List.filter_append, List.map_append]
      simp [hp]
    · rw [et, List.filter_append, List.map_append]
      simp [hp]
  · rintro acc μ' ⟨rfl, rfl⟩
    rw [List.take_length]
    exact q
theorem lc_map {ds : List D} {G : TGD} {A : TD} {δ : DS} {vs : List Nat} {μ : Mu} {fin : List D → Mu → DQ → Prop} {Q : DQ} (f : D → D) (hz : ds.length ≤ sizeLine)
    (h : ∀ (i : Nat) d, ds[i]? = some d → ∀ (KA : D → Mu → Prop), KA (f d) μ → G d (wipeD δ vs) μ (fun δ2 μ2 => A δ2 μ2 KA E0D))
    (hG : ∀ d δ μ K K', (∀ δ2 μ2, K δ2 μ2 → K' δ2 μ2) → G d δ μ K → G d δ μ K')
    (q : fin (ds.map f) μ Q) :
    ∃ I : Nat → List D → Mu → Prop, I 0 [] μ ∧ (∀ i d acc μ, ds[i]? = some d → I i acc μ → G d (wipeD δ vs) μ (fun δ2 μ2 => dYes δ2 μ2 (fun b μ3 => (b = true → A δ2 μ3 (fun y μ4 => acc.length < sizeLine ∧ I (i + 1) (acc ++ [y]) μ4) E0D) ∧ (b = false → I (i + 1) acc μ3)) E0D)) ∧
      ∀ acc μ, I ds.length acc μ → fin acc μ Q := by
  refine lc_pure (fun _ => true) f hz (fun i d hd KA KF h1 _ => ?_) (by
    have e : ds.filter (fun _ => true) = ds := List.filter_eq_self.mpr fun _ _ => rfl
    rw [e]
    exact q)
  exact hG _ _ _ _ _ (fun δ2 μ2 hk => ⟨fun _ => hk, fun z => Bool.noConfusion z⟩) (h i d hd KA (h1 rfl))
theorem gmono_name (i : Nat) : ∀ d δ μ K K', (∀ δ2 μ2, K δ2 μ2 → K' δ2 μ2) → gdName i d δ μ K → gdName i d δ μ K' := fun _ _ _ _ _ h q => h _ _ q
/-! ### signs and rows -/
def isL (c : Nat) : Bool := decide (97 ≤ c) && decide (c ≤ 122)
def isRow (s : List Nat) : Bool := s.all isL
def isRowD : D → Bool
  | .str s => isRow s
  | _ => false
/-- a thing that the laws hand in: its kind is known, a text of signs that there are -/
def kindOk (d : D) : Prop := (∃ t, tyN [] d = some t) ∧ ∀ s, d = .str s → s.length ≤ 100000 ∧ ∀ c ∈ s, c < 0x110000
def isStrD : D → Bool
  | .str _ => true
  | _ => false
theorem kit_str {d : D} {t : String} (h : tyN [] d = some t) : kitB t "str" = some (isStrD d) := by
  cases d with
  | cell k => unfold tyN at h; simp at h
  | scr xs => cases h
  | val v => cases h
  | exc v => cases h
  | str s => cases h; show kitB "str" "str" = some true; decide +kernel
  | non => cases h; show kitB _ "str" = some false; decide +kernel
  | bl b => cases h; show kitB _ "str" = some false; decide +kernel
  | int b => cases h; show kitB _ "str" = some false; decide +kernel
  | tup b => cases h; show kitB _ "str" = some false; decide +kernel
  | lst b => cases h; show kitB _ "str" = some false; decide +kernel
  | dct a b c => cases h; show kitB _ "str" = some false; decide +kernel
  | dcn a b c => cases h; show kitB _ "str" = some false; decide +kernel
theorem signs_eq : ("abcdefghijklmnopqrstuvwxyz" : Str).cps.toList = (List.range 26).map (· + 97) := by decide +kernel
theorem mem_signs {c : Nat} : c ∈ ("abcdefghijklmnopqrstuvwxyz" : Str).cps.toList ↔ isL c = true := by
  rw [signs_eq]
  unfold isL
  simp only [List.mem_map, List.mem_range, Bool.and_eq_true, decide_eq_true_eq]
  constructor
  · rintro ⟨a, h, rfl⟩; omega
  · rintro ⟨h1, h2⟩; exact ⟨c - 97, by omega, by omega⟩
theorem row_ok {s : List Nat} (h : isRow s = true) : ∀ c ∈ s, c < 0x110000 := fun c hc => by
  have := List.all_eq_true.mp h c hc
  unfold isL at this
  simp only [Bool.and_eq_true, decide_eq_true_eq] at this
  omega
/-! ### == -/
theorem deq_nil {xs : List D} : deq (.lst xs) (.lst []) = decide (xs = []) := by
  cases xs with
  | nil => simp [deq, toPy, toPys, PyData.eqv, PyData.eqvAll]
  | cons a r => simp [deq, toPy, toPys, PyData.eqv, PyData.eqvAll]
theorem okDs_all {n : Nat} : ∀ {xs : List D}, (∀ d ∈ xs, okD n d) → okDs n xs
  | [], _ => by unfold okDs; trivial
  | x :: xs, h => by unfold okDs; exact ⟨h x List.mem_cons_self, okDs_all fun d hd => h d (List.mem_cons_of_mem _ hd)⟩
theorem okD_lst {n : Nat} {xs : List D} (hn : 1 ≤ n) (h : ∀ d ∈ xs, okD (n - 1) d) : okD n (.lst xs) := by unfold okD; exact ⟨hn, okDs_all h⟩
theorem okD_str {n : Nat} {s : List Nat} (h : ∀ c ∈ s, c < 0x110000) : okD n (.str s) := by unfold okD; exact h
theorem okD_non {n : Nat} : okD n .non := by unfold okD; trivial
theorem mkS_beq {a b : List Nat} : (mkS a == mkS b) = decide (a = b) := by
  by_cases h : a = b
  · subst h; simp
  · have : mkS a ≠ mkS b := fun e => h (mkS_inj.mp e)
    simp [h, this]
/-! ### items by places -/
theorem ixN_nat {n j : Nat} (h : j < n) : ixN n (j : Int) = some j := by
  unfold ixN
  rw [if_pos (by omega), if_pos (by omega)]
  rfl
theorem ixN_of {n : Nat} {i : Int} (h0 : 0 ≤ i) (h : i < n) : ixN n i = some i.toNat := by
  unfold ixN
  rw [if_pos h0, if_pos h]
theorem atI_of {α : Type} {xs : List α} {i : Int} {j : Nat} {x : α} (e : i = (j : Int)) (h : xs[j]? = some x) : atI xs i = some x := by
  subst e
  have hj := (List.getElem?_eq_some_iff.mp h).1
  unfold atI
  rw [ixN_nat hj]
  exact h
theorem chars_get {s : List Nat} {i : Nat} {d : D} (h : (chars s)[i]? = some d) : ∃ c, s[i]? = some c ∧ d = .str [c] := by
  unfold chars at h
  rw [List.getElem?_map] at h
  cases e : s[i]? with
  | none => rw [e] at h; cases h
  | some c => rw [e] at h; exact ⟨c, rfl, (Option.some.inj h).symm⟩
theorem chars_length (s : List Nat) : (chars s).length = s.length := by simp [chars]
theorem get_lt {α : Type} {xs : List α} {i : Nat} {x : α} (h : xs[i]? = some x) : i < xs.length := (List.getElem?_eq_some_iff.mp h).1
theorem take_suc {α : Type} {xs : List α} {i : Nat} {x : α} (h : xs[i]? = some x) : xs.take (i + 1) = xs.take i ++ [x] := by rw [List.take_add_one, h]; rfl
theorem sz {n : Nat} (h : n ≤ 16000000) : n ≤ sizeLine := Nat.le_trans h (by decide)
theorem sz5 {n : Nat} (h : n ≤ 100000) : n ≤ sizeLine := Nat.le_trans h (by decide)
theorem szl {n : Nat} (h : n < 16000000) : n < sizeLine := Nat.lt_of_lt_of_le h (by decide)
/-! ### the newest cell -/
theorem get_new {μ : Mu} {o : MO} : (μ ++ [o])[μ.length]? = some o := by rw [List.getElem?_append_right (Nat.le_refl _), Nat.sub_self]; rfl
theorem set_new {μ : Mu} {o o' : MO} : (μ ++ [o]).set μ.length o' = μ ++ [o'] := by simp
theorem rdL_cell {μ : Mu} {k : Nat} {xs : List D} (h : μ[k]? = some (.lst xs)) : rdL μ (.cell k) = some xs := by
  show (match μ[k]? with | some (.lst xs) => some xs | _ => none) = _
  rw [h]
theorem seqOf_cell {μ : Mu} {k : Nat} {xs : List D} (h : μ[k]? = some (.lst xs)) : seqOf μ (.cell k) = some xs := by
  show (match μ[k]? with | some (.lst xs) => some xs | _ => none) = _
  rw [h]
theorem lstOf_cell {μ : Mu} {k : Nat} {xs : List D} (h : μ[k]? = some (.lst xs)) : lstOf μ (.cell k) = some xs := by
  show (match μ[k]? with | some (.lst xs) => some xs | _ => none) = _
  rw [h]
theorem dr_cell {μ : Mu} {k : Nat} {xs : List D} (h : μ[k]? = some (.lst xs)) : dr μ (.cell k) = .lst xs := by
  show (match μ[k]? with | some (.lst xs) => D.lst xs | _ => D.cell k) = _
  rw [h]
theorem noCs_ints {xs : List Int} : noCs (xs.map .int) = true := noCs_map _ (fun _ => rfl) _
theorem noCs_strs {xs : List (List Nat)} : noCs (xs.map .str) = true := noCs_map _ (fun _ => rfl) _
theorem fmod_pos {i j : Int} (h : 0 < j) : Int.fmod i j = i % j := Int.fmod_eq_emod_of_nonneg _ (Int.le_of_lt h)
end SW

end

section
set_option Elab.async false
set_option linter.all false
set_option maxRecDepth 100000
namespace SW
open PySem L2

/-! ### a cut between two statements -/
/-! ### short displays -/
theorem ln0 {α : Type} : ([] : List α).length ≤ sizeLine := Nat.zero_le _
theorem ln1 {α : Type} {a : α} : [a].length ≤ sizeLine := by show 1 ≤ sizeLine; decide
theorem ln2 {α : Type} {a b : α} : [a, b].length ≤ sizeLine := by show 2 ≤ sizeLine; decide
theorem ln3 {α : Type} {a b c : α} : [a, b, c].length ≤ sizeLine := by show 3 ≤ sizeLine; decide
theorem ln4 {α : Type} {a b c d : α} : [a, b, c, d].length ≤ sizeLine := by show 4 ≤ sizeLine; decide
theorem ln5 {α : Type} {a b c d e : α} : [a, b, c, d, e].length ≤ sizeLine := by show 5 ≤ sizeLine; decide
/-! ### slices -/
theorem cutL_to {α : Type} (xs : List α) {m : Int} (h : 0 ≤ m) : cutL xs none (some m) = xs.take m.toNat := by
  unfold cutL HT.sIx
  simp only [if_neg (show ¬ m < 0 by omega), List.drop_zero, Nat.sub_zero]
  rw [List.take_eq_take_iff]
  omega
theorem cutL_sub {α : Type} (xs : List α) (l h : Option Int) : ∀ x ∈ cutL xs l h, x ∈ xs := fun x hx => List.mem_of_mem_drop (List.mem_of_mem_take hx)
theorem cutL_len {α : Type} (xs : List α) (l h : Option Int) : (cutL xs l h).length ≤ xs.length := by
  unfold cutL
  rw [List.length_take, List.length_drop]
  omega
/-! ### rows -/
theorem isRow_mem {s : List Nat} (h : isRow s = true) {c : Nat} (hc : c ∈ s) : isL c = true := List.all_eq_true.mp h c hc
theorem isRow_of {s : List Nat} (h : ∀ c ∈ s, isL c = true) : isRow s = true := List.all_eq_true.mpr h
theorem isRow_sub {s t : List Nat} (h : isRow t = true) (hs : ∀ c ∈ s, c ∈ t) : isRow s = true := isRow_of fun c hc => isRow_mem h (hs c hc)
theorem isRow_app {s t : List Nat} (h : isRow s = true) (h2 : isRow t = true) : isRow (s ++ t) = true := isRow_of fun c hc => (List.mem_append.mp hc).elim (isRow_mem h) (isRow_mem h2)
theorem isRow_cut {s : List Nat} (h : isRow s = true) (a b : Option Int) : isRow (cutL s a b) = true := isRow_sub h (cutL_sub s a b)
theorem isRow_one {c : Nat} (h : isL c = true) : isRow [c] = true := isRow_of fun x hx => by rw [List.mem_singleton.mp hx]; exact h
/-! ### joins, signs -/
theorem chr_at {s : List Nat} {i : Int} {m : Nat} (h0 : 0 ≤ i) (h1 : i < (m : Int)) (hm : m ≤ s.length) : ∃ c, atI s i = some c ∧ c ∈ s := by
  have hi : i.toNat < s.length := by omega
  refine ⟨s[i.toNat], ?_, List.getElem_mem hi⟩
  exact atI_of (j := i.toNat) (by omega) (List.getElem?_eq_getElem hi)
theorem joinL_nil (ss : List (List Nat)) : joinL [] ss = ss.flatten := by
  cases ss with
  | nil => rfl
  | cons x r => rw [joinL_cons]; simp
theorem flat1 : ∀ cs : List Nat, (cs.map fun c => [c]).flatten = cs
  | [] => rfl
  | c :: cs => by rw [List.map_cons, List.flatten_cons, flat1 cs]; rfl
theorem strsOf_strs : ∀ ss : List (List Nat), strsOf (ss.map .str) = some ss
  | [] => rfl
  | s :: ss => by
    rw [List.map_cons]
    unfold strsOf
    rw [strsOf_strs ss]
    rfl
theorem join1 (cs : List Nat) : joinL [] (cs.map fun c => [c]) = cs := by rw [joinL_nil, flat1]
theorem sum1 : ∀ cs : List Nat, ((cs.map fun c => [c]).map List.length).sum = cs.length
  | [] => rfl
  | c :: cs => by
    rw [List.map_cons, List.map_cons, List.sum_cons, sum1 cs, List.length_cons, List.length_cons]
    show 0 + 1 + cs.length = cs.length + 1
    omega
/-- signs drawn one by one, joined -/
theorem join_chars {μ : Mu} {cs : List Nat} {Q : DQ} (hl : cs.length ≤ 1000000) (q : Q (.str cs) μ) : dJoin (.str ("" : Str).cps.toList) [.lst ((cs.map fun c => [c]).map .str)] μ Q := by
  refine ⟨[], _, _, _, rfl, rfl, rfl, strsOf_strs _, ?_, ?_⟩
  · rw [sum1]
    show cs.length + _ * 0 ≤ _
    omega
  · rw [join1]
    exact q
theorem abc_row : isRow ("abcdefghijklmnopqrstuvwxyz" : Str).cps.toList = true := by decide +kernel
theorem abc_len : ("abcdefghijklmnopqrstuvwxyz" : Str).cps.toList.length = 26 := by decide +kernel
/-! ### the well -/
/-- a well: three numbers, the last one how often was drawn -/
def Well (n : Int) (o : MO) : Prop := ∃ a b c : Int, o = .lst [.int a, .int b, .int c] ∧ 0 ≤ c ∧ c ≤ n
theorem Well.noC {n : Int} {o : MO} (h : Well n o) : noCO o = true := by obtain ⟨a, b, c, rfl, _⟩ := h; rfl
theorem Well.live {n : Int} {o : MO} (h : Well n o) : o ≠ .dead := by obtain ⟨a, b, c, rfl, _⟩ := h; exact fun z => nomatch z
theorem Well.mono {n m : Int} {o : MO} (h : Well n o) (l : n ≤ m) : Well m o := by obtain ⟨a, b, c, rfl, h1, h2⟩ := h; exact ⟨a, b, c, rfl, h1, Int.le_trans h2 l⟩
/-! ### ranges that step -/
theorem kit_int_int : kitB "int" "int" = some true := by decide +kernel
theorem kit_int_bool : kitB "int" "bool" = some false := by decide +kernel
end SW

end

section
set_option Elab.async false
set_option linter.all false
set_option maxRecDepth 100000
namespace SW
open PySem L2

/-! ### steps: each construct's reading, by its head -/
section
variable {Z : DEnds} {δ : DS} {μ : Mu} {Q : DQ} {E : DE} {A B C : TD} {TA' : TDA} {S T : TDT} {R R' : TDS} {G : TGD} {QT : Bool → Mu → Prop} {QA : List D → Mu → Prop} {KG : DS → Mu → Prop}
theorem st_seq (h : R { Z with nx := fun δ' μ' => R' Z δ' μ' } δ μ) : dSeq R R' Z δ μ := h
theorem st_next (h : Z.nx δ μ) : dNext Z δ μ := h
theorem st_drop (h : A δ μ (fun _ μ1 => Z.nx δ μ1) Z.ex) : dDrop A Z δ μ := h
theorem st_ret (h : A δ μ Z.rt Z.ex) : dRet A Z δ μ := h
theorem st_retN (h : Z.rt .non μ) : dRetN Z δ μ := h
theorem st_brk (h : Z.bk δ μ) : dBrk Z δ μ := h
theorem st_cnt (h : Z.ct δ μ) : dCnt Z δ μ := h
theorem st_ifS (h : T δ μ (fun b μ1 => (b = true → R Z δ μ1) ∧ (b = false → R' Z δ μ1)) Z.ex) : dIfS T R R' Z δ μ := h
theorem st_asg (h : A δ μ (fun d μ1 => G d δ μ1 Z.nx) Z.ex) : dAsg A G Z δ μ := h
theorem st_par {i j : Nat} (h : TA' δ μ (fun ds μ1 => ∃ v w, ds = [v, w] ∧ Z.nx ((δ.set i (some v)).set j (some w)) μ1) Z.ex) : dPar i j TA' Z δ μ := h
theorem st_par' {v w : D} {P : D → D → Prop} (h : P v w) : ∃ v' w', [v, w] = [v', w'] ∧ P v' w' := ⟨_, _, rfl, h⟩
theorem st_raise {c : Addr} (h : Z.ex (.ref c) δ μ) : dRaise c Z δ μ := h
theorem st_for {IA : TDI} (h : IA δ μ (fun ds μ1 => ∃ I : Nat → DS → Mu → Prop, I 0 δ μ1 ∧
  (∀ i d δ μ, ds[i]? = some d → I i δ μ → G d δ μ (fun δ' μ' => R { Z with nx := I (i + 1), ct := I (i + 1), bk := Z.nx } δ' μ')) ∧ ∀ δ μ, I ds.length δ μ → Z.nx δ μ) Z.ex) : dFor IA G R Z δ μ := h
/- targets -/
theorem st_name {i : Nat} {d : D} {δ' : DS} (e : δ.set i (some d) = δ') (h : KG δ' μ) : gdName i d δ μ KG := by subst e; exact h
theorem st_pair {i j : Nat} {x y : D} {δ' : DS} (e : (δ.set i (some x)).set j (some y) = δ') (h : KG δ' μ) : gdTup 2 (gdCons (gdName i) (gdCons (gdName j) gdNil)) (.tup [x, y]) δ μ KG := by subst e; exact ⟨_, .inl rfl, rfl, _, _, rfl, _, _, rfl, rfl, h⟩
theorem st_pairL {i j : Nat} {x y : D} {δ' : DS} (e : (δ.set i (some x)).set j (some y) = δ') (h : KG δ' μ) : gdTup 2 (gdCons (gdName i) (gdCons (gdName j) gdNil)) (.lst [x, y]) δ μ KG := by subst e; exact ⟨_, .inr rfl, rfl, _, _, rfl, _, _, rfl, rfl, h⟩
theorem st_gsub {f : DSet} {d : D} (h : A δ μ (fun o μ1 => B δ μ1 (fun i μ2 => f o i d μ2 (fun μ3 => KG δ μ3)) (fun _ _ _ => False)) (fun _ _ _ => False)) : gdSub A B f d δ μ KG := h
theorem st_setL {k : Nat} {xs : List D} {n : Int} {j : Nat} {v : D} {KM : Mu → Prop} (hk : μ[k]? = some (.lst xs)) (hj : ixN xs.length n = some j) (h : KM (μ.set k (.lst (xs.set j v)))) : dSetL (.cell k) (.int n) v μ KM := ⟨_, _, _, _, rfl, hk, rfl, hj, h⟩
/- expressions -/
theorem st_var {i : Nat} {d : D} (e : δ[i]? = some (some d)) (h : Q d μ) : dVar i δ μ Q E := ⟨d, e, h⟩
theorem st_c {d : D} (h : Q d μ) : dC d δ μ Q E := h
theorem st_op {f : DOp} (h : A δ μ (fun x μ1 => B δ μ1 (fun y μ2 => f x y μ2 Q) E) E) : dOp f A B δ μ Q E := h
theorem st_un {f : DUn} (h : A δ μ (fun x μ1 => f x μ1 Q) E) : dUn f A δ μ Q E := h
theorem st_nil (h : QA [] μ) : dNil δ μ QA E := h
theorem st_cons (h : A δ μ (fun x μ1 => TA' δ μ1 (fun xs μ2 => QA (x :: xs) μ2) E) E) : dCons A TA' δ μ QA E := h
theorem st_cb {f : DCa} (h : TA' δ μ (fun xs μ1 => f xs μ1 Q) E) : dCB f TA' δ μ Q E := h
theorem st_test (h : A δ μ (fun x μ1 => ∃ b, x = .bl b ∧ QT b μ1) E) : dTest A δ μ QT E := h
theorem st_test' {c : Bool} {P : Bool → Prop} (h : P c) : ∃ b, D.bl c = .bl b ∧ P b := ⟨_, rfl, h⟩
theorem st_and (h : S δ μ (fun b μ1 => (b = true → T δ μ1 QT E) ∧ (b = false → QT false μ1)) E) : dAnd S T δ μ QT E := h
theorem st_or (h : S δ μ (fun b μ1 => (b = true → QT true μ1) ∧ (b = false → T δ μ1 QT E)) E) : dOr S T δ μ QT E := h
theorem st_not (h : S δ μ (fun b μ1 => QT (!b) μ1) E) : dNot S δ μ QT E := h
theorem st_andV (h : A δ μ (fun x μ1 => ∃ b, x = .bl b ∧ (b = true → B δ μ1 Q E) ∧ (b = false → Q (.bl false) μ1)) E) : dAndV A B δ μ Q E := h
theorem st_orV (h : A δ μ (fun x μ1 => ∃ b, x = .bl b ∧ (b = true → Q (.bl true) μ1) ∧ (b = false → B δ μ1 Q E)) E) : dOrV A B δ μ Q E := h
theorem st_tt {c : Bool} {P P' : Prop} (h : (c = true → P) ∧ (c = false → P')) : ∃ b, D.bl c = .bl b ∧ (b = true → P) ∧ (b = false → P') := ⟨_, rfl, h⟩
theorem st_notV (h : A δ μ (fun x μ1 => ∃ b, x = .bl b ∧ Q (.bl (!b)) μ1) E) : dNotV A δ μ Q E := h
theorem st_if (h : T δ μ (fun b μ1 => (b = true → A δ μ1 Q E) ∧ (b = false → B δ μ1 Q E)) E) : dIf T A B δ μ Q E := h
theorem st_chain {f f' : DOp} (h : A δ μ (fun x μ1 => B δ μ1 (fun y μ2 => f x y μ2 (fun z μ3 => ∃ b, z = .bl b ∧ (b = true → C δ μ3 (fun w μ4 => f' y w μ4 Q) E) ∧ (b = false → Q (.bl false) μ3))) E) E) : dChain f f' A B C δ μ Q E := h
theorem st_tup (h : TA' δ μ (fun xs μ1 => xs.length ≤ sizeLine ∧ Q (.tup xs) μ1) E) : dTup TA' δ μ Q E := h
theorem st_lst (h : TA' δ μ (fun xs μ1 => xs.length ≤ sizeLine ∧ Q (.lst xs) μ1) E) : dLst TA' δ μ Q E := h
theorem st_lstC (h : TA' δ μ (fun xs μ1 => xs.length ≤ sizeLine ∧ Q (.cell μ1.length) (μ1 ++ [.lst xs])) E) : dLstC TA' δ μ Q E := h
theorem st_frz (h : A δ μ (fun x μ1 => ∃ k, x = .cell k ∧ ((∃ xs, μ1[k]? = some (.lst xs) ∧ Q (.lst xs) (μ1.set k .dead)) ∨ (∃ tt ks vs, μ1[k]? = some (.dct tt ks vs) ∧ Q (.dct tt ks vs) (μ1.set k .dead)))) E) : dFrz A δ μ Q E := h
theorem st_isN (h : A δ μ (fun x μ1 => ∃ b, nonD x = some b ∧ Q (.bl b) μ1) E) : dIsN A δ μ Q E := h
theorem st_notN (h : A δ μ (fun x μ1 => ∃ b, nonD x = some b ∧ Q (.bl (!b)) μ1) E) : dNotN A δ μ Q E := h
theorem st_nonD {x : D} {c : Bool} {P : Bool → Prop} (e : nonD x = some c) (h : P c) : ∃ b, nonD x = some b ∧ P b := ⟨_, e, h⟩
theorem st_yes (h : QT true μ) : dYes δ μ QT E := h
/- walks -/
theorem st_iter (h : A δ μ (fun x μ1 => ∃ ds, itemsOf x = some ds ∧ QA ds μ1) E) : dIter A δ μ QA E := h
theorem st_items {x : D} {ds : List D} {P : List D → Prop} (e : itemsOf x = some ds) (h : P ds) : ∃ ds, itemsOf x = some ds ∧ P ds := ⟨_, e, h⟩
theorem st_rng1 (h : TA' δ μ (fun ds μ1 => ∃ j, ds = [.int j] ∧ -(2 ^ 62) ≤ j ∧ j < 2 ^ 62 ∧ QA (rangeD 0 1 j.toNat) μ1) E) : dRng1 TA' δ μ QA E := h
theorem st_rng1' {j : Int} {P : Int → Prop} (h1 : -1000000000 ≤ j ∧ j ≤ 1000000000) (h : P j) : ∃ j', [D.int j] = [.int j'] ∧ -(2 ^ 62) ≤ j' ∧ j' < 2 ^ 62 ∧ P j' := ⟨j, rfl, by omega, by omega, h⟩
theorem st_rng2 (h : TA' δ μ (fun ds μ1 => ∃ i j, ds = [.int i, .int j] ∧ (-(2 ^ 62) ≤ i ∧ i < 2 ^ 62 ∧ -(2 ^ 62) ≤ j ∧ j < 2 ^ 62) ∧ QA (rangeD i 1 (j - i).toNat) μ1) E) : dRng2 TA' δ μ QA E := h
theorem st_rng2' {i j : Int} {P : Int → Int → Prop} (h1 : -1000000000 ≤ i ∧ i ≤ 1000000000 ∧ -1000000000 ≤ j ∧ j ≤ 1000000000) (h : P i j) : ∃ i' j', [D.int i, .int j] = [.int i', .int j'] ∧ (-(2 ^ 62) ≤ i' ∧ i' < 2 ^ 62 ∧ -(2 ^ 62) ≤ j' ∧ j' < 2 ^ 62) ∧ P i' j' := ⟨i, j, rfl, by omega, h⟩
theorem st_rng3 (h : TA' δ μ (fun ds μ1 => ∃ i j c n, ds = [.int i, .int j, .int c] ∧ RgC i j c n ∧ QA (rangeD i c n) μ1) E) : dRng3 TA' δ μ QA E := h
theorem st_enum (h : TA' δ μ (fun xs μ1 => ∃ d ds, xs = [d] ∧ isTupD d = false ∧ itemsOf d = some ds ∧ QA (pairI ds) μ1) E) : dEnum TA' δ μ QA E := h
theorem st_enum' {d : D} {ds : List D} {P : D → List D → Prop} (h1 : isTupD d = false) (e : itemsOf d = some ds) (h : P d ds) : ∃ d' ds, [d] = [d'] ∧ isTupD d' = false ∧ itemsOf d' = some ds ∧ P d' ds := ⟨_, _, rfl, h1, e, h⟩
theorem st_zip (h : TA' δ μ (fun xs μ1 => ∃ d e ds es, xs = [d, e] ∧ itemsOf d = some ds ∧ itemsOf e = some es ∧ QA (pairZ ds es) μ1) E) : dZip TA' δ μ QA E := h
theorem st_zip' {d e : D} {ds es : List D} {P : D → D → List D → List D → Prop} (e1 : itemsOf d = some ds) (e2 : itemsOf e = some es) (h : P d e ds es) : ∃ d' e' ds es, [d, e] = [d', e'] ∧ itemsOf d' = some ds ∧ itemsOf e' = some es ∧ P d' e' ds es := ⟨_, _, _, _, rfl, e1, e2, h⟩
theorem st_rev (h : TA' δ μ (fun xs μ1 => ∃ ds, xs = [.lst ds] ∧ QA ds.reverse μ1) E) : dRev TA' δ μ QA E := h
theorem st_rev' {ds : List D} {P : List D → Prop} (h : P ds) : ∃ ds', [D.lst ds] = [.lst ds'] ∧ P ds' := ⟨_, rfl, h⟩
/- calls -/
theorem st_call {c : CForm} {F : DSp} (h : TA' δ μ (fun ds μ1 => c F ds μ1 Q (fun C μ2 => E C δ μ2)) E) : dCall c F TA' δ μ Q E := h
theorem st_callP {F : DSp} {ds : List D} {EF : Value → Mu → Prop} (h1 : noCs ds = true) (h : F ds [] (fun d μ2 => μ2 = [] ∧ noC d = true ∧ Q d μ) (fun C μ2 => μ2 = [] ∧ EF C μ)) : callP F ds μ Q EF := ⟨h1, h⟩
theorem st_callN {F : DSp} {ds : List D} {EF : Value → Mu → Prop} (h1 : noCs ds = true) (h : F ds [] (fun d μ2 => ∃ o, d = .cell 0 ∧ μ2 = [o] ∧ noCO o = true ∧ Q (.cell μ.length) (μ ++ [o])) (fun C μ2 => μ2 = [] ∧ EF C μ)) : callN F ds μ Q EF := ⟨h1, h⟩
theorem st_callG {F : DSp} {ds : List D} {EF : Value → Mu → Prop} (h1 : noCs ds = true) (h : F ds [] (fun d μ2 => (μ2 = [] ∧ noC d = true ∧ Q d μ) ∨ ∃ o, d = .cell 0 ∧ μ2 = [o] ∧ noCO o = true ∧ Q (.cell μ.length) (μ ++ [o])) (fun C μ2 => μ2 = [] ∧ EF C μ)) : callG F ds μ Q EF := ⟨h1, h⟩
theorem st_callW {F : DSp} {k : Nat} {o : MO} {rest : List D} {EF : Value → Mu → Prop} (hk : μ[k]? = some o) (h1 : noCs rest = true) (h2 : noCO o = true) (h3 : o ≠ .dead)
  (h : F (.cell 0 :: rest) [o] (fun d μ2 => ∃ o', μ2 = [o'] ∧ noC d = true ∧ noCO o' = true ∧ Q d (μ.set k o')) (fun C μ2 => ∃ o', μ2 = [o'] ∧ noCO o' = true ∧ EF C (μ.set k o'))) : callW F (.cell k :: rest) μ Q EF := ⟨_, _, _, rfl, h1, hk, h2, h3, h⟩
/- operators -/
theorem st_addI {o : List D → Mu → DQ → Prop} {i j : Int} (h : Q (.int (i + j)) μ) : dAdd o (.int i) (.int j) μ Q := h
theorem st_addS {o : List D → Mu → DQ → Prop} {a b : List Nat} (h1 : a.length + b.length ≤ sizeLine) (h : Q (.str (a ++ b)) μ) : dAdd o (.str a) (.str b) μ Q := ⟨h1, h⟩
theorem st_addT {o : List D → Mu → DQ → Prop} {a b : List D} (h1 : a.length + b.length ≤ sizeLine) (h : Q (.tup (a ++ b)) μ) : dAdd o (.tup a) (.tup b) μ Q := ⟨h1, h⟩
theorem st_addL {a b : List D} (h1 : a.length + b.length ≤ sizeLine) (h : Q (.lst (a ++ b)) μ) : dAdd outF (.lst a) (.lst b) μ Q := ⟨_, _, rfl, rfl, h1, h⟩
theorem st_addLC {a b : List D} (h1 : a.length + b.length ≤ sizeLine) (h : Q (.cell μ.length) (μ ++ [.lst (a ++ b)])) : dAdd outC (.lst a) (.lst b) μ Q := ⟨_, _, rfl, rfl, h1, h⟩
theorem st_sub {i j : Int} (h : Q (.int (i - j)) μ) : dSub (.int i) (.int j) μ Q := ⟨_, _, rfl, rfl, trivial, h⟩
theorem st_mod {i j : Int} (h1 : j ≠ 0) (h : Q (.int (Int.fmod i j)) μ) : dMod (.int i) (.int j) μ Q := ⟨_, _, rfl, rfl, h1, h⟩
theorem st_fdv {i j : Int} (h1 : CDivN i j) (h : Q (.int (Int.fdiv i j)) μ) : dFdv (.int i) (.int j) μ Q := ⟨_, _, rfl, rfl, h1, h⟩
theorem st_pow {i j : Int} (h1 : CPow i j) (h : Q (.int (i ^ j.toNat)) μ) : dPow (.int i) (.int j) μ Q := ⟨_, _, rfl, rfl, h1, h⟩
theorem st_mulI {o : List D → Mu → DQ → Prop} {i j : Int} (h1 : CMul i j) (h : Q (.int (i * j)) μ) : dMul o (.int i) (.int j) μ Q := ⟨h1, h⟩
theorem st_lt {i j : Int} (h : Q (.bl (decide (i < j))) μ) : dLt (.int i) (.int j) μ Q := h
theorem st_le {i j : Int} (h : Q (.bl (decide (i ≤ j))) μ) : dLe (.int i) (.int j) μ Q := h
theorem st_gt {i j : Int} (h : Q (.bl (decide (i > j))) μ) : dGt (.int i) (.int j) μ Q := h
theorem st_ge {i j : Int} (h : Q (.bl (decide (i ≥ j))) μ) : dGe (.int i) (.int j) μ Q := h
theorem st_ltS {i j : List Nat} (h : Q (.bl (decide (i < j))) μ) : dLt (.str i) (.str j) μ Q := h
theorem st_leS {i j : List Nat} (h : Q (.bl (!decide (j < i))) μ) : dLe (.str i) (.str j) μ Q := h
theorem st_gtS {i j : List Nat} (h : Q (.bl (decide (j < i))) μ) : dGt (.str i) (.str j) μ Q := h
theorem st_geS {i j : List Nat} (h : Q (.bl (!decide (i < j))) μ) : dGe (.str i) (.str j) μ Q := h
theorem st_eq {x y : D} {b : Bool} (e : scalD x y = some b) (h : Q (.bl b) μ) : dEq x y μ Q := by unfold dEq; rw [e]; exact h
theorem st_ne {x y : D} {b : Bool} (e : scalD x y = some b) (h : Q (.bl (!b)) μ) : dNe x y μ Q := by unfold dNe; rw [e]; exact h
theorem st_eqD {x y : D} (e : scalD x y = none) (h1 : okD 60 (dr μ x)) (h2 : okD 60 (dr μ y)) (h : Q (.bl (deq (dr μ x) (dr μ y))) μ) : dEq x y μ Q := by unfold dEq; rw [e]; exact ⟨h1, h2, h⟩
theorem st_neD {x y : D} (e : scalD x y = none) (h1 : okD 60 (dr μ x)) (h2 : okD 60 (dr μ y)) (h : Q (.bl (!deq (dr μ x) (dr μ y))) μ) : dNe x y μ Q := by unfold dNe; rw [e]; exact ⟨h1, h2, h⟩
theorem st_inS {c : Nat} {s : List Nat} (h : Q (.bl (decide (c ∈ s))) μ) : dIn false (.str [c]) (.str s) μ Q := ⟨_, rfl, h⟩
theorem st_ninS {c : Nat} {s : List Nat} (h : Q (.bl (!decide (c ∈ s))) μ) : dIn true (.str [c]) (.str s) μ Q := ⟨_, rfl, h⟩
theorem st_is {a b : Bool} (h : Q (.bl (decide (a = b))) μ) : dIs false (.bl a) (.bl b) μ Q := ⟨_, _, rfl, rfl, h⟩
theorem st_neg {i : Int} (h : Q (.int (-i)) μ) : dNeg (.int i) μ Q := ⟨_, rfl, h⟩
theorem st_ixS {s : List Nat} {n : Int} {c : Nat} (h1 : s.length ≤ sizeLine) (e : atI s n = some c) (h : Q (.str [c]) μ) : dIx (.str s) (.int n) μ Q := ⟨_, _, rfl, h1, e, h⟩
theorem st_ixL {x : D} {xs : List D} {n : Int} {d : D} (hs : isStrD x = false) (e1 : seqOf μ x = some xs) (e : atI xs n = some d) (h : Q d μ) : dIx x (.int n) μ Q := by
  cases x <;> first | (exact Bool.noConfusion hs) | exact ⟨_, _, _, rfl, e1, e, h⟩
theorem st_ca1 {f : DUn} {x : D} (h : f x μ Q) : ca1 f [x] μ Q := ⟨_, rfl, h⟩
theorem st_lenS {s : List Nat} (h1 : s.length ≤ sizeLine) (h : Q (.int s.length) μ) : dLen (.str s) μ Q := ⟨h1, h⟩
theorem st_lenL {xs : List D} (h : Q (.int xs.length) μ) : dLen (.lst xs) μ Q := ⟨_, rfl, h⟩
theorem st_lenT {xs : List D} (h : Q (.int xs.length) μ) : dLen (.tup xs) μ Q := ⟨_, rfl, h⟩
theorem st_lenC {k : Nat} {xs : List D} (hk : μ[k]? = some (.lst xs)) (h : Q (.int xs.length) μ) : dLen (.cell k) μ Q := ⟨_, hk, h⟩
theorem st_intI {i : Int} (h : Q (.int i) μ) : dIntOf (.int i) μ Q := h
theorem st_intB {b : Bool} (h : Q (.int (if b then 1 else 0)) μ) : dIntOf (.bl b) μ Q := h
theorem st_min2 {i j : Int} (h : Q (.int (if j < i then j else i)) μ) : dMin2 [.int i, .int j] μ Q := ⟨_, _, rfl, h⟩
theorem st_max2 {i j : Int} (h : Q (.int (if j > i then j else i)) μ) : dMax2 [.int i, .int j] μ Q := ⟨_, _, rfl, h⟩
theorem st_isi {x : D} {n t : String} {b : Bool} (h1 : tyN μ x = some t) (h2 : kitB t n = some b) (h : Q (.bl b) μ) : dIsi [x, .val (.ty n)] μ Q := ⟨_, _, _, _, rfl, h1, h2, h⟩
theorem st_append {k : Nat} {xs : List D} {y : D} (hk : μ[k]? = some (.lst xs)) (h1 : xs.length < sizeLine) (h : Q .non (μ.set k (.lst (xs ++ [y])))) : dAppend (.cell k) [y] μ Q := ⟨_, _, _, rfl, rfl, hk, h1, h⟩
theorem st_extend {k : Nat} {xs zs : List D} (hk : μ[k]? = some (.lst xs)) (h1 : xs.length + zs.length ≤ sizeLine) (h : Q .non (μ.set k (.lst (xs ++ zs)))) : dExtend (.cell k) [.lst zs] μ Q := ⟨_, _, _, _, rfl, rfl, hk, (fun z => nomatch z), rfl, h1, h⟩
theorem st_bm {k : MK} {f : DMt} (h : A δ μ (fun x μ1 => isK μ1 x k ∧ TA' δ μ1 (fun xs μ2 => f x xs μ2 Q) E) E) : dBM k f A TA' δ μ Q E := h
theorem st_isKS {s : List Nat} {P : Prop} (h : P) : isK μ (.str s) .str ∧ P := ⟨⟨_, rfl⟩, h⟩
theorem st_isKL {xs : List D} {P : Prop} (h : P) : isK μ (.lst xs) .lst ∧ P := ⟨⟨_, rfl⟩, h⟩
theorem st_isKC {k : Nat} {xs : List D} {P : Prop} (hk : μ[k]? = some (.lst xs)) (h : P) : isK μ (.cell k) .lst ∧ P := ⟨⟨_, rdL_cell hk⟩, h⟩
theorem st_find2 {s t : List Nat} {i : Int} (h : Q (.int (Txt.find3 (mkS s) (mkS t) i)) μ) : dFind2 (.str s) [.str t, .int i] μ Q := ⟨_, _, _, rfl, rfl, h⟩
theorem st_rfind3 {s t : List Nat} {i j : Int} (h : Q (.int (Txt.rfindIn (mkS s) (mkS t) i j)) μ) : dRfind3 (.str s) [.str t, .int i, .int j] μ Q := ⟨_, _, _, _, rfl, rfl, h⟩
/- slices -/
theorem st_sl {f : DSl} {L U : TDP} (h : A δ μ (fun x μ1 => L δ μ1 (fun lo μ2 => U δ μ2 (fun hi μ3 => f x lo hi μ3 Q) E) E) E) : dSl f A L U δ μ Q E := h
theorem st_noP {QP : Option Int → Mu → Prop} (h : QP none μ) : dNoP δ μ QP E := h
theorem st_part {QP : Option Int → Mu → Prop} (h : A δ μ (fun x μ1 => ∃ i, x = .int i ∧ QP (some i) μ1) E) : dPart A δ μ QP E := h
theorem st_part' {i : Int} {P : Int → Prop} (h : P i) : ∃ j, D.int i = .int j ∧ P j := ⟨_, rfl, h⟩
theorem st_cutS {o : List D → Mu → DQ → Prop} {s : List Nat} {lo hi : Option Int} (h1 : s.length ≤ sizeLine) (h : Q (.str (cutL s lo hi)) μ) : dCut o (.str s) lo hi μ Q := ⟨h1, h⟩
theorem st_cutL {xs : List D} {lo hi : Option Int} (h : Q (.lst (cutL xs lo hi)) μ) : dCut outF (.lst xs) lo hi μ Q := ⟨_, rfl, h⟩
theorem st_cutR {xs : List D} {lo hi : Option Int} (h : Q (.lst (cutL xs lo hi)) μ) : dCut outF (.scr xs) lo hi μ Q := ⟨_, rfl, h⟩
theorem st_revS {s : List Nat} {o : List D → Mu → DQ → Prop} (h1 : s.length ≤ sizeLine) (h : Q (.str s.reverse) μ) : dStep (-1) o (.str s) μ Q := ⟨h1, by rw [stepL_rev]; exact h⟩
theorem st_revL {xs : List D} (h : Q (.lst xs.reverse) μ) : dStep (-1) outF (.lst xs) μ Q := ⟨rfl, _, rfl, h⟩
theorem st_revLC {xs : List D} (h : Q (.cell μ.length) (μ ++ [.lst xs.reverse])) : dStep (-1) outC (.lst xs) μ Q := ⟨rfl, _, rfl, h⟩
theorem st_revCC {k : Nat} {xs : List D} (hk : μ[k]? = some (.lst xs)) (h : Q (.cell μ.length) (μ ++ [.lst xs.reverse])) : dStep (-1) outC (.cell k) μ Q := ⟨rfl, _, rdL_cell hk, h⟩
theorem st_revCF {k : Nat} {xs : List D} (hk : μ[k]? = some (.lst xs)) (h : Q (.lst xs.reverse) μ) : dStep (-1) outF (.cell k) μ Q := ⟨rfl, _, rdL_cell hk, h⟩
/- ends, branches -/
theorem st_rt {n : Nat} {Q' : DQ} {d : D} (h1 : noC d = true) (h2 : noCM (μ.take n) = true) (h : Q' d (μ.take n)) : rtD n Q' d μ := .inl ⟨h1, h2, h⟩
theorem st_ex {n : Nat} {E' : FE} {C : Value} (h2 : noCM (μ.take n) = true) (h : E' C (μ.take n)) : exD n E' C δ μ := .inl ⟨h2, h⟩
theorem st_dec {p : Prop} [Decidable p] {P P' : Prop} (h : p → P) (h' : ¬ p → P') : (decide p = true → P) ∧ (decide p = false → P') := ⟨fun e => h (of_decide_eq_true e), fun e => h' (of_decide_eq_false e)⟩
theorem st_ndec {p : Prop} [Decidable p] {P P' : Prop} (h : ¬ p → P) (h' : p → P') : ((!decide p) = true → P) ∧ ((!decide p) = false → P') := ⟨fun e => h (by simpa using e), fun e => h' (by simpa using e)⟩
theorem st_T {P P' : Prop} (h : P) : (true = true → P) ∧ (true = false → P') := ⟨fun _ => h, fun z => Bool.noConfusion z⟩
theorem st_F {P P' : Prop} (h : P') : (false = true → P) ∧ (false = false → P') := ⟨fun z => Bool.noConfusion z, fun _ => h⟩
theorem st_nT {P P' : Prop} (h : P') : ((!true) = true → P) ∧ ((!true) = false → P') := ⟨fun z => Bool.noConfusion z, fun _ => h⟩
theorem st_nF {P P' : Prop} (h : P) : ((!false) = true → P) ∧ ((!false) = false → P') := ⟨fun _ => h, fun z => Bool.noConfusion z⟩
theorem st_b {b : Bool} {P P' : Prop} (h : b = true → P) (h' : b = false → P') : (b = true → P) ∧ (b = false → P') := ⟨h, h'⟩
theorem st_sz {n : Nat} {P : Prop} (h1 : n ≤ sizeLine) (h : P) : n ≤ sizeLine ∧ P := ⟨h1, h⟩
end
/-- a draw, as it is used -/
theorem st_outF {xs : List D} {μ : Mu} {Q : DQ} (h : Q (.lst xs) μ) : outF xs μ Q := h
theorem st_outC {xs : List D} {μ : Mu} {Q : DQ} (h : Q (.cell μ.length) (μ ++ [.lst xs])) : outC xs μ Q := h
theorem st_finF {xs : List D} {μ : Mu} {Q : DQ} (h : Q (.lst xs) μ) : finF xs μ Q := h
theorem st_finC {xs : List D} {μ : Mu} {Q : DQ} (h : Q (.cell μ.length) (μ ++ [.lst xs])) : finC xs μ Q := h
/- what a call tells -/
theorem st_pz {d : D} {P : Prop} (h1 : noC d = true) (h : P) : ([] : Mu) = [] ∧ noC d = true ∧ P := ⟨rfl, h1, h⟩
theorem st_wz {d : D} {o : MO} {P : MO → Prop} (h1 : noC d = true) (h2 : noCO o = true) (h : P o) : ∃ o', [o] = [o'] ∧ noC d = true ∧ noCO o' = true ∧ P o' := ⟨o, rfl, h1, h2, h⟩
theorem st_nz {o : MO} {P : MO → Prop} (h2 : noCO o = true) (h : P o) : ∃ o', D.cell 0 = .cell 0 ∧ [o] = [o'] ∧ noCO o' = true ∧ P o' := ⟨o, rfl, rfl, h2, h⟩
theorem st_gzP {d : D} {P R : Prop} (h1 : noC d = true) (h : P) : (([] : Mu) = [] ∧ noC d = true ∧ P) ∨ R := .inl ⟨rfl, h1, h⟩
theorem st_gzC {o : MO} {P : MO → Prop} {R : Prop} (h2 : noCO o = true) (h : P o) : R ∨ ∃ o', D.cell 0 = .cell 0 ∧ [o] = [o'] ∧ noCO o' = true ∧ P o' := .inr ⟨o, rfl, rfl, h2, h⟩
theorem st_ez {P : Prop} (h : P) : ([] : Mu) = [] ∧ P := ⟨rfl, h⟩
theorem st_rtC {n : Nat} {Q' : DQ} {k : Nat} {μ : Mu} (hl : μ.length = n + 1) (h : Q' (.cell k) μ) : rtD n Q' (.cell k) μ := .inr (.inl h)
theorem st_rtK {n : Nat} {Q' : DQ} {k : Nat} {μ : Mu} {o : MO} (hn : n ≤ k) (hk : μ[k]? = some o) (h1 : o ≠ .dead) (h2 : noCO o = true) (h3 : noCM (μ.take n) = true) (h : Q' (.cell n) (μ.take n ++ [o])) : rtD n Q' (.cell k) μ := .inr (.inr ⟨k, o, rfl, hn, hk, h1, h2, h3, h⟩)
theorem noCM1 {o : MO} (h : noCO o = true) : noCM [o] = true := by show (noCO o && true) = true; rw [h]; rfl
/-! ### whole numbers from 0 on, in a list -/
def natsD (l : List Nat) : List D := l.map fun (k : Nat) => D.int (k : Int)
theorem natsD_noC (l : List Nat) : noCs (natsD l) = true := noCs_map _ (fun _ => rfl) _
theorem natsD_len (l : List Nat) : (natsD l).length = l.length := by simp [natsD]
/-! ### cells by places -/
theorem get_at0 {μ r : Mu} {a : MO} : (μ ++ a :: r)[μ.length]? = some a := by rw [List.getElem?_append_right (Nat.le_refl _), Nat.sub_self]; rfl
theorem get_at1 {μ r : Mu} {a b : MO} : (μ ++ a :: b :: r)[μ.length + (0 + 1)]? = some b := by rw [List.getElem?_append_right (by omega), Nat.add_sub_cancel_left]; rfl
theorem get_at2 {μ r : Mu} {a b c : MO} : (μ ++ a :: b :: c :: r)[μ.length + (0 + 1 + 1)]? = some c := by rw [List.getElem?_append_right (by omega), Nat.add_sub_cancel_left]; rfl
theorem get_at3 {μ r : Mu} {a b c d : MO} : (μ ++ a :: b :: c :: d :: r)[μ.length + (0 + 1 + 1 + 1)]? = some d := by rw [List.getElem?_append_right (by omega), Nat.add_sub_cancel_left]; rfl
theorem set_at0 {μ r : Mu} {a o : MO} : (μ ++ a :: r).set μ.length o = μ ++ o :: r := by simp
theorem set_at1 {μ r : Mu} {a b o : MO} : (μ ++ a :: b :: r).set (μ.length + (0 + 1)) o = μ ++ a :: o :: r := by simp
theorem set_at2 {μ r : Mu} {a b c o : MO} : (μ ++ a :: b :: c :: r).set (μ.length + (0 + 1 + 1)) o = μ ++ a :: b :: o :: r := by simp
theorem set_at3 {μ r : Mu} {a b c d o : MO} : (μ ++ a :: b :: c :: d :: r).set (μ.length + (0 + 1 + 1 + 1)) o = μ ++ a :: b :: c :: o :: r := by simp
end SW

end

section
set_option Elab.async false
set_option linter.all false
set_option maxRecDepth 100000
namespace SW
open PySem L2 PyProof.Rows

/-! ### walks over a list that may change, but does not within the walk -/
abbrev TDIC := DS → Mu → (List D → (Mu → Prop) → Mu → Prop) → DE → Prop
def dForC (IA : TDIC) (G : TGD) (B : TDS) : TDS := fun D δ μ => IA δ μ (fun ds P μ1 => ∃ I : Nat → DS → Mu → Prop, I 0 δ μ1 ∧ (∀ i δ μ, I i δ μ → P μ) ∧
  (∀ i d δ μ, ds[i]? = some d → I i δ μ → G d δ μ (fun δ' μ' => B { D with nx := I (i + 1), ct := I (i + 1), bk := D.nx } δ' μ')) ∧ ∀ δ μ, I ds.length δ μ → D.nx δ μ) D.ex
/-- the body of a comprehension over such -/
def dLcC (IA : TDIC) (G : TGD) (T : TDT) (A : TD) (vs : List Nat) (fin : List D → Mu → DQ → Prop) : TD := fun δ μ Q E => IA δ μ (fun ds P μ1 => ∃ I : Nat → List D → Mu → Prop, I 0 [] μ1 ∧ (∀ i acc μ, I i acc μ → P μ) ∧
  (∀ i d acc μ, ds[i]? = some d → I i acc μ → G d (wipeD δ vs) μ (fun δ2 μ2 => T δ2 μ2 (fun b μ3 => (b = true → A δ2 μ3 (fun y μ4 => acc.length < sizeLine ∧ I (i + 1) (acc ++ [y]) μ4) E0D) ∧ (b = false → I (i + 1) acc μ3)) E0D)) ∧
  ∀ acc μ, I ds.length acc μ → fin acc μ Q) E
def dIterC (A : TD) : TDIC := fun δ μ Q E => A δ μ (fun x μ1 => ∃ k xs, x = .cell k ∧ μ1[k]? = some (.lst xs) ∧ Q xs (fun μ => μ[k]? = some (.lst xs)) μ1) E
/-! ### x op= e, of a local -/
structure AugD (X : Cx) (op : Operator) (f : DOp) : Prop where
  ex : ∃ r : R2, (∀ (pins : List (Addr × Obj)) (s : Shared) (σ : L2.St) (H : Hp) (x y : V) (v u : Value) (Q : VK), Inv X pins σ H s → RelV x v → RelV y u → r x y H Q → wpAny (model X.prog X.w) X.A (inplaceOp op v u) (EP X pins σ Q) X.xe s) ∧ LOp X.K r f
def dAug (i : Nat) (f : DOp) (A : TD) : TDS := fun Z δ μ => ∃ x, δ[i]? = some (some x) ∧ A δ μ (fun y μ1 => f x y μ1 (fun z μ2 => Z.nx (δ.set i (some z)) μ2)) Z.ex
def dAddI : DOp := dInt2 (fun _ _ => True) (fun i j => i + j)
/-- new and changed no more, or data -/
def dFrzG (A : TD) : TD := fun δ μ Q E => A δ μ (fun x μ1 => (∃ k xs, x = .cell k ∧ μ1[k]? = some (.lst xs) ∧ Q (.lst xs) (μ1.set k .dead)) ∨ ((∀ k, x ≠ .cell k) ∧ Q x μ1)) E
/-! ### is None, as a test -/
def dIsNon : DOp := fun x y μ Q => y = .non ∧ ∃ b, nonD x = some b ∧ Q (.bl b) μ
def dNotNon : DOp := fun x y μ Q => y = .non ∧ ∃ b, nonD x = some b ∧ Q (.bl (!b)) μ
theorem cd_isN {X : Cx} : CmpD X .Is dIsNon := ⟨_, op_isN, by
  rintro g μ H x y a b Q' Q a0 rx ry ⟨rfl, c, hx, q⟩ k
  have e : b = .non := by unfold Rep at ry; exact ry
  subst e
  refine ⟨rfl, ?_⟩
  rw [rep_isnon hx rx]
  exact k.here a0 rep_bl q⟩
theorem cd_notN {X : Cx} : CmpD X .IsNot dNotNon := ⟨_, op_notN, by
  rintro g μ H x y a b Q' Q a0 rx ry ⟨rfl, c, hx, q⟩ k
  have e : b = .non := by unfold Rep at ry; exact ry
  subst e
  refine ⟨rfl, ?_⟩
  rw [rep_isnon hx rx]
  exact k.here a0 rep_bl q⟩
theorem st_isNon {x : D} {c : Bool} {μ : Mu} {Q : DQ} (e : nonD x = some c) (h : Q (.bl c) μ) : dIsNon x .non μ Q := ⟨rfl, _, e, h⟩
theorem st_notNon {x : D} {c : Bool} {μ : Mu} {Q : DQ} (e : nonD x = some c) (h : Q (.bl (!c)) μ) : dNotNon x .non μ Q := ⟨rfl, _, e, h⟩
theorem st_frzG {A : TD} {δ : DS} {μ : Mu} {Q : DQ} {E : DE} (h : A δ μ (fun x μ1 => (∃ k xs, x = .cell k ∧ μ1[k]? = some (.lst xs) ∧ Q (.lst xs) (μ1.set k .dead)) ∨ ((∀ k, x ≠ .cell k) ∧ Q x μ1)) E) : dFrzG A δ μ Q E := h
theorem st_aug {i : Nat} {f : DOp} {A : TD} {Z : DEnds} {δ : DS} {μ : Mu} {x : D} (e : δ[i]? = some (some x)) (h : A δ μ (fun y μ1 => f x y μ1 (fun z μ2 => Z.nx (δ.set i (some z)) μ2)) Z.ex) : dAug i f A Z δ μ := ⟨x, e, h⟩
theorem st_addA {i j : Int} {μ : Mu} {Q : DQ} (h : Q (.int (i + j)) μ) : dAddI (.int i) (.int j) μ Q := ⟨_, _, rfl, rfl, trivial, h⟩
theorem st_lc {IA : TDI} {G : TGD} {T : TDT} {A : TD} {vs : List Nat} {fin : List D → Mu → DQ → Prop} {δ : DS} {μ : Mu} {Q : DQ} {E : DE} (h : IA δ μ (fun ds μ1 => ∃ I : Nat → List D → Mu → Prop, I 0 [] μ1 ∧
  (∀ i d acc μ, ds[i]? = some d → I i acc μ → G d (wipeD δ vs) μ (fun δ2 μ2 => T δ2 μ2 (fun b μ3 => (b = true → A δ2 μ3 (fun y μ4 => acc.length < sizeLine ∧ I (i + 1) (acc ++ [y]) μ4) E0D) ∧ (b = false → I (i + 1) acc μ3)) E0D)) ∧
  ∀ acc μ, I ds.length acc μ → fin acc μ Q) E) : dLc0 IA G T A vs fin δ μ Q E := h
theorem st_lcC {IA : TDIC} {G : TGD} {T : TDT} {A : TD} {vs : List Nat} {fin : List D → Mu → DQ → Prop} {δ : DS} {μ : Mu} {Q : DQ} {E : DE} (h : IA δ μ (fun ds P μ1 => ∃ I : Nat → List D → Mu → Prop, I 0 [] μ1 ∧ (∀ i acc μ, I i acc μ → P μ) ∧
  (∀ i d acc μ, ds[i]? = some d → I i acc μ → G d (wipeD δ vs) μ (fun δ2 μ2 => T δ2 μ2 (fun b μ3 => (b = true → A δ2 μ3 (fun y μ4 => acc.length < sizeLine ∧ I (i + 1) (acc ++ [y]) μ4) E0D) ∧ (b = false → I (i + 1) acc μ3)) E0D)) ∧
  ∀ acc μ, I ds.length acc μ → fin acc μ Q) E) : dLcC IA G T A vs fin δ μ Q E := h
theorem st_forC {IA : TDIC} {G : TGD} {R : TDS} {Z : DEnds} {δ : DS} {μ : Mu} (h : IA δ μ (fun ds P μ1 => ∃ I : Nat → DS → Mu → Prop, I 0 δ μ1 ∧ (∀ i δ μ, I i δ μ → P μ) ∧
  (∀ i d δ μ, ds[i]? = some d → I i δ μ → G d δ μ (fun δ' μ' => R { Z with nx := I (i + 1), ct := I (i + 1), bk := Z.nx } δ' μ')) ∧ ∀ δ μ, I ds.length δ μ → Z.nx δ μ) Z.ex) : dForC IA G R Z δ μ := h
theorem st_iterC {A : TD} {δ : DS} {μ : Mu} {Q : List D → (Mu → Prop) → Mu → Prop} {E : DE} (h : A δ μ (fun x μ1 => ∃ k xs, x = .cell k ∧ μ1[k]? = some (.lst xs) ∧ Q xs (fun μ => μ[k]? = some (.lst xs)) μ1) E) : dIterC A δ μ Q E := h
theorem st_iterC' {k : Nat} {xs : List D} {μ : Mu} {P : Nat → List D → Prop} (hk : μ[k]? = some (.lst xs)) (h : P k xs) : ∃ k' xs, D.cell k = .cell k' ∧ μ[k']? = some (.lst xs) ∧ P k' xs := ⟨_, _, rfl, hk, h⟩
/- pure comprehensions, ready -/
theorem st_eqNil {xs : List D} {μ : Mu} {Q : DQ} (h : ∀ d ∈ xs, okD 59 d) (q : Q (.bl (decide (xs = []))) μ) : dEq (.lst xs) (.lst []) μ Q := by
  refine st_eqD rfl (okD_lst (by decide) h) (okD_lst (by decide) (by simp)) ?_
  rw [show deq (dr μ (.lst xs)) (dr μ (.lst [])) = decide (xs = []) from deq_nil]
  exact q
theorem st_neNil {xs : List D} {μ : Mu} {Q : DQ} (h : ∀ d ∈ xs, okD 59 d) (q : Q (.bl (!decide (xs = []))) μ) : dNe (.lst xs) (.lst []) μ Q := by
  refine st_neD rfl (okD_lst (by decide) h) (okD_lst (by decide) (by simp)) ?_
  rw [show deq (dr μ (.lst xs)) (dr μ (.lst [])) = decide (xs = []) from deq_nil]
  exact q
/-- a cell that is read alone, or data, handed in first -/
def callB (S : DSp) (ds : List D) (μ : Mu) (Q : DQ) (E : Value → Mu → Prop) : Prop := callP S ds μ Q E ∨ ∃ k o rest, ds = .cell k :: rest ∧ noCs rest = true ∧ μ[k]? = some o ∧ noCO o = true ∧ o ≠ .dead ∧
  S (.cell 0 :: rest) [o] (fun d μ2 => μ2 = [o] ∧ noC d = true ∧ Q d μ) (fun C μ2 => μ2 = [o] ∧ E C μ)
theorem st_callBC {F : DSp} {k : Nat} {o : MO} {rest : List D} {μ : Mu} {Q : DQ} {EF : Value → Mu → Prop} (hk : μ[k]? = some o) (h1 : noCs rest = true) (h2 : noCO o = true) (h3 : o ≠ .dead)
  (h : F (.cell 0 :: rest) [o] (fun d μ2 => μ2 = [o] ∧ noC d = true ∧ Q d μ) (fun C μ2 => μ2 = [o] ∧ EF C μ)) : callB F (.cell k :: rest) μ Q EF := .inr ⟨_, _, _, rfl, h1, hk, h2, h3, h⟩
theorem st_callBP {F : DSp} {ds : List D} {μ : Mu} {Q : DQ} {EF : Value → Mu → Prop} (h1 : noCs ds = true) (h : F ds [] (fun d μ2 => μ2 = [] ∧ noC d = true ∧ Q d μ) (fun C μ2 => μ2 = [] ∧ EF C μ)) : callB F ds μ Q EF := .inl ⟨h1, h⟩
theorem st_bz {d : D} {o : MO} {P : Prop} (h1 : noC d = true) (h : P) : [o] = [o] ∧ noC d = true ∧ P := ⟨rfl, h1, h⟩
theorem get_new1 {μ : Mu} {o o' : MO} : (μ ++ [o] ++ [o'])[μ.length]? = some o := by rw [List.getElem?_append_left (by simp)]; exact get_new
theorem get_new2 {μ : Mu} {o o' o2 : MO} : (μ ++ [o] ++ [o'] ++ [o2])[μ.length]? = some o := by rw [List.getElem?_append_left (by simp)]; exact get_new1
/-! ### a call whose told list, or data, is changed no more -/
def dGF (S : DSp) (A : TDA) : TD := fun δ μ Q E => A δ μ (fun ds μ1 => noCs ds = true ∧ S ds [] (fun d μ2 => (μ2 = [] ∧ noC d = true ∧ Q d μ1) ∨ ∃ xs, d = .cell 0 ∧ μ2 = [.lst xs] ∧ noCs xs = true ∧ Q (.lst xs) (μ1 ++ [.dead])) (fun C μ2 => μ2 = [] ∧ E C δ μ1)) E
theorem st_callGF {S : DSp} {A : TDA} {δ : DS} {μ : Mu} {Q : DQ} {E : DE} (h : A δ μ (fun ds μ1 => noCs ds = true ∧ S ds [] (fun d μ2 => (μ2 = [] ∧ noC d = true ∧ Q d μ1) ∨ ∃ xs, d = .cell 0 ∧ μ2 = [.lst xs] ∧ noCs xs = true ∧ Q (.lst xs) (μ1 ++ [.dead])) (fun C μ2 => μ2 = [] ∧ E C δ μ1)) E) : dGF S A δ μ Q E := h
theorem st_ncs {ds : List D} {P : Prop} (h : noCs ds = true) (q : P) : noCs ds = true ∧ P := ⟨h, q⟩
theorem st_gfL {xs : List D} {P : List D → Prop} {R : Prop} (h2 : noCs xs = true) (h : P xs) : R ∨ ∃ xs', D.cell 0 = .cell 0 ∧ [MO.lst xs] = [.lst xs'] ∧ noCs xs' = true ∧ P xs' := .inr ⟨xs, rfl, rfl, h2, h⟩
/-! ### the script's first cells -/
theorem cellsN_len (ns : List Int) {m : Int} (hm : 0 ≤ m) : (([D.int 0] ++ cutL (ns.map D.int) none (some m)).length : Int) ≤ m + 1 := by
  rw [cutL_to _ hm, List.length_append, List.length_take]
  show ((1 + min m.toNat _ : Nat) : Int) ≤ m + 1
  omega
theorem st_addL0 {ns : List Int} {m : Int} {μ : Mu} {Q : DQ} (hm : 0 ≤ m ∧ m ≤ 1000) (h : Q (.lst ([D.int 0] ++ cutL (ns.map D.int) none (some m))) μ) : dAdd outF (.lst [.int 0]) (.lst (cutL (ns.map D.int) none (some m))) μ Q :=
  st_addL (by
    have := cellsN_len ns hm.1
    rw [List.length_append] at this
    refine sz ?_
    omega) h
theorem st_listaS {o : List D → Mu → DQ → Prop} {s : List Nat} {μ : Mu} {Q : DQ} (h1 : s.length ≤ sizeLine) (h : o (chars s) μ Q) : dListA o (.str s) μ Q := ⟨h1, h⟩
theorem st_listaL {o : List D → Mu → DQ → Prop} {xs : List D} {μ : Mu} {Q : DQ} (h : o xs μ Q) : dListA o (.lst xs) μ Q := ⟨_, rfl, h⟩
theorem st_listaT {o : List D → Mu → DQ → Prop} {xs : List D} {μ : Mu} {Q : DQ} (h : o xs μ Q) : dListA o (.tup xs) μ Q := ⟨_, rfl, h⟩
/-! ### a block that is looked at in two parts -/
def dSeqC (A B : TDS) : TDS := dSeq A B
theorem ws_consC {X : Cx} {W : WX} {st : Stmt} {rest : List Stmt} {A B : TDS} (h1 : WS X W st A) (h2 : WSs X W rest B) : WSs X W (st :: rest) (dSeqC A B) := ws_cons h1 h2
theorem cutC {A B : TDS} {Z : DEnds} {δ : DS} {μ : Mu} (I : DS → Mu → Prop) (h : ∀ N : DS → Mu → Prop, (∀ δ μ, I δ μ → N δ μ) → A { Z with nx := N } δ μ) (k : ∀ δ μ, I δ μ → B Z δ μ) : dSeqC A B Z δ μ := h _ k
end SW

end

section
set_option Elab.async false
set_option linter.all false
set_option maxRecDepth 100000
namespace SW
open PySem PySem.Spec L2

/-! ### a list of lists, changed no more -/
def deadAll (μ : Mu) : List Nat → Mu
  | [] => μ
  | k :: ks => deadAll (μ.set k .dead) ks
def dFrzD (A : TD) : TD := fun δ μ Q E => A δ μ (fun x μ1 => ∃ (k : Nat) (ks : List Nat) (rows : List (List D)), x = .cell k ∧ μ1[k]? = some (.lst (ks.map .cell)) ∧ ks.Nodup ∧ k ∉ ks ∧ ks.length = rows.length ∧ (∀ (i k : Nat) r, ks[i]? = some k → rows[i]? = some r → μ1[k]? = some (.lst r)) ∧
  Q (.lst (rows.map .lst)) ((deadAll μ1 ks).set k .dead)) E
theorem st_frzD {A : TD} {δ : DS} {μ : Mu} {Q : DQ} {E : DE} (h : A δ μ (fun x μ1 => ∃ (k : Nat) (ks : List Nat) (rows : List (List D)), x = .cell k ∧ μ1[k]? = some (.lst (ks.map .cell)) ∧ ks.Nodup ∧ k ∉ ks ∧ ks.length = rows.length ∧ (∀ (i k : Nat) r, ks[i]? = some k → rows[i]? = some r → μ1[k]? = some (.lst r)) ∧
  Q (.lst (rows.map .lst)) ((deadAll μ1 ks).set k .dead)) E) : dFrzD A δ μ Q E := h
/-! ### a text by steps of 1 or -1 -/
/-- s[::c], c being 1 or -1 -/
def dStepD : DOp := fun x y μ Q => ∃ s c, x = .str s ∧ y = .int c ∧ s.length ≤ sizeLine ∧ ((c = 1 ∧ Q (.str s) μ) ∨ (c = -1 ∧ Q (.str s.reverse) μ))
theorem st_stepD1 {s : List Nat} {μ : Mu} {Q : DQ} (h1 : s.length ≤ sizeLine) (h : Q (.str s) μ) : dStepD (.str s) (.int 1) μ Q := ⟨s, 1, rfl, rfl, h1, .inl ⟨rfl, h⟩⟩
theorem st_stepDm {s : List Nat} {μ : Mu} {Q : DQ} (h1 : s.length ≤ sizeLine) (h : Q (.str s.reverse) μ) : dStepD (.str s) (.int (-1)) μ Q := ⟨s, -1, rfl, rfl, h1, .inr ⟨rfl, h⟩⟩
end SW

end

section
set_option Elab.async false
set_option linter.all false
set_option maxRecDepth 100000
namespace SW
open PySem L2
/-! ### insert -/
def dInsert : DMt := fun x ys μ Q => ∃ k xs i y, x = .cell k ∧ ys = [.int i, y] ∧ μ[k]? = some (.lst xs) ∧ xs.length < sizeLine ∧ 0 ≤ i ∧ i < 2 ^ 63 ∧ Q .non (μ.set k (.lst (xs.take i.toNat ++ [y] ++ xs.drop i.toNat)))
theorem md_insert {X : Cx} : MtD X "list.insert" dInsert := by
  refine ⟨_, mt_insert, ?_⟩
  rintro g μ H x a xs as Q' Q a0 rx rs ⟨k, ys, i, y, rfl, rfl, hk, hl, h0, h1, q⟩ kq
  obtain ⟨p, rfl, hp, hF, vs, hH, r⟩ := a0.cellAt hk (by simp) rx
  obtain ⟨v, w, rfl, r1, r2⟩ := reps2 rs
  obtain rfl := rep_int r1
  obtain ⟨a1, e1⟩ := a0.setC (ho := .lst (vs.take i.toNat ++ [w] ++ vs.drop i.toNat)) hk (by simp) hp (o' := .lst (ys.take i.toNat ++ [y] ++ ys.drop i.toNat)) ⟨_, upd_same, ((r.take _).append (Reps.cons r2 Reps.nil)).append (r.drop _)⟩
  exact ⟨p, vs, i, w, rfl, rfl, hH, by rw [← r.length]; exact hl, h0, h1, kq _ _ _ _ _ a1 e1 rep_nonI q⟩
theorem st_insert {k : Nat} {xs : List D} {i : Int} {y : D} {μ : Mu} {Q : DQ} (hk : μ[k]? = some (.lst xs)) (h1 : xs.length < sizeLine) (h2 : 0 ≤ i ∧ i < 1000000) (h : Q .non (μ.set k (.lst (xs.take i.toNat ++ [y] ++ xs.drop i.toNat)))) : dInsert (.cell k) [.int i, y] μ Q := ⟨k, xs, i, y, rfl, rfl, hk, h1, h2.1, by omega, h⟩
/-! ### min of a list of data -/
section
open PyProof.Rows PySem.W PySem.SeqAt
variable {prog : Program} {w : World} {A : Around} {E : Value → Shared → Prop} {s : Shared}
end
/-- a number and a text -/
def nsD (p : Int × List Nat) : D := .tup [.int p.1, .str p.2]
theorem toPys_map : ∀ xs : List D, toPys xs = xs.map toPy
  | [] => rfl
  | x :: xs => by rw [toPys, toPys_map xs]; rfl
end SW

end

section
set_option Elab.async false
set_option linter.all false
set_option maxRecDepth 100000
namespace SW
open PySem L2 PyProof.Rows

/-! ### a list or dict that may change, handed in to be read alone -/
mutual
/-- no list, no dict within -/
def noL : D → Bool
  | .lst _ => false
  | .scr _ => false
  | .dct _ _ _ => false
  | .dcn _ _ _ => false
  | .exc _ => false
  | .tup ds => noLs ds
  | _ => true
def noLs : List D → Bool
  | [] => true
  | d :: ds => noL d && noLs ds
end
def noLF : List (Str × D) → Bool
  | [] => true
  | (_, d) :: r => noL d && noLF r
def noLO : MO → Bool
  | .lst xs => noLs xs
  | .dct _ _ vs => noLs vs
  | .dcn _ _ _ => false
  | .dcl _ _ _ _ _ => false
  | .dcm _ _ _ _ _ => false
  | .ins _ fs => noLF fs
  | .dead => true
def noLM : Mu → Bool
  | [] => true
  | o :: r => noLO o && noLM r
def thawF (F : Hp) (ps : List Addr) : Hp := fun b => if b ∈ ps then none else F b
/-- no tuple -/
def notTup (o : HO) : Prop := ∀ vs, o ≠ .tup vs ∧ ∀ q, o ≠ .frz q (.tup vs)
section
variable {K : PySem.W.Frag} {F : Hp} {θ : List Addr} {ps : List Addr}
mutual
theorem Rep.thaw (h : ∀ p ∈ ps, ∀ o, F p = some o → notTup o) : ∀ (d : D) (v : V), noL d = true → Rep K F θ d v → Rep K (thawF F ps) θ d v
  | .non, v, _, r => by unfold Rep at r ⊢; exact r
  | .bl b, v, _, r => by unfold Rep at r ⊢; exact r
  | .int i, v, _, r => by unfold Rep at r ⊢; exact r
  | .str s, v, _, r => by unfold Rep at r ⊢; exact r
  | .tup ds, v, n, r => by
    unfold noL at n
    unfold Rep at r ⊢
    obtain ⟨p, vs, h1, h2, h3⟩ := r
    refine ⟨p, vs, h1, ?_, Reps.thaw h ds vs n h3⟩
    unfold thawF
    rw [if_neg fun hp => (h p hp _ h2 vs).1 rfl]
    exact h2
  | .lst ds, v, n, r => by unfold noL at n; cases n
  | .scr ds, v, n, r => by unfold noL at n; cases n
  | .dct _ _ _, v, n, r => by unfold noL at n; cases n
  | .dcn _ _ _, v, n, r => by unfold noL at n; cases n
  | .cell k, v, _, r => by unfold Rep at r ⊢; exact r
  | .val u, v, _, r => by unfold Rep at r ⊢; exact r
  | .exc _, v, n, r => by unfold noL at n; cases n
theorem Reps.thaw (h : ∀ p ∈ ps, ∀ o, F p = some o → notTup o) : ∀ (ds : List D) (vs : List V), noLs ds = true → Reps K F θ ds vs → Reps K (thawF F ps) θ ds vs
  | [], vs, _, r => by unfold Reps at r ⊢; exact r
  | d :: ds, vs, n, r => by
    simp [noLs] at n
    unfold Reps at r ⊢
    obtain ⟨v, q, h1, h2, h3⟩ := r
    exact ⟨v, q, h1, Rep.thaw h d v n.1 h2, Reps.thaw h ds q n.2 h3⟩
end
theorem RepF.thaw (h : ∀ p ∈ ps, ∀ o, F p = some o → notTup o) : ∀ (fs : List (Str × D)) (fv : List (Str × V)), noLF fs = true → RepF K F θ fs fv → RepF K (thawF F ps) θ fs fv
  | [], _, _, r => r
  | (x, d) :: r, fv, n, ⟨v, fr, a, b, c⟩ => by
    simp [noLF] at n
    exact ⟨v, fr, a, Rep.thaw h d v n.1 b, RepF.thaw h r fr n.2 c⟩
theorem RepO.thaw {H : Hp} {p : Addr} {o : MO} (h : ∀ p ∈ ps, ∀ o, F p = some o → notTup o) (n : noLO o = true) (r : RepO K F θ H p o) : RepO K (thawF F ps) θ H p o := by
  cases o with
  | lst xs =>
    obtain ⟨vs, a, b⟩ := r
    exact ⟨vs, a, Reps.thaw h _ _ n b⟩
  | dct tt ks ds =>
    obtain ⟨vs, a, b, c⟩ := r
    exact ⟨vs, Reps.thaw h _ _ n a, b, c⟩
  | dcn w kk ds => cases n
  | dcl ob u tt ks ds => cases n
  | dcm ob u w kk ds => cases n
  | ins C fs =>
    obtain ⟨dx, fv, a, b⟩ := r
    exact ⟨dx, fv, a, RepF.thaw h _ _ n b⟩
  | dead => trivial
end
/-- a call's data with the named cells as what they hold -/
def frzOf (μ : Mu) (fs : List Nat) : D → D
  | .cell k => if k ∈ fs then (match μ[k]? with
    | some (.lst xs) => .lst xs
    | some (.dct tt ks vs) => .dct tt ks vs
    | _ => .cell k) else .cell k
  | d => d
def isLD : MO → Prop
  | .lst _ => True
  | _ => False
/-! ### such a call -/
/-- a spec whose answers hold no list or dict -/
def plusL (S : DSp) : DSp := fun ds μ Q E => S ds μ (fun d μ2 => noL d = true ∧ noLM μ2 = true ∧ Q d μ2) (fun C μ2 => noLM μ2 = true ∧ E C μ2)
def dCallT (c : CForm) (S : DSp) (A : TDA) : TD := fun δ μ Q E => A δ μ (fun ds μ1 => c S ds μ1 Q (fun C μ2 => E C δ μ2) ∨
  ∃ fs : List Nat, (∀ k ∈ fs, ∃ o, μ1[k]? = some o ∧ isLD o) ∧ c (plusL S) (ds.map (frzOf μ1 fs)) μ1 Q (fun C μ2 => E C δ μ2)) E
section
variable {X : Cx} {W : WX} {e : Expr} {es : List Expr} {A : TDA} {S : DSp} {x : Str} {p pos : Pos} {k : Nat}
end
end SW

end

section
set_option Elab.async false
set_option linter.all false
set_option maxRecDepth 100000
namespace SW
open PySem L2 PySem.SeqAt PyProof.Rows

/-! ### min of a list of data that are alike -/
end SW

end

section
set_option Elab.async false
set_option linter.all false
set_option maxRecDepth 100000
namespace SW
open PySem L2

/-! ### functions of data, by kind -/
def strF (f : List Nat → D) : D → D
  | .str s => f s
  | _ => .non
theorem map_strF (f : List Nat → D) (l : List (List Nat)) : (l.map D.str).map (strF f) = l.map f := by rw [List.map_map]; rfl
theorem st_frzL {k : Nat} {xs : List D} {μ : Mu} {P : Nat → List D → Prop} {R : Nat → Prop} (hk : μ[k]? = some (.lst xs)) (h : P k xs) : ∃ k', D.cell k = .cell k' ∧ ((∃ xs, μ[k']? = some (.lst xs) ∧ P k' xs) ∨ R k') := ⟨_, rfl, .inl ⟨_, hk, h⟩⟩
/-- a comprehension over texts -/
theorem lc_strs {l : List (List Nat)} {i : Nat} {A : TD} {δ : DS} {vs : List Nat} {μ : Mu} {fin : List D → Mu → DQ → Prop} {Q : DQ} (f : List Nat → D) (hz : l.length ≤ sizeLine)
    (h : ∀ (j : Nat) s, l[j]? = some s → ∀ (KA : D → Mu → Prop), KA (f s) μ → gdName i (.str s) (wipeD δ vs) μ (fun δ2 μ2 => A δ2 μ2 KA E0D))
    (q : fin (l.map f) μ Q) :
    ∃ I : Nat → List D → Mu → Prop, I 0 [] μ ∧ (∀ j d acc μ, (l.map D.str)[j]? = some d → I j acc μ → gdName i d (wipeD δ vs) μ (fun δ2 μ2 => dYes δ2 μ2 (fun b μ3 => (b = true → A δ2 μ3 (fun y μ4 => acc.length < sizeLine ∧ I (j + 1) (acc ++ [y]) μ4) E0D) ∧ (b = false → I (j + 1) acc μ3)) E0D)) ∧
      ∀ acc μ, I (l.map D.str).length acc μ → fin acc μ Q := by
  refine lc_map (strF f) (by rw [List.length_map]; exact hz) (fun j d hd KA hk => ?_) (gmono_name i) (by rw [map_strF]; exact q)
  rw [List.getElem?_map] at hd
  obtain ⟨s, hs, rfl⟩ := Option.map_eq_some_iff.mp hd
  exact h j s hs KA hk
end SW

end

section
set_option Elab.async false
set_option linter.all false
set_option maxRecDepth 100000
namespace SW
open PySem L2

/-! ### pop by place, count, clear -/
theorem Reps.eraseIdx {K : PySem.W.Frag} {F : Hp} {θ : List Addr} : ∀ {ds : List D} {vs : List V} (n : Nat), Reps K F θ ds vs → Reps K F θ (ds.eraseIdx n) (vs.eraseIdx n)
  | [], vs, n, h => by unfold Reps at h; subst h; simp [Reps.nil]
  | d :: ds, vs, 0, h => by
    unfold Reps at h
    obtain ⟨v, r, q, h1, h⟩ := h
    subst q
    exact h
  | d :: ds, vs, n + 1, h => by
    unfold Reps at h
    obtain ⟨v, r, q, h1, h⟩ := h
    subst q
    exact Reps.cons h1 (Reps.eraseIdx n h)
def dPopAt : DMt := fun x ys μ Q => ∃ k xs i y, x = .cell k ∧ ys = [.int i] ∧ μ[k]? = some (.lst xs) ∧ 0 ≤ i ∧ i < 1000000000 ∧ xs[i.toNat]? = some y ∧ Q y (μ.set k (.lst (xs.eraseIdx i.toNat)))
theorem md_popAt {X : Cx} : MtD X "list.pop" dPopAt := by
  refine ⟨_, mt_popAt, ?_⟩
  rintro g μ H x a xs as Q' Q a0 rx rs ⟨k, ys, i, y, rfl, rfl, hk, h0, h1, hy, q⟩ kq
  obtain ⟨p, rfl, hp, hF, vs, hH, r⟩ := a0.cellAt hk (by simp) rx
  obtain ⟨w, rfl, r1⟩ := reps1 rs
  obtain rfl := rep_int r1
  obtain ⟨w, hw, rw'⟩ := r.get hy
  obtain ⟨a1, e1⟩ := a0.setC (ho := .lst (vs.eraseIdx i.toNat)) hk (by simp) hp (o' := .lst (ys.eraseIdx i.toNat)) ⟨_, upd_same, r.eraseIdx _⟩
  have hl := (List.getElem?_eq_some_iff.mp hw).1
  refine ⟨p, vs, i, i.toNat, w, rfl, rfl, hH, by omega, by omega, ?_, hw, kq _ _ _ _ _ a1 e1 (rw'.ext e1) q⟩
  unfold seqIndex?
  have e1 : ¬ i < 0 := by omega
  have e2 : i < (vs.length : Int) := by omega
  simp [h0, e1, e2]
theorem st_popAt {k : Nat} {xs : List D} {i : Int} {y : D} {μ : Mu} {Q : DQ} (hk : μ[k]? = some (.lst xs)) (h : 0 ≤ i ∧ i < 1000000000) (hy : xs[i.toNat]? = some y) (q : Q y (μ.set k (.lst (xs.eraseIdx i.toNat)))) : dPopAt (.cell k) [.int i] μ Q := ⟨k, xs, i, y, rfl, rfl, hk, h.1, h.2, hy, q⟩
theorem st_pop {k : Nat} {xs : List D} {y : D} {μ : Mu} {Q : DQ} (hk : μ[k]? = some (.lst xs)) (hy : xs[xs.length - 1]? = some y) (q : Q y (μ.set k (.lst xs.dropLast))) : dPop (.cell k) [] μ Q := ⟨k, xs, y, rfl, rfl, hk, hy, q⟩
def dCount : DMt := fun x ys μ Q => ∃ s c, x = .str s ∧ ys = [.str [c]] ∧ Q (.int (s.count c : Nat)) μ
theorem st_count {s : List Nat} {c : Nat} {μ : Mu} {Q : DQ} (q : Q (.int (s.count c : Nat)) μ) : dCount (.str s) [.str [c]] μ Q := ⟨s, c, rfl, rfl, q⟩
end SW

end

section
set_option Elab.async false
set_option linter.all false
set_option maxRecDepth 100000
namespace SW
open PySem L2

/-! ### steps of a call that reads a list that changes -/
theorem frz_noC {μ : Mu} {fs : List Nat} : ∀ {ds : List D}, noCs ds = true → ds.map (frzOf μ fs) = ds
  | [], _ => rfl
  | d :: ds, h => by
    simp only [noCs, Bool.and_eq_true] at h
    rw [List.map_cons, frz_noC h.2]
    cases d with
    | cell k => exact absurd h.1 (by simp [noC])
    | _ => rfl
section
variable {c : CForm} {S : DSp} {δ : DS} {μ : Mu} {Q : DQ} {E : DE} {EF : Value → Mu → Prop} {A : TDA}
theorem st_callT (h : A δ μ (fun ds μ1 => c S ds μ1 Q (fun C μ2 => E C δ μ2) ∨
  ∃ fs : List Nat, (∀ k ∈ fs, ∃ o, μ1[k]? = some o ∧ isLD o) ∧ c (plusL S) (ds.map (frzOf μ1 fs)) μ1 Q (fun C μ2 => E C δ μ2)) E) : dCallT c S A δ μ Q E := h
theorem st_callT1 {k : Nat} {xs rest : List D} (hk : μ[k]? = some (.lst xs)) (hr : noCs rest = true) (h : c (plusL S) (.lst xs :: rest) μ Q EF) :
    c S (.cell k :: rest) μ Q EF ∨ ∃ fs : List Nat, (∀ k ∈ fs, ∃ o, μ[k]? = some o ∧ isLD o) ∧ c (plusL S) ((.cell k :: rest).map (frzOf μ fs)) μ Q EF :=
  .inr ⟨[k], fun j hj => by rw [List.mem_singleton.mp hj]; exact ⟨_, hk, trivial⟩, by
    rw [List.map_cons, frz_noC hr]
    have : frzOf μ [k] (.cell k) = .lst xs := by simp [frzOf, hk]
    rw [this]
    exact h⟩
theorem st_callT2 {k : Nat} {d : D} {xs rest : List D} (hk : μ[k]? = some (.lst xs)) (hd : noCs [d] = true) (hr : noCs rest = true) (h : c (plusL S) (d :: .lst xs :: rest) μ Q EF) :
    c S (d :: .cell k :: rest) μ Q EF ∨ ∃ fs : List Nat, (∀ k ∈ fs, ∃ o, μ[k]? = some o ∧ isLD o) ∧ c (plusL S) ((d :: .cell k :: rest).map (frzOf μ fs)) μ Q EF :=
  .inr ⟨[k], fun j hj => by rw [List.mem_singleton.mp hj]; exact ⟨_, hk, trivial⟩, by
    rw [List.map_cons, List.map_cons, frz_noC hr]
    have : frzOf μ [k] (.cell k) = .lst xs := by simp [frzOf, hk]
    rw [this]
    have e : [d].map (frzOf μ [k]) = [d] := frz_noC hd
    have e' : frzOf μ [k] d = d := List.cons.inj e |>.1
    rw [e']
    exact h⟩
theorem st_plus {ds : List D} {E' : Value → Mu → Prop} (h : S ds μ (fun d μ2 => noL d = true ∧ noLM μ2 = true ∧ Q d μ2) (fun C μ2 => noLM μ2 = true ∧ E' C μ2)) : plusL S ds μ Q E' := h
theorem st_pl {d : D} {P : Prop} (h1 : noL d = true) (h2 : noLM μ = true) (h : P) : noL d = true ∧ noLM μ = true ∧ P := ⟨h1, h2, h⟩
theorem st_plE {P : Prop} (h2 : noLM μ = true) (h : P) : noLM μ = true ∧ P := ⟨h2, h⟩
end
theorem st_ixC {k : Nat} {xs : List D} {n : Int} {d : D} {μ : Mu} {Q : DQ} (hk : μ[k]? = some (.lst xs)) (e : atI xs n = some d) (h : Q d μ) : dIx (.cell k) (.int n) μ Q := st_ixL rfl (seqOf_cell hk) e h
theorem st_neNilC {k : Nat} {xs : List D} {μ : Mu} {Q : DQ} (hk : μ[k]? = some (.lst xs)) (h : ∀ d ∈ xs, okD 59 d) (q : Q (.bl (!decide (xs = []))) μ) : dNe (.cell k) (.lst []) μ Q := by
  refine st_neD rfl (by rw [dr_cell hk]; exact okD_lst (by decide) h) (okD_lst (by decide) (by simp)) ?_
  rw [show deq (dr μ (.cell k)) (dr μ (.lst [])) = decide (xs = []) by rw [dr_cell hk]; exact deq_nil]
  exact q
/-! ### a well of two numbers -/
def WellC (o : MO) : Prop := ∃ a b : Int, o = .lst [.int a, .int b]
theorem WellC.noC {o : MO} (h : WellC o) : noCO o = true := by obtain ⟨a, b, rfl⟩ := h; rfl
theorem WellC.live {o : MO} (h : WellC o) : o ≠ .dead := by obtain ⟨a, b, rfl⟩ := h; exact fun z => nomatch z
theorem WellC.noL {o : MO} (h : WellC o) : noLO o = true := by obtain ⟨a, b, rfl⟩ := h; rfl
theorem lc_fstrs {l : List (List Nat)} {G : TGD} {T : TDT} {A : TD} {δ : DS} {vs : List Nat} {μ : Mu} {fin : List D → Mu → DQ → Prop} {Q : DQ} (p : List Nat → Bool) (f : List Nat → D) (hz : l.length ≤ sizeLine)
    (h : ∀ (j : Nat) c, l[j]? = some c → ∀ (KA : D → Mu → Prop) (KF : Mu → Prop), (p c = true → KA (f c) μ) → (p c = false → KF μ) →
      G (.str c) (wipeD δ vs) μ (fun δ2 μ2 => T δ2 μ2 (fun b μ3 => (b = true → A δ2 μ3 KA E0D) ∧ (b = false → KF μ3)) E0D))
    (q : fin ((l.filter p).map f) μ Q) :
    ∃ I : Nat → List D → Mu → Prop, I 0 [] μ ∧ (∀ j d acc μ, (l.map D.str)[j]? = some d → I j acc μ → G d (wipeD δ vs) μ (fun δ2 μ2 => T δ2 μ2 (fun b μ3 => (b = true → A δ2 μ3 (fun y μ4 => acc.length < sizeLine ∧ I (j + 1) (acc ++ [y]) μ4) E0D) ∧ (b = false → I (j + 1) acc μ3)) E0D)) ∧
      ∀ acc μ, I (l.map D.str).length acc μ → fin acc μ Q := by
  refine lc_pure (fun d => match d with | .str s => p s | _ => false) (strF f) (by rw [List.length_map]; exact hz) (fun j d hd KA KF h1 h2 => ?_) ?_
  · rw [List.getElem?_map] at hd
    obtain ⟨c, hc, rfl⟩ := Option.map_eq_some_iff.mp hd
    exact h j c hc KA KF h1 h2
  · have e : ((l.map D.str).filter (fun d => match d with | .str s => p s | _ => false)).map (strF f) = (l.filter p).map f := by
      rw [List.filter_map, List.map_map]
      rfl
    rw [e]
    exact q
theorem deq_self {n : Nat} {d : D} (h : okD n d) : deq d d = true := PySem.SeqAt.eqv_refl _ (okD_can n d h).1
/-! ### the script's first cells, behind some written ones -/
theorem st_addLS {a : List D} {ns : List Int} {m : Int} {μ : Mu} {Q : DQ} (ha : a.length ≤ 1000) (hm : 0 ≤ m ∧ m ≤ 1000) (h : Q (.lst (a ++ cutL (ns.map D.int) none (some m))) μ) : dAdd outF (.lst a) (.lst (cutL (ns.map D.int) none (some m))) μ Q := st_addL (by
  have : (cutL (ns.map D.int) none (some m)).length ≤ m.toNat := by rw [cutL_to _ hm.1, List.length_take]; omega
  exact sz (by omega)) h
theorem cells_int {a : List D} {ns : List Int} {m : Option Int} {i : Nat} {x : D} (h : (a ++ cutL (ns.map D.int) none m)[i]? = some x) (ha : ∀ d ∈ a, ∃ c, d = D.int c) : ∃ c, x = .int c := by
  rcases List.mem_append.mp (List.mem_of_getElem? h) with h | h
  · exact ha x h
  · obtain ⟨c, _, rfl⟩ := List.mem_map.mp (cutL_sub _ _ _ _ h)
    exact ⟨c, rfl⟩
/-! ### rows -/
def Rows (rows : List (List Nat)) (most : Nat) : Prop := ∀ r ∈ rows, isRow r = true ∧ r.length ≤ most
theorem Rows.get {rows : List (List Nat)} {most i : Nat} {r : List Nat} (h : Rows rows most) (e : rows[i]? = some r) : isRow r = true ∧ r.length ≤ most := h r (List.mem_of_getElem? e)
theorem Rows.mono {rows : List (List Nat)} {m n : Nat} (h : Rows rows m) (l : m ≤ n) : Rows rows n := fun r hr => ⟨(h r hr).1, by have := (h r hr).2; omega⟩
theorem Rows.nil {m : Nat} : Rows [] m := fun _ h => nomatch h
theorem Rows.app {rows : List (List Nat)} {m : Nat} {r : List Nat} (h : Rows rows m) (hr : isRow r = true) (hl : r.length ≤ m) : Rows (rows ++ [r]) m := fun x hx => by
  rcases List.mem_append.mp hx with hx | hx
  · exact h x hx
  · rw [List.mem_singleton.mp hx]; exact ⟨hr, hl⟩
theorem Rows.sub {rows rows' : List (List Nat)} {m : Nat} (h : Rows rows m) (hs : ∀ r ∈ rows', r ∈ rows) : Rows rows' m := fun x hx => h x (hs x hx)
theorem strs_ok {rows : List (List Nat)} {m n : Nat} (h : Rows rows m) : ∀ d ∈ rows.map D.str, okD n d := fun d hd => by
  obtain ⟨r, hr, rfl⟩ := List.mem_map.mp hd
  exact okD_str (row_ok (h r hr).1)
theorem chars_erase (s : List Nat) (n : Nat) : (chars s).eraseIdx n = chars (s.eraseIdx n) := by
  unfold chars
  induction s generalizing n with
  | nil => rfl
  | cons a r ih => cases n with
    | zero => rfl
    | succ n => simp [ih]
theorem Rows.dropLast {rows : List (List Nat)} {m : Nat} (h : Rows rows m) : Rows rows.dropLast m := h.sub fun _ hx => List.dropLast_subset _ hx
theorem Rows.drop {rows : List (List Nat)} {m n : Nat} (h : Rows rows m) : Rows (rows.drop n) m := h.sub fun _ hx => List.mem_of_mem_drop hx
end SW

end

section
set_option Elab.async false
set_option linter.all false
set_option maxRecDepth 100000
namespace SW
open PySem L2

/-! ### comprehensions over whole numbers from 0 on -/
/-! ### sums, places -/
theorem noLs_nats (l : List Nat) : noLs (natsD l) = true := by
  unfold natsD
  induction l with
  | nil => rfl
  | cons x l ih => simp [noLs, noL, ih]
theorem noL1 {xs : List D} (h : noLs xs = true) : noLM [.lst xs] = true := by simp [noLM, noLO, h]
theorem noLs_strs (l : List (List Nat)) : noLs (l.map D.str) = true := by
  induction l with
  | nil => rfl
  | cons x l ih => simp [noLs, noL, ih]
theorem st_isiC {k : Nat} {xs : List D} {n : String} {b : Bool} {μ : Mu} {Q : DQ} (hk : μ[k]? = some (.lst xs)) (h2 : kitB "list" n = some b) (h : Q (.bl b) μ) : dIsi [.cell k, .val (.ty n)] μ Q := st_isi (t := "list") (by simp [tyN, hk]) h2 h
theorem kit_list_list : kitB "list" "list" = some true := by decide +kernel
end SW

end

section
set_option Elab.async false
set_option linter.all false
set_option maxRecDepth 100000
namespace SW
open PySem L2

/-! ### keys -/
def isK1 : D → Bool
  | .int _ => true
  | .str _ => true
  | _ => false
def keq1 : D → D → Bool
  | .int i, .int j => decide (i = j)
  | .str a, .str b => decide (a = b)
  | _, _ => false
def keqs : List D → List D → Bool
  | [], [] => true
  | x :: xs, y :: ys => keq1 x y && keqs xs ys
  | _, _ => false
def isKD (t : Bool) : D → Bool
  | .tup xs => t && xs.all isK1
  | y => !t && isK1 y
def keq : D → D → Bool
  | .tup xs, .tup ys => keqs xs ys
  | x, y => keq1 x y
abbrev kT (x : List Key) : D := .tup (x.map kD)
/-! ### tables -/
def lookD (y : D) : List D → List D → Option D
  | k :: ks, v :: vs => if keq k y then some v else lookD y ks vs
  | _, _ => none
def hasD (y : D) (ks : List D) : Bool := ks.any fun k => keq k y
def setVs (y v : D) : List D → List D → List D
  | k :: ks, w :: vs => (if keq k y then v else w) :: setVs y v ks vs
  | _, _ => []
def putKs (y : D) (ks : List D) : List D := if hasD y ks then ks else ks ++ [y]
def putVs (y v : D) (ks vs : List D) : List D := if hasD y ks then setVs y v ks vs else vs ++ [v]
section
variable {κ : Type} [DecidableEq κ] {K : PySem.W.Frag} {F : Hp} {θ : List Addr} {f : κ → D} (hf : ∀ a b, keq (f a) (f b) = decide (a = b))
include hf
end

/-! ### dicts that are read -/
def dctOf (μ : Mu) : D → Option (Bool × List D × List D)
  | .dct t ks vs => some (t, ks, vs)
  | .cell k => match μ[k]? with
    | some (.dct t ks vs) => some (t, ks, vs)
    | _ => none
  | _ => none
section
variable {X : Cx} {W : WX} {e a b : Expr} {A B : TD} {pos : Pos}
/-- d[y] -/
def dIxD : DOp := fun x y μ Q => ∃ t ks vs u, dctOf μ x = some (t, ks, vs) ∧ isKD t y = true ∧ lookD y ks vs = some u ∧ Q u μ
/-- y in d -/
def dInD (neg : Bool) : DOp := fun y x μ Q => ∃ t ks vs, dctOf μ x = some (t, ks, vs) ∧ isKD t y = true ∧ Q (.bl (if neg then !(lookD y ks vs).isSome else (lookD y ks vs).isSome)) μ
end
/-! ### a dict is changed -/
def dSetD : DSet := fun o y v μ Q => ∃ k t ks vs, o = .cell k ∧ μ[k]? = some (.dct t ks vs) ∧ isKD t y = true ∧ ks.length < sizeLine ∧ Q (μ.set k (.dct t (putKs y ks) (putVs y v ks vs)))
/-! ### new dicts -/
def dNewD (t : Bool) : TD := fun _ μ Q _ => Q (.cell μ.length) (μ ++ [.dct t [] []])
theorem At.newD {K : PySem.W.Frag} {g : Wd} {μ : Mu} {H : Hp} (t : Bool) (a : At K g μ H) {p : Addr} (hp : H p = none) : ∃ g', g'.F = g.F ∧ At K g' (μ ++ [.dct t [] []]) (upd H p (if t then .dT [] else .dK [])) ∧ Ext g H g' (upd H p (if t then .dT [] else .dK [])) ∧ Rep K g'.F g'.th (.cell μ.length) (.ref p) := by
  have r : RepO K g.F (g.th ++ [p]) (upd H p (if t then .dT [] else .dK [])) p (.dct t [] []) := by
    refine ⟨[], Reps.nil, rfl, ?_⟩
    cases t with
    | false => exact .inl ⟨[], ⟨rfl, rfl⟩, upd_same⟩
    | true => exact .inr ⟨[], ⟨rfl, rfl⟩, upd_same⟩
  exact ⟨⟨g.F, g.th ++ [p]⟩, rfl, a.newC hp r⟩
section
variable {X : Cx} {W : WX} {pos : Pos}
theorem we_dnew (t : Bool) : WX0 X W (.Dict [] [] pos) (dNewD t) := by
  have k : ∀ σ H Q, up X.K W (dNewD t) σ H Q → ∀ p, H p = none → Q (.ref p) (upd H p (if t then .dT [] else .dK [])) := by
    rintro σ H Q ⟨g, μ, δ, Q', E', a0, sl, h, k, kx⟩ p hp
    obtain ⟨g', _, a1, e1, r1⟩ := a0.newD t hp
    exact k _ _ _ _ _ a1 e1 r1 h
  cases t with
  | false => exact PE.imp pe_dnewK k
  | true => exact PE.imp pe_dnewT k
end
/-! ### displays of dicts -/
def dPairs : List (TD × TD) → DS → Mu → (List (D × D) → Mu → Prop) → DE → Prop
  | [], _, μ, Q, _ => Q [] μ
  | (A, B) :: r, δ, μ, Q, E => A δ μ (fun x μ1 => B δ μ1 (fun y μ2 => dPairs r δ μ2 (fun ps μ3 => Q ((x, y) :: ps) μ3) E) E) E
def putAll : List (D × D) → List D × List D → List D × List D
  | [], kv => kv
  | p :: ps, kv => putAll ps (putKs p.1 kv.1, putVs p.1 p.2 kv.1 kv.2)
def dDisp (t : Bool) (ds : List (TD × TD)) : TD := fun δ μ Q E => dPairs ds δ (μ ++ [.dct t [] []]) (fun ps μ2 => μ2[μ.length]? = some (.dct t [] []) ∧ (∀ p ∈ ps, isKD t p.1 = true) ∧ ps.length ≤ 15 ∧
  Q (.cell μ.length) (μ2.set μ.length (.dct t (putAll ps ([], [])).1 (putAll ps ([], [])).2))) E
def Rp2 (K : PySem.W.Frag) (F : Hp) (θ : List Addr) : List (D × D) → List (V × V) → Prop
  | [], vs => vs = []
  | d :: ds, vs => ∃ v r, vs = v :: r ∧ Rep K F θ d.1 v.1 ∧ Rep K F θ d.2 v.2 ∧ Rp2 K F θ ds r
theorem Rp2.ext {K : PySem.W.Frag} {g g' : Wd} {H H' : Hp} (e : Ext g H g' H') : ∀ {ds : List (D × D)} {vs : List (V × V)}, Rp2 K g.F g.th ds vs → Rp2 K g'.F g'.th ds vs
  | [], _, h => h
  | _ :: _, _, ⟨v, r, e1, h1, h2, h3⟩ => ⟨v, r, e1, h1.ext e, h2.ext e, Rp2.ext e h3⟩
section
variable {X : Cx} {pins : List (Addr × Obj)} {σ : St} {A : Around} {E : Value → Shared → Prop}
end
/-! ### len(d) -/
def dLenD : DUn := fun x μ Q => ∃ t ks vs, dctOf μ x = some (t, ks, vs) ∧ Q (.int ks.length) μ
/-! ### steps -/
section
variable {μ : Mu} {Q : DQ} {k : Nat} {t : Bool} {ks vs : List D} {x y u : D}
theorem st_ixD (h1 : dctOf μ x = some (t, ks, vs)) (h2 : isKD t y = true) (h3 : lookD y ks vs = some u) (q : Q u μ) : dIxD x y μ Q := ⟨t, ks, vs, u, h1, h2, h3, q⟩
theorem st_inD (h1 : dctOf μ x = some (t, ks, vs)) (h2 : isKD t y = true) (q : Q (.bl (lookD y ks vs).isSome) μ) : dInD false y x μ Q := ⟨t, ks, vs, h1, h2, q⟩
theorem st_ninD (h1 : dctOf μ x = some (t, ks, vs)) (h2 : isKD t y = true) (q : Q (.bl (!(lookD y ks vs).isSome)) μ) : dInD true y x μ Q := ⟨t, ks, vs, h1, h2, q⟩
theorem st_setD {K : Mu → Prop} (h1 : μ[k]? = some (.dct t ks vs)) (h2 : isKD t y = true) (h3 : ks.length < sizeLine) (q : K (μ.set k (.dct t (putKs y ks) (putVs y u ks vs)))) : dSetD (.cell k) y u μ K := ⟨k, t, ks, vs, rfl, h1, h2, h3, q⟩
theorem st_newD {δ : DS} {E : DE} (q : Q (.cell μ.length) (μ ++ [.dct t [] []])) : dNewD t δ μ Q E := q
theorem st_disp {δ : DS} {E : DE} {ds : List (TD × TD)} (h : dPairs ds δ (μ ++ [.dct t [] []]) (fun ps μ2 => μ2[μ.length]? = some (.dct t [] []) ∧ (∀ p ∈ ps, isKD t p.1 = true) ∧ ps.length ≤ 15 ∧
  Q (.cell μ.length) (μ2.set μ.length (.dct t (putAll ps ([], [])).1 (putAll ps ([], [])).2))) E) : dDisp t ds δ μ Q E := h
theorem st_pairs0 {δ : DS} {E : DE} {QP : List (D × D) → Mu → Prop} (h : QP [] μ) : dPairs [] δ μ QP E := h
theorem st_pairs1 {δ : DS} {E : DE} {QP : List (D × D) → Mu → Prop} {A B : TD} {r : List (TD × TD)} (h : A δ μ (fun x μ1 => B δ μ1 (fun y μ2 => dPairs r δ μ2 (fun ps μ3 => QP ((x, y) :: ps) μ3) E) E) E) : dPairs ((A, B) :: r) δ μ QP E := h
theorem st_lenD (h1 : dctOf μ x = some (t, ks, vs)) (q : Q (.int ks.length) μ) : dLenD x μ Q := ⟨t, ks, vs, h1, q⟩
end
end SW

end

section
set_option Elab.async false
set_option linter.all false
set_option maxRecDepth 100000
set_option maxHeartbeats 4000000
namespace SW
open PySem L2 PySem.Spec PyProof.Rows
/-! ### a tuple taken once, or not at all -/
section
variable {α : Type} {M : Model} {A : Around} {E : Value → Shared → Prop} {s : Shared} {Q : α → Shared → Prop} {a b : Sem α} {c : Bool}
end
section
variable {l : Addr} {items : Array Value} {n : Nat} {dd : Option Addr} {sl : Array (Option Value)} {x : Int} {u : Tok}
abbrev tupO (items : Array Value) (n : Nat) (dd : Option Addr) (sl : Array (Option Value)) : Obj := { cls := .type "tuple", dict := dd, data := .seq items n, slots := sl }
end
section
variable {X : Cx} {pins : List (Addr × Obj)} {σ : L2.St} {H : Hp} {s : Shared}
/-- what stands there, and how the product is asked of it -/
theorem taken {l : Addr} {xs : List V} {k : Int} {t : Tok} {Q : Value → Shared → Prop} {E : Value → Shared → Prop} (I : Inv X pins σ H s) (hT : SqT X.K H l xs)
    (q : ∀ (its : Array Value) n dd sl, Vals xs its.toList → s.heap.get? l = some (tupO its n dd sl) → wpAny (model X.prog X.w) X.A (call (.builtin "tuple.__mul__") [.ref l, .int k t]) Q E s) : wpAny (model X.prog X.w) X.A (binaryOp .Mult (.ref l) (.int k t)) Q E s := by
  obtain ⟨its, r, ⟨o, ho, hc, n, hd⟩, _⟩ := I.tuple hT
  obtain ⟨_, dd, _, sl⟩ := o
  obtain rfl : _ = _ := hc
  obtain rfl : _ = _ := hd
  exact wpAny_binaryOp_repeat_ref (T := "tuple") (U := "int") (by decide) ⟨_, ho, rfl⟩ (fun _ => typeIs_int _ k t) noFill_tuple_mul F.fills_int_mul F.slot_int_rmul repeat_tuple F.slot_int_index.lookup
    (call_meets F.slot_int_rmul (typeIs_int s k t) F.entry_int_rmul (F.args_int_rmul_2 _ _) (int_rmul_tuple k t l its.toArray n dd sl) ⟨ho, rfl, ⟨_, ho, rfl⟩, q its.toArray n dd sl r ho⟩)
end
def dMulT : DOp := fun x y μ Q => ∃ xs k, x = .tup xs ∧ y = .int k ∧ xs ≠ [] ∧ -1000 ≤ k ∧ k ≤ 1000 ∧ xs.length ≤ 1000 ∧ Q (.tup (List.replicate k.toNat xs).flatten) μ
theorem st_mulT {x : D} {n : Nat} {μ : Mu} {Q : DQ} (h : n ≤ 1000) (q : Q (.tup (List.replicate n x)) μ) : dMulT (.tup [x]) (.int n) μ Q :=
  ⟨[x], n, rfl, rfl, by simp, by omega, by omega, by simp, by
    have e : (List.replicate (n : Int).toNat [x]).flatten = List.replicate n x := by
      rw [Int.toNat_natCast]
      exact List.flatten_replicate_singleton
    rw [e]
    exact q⟩
theorem st_tupOfL {xs : List D} {μ : Mu} {Q : DQ} (q : Q (.tup xs) μ) : dTupOf (.lst xs) μ Q := ⟨xs, rfl, q⟩
theorem noCs_chars (l : List Nat) : noCs (chars l) = true := noCs_map _ (fun _ => rfl) _
theorem st_frzDct {k : Nat} {tt : Bool} {ks vs : List D} {μ : Mu} {Q : DQ} (hk : μ[k]? = some (.dct tt ks vs)) (q : Q (.dct tt ks vs) (μ.set k .dead)) :
    ∃ k', D.cell k = .cell k' ∧ ((∃ xs, μ[k']? = some (.lst xs) ∧ Q (.lst xs) (μ.set k' .dead)) ∨ (∃ tt ks vs, μ[k']? = some (.dct tt ks vs) ∧ Q (.dct tt ks vs) (μ.set k' .dead))) := ⟨k, rfl, .inr ⟨tt, ks, vs, hk, q⟩⟩
theorem get_c1 {X Y : MO} {ν : Mu} : (X :: (ν ++ [Y]))[ν.length + 1]? = some Y := by
  rw [List.getElem?_cons_succ, List.getElem?_append_right (Nat.le_refl _), Nat.sub_self]
  rfl
theorem st_lenScr {xs : List D} {μ : Mu} {Q : DQ} (q : Q (.int xs.length) μ) : dLen (.scr xs) μ Q := ⟨xs, rfl, q⟩
end SW

end

section
set_option Elab.async false
set_option linter.all false
set_option maxRecDepth 100000
namespace SW
open PySem L2
theorem st_mulS {o : List D → Mu → DQ → Prop} {s : List Nat} {n : Int} {μ : Mu} {Q : DQ} (h : 0 ≤ n ∧ n ≤ 100000) (h2 : s.length * n.toNat ≤ 100000) (q : Q (.str (List.replicate n.toNat s).flatten) μ) : dMul o (.str s) (.int n) μ Q := ⟨h.1, h.2, h2, q⟩
end SW

end

section
set_option Elab.async false
set_option linter.all false
set_option maxRecDepth 100000
namespace SW
open PySem L2 PySem.Spec PyProof.Rows

/-! ### the keys of a dict that no one changes -/
def dKeysIt (A : TD) : TDI := fun δ μ Q E => A δ μ (fun x μ1 => ∃ t ks vs, x = .dct t ks vs ∧ Q ks μ1) E
theorem st_keysIt {A : TD} {δ : DS} {μ : Mu} {QA : List D → Mu → Prop} {E : DE} (h : A δ μ (fun x μ1 => ∃ t ks vs, x = .dct t ks vs ∧ QA ks μ1) E) : dKeysIt A δ μ QA E := h
theorem st_isDct {t : Bool} {ks vs : List D} {P : Bool → List D → List D → Prop} (h : P t ks vs) : ∃ t' ks' vs', D.dct t ks vs = .dct t' ks' vs' ∧ P t' ks' vs' := ⟨_, _, _, rfl, h⟩
/-! ### a variable's dict is changed no more -/
def dFrzV (i : Nat) (R : TDS) : TDS := fun Z δ μ => ∃ k t ks vs, δ[i]? = some (some (.cell k)) ∧ μ[k]? = some (.dct t ks vs) ∧ R Z (δ.set i (some (.dct t ks vs))) (μ.set k .dead)
theorem st_frzV {i k : Nat} {t : Bool} {ks vs : List D} {R : TDS} {Z : DEnds} {δ δ' : DS} {μ : Mu} (hi : δ[i]? = some (some (.cell k))) (hk : μ[k]? = some (.dct t ks vs)) (e : δ.set i (some (.dct t ks vs)) = δ') (h : R Z δ' (μ.set k .dead)) : dFrzV i R Z δ μ := by
  subst e
  exact ⟨k, t, ks, vs, hi, hk, h⟩
/-! ### d.get(k, x) -/
def dGet2 (A B C : TD) : TD := fun δ μ Q E => A δ μ (fun x μ1 => (∃ t ks vs, dctOf μ1 x = some (t, ks, vs)) ∧ B δ μ1 (fun y μ2 => C δ μ2 (fun z μ3 => ∃ t ks vs, dctOf μ3 x = some (t, ks, vs) ∧ isKD t y = true ∧ Q ((lookD y ks vs).getD z) μ3) E) E) E
theorem st_get2 {A B C : TD} {δ : DS} {μ : Mu} {Q : DQ} {E : DE} (h : A δ μ (fun x μ1 => (∃ t ks vs, dctOf μ1 x = some (t, ks, vs)) ∧ B δ μ1 (fun y μ2 => C δ μ2 (fun z μ3 => ∃ t ks vs, dctOf μ3 x = some (t, ks, vs) ∧ isKD t y = true ∧ Q ((lookD y ks vs).getD z) μ3) E) E) E) : dGet2 A B C δ μ Q E := h
theorem st_getD1 {x : D} {t : Bool} {ks vs : List D} {μ : Mu} {P : Prop} (h : dctOf μ x = some (t, ks, vs)) (q : P) : (∃ t ks vs, dctOf μ x = some (t, ks, vs)) ∧ P := ⟨⟨t, ks, vs, h⟩, q⟩
theorem st_getD2 {x y : D} {t : Bool} {ks vs : List D} {μ : Mu} {P : Bool → List D → List D → Prop} (h1 : dctOf μ x = some (t, ks, vs)) (h2 : isKD t y = true) (q : P t ks vs) : ∃ t ks vs, dctOf μ x = some (t, ks, vs) ∧ isKD t y = true ∧ P t ks vs := ⟨t, ks, vs, h1, h2, q⟩
/-! ### dict(pairs) -/
theorem st_frzD2 {k : Nat} {tt : Bool} {ks vs : List D} {μ : Mu} {R : Nat → Prop} {P : Nat → Bool → List D → List D → Prop} (hk : μ[k]? = some (.dct tt ks vs)) (h : P k tt ks vs) :
    ∃ k', D.cell k = .cell k' ∧ (R k' ∨ (∃ tt ks vs, μ[k']? = some (.dct tt ks vs) ∧ P k' tt ks vs)) := ⟨k, rfl, .inr ⟨tt, ks, vs, hk, h⟩⟩
theorem get_c2 {X Y Z : MO} {ν : Mu} : (X :: Z :: (ν ++ [Y]))[ν.length + 1 + 1]? = some Y := by
  rw [List.getElem?_cons_succ, List.getElem?_cons_succ, List.getElem?_append_right (Nat.le_refl _), Nat.sub_self]
  rfl
theorem dct_c {μ : Mu} {k : Nat} {t : Bool} {ks vs : List D} (h : μ[k]? = some (.dct t ks vs)) : dctOf μ (.cell k) = some (t, ks, vs) := by
  show (match μ[k]? with | some (.dct t ks vs) => some (t, ks, vs) | _ => none) = _
  rw [h]
end SW

end

section
set_option Elab.async false
set_option linter.all false
set_option maxRecDepth 100000
namespace SW
open PySem L2
/-! ### a call that tells cells, however many -/
def callA (S : DSp) (ds : List D) (μ : Mu) (Q : DQ) (E : Value → Mu → Prop) : Prop := noCs ds = true ∧ S ds [] (fun d μ2 => Q (ren (rn [] μ.length) d) (μ ++ μ2.map (renO (rn [] μ.length)))) (fun C μ2 => μ2 = [] ∧ E C μ)
theorem st_callA {F : DSp} {ds : List D} {μ : Mu} {Q : DQ} {EF : Value → Mu → Prop} (h1 : noCs ds = true) (h : F ds [] (fun d μ2 => Q (ren (rn [] μ.length) d) (μ ++ μ2.map (renO (rn [] μ.length)))) (fun C μ2 => μ2 = [] ∧ EF C μ)) : callA F ds μ Q EF := ⟨h1, h⟩
theorem rn0 (n j : Nat) : rn [] n j = n + j := by unfold rn; simp
/-! ### a piece found -/
def atP (s t : List Nat) (k : Nat) : Prop := k + t.length ≤ s.length ∧ (s.drop k).take t.length = t
instance (s t : List Nat) (k : Nat) : Decidable (atP s t k) := by unfold atP; exact inferInstance
/-! ### the end of a text -/
def dEnds : DMt := fun x ys μ Q => ∃ s t, x = .str s ∧ ys = [.str t] ∧ Q (.bl (decide (t <:+ s))) μ
theorem st_ends {s t : List Nat} {μ : Mu} {Q : DQ} (q : Q (.bl (decide (t <:+ s))) μ) : dEnds (.str s) [.str t] μ Q := ⟨s, t, rfl, rfl, q⟩
end SW

end

section
set_option Elab.async false
set_option linter.all false
set_option maxRecDepth 100000
namespace SW
open PySem L2
/-! ### a text cut at a sign -/
theorem split_mkS {c : Nat} (s : List Nat) (hc : c < 256) : Txt.split (mkS s) (mkS [c]) = (TL.spl [c] 0 [] s).map mkS := by
  have e1 : TL.tl (mkS s) = s := by simp [TL.tl, mkS]
  have e2 : TL.tl (mkS [c]) = [c] := by simp [TL.tl, mkS]
  have hk : (mkS [c]).cps.all (· < 256) = true := by simp [mkS, hc]
  have h := TL.split_spl (mkS s) (mkS [c]) (by rw [e2]; simp) (TL.kind_ok hk)
  rw [e1, e2] at h
  rw [← h, List.map_map]
  rw [List.map_congr_left (g := id) (fun x _ => ?_), List.map_id]
  show mkS (TL.tl x) = x
  simp [TL.tl, mkS]
theorem strs_repsT {K : PySem.W.Frag} {F : Hp} {θ : List Addr} : ∀ ns : List (List Nat), Reps K F θ (ns.map .str) ((ns.map mkS).map V.str)
  | [] => Reps.nil
  | n :: ns => Reps.cons rep_strI (strs_repsT ns)
def dSplit (o : List D → Mu → DQ → Prop) : DMt := fun x ys μ Q => ∃ (s : List Nat) (c : Nat), x = .str s ∧ ys = [.str [c]] ∧ c < 256 ∧ s.length + 2 ≤ sizeLine ∧ o ((TL.spl [c] 0 [] s).map .str) μ Q
theorem md_split {X : Cx} {o : List D → Mu → DQ → Prop} (ho : OutOk X.K o) : MtD X "str.split" (dSplit o) := by
  refine ⟨_, mt_split, ?_⟩
  rintro g μ H x a xs as Q' Q a0 rx rs ⟨s, c, rfl, rfl, hc, hl, q⟩ kq
  obtain rfl := rep_str rx
  obtain ⟨v, rfl, r1⟩ := reps1 rs
  obtain rfl := rep_str r1
  refine ⟨_, _, rfl, rfl, rfl, by rw [mkS_len]; exact hl, ?_⟩
  rw [split_mkS s hc]
  intro p hp
  exact ho g μ H p _ _ Q' Q a0 hp (strs_repsT _) q kq
theorem st_split {o : List D → Mu → DQ → Prop} {s : List Nat} {c : Nat} {μ : Mu} {Q : DQ} (hc : c < 256) (hl : s.length + 2 ≤ sizeLine) (q : o ((TL.spl [c] 0 [] s).map .str) μ Q) : dSplit o (.str s) [.str [c]] μ Q := ⟨s, c, rfl, rfl, hc, hl, q⟩
/-! ### x or y, of texts -/
def dOrT (A B : TD) : TD := fun δ μ Q E => A δ μ (fun x μ1 => ∃ s, x = .str s ∧ s.length ≤ sizeLine ∧ (s ≠ [] → Q x μ1) ∧ (s = [] → B δ μ1 Q E)) E
section
variable {X : Cx} {W : WX} {a b : Expr} {A B : TD} {pos : Pos}
theorem we_orT {rest : List Expr} (ha : WX0 X W a A) (hb : WX0 X W (.BoolOp .Or (b :: rest) pos) B) : WX0 X W (.BoolOp .Or (a :: b :: rest) pos) (dOrT A B) := by
  refine PE.imp (pe_orT ha hb) ?_
  rintro σ H Q ⟨g, μ, δ, Q', E', at0, sl, h, k, kx⟩
  refine ⟨g, μ, δ, _, E', at0, sl, h, fun g1 H1 μ1 x v a1 e1 r1 ⟨s, hs, hl, q1, q2⟩ => ?_, kx⟩
  subst hs
  have e := rep_str r1
  subst e
  refine ⟨_, ⟨by rw [mkS_len]; exact hl, rfl⟩, ?_⟩
  cases s with
  | nil => exact ⟨g1, μ1, δ, Q', E', a1, sl.ext e1, q2 rfl, fun g2 H2 μ2 d v a2 e2 r2 q2 => k g2 H2 μ2 d v a2 (e1.trans e2) r2 q2, fun g2 H2 μ2 C δ2 a2 e2 s2 q2 => kx g2 H2 μ2 C δ2 a2 (e1.trans e2) s2 q2⟩
  | cons c t =>
    have hne : (((mkS (c :: t)).length : Int) != 0) = true := by
      rw [mkS_len, List.length_cons]
      simp
      omega
    rw [if_pos hne]
    exact k g1 H1 μ1 _ _ a1 e1 r1 (q1 (by simp))
end
theorem st_orT {A B : TD} {δ : DS} {μ : Mu} {Q : DQ} {E : DE} (q : A δ μ (fun x μ1 => ∃ s, x = .str s ∧ s.length ≤ sizeLine ∧ (s ≠ [] → Q x μ1) ∧ (s = [] → B δ μ1 Q E)) E) : dOrT A B δ μ Q E := q
section
variable {X : Cx} {W : WX} {a b c : Expr} {A B C : TD} {pos : Pos}
end
end SW

end

section
set_option Elab.async false
set_option linter.all false
set_option maxRecDepth 100000
namespace SW
open PySem PySem.Spec L2
/-! ### == of a list of lists that change -/
def dr2 (μ : Mu) : D → D
  | .cell k => match μ[k]? with
    | some (.lst xs) => .lst (xs.map (dr μ))
    | _ => .cell k
  | x => x
/-! ### enumerate over a list of lists that change -/
def cellsD : List D → Bool
  | [] => true
  | .cell _ :: xs => cellsD xs
  | _ :: _ => false
def dEnumC (A : TDA) : TDIC := fun δ μ Q E => A δ μ (fun xs μ1 => ∃ k ds, xs = [.cell k] ∧ μ1[k]? = some (.lst ds) ∧ cellsD ds = true ∧ Q (pairI ds) (fun μ => μ[k]? = some (.lst ds)) μ1) E
theorem st_enumC {A : TDA} {δ : DS} {μ : Mu} {Q : List D → (Mu → Prop) → Mu → Prop} {E : DE} (h : A δ μ (fun xs μ1 => ∃ k ds, xs = [.cell k] ∧ μ1[k]? = some (.lst ds) ∧ cellsD ds = true ∧ Q (pairI ds) (fun μ => μ[k]? = some (.lst ds)) μ1) E) : dEnumC A δ μ Q E := h
theorem st_enumC' {k : Nat} {xs : List D} {μ : Mu} {P : Nat → List D → Prop} (hk : μ[k]? = some (.lst xs)) (hc : cellsD xs = true) (h : P k xs) : ∃ k' ds, [D.cell k] = [.cell k'] ∧ μ[k']? = some (.lst ds) ∧ cellsD ds = true ∧ P k' ds := ⟨_, _, rfl, hk, hc, h⟩
end SW

end

section
set_option Elab.async false
set_option linter.all false
set_option maxRecDepth 100000
namespace SW
open PySem L2 PyProof.Rows

theorem SmB.none {X : Cx} {pins : List (Addr × Obj)} {σ : L2.St} {H : Hp} {s : Shared} (h : SmB X.K X.mg X.base) (I : Inv X pins σ H s) : H sysModules = none := by
  obtain ⟨⟨m, o, es, ep, e, _⟩, _⟩ := h
  exact (I.bs _ _ e).2
/-! ### repr of data; of dicts from ints and texts to ints -/
def kPy : Key → PyData
  | .inl i => .int i
  | .inr x => .str x
/-- what stands at v reads as d, in every state that H tells of; no table of modules within -/
def RdH (X : Cx) (H : Hp) (v : V) (d : PyData) : Prop := ∀ (pins : List (Addr × Obj)) (σ : L2.St) (s : Shared) (u : Value), Inv X pins σ H s → RelV v u → ∃ as, Reads s.heap u d as ∧ sysModules ∉ as
def rRepr (X : Cx) : List V → Hp → VK → Prop := fun xs H Q => ∃ v d, xs = [v] ∧ RdH X H v d ∧ d.depth ≤ 60 ∧ d.showable = true ∧ d.shown.length ≤ sizeLine ∧ Q (.str d.shown) H
theorem cr_repr {X : Cx} (hu : X.A.units + 64 < cLine) (hg : X.A.guards = some []) : CallR X (.builtin "repr") (rRepr X) := by
  intro pins s σ H xs us Q I r h
  obtain ⟨v, d, rfl, hd, hdep, hs, hz, q⟩ := h
  obtain ⟨u, rfl, ru⟩ := vals1 r
  obtain ⟨as, rd, hno⟩ := hd pins σ s u I ru
  have out : ∀ {a : Addr}, u = .ref a → wpAny (model X.prog X.w) X.A (call (.builtin "repr") [u]) (EP X pins σ Q) X.xe s := by
    rintro a rfl
    exact repr_of_reads' rd hs (fun _ => hno) hg (by omega) (fun _ _ e => e) (fun h' u' tk hk => ⟨.str d.shown, H, I.kept (t' := tk) hk, ⟨_, rfl⟩, q⟩) hz
  cases rd with
  | none => exact PySem.P.repr_of_none ⟨.str _, H, I.tok _, ⟨_, rfl⟩, q⟩
  | bool b => exact PySem.P.repr_of_bool ⟨.str _, H, I.tok _, ⟨_, rfl⟩, q⟩
  | int i t =>
    have hi : i.natAbs.log2 < 1920 := by
      have : decide (i.natAbs.log2 < 1920) = true := by simpa only [PyData.showable] using hs
      exact of_decide_eq_true this
    exact PySem.P.repr_of_int hi ⟨.str _, H, I.tok _, ⟨_, rfl⟩, q⟩
  | str x t => exact PySem.P.repr_of_str ⟨.str _, H, I.tok _, ⟨_, rfl⟩, q⟩ hz
  | list _ _ _ _ => exact out rfl
  | tuple _ _ _ _ => exact out rfl
  | dict _ _ _ _ _ => exact out rfl
/-! data for repr -/
mutual
def toPyR : D → PyData
  | .non => .none
  | .bl b => .bool b
  | .int i => .int i
  | .str s => .str (mkS s)
  | .tup xs => .tuple (toPyRs xs)
  | .lst xs => .list (toPyRs xs)
  | .dct _ ks vs => .dict ((toPyRs ks).zip (toPyRs vs))
  | _ => .none
def toPyRs : List D → List PyData
  | [] => []
  | x :: xs => toPyR x :: toPyRs xs
end
mutual
/-- what repr may be asked of: at most n deep -/
def okR : Nat → D → Prop
  | _, .non => True
  | _, .bl _ => True
  | _, .int _ => True
  | _, .str s => ∀ c ∈ s, c < 0x110000
  | n, .tup xs => 1 ≤ n ∧ okRs (n - 1) xs
  | n, .lst xs => 1 ≤ n ∧ okRs (n - 1) xs
  | n, .dct _ ks vs => 1 ≤ n ∧ okRs (n - 1) ks ∧ okRs (n - 1) vs
  | _, _ => False
def okRs : Nat → List D → Prop
  | _, [] => True
  | n, x :: xs => okR n x ∧ okRs n xs
end
theorem toPyRs_kD : ∀ kk : List Key, toPyRs (kk.map kD) = kk.map kPy
  | [] => rfl
  | k :: kk => by
    rw [List.map_cons, toPyRs, toPyRs_kD kk, List.map_cons]
    cases k with
    | inl i => rfl
    | inr x => rw [show toPyR (kD (.inr x)) = .str (mkS x.cps.toList) from rfl, mkS_of]; rfl
theorem toPyRs_tD : ∀ kk : List (List Key), toPyRs (kk.map fun x => .tup (x.map kD)) = kk.map fun x => .tuple (x.map kPy)
  | [] => rfl
  | k :: kk => by
    rw [List.map_cons, toPyRs, toPyRs_tD kk, List.map_cons]
    show PyData.tuple (toPyRs (k.map kD)) :: _ = _
    rw [toPyRs_kD]
theorem zip_fst {α β : Type} : ∀ {a : List α} {b : List β}, a.length = b.length → (a.zip b).map (·.1) = a
  | [], _, _ => rfl
  | _ :: _, [], h => by cases h
  | x :: a, y :: b, h => congrArg (x :: ·) (zip_fst (by simpa using h))
theorem zip_snd {α β : Type} : ∀ {a : List α} {b : List β}, a.length = b.length → (a.zip b).map (·.2) = b
  | [], [], _ => rfl
  | [], _ :: _, h => by cases h
  | _ :: _, [], h => by cases h
  | x :: a, y :: b, h => congrArg (y :: ·) (zip_snd (by simpa using h))
theorem toPyRs_len : ∀ xs : List D, (toPyRs xs).length = xs.length
  | [] => rfl
  | x :: xs => congrArg (· + 1) (toPyRs_len xs)
theorem vals_kR {h : Heap} : ∀ {k : List Key} {its : List Value}, Vals (k.map kV) its → ReadsAll h its (k.map kPy) []
  | [], _, .nil => ReadsAll.nil
  | .inl i :: k, _ :: _, .cons r q => by
    obtain ⟨u, rfl⟩ := (show ∃ u, _ = Value.int i u from r)
    exact ReadsAll.cons (Reads.int _ _) (vals_kR q)
  | .inr x :: k, _ :: _, .cons r q => by
    obtain ⟨u, rfl⟩ := (show ∃ u, _ = Value.str x u from r)
    exact ReadsAll.cons (Reads.str _ _) (vals_kR q)
theorem kv_of : ∀ {kk : List Key} {us : List V} {ws : List (Key × Value)}, KV (kk.zip us) ws → kk.length = us.length → Vals us (ws.map (·.2)) ∧ ws.map (·.1) = kk
  | [], [], _, .nil, _ => ⟨.nil, rfl⟩
  | [], _ :: _, _, _, h => by cases h
  | _ :: _, [], _, _, h => by cases h
  | k :: kk, u :: us, _, .cons a b, h => by
    obtain ⟨q1, q2⟩ := kv_of b (by simpa using h)
    exact ⟨.cons a.2 q1, by rw [List.map_cons, q2, ← a.1]⟩
theorem pairs_of {P : Program} {w : World} {h : Heap} : ∀ {es : List DictEntry} {ws : List (Key × Value)}, Pairs (mixKind P w) es ws → ReadsAll h (es.map (·.key)) ((ws.map (·.1)).map kPy) [] ∧ es.map (·.val) = ws.map (·.2)
  | _, _, .nil => ⟨ReadsAll.nil, rfl⟩
  | e :: _, kv :: _, .cons h1 h2 hp => by
    obtain ⟨q1, q2⟩ := pairs_of (h := h) hp
    refine ⟨?_, by rw [List.map_cons, List.map_cons, h2, q2]⟩
    have e1 : Reads h e.key (kPy kv.1) [] := by
      rcases keyIs_shape h1 with ⟨i, t, q, e⟩ | ⟨x, t, q, e⟩
      · rw [e, q]; exact Reads.int _ _
      · rw [e, q]; exact Reads.str _ _
    exact ReadsAll.cons e1 q1
section
variable {X : Cx} {pins : List (Addr × Obj)} {σ : L2.St} {H : Hp} {s : Shared} {F : Hp} {θ : List Addr}
theorem pairsT_of (I : Inv X pins σ H s) : ∀ {kk : List (List Key)} {us : List V} {xs : List (List Key × Addr × Value)}, Paired (fun (p : List Key × V) (q : List Key × Addr × Value) => p.1 = q.1 ∧ H q.2.1 = some (.tup (p.1.map kV)) ∧ RelV p.2 q.2.2) (kk.zip us) xs → kk.length = us.length →
    Vals us (xs.map (·.2.2)) ∧ ReadsAll s.heap (xs.map fun x => .ref x.2.1) (kk.map fun x => .tuple (x.map kPy)) []
  | [], [], _, .nil, _ => ⟨.nil, ReadsAll.nil⟩
  | [], _ :: _, _, _, h => by cases h
  | _ :: _, [], _, _, h => by cases h
  | k :: kk, u :: us, _, .cons a b, h => by
    obtain ⟨q1, q2⟩ := pairsT_of I b (by simpa using h)
    obtain ⟨_, its, vv, o, ho, hc, m, hd⟩ := I.hok _ _ a.2.1
    exact ⟨.cons a.2.2 q1, ReadsAll.cons (as := []) (bs := []) (Reads.tuple (xs := k.map kPy) ho hc hd (by simpa using vals_kR (h := s.heap) vv)) q2⟩
mutual
theorem reads_rep (hm : SmB X.K X.mg X.base) (I : Inv X pins σ H s) (sub : Sub F H) : ∀ (n : Nat) (d : D) (v : V) (u : Value), okR n d → Rep X.K F θ d v → RelV v u → ∃ as, Reads s.heap u (toPyR d) as ∧ sysModules ∉ as
  | n, .non, v, u, _, r, ru => by unfold Rep at r; subst r; cases (show u = .none from ru); exact ⟨_, Reads.none, by simp⟩
  | n, .bl b, v, u, _, r, ru => by unfold Rep at r; subst r; cases (show u = .bool b from ru); exact ⟨_, Reads.bool b, by simp⟩
  | n, .int i, v, u, _, r, ru => by unfold Rep at r; subst r; obtain ⟨t, rfl⟩ := (show ∃ t, u = .int i t from ru); exact ⟨_, Reads.int i t, by simp⟩
  | n, .str x, v, u, _, r, ru => by unfold Rep at r; subst r; obtain ⟨t, rfl⟩ := (show ∃ t, u = .str (mkS x) t from ru); exact ⟨_, Reads.str _ t, by simp⟩
  | n, .tup xs, v, u, h, r, ru => by
    unfold okR at h
    unfold Rep at r
    obtain ⟨p, vs, rfl, q, rs⟩ := r
    cases (show u = .ref p from ru)
    obtain ⟨_, its, vv, o, ho, hc, m, hd⟩ := I.hok p _ (sub _ _ q)
    obtain ⟨as, ra, hn⟩ := readss_rep hm I sub _ xs vs its h.2 rs vv
    exact ⟨as, Reads.tuple ho hc hd (by simpa using ra), hn⟩
  | n, .lst xs, v, u, h, r, ru => by
    unfold okR at h
    unfold Rep at r
    obtain ⟨p, vs, rfl, q, rs⟩ := r
    cases (show u = .ref p from ru)
    obtain ⟨_, its, m, vv, ho⟩ := I.hok p _ (sub _ _ q)
    obtain ⟨as, ra, hn⟩ := readss_rep hm I sub _ xs vs its h.2 rs vv
    refine ⟨p :: as, Reads.list ho rfl rfl (by simpa using ra), fun z => ?_⟩
    rcases List.mem_cons.mp z with z | z
    · have := hm.none I
      rw [z, sub _ _ q] at this
      cases this
    · exact hn z
  | n, .dct tt ks vs, v, u, h, r, ru => by
    unfold okR at h
    obtain ⟨_, _, hv⟩ := h
    unfold Rep at r
    obtain ⟨p, us, rfl, r1, hl, hh⟩ := r
    cases (show u = .ref p from ru)
    have hlv : vs.length = us.length := r1.length
    rcases hh with ⟨kk, ⟨_, rfl⟩, ob, hF⟩ | ⟨kk, ⟨_, rfl⟩, ob, hF⟩
    · rw [List.length_map] at hl
      obtain ⟨_, e2⟩ := I.hok p _ (sub _ _ hF)
      obtain ⟨_, hsm, ws, kv, o, es, ep, ho, hx, hdat, _, pr, _⟩ := e2
      obtain ⟨k1, k2⟩ := kv_of kv hl
      obtain ⟨k3, k4⟩ := pairs_of (h := s.heap) pr
      obtain ⟨as, ra, hn⟩ := readss_rep hm I sub (n - 1) vs us _ hv r1 k1
      rw [k2] at k3
      have hz : (kk.map kPy).length = (toPyRs vs).length := by rw [List.length_map, toPyRs_len, hlv, hl]
      refine ⟨p :: [] ++ as, ?_, fun z => ?_⟩
      · show Reads _ _ (PyData.dict _) _
        rw [toPyRs_kD]
        exact Reads.dict ho hx.1 hdat (by rw [zip_fst hz]; exact k3) (by rw [zip_snd hz, k4]; exact ra)
      · rcases List.mem_cons.mp z with z | z
        · rw [z] at hsm; simp at hsm
        · exact hn z
    · rw [List.length_map] at hl
      obtain ⟨_, e2⟩ := I.hok p _ (sub _ _ hF)
      obtain ⟨_, hsm, xs, pr, o, es, ep, ho, hx, hdat, he, _⟩ := e2
      obtain ⟨k1, k3⟩ := pairsT_of I pr hl
      obtain ⟨as, ra, hn⟩ := readss_rep hm I sub (n - 1) vs us _ hv r1 k1
      have hz : (kk.map fun x => PyData.tuple (x.map kPy)).length = (toPyRs vs).length := by rw [List.length_map, toPyRs_len, hlv, hl]
      refine ⟨p :: [] ++ as, ?_, fun z => ?_⟩
      · show Reads _ _ (PyData.dict _) _
        rw [toPyRs_tD]
        refine Reads.dict ho hx.1 hdat (by rw [zip_fst hz, he, List.map_map]; exact k3) (by rw [zip_snd hz, he, List.map_map]; exact ra)
      · rcases List.mem_cons.mp z with z | z
        · rw [z] at hsm; simp at hsm
        · exact hn z
  | n, .scr _, v, u, h, _, _ => by unfold okR at h; exact h.elim
  | n, .cell _, v, u, h, _, _ => by unfold okR at h; exact h.elim
  | n, .val _, v, u, h, _, _ => by unfold okR at h; exact h.elim
  | n, .exc _, v, u, h, _, _ => by unfold okR at h; exact h.elim
theorem readss_rep (hm : SmB X.K X.mg X.base) (I : Inv X pins σ H s) (sub : Sub F H) : ∀ (n : Nat) (ds : List D) (vs : List V) (us : List Value), okRs n ds → Reps X.K F θ ds vs → Vals vs us → ∃ as, ReadsAll s.heap us (toPyRs ds) as ∧ sysModules ∉ as
  | n, [], vs, us, _, r, rv => by
    unfold Reps at r
    subst r
    cases rv
    exact ⟨_, ReadsAll.nil, by simp⟩
  | n, x :: xs, vs, us, h, r, rv => by
    unfold okRs at h
    unfold Reps at r
    obtain ⟨v, q, rfl, r1, r2⟩ := r
    cases rv with
    | cons a b =>
      obtain ⟨as, h1, h2⟩ := reads_rep hm I sub n x v _ h.1 r1 a
      obtain ⟨bs, h3, h4⟩ := readss_rep hm I sub n xs q _ h.2 r2 b
      exact ⟨as ++ bs, ReadsAll.cons h1 h3, fun z => (List.mem_append.mp z).elim h2 h4⟩
end
end
theorem depthKv_le : ∀ (ks vs : List PyData), PyData.depthKv (ks.zip vs) ≤ max (PyData.depthAll ks) (PyData.depthAll vs)
  | [], _ => Nat.zero_le _
  | _ :: _, [] => Nat.zero_le _
  | k :: ks, v :: vs => by
    have := depthKv_le ks vs
    show max (max k.depth v.depth) (PyData.depthKv (ks.zip vs)) ≤ max (max k.depth (PyData.depthAll ks)) (max v.depth (PyData.depthAll vs))
    omega
mutual
theorem okR_depth : ∀ (n : Nat) (d : D), okR n d → (toPyR d).depth ≤ n
  | n, .non, _ => Nat.zero_le _
  | n, .bl _, _ => Nat.zero_le _
  | n, .int _, _ => Nat.zero_le _
  | n, .str _, _ => Nat.zero_le _
  | n, .tup xs, h => by
    unfold okR at h
    have := okRs_depth _ xs h.2
    have h1 := h.1
    show PyData.depthAll _ + 1 ≤ n
    omega
  | n, .lst xs, h => by
    unfold okR at h
    have := okRs_depth _ xs h.2
    have h1 := h.1
    show PyData.depthAll _ + 1 ≤ n
    omega
  | n, .dct tt ks vs, h => by
    unfold okR at h
    obtain ⟨h1, h2, h4⟩ := h
    have := okRs_depth _ ks h2
    have := okRs_depth _ vs h4
    have h3 := depthKv_le (toPyRs ks) (toPyRs vs)
    show PyData.depthKv _ + 1 ≤ n
    omega
  | n, .scr _, h => by unfold okR at h; exact h.elim
  | n, .cell _, h => by unfold okR at h; exact h.elim
  | n, .val _, h => by unfold okR at h; exact h.elim
  | n, .exc _, h => by unfold okR at h; exact h.elim
theorem okRs_depth : ∀ (n : Nat) (ds : List D), okRs n ds → PyData.depthAll (toPyRs ds) ≤ n
  | n, [], _ => Nat.zero_le _
  | n, x :: xs, h => by
    unfold okRs at h
    have h1 := okR_depth n x h.1
    have h2 := okRs_depth n xs h.2
    show max _ _ ≤ n
    omega
end
structure RpOk (d : D) : Prop where
  ok : okR 50 d
  sh : (toPyR d).showable = true
  sz : (toPyR d).shown.length ≤ sizeLine
/-- the text that repr tells -/
def reprD (d : D) : List Nat := (toPyR d).shown.cps.toList
def dRepr : DUn := fun x μ Q => RpOk (dr μ x) ∧ Q (.str (reprD (dr μ x))) μ
theorem ld_repr {X : Cx} (hu : X.A.units + 64 < cLine) (hg : X.A.guards = some []) (hm : SmB X.K X.mg X.base) : CalD X (.builtin "repr") (ca1 dRepr) := by
  refine ⟨_, cr_repr hu hg, ?_⟩
  rintro g μ H xs as Q' Q a0 rs ⟨x, rfl, hr, q⟩ k
  obtain ⟨v, rfl, rv⟩ := reps1 rs
  refine ⟨v, toPyR (dr μ x), rfl, ?_, Nat.le_trans (okR_depth 50 _ hr.ok) (by decide), hr.sh, hr.sz, ?_⟩
  · intro pins σ s u I ru
    cases x with
    | cell j =>
      have ok := hr.ok
      have hd : dr μ (.cell j) = (match μ[j]? with | some (.lst xs) => .lst xs | _ => .cell j) := rfl
      rw [hd] at ok ⊢
      cases e : μ[j]? with
      | none => rw [e] at ok; unfold okR at ok; exact ok.elim
      | some o =>
        rw [e] at ok
        cases o with
        | lst ys =>
          obtain ⟨p, rfl, hp, hF, vs, hH, rs'⟩ := a0.cellAt e (by simp) rv
          cases (show u = .ref p from ru)
          obtain ⟨_, its, m, vv, ho⟩ := I.hok p _ hH
          have ok' : okR 50 (.lst ys) := ok
          unfold okR at ok'
          obtain ⟨bs, ra, hn⟩ := readss_rep hm I a0.sub _ ys vs its ok'.2 rs' vv
          refine ⟨p :: bs, Reads.list ho rfl rfl (by simpa using ra), fun z => ?_⟩
          rcases List.mem_cons.mp z with z | z
          · have := hm.none I
            rw [z, hH] at this
            cases this
          · exact hn z
        | _ => exact (show False from ok).elim
    | _ => exact reads_rep hm I a0.sub 50 _ v u hr.ok rv ru
  · refine k.here a0 ?_ q
    unfold Rep
    unfold reprD
    rw [mkS_of]
theorem st_repr {x : D} {μ : Mu} {Q : DQ} (h : RpOk (dr μ x)) (q : Q (.str (reprD (dr μ x))) μ) : dRepr x μ Q := ⟨h, q⟩
/-! bounds -/
mutual
def bk : D → Nat
  | .str s => s.length
  | .tup xs => bks xs
  | .lst xs => bks xs
  | .dct _ ks vs => bks ks + bks vs
  | _ => 0
def bks : List D → Nat
  | [] => 0
  | x :: xs => bk x + 1 + bks xs
end
mutual
/-- whole numbers of few figures alone -/
def fewF : D → Bool
  | .int i => decide ((PyData.shown (.int i)).length ≤ 13) && decide (i.natAbs.log2 < 1920)
  | .tup xs => fewFs xs
  | .lst xs => fewFs xs
  | .dct _ ks vs => fewFs ks && fewFs vs
  | _ => true
def fewFs : List D → Bool
  | [] => true
  | x :: xs => fewF x && fewFs xs
end
theorem kv_facts : ∀ (ks vs : List PyData), PyData.showableAll ks = true → PyData.showableAll vs = true → PyData.leavesShortAll 13 ks = true → PyData.leavesShortAll 13 vs = true →
    PyData.showableKv (ks.zip vs) = true ∧ PyData.leavesShortKv 13 (ks.zip vs) = true ∧ PyData.bulkKv (ks.zip vs) ≤ PyData.bulkAll ks + PyData.bulkAll vs
  | [], _, _, _, _, _ => ⟨rfl, rfl, Nat.zero_le _⟩
  | _ :: _, [], _, _, _, _ => ⟨rfl, rfl, Nat.zero_le _⟩
  | k :: ks, v :: vs, h1, h2, h3, h4 => by
    have a1 : (k.showable && PyData.showableAll ks) = true := h1
    have a2 : (v.showable && PyData.showableAll vs) = true := h2
    have a3 : (k.leavesShort 13 && PyData.leavesShortAll 13 ks) = true := h3
    have a4 : (v.leavesShort 13 && PyData.leavesShortAll 13 vs) = true := h4
    rw [Bool.and_eq_true] at a1 a2 a3 a4
    obtain ⟨b1, b2, b3⟩ := kv_facts ks vs a1.2 a2.2 a3.2 a4.2
    refine ⟨?_, ?_, ?_⟩
    · show (k.showable && v.showable && PyData.showableKv (ks.zip vs)) = true
      rw [a1.1, a2.1, b1]; rfl
    · show (k.leavesShort 13 && v.leavesShort 13 && PyData.leavesShortKv 13 (ks.zip vs)) = true
      rw [a3.1, a4.1, b2]; rfl
    · show k.bulk + v.bulk + 2 + PyData.bulkKv (ks.zip vs) ≤ (k.bulk + 1 + PyData.bulkAll ks) + (v.bulk + 1 + PyData.bulkAll vs)
      omega
mutual
theorem rp_facts : ∀ (n : Nat) (d : D), okR n d → fewF d = true → (toPyR d).showable = true ∧ (toPyR d).leavesShort 13 = true ∧ (toPyR d).bulk ≤ bk d
  | n, .non, _, _ => ⟨rfl, rfl, Nat.le_refl _⟩
  | n, .bl _, _, _ => ⟨rfl, rfl, Nat.le_refl _⟩
  | n, .int i, _, h => by
    unfold fewF at h
    rw [Bool.and_eq_true] at h
    exact ⟨h.2, h.1, Nat.le_refl _⟩
  | n, .str s, h, _ => by
    unfold okR at h
    refine ⟨rfl, ?_, Nat.le_refl _⟩
    show PyData.leavesShort 13 (.str (mkS s)) = true
    simp only [PyData.leavesShort, List.all_eq_true, decide_eq_true_eq]
    intro c hc
    have := h c (by simpa [mkS] using hc)
    omega
  | n, .tup xs, h, f => by
    unfold okR at h
    unfold fewF at f
    obtain ⟨a, b, c⟩ := rps_facts (n - 1) xs h.2 f
    exact ⟨a, b, c⟩
  | n, .lst xs, h, f => by
    unfold okR at h
    unfold fewF at f
    obtain ⟨a, b, c⟩ := rps_facts (n - 1) xs h.2 f
    exact ⟨a, b, c⟩
  | n, .dct _ ks vs, h, f => by
    unfold okR at h
    obtain ⟨_, h2, h4⟩ := h
    unfold fewF at f
    rw [Bool.and_eq_true] at f
    obtain ⟨a1, a2, a3⟩ := rps_facts (n - 1) ks h2 f.1
    obtain ⟨b1, b2, b3⟩ := rps_facts (n - 1) vs h4 f.2
    obtain ⟨c1, c2, c3⟩ := kv_facts _ _ a1 b1 a2 b2
    refine ⟨c1, c2, ?_⟩
    show PyData.bulkKv _ ≤ bks ks + bks _
    omega
  | n, .scr _, h, _ => by unfold okR at h; exact h.elim
  | n, .cell _, h, _ => by unfold okR at h; exact h.elim
  | n, .val _, h, _ => by unfold okR at h; exact h.elim
  | n, .exc _, h, _ => by unfold okR at h; exact h.elim
theorem rps_facts : ∀ (n : Nat) (ds : List D), okRs n ds → fewFs ds = true → PyData.showableAll (toPyRs ds) = true ∧ PyData.leavesShortAll 13 (toPyRs ds) = true ∧ PyData.bulkAll (toPyRs ds) ≤ bks ds
  | n, [], _, _ => ⟨rfl, rfl, Nat.le_refl _⟩
  | n, x :: xs, h, f => by
    unfold okRs at h
    unfold fewFs at f
    rw [Bool.and_eq_true] at f
    obtain ⟨a1, a2, a3⟩ := rp_facts n x h.1 f.1
    obtain ⟨b1, b2, b3⟩ := rps_facts n xs h.2 f.2
    refine ⟨?_, ?_, ?_⟩
    · show ((toPyR x).showable && PyData.showableAll (toPyRs xs)) = true
      rw [a1, b1]; rfl
    · show ((toPyR x).leavesShort 13 && PyData.leavesShortAll 13 (toPyRs xs)) = true
      rw [a2, b2]; rfl
    · show (toPyR x).bulk + 1 + PyData.bulkAll (toPyRs xs) ≤ bk x + 1 + bks xs
      omega
end
theorem rp_of {d : D} (h : okR 50 d) (f : fewF d = true) (b : bk d ≤ 1000000) : RpOk d := by
  obtain ⟨a1, a2, a3⟩ := rp_facts 50 d h f
  refine ⟨h, a1, ?_⟩
  have := PyData.shown_le_bulk 13 (by decide) _ a2
  show _ ≤ 2 ^ 24
  omega
theorem okRs_all {n : Nat} : ∀ {xs : List D}, (∀ d ∈ xs, okR n d) → okRs n xs
  | [], _ => by unfold okRs; trivial
  | x :: xs, h => by unfold okRs; exact ⟨h x List.mem_cons_self, okRs_all fun d hd => h d (List.mem_cons_of_mem _ hd)⟩
theorem okR_lst {n : Nat} {xs : List D} (hn : 1 ≤ n) (h : ∀ d ∈ xs, okR (n - 1) d) : okR n (.lst xs) := by unfold okR; exact ⟨hn, okRs_all h⟩
theorem okR_tup {n : Nat} {xs : List D} (hn : 1 ≤ n) (h : ∀ d ∈ xs, okR (n - 1) d) : okR n (.tup xs) := by unfold okR; exact ⟨hn, okRs_all h⟩
theorem okR_str {n : Nat} {s : List Nat} (h : ∀ c ∈ s, c < 0x110000) : okR n (.str s) := by unfold okR; exact h
/-- a dict of any such values -/
theorem okR_dctG {n : Nat} {tt : Bool} {ks vs : List D} (hn : 1 ≤ n) (h : ∀ d ∈ ks, okR (n - 1) d) (h2 : ∀ d ∈ vs, okR (n - 1) d) : okR n (.dct tt ks vs) := by unfold okR; exact ⟨hn, okRs_all h, okRs_all h2⟩
mutual
theorem okR_mono : ∀ {n m : Nat}, n ≤ m → ∀ {d : D}, okR n d → okR m d
  | n, m, hl, .non, _ => by unfold okR; trivial
  | n, m, hl, .bl _, _ => by unfold okR; trivial
  | n, m, hl, .int _, _ => by unfold okR; trivial
  | n, m, hl, .str s, h => by unfold okR at h ⊢; exact h
  | n, m, hl, .tup xs, h => by unfold okR at h ⊢; exact ⟨by omega, okRs_mono (by omega) h.2⟩
  | n, m, hl, .lst xs, h => by unfold okR at h ⊢; exact ⟨by omega, okRs_mono (by omega) h.2⟩
  | n, m, hl, .dct _ _ _, h => by unfold okR at h ⊢; exact ⟨by omega, okRs_mono (by omega) h.2.1, okRs_mono (by omega) h.2.2⟩
  | n, m, hl, .scr _, h => by unfold okR at h; exact h.elim
  | n, m, hl, .cell _, h => by unfold okR at h; exact h.elim
  | n, m, hl, .val _, h => by unfold okR at h; exact h.elim
  | n, m, hl, .exc _, h => by unfold okR at h; exact h.elim
theorem okRs_mono : ∀ {n m : Nat}, n ≤ m → ∀ {ds : List D}, okRs n ds → okRs m ds
  | n, m, hl, [], _ => by unfold okRs; trivial
  | n, m, hl, x :: xs, h => by unfold okRs at h ⊢; exact ⟨okR_mono hl h.1, okRs_mono hl h.2⟩
end
/-! ### {k: v, ..}, its keys ints or texts -/
/-! ### tuple(text) -/
def dTupA : DUn := fun x μ Q => match x with
  | .str s => s.length ≤ sizeLine ∧ Q (.tup (chars s)) μ
  | x => dTupOf x μ Q
theorem st_tupA {s : List Nat} {μ : Mu} {Q : DQ} (hl : s.length ≤ sizeLine) (q : Q (.tup (chars s)) μ) : dTupA (.str s) μ Q := ⟨hl, q⟩
theorem st_tupAL {xs : List D} {μ : Mu} {Q : DQ} (q : Q (.tup xs) μ) : dTupA (.lst xs) μ Q := ⟨xs, rfl, q⟩
/-! ### xs != []: whatever stands in xs -/
def dNeN : DOp := fun x y μ Q => ∃ xs, rdL μ x = some xs ∧ rdL μ y = some [] ∧ Q (.bl (!decide (xs = []))) μ
theorem st_neN {xs : List D} {μ : Mu} {Q : DQ} (q : Q (.bl (!decide (xs = []))) μ) : dNeN (.lst xs) (.lst []) μ Q := ⟨xs, rfl, rfl, q⟩
end SW

end

section
set_option Elab.async false
set_option linter.all false
set_option maxRecDepth 100000
namespace SW
open PySem L2
/-! ### texts of any signs; odd things -/
def Chs (s : List Nat) : Prop := ∀ c ∈ s, c < 0x110000
theorem Chs.app {a b : List Nat} (h : Chs a) (h' : Chs b) : Chs (a ++ b) := fun c hc => (List.mem_append.mp hc).elim (h c) (h' c)
theorem Chs.cut {a : List Nat} (h : Chs a) (l u : Option Int) : Chs (cutL a l u) := fun c hc => h c (cutL_sub _ _ _ c hc)
theorem Chs.one {c : Nat} (h : c < 0x110000) : Chs [c] := fun x hx => by rw [List.mem_singleton.mp hx]; exact h
theorem Chs.lit {s : List Nat} (h : s.all (fun c => decide (c < 0x110000)) = true) : Chs s := fun c hc => of_decide_eq_true (List.all_eq_true.mp h c hc)
theorem Chs.nil : Chs [] := fun _ h => nomatch h
theorem Chs.row {a : List Nat} (h : isRow a = true) : Chs a := row_ok h
/-- what the laws hand in besides rows, and what repr tells of it -/
structure OddOk (d : D) : Prop where
  kd : kindOk d
  nc : noC d = true
  rp : RpOk d
theorem kind_str {s : List Nat} (h : Chs s) (hl : s.length ≤ 100000) : kindOk (.str s) := ⟨⟨_, rfl⟩, fun t e => by cases e; exact ⟨hl, h⟩⟩
theorem kind_of {d : D} (h : ∃ t, tyN [] d = some t) (n : isStrD d = false) : kindOk d := ⟨h, fun s e => by subst e; cases n⟩
theorem rp_str {s : List Nat} (h : Chs s) (hl : s.length ≤ 100000) : RpOk (.str s) := rp_of (okR_str h) rfl (by show s.length ≤ _; omega)
theorem odd_str {s : List Nat} (h : Chs s) (hl : s.length ≤ 100000) : OddOk (.str s) := ⟨kind_str h hl, rfl, rp_str h hl⟩
theorem odd_non : OddOk .non := ⟨kind_of ⟨_, rfl⟩ rfl, rfl, rp_of (by unfold okR; trivial) rfl (Nat.zero_le _)⟩
theorem odd_bl (b : Bool) : OddOk (.bl b) := ⟨kind_of ⟨_, rfl⟩ rfl, rfl, rp_of (by unfold okR; trivial) rfl (Nat.zero_le _)⟩
theorem odd_int {i : Int} (h : fewF (.int i) = true) : OddOk (.int i) := ⟨kind_of ⟨_, rfl⟩ rfl, rfl, rp_of (by unfold okR; trivial) h (Nat.zero_le _)⟩
theorem bks_strs : ∀ l : List (List Nat), bks (l.map .str) = l.flatten.length + l.length
  | [] => rfl
  | s :: l => by rw [List.map_cons, bks, bks_strs l, List.flatten_cons, List.length_append, List.length_cons]; show s.length + 1 + _ = _; omega
theorem fewFs_strs : ∀ l : List (List Nat), fewFs (l.map .str) = true
  | [] => rfl
  | s :: l => by rw [List.map_cons, fewFs, fewFs_strs l]; rfl
theorem okR_strs {n : Nat} {l : List (List Nat)} (h : ∀ s ∈ l, Chs s) : ∀ d ∈ l.map D.str, okR n d := fun d hd => by
  obtain ⟨s, hs, rfl⟩ := List.mem_map.mp hd
  exact okR_str (h s hs)
theorem odd_lst {l : List (List Nat)} (h : ∀ s ∈ l, Chs s) (hl : l.flatten.length + l.length ≤ 100000) : OddOk (.lst (l.map .str)) :=
  ⟨kind_of ⟨_, rfl⟩ rfl, noCs_strs, rp_of (okR_lst (by decide) (okR_strs h)) (fewFs_strs l) (by show bks _ ≤ _; rw [bks_strs]; omega)⟩
theorem odd_tup {l : List (List Nat)} (h : ∀ s ∈ l, Chs s) (hl : l.flatten.length + l.length ≤ 100000) : OddOk (.tup (l.map .str)) :=
  ⟨kind_of ⟨_, rfl⟩ rfl, noCs_strs, rp_of (okR_tup (by decide) (okR_strs h)) (fewFs_strs l) (by show bks _ ≤ _; rw [bks_strs]; omega)⟩
/-- a list of odd things -/
theorem odd_list {xs : List D} (h : ∀ d ∈ xs, OddOk d) (ho : ∀ d ∈ xs, okR 49 d) (hf : fewFs xs = true) (hb : bks xs ≤ 1000000) : OddOk (.lst xs) :=
  ⟨kind_of ⟨_, rfl⟩ rfl, noCs_mem fun d hd => (h d hd).nc, rp_of (okR_lst (by decide) ho) hf hb⟩
/-! ### things that may stand in a list -/
structure Odd1 (d : D) : Prop where
  kd : kindOk d
  nc : noC d = true
  ok : okR 40 d
  fw : fewF d = true
  bb : bk d ≤ 3000
theorem Odd1.odd {d : D} (h : Odd1 d) : OddOk d := ⟨h.kd, h.nc, rp_of (okR_mono (by decide) h.ok) h.fw (by have := h.bb; omega)⟩
/-! ### a dict from texts to 1, put one behind the other -/
end SW

end

section
set_option Elab.async false
set_option linter.all false
set_option maxRecDepth 100000
namespace SW
open PySem L2
/-! ### str(n) -/
def strI (i : Int) : List Nat := (toString i : Str).cps.toList
def dStrI : DUn := fun x μ Q => ∃ i, x = .int i ∧ i.natAbs.log2 < 1920 ∧ Q (.str (strI i)) μ
theorem st_strI {i : Int} {μ : Mu} {Q : DQ} (h : i.natAbs.log2 < 1920) (q : Q (.str (strI i)) μ) : dStrI (.int i) μ Q := ⟨i, rfl, h, q⟩
theorem log2_small {i : Int} (h : -1000 ≤ i ∧ i ≤ 1000) : i.natAbs.log2 < 1920 := by
  have h1 : i.natAbs ≤ 1000 := by omega
  have h2 : i.natAbs.log2 ≤ i.natAbs := Nat.log2_le_self _
  omega
end SW

end

section
set_option Elab.async false
set_option linter.all false
set_option maxRecDepth 100000
namespace SW
open PySem PySem.Spec L2

/-! ### an exception that a name keeps behind its except clause -/
section
variable {X : Cx} {pins : List (Addr × Obj)} {σ : L2.St} {H : Hp} {s : Shared}
/-- what was not there when the def was entered, and is held still, is tracked from now on -/
theorem inv_track {a : Addr} {oe : Obj} {cls : Value} (I : Inv X ((a, oe) :: pins) σ H s) (late : X.s_0.heap.get? a = none) (apart : ∀ p ∈ X.pn ++ pins, p.1 ≠ a) (z : Zc cls none oe) (d : ∃ vs, oe.data = .fields vs) :
    Inv X pins σ (upd H a (ExB cls a)) s := by
  have here := I.pin (a, oe) (List.mem_append_right _ List.mem_cons_self)
  obtain ⟨get, un, nl, nf, nc⟩ := here
  have off : ∀ {b : Addr} {u : HO}, H b = some u → b ≠ a := fun e z => by rw [z, un] at e; cases e
  have keep : ∀ {b : Addr} {u : HO}, H b = some u → upd H a (ExB cls a) b = some u := fun e => by rw [upd_ne (off e)]; exact e
  have cells : ∀ y c, X.env.cells.lookup y = some c → c ≠ a := fun y c e q => by
    obtain ⟨v, o, e1, e2⟩ := I.cell y c e
    rw [q] at e1
    rw [get] at e1
    cases e1
    exact nc v e2
  constructor
  · exact I.ok
  · exact I.os
  · exact I.bare
  · constructor
    · exact I.base.keep
    · exact I.base.slot
    · intro b o e h0 hx
      have hb : b ≠ a := fun q => by rw [q, late] at e; cases e
      rw [upd_ne hb]
      exact I.base.free b o e h0 hx
    · exact I.base.there
    · exact fun b xs e => keep (I.base.tups b xs e)
    · exact fun b o u e => keep (I.base.frzs b o u e)
    · intro b ps e
      obtain ⟨more, q⟩ := I.base.tbls b ps e
      exact ⟨more, keep q⟩
  · exact I.loc
  · exact I.cell
  · rw [upd_ne (Ne.symm nl)]
    exact I.free
  · intro y c e
    rw [upd_ne (cells y c e)]
    exact I.freeC y c e
  · intro p hp
    have q := I.pin p (by
      rcases List.mem_append.mp hp with w | w
      · exact List.mem_append_left _ w
      · exact List.mem_append_right _ (List.mem_cons_of_mem _ w))
    refine ⟨q.1, ?_, q.2.2⟩
    rw [upd_ne (apart p hp)]
    exact q.2.1
  · intro b u e
    by_cases hb : b = a
    · subst hb
      rw [upd_same] at e
      cases e
      obtain ⟨vs, hv⟩ := d
      exact ⟨⟨oe, vs, get, z, hv⟩, ⟨oe, get⟩, fun h1 h2 ⟨o1, v1, w1, w2⟩ k => ⟨o1, v1, k o1 w1, w2⟩⟩
    · rw [upd_ne hb] at e
      exact (I.hok b u e).stay (fun _ _ _ w => w) (fun _ w => keep w) fun _ _ w => keep w
  · exact I.len
end
/-- what 'except c as e: m = e' wishes of an exception of the body: i is e's slot, j is m's -/
def wKeep (K : PySem.W.Frag) (c : Value) (i j : Nat) (Wout : WX) (D : Ends) : WX := fun cls d σ H => ∃ b, PySem.W.exmOne K cls c = some b ∧
  (b = true → d = none ∧ ∀ a, H a = none → D.nx (((σ.set i (some (.ref a))).set j (some (.ref a))).set i none) (upd H a (ExB cls a))) ∧ (b = false → Wout cls d σ H)
section
variable {X : Cx} {x n m : Str} {c : Value} {i j : Nat} {body : List Stmt} {np pos pos' p1 p2 p3 : Pos} {tb : WX → TS} {Wout : WX}
theorem ps_keep (top : X.stack = X.env :: X.outer) (fr : X.env.frame = some X.env.locals) (nd : X.N.Nodup) (at_i : X.N[i]? = some n) (loc_i : X.env.kindOf n = some .local) (at_j : X.N[j]? = some m) (loc_j : X.env.kindOf m = some .local)
    (names : Names X x c) (tk : Takes X Wout) (plain : X.ex = []) (own_n : (n == ("__debug__" : Str)) = false := by decide) (own_n2 : (n == ("__classdict__" : Str)) = false := by decide)
    (hb : ∀ (W : WX) (pn : List (Addr × Obj)) (xe : Value → Shared → Prop), Takes (X.tr pn xe) W → PassesOwn (model X.prog X.w) X.A X.env xe → PSs (X.tr pn xe) body (tb W))
    (sw1 : swapsWithSole [.Name m p1] (.Name n p2) p3.line X.env = pure false := by rfl) (sw2 : swappedStores [.Name m p1] (.Name n p2) X.env = pure none := by rfl) (sw3 : (assignEach [.Name m p1] X.env).map (·.2) = [assign (.Name m p1) X.env] := by rfl) :
    PS X (.Try body [.ExceptHandler (some (.Name x np)) (some n) [.Assign [.Name m p1] (.Name n p2) p3] pos'] [] [] pos) (fun D σ H => tb (wKeep X.K c i j Wout D) D σ H) := by
  constructor
  intro pins s σ H D I q
  have ok := I.ok
  have frames : X.A.frames = some (X.env :: X.outer) := ok.frames.trans (congrArg some top)
  have caught : Takes (X.tr (X.pn ++ pins) (fun e s₁ => wpAny (model X.prog X.w) X.A (noteFrame e X.env) (fun _ s₂ => wpAny (model X.prog X.w) X.A (setFlight e none) (fun _ s₃ =>
    wpAny (model X.prog X.w) X.A (handleBy e X.env [.ExceptHandler (some (.Name x np)) (some n) [.Assign [.Name m p1] (.Name n p2) p3] pos']) (SP X pins D) X.xe s₃) X.xe s₂) X.xe s₁)) (wKeep X.K c i j Wout D) := by
    rintro u s' ⟨a, B, sI, pins', σ', H', cls, d, rfl, J', nb, up, sky, na, os, ag, b, isOne, yes, no⟩
    have J := J'.ofTry ok
    rw [top] at sky
    refine Sky.land Zc.steady frames fr sky fun h3 fly up3 => ?_
    have J3 : Inv X pins σ' H' { s' with heap := h3 } := J.landed nb fly.1 (up.trans up3) os ag
    obtain ⟨oe3, vs3, get3, z3, d3⟩ := fly.there
    have notFrame : a ∉ frs (X.env :: X.outer) := fun w => by
      obtain ⟨_, o', e', nofields⟩ := fly.2.2.1.mem w
      rw [get3] at e'
      cases e'
      exact nofields _ d3
    have nL : a ≠ X.env.locals := fun w => notFrame (List.mem_filterMap.mpr ⟨X.env, List.mem_cons_self, by rw [fr, w]⟩)
    have nF : a ∉ X.fs := fun w => by
      obtain ⟨e, he, r⟩ := List.mem_filterMap.mp w
      exact notFrame (List.mem_filterMap.mpr ⟨e, List.mem_cons_of_mem _ he, r⟩)
    -- the object is younger than the def's entry
    have noI : ∀ o, sI.heap.get? a = some o → False := fun o e => by
      have := nb a o e (by rw [top]; exact notFrame)
      rw [fly.2.1] at this
      cases this
    have late : X.s_0.heap.get? a = none := by
      cases w : X.s_0.heap.get? a with
      | none => rfl
      | some o =>
        obtain ⟨o', e'⟩ := J.base.there a o w (by rw [plain]; exact fun z => nomatch z)
        exact (noI o' e').elim
    have apart : ∀ p ∈ X.pn ++ pins, p.1 ≠ a := fun p hp w => by
      have e := (J.pin p hp).1
      rw [w] at e
      exact noI _ e
    have S3 := J3.suite get3 d3 na nL nF
    refine wpAny_handleBy_cons (codeAny_handlers_test ?_) (fun w => nomatch w)
    have one := PySem.W.exm_one (M := model X.prog X.w) J3.kIn (fun A Q E s k r => wpAny_typeOf_ref (k _ _ get3) (by rw [z3.1]; exact r) : PySem.W.Looks (model X.prog X.w) h3 (typeOf (.ref a)) cls) isOne
    have named : ∀ {Q : Value → Shared → Prop} {E : Value → Shared → Prop}, Q c { s' with heap := h3 } → wpAny (model X.prog X.w) (X.A.mark (some (.ref a))) (eval (.Name x np) X.env) Q E { s' with heap := h3 } := fun {Q E} r => by
      obtain ⟨gl, db, e | ⟨e, bt, nm⟩⟩ := names
      · exact ld_glob (X := X.suite a ((a, oe3) :: (X.pn ++ pins))) S3 gl e r db
      · exact ld_blt (X := X.suite a ((a, oe3) :: (X.pn ++ pins))) S3 gl e bt r nm db
    apply named
    apply one.here
    cases b with
    | false =>
      show wpAny _ X.A (handleBy (.ref a) X.env []) _ _ _
      apply wpAny_handleBy_nil
      obtain ⟨_, _, _, oe, vs, T, oT, ts', he, hz, hd, h1, hr⟩ := id fly
      unfold PySem.passOn
      refine wpAny_bind (wpAny_field he hd h1 ?_)
      rw [if_neg (fun w => by simp at w)]
      have on : wpAny (model X.prog X.w) X.A (setFlight (.ref a) X.env.frame) (fun _ s4 => wpAny (model X.prog X.w) X.A (throw (.ref a) : Sem Flow) (SP X pins D) X.xe s4) X.xe { s' with heap := h3 } := by
        rw [fr]
        exact HandSPX.setFlight_upZ fly fun h4 held up4 => wpAny_throw (tk _ _ ⟨a, B, sI, pins, σ', H', cls, d, rfl, J, nb, (up.trans up3).trans up4, .inr (.inr (by rw [top]; exact held)), na, os, ag, no rfl⟩)
      first
        | exact wpAny_bind (wpAny_pure (wpAny_bind on))
        | exact wpAny_bind on
    | true =>
      obtain ⟨rfl, want⟩ := yes rfl
      apply codeAny_handlers_suite_as
      refine HandSPX.lands_againZ fly fun h4 fly4 up4 => ?_
      have J4 : Inv X pins σ' H' { s' with heap := h4 } := J.landed nb fly4.1 ((up.trans up3).trans up4) os ag
      obtain ⟨oe4, vs4, get4, z4, d4⟩ := fly4.there
      have S4 := J4.suite get4 d4 na nL nF
      refine store_ok (X := X.suite a ((a, oe4) :: (X.pn ++ pins))) (v := .ref a) S4 nd at_i (.inl loc_i) rfl (fun s5 S5 => ?_) (.inr loc_i)
      have suite : PSs (X.suite a ((a, oe4) :: (X.pn ++ pins))) [.Assign [.Name m p1] (.Name n p2) p3] (tAsg (tVar i) (gName j)) :=
        pss_one (ps_asg (pe_var at_i (.inl loc_i) own_n own_n2) (pg_name nd at_j (.inl loc_j) (.inr loc_j)) sw1 sw2 sw3)
      have len : i < σ'.length := by rw [J.len]; exact (List.getElem?_eq_some_iff.mp at_i).1
      refine wpAny_mono (suite.run [] s5 _ H' { nx := fun σ6 H6 => σ6 = (σ'.set i (some (.ref a))).set j (some (.ref a)) ∧ H6 = H', rt := fun _ _ => False, bk := fun _ _ => False, ct := fun _ _ => False } S5
        ⟨_, List.getElem?_set_self len, rfl, rfl⟩) (fun f s6 z => ?_) (fun _ _ z => z.elim)
      match f, z with
      | .next, ⟨_, _, S6, rfl, rfl⟩ =>
        have K6 : Inv X ((a, oe4) :: pins) _ H' s6 := ⟨ok, S6.os, S6.bare, S6.base, S6.loc, S6.cell, S6.free, S6.freeC, fun p hp => S6.pin p (by
          rw [List.append_nil]
          rcases List.mem_append.mp hp with w | w
          · exact List.mem_cons_of_mem _ (List.mem_append_left _ w)
          · rcases List.mem_cons.mp w with w | w
            · rw [w]; exact List.mem_cons_self
            · exact List.mem_cons_of_mem _ (List.mem_append_right _ w)), S6.hok, S6.len⟩
        exact gone_ok K6 nd at_i loc_i fun s7 J7 => ⟨_, _, inv_track J7 late apart z4 ⟨_, d4⟩, want a na⟩
      | .brk, ⟨_, _, _, z⟩ => exact z.elim
      | .cont, ⟨_, _, _, z⟩ => exact z.elim
      | .ret u, ⟨_, _, _, _, _, z⟩ => exact z.elim
  have run := (hb (wKeep X.K c i j Wout D) (X.pn ++ pins) _ caught PassesOwn.looking).run [] s σ H D (I.toTry _) q
  refine wpAny_Try_except (wpAny_mono run (fun f s1 z => ?_) fun e s1 z => z)
  match f, z with
  | .next, ⟨σ', H', J', z⟩ => exact wpAny_execs_nil ⟨σ', H', J'.ofTry ok, z⟩
  | .brk, ⟨σ', H', J', z⟩ => exact ⟨σ', H', J'.ofTry ok, z⟩
  | .cont, ⟨σ', H', J', z⟩ => exact ⟨σ', H', J'.ofTry ok, z⟩
  | .ret u, ⟨v, σ', H', J', r, z⟩ => exact ⟨v, σ', H', J'.ofTry ok, r, z⟩
end
/-! ### try over data -/
/-- the exceptions' names -/
def excs : List Str := ["WeaveError", "NoRow", "NoRows", "NoWeave", "NoNumber", "NoSign", "NoPieces", "TooMany", "NoText", "NoAsk"]
/-- is the one a kind of the other -/
def under (x y : Str) : Bool := x == y || y == "WeaveError"
theorem all_excs {p : Str → Prop} (h0 : p "WeaveError") (h1 : p "NoRow") (h2 : p "NoRows") (h3 : p "NoWeave") (h4 : p "NoNumber") (h5 : p "NoSign") (h6 : p "NoPieces") (h7 : p "TooMany") (h8 : p "NoText") (h9 : p "NoAsk") : ∀ x ∈ excs, p x := by
  intro x hx
  unfold excs at hx
  simp only [List.mem_cons, List.not_mem_nil, or_false] at hx
  rcases hx with rfl | rfl | rfl | rfl | rfl | rfl | rfl | rfl | rfl | rfl <;> assumption
structure ExTab (K : PySem.W.Frag) (C : Str → Addr) : Prop where
  k : ∀ x ∈ excs, ExcC K (C x)
  s : ∀ x ∈ excs, ∀ y ∈ excs, PySem.W.kitOne K (.ref (C x)) (.ref (C y)) = some (under x y)
  v : ∀ x ∈ excs, PySem.W.kitOne K (.ref (C x)) (.type "ValueError") = some true
  e : ∀ x ∈ excs, PySem.W.exmOne K (.ref (C x)) (.ref (C "WeaveError")) = some true
theorem kit_ref {K : PySem.W.Frag} {D C : Addr} {b : Bool} (hd : PySem.W.hasDictIn K C = true) (ht : PySem.W.typeIn K (.ref C) = some (.type "type")) (hs : PySem.W.subIn K (.ref D) (.ref D) = some true) (h : PySem.W.subIn K (.ref D) (.ref C) = some b) : PySem.W.kitOne K (.ref D) (.ref C) = some b := by
  unfold PySem.W.kitOne
  by_cases q : D = C
  · subst q
    rw [hs] at h
    cases h
    simp
  · rw [if_neg (by intro z; exact q (Value.ref.inj (beq_iff_eq.mp z)))]
    obtain ⟨cd, hc, _⟩ := PySem.W.any_some hd
    show (if ((PySem.W.clsIn K C).isSome && PySem.W.typeIn K (.ref C) == some (.type "type")) = true then PySem.W.subIn K (.ref D) (.ref C) else none) = some b
    rw [hc, ht, if_pos (by rfl)]
    exact h
theorem kit_val {K : PySem.W.Frag} {D : Addr} (h : PySem.W.subIn K (.ref D) (.type "ValueError") = some true) : PySem.W.kitOne K (.ref D) (.type "ValueError") = some true := by
  unfold PySem.W.kitOne
  rw [if_neg (by intro z; cases beq_iff_eq.mp z)]
  show (if PySem.W.kitMeta "ValueError" = true then PySem.W.subIn K (.ref D) (.type "ValueError") else none) = some true
  rw [if_pos (by decide +kernel)]
  exact h
/-- try: B except x as e: m = e -/
def dTry (C : Str → Addr) (i j : Nat) (B : TDS) : TDS := fun Z δ μ => B { nx := Z.nx, rt := Z.rt, bk := Z.bk, ct := Z.ct, ex := fun c δ' μ' => ∃ x ∈ excs, c = .ref (C x) ∧ Z.nx ((δ'.set j (some (.exc c))).set i none) μ' } δ μ
theorem At.newExc {K : PySem.W.Frag} {g : Wd} {μ : Mu} {H : Hp} (a : At K g μ H) {p : Addr} (hp : H p = none) (C : Value) :
    ∃ g', At K g' μ (upd H p (ExB C p)) ∧ Ext g H g' (upd H p (ExB C p)) ∧ Rep K g'.F g'.th (.exc C) (.ref p) := by
  obtain ⟨x, y, z⟩ := a.newF hp (ExB C p)
  exact ⟨_, x, y, by unfold Rep; exact ⟨p, rfl, z⟩⟩
theorem ws_try {X : Cx} {W : WX} {C : Str → Addr} (i j : Nat) {n m : Str} {body : List Stmt} {B : TDS} {np pos pos' p1 p2 p3 : Pos} (nd : X.N.Nodup) (T : ExTab X.K C) (hx : ExcF X.K X.mg "WeaveError" (C "WeaveError")) (tk : Takes X W)
    (hb : ∀ (W' : WX) (pn : List (Addr × Obj)) (xe : Value → Shared → Prop), Takes (X.tr pn xe) W' → PassesOwn (model X.prog X.w) X.A X.env xe → WSs (X.tr pn xe) W' body B)
    (gl : Gl X "WeaveError" := by rfl) (top : X.stack = X.env :: X.outer := by rfl) (fr : X.env.frame = some X.env.locals := by rfl) (at_i : X.N[i]? = some n := by rfl) (loc_i : X.env.kindOf n = some .local := by rfl) (at_j : X.N[j]? = some m := by rfl) (loc_j : X.env.kindOf m = some .local := by rfl) (plain : X.ex = [] := by rfl)
    (own_n : (n == ("__debug__" : Str)) = false := by decide) (own_n2 : (n == ("__classdict__" : Str)) = false := by decide)
    (sw1 : swapsWithSole [.Name m p1] (.Name n p2) p3.line X.env = pure false := by rfl) (sw2 : swappedStores [.Name m p1] (.Name n p2) X.env = pure none := by rfl) (sw3 : (assignEach [.Name m p1] X.env).map (·.2) = [assign (.Name m p1) X.env] := by rfl) :
    WS X W (.Try body [.ExceptHandler (some (.Name "WeaveError" np)) (some n) [.Assign [.Name m p1] (.Name n p2) p3] pos'] [] [] pos) (dTry C i j B) := by
  refine PS.imp (ps_keep (i := i) (j := j) (c := .ref (C "WeaveError")) (tb := fun W' => upS X.K W' B) top fr nd at_i loc_i at_j loc_j ⟨gl, by decide, .inl hx.g⟩ tk plain own_n own_n2 hb sw1 sw2 sw3) ?_
  rintro Z σ H ⟨g, μ, δ, Z', a0, sl, h, k1, k2, k3, k4, k5⟩
  refine ⟨g, μ, δ, _, a0, sl, h, k1, k2, k3, k4, fun g1 H1 μ1 c δ1 σ1 a1 e1 s1 ⟨x, hx, ec, q⟩ => ?_⟩
  subst ec
  refine ⟨true, T.e x hx, fun _ => ⟨rfl, fun a ha => ?_⟩, fun z => by cases z⟩
  obtain ⟨g2, a2, e2, r2⟩ := a1.newExc ha (.ref (C x))
  refine k1 g2 _ μ1 _ _ a2 (e1.trans e2) ⟨by simp [s1.len], fun k d hk => ?_⟩ q
  by_cases h1 : k = i
  · subst h1
    rw [List.getElem?_set] at hk
    simp at hk
  · rw [List.getElem?_set_ne (Ne.symm h1)] at hk ⊢
    by_cases h2 : k = j
    · subst h2
      have lk : k < δ1.length := by
        have := (List.getElem?_eq_some_iff.mp hk).1
        simpa using this
      rw [List.getElem?_set_self lk] at hk
      cases hk
      exact ⟨_, List.getElem?_set_self (by simp [← s1.len]; exact lk), r2⟩
    · rw [List.getElem?_set_ne (Ne.symm h2)] at hk ⊢
      rw [List.getElem?_set_ne (Ne.symm h1)]
      obtain ⟨v, hv, rv⟩ := s1.get k d hk
      exact ⟨v, hv, rv.ext e2⟩
end SW

end

section
set_option Elab.async false
set_option linter.all false
set_option maxRecDepth 100000
namespace SW
open PySem PySem.Spec L2 PyProof.Rows

/-! ### isinstance of a kept exception -/
section
variable {X : Cx} {C : Str → Addr}
theorem exb_kit {pins : List (Addr × Obj)} {σ : L2.St} {H : Hp} {s : Shared} {a D : Addr} (I : Inv X pins σ H s) (ea : H a = some (ExB (.ref D) a)) : ∃ oe, PySem.W.InstAt s.heap a oe D none := by
  have k := I.hok a _ ea
  obtain ⟨⟨oe, vs, get, z, d⟩, _⟩ := k
  obtain ⟨oc, od, oda, osl⟩ := oe
  obtain ⟨h1, h2⟩ := z
  dsimp only at h1 h2 d
  subst h1 h2 d
  exact ⟨_, get, rfl, rfl, trivial⟩
/-- isinstance(e, c) -/
def rExc (K : PySem.W.Frag) : List V → Hp → VK → Prop := fun xs H Q => ∃ (a D : Addr) (c : V) (u : Value) (b : Bool), xs = [.ref a, c] ∧ H a = some (ExB (.ref D) a) ∧ ExcC K D ∧ ClsV c u ∧ PySem.W.kitOne K (.ref D) u = some b ∧ Q (.bl b) H
theorem call_exc : CallR X (.builtin "isinstance") (rExc X.K) := by
  intro pins s σ H xs us Q I r h
  obtain ⟨a, D, c, u, b, rfl, ea, T, k, e, q⟩ := h
  obtain ⟨_, _, rfl, r1, r2⟩ := vals2 r
  obtain rfl : _ = Value.ref a := r1
  obtain rfl := k.eq r2
  obtain ⟨oe, J⟩ := exb_kit I ea
  exact PySem.W.kia_one (PySem.W.handS_kitx_exc T.hg T.hk T.hs T.hd T.ha T.hn T.ht T.hm) I.kIn J e (fun z => nomatch z) fun tk => ⟨.bl b, H, I.tok tk, rfl, q⟩
/-- isinstance(e, (c1, c2, ..)) -/
def rExcT (K : PySem.W.Frag) : List V → Hp → VK → Prop := fun xs H Q => ∃ (a D tp : Addr) (cs : List V) (ws : List Value) (b : Bool), xs = [.ref a, .ref tp] ∧ H a = some (ExB (.ref D) a) ∧ ExcC K D ∧ H tp = some (.tup cs) ∧ Paired ClsV cs ws ∧ PySem.W.kitAny K (.ref D) ws = some b ∧ Q (.bl b) H
theorem call_excT : CallR X (.builtin "isinstance") (rExcT X.K) := by
  intro pins s σ H xs us Q I r h
  obtain ⟨a, D, tp, cs, ws, b, rfl, ea, T, hT, k, e, q⟩ := h
  obtain ⟨_, _, rfl, r1, r2⟩ := vals2 r
  obtain rfl : _ = Value.ref a := r1
  obtain rfl : _ = Value.ref tp := r2
  obtain ⟨_, J⟩ := exb_kit I ea
  have at_ : ObjOk X.prog X.w H s.heap tp (.tup cs) := I.hok tp _ hT
  obtain ⟨_, _, rv, ⟨_, _, _, _⟩, h1, h2, _, h3⟩ := at_
  obtain rfl := ClsV.all k rv
  obtain rfl : _ = _ := h2
  obtain rfl : _ = _ := h3
  exact PySem.W.kia_tup (PySem.W.handS_kitx_exc T.hg T.hk T.hs T.hd T.ha T.hn T.ht T.hm) I.kIn J h1 e (fun z => nomatch z) fun tk => ⟨.bl b, H, I.tok tk, rfl, q⟩
/-- a class as data -/
abbrev clsD (C : Str → Addr) (x : Str) : D := .val (.ref (C x))
def dIsE (C : Str → Addr) : DCa := fun xs μ Q => ∃ x, x ∈ excs ∧ ((∃ y, y ∈ excs ∧ xs = [.exc (.ref (C x)), clsD C y] ∧ Q (.bl (under x y)) μ) ∨ (xs = [.exc (.ref (C x)), .val (.ty "ValueError")] ∧ Q (.bl true) μ) ∨
  (∃ ys : List Str, (∀ y ∈ ys, y ∈ excs) ∧ xs = [.exc (.ref (C x)), .tup (ys.map (clsD C))] ∧ Q (.bl (ys.any (under x))) μ))
theorem kitAny_tab {K : PySem.W.Frag} {x : Str} (T : ExTab K C) (hx : x ∈ excs) : ∀ {ys : List Str}, (∀ y ∈ ys, y ∈ excs) → PySem.W.kitAny K (.ref (C x)) (ys.map fun y => .ref (C y)) = some (ys.any (under x))
  | [], _ => rfl
  | y :: ys, h => by
    have ih := kitAny_tab T hx (ys := ys) fun z hz => h z (List.mem_cons_of_mem _ hz)
    rw [List.map_cons, List.any_cons]
    unfold PySem.W.kitAny
    rw [T.s x hx y (h y List.mem_cons_self)]
    cases under x y with
    | true => rfl
    | false => exact ih
theorem reps_cls {K : PySem.W.Frag} {F : Hp} {θ : List Addr} : ∀ {ys : List Str} {vs : List V}, Reps K F θ (ys.map (clsD C)) vs → vs = ys.map fun y => V.ref (C y)
  | [], vs, h => by unfold Reps at h; exact h
  | y :: ys, vs, h => by
    rw [List.map_cons] at h
    unfold Reps at h
    obtain ⟨v, r, rfl, h1, h2⟩ := h
    unfold Rep at h1
    rw [reps_cls h2, h1]
    rfl
theorem paired_cls : ∀ ys : List Str, Paired ClsV (ys.map fun y => V.ref (C y)) (ys.map fun y => Value.ref (C y))
  | [] => .nil
  | y :: ys => .cons (.own _) (paired_cls ys)
theorem ld_isE (T : ExTab X.K C) : CalD X (.builtin "isinstance") (dIsE C) := by
  refine ⟨_, CallR.or call_exc call_excT, ?_⟩
  rintro g μ H xs as Q' Q a0 rs ⟨x, hx, h⟩ k
  have ex : ∀ {v : V}, Rep X.K g.F g.th (.exc (.ref (C x))) v → ∃ p, v = .ref p ∧ H p = some (ExB (.ref (C x)) p) := fun r => by
    unfold Rep at r
    obtain ⟨p, e, f⟩ := r
    exact ⟨p, e, a0.sub _ _ f⟩
  rcases h with ⟨y, hy, rfl, q⟩ | ⟨rfl, q⟩ | ⟨ys, hys, rfl, q⟩
  · obtain ⟨v, w, rfl, r1, r2⟩ := reps2 rs
    obtain ⟨p, rfl, hp⟩ := ex r1
    unfold Rep at r2
    subst r2
    exact .inl ⟨p, C x, _, _, _, rfl, hp, T.k x hx, .own _, T.s x hx y hy, k.here a0 rep_bl q⟩
  · obtain ⟨v, w, rfl, r1, r2⟩ := reps2 rs
    obtain ⟨p, rfl, hp⟩ := ex r1
    unfold Rep at r2
    subst r2
    exact .inl ⟨p, C x, _, _, _, rfl, hp, T.k x hx, .ty _, T.v x hx, k.here a0 rep_bl q⟩
  · obtain ⟨v, w, rfl, r1, r2⟩ := reps2 rs
    obtain ⟨p, rfl, hp⟩ := ex r1
    unfold Rep at r2
    obtain ⟨t, vs, rfl, ht, rt⟩ := r2
    have e := reps_cls rt
    subst e
    exact .inr ⟨p, C x, t, _, _, _, rfl, hp, T.k x hx, a0.sub _ _ ht, paired_cls ys, kitAny_tab T hx hys, k.here a0 rep_bl q⟩
/-- an own class as a value -/
theorem we_cls {W : WX} {x : Str} {pos : Pos} (T : ExcF X.K X.mg x (C x)) (hg : Gl X x := by rfl) (hd : (x == ("__debug__" : Str)) = false := by decide) : WX0 X W (.Name x pos) (dC (clsD C x)) :=
  PE.imp (pe_glob (v := .ref (C x)) hg T.g rfl hd) (up_c fun _ _ => by unfold Rep; rfl)
end
theorem st_isE {C : Str → Addr} {x y : Str} {μ : Mu} {Q : DQ} (hx : x ∈ excs) (hy : y ∈ excs) (h : Q (.bl (under x y)) μ) : dIsE C [.exc (.ref (C x)), clsD C y] μ Q := ⟨x, hx, .inl ⟨y, hy, rfl, h⟩⟩
theorem st_isEv {C : Str → Addr} {x : Str} {μ : Mu} {Q : DQ} (hx : x ∈ excs) (h : Q (.bl true) μ) : dIsE C [.exc (.ref (C x)), .val (.ty "ValueError")] μ Q := ⟨x, hx, .inr (.inl ⟨rfl, h⟩)⟩
/-! ### how often, and where, a list of truths says yes -/
theorem countP_vals {y : V} : ∀ {ys : List V} {its : List Value}, Vals ys its → ys.all flatV = true → its.countP (eqU y) = ys.countP (fun z => eqV z y)
  | _, _, .nil, _ => rfl
  | z :: ys, u :: its, .cons r t, f => by
    rw [List.all_cons, Bool.and_eq_true] at f
    rw [List.countP_cons, List.countP_cons, countP_vals t f.2, eqU_of r f.1]
def rCntV (K : PySem.W.Frag) : V → List V → Hp → VK → Prop := fun x xs H Q => ∃ (a : Addr) (ys : List V) (y : V), x = .ref a ∧ xs = [y] ∧ SqL K H a ys ∧ flatV y = true ∧ ys.all flatV = true ∧ Q (.int (ys.countP (fun z => eqV z y) : Nat)) H
theorem mt_cntV {X : Cx} : MtR X "list.count" (rCntV X.K) := by
  intro pins s σ H x xs v us Q I rx rxs h
  obtain ⟨a, ys, y, rfl, rfl, hs, fy, fys, q⟩ := h
  cases rx
  obtain ⟨u, rfl, ru⟩ := rxs.one
  obtain ⟨its, rv, ⟨⟨cls, dd, data, sl⟩, n, ho, hc, hdn, hd⟩, hlen⟩ := I.list hs
  simp only at hc hd
  subst hc hd
  refine call_meets PySem.F.slot_list_count ⟨_, ho, rfl⟩ PySem.F.entry_list_count (PySem.F.args_list_count_2 _ _)
    (SeqAt.list_countAt a its.toArray n dd sl u (eqU y)) ⟨ho, fun z hz => mem_eqAt ru fy rv fys z (by simpa using hz), ?_⟩
  have ec : its.toArray.toList.countP (eqU y) = ys.countP fun z => eqV z y := countP_vals rv fys
  exact ⟨.int (ys.countP fun z => eqV z y : Nat), H, I.tok _, ⟨s.toks, by rw [ec]⟩, q⟩
theorem reps_bls {K : PySem.W.Frag} {F : Hp} {θ : List Addr} : ∀ {bs : List Bool} {vs : List V}, Reps K F θ (bs.map .bl) vs → vs = bs.map .bl
  | [], vs, h => by unfold Reps at h; exact h
  | b :: bs, vs, h => by
    rw [List.map_cons] at h
    unfold Reps at h
    obtain ⟨v, r, rfl, h1, h2⟩ := h
    unfold Rep at h1
    rw [reps_bls h2, h1]
    rfl
theorem flat_bls (bs : List Bool) : (bs.map V.bl).all flatV = true := by
  rw [List.all_map]
  exact List.all_eq_true.mpr fun _ _ => rfl
theorem cnt_bls : ∀ bs : List Bool, (bs.map V.bl).countP (fun z => eqV z (.bl true)) = bs.count true
  | [] => rfl
  | b :: bs => by
    rw [List.map_cons, List.countP_cons, List.count_cons, cnt_bls bs]
    rfl
def dCountB : DMt := fun x ys μ Q => ∃ bs : List Bool, x = .lst (bs.map .bl) ∧ ys = [.bl true] ∧ Q (.int (bs.count true : Nat)) μ
theorem md_countB {X : Cx} : MtD X "list.count" dCountB := by
  refine ⟨_, mt_cntV, ?_⟩
  rintro g μ H x a xs as Q' Q a0 rx rs ⟨bs, rfl, rfl, q⟩ kq
  unfold Rep at rx
  obtain ⟨p, vs, rfl, hp, rv⟩ := rx
  have e := reps_bls rv
  subst e
  obtain ⟨v, rfl, r1⟩ := reps1 rs
  unfold Rep at r1
  subst r1
  refine ⟨p, _, .bl true, rfl, rfl, SqL.of (a0.sub _ _ hp), rfl, flat_bls bs, ?_⟩
  rw [cnt_bls]
  exact kq.here a0 rep_intI q
def dIndexB : DMt := fun x ys μ Q => ∃ (bs : List Bool) (j : Nat), x = .lst (bs.map .bl) ∧ ys = [.bl true] ∧ bs[j]? = some true ∧ (∀ m < j, bs[m]? = some false) ∧ Q (.int (j : Nat)) μ
theorem md_indexB {X : Cx} : MtD X "list.index" dIndexB := by
  refine ⟨_, mt_index, ?_⟩
  rintro g μ H x a xs as Q' Q a0 rx rs ⟨bs, j, rfl, rfl, hj, hm, q⟩ kq
  unfold Rep at rx
  obtain ⟨p, vs, rfl, hp, rv⟩ := rx
  have e := reps_bls rv
  subst e
  obtain ⟨v, rfl, r1⟩ := reps1 rs
  unfold Rep at r1
  subst r1
  refine ⟨p, _, .bl true, j, .bl true, rfl, rfl, SqL.of (a0.sub _ _ hp), rfl, flat_bls bs, by rw [List.getElem?_map, hj]; rfl, rfl, fun m z' h1 h2 => ?_, kq.here a0 rep_intI q⟩
  rw [List.getElem?_map, hm m h1] at h2
  cases h2
  rfl
theorem st_countB {bs : List Bool} {ds : List D} {μ : Mu} {Q : DQ} (e : ds = bs.map .bl) (q : Q (.int (bs.count true : Nat)) μ) : dCountB (.lst ds) [.bl true] μ Q := ⟨bs, by rw [e], rfl, q⟩
theorem st_indexB {bs : List Bool} (j : Nat) {ds : List D} {μ : Mu} {Q : DQ} (e : ds = bs.map .bl) (h1 : bs[j]? = some true) (h2 : ∀ m < j, bs[m]? = some false) (q : Q (.int (j : Nat)) μ) : dIndexB (.lst ds) [.bl true] μ Q := ⟨bs, j, by rw [e], rfl, h1, h2, q⟩
end SW

end

section
set_option Elab.async false
set_option linter.all false
set_option maxRecDepth 100000
namespace SW
open PySem PySem.Spec L2 PyProof.Rows

/-! ### a call of what an expression tells: one of two defs of the text, picked by number -/
section
variable {X : Cx} {CX : CXT} {E : L2.St → XK} {pos : Pos} {fe e : Expr} {es : List Expr} {tf : TE} {t : TA}
end
section
variable {X : Cx} {W : WX} {e idx : Expr} {es : List Expr} {A : TDA} {B : TD} {S0 S1 : DSp} {x0 x1 : Str} {p0 p1 p2 p3 pos : Pos} {k0 k1 : Nat}
/-- [x0, x1][i](..) -/
def dPick (c0 c1 : CForm) (S0 S1 : DSp) (B : TD) (A : TDA) : TD := fun δ μ Q E => B δ μ (fun v μ1 => (v = .int 0 ∧ A δ μ1 (fun ds μ2 => c0 S0 ds μ2 Q (fun C μ3 => E C δ μ3)) E) ∨ (v = .int 1 ∧ A δ μ1 (fun ds μ2 => c1 S1 ds μ2 Q (fun C μ3 => E C δ μ3)) E)) E
theorem WX0.weak {e : Expr} {B : TD} (h : WX0 X W e B) : WX0 X W e (fun δ μ Q E => ∃ Q0 : DQ, B δ μ Q0 E ∧ ∀ v μ, Q0 v μ → Q v μ) :=
  PE.imp h fun σ H Q ⟨g, μ, δ, Q', E', a0, sl, ⟨Q0, h, i⟩, k, kx⟩ => ⟨g, μ, δ, Q0, E', a0, sl, h, fun g' H' μ' d v a e r q => k g' H' μ' d v a e r (i _ _ q), kx⟩
theorem st_pick0 {c0 c1 : CForm} {δ : DS} {μ : Mu} {Q : DQ} {E : DE} (h : B δ μ (fun v μ1 => (v = .int 0 ∧ A δ μ1 (fun ds μ2 => c0 S0 ds μ2 Q (fun C μ3 => E C δ μ3)) E) ∨ (v = .int 1 ∧ A δ μ1 (fun ds μ2 => c1 S1 ds μ2 Q (fun C μ3 => E C δ μ3)) E)) E) : dPick c0 c1 S0 S1 B A δ μ Q E := h
end
theorem st_try {C : Str → Addr} {i j : Nat} {B : TDS} {Z : DEnds} {δ : DS} {μ : Mu} (h : B { nx := Z.nx, rt := Z.rt, bk := Z.bk, ct := Z.ct, ex := fun c δ' μ' => ∃ x ∈ excs, c = .ref (C x) ∧ Z.nx ((δ'.set j (some (.exc c))).set i none) μ' } δ μ) : dTry C i j B Z δ μ := h
end SW

end

section
set_option Elab.async false
set_option linter.all false
set_option maxRecDepth 100000
namespace SW
open PySem L2
/-! ### odd things of a known size -/
structure OddS (m : Nat) (d : D) : Prop where
  kd : kindOk d
  nc : noC d = true
  ok : okR 40 d
  fw : fewF d = true
  bb : bk d ≤ m
section
variable {m : Nat} {d x y : D}
theorem OddS.odd (h : OddS m d) (hm : m ≤ 1000000 := by omega) : OddOk d := ⟨h.kd, h.nc, rp_of (okR_mono (by decide) h.ok) h.fw (by have := h.bb; omega)⟩
theorem OddS.mono {n : Nat} (h : OddS m d) (hm : m ≤ n) : OddS n d := ⟨h.kd, h.nc, h.ok, h.fw, Nat.le_trans h.bb hm⟩
/-- what repr is handed in, where nothing changes -/
theorem dr_noC {μ : Mu} : ∀ {d : D}, noC d = true → dr μ d = d
  | .cell _, h => by cases h
  | .non, _ => rfl
  | .bl _, _ => rfl
  | .int _, _ => rfl
  | .str _, _ => rfl
  | .tup _, _ => rfl
  | .lst _, _ => rfl
  | .dct _ _ _, _ => rfl
  | .dcn _ _ _, _ => rfl
  | .scr _, _ => rfl
  | .val _, _ => rfl
  | .exc _, _ => rfl
end
/-! ### xs == []: whatever stands in xs -/
def dEqN : DOp := fun x y μ Q => ∃ xs, rdL μ x = some xs ∧ rdL μ y = some [] ∧ Q (.bl (decide (xs = []))) μ
theorem st_eqN {xs : List D} {μ : Mu} {Q : DQ} (q : Q (.bl (decide (xs = []))) μ) : dEqN (.lst xs) (.lst []) μ Q := ⟨xs, rfl, rfl, q⟩
end SW

end

section
set_option Elab.async false
set_option linter.all false
set_option maxRecDepth 100000
namespace SW
open PySem PySem.Spec L2 PyProof.Rows

/-! ### dict(enumerate(xs)) -/
def enumK (n : Nat) : List Key := (List.range n).map fun (i : Nat) => .inl (i : Int)
section
variable {X : Cx} {p1 p2 pos2 pos : Pos} {e : Expr} {t : TA}
end
def dDictEnum (A : TDA) : TD := fun δ μ Q E => A δ μ (fun ds μ1 => ∃ x xs, ds = [x] ∧ rdL μ1 x = some xs ∧ Q (.cell μ1.length) (μ1 ++ [.dct false ((enumK xs.length).map kD) xs])) E
theorem st_dictEnum {A : TDA} {δ : DS} {μ : Mu} {Q : DQ} {E : DE} (h : A δ μ (fun ds μ1 => ∃ x xs, ds = [x] ∧ rdL μ1 x = some xs ∧ Q (.cell μ1.length) (μ1 ++ [.dct false ((enumK xs.length).map kD) xs])) E) : dDictEnum A δ μ Q E := h
end SW

end

section
set_option Elab.async false
set_option linter.all false
set_option maxRecDepth 100000
namespace SW
open PySem L2
/-! ### a well of the whole laws -/
def WellE (o : MO) : Prop := ∃ a b : Int, o = .lst [.int a, .int b] ∧ 0 ≤ b ∧ b < 2147483587
theorem WellE.noC {o : MO} (h : WellE o) : noCO o = true := by obtain ⟨a, b, rfl, _⟩ := h; rfl
theorem WellE.live {o : MO} (h : WellE o) : o ≠ .dead := by obtain ⟨a, b, rfl, _⟩ := h; exact fun z => nomatch z
/-! ### a call whose third argument is a list or dict that changes -/
end SW

end

section
set_option Elab.async false
set_option linter.all false
set_option maxRecDepth 100000
namespace SW
open PySem L2
/-! ### is not, of truths; a range that steps up -/
end SW

end

section
set_option Elab.async false
set_option linter.all false
set_option maxRecDepth 100000
set_option maxHeartbeats 1000000
/-! ### a list comprehension whose items may raise -/
namespace L2
open PySem PySem.Spec PyProof.Rows
/-! what a frame's note and a passing on look at of an environment: its frame -/
theorem noteFrame_at {e : Value} {c d : Env} (h : c.frame = d.frame) : noteFrame e c = noteFrame e d := by
  unfold noteFrame PySem.frameOf
  rw [h]
theorem passOn_at {α : Type} {what : String} {e : Value} {c d : Env} (h : c.frame = d.frame) : (PySem.passOn what e c : Sem α) = PySem.passOn what e d := by
  unfold PySem.passOn
  rw [h]
section
variable {M : Model} {A : Around} {F : Value → Shared → Prop} {t : Shared} {env : Env}
/-- the block's environment in the words of the scope that runs -/
abbrev blockEnv (sc : Scope) (env c : Env) : Env := { c with scope := relabel sc env }
/-- behind the block: R tells what is wished where it ran through, else its exception is passed on -/
def BlockDone (M : Model) (A : Around) (F : Value → Shared → Prop) (R : Shared → Prop) (b : Env) : Result → Shared → Prop
  | .ok _, u => ∃ names, u.heap.Ns b.locals names ∧ ∀ g, Heap.SameBut b.locals u.heap g → R { u with heap := g }
  | .error e, u => ∃ names, u.heap.Ns b.locals names ∧ ∀ g, Heap.SameBut b.locals u.heap g → wpAny M A (PySem.passOn "comprehension.variables-let-go" e b : Sem Value) (fun _ _ => False) F { u with heap := g }
theorem list_block {e : Expr} {sc : Scope} {pos : Pos} {mk start : Sem Value} {cl1 : Comprehension} {cls : List Comprehension} {cells : List (Str × Addr)} {R : Value → Shared → Prop}
    (one : clausesOf e = cl1 :: cls) (plain : ∀ x, foldedSetIterable cl1.iter env x = pure x) (clo : closureFor sc env = pure cells) (fn : sc.kind = .function)
    (loc : ∀ y ∈ sc.names, y.2 = .local → sc.names.lookup y.1 = some .local)
    (go : wpAny M A start (fun x t1 => wpAny M A (pyIter x) (fun it t2 => wpAny M A mk (fun new t3 => wpAny M A (newFunctionEnv sc env.globals cells [] env.qual none .none (some env))
      (fun c t4 => codeAny M A (.compStart e 0 it new (blockEnv sc env c)) (BlockDone M A F (R new) (blockEnv sc env c)) t4) F t3) F t2) F t1) F t) :
    wpAny M A (comprehension e sc env pos mk false start none) R F t := by
  have keepF : ∀ (a : Value) (u : Shared), F a u → F a u := fun _ _ z => z
  unfold comprehension
  rw [clo, one]
  apply wpAny_bind
  refine wpAny_mono go (fun x t1 g1 => ?_) keepF
  apply wpAny_bind
  apply wpAny_standAt
  apply wpAny_bind
  apply wpAny_of_eq (plain x)
  apply wpAny_bind
  apply wpAny_holding
  refine wpAny_mono g1 (fun it t2 g2 => ?_) keepF
  apply wpAny_standIf
  apply wpAny_bind
  refine wpAny_mono g2 (fun new t3 g3 => ?_) keepF
  apply wpAny_bind
  apply wpAny_pure
  apply wpAny_bind
  refine wpAny_mono g3 (fun c t4 g4 => ?_) keepF
  have local_now : ∀ y ∈ (sc.names.filter fun x => (x.2 == .local || x.2 == .cell) && x.1 != (".0" : Str)).reverse, y.2 = .local → (blockEnv sc env c).kindOf y.1 = some .local :=
    fun y hy k => lookup_relabel_local (loc y (List.mem_filter.mp (List.mem_reverse.mp hy)).1 k)
  dsimp only
  apply wpAny_holding
  apply wpAny_bind
  apply wpAny_attempt
  apply wpAny_holding
  refine wpAny_run (?_)
  refine codeAny_mono g4 fun r u done => ?_
  cases r with
  | ok _ =>
    obtain ⟨names, ns, fin⟩ := done
    apply wpAny_bind
    apply wpAny_holding
    exact wpAny_comp_letGo (cenv := blockEnv sc env c) fn _ u names local_now ns fun g _ _ same => wpAny_pure (fin g same)
  | error x =>
    obtain ⟨names, ns, fin⟩ := done
    apply wpAny_bind
    apply wpAny_holding
    exact wpAny_comp_letGo (cenv := blockEnv sc env c) fn _ u names local_now ns fun g _ _ same => wpAny_mono (fin g same) (fun _ _ z => z.elim) keepF
end
section
variable {M : Model} {A : Around} {F : Value → Shared → Prop} {t : Shared} {P : Obj → Prop} {gr : Heap} {env : Env} {out fr : List Env} {L x : Addr}
/-- a frame notes an exception that flies, or that another place has noted -/
theorem noted_from {fl : Value} {R : Unit → Shared → Prop} (st : HandSPX.Steady P) (top : A.frames = some (env :: out)) (at' : env.frame = some L)
    (k1 : gr.StaysIn t.heap) (k2 : gr.get? x = none) (k3 : t.heap.FunFrames gr (env :: out)) (k4 : HandSPX.TracedZ t.heap gr x P fl)
    (fin : ∀ g, HandSPX.HeldZ gr (env :: out) x P L g → t.heap.UpToSlots g → R () { t with heap := g }) : wpAny M A (noteFrame (.ref x) env) R F t := by
  cases same : fl == rawInt L with
  | true =>
    rw [beq_iff_eq.mp same] at k4
    exact HandSPX.againZ at' k4 (fin t.heap ⟨k1, k2, k3, k4⟩ (Heap.UpToSlots.refl _))
  | false =>
    rcases k4 with ⟨ox, xs, tb, ot, ys, gx, px, dx, x1, tbNew, tbx, gt, dt, y3⟩
    have room : 3 < ys.size := (Array.getElem?_eq_some_iff.mp y3).1
    have rest : ∀ c, c ≠ tb → (t.heap.update tb (Obj.mapFields (·.setIfInBounds 3 Value.none))).get? c = t.heap.get? c := fun c nc => Heap.get?_update_other _ _ nc.symm
    have notTb : ∀ c o, t.heap.get? c = some o → (∀ vs, o.data ≠ .fields vs) → c ≠ tb := by
      intro c o gc nf e
      subst e
      rw [gt] at gc
      cases gc
      exact nf ys dt
    unfold noteFrame
    simp only [at']
    apply wpAny_bind
    apply wpAny_field gx dx x1
    have isTb : (Value.ref tb != Value.none) = true := by simp
    rw [if_pos isTb]
    apply wpAny_bind
    apply wpAny_field gt dt y3
    rw [same, if_neg Bool.false_ne_true]
    apply wpAny_bind
    apply wpAny_setField gt dt room
    have frames' := k3.of_keeps fun c o gc nf => ⟨o, (rest c (notTb c o gc nf)).trans gc, rfl⟩
    have stays' : gr.StaysIn (t.heap.update tb (Obj.mapFields (·.setIfInBounds 3 Value.none))) := by
      intro c o gc
      refine (rest c ?_).trans (k1 c o gc)
      rintro rfl
      rw [tbNew] at gc
      cases gc
    refine HandSPX.wpAny_entryZ st top frames' at' ((rest x tbx.symm).trans gx) stays' k2 dx (Array.getElem?_eq_some_iff.mp x1).1 px fun g n => ?_
    exact fin g ⟨n.1, k2, n.2.1, n.2.2.1⟩ fun c o gc nf => n.2.2.2 c o ((rest c (notTb c o gc nf)).trans gc) nf
theorem Sky.held {C : Addr} {R : Unit → Shared → Prop} (st : HandSPX.Steady P) (top : A.frames = some (env :: out)) (at' : env.frame = some L) (sky : Sky gr (env :: out) x P C t.heap)
    (fin : ∀ g, HandSPX.HeldZ gr (env :: out) x P L g → t.heap.UpToSlots g → R () { t with heap := g }) : wpAny M A (noteFrame (.ref x) env) R F t := by
  rcases sky with ⟨k1, k2, k3, o, vs, go, po, dof, none1⟩ | z | z
  · exact HandSPX.look_newZ st top k3 at' go k1 k2 dof none1 po fin
  all_goals exact noted_from st top at' z.1 z.2.1 z.2.2.1 z.2.2.2 fin
theorem hid_one {h : Heap} {C b : Addr} {o : Obj} (e : (PySem.W.hideAll h [C]).get? b = some o) : b ≠ C ∧ h.get? b = some o := by
  refine ⟨?_, PySem.W.of_hideAll _ e⟩
  rintro rfl
  rw [PySem.W.hideAll_none [b] List.mem_cons_self] at e
  cases e
theorem hid_none {h : Heap} {C b : Addr} (e : h.get? b = none) : (PySem.W.hideAll h [C]).get? b = none := by
  cases q : (PySem.W.hideAll h [C]).get? b with
  | none => rfl
  | some o =>
    have z := (hid_one q).2
    rw [e] at z
    cases z
theorem frames_other {h g : Heap} {C : Addr} (same : Heap.SameBut C h g) : ∀ {fr : List Env}, C ∉ frs fr → h.FunFrames gr fr → g.FunFrames (PySem.W.hideAll gr [C]) fr
  | [], _, _ => trivial
  | a :: r, nC, ⟨kind, ⟨f, o, fa, fg, fo, nf⟩, more⟩ => by
    have ne : f ≠ C := by
      rintro rfl
      exact nC (List.mem_filterMap.mpr ⟨a, List.mem_cons_self, fa⟩)
    have nr : C ∉ frs r := fun m => by
      rcases List.mem_filterMap.mp m with ⟨q, hq, e⟩
      exact nC (List.mem_filterMap.mpr ⟨q, List.mem_cons_of_mem _ hq, e⟩)
    exact ⟨kind, ⟨f, o, fa, hid_none fg, (same.2 f ne).trans fo, nf⟩, frames_other same nr more⟩
/-- a namespace hidden from the ground and changed -/
theorem held_other {C : Addr} {h g : Heap} {names : Str → Option Value} (ns : h.Ns C names) (same : Heap.SameBut C h g) (nC : C ∉ frs fr) (z : HandSPX.HeldZ gr fr x P L h) : HandSPX.HeldZ (PySem.W.hideAll gr [C]) fr x P L g := by
  rcases z with ⟨k1, k2, k3, ox, xs, tb, ot, ys, gx, px, dx, x1, tbNew, tbx, gt, dt, y3⟩
  rcases ns with ⟨oC, es, ep, gC, dC, _⟩
  have record : ∀ {c o vs}, h.get? c = some o → o.data = .fields vs → c ≠ C := by
    rintro c o vs gc dc rfl
    rw [gC] at gc
    cases gc
    rw [dC] at dc
    cases dc
  exact ⟨fun b o e => (same.2 b (hid_one e).1).trans (k1 b o (hid_one e).2), hid_none k2, frames_other same nC k3,
    ox, xs, tb, ot, ys, (same.2 x (record gx dx)).trans gx, px, dx, x1, hid_none tbNew, tbx, (same.2 tb (record gt dt)).trans gt, dt, y3⟩
end
section
variable {X : Cx}
/-- the context of a block whose exceptions go on -/
abbrev Cx.blkE (X : Cx) (s : Shared) (H : Hp) (scope : Scope) (cenv : Env) (fp : List Addr) (xe : Value → Shared → Prop) : Cx := (X.blk s H scope cenv fp).tr [] xe
/-- rules for a part of the block, whatever the state at its beginning -/
abbrev InBlock (X : Cx) (scope : Scope) (rule : Cx → Prop) : Prop := ∀ (s : Shared) (H : Hp) (C : Addr) (cl : List (Str × Addr)) (fp : List Addr) (xe : Value → Shared → Prop), rule (X.blkE s H scope (compEnvC scope cl C X.env) fp xe)
/-- one turn: the item x, then the tests, then the item's value behind the list's others -/
abbrev turnE (g : TG) (tt : TT) (te : TE) (vs : List Nat) (σ : St) (Dn : Addr) (Nx : Hp → Prop) (x : V) (H : Hp) : Prop :=
  g x (wipe σ vs) H fun σ2 H2 => wipe σ2 vs = wipe σ vs ∧ tt σ2 H2 fun b H3 => if b = true then te σ2 H3 fun y H4 => ∃ acc, H4 Dn = some (.lst acc) ∧ acc.length < sizeLine ∧ Nx (upd H4 Dn (.lst (acc ++ [y]))) else Nx H3
def tLcE (wi : TI) (g : TG) (tt : TT) (te : WX → TE) (vs : List Nat) (W : WX) : TE := fun σ H Q => wi σ H fun J H1 => ∀ Dn, H1 Dn = none → ∃ Wm : Nat → Nat → Hp → Prop, (∃ m, Wm 0 m (upd H1 Dn (.lst []))) ∧ ∀ i m H, Wm i m H →
  (J.stop i H ∧ Q (.ref Dn) H) ∨ (J.go i H ∧ ∃ Nx : Hp → Prop, (∀ H', Nx H' → ∃ m', m' < m ∧ Wm (i + 1) m' H') ∧ ∀ x H', J.yld i H x H' → turnE g tt (te (fun c d _ H' => W c d σ H')) vs σ Dn Nx x H')

/-- an exception out of the block, noted and passed on, is one of the def's -/
theorem block_raises {pins : List (Addr × Obj)} {σ : St} {H0 : Hp} {s0 : Shared} {W : WX} {scope : Scope} {ce : Env} {fp : List Addr} {xe : Value → Shared → Prop}
    (hst : X.stack = X.env :: X.outer) (hfr : X.env.frame = some X.env.locals) (tk : Takes X W) (I0 : Inv X pins σ H0 s0) (cF : ce.frame = X.env.frame) (cL : ce.locals = s0.heap.objs.size)
    (fpOk : ∀ b ∈ fp, FpOk X pins H0 b) {R : Shared → Prop} (hxe : xe = notedBy (model X.prog X.w) X.A ce fun e u => BlockDone (model X.prog X.w) X.A X.xe R ce (.error e) u) :
    Takes (X.blkE s0 H0 scope ce fp xe) (fun c d _ H' => W c d σ H') := by
  rintro v u ⟨a, G, v0, pins', σ', H', cls, d, rfl, J, ground, up, sky, free, os, ag, w⟩
  show xe (.ref a) u
  rw [hxe]
  show wpAny _ _ (noteFrame (.ref a) ce) _ _ u
  rw [noteFrame_at cF]
  replace sky : Sky G (X.env :: X.outer) a (Zc cls d) ce.locals u.heap := hst ▸ sky
  apply Sky.held Zc.steady (I0.ok.frames.trans (congrArg some hst)) hfr sky
  intro g held up1
  have landed := J.landed (s' := { u with heap := g }) ground held.1 (up.trans up1) os ag
  obtain ⟨names, ns, _⟩ := landed.loc
  refine ⟨names, ns, fun k same => ?_⟩
  rw [passOn_at cF]
  -- the def's own state, without the block's namespace
  have mine : Inv X pins σ H' v0 := I0.call' (ch := fp) J.os J.base J.hok J.bare fun b hb => ⟨(fpOk b hb).2.2.2.1, (fpOk b hb).2.1, (fpOk b hb).2.2.2.2.1, (fpOk b hb).2.2.2.2.2⟩
  have freeC : H' ce.locals = none := J.free
  have okC : FpOk X pins H' ce.locals := I0.fpOk (Nat.le_of_eq cL.symm) freeC
  have notFrame : ce.locals ∉ frs X.stack := fun m => by
    obtain ⟨_, o, e, _⟩ := I0.stack.mem m
    rw [cL] at e
    exact absurd (Heap.lt_size e) (Nat.lt_irrefl _)
  have mine' := mine.turned (t' := v0.toks) (h' := PySem.W.hideAll v0.heap [ce.locals]) (it := ce.locals) (fun b o nb e => PySem.W.hideAll_get _ e (List.not_mem_cons_of_ne_of_not_mem nb List.not_mem_nil)) okC.1 okC.2.1 okC.2.2.2.1 okC.2.2.2.2.1 okC.2.2.2.2.2
  have held' := held_other ns same (hst ▸ notFrame) held
  obtain ⟨_, _, _, ox, xs, tb, _, _, gx, _, dx, x1, _⟩ := id held'
  have fly : wpAny (model X.prog X.w) X.A (setFlight (.ref a) X.env.frame) (fun _ k1 => wpAny (model X.prog X.w) X.A (throw (.ref a) : Sem Value) (fun _ _ => False) X.xe k1) X.xe { u with heap := k } := by
    rw [hfr]
    apply HandSPX.setFlight_onZ held'
    intro g2 held2 up2
    apply wpAny_throw
    refine tk _ _ ⟨a, PySem.W.hideAll G [ce.locals], _, pins, σ, H', cls, d, rfl, mine', fun b o e nb => ?_, fun b o e nf => ?_, .inr (.inr (hst ▸ held2)), free, os, ag, w⟩
    · exact PySem.W.hideAll_get _ (ground b o (hid_one e).2 nb) (List.not_mem_cons_of_ne_of_not_mem (hid_one e).1 List.not_mem_nil)
    · obtain ⟨sl, e1⟩ := (up.trans up1) b o (hid_one e).2 nf
      obtain ⟨sl2, e2⟩ := up2 b { o with slots := sl } ((same.2 b (hid_one e).1).trans e1) nf
      exact ⟨sl2, e2⟩
  unfold PySem.passOn
  apply wpAny_bind
  apply wpAny_field gx dx x1
  have some1 : ¬ (Value.ref tb == Value.none) = true := by simp
  rw [if_neg some1]
  first
    | exact wpAny_bind (wpAny_pure (wpAny_bind fly))
    | exact wpAny_bind fly
/-- the new list, tracked -/
theorem new_list {pins : List (Addr × Obj)} {σ : St} {H : Hp} {s : Shared} (I : Inv X pins σ H s) :
    Inv X pins σ (upd H s.heap.objs.size (.lst [])) { s with heap := s.heap.push { cls := .type "list", data := .seq ([] : List Value).toArray } } :=
  I.laid (t' := s.toks) (fun _ _ => Heap.get?_push_of_some _) (Nat.le_refl _) ⟨Nat.zero_le _, [], 0, .nil, Heap.get?_push_size _ rfl⟩
/-- what holds between two turns -/
structure Between (X : Cx) (s0 : Shared) (H0 : Hp) (scope : Scope) (ce : Env) (fp : List Addr) (xe : Value → Shared → Prop) (τ : St) (tn : Nat → Heap → Prop) (Wm : Nat → Nat → Hp → Prop) (n i : Nat) (H : Hp) (u : Shared) : Prop where
  inv : Inv (X.blkE s0 H0 scope ce fp xe) [] τ H u
  at' : tn i u.heap
  off : ∀ b ∈ fp, H b = none
  sum : Wm i n H
section
variable {s0 : Shared} {H0 : Hp} {scope : Scope} {ce : Env} {fp : List Addr} {xe : Value → Shared → Prop} {τ : St} {tn : Nat → Heap → Prop} {Wm : Nat → Nat → Hp → Prop} {n i it : Nat} {H : Hp} {u : Shared}
theorem Between.fps (B : Between X s0 H0 scope ce fp xe τ tn Wm n i H u) : ∀ b ∈ fp, FpOk (X.blkE s0 H0 scope ce fp xe) [] H b := fun b hb =>
  ⟨B.off b hb, (B.inv.ok.exf b hb).1, B.inv.ok.exfs b hb, .inl hb, (B.inv.ok.exf b hb).2, fun _ z => nomatch z⟩
theorem Between.next {tg : Expr} {J : It} {a : Addr} {s7 : Shared} {σ8 : St} {H8 : Hp} {m : Nat} (T : Turn X.prog X.w X.K tg J fp a tn) (st : tn (i + 1) s7.heap) (J8 : Inv (X.blkE s0 H0 scope ce fp xe) ([] ++ pinsAt fp s7.heap) σ8 H8 u)
    (same : ∀ (j : Nat) v, τ[j]? = some (some v) → σ8[j]? = some (some v)) (len : τ.length = σ8.length) (w : Wm (i + 1) m H8) : Between X s0 H0 scope ce fp xe τ tn Wm m (i + 1) H8 u := by
  have pinned : ∀ b ∈ fp, ∀ o, s7.heap.get? b = some o → u.heap.get? b = some o ∧ H8 b = none := fun b hb o e =>
    have z := J8.pin (b, o) (List.mem_append_right _ (List.mem_append_right _ (mem_pinsAt hb e)))
    ⟨z.1, z.2.1⟩
  refine ⟨(J8.unpinned (pins := [])).weak len same, T.keep _ _ _ st fun b hb o e => (pinned b hb o e).1, fun b hb => ?_, w⟩
  obtain ⟨o, e, _⟩ := T.obj _ _ st b hb
  exact (pinned b hb o e).2
end
theorem pe_lcE {elt tg iter : Expr} {ifs : List Expr} {scope : Scope} {own : List (Str × Nat)} {pos : Pos} {wi : TI} {g : TG} {tt : TT} {te : WX → TE} {W : WX} (hst : X.stack = X.env :: X.outer) (hfr : X.env.frame = some X.env.locals) (tk : Takes X W)
    (hc : X.calm = true) (hN : X.N.Nodup) (hi : PI X tg iter wi) (ok : BlkOk X.N X.env.scope scope own) (hg : InBlock X scope fun Y => PG Y tg g) (ht : InBlock X scope fun Y => PTs Y ifs tt)
    (he : InBlock X scope fun Y => ∀ W' : WX, Takes Y W' → PE Y elt (te W')) (hs : ∀ x, foldedSetIterable iter X.env x = pure x := by intro _; rfl) :
    PE X (.ListComp elt [⟨tg, iter, ifs, 0⟩] scope pos) (tLcE wi g tt te (own.map (·.2)) W) := by
  constructor
  intro pins s σ H Q I wish
  have captured : ∀ y ∈ scope.names, y.2 = .free → ∃ c, X.env.cells.lookup y.1 = some c := fun y hy e => I.ok.has _ (ok.free y hy e)
  rw [eval_ListComp]
  apply list_block rfl hs (closure_ok captured) ok.kind fun y hy e => (ok.uniq y hy).trans (congrArg some e)
  refine thn (hi.run pins s σ H _ I wish) fun _ _ first => thn first fun _ s2 second => ?_
  obtain ⟨it, fp, tn, J, H2, rfl, I2, T, st2, f2, q⟩ := second
  refine wpAny_newObj_type ?_ (by show 0 ≤ sizeLine; decide)
  apply newEnv_comp
  -- the state that the block finds
  have I3 := new_list I2
  obtain ⟨Wm, ⟨m0, w0⟩, turn⟩ := q s2.heap.objs.size (I2.hok.fresh (Nat.le_refl _))
  generalize dn : s2.heap.objs.size = Dn at I3 turn w0 ⊢
  have old : ∀ b o, s2.heap.get? b = some o → ({ s2 with heap := s2.heap.push { cls := .type "list", data := .seq ([] : List Value).toArray } } : Shared).heap.get? b = some o := fun _ _ => Heap.get?_push_of_some _
  have big : s2.heap.objs.size < ({ s2 with heap := s2.heap.push { cls := .type "list", data := .seq ([] : List Value).toArray } } : Shared).heap.objs.size := by
    rw [Heap.size_push]
    exact Nat.lt_succ_self _
  generalize ({ s2 with heap := s2.heap.push { cls := .type "list", data := .seq ([] : List Value).toArray } } : Shared) = s3 at I3 old big ⊢
  have fps : ∀ b ∈ fp, FpOk X pins (upd H2 Dn (.lst [])) b ∧ b < s3.heap.objs.size := by
    intro b hb
    obtain ⟨ob, e, _⟩ := T.obj _ _ st2 b hb
    have below := Heap.lt_size e
    refine ⟨⟨?_, (f2 b hb).2⟩, Nat.lt_trans below big⟩
    rw [upd_ne (Nat.ne_of_lt (dn ▸ below))]
    exact (f2 b hb).1
  have st3 : tn 0 s3.heap := T.keep _ _ _ st2 fun b _ o => old b o
  have I4 := block_start I3 ok hN fps
  have st4 : tn 0 ({ s3 with heap := pushCells (s3.heap.push { cls := .type "dict", data := .dict #[] }) scope.names } : Shared).heap := T.keep _ _ _ st3 fun b _ o e => pushCells_keeps _ _ _ _ (Heap.get?_push_of_some _ e)
  have rg := hg s3 (upd H2 Dn (.lst [])) s3.heap.objs.size (cellsFrom (s3.heap.objs.size + 1) scope.names (cloFrom X.env.cells scope.names [])) fp
  have rt := ht s3 (upd H2 Dn (.lst [])) s3.heap.objs.size (cellsFrom (s3.heap.objs.size + 1) scope.names (cloFrom X.env.cells scope.names [])) fp
  have re := he s3 (upd H2 Dn (.lst [])) s3.heap.objs.size (cellsFrom (s3.heap.objs.size + 1) scope.names (cloFrom X.env.cells scope.names [])) fp
  obtain ⟨ce, hce⟩ : ∃ ce, compEnvC scope (cellsFrom (s3.heap.objs.size + 1) scope.names (cloFrom X.env.cells scope.names [])) s3.heap.objs.size X.env = ce := ⟨_, rfl⟩
  have cL : ce.locals = s3.heap.objs.size := by rw [← hce]; rfl
  have cF : ce.frame = X.env.frame := by rw [← hce]; rfl
  show codeAny _ _ (.compStart (.ListComp elt [⟨tg, iter, ifs, 0⟩] scope pos) 0 (.ref it) (.ref Dn) (compEnvC scope (cellsFrom (s3.heap.objs.size + 1) scope.names (cloFrom X.env.cells scope.names [])) s3.heap.objs.size X.env)) (BlockDone _ _ _ _ (compEnvC scope (cellsFrom (s3.heap.objs.size + 1) scope.names (cloFrom X.env.cells scope.names [])) s3.heap.objs.size X.env)) _
  rw [hce] at I4 rg rt re ⊢
  generalize upd H2 Dn (.lst []) = H3 at *
  generalize ({ s3 with heap := pushCells (s3.heap.push { cls := .type "dict", data := .dict #[] }) scope.names } : Shared) = s4 at *
  generalize rr : BlockDone (model X.prog X.w) X.A X.xe (EP X pins σ Q (.ref Dn)) ce = R
  obtain ⟨xe, hxe⟩ : ∃ xe, xe = notedBy (model X.prog X.w) X.A ce fun e u => R (.error e) u := ⟨_, rfl⟩
  have re := re xe _ (block_raises hst hfr tk I3 cF cL (fun b hb => (fps b hb).1) (hxe.trans (by rw [← rr])))
  have rg := rg xe
  have rt := rt xe
  have whole : codeAny (model X.prog X.w) X.A (.compLoop (.ListComp elt [⟨tg, iter, ifs, 0⟩] scope pos) 0 (.ref it) (.ref Dn) ce) R s4 := by
    have start : Between X s3 H3 scope ce fp xe (wipe σ (own.map (·.2))) tn Wm m0 0 H3 s4 := ⟨I4.toTry xe, st4, fun b hb => (fps b hb).1.1, w0⟩
    refine compLoop_any (fun n u => ∃ i H', Between X s3 H3 scope ce fp xe (wipe σ (own.map (·.2))) tn Wm n i H' u) ?_ m0 ⟨0, H3, start⟩
    rw [← hxe]
    rintro n u ⟨i, H5, B⟩
    rcases turn i n H5 B.sum with ⟨stop, told⟩ | ⟨go, Nx, less, step⟩
    · refine thnF (T.done (X.blkE s3 H3 scope ce fp xe) rfl rfl rfl hc i [] u _ H5 (fun _ _ => False) B.inv B.fps B.at' stop) fun r u1 z => ?_
      obtain ⟨rfl, J1⟩ := z
      obtain ⟨names, ns, _⟩ := J1.loc
      have mine : Inv X pins σ H5 u1 := I3.call' (ch := fp) J1.os J1.base J1.hok J1.bare fun b hb => ⟨(fps b hb).1.2.2.2.1, (fps b hb).1.2.1, (fps b hb).1.2.2.2.2.1, (fps b hb).1.2.2.2.2.2⟩
      have okC : FpOk X pins H5 ce.locals := I3.fpOk (Nat.le_of_eq cL.symm) J1.free
      show R (.ok .next) u1
      rw [← rr]
      refine ⟨names, ns, fun g same => ⟨.ref Dn, H5, ?_, rfl, told⟩⟩
      exact mine.turned (t' := u1.toks) (fun b o nb e => (same.2 b nb).trans e) okC.1 okC.2.1 okC.2.2.2.1 okC.2.2.2.2.1 okC.2.2.2.2.2
    · refine thnF (T.item (X.blkE s3 H3 scope ce fp xe) rfl rfl rfl hc i [] u _ H5 (fun _ _ => False) B.inv B.fps B.at' go) fun r u1 z => ?_
      obtain ⟨v, rfl, inner⟩ := z
      refine thnF inner fun _ u2 z => ?_
      obtain ⟨x, H7, J7, r7, y7, st7, off7⟩ := z
      have J8 := J7.pinned (Between.fps ⟨J7, st7, off7, trivial⟩ (Wm := fun _ _ _ => True) (n := 0)) (T.obj _ _ st7)
      refine thn (rg.run _ u2 _ H7 x v _ J8 r7 (step x H7 y7)) fun _ u3 z => ?_
      obtain ⟨σ8, H8, J9, wiped, tests⟩ := z
      refine thn (rt.run _ u3 σ8 H8 _ J9 tests) fun b u4 z => ?_
      obtain ⟨H9, J10, rest⟩ := z
      have finish : ∀ {u' : Shared} {H' : Hp}, Inv (X.blkE s3 H3 scope ce fp xe) ([] ++ pinsAt fp u2.heap) σ8 H' u' → Nx H' → ∃ m, m < n ∧ ∃ i H', Between X s3 H3 scope ce fp xe (wipe σ (own.map (·.2))) tn Wm m i H' u' := by
        intro u' H' J' nx
        obtain ⟨m', lt, w'⟩ := less H' nx
        exact ⟨m', lt, i + 1, H', Between.next T st7 J' (fun j v e => (wipe_some (wiped.symm ▸ e)).1) (by rw [← wiped, wipe_length]) w'⟩
      cases b with
      | false => exact finish J10 (by simpa using rest)
      | true =>
        rw [if_pos rfl] at rest
        show wpAny _ _ (eval elt ce) _ _ _
        refine thn (re.run _ u4 σ8 H9 _ J10 rest) fun y u5 z => ?_
        obtain ⟨yv, H10, J11, r11, acc, here, room, nx⟩ := z
        exact app_ok (X := X.blkE s3 H3 scope ce fp xe) J11 here room r11 fun u6 J12 => finish J12 nx
  exact codeAny_compStart_list whole (T.self X.A 0 _ _ _ st4 whole)
end
end L2
namespace SW
open PySem L2
/-- the body of a comprehension whose items may raise -/
def dLcE (IA : TDI) (G : TGD) (T : TDT) (A : TD) (vs : List Nat) (fin : List D → Mu → DQ → Prop) : TD := fun δ μ Q E => IA δ μ (fun ds μ1 => ∃ I : Nat → List D → Mu → Prop, I 0 [] μ1 ∧
  (∀ i d acc μ, ds[i]? = some d → I i acc μ → G d (wipeD δ vs) μ (fun δ2 μ2 => T δ2 μ2 (fun b μ3 => (b = true → A δ2 μ3 (fun y μ4 => acc.length < sizeLine ∧ I (i + 1) (acc ++ [y]) μ4) (fun C _ μ' => E C δ μ')) ∧ (b = false → I (i + 1) acc μ3)) E0D)) ∧
  ∀ acc μ, I ds.length acc μ → fin acc μ Q) E
theorem up_lcE {K : PySem.W.Frag} {W : WX} {IA : TDI} {is : List Nat} {G : TGD} {T : TDT} {A : TD} {vs : List Nat} {fin : List D → Mu → DQ → Prop} (hf : FinOk K fin) (his : ∀ i ∈ is, i ∈ vs) :
    ∀ σ H Q, up K W (dLcE IA G T A vs fin) σ H Q → tLcE (upI K W IA) (upG K is G) (upT K (fun _ _ _ _ => False) T) (fun W' => up K W' A) vs W σ H Q := by
  rintro σ H Q ⟨g, μ, δ, Q', E', at0, sl, h, k, kx⟩
  refine ⟨g, μ, δ, _, E', at0, sl, h, fun g1 H1 μ1 ds J a1 e1 rJ ⟨I, i0, step, fi⟩ => ?_, kx⟩
  intro Dd hD
  have hF1 : g1.F Dd = none := Same.free a1.sub hD
  have hθ1 : Dd ∉ g1.th := fun hm => by
    obtain ⟨o, ho⟩ := a1.al _ hm
    rw [hD] at ho; cases ho
  refine ⟨fun i m H' => m = ds.length - i ∧ i ≤ ds.length ∧ ∃ gi μi acc ws, At K gi μi H' ∧ Ext g1 H1 gi H' ∧ Out gi H' Dd (.lst ws) ∧ Reps K gi.F gi.th acc ws ∧ I i acc μi, ⟨_, rfl, Nat.zero_le _, g1, μ1, [], [], a1.out hF1 hθ1 (plain_none hD), (Ext.refl g1 H1).out hD, ⟨upd_same, hF1, hθ1, trivial⟩, Reps.nil, i0⟩, ?_⟩
  rintro i m H2 ⟨rfl, hle, g2, μ2, acc, ws, a2, e2, o2, r2, hI⟩
  by_cases hlt : i < ds.length
  · have hd := List.getElem?_eq_getElem hlt
    obtain ⟨go, yl⟩ := (rJ g2 H2 μ2 i a2 e2.le).1 _ hd
    refine .inr ⟨go, fun H' => ∃ gi μi acc ws, At K gi μi H' ∧ Ext g1 H1 gi H' ∧ Out gi H' Dd (.lst ws) ∧ Reps K gi.F gi.th acc ws ∧ I (i + 1) acc μi, fun H' q => ⟨_, by omega, rfl, hlt, q⟩, fun x H3 hy => ?_⟩
    obtain ⟨g3, a3, e3, r3⟩ := yl x H3 hy
    have s3 : Sl K g3 (wipe σ vs) (wipeD δ vs) := (sl.ext (e1.trans (e2.trans e3))).wipe vs
    refine ⟨g3, μ2, _, _, _, a3, s3, r3, step i _ acc μ2 hd hI, fun g4 H4 μ4 δ4 σ4 a4 e4 s4 w4 q4 => ?_⟩
    have wv : wipe (wipe σ vs) vs = wipe σ vs := by
      apply List.ext_getElem?
      intro j
      by_cases hj : j < σ.length
      · rw [wipe_get (by rw [wipe_length]; exact hj), wipe_get hj]
        by_cases hm : j ∈ vs <;> simp [hm]
      · rw [List.getElem?_eq_none (by rw [wipe_length, wipe_length]; simpa using hj), List.getElem?_eq_none (by rw [wipe_length]; simpa using hj)]
    refine ⟨(w4 vs his).trans wv, g4, μ4, δ4, _, _, a4, s4, q4, fun g5 H5 μ5 b a5 e5 q5 => ?_, fun _ _ _ _ _ _ _ _ z => z.elim⟩
    have e25 := e3.trans (e4.trans e5)
    cases b with
    | true =>
      refine iteT ?_
      refine ⟨g5, μ5, δ4, _, _, a5, s4.ext e5, q5.1 rfl, fun g6 H6 μ6 y u a6 e6 r6 ⟨hz, q6⟩ => ?_, fun g6 H6 μ6 C δ6 a6 e6 s6 z => ?_⟩
      · have e26 := e25.trans e6
        have o6 := o2.ext e26
        refine ⟨ws, o6.at', by rw [← r2.length]; exact hz, g6, μ6, acc ++ [y], ws ++ [u], a6.out o6.F o6.th (plain_some o6.at' trivial), (e2.trans e26).out hD, ⟨upd_same, o6.F, o6.th, trivial⟩, Reps.append (r2.ext e26) (Reps.cons r6 Reps.nil), q6⟩
      · have e06 := e1.trans (e2.trans (e25.trans e6))
        exact kx g6 H6 μ6 C δ a6 e06 (sl.ext e06) z
    | false =>
      refine iteF ?_
      exact ⟨g5, μ5, acc, ws, a5, e2.trans e25, o2.ext e25, r2.ext e25, q5.2 rfl⟩
  · have e : i = ds.length := by omega
    subst e
    refine .inl ⟨(rJ g2 H2 μ2 _ a2 e2.le).2 rfl, ?_⟩
    exact hf g1 g2 H1 H2 Dd acc ws μ2 Q' Q a2 e2 hD o2 r2 (fi acc μ2 hI) fun g3 H3 μ3 d u a3 e3 r3 q3 => k g3 H3 μ3 d u a3 (e1.trans e3) r3 q3
theorem we_lcE {X : Cx} {W : WX} {fin : List D → Mu → DQ → Prop} (hf : FinOk X.K fin) (own : List (Str × Nat)) {is : List Nat} {elt tg iter : Expr} {ifs : List Expr} {scope : Scope} {pos : Pos} {IA : TDI} {G : TGD} {T : TDT} {A : TD} (tk : Takes X W) (hN : X.N.Nodup) (hi : WI X W tg iter IA) (ok : BlkOk X.N X.env.scope scope own)
    (hg : ∀ (s : Shared) (H : Hp) (C : Addr) (cl : List (Str × Addr)) (fp : List Addr) (xe : Value → Shared → Prop), WG (X.blkE s H scope (compEnvC scope cl C X.env) fp xe) tg is G)
    (ht : ∀ (s : Shared) (H : Hp) (C : Addr) (cl : List (Str × Addr)) (fp : List Addr) (xe : Value → Shared → Prop), PTs (X.blkE s H scope (compEnvC scope cl C X.env) fp xe) ifs (upT X.K W0 T))
    (he : ∀ (s : Shared) (H : Hp) (C : Addr) (cl : List (Str × Addr)) (fp : List Addr) (xe : Value → Shared → Prop) (W' : WX), Takes (X.blkE s H scope (compEnvC scope cl C X.env) fp xe) W' → WX0 (X.blkE s H scope (compEnvC scope cl C X.env) fp xe) W' elt A)
    (hst : X.stack = X.env :: X.outer := by rfl) (hfr : X.env.frame = some X.env.locals := by rfl) (hc : X.calm = true := by rfl) (his : ∀ i ∈ is, i ∈ own.map (·.2) := by decide) (hs : ∀ x, foldedSetIterable iter X.env x = pure x := by intro _; rfl) :
    WX0 X W (.ListComp elt [⟨tg, iter, ifs, 0⟩] scope pos) (dLcE IA G T A (own.map (·.2)) fin) := PE.imp (pe_lcE hst hfr tk hc hN hi ok hg ht he hs) (up_lcE hf his)
theorem st_lcE {IA : TDI} {G : TGD} {T : TDT} {A : TD} {vs : List Nat} {fin : List D → Mu → DQ → Prop} {δ : DS} {μ : Mu} {Q : DQ} {E : DE} (h : IA δ μ (fun ds μ1 => ∃ I : Nat → List D → Mu → Prop, I 0 [] μ1 ∧
  (∀ i d acc μ, ds[i]? = some d → I i acc μ → G d (wipeD δ vs) μ (fun δ2 μ2 => T δ2 μ2 (fun b μ3 => (b = true → A δ2 μ3 (fun y μ4 => acc.length < sizeLine ∧ I (i + 1) (acc ++ [y]) μ4) (fun C _ μ' => E C δ μ')) ∧ (b = false → I (i + 1) acc μ3)) E0D)) ∧
  ∀ acc μ, I ds.length acc μ → fin acc μ Q) E) : dLcE IA G T A vs fin δ μ Q E := h
end SW

end

section
set_option Elab.async false
set_option linter.all false
set_option maxRecDepth 100000
set_option maxHeartbeats 3200000
/-! Sets of numbers and texts: which keys stand in one, entry by entry; how it is made of what is walked. -/
namespace SW
open PySem PySem.Spec L2 PyProof.Rows

/-! ### entries and keys -/
theorem paired_of_perm {α β : Type} {R : α → β → Prop} {l m : List α} (p : l.Perm m) : ∀ {ys : List β}, Paired R m ys → ∃ zs, Paired R l zs ∧ zs.Perm ys := by
  induction p with
  | nil => exact fun h => ⟨_, h, .refl _⟩
  | cons x p ih =>
    intro ys h
    cases h with
    | cons r h =>
      obtain ⟨zs, h1, h2⟩ := ih h
      exact ⟨_, .cons r h1, h2.cons _⟩
  | swap x y l =>
    intro ys h
    cases h with
    | cons r h =>
      cases h with
      | cons r2 h => exact ⟨_, .cons r2 (.cons r h), .swap _ _ _⟩
  | trans p q ih1 ih2 =>
    intro ys h
    obtain ⟨zs, a, b⟩ := ih2 h
    obtain ⟨us, c, d⟩ := ih1 a
    exact ⟨us, c, d.trans b⟩
/-- an entry that stands for a key -/
def Ent (P : Program) (w : World) (e : Int × Value) (k : Key) : Prop := RelV (kV k) e.2 ∧ e.1 = (mixKind P w).hash k
/-- entries that stand for keys, in any order -/
def Ents (P : Program) (w : World) (l : List (Int × Value)) (ks : List Key) : Prop := ∃ js, Paired (Ent P w) l js ∧ js.Perm ks
section
variable {P : Program} {w : World} {l m : List (Int × Value)} {ks : List Key} {k : Key} {v : Value}
theorem Ents.reorder (h : Ents P w l ks) (p : m.Perm l) : Ents P w m ks :=
  let ⟨_, h1, h2⟩ := h
  let ⟨zs, h3, h4⟩ := paired_of_perm p h1
  ⟨zs, h3, h4.trans h2⟩
theorem Ents.more (h : Ents P w l ks) (r : RelV (kV k) v) : Ents P w (l ++ [((mixKind P w).hash k, v)]) (ks ++ [k]) :=
  let ⟨js, h1, h2⟩ := h
  ⟨js ++ [k], h1.snoc ⟨r, rfl⟩, h2.append_right [k]⟩
theorem Ents.length (h : Ents P w l ks) : l.length = ks.length := let ⟨_, h1, h2⟩ := h; h1.length.trans h2.length_eq
theorem Ents.scan (h : Ents P w l ks) : ElemsOf (mixKind P w) l := by
  obtain ⟨js, h1, h2⟩ := h
  clear h2
  induction h1 with
  | nil => exact fun _ z => nomatch z
  | cons r _ ih =>
    intro x hx
    cases hx with
    | head => exact ⟨⟨_, kV_is r.1, r.2⟩, key_scan r.1⟩
    | tail _ hx => exact ih x hx
theorem Ents.has (h : Ents P w l ks) : (∃ e ∈ l, (mixKind P w).is k e.2 = true) ↔ k ∈ ks := by
  obtain ⟨js, h1, h2⟩ := h
  rw [← h2.mem_iff]
  clear h2
  induction h1 with
  | nil => simp
  | @cons e j es js r _ ih =>
    rw [List.mem_cons, ← ih]
    constructor
    · rintro ⟨x, hx, q⟩
      cases hx with
      | head => exact .inl ((mixKind P w).inj e.2 j k (kV_is r.1) q).symm
      | tail _ hx => exact .inr ⟨x, hx, q⟩
    · rintro (rfl | ⟨x, hx, q⟩)
      · exact ⟨e, .head _, kV_is r.1⟩
      · exact ⟨x, .tail _ hx, q⟩
end
/-! ### a set at a place -/
/-- a table in order -/
structure TabOk (w : World) (t : SetTable) (n : Nat) : Prop where
  fits : t.fits n = true
  ris : Ris t.place.toList
  led : w.params.followText "set-order" = true ∨ t.led = true
section
variable {w : World} {t : SetTable} {n : Nat}
theorem TabOk.off (h : TabOk w t n) : TabOk w { t with plain := false } n := ⟨SetTable.fits_plain_off h.fits, h.ris, h.led⟩
theorem TabOk.lay (h : TabOk w t n) (es : Array (Int × Value)) (i : Int) (v : Value) : TabOk w (layNew t es i v).2.1 (layNew t es i v).1.size :=
  ⟨layNew_fits t es i v, layNew_ris t es i v h.ris, by rw [layNew_led]; exact h.led⟩
theorem TabOk.relay (h : TabOk w t n) (es : Array (Int × Value)) (m : Nat) : TabOk w (relayAll t es m).2.1 (relayAll t es m).1.size :=
  ⟨relayAll_fits t es m, relayAll_ris t es m, by rw [relayAll_led]; exact h.led⟩
end
/-- at a stands a set that has just the keys ks -/
def SetHas (P : Program) (w : World) (h : Heap) (a : Addr) (ks : List Key) : Prop :=
  ∃ o es ep t, (h.get? a = some o ∧ o.ExactSet ∧ o.data = .set es ep t) ∧ Ents P w es.toList ks ∧ ks.Nodup ∧ ks.length < scanBound ∧ TabOk w t es.size
theorem SetHas.keep {P : Program} {w : World} {h h' : Heap} {a : Addr} {ks : List Key} (R : SetHas P w h a ks) (k : ∀ o, h.get? a = some o → h'.get? a = some o) : SetHas P w h' a ks :=
  let ⟨o, es, ep, t, ⟨ho, r⟩, q⟩ := R
  ⟨o, es, ep, t, ⟨k o ho, r⟩, q⟩
open Classical in
/-- a key more -/
noncomputable def addK (ks : List Key) (k : Key) : List Key := if k ∈ ks then ks else ks ++ [k]
noncomputable def uniqK (ks : List Key) : List Key := ks.foldl addK []
theorem addK_len (ks : List Key) (k : Key) : (addK ks k).length ≤ ks.length + 1 := by
  unfold addK
  split
  · omega
  · rw [List.length_append]; exact Nat.le_refl _
theorem uniqK_snoc (ks : List Key) (k : Key) : uniqK (ks ++ [k]) = addK (uniqK ks) k := by unfold uniqK; rw [List.foldl_append]; rfl
theorem uniqK_len (ks : List Key) : (uniqK ks).length ≤ ks.length := by
  have : ∀ ks acc : List Key, (ks.foldl addK acc).length ≤ acc.length + ks.length := fun ks => by
    induction ks with
    | nil => exact fun acc => Nat.le_refl _
    | cons k ks ih =>
      intro acc
      have h1 := ih (addK acc k)
      have h2 := addK_len acc k
      rw [List.foldl_cons, List.length_cons]
      omega
  have := this ks []
  rw [List.length_nil, Nat.zero_add] at this
  exact this
/-! ### one key more -/
section
variable {P : Program} {w : World} {A : Around} {E : Value → Shared → Prop} {s : Shared} {a : Addr} {ks : List Key} {k : Key} {v : Value}
theorem gave_way {g : Bool → Sem Unit} (b : Bool) {s : Shared} {Q : Unit → Shared → Prop} (q : Q () s) (h0 : g false = pure () := by rfl) (h1 : ∃ r, g true = rule r := by exact ⟨_, rfl⟩) : wpAny (model P w) A (g b) Q E s := by
  obtain ⟨r, h1⟩ := h1
  cases b
  · rw [h0]; exact wpAny_pure q
  · rw [h1]; exact wpAny_rule q
theorem by_value {α : Type} {c : Prop} [Decidable c] {F : Bool → Sem α} {Q : α → Shared → Prop} (sc : v.scannable = true) (q : ∀ b, wpAny (model P w) A (F b) Q E s) : wpAny (model P w) A (if c then hashByValue 8 v >>= F else pure true >>= F) Q E s := by
  by_cases h : c
  · rw [if_pos h, hashByValue_scannable 8 sc]
    exact wpAny_bind (wpAny_pure (q _))
  · rw [if_neg h]
    exact wpAny_bind (wpAny_pure (q true))
/-- entries are written -/
theorem set_write {o : Obj} {es es' : Array (Int × Value)} {ep : Nat} {t t' : SetTable} {Q : Unit → Shared → Prop} (g : s.heap.get? a = some o ∧ o.ExactSet ∧ o.data = .set es ep t) (he : Ents P w es'.toList ks) (hb : ks.length < scanBound)
    (q : ∀ h' o', Heap.SameBut a s.heap h' → (h'.get? a = some o' ∧ o'.ExactSet ∧ o'.data = .set es' (ep + 1) t') → Q () { s with heap := h' }) : wpAny (model P w) A (storeSet a es' t') Q E s :=
  wpAny_storeSet_of g.1 g.2.2 (q _ _ (Heap.SameBut.update s.heap a _) ⟨store_at g.1 g.2.2, g.2.1, rfl⟩) (fits_of_scanBound (by rw [← Array.length_toList, he.length]; exact hb))
theorem set_addHashed {Q : Bool → Shared → Prop} (rv : RelV (kV k) v) (R : SetHas P w s.heap a ks) (room : ks.length + 1 < scanBound)
    (q : ∀ b h', Heap.SameBut a s.heap h' → SetHas P w h' a (addK ks k) → Q b { s with heap := h' }) : wpAny (model P w) A (setAddHashed a v ((mixKind P w).hash k)) Q E s := by
  obtain ⟨o, es, ep, t, g, he, nd, hb, ht⟩ := id R
  have sc := key_scan rv
  have eb : es.size < scanBound := by rw [← Array.length_toList, he.length]; exact hb
  unfold setAddHashed setAddHashedIn
  refine wpAny_holding (wpAny_bind (wpAny_setState_of g.1 g.2.2 ht.fits ?_))
  dsimp only
  rw [byScan_of sc eb he.scan, if_pos rfl]
  unfold setAddByScan
  refine wpAny_bind (wpAny_bind (wpAny_rule (wpAny_bind (wpAny_setScan_of (kV_is rv) g.1 g.2.2 ht.fits he.scan ?_))))
  by_cases hk : k ∈ ks
  · obtain ⟨e, h1, h2⟩ := he.has.mpr hk
    obtain ⟨j, hj⟩ := Option.isSome_iff_exists.mp (List.findIdx?_isSome ▸ List.any_eq_true.mpr ⟨e, h1, h2⟩ : (es.toList.findIdx? fun e => (mixKind P w).is k e.2).isSome = true)
    rw [hj]
    have e1 : addK ks k = ks := if_pos hk
    exact wpAny_pure (wpAny_pure (q _ _ (Heap.SameBut.refl a s.heap) (by rw [e1]; exact R)))
  · have hj : es.toList.findIdx? (fun e => (mixKind P w).is k e.2) = none := List.findIdx?_eq_none_iff.mpr fun e h1 => by
      cases h2 : (mixKind P w).is k e.2
      · rfl
      · exact absurd (he.has.mp ⟨e, h1, h2⟩) hk
    rw [hj]
    dsimp only
    have p1 := layNew_perm t es ((mixKind P w).hash k) v
    have t1 := ht.lay es ((mixKind P w).hash k) v
    generalize layNew t es ((mixKind P w).hash k) v = Z at p1 t1 ⊢
    obtain ⟨es1, tb, dm, gv⟩ := Z
    dsimp only at p1 t1 ⊢
    have e1 : Ents P w es1.toList (ks ++ [k]) := (he.more rv).reorder (by rw [← Array.toList_push]; exact p1)
    have n1 : (ks ++ [k]).Nodup := List.nodup_append.mpr ⟨nd, List.pairwise_singleton _ _, fun x hx y hy z => hk (by rw [← List.mem_singleton.mp hy, ← z]; exact hx)⟩
    have b1 : (ks ++ [k]).length < scanBound := by rw [List.length_append]; exact room
    have last : ∀ h', Heap.SameBut a s.heap h' → SetHas P w h' a (ks ++ [k]) → Q true { s with heap := h' } := fun h' sb r => q _ _ sb (by rw [show addK ks k = ks ++ [k] from if_neg hk]; exact r)
    refine wpAny_bind (gave_way gv (by_value sc fun b => ?_))
    have t2 : TabOk w (if b = true then tb else { tb with plain := false }) es1.size := by
      split
      · exact t1
      · exact t1.off
    generalize (if b = true then tb else { tb with plain := false }) = tc at t2 ⊢
    refine wpAny_bind (set_write g e1 b1 fun h1 o1 sb1 g1 => ?_)
    split
    · have p3 := relayAll_perm tc es1 (SetTable.grown es1.size)
      have t3 := t2.relay es1 (SetTable.grown es1.size)
      generalize relayAll tc es1 (SetTable.grown es1.size) = Z at p3 t3 ⊢
      obtain ⟨es3, td, gw⟩ := Z
      dsimp only at p3 t3 ⊢
      refine wpAny_bind (gave_way gw (wpAny_bind (set_write (s := { s with heap := h1 }) g1 (e1.reorder p3) b1 fun h2 o2 sb2 g2 => ?_)))
      exact wpAny_pure (wpAny_pure (last _ (sb1.trans sb2) ⟨_, _, _, _, g2, e1.reorder p3, n1, b1, t3⟩))
    · exact wpAny_pure (wpAny_pure (last _ sb1 ⟨_, _, _, _, g1, e1, n1, b1, t2⟩))
end
/-! ### what is walked goes in, key by key -/
section
variable {P : Program} {w : World} {A : Around} {E : Value → Shared → Prop}
abbrev sameG : Array GenState → Array GenState → Prop := fun a b => b = a
theorem set_loop {I : Addr} {fp wr : List Addr} {n : Nat} {Pv : Nat → Value → Prop} {St : Nat → Shared → Prop} {R : Result → Shared → Prop} (W : WalksS P w A.in1 I fp wr sameG n Pv St) {S : Addr} (hS : S ∉ fp)
    {ks : List Key} (hn : n = ks.length) (few : ks.length < scanBound) (val : ∀ i v, Pv i v → ∃ k, ks[i]? = some k ∧ RelV (kV k) v) {h0 : Heap} (fr : ∀ b ∈ S :: wr, h0.get? b = none) :
    ∀ (todo done : List Key) (s : Shared), ks = done ++ todo → St done.length s → (∀ b o, h0.get? b = some o → s.heap.get? b = some o) → SetHas P w s.heap S (uniqK done) →
      (∀ s', Moved (S :: wr) sameG s s' → SetHas P w s'.heap S (uniqK ks) → (∀ b o, h0.get? b = some o → s'.heap.get? b = some o) → R (.ok (.ret .none)) s') →
      codeAny (model P w) A (.builtin "set.update.loop" ⟨[.ref S, .ref I], []⟩) R s := by
  have far : ∀ b o, h0.get? b = some o → b ∉ S :: wr := fun b o e z => by rw [fr b z] at e; cases e
  have Sw : S ∉ wr := fun z => hS (W.sub _ z)
  have wide : ∀ {s s' : Shared}, Moved wr sameG s s' → Moved (S :: wr) sameG s s' := fun m => m.mono fun b hb => List.mem_cons_of_mem _ hb
  intro todo
  induction todo <;> intro done s hk hst keep R0 fin <;> refine codeAny_builtin F.entry_set_update_loop ?_ <;> rw [Around.under_plainId F.plain_set_update_loop _]
  case nil =>
    rw [List.append_nil] at hk
    subst hk
    refine wpAny_bind (W.done s _ _ (by rw [hn]; exact hst) fun s' m => ?_)
    exact wpAny_pure (fin s' (wide m) (R0.keep fun o => m.heap S o Sw) fun b o e => m.heap b o (fun z => far b o e (.tail _ z)) (keep b o e))
  case cons k todo ih =>
    have lt : done.length < n := by rw [hn, hk, List.length_append, List.length_cons]; omega
    refine wpAny_bind (W.item done.length s _ _ lt hst fun v s' hv hst' m => ?_)
    obtain ⟨j, hj, rv⟩ := val _ v hv
    obtain rfl : k = j := by
      rw [hk, List.getElem?_append_right (Nat.le_refl _), Nat.sub_self] at hj
      exact Option.some.inj hj
    have room : (uniqK done).length + 1 < scanBound := by
      have := uniqK_len done
      rw [hk, List.length_append, List.length_cons] at few
      omega
    refine wpAny_bind (wpAny_holding ?_)
    unfold setAdd
    refine wpAny_holding (wpAny_bind ((mixKind P w).pyHash (kV_is rv) ?_))
    refine set_addHashed (s := { s' with toks := s'.toks + 1 }) rv (R0.keep fun o => m.heap S o Sw) room fun b h' sb R1 => ?_
    have kept : ∀ b o, b ≠ S → s'.heap.get? b = some o → h'.get? b = some o := fun b o hb e => (sb.2 b hb).trans e
    refine wpAny_pure ⟨plainId_quiet F.plain_set_update_loop _, ih (done ++ [k]) _ (by rw [hk, List.append_assoc]; rfl) ?_ (fun b o e => ?_) (by rw [uniqK_snoc]; exact R1) fun s2 m2 R2 k2 => fin s2 ?_ R2 k2⟩
    · rw [List.length_append]
      exact W.frame _ s' _ _ hst' (Nat.le_succ _) fun b hb o e => kept b o (fun z => hS (z ▸ hb)) e
    · have q := far b o e
      exact kept b o (fun z => q (z ▸ .head _)) (m.heap b o (fun z => q (.tail _ z)) (keep b o e))
    · exact Moved.trans W.gtrans ((wide m).then_heap (Nat.le_succ _) fun b o hb e => kept b o (fun z => hb (z ▸ .head _)) e) m2
end
/-! ### set(x) of what can be walked -/
/-- the set as it is made -/
abbrev bareSet (w : World) : Obj := { cls := .type "set", dict := none, data := .set #[] 0 (.fresh 0 0 (!w.params.followText "set-order")) }
theorem bare_has (P : Program) (w : World) (h : Heap) : SetHas P w (h.push (bareSet w)) h.objs.size (uniqK []) := by
  refine ⟨_, #[], 0, _, ⟨Heap.get?_push_size _ rfl, ⟨rfl, rfl, rfl⟩, rfl⟩, ⟨[], .nil, .refl _⟩, List.Pairwise.nil, by decide, rfl, List.Pairwise.nil, ?_⟩
  show _ ∨ (!w.params.followText "set-order") = true
  cases w.params.followText "set-order" <;> simp
/-- x, walked anew in any later heap, tells what stands for the keys -/
def Walked (P : Program) (w : World) (s : Shared) (x : Value) (ks : List Key) : Prop := ∀ (A : Around) (E Q : Value → Shared → Prop) (h : Heap), s.heap.objs.size < h.objs.size → (∀ b o, s.heap.get? b = some o → h.get? b = some o) →
  (∀ (o : Obj) (fp : List Addr) (n : Nat) (Pv : Nat → Value → Prop) (St : Nat → Heap → Prop), (∀ A' : Around, A'.handled = none → Walks P w A' h.objs.size fp [h.objs.size] n Pv St) → s.heap.objs.size ∉ fp → n = ks.length →
    (∀ i v, Pv i v → ∃ k, ks[i]? = some k ∧ RelV (kV k) v) → St 0 (h.push o) → Q (.ref h.objs.size) { s with heap := h.push o }) → wpAny (model P w) A (pyIter x) Q E { s with heap := h }
section
variable {P : Program} {w : World} {A : Around} {E : Value → Shared → Prop} {s : Shared}
theorem no_obj {h : Heap} {b : Addr} (hb : h.objs.size ≤ b) : h.get? b = none := by
  cases q : h.get? b with
  | none => rfl
  | some o => exact absurd (Nat.lt_of_lt_of_le (Heap.lt_size q) hb) (Nat.lt_irrefl _)
set_option maxHeartbeats 6400000 in
theorem set_call {x : Value} {ty : String} {ks : List Key} {Q : Value → Shared → Prop} (hh : A.handled = none) (few : ks.length < scanBound) (tx : ∀ h, (∀ b o, s.heap.get? b = some o → h.get? b = some o) → Shared.TypeIs { s with heap := h } x ty)
    (n1 : isSubtype (.type ty) (.type "set") = pure false) (n2 : isSubtype (.type ty) (.type "frozenset") = pure false) (n3 : (Value.type ty == Value.type "dict") = false) (it : Walked P w s x ks)
    (q : ∀ (h : Heap) (tk : Nat), SetHas P w h s.heap.objs.size (uniqK ks) → (∀ b o, s.heap.get? b = some o → h.get? b = some o) → Q (.ref s.heap.objs.size) { s with heap := h, toks := tk }) :
    wpAny (model P w) A (call (.type "set") [x]) Q E s := by
  have pushed : ∀ b o, s.heap.get? b = some o → (s.heap.push (bareSet w)).get? b = some o := fun b o e => Heap.get?_push_of_some _ e
  obtain ⟨_, _, i0⟩ := F.called_set.mro
  have i1 := F.called_set.made
  have i2 := F.called_set.sub
  have i3 := F.called_set.notType
  have i4 := F.called_set.canCreate
  have i5 := F.typeCall_set_1 x
  refine wpAny_call (codeAny_of_tree (wpAny_pure ⟨Code.quiet_builtin _ (by decide +kernel), codeAny_builtin F.entry_type_call ?_⟩))
  rw [Around.under_plain (weight_type_call_type "set" [x] []) rfl]
  repeat (any_goals (first | assumption | wp_step))
  refine codeAny_mono (code_set_led1 x (E := E) (Q₁ := fun r s1 => r = .ref s.heap.objs.size ∧ s1 = { s with heap := s.heap.push (bareSet w) }) ⟨rfl, rfl⟩) fun r s1 hr => ?_
  rcases r with e | r
  · exact hr
  cases r <;> first | exact hr.elim | skip
  obtain ⟨rfl, rfl⟩ := hr
  have tS : Shared.TypeIs { s with heap := s.heap.push (bareSet w) } (.ref s.heap.objs.size) "set" := ⟨_, Heap.get?_push_size _ rfl, rfl⟩
  have i6 := F.called_set.init.lookup
  have i7 := F.called_set.init.bind (.ref s.heap.objs.size)
  repeat (any_goals (first | assumption | wp_step))
  refine codeAny_mono (codeAny_call_builtin (R := wants (fun r s2 => r = .none ∧ ∃ h tk, s2 = { s with heap := h, toks := tk } ∧ SetHas P w h s.heap.objs.size (uniqK ks) ∧ ∀ b o, s.heap.get? b = some o → h.get? b = some o) E)
    F.called_set.init.plain F.entry_set_init (check_set_init_1 tS ?_)) fun r s2 hr => ?_
  · have tX := tx _ pushed
    unfold Builtin.«set.__init__» noKeywords Builtin.Frozenset.updateFrom
    generalize hw : pyIter = walk
    wp_walk
    subst hw
    refine it _ _ _ _ (by rw [Heap.size_push]; exact Nat.lt_succ_self _) pushed fun o fp n Pv St W hS hn val st0 => wpAny_bind (wpAny_runValue ?_)
    refine set_loop ((W _ (by simp [hh])).toS) hS hn few val (h0 := s.heap) (fun b hb => no_obj ?_) ks [] _ rfl st0 (fun b o e => Heap.get?_push_of_some _ (pushed b o e)) ((bare_has P w s.heap).keep fun o e => Heap.get?_push_of_some _ e) fun s2 m R2 k2 => ?_
    · rcases List.mem_cons.mp hb with rfl | hb
      · exact Nat.le_refl _
      · rw [List.mem_singleton.mp hb, Heap.size_push]
        exact Nat.le_succ _
    · have m1 := m.gens
      have m2 := m.drawn
      have m3 := m.os
      cases s2
      subst m1 m2 m3
      exact wpAny_pure (wpAny_pure ⟨rfl, _, _, rfl, R2, k2⟩)
  · rcases r with e | r
    · exact hr
    cases r <;> first | exact hr.elim | skip
    obtain ⟨rfl, h2, tk, rfl, R2, k2⟩ := hr
    repeat (any_goals (first | assumption | wp_step))
    exact q _ _ R2 k2
theorem set_list {l : Addr} {items : Array Value} {ks : List Key} {Q : Value → Shared → Prop} (hh : A.handled = none) (hl : s.heap.IsList l items) (hv : Vals (ks.map kV) items.toList) (few : ks.length < scanBound)
    (q : ∀ (h : Heap) (tk : Nat), SetHas P w h s.heap.objs.size (uniqK ks) → (∀ b o, s.heap.get? b = some o → h.get? b = some o) → Q (.ref s.heap.objs.size) { s with heap := h, toks := tk }) :
    wpAny (model P w) A (call (.type "set") [.ref l]) Q E s := by
  have sz : items.size = ks.length := by rw [← Array.length_toList, ← hv.length, List.length_map]
  have lt : l < s.heap.objs.size := let ⟨o, ho, _⟩ := hl; Heap.lt_size ho
  refine set_call (ty := "list") hh few (fun h k => (hl.at fun o e => k l o e).typeIs) F.sub_list_set F.sub_list_frozenset (by decide) ?_ q
  intro A E Q h hs k fin
  have hl2 : h.IsList l items := hl.at fun o e => k l o e
  refine wpAny_pyIter_list hl2 (fin _ [h.objs.size, l] items.size _ _ (fun A' ha => Walks.list ha _ l (Nat.ne_of_lt (Nat.lt_trans lt hs)) items) ?_ sz ?_ ⟨⟨_, Heap.get?_push_size _ rfl, rfl, rfl⟩, hl2.push _⟩)
  · intro z
    rcases List.mem_cons.mp z with z | z
    · exact absurd z (Nat.ne_of_lt hs)
    · exact absurd (List.mem_singleton.mp z) (Nat.ne_of_gt lt)
  · intro i v e
    have hi : i < ks.length := by rw [← sz]; exact (Array.getElem?_eq_some_iff.mp e).1
    obtain ⟨u, hu, ru⟩ := hv.get (i := i) (x := kV ks[i]) (by rw [List.getElem?_map, List.getElem?_eq_getElem hi]; rfl)
    rw [Array.getElem?_toList, e] at hu
    cases hu
    exact ⟨_, List.getElem?_eq_getElem hi, ru⟩
end
end SW

end

section
set_option Elab.async false
set_option linter.all false
set_option maxRecDepth 100000
set_option maxHeartbeats 3200000
/-! sorted(set(x)) -/
namespace SW
open PySem PySem.Spec L2 PyProof.Rows
/-! ### what is drawn from a set, put in order -/
section
variable {P : Program} {w : World} {ks : List Key}
variable {A : Around} {E : Value → Shared → Prop} {s : Shared} {a : Addr}
end
/-! ### the layer -/
section
variable {X : Cx}
end
/-! ### over data: sorted(set(x)) -/
section
variable {X : Cx} {W : WX} {e : Expr} {A : TD} {p p2 pos pos2 : Pos}
end
end SW

end

section
set_option Elab.async false
set_option linter.all false
set_option maxRecDepth 100000
namespace SW
open PySem PySem.Spec PyProof.Rows L2 Builtin Builtin.Str PySem.StrLaws
/-! ### x in a list of anything -/
def inG (x : D) (ys : List D) : Bool := ys.any fun y => deq y x
def dInG (neg : Bool) : DOp := fun x y μ Q => ∃ ys, dr μ y = .lst ys ∧ okD 60 (.lst ys) ∧ okD 60 (dr μ x) ∧ Q (.bl (if neg then !inG (dr μ x) ys else inG (dr μ x) ys)) μ
theorem inG_any (d : D) (ys : List D) : (toPys ys).any (fun z => PyData.eqv z (toPy d)) = inG d ys := by
  rw [toPys_map, List.any_map]
  rfl
theorem toPy_lst (ys : List D) : toPy (.lst ys) = .list (toPys ys) := by unfold toPy; rfl
theorem cd_inG {X : Cx} (hu : X.A.units + 65 < cLine) : CmpD X .In (dInG false) := by
  refine ⟨_, op_inD hu, ?_⟩
  rintro g μ H x y a b Q' Q a0 rx ry ⟨ys, h1, h2, h3, q⟩ k
  have hy := dp_dr a0 ry (by rw [h1]; exact h2)
  rw [h1, toPy_lst] at hy
  refine ⟨_, _, dp_dr a0 rx h3, hy, okD_shaped h3, by have := okD_shaped h2; rwa [toPy_lst] at this, ?_⟩
  rw [inG_any]
  exact k.here a0 rep_bl q
theorem Room.units65 {k : Nat} {B : Around} (z : SW.Room k B) : B.units + 65 < cLine := by have := z.r.un; omega
theorem st_inG {x y : D} {ys : List D} {μ : Mu} {Q : DQ} (h1 : dr μ y = .lst ys) (h2 : okD 60 (.lst ys)) (h3 : okD 60 (dr μ x)) (q : Q (.bl (inG (dr μ x) ys)) μ) : dInG false x y μ Q := ⟨ys, h1, h2, h3, q⟩
/-! ### one sign exchanged, the first one, of written texts -/
/-- the text behind it -/
def repl1 (x y z : Str) : Str := if (occurrences x y 0 x.length 1).isEmpty || (y.length == 0 && z.length == 0) then x else glued z (partsBetween x (occurrences x y 0 x.length 1) y.length)
theorem gives_repl1 (x y z : Str) (t u v w : Tok) (h0 : (u == 0 || v == 0) = false) (huv : (u == v) = false) (hyz : (y == z) = false) (hl : tooLong (x.length + (occurrences x y 0 x.length 1).length * z.length) = false) :
    Gives («str.replace» ⟨[.str x t, .str y u, .str z v, .int 1 w], []⟩) (if ((occurrences x y 0 x.length 1).isEmpty || (y.length == 0 && z.length == 0)) = true then .val (.str x t) else .str (glued z (partsBetween x (occurrences x y 0 x.length 1) y.length))) := by
  unfold «str.replace»
  rw [show strSelf ⟨[.str x t, .str y u, .str z v, .int 1 w], []⟩ = pure _ from rfl, pure_bind]
  dsimp only
  rw [show bindOptional "str.replace" "replace" 2 ["count"] [.str y u, .str z v, .int 1 w] [] = pure _ from rfl, pure_bind]
  show Gives (strArg "str.replace" "replace" "1" (.str y u) >>= _) _
  rw [show strArg "str.replace" "replace" "1" (.str y u) = pure y from rfl, pure_bind, show strArg "str.replace" "replace" "2" (.str z v) = pure z from rfl, pure_bind, countLimit_int "str.replace" 1 w _ (by decide), pure_bind]
  show Gives (ite (((occurrences x y 0 x.length 1).isEmpty || (y.length == 0 && z.length == 0)) = true) _ (isSame (.str y u) (.str z v) >>= _)) _
  rw [isSame_str_other y z u v h0 huv hyz]
  cases ((occurrences x y 0 x.length 1).isEmpty || (y.length == 0 && z.length == 0))
  · show Gives (ite (tooLong (x.length + (occurrences x y 0 x.length 1).length * z.length) = true) _ _) _
    rw [hl]
    exact .of_eq rfl
  · exact .rule (.of_eq rfl)
theorem parts_sum (x y : Str) (n : Nat) : ((partsBetween x (occurrences x y 0 x.length n) y.length).map (·.length)).sum ≤ x.length := by
  have hy : (glued y (partsBetween x (occurrences x y 0 x.length n) y.length)).length = x.length := by rw [StrLaws.glued_between_self]
  rw [size_glued] at hy
  omega
theorem repl1_len (x y z : Str) : (repl1 x y z).length ≤ x.length + z.length := by
  unfold repl1
  split
  · omega
  · have h1 := StrLaws.occ_length_le x y 0 x.length 1
    have h2 := parts_sum x y 1
    rw [size_glued, length_partsBetween, Nat.add_sub_cancel]
    have h3 : (occurrences x y 0 x.length 1).length * z.length ≤ 1 * z.length := Nat.mul_le_mul_right _ h1
    omega
theorem glueL_mem {z : List Nat} {c : Nat} : ∀ {ps : List Str}, c ∈ glueL z ps → c ∈ z ∨ ∃ p ∈ ps, c ∈ p.cps.toList
  | [], h => nomatch h
  | p :: r, h => by
    have h : c ∈ z ++ (p.cps.toList ++ glueL z r) := h
    rcases List.mem_append.mp h with h | h
    · exact .inl h
    · rcases List.mem_append.mp h with h | h
      · exact .inr ⟨p, List.mem_cons_self, h⟩
      · exact (glueL_mem h).imp_right fun ⟨q, hq, e⟩ => ⟨q, List.mem_cons_of_mem _ hq, e⟩
theorem sub_mem {x : Str} {i j c : Nat} (h : c ∈ (strSub x i j).cps.toList) : c ∈ x.cps.toList := by
  have h : c ∈ (x.cps.extract i j).toList := h
  rw [Array.toList_extract] at h
  exact List.mem_of_mem_drop (List.mem_of_mem_take h)
theorem repl1_mem {x y z : Str} {c : Nat} (h : c ∈ (repl1 x y z).cps.toList) : c ∈ x.cps.toList ∨ c ∈ z.cps.toList := by
  unfold repl1 at h
  split at h
  · exact .inl h
  · obtain ⟨p, r, e⟩ : ∃ p r, partsBetween x (occurrences x y 0 x.length 1) y.length = p :: r := by
      cases hq : partsBetween x (occurrences x y 0 x.length 1) y.length with
      | nil =>
        have := congrArg List.length hq
        rw [length_partsBetween] at this
        cases this
      | cons p r => exact ⟨p, r, rfl⟩
    have hm : ∀ q ∈ p :: r, ∀ d ∈ q.cps.toList, d ∈ x.cps.toList := fun q hq d hd => by
      rw [← e] at hq
      unfold partsBetween at hq
      obtain ⟨⟨i, j⟩, _, rfl⟩ := List.mem_map.mp hq
      exact sub_mem hd
    rw [e, glued_list] at h
    have h : c ∈ p.cps.toList ++ glueL z.cps.toList r := h
    rcases List.mem_append.mp h with h | h
    · exact .inl (hm p List.mem_cons_self c h)
    · rcases glueL_mem h with h | ⟨q, hq, h⟩
      · exact .inr h
      · exact .inl (hm q (List.mem_cons_of_mem _ hq) c h)
theorem call_repl1 {prog : Program} {w : World} {A : Around} {E : Value → Shared → Prop} {s : Shared} {x y z : Str} {t u v k : Tok} {Q : Value → Shared → Prop} (hu : u ≠ 0) (hv : v ≠ 0) (huv : u ≠ v) (hyz : (y == z) = false)
    (hb : x.length + z.length ≤ 16777216) (hq : ∀ t' k, Q (.str (repl1 x y z) t') { s with toks := k }) : wpAny (model prog w) A (call (.builtin "str.replace") [.str x t, .str y u, .str z v, .int 1 k]) Q E s := by
  have e : (2 : Nat) ^ 24 = 16777216 := by decide
  have h1 := StrLaws.occ_length_le x y 0 x.length 1
  have h2 : (occurrences x y 0 x.length 1).length * z.length ≤ 1 * z.length := Nat.mul_le_mul_right _ h1
  have hl : tooLong (x.length + (occurrences x y 0 x.length 1).length * z.length) = false := by
    unfold tooLong sizeLine
    exact decide_eq_false (by omega)
  refine call_gives F.slot_str_replace (typeIs_str _ _ _) F.entry_str_replace (F.args_str_replace_4 _ _ _ _) (gives_repl1 x y z t u v k (by simp [hu, hv]) (by simp [huv]) hyz hl) ?_
  have hq' := hq
  have hlen := repl1_len x y z
  unfold repl1 at hq' hlen
  cases hc : ((occurrences x y 0 x.length 1).isEmpty || (y.length == 0 && z.length == 0))
  · rw [hc] at hq' hlen
    simp only [Bool.false_eq_true, if_false] at hq' hlen ⊢
    exact ⟨by rw [sizeLine_eq]; omega, hq' _ _⟩
  · rw [hc] at hq'
    simp only [if_true] at hq' ⊢
    exact hq' t s.toks
def tRepl1 (to : TE) (y z : Str) : TE := fun σ H Q => to σ H fun v H1 => ∃ x, v = .str x ∧ x.length + z.length ≤ 16777216 ∧ Q (.str (repl1 x y z)) H1
section
variable {X : Cx} {o e f : Expr} {es : List Expr} {te tf : TE} {ta : TA} {to : TE} {x y z : Str} {j k i : Nat} {c0 c1 c2 apos pos p : Pos}
theorem pet_repl1 (ho : PE X o to) (hyz : (y == z) = false := by decide)
    (hst : starEach [.Constant (.str y) j c0, .Constant (.str z) k c1, .Constant (.int 1) i c2] X.env = [(false, eval (.Constant (.str y) j c0) X.env), (false, eval (.Constant (.str z) k c1) X.env), (false, eval (.Constant (.int 1) i c2) X.env)] := by rfl)
    (hbase : attributeBase o "replace" X.env (eval o X.env) = eval o X.env := by rfl) (hline : (apos.endLine == pos.line) = true := by rfl) :
    PET X (.Call (.Attribute o "replace" apos) [.Constant (.str y) j c0, .Constant (.str z) k c1, .Constant (.int 1) i c2] [] pos) (tRepl1 to y z) := by
  intro pins s σ H Q h0 I h
  refine PySem.wpAny_Call_method_lateS hbase (by rw [hst]; rfl) hline ?_
  rw [hst, show backTo pos [(false, eval (.Constant (.str y) j c0) X.env), (false, eval (.Constant (.str z) k c1) X.env), (false, eval (.Constant (.int 1) i c2) X.env)] = [(false, eval (.Constant (.str y) j c0) X.env), (false, eval (.Constant (.str z) k c1) X.env), (false, eval (.Constant (.int 1) i c2) X.env)] from rfl]
  refine wpAny_mono (PySem.wpAny_toks (ho.run pins s σ H _ I h)) (fun v s1 ⟨hk, v', H1, I1, r1, x, e1, hb, q⟩ => ?_) fun _ _ z => z.2
  subst e1
  obtain ⟨tx, rfl⟩ := r1
  refine ⟨"str", _, PySem.F.plainAttrs_str, PySem.F.slot_str_replace, PySem.F.type_str_replace, typeIs_str _ _ _, (fun _ e => nomatch e), Calls.callWith_builtin rfl (Calls.evalArgs_plain (Calls.spliced_cons ?_))⟩
  refine Calls.Constant_str ?_
  refine Calls.spliced_cons ?_
  refine Calls.Constant_str ?_
  refine Calls.spliced_cons ?_
  refine wpAny_Constant_int ?_
  refine Calls.spliced_nil ?_
  exact call_repl1 (by show s1.toks ≠ 0; omega) (by show s1.toks + 1 ≠ 0; omega) (by show s1.toks ≠ s1.toks + 1; omega) hyz hb fun t' k => ⟨.str (repl1 x y z), H1, I1.tok k, ⟨t', rfl⟩, q⟩
theorem pet_of (h : PE X e te) : PET X e te := fun pins s σ H Q _ I q => h.run pins s σ H Q I q
theorem pat_of {es : List Expr} (h : PA X es ta) : PAT X es ta := fun pos pins s σ H Q _ I q => h.run pos pins s σ H Q I q
/-- a written text ahead: behind it a token is out -/
theorem pa_first {op : Operator} {r : R2} (ho : OpR X (binaryOp op) r) (hb : PE X f tf) (hr : PAT X es ta) (hs : starEach (.BinOp (.Constant (.str x) j c0) op f p :: es) X.env = (false, eval (.BinOp (.Constant (.str x) j c0) op f p) X.env) :: starEach es X.env := by rfl) :
    PA X (.BinOp (.Constant (.str x) j c0) op f p :: es) (tCons (tOp r (tC (.str x)) tf) ta) := by
  refine ⟨fun pos pins s σ H Q I h => ?_⟩
  rw [hs]
  show wpAny _ _ (spliced ((false, eval (.BinOp (.Constant (.str x) j c0) op f p) X.env) :: backTo pos (starEach es X.env))) _ _ s
  refine Calls.spliced_cons ?_
  have run : wpAny (model X.prog X.w) X.A (eval (.BinOp (.Constant (.str x) j c0) op f p) X.env) (fun v s' => s.toks + 1 ≤ s'.toks ∧ EP X pins σ (fun v H' => ta σ H' fun xs H'' => Q (v :: xs) H'') v s') X.xe s := by
    refine wpAny_BinOp (Calls.Constant_str ?_)
    refine wpAny_mono (PySem.wpAny_toks (hb.run pins { s with toks := s.toks + 1 } σ H _ (I.tok _) h)) (fun u s2 q => ?_) fun _ _ z => z.2
    obtain ⟨hk, y, H2, I2, r2, q2⟩ := q
    refine wpAny_mono (PySem.wpAny_toks (ho pins s2 σ H2 (.str x) y _ u _ I2 ⟨_, rfl⟩ r2 q2)) (fun w s3 q => ⟨Nat.le_trans hk q.1, q.2⟩) fun _ _ z => z.2
  refine wpAny_mono run (fun v s1 q => ?_) fun _ _ z => z
  obtain ⟨hk, y, H1, I1, r1, q1⟩ := q
  exact thn (hr pos pins s1 σ H1 _ (Nat.le_trans (Nat.le_add_left 1 s.toks) hk) I1 q1) fun us s2 ⟨xs, H2, I2, r2, q2⟩ => ⟨y :: xs, H2, I2, .cons r1 r2, q2⟩
end
/-- the replaced text, as far as one needs to know -/
def dRepl1 (A : TD) (y z : List Nat) : TD := fun δ μ Q E => A δ μ (fun d μ1 => ∃ s, d = .str s ∧ s.length + z.length ≤ 1000000 ∧ ∀ r : List Nat, r.length ≤ s.length + z.length → (∀ c ∈ r, c ∈ s ∨ c ∈ z) → Q (.str r) μ1) E
section
variable {X : Cx} {W : WX} {o f e g : Expr} {es : List Expr} {A B C D1 : TD} {TA' : TDA} {x y z : Str} {j k i l : Nat} {c0 c1 c2 c3 apos pos p p2 p3 : Pos}
theorem up_mono {σ : L2.St} {H : Hp} {Q Q' : VK} (h : up X.K W A σ H Q) (i : ∀ v H', Q v H' → Q' v H') : up X.K W A σ H Q' := by
  obtain ⟨g, μ, δ, R, E', at0, sl, h, k, kx⟩ := h
  exact ⟨g, μ, δ, R, E', at0, sl, h, fun g1 H1 μ1 d v a1 e1 r1 q1 => i _ _ (k g1 H1 μ1 d v a1 e1 r1 q1), kx⟩
theorem up_cons : ∀ σ H Q, upA X.K W (dCons A TA') σ H Q → tCons (up X.K W A) (upA X.K W TA') σ H Q := by
  rintro σ H Q ⟨g, μ, δ, Q', E', at0, sl, h, k, kx⟩
  refine ⟨g, μ, δ, _, E', at0, sl, h, fun g1 H1 μ1 x v a1 e1 r1 q1 => ?_, kx⟩
  exact ⟨g1, μ1, δ, _, E', a1, sl.ext e1, q1, fun g2 H2 μ2 ds vs a2 e2 r2 q2 => k g2 H2 μ2 _ _ a2 (e1.trans e2) (Reps.cons (r1.ext e2) r2) q2, fun g2 H2 μ2 C δ2 a2 e2 s2 q2 => kx g2 H2 μ2 C δ2 a2 (e1.trans e2) s2 q2⟩
theorem up_repl1 : ∀ σ H Q, up X.K W (dRepl1 A y.cps.toList z.cps.toList) σ H Q → tRepl1 (up X.K W A) y z σ H Q := by
  rintro σ H Q ⟨g, μ, δ, Q', E', at0, sl, h, k, kx⟩
  refine ⟨g, μ, δ, _, E', at0, sl, h, fun g1 H1 μ1 d v a1 e1 r1 ⟨s, hs, hl, q⟩ => ?_, kx⟩
  subst hs
  obtain rfl := rep_str r1
  have hz : z.length = z.cps.toList.length := by show z.cps.size = _; simp
  have hm := repl1_len (mkS s) y z
  have hs' : (mkS s).length = s.length := mkS_len s
  have hr : (repl1 (mkS s) y z).cps.toList.length = (repl1 (mkS s) y z).length := by show _ = (repl1 (mkS s) y z).cps.size; simp
  refine ⟨_, rfl, by rw [mkS_len]; omega, k g1 H1 μ1 _ _ a1 e1 ?_ (q (repl1 (mkS s) y z).cps.toList (by omega) fun c hc => ?_)⟩
  · unfold Rep; rw [mkS_of]
  · have := repl1_mem hc
    simpa [mkS] using this
/-- four texts, the third one with a sign exchanged -/
theorem wa_four {f1 : DOp} (ho1 : BinD X .Add f1) (hb : WX0 X W f B) (h2 : WX0 X W e C) (h3 : WX0 X W o A) (h4 : WX0 X W g D1) (hyz : (y == z) = false := by decide)
    (hst : starEach [.Constant (.str y) k c1, .Constant (.str z) i c2, .Constant (.int 1) l c3] X.env = [(false, eval (.Constant (.str y) k c1) X.env), (false, eval (.Constant (.str z) i c2) X.env), (false, eval (.Constant (.int 1) l c3) X.env)] := by rfl)
    (hbase : attributeBase o "replace" X.env (eval o X.env) = eval o X.env := by rfl) (hline : (apos.endLine == pos.line) = true := by rfl)
    (hs1 : starEach [.BinOp (.Constant (.str x) j c0) .Add f p, e, .Call (.Attribute o "replace" apos) [.Constant (.str y) k c1, .Constant (.str z) i c2, .Constant (.int 1) l c3] [] pos, g] X.env = (false, eval (.BinOp (.Constant (.str x) j c0) .Add f p) X.env) :: starEach [e, .Call (.Attribute o "replace" apos) [.Constant (.str y) k c1, .Constant (.str z) i c2, .Constant (.int 1) l c3] [] pos, g] X.env := by rfl)
    (hs2 : starEach [e, .Call (.Attribute o "replace" apos) [.Constant (.str y) k c1, .Constant (.str z) i c2, .Constant (.int 1) l c3] [] pos, g] X.env = (false, eval e X.env) :: starEach [.Call (.Attribute o "replace" apos) [.Constant (.str y) k c1, .Constant (.str z) i c2, .Constant (.int 1) l c3] [] pos, g] X.env := by rfl)
    (hs3 : starEach [.Call (.Attribute o "replace" apos) [.Constant (.str y) k c1, .Constant (.str z) i c2, .Constant (.int 1) l c3] [] pos, g] X.env = (false, eval (.Call (.Attribute o "replace" apos) [.Constant (.str y) k c1, .Constant (.str z) i c2, .Constant (.int 1) l c3] [] pos) X.env) :: starEach [g] X.env := by rfl)
    (hs4 : starEach [g] X.env = (false, eval g X.env) :: starEach [] X.env := by rfl) :
    WA X W [.BinOp (.Constant (.str x) j c0) .Add f p, e, .Call (.Attribute o "replace" apos) [.Constant (.str y) k c1, .Constant (.str z) i c2, .Constant (.int 1) l c3] [] pos, g]
      (dCons (dOp f1 (dC (.str x.cps.toList)) B) (dCons C (dCons (dRepl1 A y.cps.toList z.cps.toList) (dCons D1 dNil)))) := by
  obtain ⟨r, r1, r2⟩ := ho1.ex
  refine PA.imp (pa_first r1 hb (pat_cons (pet_of h2) (pat_cons (pet_repl1 h3 hyz hst hbase hline) (pat_of (wa_cons h4 wa_nil hs4)) hs3) hs2) hs1) ?_
  intro σ H Q q
  have b1 := up_cons σ H Q q
  have b2 := up_mono b1 fun v H1 q1 => (up_mono (up_cons σ H1 _ q1) fun v2 H2 q2 => (up_repl1 (y := y) (z := z) σ H2 _ (up_cons σ H2 _ q2)))
  have b3 := up_op r2 σ H _ b2
  exact up_c (W := W) (K := X.K) (v := .str x) (fun _ _ => by unfold Rep; rw [mkS_of]) σ H _ b3
end
theorem st_repl1 {A : TD} {y z : List Nat} {δ : DS} {μ : Mu} {Q : DQ} {E : DE} (h : A δ μ (fun d μ1 => ∃ s, d = .str s ∧ s.length + z.length ≤ 1000000 ∧ ∀ r : List Nat, r.length ≤ s.length + z.length → (∀ c ∈ r, c ∈ s ∨ c ∈ z) → Q (.str r) μ1) E) : dRepl1 A y z δ μ Q E := h
end SW

end

section
set_option Elab.async false
set_option linter.all false
set_option maxRecDepth 100000
namespace SW
open PySem L2

/-! ### standings: the mathematics -/
def fs : List Nat → List Nat → Nat → Option (List Nat)
  | _, [], _ => some []
  | [], _ :: _, _ => none
  | r :: rs, c :: cs, p => if r = c then (fs rs cs (p + 1)).map (p :: ·) else fs rs (c :: cs) (p + 1)
/-! ### how many standings -/
def stepW (sign : Nat) : List Nat → List Int → Int → List Int
  | c :: r, w :: ws, acc => (acc + w * (if c = sign then 1 else 0)) :: stepW sign r ws (acc + w * (if c = sign then 1 else 0))
  | _, _, _ => []
def nextW (row : List Nat) (sign : Nat) (ways : List Int) : List Int := 0 :: stepW sign row ways 0
def hmsW (row other : List Nat) : List Int := other.foldl (fun w s => nextW row s w) (List.replicate (row.length + 1) 1)
def hms (row other : List Nat) : Int := (hmsW row other).getLastD 0
/-- in how many ways the second stands in the first, both read from their ends -/
def em : List Nat → List Nat → Int
  | _, [] => 1
  | [], _ :: _ => 0
  | r :: rs, c :: cs => em rs (c :: cs) + (if r = c then em rs cs else 0)
/-- the same at two places -/
def emN (a b : List Nat) (i j : Nat) : Int := em (a.take i).reverse (b.take j).reverse
/-! ### a sign put in at a place -/
structure PutIn (a : List Nat) (k : Int) (x : Nat) (m : List Nat) : Prop where
  l1 : (cutL a none (some k)).length ≤ a.length
  l2 : (cutL a none (some k) ++ [x]).length ≤ a.length + 1
  l3 : (cutL a (some k) none).length ≤ a.length
  len : m.length = a.length + 1
  row : isRow a = true → isRow m = true
  sub : a.Sublist m
  hms : ∀ b, hms a b ≤ hms m b
end SW

end

section
set_option Elab.async false
set_option linter.all false
set_option maxRecDepth 100000
namespace SW
open PySem L2
/-! ### a table in cells -/
/-! ### shortest weaves of two: how many signs -/
def scs : List Nat → List Nat → Nat
  | [], b => b.length
  | a, [] => a.length
  | x :: a, y :: b => if x = y then 1 + scs a b else 1 + min (scs a (y :: b)) (scs (x :: a) b)
termination_by a b => a.length + b.length
end SW

end

section
set_option Elab.async false
set_option linter.all false
set_option maxRecDepth 100000
namespace SW
open PySem L2
/-! ### the first shortest weave of two -/
def wv : List Nat → List Nat → List Nat
  | [], b => b
  | a, [] => a
  | x :: a, y :: b => if x = y then x :: wv a b else
    if x < y then (if scs a (y :: b) ≤ scs (x :: a) b then x :: wv a (y :: b) else y :: wv (x :: a) b)
    else (if scs (x :: a) b ≤ scs a (y :: b) then y :: wv (x :: a) b else x :: wv a (y :: b))
termination_by a b => a.length + b.length
/-- behind a sign -/
def av (a : List Nat) (s : Nat) : List Nat := if a.take 1 = [s] then a.drop 1 else a
def adv (a : List Nat) (i s : Nat) : Nat := i + (if (a.drop i).take 1 = [s] then 1 else 0)
theorem drop_adv (a : List Nat) (i s : Nat) : a.drop (adv a i s) = av (a.drop i) s := by
  unfold adv av
  split
  · rw [List.drop_drop]
  · rfl
theorem adv_le {a : List Nat} {i s : Nat} (h : i ≤ a.length) : adv a i s ≤ a.length := by
  unfold adv
  split
  · rename_i e
    have := congrArg List.length e
    rw [List.length_take, List.length_drop] at this
    simp at this
    omega
  · exact h
theorem av_nil (s : Nat) : av [] s = [] := rfl
theorem av_hit (s : Nat) (a : List Nat) : av (s :: a) s = a := by simp [av]
theorem av_miss {x s : Nat} (h : x ≠ s) (a : List Nat) : av (x :: a) s = x :: a := by simp [av, h]
end SW

end

section
set_option Elab.async false
set_option linter.all false
set_option maxRecDepth 100000
namespace SW
open PySem L2
theorem sub_av {a s : List Nat} {c : Nat} (h : a.Sublist (c :: s)) : (av a c).Sublist s := by
  cases a with
  | nil => rw [av_nil]; exact List.nil_sublist _
  | cons x a =>
    by_cases e : x = c
    · subst e
      rw [av_hit]
      exact List.cons_sublist_cons.mp h
    · rw [av_miss e]
      cases h with
      | cons _ h => exact h
      | cons_cons _ h => exact absurd rfl e
/-! ### the law's way to see whether a row holds another -/
/-! ### all rows of so many signs -/
end SW

end

section
set_option Elab.async false
set_option linter.all false
set_option maxRecDepth 100000
namespace SW
open PySem L2

/-! ### how far one comes with a row -/
/-- a row that holds the rows -/
def HoldsAll (w : List Nat) (rows : List (List Nat)) : Prop := ∀ r ∈ rows, r.Sublist w
/-- without a sign -/
def without (w : List Nat) (p : Nat) : List Nat := w.take p ++ w.drop (p + 1)
instance (w : List Nat) (rows : List (List Nat)) : Decidable (HoldsAll w rows) := by unfold HoldsAll; exact inferInstance
/-! ### the first place of a sign -/
end SW

end

section
set_option Elab.async false
set_option linter.all false
set_option maxRecDepth 100000
namespace SW
open PySem L2

/-! ### the shortest rows that hold all of some -/
def stepR (T : List (List Nat)) (c : Nat) : List (List Nat) := T.map fun r => av r c
def heads (T : List (List Nat)) : List Nat := T.flatMap (·.take 1)
def remR (T : List (List Nat)) : Nat := (T.map List.length).sum
theorem heads_cons (r : List Nat) (T : List (List Nat)) : heads (r :: T) = r.take 1 ++ heads T := by simp [heads]
theorem mem_heads {c : Nat} : ∀ {T : List (List Nat)}, c ∈ heads T ↔ ∃ t, (c :: t) ∈ T
  | [] => by simp [heads]
  | r :: T => by
    rw [heads_cons, List.mem_append, mem_heads]
    cases r with
    | nil => simp
    | cons x r =>
      have e : c ∈ (x :: r).take 1 ↔ c = x := by simp
      rw [e]
      simp only [List.mem_cons]
      constructor
      · rintro (rfl | ⟨t, h⟩)
        · exact ⟨r, .inl rfl⟩
        · exact ⟨t, .inr h⟩
      · rintro ⟨t, h | h⟩
        · injection h with h1 h2
          exact .inl h1
        · exact .inr ⟨t, h⟩
theorem av_le (a : List Nat) (c : Nat) : (av a c).length ≤ a.length := by
  unfold av
  split
  · rw [List.length_drop]; omega
  · exact Nat.le_refl _
theorem rem_le (c : Nat) : ∀ T : List (List Nat), remR (stepR T c) ≤ remR T
  | [] => Nat.le_refl _
  | r :: T => by
    have ih := rem_le c T
    have h := av_le r c
    show (av r c).length + remR (stepR T c) ≤ r.length + remR T
    omega
theorem rem_step {c : Nat} : ∀ {T : List (List Nat)}, c ∈ heads T → remR (stepR T c) < remR T
  | [], h => by simp [heads] at h
  | r :: T, h => by
    show (av r c).length + remR (stepR T c) < r.length + remR T
    have h1 := rem_le c T
    have h2 := av_le r c
    rw [heads_cons, List.mem_append] at h
    rcases h with h | h
    · cases r with
      | nil => simp at h
      | cons x r =>
        simp at h
        subst h
        rw [av_hit, List.length_cons]
        omega
    · have := rem_step h
      omega
theorem step_same {c : Nat} : ∀ {T : List (List Nat)}, c ∉ heads T → stepR T c = T
  | [], _ => rfl
  | r :: T, h => by
    rw [heads_cons, List.mem_append, not_or] at h
    show av r c :: stepR T c = r :: T
    rw [step_same h.2]
    cases r with
    | nil => rfl
    | cons x r =>
      have : x ≠ c := fun e => h.1 (by simp [e])
      rw [av_miss this]
theorem holds_cons {c : Nat} {w : List Nat} {T : List (List Nat)} : HoldsAll (c :: w) T ↔ HoldsAll w (stepR T c) := by
  constructor
  · intro h r hr
    obtain ⟨t, ht, rfl⟩ := List.mem_map.mp hr
    exact sub_av (h t ht)
  · intro h r hr
    have := h _ (List.mem_map.mpr ⟨r, hr, rfl⟩)
    cases r with
    | nil => exact List.nil_sublist _
    | cons x r =>
      by_cases e : x = c
      · subst e
        rw [av_hit] at this
        exact this.cons_cons x
      · rw [av_miss e] at this
        exact this.cons c
theorem holds_nil {T : List (List Nat)} : HoldsAll [] T ↔ heads T = [] := by
  constructor
  · intro h
    rw [List.eq_nil_iff_forall_not_mem]
    intro c hc
    obtain ⟨t, ht⟩ := mem_heads.mp hc
    have := h _ ht
    cases this
  · intro h r hr
    cases r with
    | nil => exact List.nil_sublist _
    | cons x r =>
      have : x ∈ heads T := mem_heads.mpr ⟨r, hr⟩
      rw [h] at this
      cases this
def lwF : Nat → List (List Nat) → Nat
  | 0, _ => 0
  | n + 1, T => match heads T with
    | [] => 0
    | c :: cs => 1 + cs.foldl (fun m d => min m (lwF n (stepR T d))) (lwF n (stepR T c))
theorem fold_min {α : Type} (f : α → Nat) : ∀ (cs : List α) (m : Nat), (cs.foldl (fun m d => min m (f d)) m = m ∨ ∃ d ∈ cs, cs.foldl (fun m d => min m (f d)) m = f d) ∧ cs.foldl (fun m d => min m (f d)) m ≤ m ∧ ∀ d ∈ cs, cs.foldl (fun m d => min m (f d)) m ≤ f d
  | [], m => ⟨.inl rfl, Nat.le_refl _, fun _ h => nomatch h⟩
  | c :: cs, m => by
    obtain ⟨h1, h2, h3⟩ := fold_min f cs (min m (f c))
    rw [List.foldl_cons]
    refine ⟨?_, by omega, fun d hd => ?_⟩
    · rcases h1 with h1 | ⟨d, hd, h1⟩
      · by_cases h : m ≤ f c
        · exact .inl (by omega)
        · exact .inr ⟨c, by simp, by omega⟩
      · exact .inr ⟨d, by simp [hd], h1⟩
    · rcases List.mem_cons.mp hd with rfl | hd
      · omega
      · exact h3 d hd
theorem lwF_ok : ∀ (n : Nat) (T : List (List Nat)), remR T ≤ n → (∀ w, HoldsAll w T → lwF n T ≤ w.length) ∧ ∃ w, HoldsAll w T ∧ w.length = lwF n T := by
  intro n
  induction n with
  | zero =>
    intro T hT
    refine ⟨fun _ _ => Nat.zero_le _, [], holds_nil.mpr ?_, rfl⟩
    rw [List.eq_nil_iff_forall_not_mem]
    intro c hc
    have := rem_step hc
    omega
  | succ n ih =>
    intro T hT
    cases e : heads T with
    | nil =>
      have h0 : lwF (n + 1) T = 0 := by unfold lwF; rw [e]
      rw [h0]
      exact ⟨fun _ _ => Nat.zero_le _, [], holds_nil.mpr e, rfl⟩
    | cons c cs =>
      have h0 : lwF (n + 1) T = 1 + cs.foldl (fun m d => min m (lwF n (stepR T d))) (lwF n (stepR T c)) := by rw [lwF, e]
      obtain ⟨f1, f2, f3⟩ := fold_min (fun d => lwF n (stepR T d)) cs (lwF n (stepR T c))
      have ihs : ∀ d ∈ heads T, _ := fun d hd => ih (stepR T d) (by have := rem_step hd; omega)
      constructor
      · intro w
        induction w with
        | nil =>
          intro h
          rw [holds_nil.mp h] at e
          cases e
        | cons d w iw =>
          intro h
          by_cases hd : d ∈ heads T
          · have h1 := (ihs d hd).1 w (holds_cons.mp h)
            have h2 : cs.foldl (fun m d => min m (lwF n (stepR T d))) (lwF n (stepR T c)) ≤ lwF n (stepR T d) := by
              rw [e] at hd
              rcases List.mem_cons.mp hd with rfl | hd
              · exact f2
              · exact f3 d hd
            rw [h0, List.length_cons]
            omega
          · have := iw (by rw [← step_same hd]; exact holds_cons.mp h)
            rw [List.length_cons]
            omega
      · have : ∃ d ∈ heads T, cs.foldl (fun m d => min m (lwF n (stepR T d))) (lwF n (stepR T c)) = lwF n (stepR T d) := by
          rcases f1 with f1 | ⟨d, hd, f1⟩
          · exact ⟨c, by rw [e]; simp, f1⟩
          · exact ⟨d, by rw [e]; simp [hd], f1⟩
        obtain ⟨d, hd, e2⟩ := this
        obtain ⟨w, hw, hl⟩ := (ihs d hd).2
        exact ⟨d :: w, holds_cons.mpr hw, by rw [h0, e2, List.length_cons, hl]; omega⟩
def lw (T : List (List Nat)) : Nat := lwF (remR T) T
theorem lw_min {T : List (List Nat)} {w : List Nat} (h : HoldsAll w T) : lw T ≤ w.length := (lwF_ok _ T (Nat.le_refl _)).1 w h
theorem lw_ex (T : List (List Nat)) : ∃ w, HoldsAll w T ∧ w.length = lw T := (lwF_ok _ T (Nat.le_refl _)).2
theorem lw_nil {T : List (List Nat)} : lw T = 0 ↔ heads T = [] := by
  constructor
  · intro h
    obtain ⟨w, hw, e⟩ := lw_ex T
    rw [h] at e
    rw [List.eq_nil_of_length_eq_zero e] at hw
    exact holds_nil.mp hw
  · intro h
    have := lw_min (holds_nil.mpr h)
    simpa using this
theorem lw_step (T : List (List Nat)) (c : Nat) : lw T ≤ 1 + lw (stepR T c) := by
  obtain ⟨w, hw, e⟩ := lw_ex (stepR T c)
  have := lw_min (holds_cons.mpr hw)
  rw [List.length_cons] at this
  omega
theorem holds_head {T : List (List Nat)} {c : Nat} {w : List Nat} (h : HoldsAll (c :: w) T) (hl : (c :: w).length = lw T) : c ∈ heads T ∧ lw T = 1 + lw (stepR T c) ∧ HoldsAll w (stepR T c) ∧ w.length = lw (stepR T c) := by
  have h2 := holds_cons.mp h
  have h3 := lw_min h2
  have h4 := lw_step T c
  rw [List.length_cons] at hl
  refine ⟨?_, by omega, h2, by omega⟩
  by_cases hc : c ∈ heads T
  · exact hc
  · rw [step_same hc] at h3
    omega
theorem lw_best {T : List (List Nat)} (h : heads T ≠ []) : ∃ c ∈ heads T, lw T = 1 + lw (stepR T c) := by
  obtain ⟨w, hw, e⟩ := lw_ex T
  cases w with
  | nil => exact absurd (holds_nil.mp hw) h
  | cons c w =>
    obtain ⟨h1, h2, _⟩ := holds_head hw e
    exact ⟨c, h1, h2⟩
/-! ### the first of them -/
def IsFw (T : List (List Nat)) (w : List Nat) : Prop := HoldsAll w T ∧ w.length = lw T ∧ ∀ v, HoldsAll v T → v.length = lw T → w ≤ v
theorem least_mem {p : Nat → Prop} : ∀ (n : Nat) (l : List Nat), l.length ≤ n → (∃ c ∈ l, p c) → ∃ c ∈ l, p c ∧ ∀ d ∈ l, p d → c ≤ d := by
  intro n
  induction n with
  | zero =>
    intro l hl ⟨c, hc, _⟩
    rw [List.eq_nil_of_length_eq_zero (by omega : l.length = 0)] at hc
    cases hc
  | succ n ih =>
    intro l hl ⟨c, hc, pc⟩
    cases l with
    | nil => cases hc
    | cons x l =>
      by_cases hx : p x
      · by_cases hr : ∃ c ∈ l, p c
        · obtain ⟨d, hd, pd, hle⟩ := ih l (by simpa using hl) hr
          by_cases e : x ≤ d
          · refine ⟨x, by simp, hx, fun y hy py => ?_⟩
            rcases List.mem_cons.mp hy with rfl | hy
            · exact Nat.le_refl _
            · exact Nat.le_trans e (hle y hy py)
          · refine ⟨d, by simp [hd], pd, fun y hy py => ?_⟩
            rcases List.mem_cons.mp hy with rfl | hy
            · omega
            · exact hle y hy py
        · refine ⟨x, by simp, hx, fun y hy py => ?_⟩
          rcases List.mem_cons.mp hy with rfl | hy
          · exact Nat.le_refl _
          · exact absurd ⟨y, hy, py⟩ hr
      · have hr : ∃ c ∈ l, p c := by
          rcases List.mem_cons.mp hc with rfl | hc
          · exact absurd pc hx
          · exact ⟨c, hc, pc⟩
        obtain ⟨d, hd, pd, hle⟩ := ih l (by simpa using hl) hr
        refine ⟨d, by simp [hd], pd, fun y hy py => ?_⟩
        rcases List.mem_cons.mp hy with rfl | hy
        · exact absurd py hx
        · exact hle y hy py
theorem cons_le_of {c d : Nat} {a b : List Nat} (h : c < d ∨ (c = d ∧ a ≤ b)) : c :: a ≤ d :: b := by
  rcases h with h | ⟨rfl, h⟩
  · exact List.le_of_lt (List.Lex.rel h)
  · intro z
    rcases List.cons_lt_cons_iff.mp z with z | ⟨_, z⟩
    · omega
    · exact h z
theorem isFw_cons {T : List (List Nat)} {c : Nat} {w : List Nat} (hc : lw T = 1 + lw (stepR T c)) (hm : ∀ d ∈ heads T, lw T = 1 + lw (stepR T d) → c ≤ d) (h : IsFw (stepR T c) w) : IsFw T (c :: w) := by
  refine ⟨holds_cons.mpr h.1, by rw [List.length_cons, h.2.1]; omega, fun v hv hl => ?_⟩
  cases v with
  | nil =>
    rw [List.length_nil] at hl
    omega
  | cons d v =>
    obtain ⟨h1, h2, h3, h4⟩ := holds_head hv hl
    have := hm d h1 h2
    refine cons_le_of ?_
    by_cases e : c = d
    · subst e
      exact .inr ⟨rfl, h.2.2 v h3 h4⟩
    · exact .inl (by omega)
theorem isFw_nil {T : List (List Nat)} (h : heads T = []) : IsFw T [] := ⟨holds_nil.mpr h, (lw_nil.mpr h).symm, fun v _ _ => List.nil_le v⟩
theorem fw_ex : ∀ (n : Nat) (T : List (List Nat)), lw T ≤ n → ∃ w, IsFw T w := by
  intro n
  induction n with
  | zero => exact fun T h => ⟨[], isFw_nil (lw_nil.mp (by omega))⟩
  | succ n ih =>
    intro T h
    by_cases e : heads T = []
    · exact ⟨[], isFw_nil e⟩
    · obtain ⟨c, hc, e2, hm⟩ := least_mem (p := fun c => lw T = 1 + lw (stepR T c)) _ (heads T) (Nat.le_refl _) (lw_best e)
      obtain ⟨w, hw⟩ := ih (stepR T c) (by omega)
      exact ⟨c :: w, isFw_cons e2 hm hw⟩
noncomputable def fw (T : List (List Nat)) : List Nat := Classical.choose (fw_ex _ T (Nat.le_refl _))
theorem fw_is (T : List (List Nat)) : IsFw T (fw T) := Classical.choose_spec (fw_ex _ T (Nat.le_refl _))
theorem fw_len (T : List (List Nat)) : (fw T).length = lw T := (fw_is T).2.1
theorem fw_holds (T : List (List Nat)) : HoldsAll (fw T) T := (fw_is T).1
theorem fw_first {T : List (List Nat)} {v : List Nat} (h : HoldsAll v T) (hl : v.length = lw T) : fw T ≤ v := (fw_is T).2.2 v h hl
/-! ### what tells them -/
end SW

end

section
set_option Elab.async false
set_option linter.all false
set_option maxRecDepth 100000
namespace SW
open PySem L2

/-! ### spots -/
/-- a row's places, from its end -/
def downTo (n : Nat) : List Nat := (List.range (n + 1)).reverse
theorem mem_downTo {n d : Nat} : d ∈ downTo n ↔ d ≤ n := by unfold downTo; rw [List.mem_reverse, List.mem_range]; omega
theorem downTo_len (n : Nat) : (downTo n).length = n + 1 := by simp [downTo]
def addRow (L : List (List Nat)) (r : List Nat) : List (List Nat) := L.flatMap fun s => (downTo r.length).map fun d => s ++ [d]
def allS (rows : List (List Nat)) : List (List Nat) := rows.foldl addRow [[]]
theorem allS_snoc (rows : List (List Nat)) (r : List Nat) : allS (rows ++ [r]) = addRow (allS rows) r := by unfold allS; rw [List.foldl_append]; rfl
def sizeR (rows : List (List Nat)) : Nat := rows.foldl (fun n r => n * (r.length + 1)) 1
theorem sizeR_snoc (rows : List (List Nat)) (r : List Nat) : sizeR (rows ++ [r]) = sizeR rows * (r.length + 1) := by unfold sizeR; rw [List.foldl_append]; rfl
theorem addRow_len (r : List Nat) : ∀ L : List (List Nat), (addRow L r).length = L.length * (r.length + 1)
  | [] => by simp [addRow]
  | s :: L => by
    have ih := addRow_len r L
    unfold addRow at ih ⊢
    rw [List.flatMap_cons, List.length_append, ih, List.length_map, downTo_len, List.length_cons, Nat.add_mul]
    omega
theorem snoc_ind {α : Type} {p : List α → Prop} (h0 : p []) (h1 : ∀ l a, p l → p (l ++ [a])) (l : List α) : p l := by
  have : ∀ l : List α, p l.reverse := by
    intro l
    induction l with
    | nil => exact h0
    | cons a l ih => rw [List.reverse_cons]; exact h1 _ _ ih
  have h := this l.reverse
  rw [List.reverse_reverse] at h
  exact h
theorem allS_len (rows : List (List Nat)) : (allS rows).length = sizeR rows := by
  induction rows using snoc_ind with
  | h0 => rfl
  | h1 l a ih => rw [allS_snoc, addRow_len, sizeR_snoc, ih]
def spotOk (rows : List (List Nat)) (s : List Nat) : Prop := s.length = rows.length ∧ ∀ (i : Nat) (r : List Nat) (d : Nat), rows[i]? = some r → s[i]? = some d → d ≤ r.length
theorem spotOk_snoc {rows : List (List Nat)} {r : List Nat} {s : List Nat} : spotOk (rows ++ [r]) s ↔ ∃ p d, s = p ++ [d] ∧ spotOk rows p ∧ d ≤ r.length := by
  constructor
  · rintro ⟨h1, h2⟩
    rw [List.length_append, List.length_singleton] at h1
    have hne : s ≠ [] := fun e => by rw [e] at h1; simp at h1
    refine ⟨s.dropLast, s.getLast hne, (List.dropLast_concat_getLast hne).symm, ⟨by rw [List.length_dropLast]; omega, fun i r' d e1 e2 => ?_⟩, ?_⟩
    · have hi := (List.getElem?_eq_some_iff.mp e1).1
      refine h2 i r' d (by rw [List.getElem?_append_left hi]; exact e1) ?_
      rw [← List.dropLast_concat_getLast hne, List.getElem?_append_left (List.getElem?_eq_some_iff.mp e2).1]
      exact e2
    · refine h2 rows.length r _ (by rw [List.getElem?_append_right (Nat.le_refl _), Nat.sub_self]; rfl) ?_
      have := List.getLast?_eq_some_getLast hne
      rw [List.getLast?_eq_getElem?] at this
      rw [← this]
      congr 1
      omega
  · rintro ⟨p, d, rfl, ⟨h1, h2⟩, h3⟩
    refine ⟨by simp [h1], fun i r' d' e1 e2 => ?_⟩
    by_cases hi : i < rows.length
    · rw [List.getElem?_append_left hi] at e1
      rw [List.getElem?_append_left (by omega)] at e2
      exact h2 i r' d' e1 e2
    · have hi2 := (List.getElem?_eq_some_iff.mp e1).1
      rw [List.length_append, List.length_singleton] at hi2
      have : i = rows.length := by omega
      subst this
      rw [List.getElem?_append_right (Nat.le_refl _), Nat.sub_self] at e1
      rw [← h1, List.getElem?_append_right (Nat.le_refl _), Nat.sub_self] at e2
      simp at e1 e2
      subst e1 e2
      exact h3
theorem mem_allS {rows : List (List Nat)} : ∀ {s : List Nat}, s ∈ allS rows ↔ spotOk rows s := by
  induction rows using snoc_ind with
  | h0 =>
    intro s
    show s ∈ [[]] ↔ _
    rw [List.mem_singleton]
    constructor
    · rintro rfl
      exact ⟨rfl, fun i r d e => by simp at e⟩
    · intro h
      exact List.eq_nil_of_length_eq_zero h.1
  | h1 l a ih =>
    intro s
    rw [allS_snoc, spotOk_snoc]
    unfold addRow
    rw [List.mem_flatMap]
    constructor
    · rintro ⟨p, hp, hs⟩
      obtain ⟨d, hd, rfl⟩ := List.mem_map.mp hs
      exact ⟨p, d, rfl, ih.mp hp, mem_downTo.mp hd⟩
    · rintro ⟨p, d, rfl, hp, hd⟩
      exact ⟨p, ih.mpr hp, List.mem_map.mpr ⟨d, mem_downTo.mpr hd, rfl⟩⟩
def dropS (rows : List (List Nat)) (s : List Nat) : List (List Nat) := List.zipWith (fun r d => r.drop d) rows s
def spotB (rows : List (List Nat)) (s : List Nat) (c : Nat) : List Nat := List.zipWith (fun r d => adv r d c) rows s
theorem dropS_spotB (rows : List (List Nat)) (s : List Nat) (c : Nat) : dropS rows (spotB rows s c) = stepR (dropS rows s) c := by
  unfold dropS spotB stepR
  induction rows generalizing s with
  | nil => rfl
  | cons r rows ih =>
    cases s with
    | nil => rfl
    | cons d s =>
      rw [List.zipWith_cons_cons, List.zipWith_cons_cons, List.zipWith_cons_cons, List.map_cons, ih, drop_adv]
theorem spotB_get {rows : List (List Nat)} {s : List Nat} {c i y : Nat} (h : (spotB rows s c)[i]? = some y) : ∃ r d, rows[i]? = some r ∧ s[i]? = some d ∧ y = adv r d c := by
  unfold spotB at h
  rw [List.getElem?_zipWith] at h
  cases e1 : rows[i]? with
  | none => simp [e1] at h
  | some r =>
    cases e2 : s[i]? with
    | none => simp [e1, e2] at h
    | some d =>
      simp [e1, e2] at h
      exact ⟨r, d, rfl, rfl, h.symm⟩
theorem spotB_len {rows : List (List Nat)} {s : List Nat} {c : Nat} (h : s.length = rows.length) : (spotB rows s c).length = rows.length := by unfold spotB; rw [List.length_zipWith]; omega
theorem spotB_ok {rows : List (List Nat)} {s : List Nat} (c : Nat) (h : spotOk rows s) : spotOk rows (spotB rows s c) := by
  refine ⟨spotB_len h.1, fun i r d e1 e2 => ?_⟩
  obtain ⟨r', d', f1, f2, rfl⟩ := spotB_get e2
  rw [e1] at f1
  cases f1
  exact adv_le (h.2 i r d' e1 f2)
def zeroS (rows : List (List Nat)) : List Nat := rows.map fun _ => 0
/-! ### spots as keys -/
def spD (s : List Nat) : D := .tup (natsD s)
section
variable {α : Type} [DecidableEq α] {f : α → D} (hf : ∀ a b, keq (f a) (f b) = decide (a = b))
include hf
end
theorem noCs_natsD (l : List Nat) : noCs (natsD l) = true := by unfold natsD; exact noCs_map _ (fun _ => rfl) _
theorem noC_sp (s : List Nat) : noC (spD s) = true := by unfold spD noC; exact noCs_natsD s
theorem noCs_sp (l : List (List Nat)) : noCs (l.map spD) = true := noCs_map _ noC_sp _
/-! ### comprehensions over data told by a list -/
/-! ### the told paper -/
def papD (rows : List (List Nat)) : D := .dct true ((allS rows).map spD) ((allS rows).map fun s => .int (lw (dropS rows s)))
theorem noC_pap (rows : List (List Nat)) : noC (papD rows) = true := by unfold papD noC; exact noCs_map _ (fun _ => rfl) _
theorem st_mul0 {rows : List (List Nat)} {μ : Mu} {Q : DQ} (h : (rows.map D.str).length ≤ 1000) (q : Q (spD (zeroS rows)) μ) : dMulT (.tup [.int 0]) (.int ((rows.map D.str).length : Nat)) μ Q := by
  refine st_mulT h ?_
  have e : D.tup (List.replicate (rows.map D.str).length (.int 0)) = spD (zeroS rows) := by
    unfold spD natsD zeroS
    rw [List.length_map, List.map_map, ← List.map_const']
    rfl
  rw [e]
  exact q
end SW

end

section
set_option Elab.async false
set_option linter.all false
set_option maxRecDepth 100000
namespace SW
open PySem L2

/-! ### layer by layer -/
def ledS (rows : List (List Nat)) (s : List Nat) (w : List Nat) : List Nat := w.foldl (spotB rows) s
def okS (rows : List (List Nat)) : List Nat → List Nat → Prop
  | _, [] => True
  | s, c :: w => c ∈ heads (dropS rows s) ∧ okS rows (spotB rows s c) w
theorem ledS_snoc (rows : List (List Nat)) (s w : List Nat) (c : Nat) : ledS rows s (w ++ [c]) = spotB rows (ledS rows s w) c := by unfold ledS; rw [List.foldl_append]; rfl
theorem okS_snoc {rows : List (List Nat)} {c : Nat} : ∀ {w s : List Nat}, okS rows s (w ++ [c]) ↔ okS rows s w ∧ c ∈ heads (dropS rows (ledS rows s w))
  | [], s => by
    show (c ∈ heads (dropS rows s) ∧ True) ↔ (True ∧ c ∈ heads (dropS rows s))
    exact ⟨fun h => ⟨trivial, h.1⟩, fun h => ⟨h.2, trivial⟩⟩
  | d :: w, s => by
    show (d ∈ heads (dropS rows s) ∧ okS rows (spotB rows s d) (w ++ [c])) ↔ ((d ∈ heads (dropS rows s) ∧ okS rows (spotB rows s d) w) ∧ c ∈ heads (dropS rows (ledS rows (spotB rows s d) w)))
    rw [okS_snoc]
    exact ⟨fun h => ⟨⟨h.1, h.2.1⟩, h.2.2⟩, fun h => ⟨h.1.1, h.1.2, h.2⟩⟩
theorem ledS_ok {rows : List (List Nat)} : ∀ (w : List Nat) {s : List Nat}, spotOk rows s → spotOk rows (ledS rows s w)
  | [], _, h => h
  | c :: w, _, h => ledS_ok w (spotB_ok c h)
theorem holds_led {rows : List (List Nat)} : ∀ (w s : List Nat), HoldsAll w (dropS rows s) ↔ heads (dropS rows (ledS rows s w)) = []
  | [], s => holds_nil
  | c :: w, s => by
    rw [holds_cons, ← dropS_spotB]
    exact holds_led w (spotB rows s c)
theorem okS_short {rows : List (List Nat)} : ∀ (w s : List Nat), HoldsAll w (dropS rows s) → w.length = lw (dropS rows s) → okS rows s w
  | [], _, _, _ => trivial
  | c :: w, s, h, e => by
    obtain ⟨h1, h2, h3, h4⟩ := holds_head h e
    rw [← dropS_spotB] at h3 h4
    exact ⟨h1, okS_short w _ h3 h4⟩
def endS (rows : List (List Nat)) : List Nat := rows.map List.length
theorem heads_nil_all {T : List (List Nat)} (h : heads T = []) : ∀ r ∈ T, r = [] := fun r hr => by
  cases r with
  | nil => rfl
  | cons x r =>
    have : x ∈ heads T := mem_heads.mpr ⟨r, hr⟩
    rw [h] at this
    cases this
theorem endS_of {rows : List (List Nat)} : ∀ {s : List Nat}, spotOk rows s → heads (dropS rows s) = [] → s = endS rows := by
  intro s hs h
  apply List.ext_getElem?
  intro i
  unfold endS
  rw [List.getElem?_map]
  by_cases hi : i < rows.length
  · have hi2 : i < s.length := by rw [hs.1]; exact hi
    have e1 := List.getElem?_eq_getElem hi
    have e2 := List.getElem?_eq_getElem hi2
    have hm : rows[i].drop s[i] ∈ dropS rows s := by
      unfold dropS
      refine List.mem_of_getElem? (i := i) ?_
      rw [List.getElem?_zipWith, e1, e2]
    have h0 := heads_nil_all h _ hm
    have h1 := hs.2 i _ _ e1 e2
    have h2 := congrArg List.length h0
    rw [List.length_drop, List.length_nil] at h2
    rw [e1, e2]
    simp only [Option.map_some]
    congr 1
    omega
  · rw [List.getElem?_eq_none (by rw [hs.1]; omega), List.getElem?_eq_none (by omega)]
    rfl
theorem heads_end {rows : List (List Nat)} : heads (dropS rows (endS rows)) = [] := by
  unfold dropS endS heads
  induction rows with
  | nil => rfl
  | cons r rows ih =>
    rw [List.map_cons, List.zipWith_cons_cons, List.flatMap_cons, ih]
    simp
structure Lay (rows : List (List Nat)) (s0 : List Nat) (l layer : List (List Nat)) (f : List Nat → List Nat) (i : Nat) : Prop where
  ok : ∀ s ∈ l, okS rows s0 (f s) ∧ ledS rows s0 (f s) = s ∧ (f s).length ≤ i
  best : ∀ s ∈ l, ∀ w, okS rows s0 w → ledS rows s0 w = s → (f s).length ≤ w.length ∧ (w.length = (f s).length → f s ≤ w)
  all : ∀ w, okS rows s0 w → w.length ≤ i → ledS rows s0 w ∈ l
  lay : ∀ s, s ∈ layer ↔ s ∈ l ∧ (f s).length = i
  ord : layer.Pairwise (fun a b => f a < f b)
theorem Lay.zero (rows : List (List Nat)) (s0 : List Nat) : Lay rows s0 [s0] [s0] (fun _ => []) 0 where
  ok := fun s h => by
    rw [List.mem_singleton] at h
    subst h
    exact ⟨trivial, rfl, Nat.le_refl _⟩
  best := fun s h w _ _ => ⟨Nat.zero_le _, fun _ => List.nil_le w⟩
  all := fun w _ h => by
    rw [List.eq_nil_of_length_eq_zero (by omega : w.length = 0)]
    exact List.mem_singleton.mpr rfl
  lay := fun s => by simp
  ord := List.pairwise_singleton _ _
structure LayI (rows : List (List Nat)) (l0 found : List (List Nat)) (f : List Nat → List Nat) (Pr : List Nat → Nat → Prop) : Prop where
  inl : ∀ h c, Pr h c → h ∈ l0
  done : ∀ h c, Pr h c → spotB rows h c ∈ l0 ++ found
  new : ∀ s ∈ found, s ∉ l0 ∧ ∃ h c, Pr h c ∧ spotB rows h c = s ∧ f s = f h ++ [c]
  least : ∀ h c, Pr h c → spotB rows h c ∈ found → f (spotB rows h c) ≤ f h ++ [c]
  ord : found.Pairwise (fun a b => f a < f b)
def updF (f : List Nat → List Nat) (s v : List Nat) : List Nat → List Nat := fun x => if x = s then v else f x
theorem updF_same (f : List Nat → List Nat) (s v : List Nat) : updF f s v s = v := by simp [updF]
theorem updF_ne {f : List Nat → List Nat} {s v x : List Nat} (h : x ≠ s) : updF f s v x = f x := by simp [updF, h]
theorem LayI.mono {rows l0 found : List (List Nat)} {f : List Nat → List Nat} {Pr Pr' : List Nat → Nat → Prop} (I : LayI rows l0 found f Pr) (h : ∀ a c, Pr a c ↔ Pr' a c) : LayI rows l0 found f Pr' :=
  ⟨fun a c p => I.inl a c ((h a c).mpr p), fun a c p => I.done a c ((h a c).mpr p), fun s hs => let ⟨h1, a, c, p, e1, e2⟩ := I.new s hs; ⟨h1, a, c, (h a c).mp p, e1, e2⟩, fun a c p => I.least a c ((h a c).mpr p), I.ord⟩
theorem LayI.start {rows l0 : List (List Nat)} {f : List Nat → List Nat} : LayI rows l0 [] f (fun _ _ => False) :=
  ⟨fun _ _ h => False.elim h, fun _ _ h => False.elim h, (fun _ h => nomatch h), fun _ _ h => False.elim h, List.Pairwise.nil⟩
theorem LayI.old {rows l0 found : List (List Nat)} {f : List Nat → List Nat} {Pr : List Nat → Nat → Prop} {h : List Nat} {c : Nat} (I : LayI rows l0 found f Pr) (hh : h ∈ l0) (hlt : ∀ a d, Pr a d → f a ++ [d] < f h ++ [c]) (hm : spotB rows h c ∈ l0 ++ found) :
    LayI rows l0 found f (fun a d => Pr a d ∨ (a = h ∧ d = c)) := by
  refine ⟨fun a d p => by rcases p with p | ⟨rfl, rfl⟩; exact I.inl a d p; exact hh, fun a d p => by rcases p with p | ⟨rfl, rfl⟩; exact I.done a d p; exact hm, fun s hs => ?_, fun a d p hf => ?_, I.ord⟩
  · obtain ⟨h1, a, d, p, e1, e2⟩ := I.new s hs
    exact ⟨h1, a, d, .inl p, e1, e2⟩
  · rcases p with p | ⟨rfl, rfl⟩
    · exact I.least a d p hf
    · obtain ⟨_, a', d', p', e1, e2⟩ := I.new _ hf
      rw [e2]
      exact List.le_of_lt (hlt a' d' p')
theorem LayI.add {rows l0 found : List (List Nat)} {f : List Nat → List Nat} {Pr : List Nat → Nat → Prop} {h : List Nat} {c : Nat} (I : LayI rows l0 found f Pr) (hh : h ∈ l0) (hlt : ∀ a d, Pr a d → f a ++ [d] < f h ++ [c]) (hm : spotB rows h c ∉ l0 ++ found) :
    LayI rows l0 (found ++ [spotB rows h c]) (updF f (spotB rows h c) (f h ++ [c])) (fun a d => Pr a d ∨ (a = h ∧ d = c)) := by
  have n0 : ∀ s ∈ l0, s ≠ spotB rows h c := fun s hs e => hm (List.mem_append_left _ (e ▸ hs))
  have n1 : ∀ s ∈ found, s ≠ spotB rows h c := fun s hs e => hm (List.mem_append_right _ (e ▸ hs))
  refine ⟨fun a d p => by rcases p with p | ⟨rfl, rfl⟩; exact I.inl a d p; exact hh, fun a d p => ?_, fun s hs => ?_, fun a d p hf => ?_, ?_⟩
  · rw [← List.append_assoc]
    rcases p with p | ⟨rfl, rfl⟩
    · exact List.mem_append_left _ (I.done a d p)
    · exact List.mem_append_right _ (List.mem_singleton.mpr rfl)
  · rcases List.mem_append.mp hs with hs | hs
    · obtain ⟨h1, a, d, p, e1, e2⟩ := I.new s hs
      exact ⟨h1, a, d, .inl p, e1, by rw [updF_ne (n1 s hs), updF_ne (n0 a (I.inl a d p))]; exact e2⟩
    · rw [List.mem_singleton] at hs
      subst hs
      exact ⟨fun z => hm (List.mem_append_left _ z), h, c, .inr ⟨rfl, rfl⟩, rfl, by rw [updF_same, updF_ne (n0 h hh)]⟩
  · rcases p with p | ⟨rfl, rfl⟩
    · have hd := I.done a d p
      rw [updF_ne (n0 a (I.inl a d p))]
      have hne : spotB rows a d ≠ spotB rows h c := fun e => hm (e ▸ hd)
      rw [updF_ne hne]
      rcases List.mem_append.mp hf with hf | hf
      · exact I.least a d p hf
      · exact absurd (List.mem_singleton.mp hf) hne
    · rw [updF_same, updF_ne (n0 a hh)]
      exact List.le_refl _
  · rw [List.pairwise_append]
    refine ⟨?_, List.pairwise_singleton _ _, fun a ha b hb => ?_⟩
    · refine List.Pairwise.imp_of_mem (fun {a b} ha hb hab => ?_) I.ord
      rw [updF_ne (n1 a ha), updF_ne (n1 b hb)]
      exact hab
    · rw [List.mem_singleton] at hb
      subst hb
      rw [updF_same, updF_ne (n1 a ha)]
      obtain ⟨_, a', d', p', e1, e2⟩ := I.new a ha
      rw [e2]
      exact hlt a' d' p'
theorem snoc_le {a b : List Nat} {c : Nat} (h : a ≤ b) (hl : a.length = b.length) : a ++ [c] ≤ b ++ [c] := by
  induction a generalizing b with
  | nil =>
    cases b with
    | nil => exact List.le_refl _
    | cons _ _ => simp at hl
  | cons x a ih =>
    cases b with
    | nil => simp at hl
    | cons y b =>
      rw [List.cons_append, List.cons_append]
      by_cases e : x = y
      · subst e
        refine cons_le_of (.inr ⟨rfl, ih (fun z => h (List.cons_lt_cons_iff.mpr (.inr ⟨rfl, z⟩))) (by simpa using hl)⟩)
      · refine cons_le_of (.inl ?_)
        rcases Nat.lt_trichotomy x y with z | z | z
        · exact z
        · exact absurd z e
        · exact absurd (List.cons_lt_cons_iff.mpr (.inl z)) h
theorem Lay.next {rows : List (List Nat)} {s0 : List Nat} {l layer found : List (List Nat)} {f g : List Nat → List Nat} {i : Nat} (L : Lay rows s0 l layer f i) (hg : ∀ s ∈ l, g s = f s)
    (I : LayI rows l found g (fun h c => h ∈ layer ∧ c ∈ heads (dropS rows h))) : Lay rows s0 (l ++ found) found g (i + 1) := by
  have inL : ∀ h, h ∈ layer → h ∈ l ∧ (f h).length = i := fun h hh => (L.lay h).mp hh
  have nw : ∀ s ∈ found, s ∉ l ∧ okS rows s0 (g s) ∧ ledS rows s0 (g s) = s ∧ (g s).length = i + 1 := fun s hs => by
    obtain ⟨h1, h, c, ⟨p1, p2⟩, e1, e2⟩ := I.new s hs
    obtain ⟨q1, q2⟩ := inL h p1
    obtain ⟨o1, o2, _⟩ := L.ok h q1
    rw [hg h q1] at e2
    rw [e2, okS_snoc, ledS_snoc, o2]
    exact ⟨h1, ⟨o1, p2⟩, e1, by simp [q2]⟩
  have cand : ∀ w, okS rows s0 w → w.length = i + 1 → ledS rows s0 w ∈ l ∨ (ledS rows s0 w ∈ found ∧ g (ledS rows s0 w) ≤ w) := fun w hw hl => by
    have hne : w ≠ [] := fun e => by rw [e] at hl; simp at hl
    obtain ⟨u, c, rfl⟩ : ∃ u c, w = u ++ [c] := ⟨w.dropLast, w.getLast hne, (List.dropLast_concat_getLast hne).symm⟩
    rw [List.length_append, List.length_singleton] at hl
    obtain ⟨hu, hc⟩ := okS_snoc.mp hw
    have hin := L.all u hu (by omega)
    obtain ⟨b1, b2⟩ := L.best _ hin u hu rfl
    obtain ⟨o1, o2, o3⟩ := L.ok _ hin
    rw [ledS_snoc]
    by_cases e : (f (ledS rows s0 u)).length = i
    · have hlay := (L.lay _).mpr ⟨hin, e⟩
      rcases List.mem_append.mp (I.done _ c ⟨hlay, hc⟩) with z | z
      · exact .inl z
      · refine .inr ⟨z, List.le_trans (I.least _ c ⟨hlay, hc⟩ z) ?_⟩
        rw [hg _ hin]
        exact snoc_le (b2 (by omega)) (by omega)
    · refine .inl ?_
      have := L.all (f (ledS rows s0 u) ++ [c]) (okS_snoc.mpr ⟨o1, by rw [o2]; exact hc⟩) (by rw [List.length_append, List.length_singleton]; omega)
      rw [ledS_snoc, o2] at this
      exact this
  refine ⟨fun s hs => ?_, fun s hs w hw e => ?_, fun w hw hl => ?_, fun s => ?_, I.ord⟩
  · rcases List.mem_append.mp hs with hs | hs
    · rw [hg s hs]
      obtain ⟨a, b, c⟩ := L.ok s hs
      exact ⟨a, b, by omega⟩
    · obtain ⟨_, a, b, c⟩ := nw s hs
      exact ⟨a, b, by omega⟩
  · rcases List.mem_append.mp hs with hs | hs
    · rw [hg s hs]
      exact L.best s hs w hw e
    · obtain ⟨n1, _, _, n4⟩ := nw s hs
      rw [n4]
      have hge : i + 1 ≤ w.length := by
        rcases Nat.lt_or_ge w.length (i + 1) with z | z
        · have := L.all w hw (by omega)
          rw [e] at this
          exact absurd this n1
        · exact z
      refine ⟨hge, fun hl => ?_⟩
      rcases cand w hw hl with z | ⟨_, z⟩
      · rw [e] at z
        exact absurd z n1
      · rw [e] at z
        exact z
  · by_cases h : w.length ≤ i
    · exact List.mem_append_left _ (L.all w hw h)
    · rcases cand w hw (by omega) with z | ⟨z, _⟩
      · exact List.mem_append_left _ z
      · exact List.mem_append_right _ z
  · constructor
    · intro hs
      exact ⟨List.mem_append_right _ hs, (nw s hs).2.2.2⟩
    · rintro ⟨hs, hl⟩
      rcases List.mem_append.mp hs with hs | hs
      · rw [hg s hs] at hl
        have := (L.ok s hs).2.2
        omega
      · exact hs
theorem Lay.text {rows : List (List Nat)} {s0 : List Nat} {l layer : List (List Nat)} {f : List Nat → List Nat} {i : Nat} (L : Lay rows s0 l layer f i) (hs : spotOk rows s0) (h : endS rows ∈ l) : f (endS rows) = fw (dropS rows s0) := by
  obtain ⟨o1, o2, _⟩ := L.ok _ h
  have hh : HoldsAll (f (endS rows)) (dropS rows s0) := (holds_led _ _).mpr (by rw [o2]; exact heads_end)
  have h1 := fw_holds (dropS rows s0)
  obtain ⟨b1, b2⟩ := L.best _ h _ (okS_short _ _ h1 (fw_len _)) (endS_of (ledS_ok _ hs) ((holds_led _ _).mp h1))
  have hm := lw_min hh
  rw [fw_len] at b1 b2
  have e : (f (endS rows)).length = lw (dropS rows s0) := by omega
  exact List.le_antisymm (b2 e.symm) (fw_first hh e)
theorem Lay.sp {rows : List (List Nat)} {s0 : List Nat} {l layer : List (List Nat)} {f : List Nat → List Nat} {i : Nat} (L : Lay rows s0 l layer f i) (hs : spotOk rows s0) : ∀ s ∈ l, spotOk rows s := fun s h => by
  have := ledS_ok (f s) hs
  rw [(L.ok s h).2.1] at this
  exact this
theorem LayI.sp {rows l found : List (List Nat)} {f : List Nat → List Nat} {Pr : List Nat → Nat → Prop} (I : LayI rows l found f Pr) (hl : ∀ s ∈ l, spotOk rows s) : ∀ s ∈ l ++ found, spotOk rows s := fun s h => by
  rcases List.mem_append.mp h with h | h
  · exact hl s h
  · obtain ⟨_, a, c, p, rfl, _⟩ := I.new s h
    exact spotB_ok c (hl a (I.inl a c p))
theorem LayI.nodup {rows l found : List (List Nat)} {f : List Nat → List Nat} {Pr : List Nat → Nat → Prop} (I : LayI rows l found f Pr) (hl : l.Nodup) : (l ++ found).Nodup := by
  refine List.nodup_append.mpr ⟨hl, I.ord.imp fun h e => ?_, fun a ha b hb e => ?_⟩
  · subst e
    exact absurd h (List.lt_irrefl _)
  · subst e
    exact (I.new a hb).1 ha
theorem nodup_fewL : ∀ {l m : List (List Nat)}, l.Nodup → (∀ c ∈ l, c ∈ m) → l.length ≤ m.length
  | [], m, _, _ => Nat.zero_le _
  | x :: l, m, h, hs => by
    obtain ⟨h1, h2⟩ := List.nodup_cons.mp h
    obtain ⟨a, b, rfl⟩ := List.append_of_mem (hs x (by simp))
    have := nodup_fewL (m := a ++ b) h2 fun c hc => by
      have := hs c (by simp [hc])
      rw [List.mem_append, List.mem_cons] at this
      rcases this with z | rfl | z
      · exact List.mem_append_left _ z
      · exact absurd hc h1
      · exact List.mem_append_right _ z
    simp at this ⊢
    omega
theorem LayI.size {rows l found : List (List Nat)} {f : List Nat → List Nat} {Pr : List Nat → Nat → Prop} (I : LayI rows l found f Pr) (hl : l.Nodup) (hs : ∀ s ∈ l, spotOk rows s) : (l ++ found).length ≤ sizeR rows := by
  have := nodup_fewL (m := allS rows) (I.nodup hl) fun s h => mem_allS.mpr (I.sp hs s h)
  rwa [allS_len] at this
/-- the signs of the spots gone along so far -/
def PrT (rows layer : List (List Nat)) (t : Nat) : List Nat → Nat → Prop := fun h c => (∃ j, j < t ∧ layer[j]? = some h) ∧ c ∈ heads (dropS rows h)
def PrU (rows layer : List (List Nat)) (t : Nat) (here sg : List Nat) (u : Nat) : List Nat → Nat → Prop := fun h c => PrT rows layer t h c ∨ (h = here ∧ ∃ v, v < u ∧ sg[v]? = some c)
end SW

end

section
set_option Elab.async false
set_option linter.all false
set_option maxRecDepth 100000
namespace SW
open PySem L2

/-! ### all shortest rows, in order -/
def sgn (T : List (List Nat)) : List Nat := (List.range 128).filter fun c => decide (c ∈ heads T)
def allF : Nat → List (List Nat) → List (List Nat)
  | 0, _ => [[]]
  | n + 1, T => (sgn T).flatMap fun c => if lw (stepR T c) = n then (allF n (stepR T c)).map (c :: ·) else []
def allW (T : List (List Nat)) : List (List Nat) := allF (lw T) T
def cw (T : List (List Nat)) : Nat := (allW T).length
end SW

end

section
set_option Elab.async false
set_option linter.all false
set_option maxRecDepth 100000
namespace SW
open PySem L2

/-! ### whose signs -/
end SW

end

section
set_option Elab.async false
set_option linter.all false
set_option maxRecDepth 100000
namespace SW
open PySem L2
/-- a row as a word; rows as a text -/
def dash (r : List Nat) : List Nat := if r = [] then [45] else r
def GW (r : List Nat) : Prop := 32 ∉ r ∧ 45 ∉ r ∧ 61 ∉ r
theorem joinL_TL (s : List Nat) : ∀ l : List (List Nat), joinL s l = TL.joinL s l
  | [] => rfl
  | [x] => rfl
  | x :: y :: r => by
    show x ++ s ++ joinL s (y :: r) = x ++ (s ++ TL.joinL s (y :: r))
    rw [joinL_TL s (y :: r), List.append_assoc]
theorem dash_len (r : List Nat) : (dash r).length ≤ r.length + 1 := by unfold dash; split <;> simp
theorem deq_str1 (s t : List Nat) : deq (.str s) (.str t) = decide (s = t) := by
  unfold deq
  simp only [toPy, PyData.eqv, mkS_beq]
theorem st_inStrs {t : List Nat} {l : List (List Nat)} {y : D} {μ : Mu} {Q : DQ} (hy : ∀ s, y ≠ .str s) (h : seqOf μ y = some (l.map .str)) (q : Q (.bl (decide (t ∈ l))) μ) : dIn false (.str t) y μ Q := by
  have e : inD (.str t) (l.map .str) = decide (t ∈ l) := by
    unfold inD
    rw [List.any_map, Bool.eq_iff_iff, List.any_eq_true, decide_eq_true_iff]
    constructor
    · rintro ⟨x, hx, e⟩
      have e : deq (.str x) (.str t) = true := e
      rw [deq_str1, decide_eq_true_iff] at e
      exact e ▸ hx
    · exact fun hx => ⟨t, hx, by show deq (.str t) (.str t) = true; rw [deq_str1]; simp⟩
  have f : (l.map D.str).all flatD = true := by
    rw [List.all_map]
    exact List.all_eq_true.mpr fun _ _ => rfl
  cases y <;> first
    | exact absurd rfl (hy _)
    | exact ⟨_, h, rfl, f, by show Q (.bl (inD _ _)) μ; rw [e]; exact q⟩
theorem st_joinS {sep : List Nat} {l : List (List Nat)} {y : D} {μ : Mu} {Q : DQ} (hy : rdL μ y = some (l.map .str)) (hl : l.flatten.length + l.length * sep.length ≤ 1000000) (q : Q (.str (joinL sep l)) μ) : dJoin (.str sep) [y] μ Q := by
  refine ⟨sep, _, _, l, rfl, rfl, hy, strsOf_strs _, ?_, q⟩
  rw [← List.length_flatten]
  omega
end SW

end

section
set_option Elab.async false
set_option linter.all false
set_option maxRecDepth 100000
namespace SW
open PySem L2
/-! ### whose sign is next, counted as one goes -/
end SW

end

section
set_option Elab.async false
set_option linter.all false
set_option maxRecDepth 100000
namespace SW
open PySem L2
/-! ### rows of pieces, written as words -/
def Pcs (ps : List (List Nat)) : Prop := (∀ p ∈ ps, isRow p = true ∧ p ≠ []) ∧ ps.flatten.length ≤ 40
theorem Pcs.nil : Pcs [] := ⟨(fun _ h => nomatch h), Nat.zero_le _⟩
theorem Pcs.len {ps : List (List Nat)} (h : Pcs ps) : ps.length ≤ 40 := by
  have h2 := h.2
  have : ∀ qs : List (List Nat), (∀ p ∈ qs, p ≠ []) → qs.length ≤ qs.flatten.length := by
    intro qs
    induction qs with
    | nil => intro _; exact Nat.le_refl _
    | cons q qs ih =>
      intro hq
      have h1 := ih fun p hp => hq p (List.mem_cons_of_mem _ hp)
      have h3 := List.length_pos_iff.mpr (hq q (by simp))
      rw [List.flatten_cons, List.length_append, List.length_cons]
      omega
  exact Nat.le_trans (this ps fun p hp => (h.1 p hp).2) h2
theorem Pcs.mem {ps : List (List Nat)} (h : Pcs ps) {p : List Nat} (hp : p ∈ ps) : isRow p = true ∧ p ≠ [] ∧ p.length ≤ 40 := by
  refine ⟨(h.1 p hp).1, (h.1 p hp).2, ?_⟩
  have h2 := h.2
  obtain ⟨a, b, rfl⟩ := List.append_of_mem hp
  rw [List.flatten_append, List.length_append, List.flatten_cons, List.length_append] at h2
  omega
theorem Pcs.chs {ps : List (List Nat)} (h : Pcs ps) : ∀ p ∈ ps, Chs p := fun p hp => Chs.row (h.mem hp).1
abbrev pcD (ps : List (List Nat)) : D := .lst (ps.map .str)
abbrev PcL (L : List (List (List Nat))) : Prop := ∀ ps ∈ L, Pcs ps
theorem noC_pcs (L : List (List (List Nat))) : noCs (L.map pcD) = true := noCs_map _ (fun ps => by show noCs (ps.map .str) = true; exact noCs_strs) _
def pw (ps : List (List Nat)) : List Nat := joinL [43] ps
theorem pw_mem : ∀ {ps : List (List Nat)} {c : Nat}, c ∈ pw ps → c = 43 ∨ ∃ p ∈ ps, c ∈ p
  | [], c, h => by cases h
  | [x], c, h => .inr ⟨x, List.mem_cons_self, h⟩
  | x :: y :: r, c, h => by
    have h : c ∈ x ++ [43] ++ pw (y :: r) := h
    rcases List.mem_append.mp h with h | h
    · rcases List.mem_append.mp h with h | h
      · exact .inr ⟨x, List.mem_cons_self, h⟩
      · exact .inl (List.mem_singleton.mp h)
    · exact (pw_mem h).imp_right fun ⟨p, hp, hc⟩ => ⟨p, List.mem_cons_of_mem _ hp, hc⟩
theorem Pcs.gw {ps : List (List Nat)} (h : Pcs ps) : GW (pw ps) := by
  have no : ∀ c, c ≠ 43 → isL c = false → c ∉ pw ps := fun c h1 h2 h3 => by
    rcases pw_mem h3 with e | ⟨p, hp, hc⟩
    · exact h1 e
    · have := isRow_mem (h.mem hp).1 hc
      rw [h2] at this; cases this
  exact ⟨no _ (by decide) (by decide), no _ (by decide) (by decide), no _ (by decide) (by decide)⟩
theorem Pcs.pw_chs {ps : List (List Nat)} (h : Pcs ps) : Chs (pw ps) := fun c hc => by
  rcases pw_mem hc with e | ⟨p, hp, hc⟩
  · rw [e]; decide
  · exact h.chs p hp c hc
theorem PcL.gw {L : List (List (List Nat))} (h : PcL L) : ∀ r ∈ L.map pw, GW r := fun r hr => by
  obtain ⟨ps, hp, rfl⟩ := List.mem_map.mp hr
  exact (h ps hp).gw
theorem Pcs.spl {ps : List (List Nat)} (h : Pcs ps) (hne : ps ≠ []) : TL.spl [43] 0 [] (pw ps) = ps := by
  unfold pw
  rw [joinL_TL]
  exact TL.spl_join hne fun p hp hc => by
    have := isRow_mem (h.mem hp).1 hc
    cases this
theorem pw_len : ∀ ps : List (List Nat), (pw ps).length ≤ ps.flatten.length + ps.length
  | [] => Nat.zero_le _
  | [x] => by show x.length ≤ _; simp
  | x :: y :: r => by
    have ih := pw_len (y :: r)
    show (x ++ [43] ++ pw (y :: r)).length ≤ _
    rw [List.length_append, List.length_append, List.flatten_cons, List.length_append, List.length_cons, List.length_cons, List.length_nil]
    simp only [List.length_cons] at ih ⊢
    omega
theorem Pcs.pw_len {ps : List (List Nat)} (h : Pcs ps) : (pw ps).length ≤ 80 := by
  have h1 := SW.pw_len ps
  have h2 := h.len
  have h3 := h.2
  omega
theorem PcL.pw_len {L : List (List (List Nat))} (h : PcL L) : ∀ r ∈ L.map pw, r.length ≤ 80 := fun r hr => by
  obtain ⟨ps, hp, rfl⟩ := List.mem_map.mp hr
  exact (h ps hp).pw_len
/-! ### a list of lists that change: the inner ones first, then the list of them -/
def GL (L : List (List (List Nat))) (p : Nat) : List D := (L.getD p []).map .str
end SW

end

section
set_option Elab.async false
set_option linter.all false
set_option maxRecDepth 100000
namespace SW
open PySem L2
/-! ### texts of rows and of lists of pieces, whatever they are -/
theorem spl1 {c : Nat} : ∀ (r acc : List Nat), (TL.spl [c] 0 acc r).length ≤ r.length + 1 ∧ (TL.spl [c] 0 acc r).flatten.length ≤ acc.length + r.length ∧ (∀ w ∈ TL.spl [c] 0 acc r, w.length ≤ acc.length + r.length ∧ ∀ x ∈ w, x ∈ acc ∨ x ∈ r) ∧ TL.spl [c] 0 acc r ≠ []
  | [], acc => by
    rw [TL.spl_nil]
    refine ⟨by simp, by simp, fun w hw => ?_, by simp⟩
    rw [List.mem_singleton.mp hw]
    exact ⟨by simp, fun x hx => .inl hx⟩
  | y :: r, acc => by
    show (if TL.pre [c] (y :: r) = true then acc :: TL.spl [c] 0 [] r else TL.spl [c] 0 (acc ++ [y]) r).length ≤ _ ∧ (if TL.pre [c] (y :: r) = true then acc :: TL.spl [c] 0 [] r else TL.spl [c] 0 (acc ++ [y]) r).flatten.length ≤ _ ∧ (∀ w ∈ (if TL.pre [c] (y :: r) = true then acc :: TL.spl [c] 0 [] r else TL.spl [c] 0 (acc ++ [y]) r), _) ∧ (if TL.pre [c] (y :: r) = true then acc :: TL.spl [c] 0 [] r else TL.spl [c] 0 (acc ++ [y]) r) ≠ []
    split
    · obtain ⟨h1, h2, h3, _⟩ := spl1 (c := c) r []
      refine ⟨by simp; omega, by simp at h2 ⊢; omega, fun w hw => ?_, by simp⟩
      rcases List.mem_cons.mp hw with rfl | hw
      · exact ⟨by simp, fun x hx => .inl hx⟩
      · obtain ⟨a, b⟩ := h3 w hw
        refine ⟨by simp at a ⊢; omega, fun x hx => .inr ?_⟩
        rcases b x hx with z | z
        · cases z
        · exact List.mem_cons_of_mem _ z
    · obtain ⟨h1, h2, h3, h4⟩ := spl1 (c := c) r (acc ++ [y])
      refine ⟨by simp at h1 ⊢; omega, by simp at h2 ⊢; omega, fun w hw => ?_, h4⟩
      obtain ⟨a, b⟩ := h3 w hw
      refine ⟨by simp at a ⊢; omega, fun x hx => ?_⟩
      rcases b x hx with z | z
      · rcases List.mem_append.mp z with z | z
        · exact .inl z
        · rw [List.mem_singleton.mp z]; exact .inr List.mem_cons_self
      · exact .inr (List.mem_cons_of_mem _ z)
theorem not_t {b : Bool} (h : (!b) = true) : b = false := by simpa using h
theorem not_f {b : Bool} (h : (!b) = false) : b = true := by simpa using h
def wdsT (t : List Nat) : List (List Nat) := if t = [61] then [] else TL.spl [32] 0 [] t
def undW (w : List Nat) : List Nat := if w = [45] then [] else w
def okWs (t : List Nat) : Bool := !decide ([] ∈ wdsT t) && decide ((wdsT t).length ≤ 8)
theorem wdsT_len {t : List Nat} {n : Nat} (h : t.length ≤ n) : (wdsT t).length ≤ n + 1 ∧ ∀ w ∈ wdsT t, w.length ≤ n ∧ ∀ x ∈ w, x ∈ t := by
  unfold wdsT
  split
  · exact ⟨by simp, fun w hw => nomatch hw⟩
  · obtain ⟨h1, _, h3, _⟩ := spl1 (c := 32) t []
    refine ⟨by omega, fun w hw => ?_⟩
    obtain ⟨a, b⟩ := h3 w hw
    refine ⟨by simp at a; omega, fun x hx => ?_⟩
    rcases b x hx with z | z
    · cases z
    · exact z
theorem undW_mem {t w : List Nat} {n : Nat} (h : t.length ≤ n) (hw : w ∈ (wdsT t).map undW) : w.length ≤ n ∧ ∀ x ∈ w, x ∈ t := by
  obtain ⟨v, hv, rfl⟩ := List.mem_map.mp hw
  unfold undW
  split
  · exact ⟨Nat.zero_le _, fun x hx => nomatch hx⟩
  · exact (wdsT_len h).2 v hv
/-- the words of a text; none where it has none or too many -/
def wordsT : D → Option (List (List Nat))
  | .str t => if okWs t then some ((wdsT t).map undW) else none
  | _ => none
def okW (w : List Nat) : Bool := isRow w && decide (w.length ≤ 40)
/-- its rows -/
def rowsT (d : D) : Option (List (List Nat)) := match wordsT d with | some ws => if ws.all okW then some ws else none | none => none
def pcsW (w : List Nat) : List (List Nat) := TL.spl [43] 0 [] w
def okP (w : List Nat) : Bool := decide (w = []) || (!decide ([] ∈ pcsW w) && (isRow (pcsW w).flatten && decide ((pcsW w).flatten.length ≤ 40)))
def outP (w : List Nat) : List (List Nat) := if w = [] then [] else pcsW w
/-- its lists of pieces -/
def pcsT (d : D) : Option (List (List (List Nat))) := match wordsT d with | some ws => if ws.all okP then some (ws.map outP) else none | none => none
abbrev strsD (l : List (List Nat)) : D := .lst (l.map .str)
/-- what a text is due -/
def dueTx (way : Int) (d : D) : D := if way = 0 then (match rowsT d with | some r => strsD r | none => .non) else match pcsT d with | some L => .lst (L.map strsD) | none => .non
def toldTx (way : Int) (d : D) : D := match dueTx way d with | .non => .str ("NoText" : Str).cps.toList | x => x
end SW
namespace SW
open PySem L2
theorem wordsT_str {d : D} {ws : List (List Nat)} (h : wordsT d = some ws) : ∃ t, d = .str t ∧ okWs t = true ∧ ws = (wdsT t).map undW := by
  cases d with
  | str t =>
    have h : (if okWs t then some ((wdsT t).map undW) else none) = some ws := h
    by_cases e : okWs t = true
    · rw [if_pos e] at h
      cases h
      exact ⟨t, rfl, e, rfl⟩
    · rw [if_neg e] at h; cases h
  | _ => cases h
theorem wordsT_len {d : D} {ws : List (List Nat)} (h : wordsT d = some ws) : ws.length ≤ 8 := by
  obtain ⟨t, rfl, e, rfl⟩ := wordsT_str h
  unfold okWs at e
  rw [Bool.and_eq_true] at e
  rw [List.length_map]
  exact of_decide_eq_true e.2
theorem wordsT_kind {d : D} {ws : List (List Nat)} (h : wordsT d = some ws) (hk : kindOk d) : ∀ w ∈ ws, Chs w ∧ w.length ≤ 100000 := fun w hw => by
  obtain ⟨t, rfl, e, rfl⟩ := wordsT_str h
  obtain ⟨lt, ct⟩ := hk.2 t rfl
  obtain ⟨a, b⟩ := undW_mem lt hw
  exact ⟨fun c hc => ct c (b c hc), a⟩
theorem rowsT_some {d : D} {ws : List (List Nat)} (h : wordsT d = some ws) (hr : ws.filter (fun w => !okW w) = []) : rowsT d = some ws := by
  unfold rowsT
  rw [h]
  show (if ws.all okW then some ws else none) = _
  rw [if_pos]
  exact List.all_eq_true.mpr fun w hw => by
    have := List.filter_eq_nil_iff.mp hr w hw
    simpa using this
theorem rowsT_none {d : D} {ws : List (List Nat)} (h : wordsT d = some ws) (hr : ¬ ws.filter (fun w => !okW w) = []) : rowsT d = none := by
  unfold rowsT
  rw [h]
  show (if ws.all okW then some ws else none) = _
  rw [if_neg]
  intro ha
  exact hr (List.filter_eq_nil_iff.mpr fun w hw => by simp [List.all_eq_true.mp ha w hw])
theorem rowsT_no {d : D} (h : wordsT d = none) : rowsT d = none := by unfold rowsT; rw [h]
end SW

namespace SW
open PySem L2
theorem pcsT_some {d : D} {ws : List (List Nat)} (h : wordsT d = some ws) (hr : ∀ w ∈ ws, okP w = true) : pcsT d = some (ws.map outP) := by
  unfold pcsT
  rw [h]
  show (if ws.all okP then some (ws.map outP) else none) = _
  rw [if_pos (List.all_eq_true.mpr hr)]
theorem pcsT_none {d : D} {ws : List (List Nat)} {w : List Nat} (h : wordsT d = some ws) (hw : w ∈ ws) (hr : okP w = false) : pcsT d = none := by
  unfold pcsT
  rw [h]
  show (if ws.all okP then some (ws.map outP) else none) = _
  rw [if_neg]
  intro ha
  have := List.all_eq_true.mp ha w hw
  rw [hr] at this
  cases this
theorem pcsT_no {d : D} (h : wordsT d = none) : pcsT d = none := by unfold pcsT; rw [h]
theorem noCs_strsD : ∀ L : List (List (List Nat)), noCs (L.map strsD) = true
  | [] => rfl
  | x :: L => by
    show (noC (strsD x) && noCs (L.map strsD)) = true
    rw [noCs_strsD L, Bool.and_true]
    exact noCs_strs
end SW
namespace SW
open PySem L2
theorem joinW_len (c : Nat) : ∀ l : List (List Nat), (joinL [c] l).length ≤ l.flatten.length + l.length
  | [] => by simp [joinL]
  | [x] => by simp [joinL]
  | x :: y :: r => by
    have ih := joinW_len c (y :: r)
    show (x ++ [c] ++ joinL [c] (y :: r)).length ≤ _
    simp only [List.length_append, List.flatten_cons, List.length_cons, List.length_nil] at ih ⊢
    omega
theorem joinW_chs {c : Nat} (h : c < 0x110000) : ∀ {l : List (List Nat)}, (∀ w ∈ l, Chs w) → Chs (joinL [c] l)
  | [], _ => Chs.nil
  | [x], h2 => h2 x List.mem_cons_self
  | x :: y :: r, h2 => by
    show Chs (x ++ [c] ++ joinL [c] (y :: r))
    exact ((h2 x List.mem_cons_self).app (Chs.one h)).app (joinW_chs h fun w hw => h2 w (List.mem_cons_of_mem _ hw))
/-- the words of a text, or of one that was made of them -/
structure WdL (n : Nat) (ws : List (List Nat)) : Prop where
  chs : ∀ w ∈ ws, Chs w
  fl : ws.flatten.length ≤ n
  len : ws.length ≤ n + 1
theorem WdL.spl {t : List Nat} (h : Chs t) : WdL t.length (TL.spl [32] 0 [] t) ∧ TL.spl [32] 0 [] t ≠ [] := by
  obtain ⟨h1, h2, h3, h4⟩ := spl1 (c := 32) t []
  refine ⟨⟨fun w hw c hc => ?_, by simp at h2 ⊢; omega, h1⟩, h4⟩
  rcases (h3 w hw).2 c hc with z | z
  · cases z
  · exact h c z
theorem WdL.join {n : Nat} {ws : List (List Nat)} (h : WdL n ws) : Chs (joinL [32] ws) ∧ (joinL [32] ws).length ≤ 2 * n + 1 := by
  refine ⟨joinW_chs (by decide) h.chs, ?_⟩
  have := joinW_len 32 ws
  have := h.fl
  have := h.len
  omega
theorem fl_split {ws : List (List Nat)} {i : Nat} : ws.flatten.length = (ws.take i).flatten.length + (ws.drop i).flatten.length := by
  rw [← List.length_append, ← List.flatten_append, List.take_append_drop]
theorem sub_fl {vs ws : List (List Nat)} (s : vs.Sublist ws) : vs.flatten.length ≤ ws.flatten.length := by
  induction s with
  | slnil => exact Nat.le_refl _
  | cons a _ ih => rw [List.flatten_cons, List.length_append]; omega
  | cons_cons a _ ih => rw [List.flatten_cons, List.flatten_cons, List.length_append, List.length_append]; omega
theorem WdL.sub {n : Nat} {ws vs : List (List Nat)} (h : WdL n ws) (s : vs.Sublist ws) : WdL n vs :=
  ⟨fun w hw => h.chs w (s.subset hw), Nat.le_trans (sub_fl s) h.fl, Nat.le_trans s.length_le h.len⟩
theorem WdL.ins {n : Nat} {ws : List (List Nat)} {w : List Nat} (i : Nat) (h : WdL n ws) (c : Chs w ∧ w.length ≤ 41) : WdL (n + 41) (ws.take i ++ [w] ++ ws.drop i) := by
  refine ⟨fun v hv => ?_, ?_, ?_⟩
  · rcases List.mem_append.mp hv with hv | hv
    · rcases List.mem_append.mp hv with hv | hv
      · exact h.chs v (List.mem_of_mem_take hv)
      · rw [List.mem_singleton.mp hv]; exact c.1
    · exact h.chs v (List.mem_of_mem_drop hv)
  · have := @fl_split ws i
    have := h.fl
    have := c.2
    simp only [List.flatten_append, List.length_append, List.flatten_cons, List.flatten_nil, List.append_nil]
    omega
  · have := h.len
    have := congrArg List.length (List.take_append_drop i ws)
    rw [List.length_append] at this
    simp only [List.length_append, List.length_singleton]
    omega
theorem WdL.set {n : Nat} {ws : List (List Nat)} {w : List Nat} (i : Nat) (h : WdL n ws) (c : Chs w ∧ w.length ≤ 41) : WdL (n + 41) (ws.set i w) := by
  by_cases hi : i < ws.length
  · have e : ws.set i w = ws.take i ++ [w] ++ (ws.drop (i + 1)) := by rw [List.set_eq_take_append_cons_drop, if_pos hi]; simp
    have e2 : ws.take i ++ [w] ++ ws.drop (i + 1) = (ws.take i ++ ws.drop (i + 1)).take i ++ [w] ++ (ws.take i ++ ws.drop (i + 1)).drop i := by
      have : (ws.take i).length = i := by rw [List.length_take]; omega
      rw [List.take_left' this, List.drop_left' this]
    rw [e, e2]
    refine WdL.ins i (h.sub ?_) c
    have : (ws.take i ++ ws.drop (i + 1)).Sublist (ws.take i ++ ws.drop i) := List.Sublist.append_left (by rw [← List.drop_drop]; exact List.drop_sublist _ _) _
    rw [List.take_append_drop] at this
    exact this
  · rw [List.set_eq_of_length_le (by omega)]
    exact ⟨h.chs, Nat.le_trans h.fl (by omega), Nat.le_trans h.len (by omega)⟩
theorem WdL.two {n : Nat} {ws : List (List Nat)} (h : WdL n ws) : WdL (2 * n + 1) (ws ++ ws) := by
  refine ⟨fun v hv => ?_, ?_, ?_⟩
  · rcases List.mem_append.mp hv with hv | hv <;> exact h.chs v hv
  · have := h.fl
    rw [List.flatten_append, List.length_append]
    omega
  · have := h.len
    rw [List.length_append]
    omega
end SW
namespace SW
open PySem L2
/-! ### as the law reckons it -/
def lawP (w : List Nat) : Bool := (pcsW w).all (fun p => isRow p && (decide (1 ≤ p.length) && decide ((p.length : Int) ≤ 40))) && decide ((pcsW w).flatten.length ≤ 40)
def dPd (w : List Nat) : D := if lawP w then strsD (pcsW w) else .non
def dW (way : Int) (w : List Nat) : D := if way = 0 then (if w = [45] then .str [] else if (isRow w && (decide (1 ≤ w.length) && decide ((w.length : Int) ≤ 40))) = true then .str w else .non) else (if w = [45] then .lst [] else dPd w)
def okD1 (way : Int) (w : List Nat) : Bool := if way = 0 then okW (undW w) else okP (undW w)
def outD (way : Int) (w : List Nat) : D := if way = 0 then .str (undW w) else strsD (outP (undW w))
theorem isRow_fl {ps : List (List Nat)} : isRow ps.flatten = true ↔ ∀ p ∈ ps, isRow p = true := by
  constructor
  · intro h p hp
    exact isRow_of fun c hc => isRow_mem h (List.mem_flatten.mpr ⟨p, hp, hc⟩)
  · intro h
    refine isRow_of fun c hc => ?_
    obtain ⟨p, hp, hc⟩ := List.mem_flatten.mp hc
    exact isRow_mem (h p hp) hc
theorem fl_le {ps : List (List Nat)} {p : List Nat} (h : p ∈ ps) : p.length ≤ ps.flatten.length := by
  induction ps with
  | nil => cases h
  | cons x ps ih =>
    rw [List.flatten_cons, List.length_append]
    rcases List.mem_cons.mp h with rfl | h
    · omega
    · have := ih h; omega
theorem lawP_ok {w : List Nat} (h : w ≠ []) : lawP w = okP w := by
  unfold lawP okP
  rw [decide_eq_false h, Bool.false_or]
  generalize pcsW w = ps
  rw [Bool.eq_iff_iff]
  simp only [Bool.and_eq_true, List.all_eq_true, decide_eq_true_eq, Bool.not_eq_true', decide_eq_false_iff_not]
  constructor
  · rintro ⟨h1, h2⟩
    refine ⟨fun hm => ?_, isRow_fl.mpr fun p hp => (h1 p hp).1, h2⟩
    have := (h1 [] hm).2.1
    simp at this
  · rintro ⟨h1, h2, h3⟩
    refine ⟨fun p hp => ⟨isRow_fl.mp h2 p hp, ?_, ?_⟩, h3⟩
    · cases p with
      | nil => exact absurd hp h1
      | cons c p => simp
    · have := fl_le hp
      omega
theorem lawP_nil : lawP [] = false := by decide +kernel
theorem dW_some {way : Int} {w : List Nat} (h : w ≠ []) (ho : okD1 way w = true) : dW way w = outD way w := by
  unfold dW outD
  unfold okD1 at ho
  by_cases hw : way = 0
  · rw [if_pos hw] at ho ⊢
    rw [if_pos hw]
    unfold undW at ho ⊢
    by_cases e : w = [45]
    · rw [if_pos e, if_pos e]
    · rw [if_neg e] at ho
      rw [if_neg e, if_neg e]
      unfold okW at ho
      rw [Bool.and_eq_true] at ho
      have l1 := of_decide_eq_true ho.2
      have : 1 ≤ w.length := List.length_pos_iff.mpr h
      rw [if_pos]
      rw [ho.1, decide_eq_true this, decide_eq_true (show (w.length : Int) ≤ 40 by omega)]
      rfl
  · rw [if_neg hw] at ho ⊢
    rw [if_neg hw]
    unfold undW at ho ⊢
    by_cases e : w = [45]
    · rw [if_pos e, if_pos e]; rfl
    · rw [if_neg e] at ho
      rw [if_neg e, if_neg e]
      unfold dPd
      rw [lawP_ok h, if_pos ho]
      unfold outP
      rw [if_neg h]
theorem dW_none {way : Int} {w : List Nat} (h : w = [] ∨ okD1 way w = false) : dW way w = .non := by
  unfold dW
  rcases h with rfl | ho
  · by_cases hw : way = 0
    · rw [if_pos hw, if_neg (by decide), if_neg (by decide)]
    · rw [if_neg hw, if_neg (by decide)]
      unfold dPd
      rw [lawP_nil]
      rfl
  · unfold okD1 at ho
    by_cases hw : way = 0
    · rw [if_pos hw] at ho ⊢
      unfold undW at ho
      by_cases e : w = [45]
      · rw [if_pos e] at ho; exact absurd ho (by decide)
      · rw [if_neg e] at ho
        rw [if_neg e, if_neg]
        intro h
        rw [Bool.and_eq_true, Bool.and_eq_true] at h
        have l1 := of_decide_eq_true h.2.2
        unfold okW at ho
        rw [h.1, decide_eq_true (show w.length ≤ 40 by omega)] at ho
        cases ho
    · rw [if_neg hw] at ho ⊢
      unfold undW at ho
      by_cases e : w = [45]
      · rw [if_pos e] at ho; exact absurd ho (by decide)
      · rw [if_neg e] at ho
        rw [if_neg e]
        unfold dPd
        by_cases h : w = []
        · subst h; rw [lawP_nil]; rfl
        · rw [lawP_ok h, ho]; rfl
theorem dueTx_eq {way : Int} {t : List Nat} : dueTx way (.str t) = if ([] ∉ wdsT t ∧ (∀ w ∈ wdsT t, okD1 way w = true)) ∧ (wdsT t).length ≤ 8 then .lst ((wdsT t).map (outD way)) else .non := by
  have ew : wordsT (.str t) = if okWs t then some ((wdsT t).map undW) else none := rfl
  have eo : okWs t = (!decide ([] ∈ wdsT t) && decide ((wdsT t).length ≤ 8)) := rfl
  by_cases h1 : [] ∈ wdsT t
  · rw [if_neg (fun h => h.1.1 h1)]
    rw [decide_eq_true h1] at eo
    rw [show okWs t = false from eo, if_neg (by decide)] at ew
    unfold dueTx
    rw [rowsT_no ew, pcsT_no ew]
    split <;> rfl
  by_cases h2 : (wdsT t).length ≤ 8
  · rw [decide_eq_false h1, decide_eq_true h2] at eo
    rw [show okWs t = true from eo, if_pos rfl] at ew
    by_cases h3 : ∀ w ∈ wdsT t, okD1 way w = true
    · rw [if_pos ⟨⟨h1, h3⟩, h2⟩]
      unfold dueTx
      by_cases hw : way = 0
      · rw [if_pos hw, rowsT_some ew (by
          rw [List.filter_eq_nil_iff]
          intro w hm
          obtain ⟨v, hv, rfl⟩ := List.mem_map.mp hm
          have := h3 v hv
          unfold okD1 at this
          rw [if_pos hw] at this
          simp [this])]
        show D.lst (((wdsT t).map undW).map D.str) = _
        rw [List.map_map]
        congr 1
        refine List.map_congr_left fun w _ => ?_
        show D.str (undW w) = outD way w
        unfold outD
        rw [if_pos hw]
      · rw [if_neg hw, pcsT_some ew (fun w hm => by
          obtain ⟨v, hv, rfl⟩ := List.mem_map.mp hm
          have := h3 v hv
          unfold okD1 at this
          rw [if_neg hw] at this
          exact this)]
        show D.lst ((((wdsT t).map undW).map outP).map strsD) = _
        rw [List.map_map, List.map_map]
        congr 1
        refine List.map_congr_left fun w _ => ?_
        show strsD (outP (undW w)) = outD way w
        unfold outD
        rw [if_neg hw]
    · rw [if_neg (fun h => h3 h.1.2)]
      have : ∃ w ∈ wdsT t, okD1 way w = false := by
        apply Classical.byContradiction
        intro z
        exact h3 fun w hm => by
          cases q : okD1 way w with
          | true => rfl
          | false => exact absurd ⟨w, hm, q⟩ z
      obtain ⟨w, hm, q⟩ := this
      unfold dueTx
      unfold okD1 at q
      by_cases hw : way = 0
      · rw [if_pos hw] at q ⊢
        rw [rowsT_none ew]
        intro z
        have := List.filter_eq_nil_iff.mp z _ (List.mem_map.mpr ⟨w, hm, rfl⟩)
        simp [q] at this
      · rw [if_neg hw] at q ⊢
        rw [pcsT_none ew (List.mem_map.mpr ⟨w, hm, rfl⟩) q]
  · rw [if_neg (fun h => h2 h.2)]
    rw [decide_eq_false h2, Bool.and_false] at eo
    rw [show okWs t = false from eo, if_neg (by decide)] at ew
    unfold dueTx
    rw [rowsT_no ew, pcsT_no ew]
    split <;> rfl
end SW

namespace SW
open PySem L2
theorem outD_kind (way : Int) (w : List Nat) : (∃ s, outD way w = .str s ∧ s = undW w) ∨ (∃ ps, outD way w = strsD ps ∧ ps = outP (undW w)) := by
  unfold outD
  split
  · exact .inl ⟨_, rfl, rfl⟩
  · exact .inr ⟨_, rfl, rfl⟩
theorem dW_or (way : Int) (w : List Nat) : (w ≠ [] ∧ okD1 way w = true ∧ dW way w = outD way w) ∨ ((w = [] ∨ okD1 way w = false) ∧ dW way w = .non) := by
  by_cases h : w = []
  · exact .inr ⟨.inl h, dW_none (.inl h)⟩
  · cases e : okD1 way w with
    | true => exact .inl ⟨h, rfl, dW_some h e⟩
    | false => exact .inr ⟨.inr rfl, dW_none (.inr e)⟩
theorem deq_outD (way : Int) (w : List Nat) : deq (outD way w) .non = false := by
  rcases outD_kind way w with ⟨s, e, _⟩ | ⟨ps, e, _⟩ <;> rw [e] <;> (unfold deq; simp [toPy, PyData.eqv])
theorem inG_dW (way : Int) (ws : List (List Nat)) : inG .non (ws.map (dW way)) = !decide ([] ∉ ws ∧ ∀ w ∈ ws, okD1 way w = true) := by
  rw [Bool.eq_iff_iff]
  unfold inG
  rw [List.any_map, List.any_eq_true, Bool.not_eq_true', decide_eq_false_iff_not]
  constructor
  · rintro ⟨w, hw, h⟩ ⟨z1, z2⟩
    have h : deq (dW way w) .non = true := h
    rcases dW_or way w with ⟨a, b, c⟩ | ⟨a, _⟩
    · rw [c, deq_outD] at h; cases h
    · rcases a with rfl | a
      · exact z1 hw
      · rw [z2 w hw] at a; cases a
  · intro h
    apply Classical.byContradiction
    intro z
    refine h ⟨fun hm => z ⟨[], hm, ?_⟩, fun w hw => ?_⟩
    · show deq (dW way []) .non = true
      rw [dW_none (.inl rfl)]
      decide +kernel
    · cases e : okD1 way w with
      | true => rfl
      | false =>
        refine absurd ⟨w, hw, ?_⟩ z
        show deq (dW way w) .non = true
        rw [dW_none (.inr e)]
        decide +kernel
theorem outP_mem {t w : List Nat} {n : Nat} (h : t.length ≤ n) (hw : w ∈ wdsT t) : ∀ p ∈ outP (undW w), ∀ c ∈ p, c ∈ t := by
  intro p hp c hc
  have hm := (undW_mem h (List.mem_map.mpr ⟨w, hw, rfl⟩)).2
  unfold outP at hp
  split at hp
  · cases hp
  · obtain ⟨_, _, k3, _⟩ := spl1 (c := 43) (undW w) []
    rcases (k3 p hp).2 c hc with z | z
    · cases z
    · exact hm c z
theorem okD_strs59 {n : Nat} {ps : List (List Nat)} (h : ∀ p ∈ ps, Chs p) : okD (n + 1) (strsD ps) := okD_lst (by omega) fun d hd => by
  obtain ⟨p, hp, rfl⟩ := List.mem_map.mp hd
  exact okD_str (h p hp)
theorem okD_dW {t w : List Nat} {n : Nat} (way : Int) (ct : Chs t) (h : t.length ≤ n) (hw : w ∈ wdsT t) : okD 59 (dW way w) ∧ noC (dW way w) = true := by
  rcases dW_or way w with ⟨_, _, e⟩ | ⟨_, e⟩ <;> rw [e]
  · rcases outD_kind way w with ⟨s, e, rfl⟩ | ⟨ps, e, rfl⟩ <;> rw [e]
    · exact ⟨okD_str fun c hc => ct c ((undW_mem h (List.mem_map.mpr ⟨w, hw, rfl⟩)).2 c hc), rfl⟩
    · exact ⟨okD_strs59 fun p hp c hc => ct c (outP_mem h hw p hp c hc), noCs_strs⟩
  · exact ⟨okD_non, rfl⟩
theorem dueTx_or {way : Int} {d : D} (hk : kindOk d) : dueTx way d = .non ∨ ∃ xs, dueTx way d = .lst xs ∧ okD 60 (.lst xs) ∧ noCs xs = true := by
  cases e : wordsT d with
  | none =>
    refine .inl ?_
    unfold dueTx
    rw [rowsT_no e, pcsT_no e]
    split <;> rfl
  | some ws =>
    obtain ⟨t, rfl, _, _⟩ := wordsT_str e
    obtain ⟨lt, ct⟩ := hk.2 t rfl
    rw [dueTx_eq]
    split
    · rename_i h
      refine .inr ⟨_, rfl, ?_⟩
      rw [show (wdsT t).map (outD way) = (wdsT t).map (dW way) from List.map_congr_left fun w hw => (dW_some (fun z => h.1.1 (z ▸ hw)) (h.1.2 w hw)).symm]
      refine ⟨okD_lst (by decide) fun d hd => ?_, noCs_mem fun d hd => ?_⟩
      · obtain ⟨w, hw, rfl⟩ := List.mem_map.mp hd
        exact (okD_dW way ct lt hw).1
      · obtain ⟨w, hw, rfl⟩ := List.mem_map.mp hd
        exact (okD_dW way ct lt hw).2
    · exact .inl rfl
theorem toldTx_non {way : Int} {d : D} (h : dueTx way d = .non) : toldTx way d = .str ("NoText" : Str).cps.toList := by unfold toldTx; rw [h]
theorem toldTx_lst {way : Int} {d : D} {xs : List D} (h : dueTx way d = .lst xs) : toldTx way d = .lst xs := by unfold toldTx; rw [h]
theorem flM {l : List (List Nat)} {m : Nat} (h : ∀ w ∈ l, w.length ≤ m) : l.flatten.length ≤ l.length * m := by
  induction l with
  | nil => simp
  | cons x l ih =>
    have h1 := ih fun w hw => h w (List.mem_cons_of_mem _ hw)
    have h2 := h x List.mem_cons_self
    rw [List.flatten_cons, List.length_append, List.length_cons, Nat.add_mul]
    omega
theorem textOk {l : List (List Nat)} {m : Nat} (h : ∀ w ∈ l, Chs w ∧ w.length ≤ m) (hl : l.length ≤ 8) : Chs (joinL [32] l) ∧ (joinL [32] l).length ≤ 8 * m + 8 ∧ l.flatten.length + l.length * 1 ≤ 8 * m + 8 := by
  have h1 := flM fun w hw => (h w hw).2
  have h2 := joinW_len 32 l
  have h3 : l.length * m ≤ 8 * m := Nat.mul_le_mul_right _ hl
  exact ⟨joinW_chs (by decide) fun w hw => (h w hw).1, by omega, by omega⟩
theorem dash_ok {r : List Nat} {m : Nat} (h : isRow r = true) (hl : r.length ≤ m) : Chs (dash r) ∧ (dash r).length ≤ m + 1 := by
  unfold dash
  split
  · exact ⟨Chs.one (by decide), by simp⟩
  · exact ⟨Chs.row h, by omega⟩
/-! ### what the law hands in -/
structure AnyT (d : D) : Prop where
  kd : kindOk d
  nc : noC d = true
  rp : RpOk d
theorem AnyT.of {d : D} (h : OddOk d) : AnyT d := ⟨h.kd, h.nc, h.rp⟩
theorem any_strs {l : List (List Nat)} (h : (l.all fun s => s.all (fun c => decide (c < 0x110000)) && decide (s.length ≤ 100000)) = true) : ∀ d ∈ l.map D.str, AnyT d := fun d hd => by
  obtain ⟨s, hs, rfl⟩ := List.mem_map.mp hd
  have := List.all_eq_true.mp h s hs
  rw [Bool.and_eq_true] at this
  exact .of (odd_str (Chs.lit this.1) (of_decide_eq_true this.2))
theorem chs_a : ∀ s ∈ [("a" : Str).cps.toList], Chs s := fun s hs => by rw [List.mem_singleton.mp hs]; exact Chs.lit (by decide +kernel)
theorem any_rest {d : D} (h : d ∈ [D.non, D.int 0, D.bl true, D.lst [], D.lst [D.str ("a" : Str).cps.toList], D.tup [D.str ("a" : Str).cps.toList], D.dct true [] [], D.int (10 ^ Int.toNat 29), D.lst [D.lst [D.str ("a" : Str).cps.toList]]]) : AnyT d := by
  have o1 := odd_lst (l := [("a" : Str).cps.toList]) chs_a (by decide +kernel)
  simp only [List.mem_cons, List.not_mem_nil, or_false] at h
  rcases h with rfl | rfl | rfl | rfl | rfl | rfl | rfl | rfl | rfl
  · exact .of odd_non
  · exact .of (odd_int (by decide +kernel))
  · exact .of (odd_bl true)
  · exact .of (odd_lst (l := []) (fun _ h => nomatch h) (by decide))
  · exact .of o1
  · exact .of (odd_tup (l := [("a" : Str).cps.toList]) chs_a (by decide +kernel))
  · exact ⟨kind_of ⟨_, rfl⟩ rfl, rfl, rp_of (okR_dctG (by decide) (fun _ h => nomatch h) (fun _ h => nomatch h)) rfl (Nat.zero_le _)⟩
  · exact ⟨kind_of ⟨_, rfl⟩ rfl, rfl, ⟨by unfold okR; trivial, by decide +kernel, by decide +kernel⟩⟩
  · refine .of (odd_list (fun d hd => ?_) (fun d hd => ?_) (by decide +kernel) (by decide +kernel))
    · rw [List.mem_singleton.mp hd]; exact o1
    · rw [List.mem_singleton.mp hd]
      exact okR_lst (by decide) (okR_strs (l := [("a" : Str).cps.toList]) chs_a)
end SW

end
set_option Elab.async false
set_option linter.all false
set_option maxRecDepth 100000
set_option maxHeartbeats 4000000
set_option pp.deepTerms false
set_option pp.maxSteps 1500
namespace SW
open PySem L2
local macro_rules | `(tactic| decreasing_trivial_pre_omega) => `(tactic| first | with_reducible assumption | with_reducible exact ln0 | with_reducible exact ln1 | with_reducible exact ln2 | with_reducible exact ln3 | with_reducible exact ln4 | with_reducible exact ln5 | ((with_reducible refine sz ?_); (try simp only [List.length_append, List.length_cons, List.length_nil, List.length_map, List.length_reverse, List.length_range, natsD_len]); omega) | ((with_reducible refine szl ?_); (try simp only [List.length_append, List.length_cons, List.length_nil, List.length_map, List.length_reverse, List.length_range, natsD_len]); omega))
set_option hygiene false in
local macro_rules | `(tactic| fail) => `(tactic| array_get_dec)
set_option hygiene false in
local macro_rules | `(tactic| array_get_dec) => `(tactic| (with_reducible apply st_retN))
set_option hygiene false in
local macro_rules | `(tactic| array_get_dec) => `(tactic| (with_reducible apply st_brk))
set_option hygiene false in
local macro_rules | `(tactic| array_get_dec) => `(tactic| (with_reducible apply st_cnt))
set_option hygiene false in
local macro_rules | `(tactic| array_get_dec) => `(tactic| (with_reducible apply st_par))
set_option hygiene false in
local macro_rules | `(tactic| array_get_dec) => `(tactic| (with_reducible apply st_raise))
set_option hygiene false in
local macro_rules | `(tactic| array_get_dec) => `(tactic| (with_reducible apply st_un))
set_option hygiene false in
local macro_rules | `(tactic| array_get_dec) => `(tactic| (with_reducible apply st_orV))
set_option hygiene false in
local macro_rules | `(tactic| array_get_dec) => `(tactic| (with_reducible apply st_notV))
set_option hygiene false in
local macro_rules | `(tactic| array_get_dec) => `(tactic| (with_reducible apply st_if))
set_option hygiene false in
local macro_rules | `(tactic| array_get_dec) => `(tactic| (with_reducible apply st_chain))
set_option hygiene false in
local macro_rules | `(tactic| array_get_dec) => `(tactic| (with_reducible apply st_isN))
set_option hygiene false in
local macro_rules | `(tactic| array_get_dec) => `(tactic| (with_reducible apply st_notN))
set_option hygiene false in
local macro_rules | `(tactic| array_get_dec) => `(tactic| (with_reducible apply st_rng2))
set_option hygiene false in
local macro_rules | `(tactic| array_get_dec) => `(tactic| (with_reducible apply st_rng3))
set_option hygiene false in
local macro_rules | `(tactic| array_get_dec) => `(tactic| (with_reducible apply st_rev))
set_option hygiene false in
local macro_rules | `(tactic| array_get_dec) => `(tactic| (with_reducible apply st_geS))
set_option hygiene false in
local macro_rules | `(tactic| array_get_dec) => `(tactic| (with_reducible apply st_ge))
set_option hygiene false in
local macro_rules | `(tactic| array_get_dec) => `(tactic| (with_reducible apply st_ninS))
set_option hygiene false in
local macro_rules | `(tactic| array_get_dec) => `(tactic| (with_reducible apply st_inS))
set_option hygiene false in
local macro_rules | `(tactic| array_get_dec) => `(tactic| (with_reducible apply st_is))
set_option hygiene false in
local macro_rules | `(tactic| array_get_dec) => `(tactic| (with_reducible apply st_neg))
set_option hygiene false in
local macro_rules | `(tactic| array_get_dec) => `(tactic| (with_reducible apply st_max2))
set_option hygiene false in
local macro_rules | `(tactic| array_get_dec) => `(tactic| (with_reducible apply st_find2))
set_option hygiene false in
local macro_rules | `(tactic| array_get_dec) => `(tactic| (with_reducible apply st_rfind3))
set_option hygiene false in
local macro_rules | `(tactic| array_get_dec) => `(tactic| first | ((with_reducible apply st_revCF); (first | exact rfl | exact get_c1 | exact get_c2 | exact get_new | exact get_new1 | exact get_new2 | assumption | (simp only [List.append_assoc, List.cons_append, List.nil_append, List.length_append, List.length_cons, List.length_nil, Nat.add_assoc, set_at0, set_at1, set_at2, set_at3]; first | exact get_at0 | exact get_at1 | exact get_at2 | exact get_at3))) | fail_if_success skip)
set_option hygiene false in
local macro_rules | `(tactic| array_get_dec) => `(tactic| first | ((with_reducible apply st_revCC); (first | exact rfl | exact get_c1 | exact get_c2 | exact get_new | exact get_new1 | exact get_new2 | assumption | (simp only [List.append_assoc, List.cons_append, List.nil_append, List.length_append, List.length_cons, List.length_nil, Nat.add_assoc, set_at0, set_at1, set_at2, set_at3]; first | exact get_at0 | exact get_at1 | exact get_at2 | exact get_at3))) | fail_if_success skip)
set_option hygiene false in
local macro_rules | `(tactic| array_get_dec) => `(tactic| first | (((with_reducible apply st_revS)) <;> try decreasing_trivial_pre_omega) | fail_if_success skip)
set_option hygiene false in
local macro_rules | `(tactic| array_get_dec) => `(tactic| (with_reducible apply st_revLC))
set_option hygiene false in
local macro_rules | `(tactic| array_get_dec) => `(tactic| (with_reducible apply st_revL))
set_option hygiene false in
local macro_rules | `(tactic| array_get_dec) => `(tactic| (with_reducible apply st_outC))
set_option hygiene false in
local macro_rules | `(tactic| array_get_dec) => `(tactic| (with_reducible apply st_finC))
set_option hygiene false in
local macro_rules | `(tactic| array_get_dec) => `(tactic| (with_reducible apply st_frzG))
set_option hygiene false in
local macro_rules | `(tactic| array_get_dec) => `(tactic| (with_reducible apply st_addA))
set_option hygiene false in
local macro_rules | `(tactic| array_get_dec) => `(tactic| (with_reducible apply st_lcC))
set_option hygiene false in
local macro_rules | `(tactic| array_get_dec) => `(tactic| (with_reducible apply st_forC))
set_option hygiene false in
local macro_rules | `(tactic| array_get_dec) => `(tactic| (with_reducible apply st_iterC))
set_option hygiene false in
local macro_rules | `(tactic| array_get_dec) => `(tactic| (with_reducible apply st_callGF))
set_option hygiene false in
local macro_rules | `(tactic| array_get_dec) => `(tactic| (with_reducible apply st_frzD))
set_option hygiene false in
local macro_rules | `(tactic| array_get_dec) => `(tactic| (with_reducible apply st_callT))
set_option hygiene false in
local macro_rules | `(tactic| array_get_dec) => `(tactic| (with_reducible apply st_plus))
set_option hygiene false in
local macro_rules | `(tactic| array_get_dec) => `(tactic| (with_reducible apply st_count))
set_option hygiene false in
local macro_rules | `(tactic| array_get_dec) => `(tactic| (with_reducible apply st_newD))
set_option hygiene false in
local macro_rules | `(tactic| array_get_dec) => `(tactic| (with_reducible apply st_disp))
set_option hygiene false in
local macro_rules | `(tactic| array_get_dec) => `(tactic| (with_reducible apply st_tupOfL))
set_option hygiene false in
local macro_rules | `(tactic| array_get_dec) => `(tactic| (with_reducible apply st_keysIt))
set_option hygiene false in
local macro_rules | `(tactic| array_get_dec) => `(tactic| (with_reducible apply st_get2))
set_option hygiene false in
local macro_rules | `(tactic| array_get_dec) => `(tactic| (with_reducible apply st_ends))
set_option hygiene false in
local macro_rules | `(tactic| array_get_dec) => `(tactic| (with_reducible apply st_orT))
set_option hygiene false in
local macro_rules | `(tactic| array_get_dec) => `(tactic| (with_reducible apply st_enumC))
set_option hygiene false in
local macro_rules | `(tactic| array_get_dec) => `(tactic| (with_reducible apply st_eqN))
set_option hygiene false in
local macro_rules | `(tactic| array_get_dec) => `(tactic| (with_reducible apply st_try))
set_option hygiene false in
local macro_rules | `(tactic| array_get_dec) => `(tactic| (with_reducible apply st_pick0))
set_option hygiene false in
local macro_rules | `(tactic| array_get_dec) => `(tactic| (with_reducible apply st_dictEnum))
set_option hygiene false in
local macro_rules | `(tactic| array_get_dec) => `(tactic| first | (((with_reducible apply st_setD); (first | exact rfl | exact get_c1 | exact get_c2 | exact get_new | exact get_new1 | exact get_new2 | assumption | (simp only [List.append_assoc, List.cons_append, List.nil_append, List.length_append, List.length_cons, List.length_nil, Nat.add_assoc, set_at0, set_at1, set_at2, set_at3]; first | exact get_at0 | exact get_at1 | exact get_at2 | exact get_at3)); (first | exact rfl | assumption | exact isKD_nats _)) <;> try decreasing_trivial_pre_omega) | fail_if_success skip)
set_option hygiene false in
local macro_rules | `(tactic| array_get_dec) => `(tactic| first | (((with_reducible apply st_stepDm)) <;> try decreasing_trivial_pre_omega) | fail_if_success skip)
set_option hygiene false in
local macro_rules | `(tactic| array_get_dec) => `(tactic| first | (((with_reducible apply st_stepD1)) <;> try decreasing_trivial_pre_omega) | fail_if_success skip)
set_option hygiene false in
local macro_rules | `(tactic| array_get_dec) => `(tactic| first | ((with_reducible apply st_isEv); (first | assumption | decide +kernel)) | fail_if_success skip)
set_option hygiene false in
local macro_rules | `(tactic| array_get_dec) => `(tactic| first | ((with_reducible apply st_isE); (first | assumption | decide +kernel); (first | assumption | decide +kernel)) | fail_if_success skip)
set_option hygiene false in
local macro_rules | `(tactic| array_get_dec) => `(tactic| first | ((with_reducible apply st_repr); (first | assumption | exact rp_str (by assumption) (by omega))) | fail_if_success skip)
set_option hygiene false in
local macro_rules | `(tactic| array_get_dec) => `(tactic| first | ((with_reducible apply st_frzV); (exact rfl); (first | exact rfl | exact get_c1 | exact get_c2 | exact get_new | exact get_new1 | exact get_new2 | assumption | (simp only [List.append_assoc, List.cons_append, List.nil_append, List.length_append, List.length_cons, List.length_nil, Nat.add_assoc, set_at0, set_at1, set_at2, set_at3]; first | exact get_at0 | exact get_at1 | exact get_at2 | exact get_at3)); (first | (simp only [List.set_cons_succ, List.set_cons_zero]; done) | (simp only [List.set_cons_succ, List.set_cons_zero]; exact rfl) | exact rfl)) | fail_if_success skip)
set_option hygiene false in
local macro_rules | `(tactic| array_get_dec) => `(tactic| first | ((with_reducible apply st_ex); (first | exact rfl | (refine noCM1 ?_; first | assumption | (first | (apply Well.noC; assumption) | (apply WellC.noC; assumption) | (apply PotB.noC; assumption) | (apply WellE.noC; assumption))) | (simp only [noCM, noCO, noCs, noC, List.take, List.length, Bool.true_and, Bool.and_true, noCs_ints, noCs_strs, natsD_noC, *]; done))) | fail_if_success skip)
set_option hygiene false in
local macro_rules | `(tactic| array_get_dec) => `(tactic| first | ((with_reducible apply st_callN); (first | exact rfl | assumption | exact natsD_noC _ | exact noCs_chars _ | exact noCs_sp _ | exact noC_sp _ | ((simp only [noCs, noC, Bool.true_and, Bool.and_true, noCs_ints, noCs_strs, natsD_noC, *]) <;> first | exact noC_sp _ | exact noC_pap _ | ((rw [noC_pap, noC_sp]); exact rfl) | skip))) | fail_if_success skip)
set_option hygiene false in
local macro_rules | `(tactic| array_get_dec) => `(tactic| first | ((with_reducible apply st_callA); (first | exact rfl | assumption | exact natsD_noC _ | exact noCs_chars _ | exact noCs_sp _ | exact noC_sp _ | ((simp only [noCs, noC, Bool.true_and, Bool.and_true, noCs_ints, noCs_strs, natsD_noC, *]) <;> first | exact noC_sp _ | exact noC_pap _ | ((rw [noC_pap, noC_sp]); exact rfl) | skip))) | fail_if_success skip)
set_option hygiene false in
local macro_rules | `(tactic| array_get_dec) => `(tactic| first | ((with_reducible apply st_callG); (first | exact rfl | assumption | exact natsD_noC _ | exact noCs_chars _ | exact noCs_sp _ | exact noC_sp _ | ((simp only [noCs, noC, Bool.true_and, Bool.and_true, noCs_ints, noCs_strs, natsD_noC, *]) <;> first | exact noC_sp _ | exact noC_pap _ | ((rw [noC_pap, noC_sp]); exact rfl) | skip))) | fail_if_success skip)
set_option hygiene false in
local macro_rules | `(tactic| array_get_dec) => `(tactic| first | ((with_reducible apply st_strI); (exact log2_small (by omega))) | fail_if_success skip)
set_option hygiene false in
local macro_rules | `(tactic| array_get_dec) => `(tactic| first | ((with_reducible apply st_insert); (first | exact rfl | exact get_c1 | exact get_c2 | exact get_new | exact get_new1 | exact get_new2 | assumption | (simp only [List.append_assoc, List.cons_append, List.nil_append, List.length_append, List.length_cons, List.length_nil, Nat.add_assoc, set_at0, set_at1, set_at2, set_at3]; first | exact get_at0 | exact get_at1 | exact get_at2 | exact get_at3)); (decreasing_trivial_pre_omega); (omega)) | fail_if_success skip)
set_option hygiene false in
local macro_rules | `(tactic| array_get_dec) => `(tactic| first | ((with_reducible apply st_ixD); (first | exact rfl | assumption | exact dct_c (by assumption)); (first | exact rfl | assumption | exact isKD_nats _); (first | assumption | fail)) | fail_if_success skip)
set_option hygiene false in
local macro_rules | `(tactic| array_get_dec) => `(tactic| first | ((with_reducible apply st_ninD); (first | exact rfl | assumption | exact dct_c (by assumption)); (first | exact rfl | assumption | exact isKD_nats _)) | fail_if_success skip)
set_option hygiene false in
local macro_rules | `(tactic| array_get_dec) => `(tactic| first | ((with_reducible apply st_inD); (first | exact rfl | assumption | exact dct_c (by assumption)); (first | exact rfl | assumption | exact isKD_nats _)) | fail_if_success skip)
set_option hygiene false in
local macro_rules | `(tactic| array_get_dec) => `(tactic| first | ((with_reducible apply st_lenD); (first | exact rfl | assumption | exact dct_c (by assumption))) | fail_if_success skip)
set_option hygiene false in
local macro_rules | `(tactic| array_get_dec) => `(tactic| first | ((with_reducible apply st_mulT); (omega)) | fail_if_success skip)
set_option hygiene false in
local macro_rules | `(tactic| array_get_dec) => `(tactic| first | ((with_reducible apply st_mul0); (omega)) | fail_if_success skip)
set_option hygiene false in
local macro_rules | `(tactic| array_get_dec) => `(tactic| first | ((with_reducible apply st_pop); (first | exact rfl | exact get_c1 | exact get_c2 | exact get_new | exact get_new1 | exact get_new2 | assumption | (simp only [List.append_assoc, List.cons_append, List.nil_append, List.length_append, List.length_cons, List.length_nil, Nat.add_assoc, set_at0, set_at1, set_at2, set_at3]; first | exact get_at0 | exact get_at1 | exact get_at2 | exact get_at3)); (first | exact rfl | assumption)) | fail_if_success skip)
set_option hygiene false in
local macro_rules | `(tactic| array_get_dec) => `(tactic| first | ((with_reducible apply st_callBP); (first | exact rfl | assumption | exact natsD_noC _ | exact noCs_chars _ | exact noCs_sp _ | exact noC_sp _ | ((simp only [noCs, noC, Bool.true_and, Bool.and_true, noCs_ints, noCs_strs, natsD_noC, *]) <;> first | exact noC_sp _ | exact noC_pap _ | ((rw [noC_pap, noC_sp]); exact rfl) | skip))) | fail_if_success skip)
set_option hygiene false in
local macro_rules | `(tactic| array_get_dec) => `(tactic| first | ((with_reducible apply st_callBC); (first | exact rfl | exact get_c1 | exact get_c2 | exact get_new | exact get_new1 | exact get_new2 | assumption | (simp only [List.append_assoc, List.cons_append, List.nil_append, List.length_append, List.length_cons, List.length_nil, Nat.add_assoc, set_at0, set_at1, set_at2, set_at3]; first | exact get_at0 | exact get_at1 | exact get_at2 | exact get_at3)); (first | exact rfl | assumption | exact natsD_noC _ | exact noCs_chars _ | exact noCs_sp _ | exact noC_sp _ | ((simp only [noCs, noC, Bool.true_and, Bool.and_true, noCs_ints, noCs_strs, natsD_noC, *]) <;> first | exact noC_sp _ | exact noC_pap _ | ((rw [noC_pap, noC_sp]); exact rfl) | skip)); (first | exact rfl | assumption | (first | (apply Well.noC; assumption) | (apply WellC.noC; assumption) | (apply PotB.noC; assumption) | (apply WellE.noC; assumption)) | (simp [noCO, noCs_ints, noCs_strs, natsD_noC, *]; done) | (simp only [noCO, noCs, noC, Bool.true_and, Bool.and_true, noCs_ints, noCs_strs, natsD_noC, *])); (first | assumption | (first | (apply Well.live; assumption) | (apply WellC.live; assumption) | (apply PotB.live; assumption) | (apply WellE.live; assumption)) | (intro z; cases z))) | fail_if_success skip)
set_option hygiene false in
local macro_rules | `(tactic| array_get_dec) => `(tactic| first | ((with_reducible apply st_isNon); (exact rfl)) | fail_if_success skip)
set_option hygiene false in
local macro_rules | `(tactic| array_get_dec) => `(tactic| first | ((with_reducible apply st_notNon); (exact rfl)) | fail_if_success skip)
set_option hygiene false in
local macro_rules | `(tactic| fail) => `(tactic| first | (((with_reducible apply st_listaS)) <;> try decreasing_trivial_pre_omega) | fail_if_success skip)
set_option hygiene false in
local macro_rules | `(tactic| fail) => `(tactic| (with_reducible apply st_listaT))
set_option hygiene false in
local macro_rules | `(tactic| fail) => `(tactic| (with_reducible apply st_listaL))
set_option hygiene false in
local macro_rules | `(tactic| fail) => `(tactic| (with_reducible apply st_intB))
set_option hygiene false in
local macro_rules | `(tactic| fail) => `(tactic| (with_reducible apply st_intI))
set_option hygiene false in
local macro_rules | `(tactic| fail) => `(tactic| (with_reducible apply st_leS))
set_option hygiene false in
local macro_rules | `(tactic| fail) => `(tactic| (with_reducible apply st_le))
set_option hygiene false in
local macro_rules | `(tactic| fail) => `(tactic| (with_reducible apply st_ltS))
set_option hygiene false in
local macro_rules | `(tactic| fail) => `(tactic| (with_reducible apply st_lt))
set_option hygiene false in
local macro_rules | `(tactic| fail) => `(tactic| first | ((with_reducible apply st_aug); (exact rfl)) | fail_if_success skip)
set_option hygiene false in
local macro_rules | `(tactic| fail) => `(tactic| first | ((with_reducible apply st_setL); (first | exact rfl | exact get_c1 | exact get_c2 | exact get_new | exact get_new1 | exact get_new2 | assumption | (simp only [List.append_assoc, List.cons_append, List.nil_append, List.length_append, List.length_cons, List.length_nil, Nat.add_assoc, set_at0, set_at1, set_at2, set_at3]; first | exact get_at0 | exact get_at1 | exact get_at2 | exact get_at3)); (exact rfl)) | fail_if_success skip)
set_option hygiene false in
local macro_rules | `(tactic| fail) => `(tactic| first | ((with_reducible apply st_isi); (exact rfl); (first | exact kit_int_int | exact kit_int_bool | exact kit_str rfl | decide +kernel)) | fail_if_success skip)
set_option hygiene false in
local macro_rules | `(tactic| fail) => `(tactic| first | ((with_reducible apply st_isiC); (first | exact rfl | exact get_c1 | exact get_c2 | exact get_new | exact get_new1 | exact get_new2 | assumption | (simp only [List.append_assoc, List.cons_append, List.nil_append, List.length_append, List.length_cons, List.length_nil, Nat.add_assoc, set_at0, set_at1, set_at2, set_at3]; first | exact get_at0 | exact get_at1 | exact get_at2 | exact get_at3)); (first | exact kit_list_list | decide +kernel)) | fail_if_success skip)
set_option hygiene false in
local macro_rules | `(tactic| fail) => `(tactic| first | ((with_reducible apply st_ne); (exact rfl)) | fail_if_success skip)
set_option hygiene false in
local macro_rules | `(tactic| fail) => `(tactic| first | (((with_reducible apply st_extend); (first | exact rfl | exact get_c1 | exact get_c2 | exact get_new | exact get_new1 | exact get_new2 | assumption | (simp only [List.append_assoc, List.cons_append, List.nil_append, List.length_append, List.length_cons, List.length_nil, Nat.add_assoc, set_at0, set_at1, set_at2, set_at3]; first | exact get_at0 | exact get_at1 | exact get_at2 | exact get_at3))) <;> try decreasing_trivial_pre_omega) | fail_if_success skip)
set_option hygiene false in
local macro_rules | `(tactic| fail) => `(tactic| (with_reducible apply st_neN))
set_option hygiene false in
local macro_rules | `(tactic| fail) => `(tactic| (with_reducible apply st_pairs1))
set_option hygiene false in
local macro_rules | `(tactic| fail) => `(tactic| (with_reducible apply st_pairs0))
set_option hygiene false in
local macro_rules | `(tactic| fail) => `(tactic| (with_reducible apply st_zip))
set_option hygiene false in
local macro_rules | `(tactic| fail) => `(tactic| (with_reducible apply st_andV))
set_option hygiene false in
local macro_rules | `(tactic| fail) => `(tactic| (with_reducible apply st_and))
set_option hygiene false in
local macro_rules | `(tactic| fail) => `(tactic| first | (((with_reducible apply st_cutS)) <;> try decreasing_trivial_pre_omega) | fail_if_success skip)
set_option hygiene false in
local macro_rules | `(tactic| fail) => `(tactic| (with_reducible apply st_cutR))
set_option hygiene false in
local macro_rules | `(tactic| fail) => `(tactic| (with_reducible apply st_cutL))
set_option hygiene false in
local macro_rules | `(tactic| fail) => `(tactic| (with_reducible apply st_gtS))
set_option hygiene false in
local macro_rules | `(tactic| fail) => `(tactic| (with_reducible apply st_gt))
set_option hygiene false in
local macro_rules | `(tactic| fail) => `(tactic| first | (((with_reducible apply st_addLC)) <;> try decreasing_trivial_pre_omega) | fail_if_success skip)
set_option hygiene false in
local macro_rules | `(tactic| fail) => `(tactic| first | (((with_reducible apply st_addL)) <;> try decreasing_trivial_pre_omega) | fail_if_success skip)
set_option hygiene false in
local macro_rules | `(tactic| fail) => `(tactic| first | (((with_reducible apply st_addT)) <;> try decreasing_trivial_pre_omega) | fail_if_success skip)
set_option hygiene false in
local macro_rules | `(tactic| fail) => `(tactic| first | (((with_reducible apply st_addS)) <;> try decreasing_trivial_pre_omega) | fail_if_success skip)
set_option hygiene false in
local macro_rules | `(tactic| fail) => `(tactic| (with_reducible apply st_addI))
set_option hygiene false in
local macro_rules | `(tactic| fail) => `(tactic| first | ((with_reducible apply st_addLS); (exact Nat.le_of_ble_eq_true rfl); (omega)) | fail_if_success skip)
set_option hygiene false in
local macro_rules | `(tactic| fail) => `(tactic| first | ((with_reducible apply st_addL0); (omega)) | fail_if_success skip)
set_option hygiene false in
local macro_rules | `(tactic| fail) => `(tactic| first | ((with_reducible apply st_fdv); (first | exact ⟨by decide, by decide⟩ | exact ⟨by omega, by omega⟩)) | fail_if_success skip)
set_option hygiene false in
local macro_rules | `(tactic| fail) => `(tactic| first | (((with_reducible apply st_tupA)) <;> try decreasing_trivial_pre_omega) | fail_if_success skip)
set_option hygiene false in
local macro_rules | `(tactic| fail) => `(tactic| (with_reducible apply st_tupAL))
set_option hygiene false in
local macro_rules | `(tactic| fail) => `(tactic| (with_reducible apply st_outF))
set_option hygiene false in
local macro_rules | `(tactic| fail) => `(tactic| (with_reducible apply st_enum))
set_option hygiene false in
local macro_rules | `(tactic| fail) => `(tactic| first | ((with_reducible apply st_pairL); (first | (simp only [List.set_cons_succ, List.set_cons_zero]; done) | (simp only [List.set_cons_succ, List.set_cons_zero]; exact rfl) | exact rfl)) | fail_if_success skip)
set_option hygiene false in
local macro_rules | `(tactic| fail) => `(tactic| first | ((with_reducible apply st_pair); (first | (simp only [List.set_cons_succ, List.set_cons_zero]; done) | (simp only [List.set_cons_succ, List.set_cons_zero]; exact rfl) | exact rfl)) | fail_if_success skip)
set_option hygiene false in
local macro_rules | `(tactic| fail) => `(tactic| first | ((with_reducible apply st_pow); (exact ⟨by decide, by decide, by decide⟩)) | fail_if_success skip)
set_option hygiene false in
local macro_rules | `(tactic| fail) => `(tactic| (with_reducible apply st_frz))
set_option hygiene false in
local macro_rules | `(tactic| fail) => `(tactic| (with_reducible apply st_min2))
set_option hygiene false in
local macro_rules | `(tactic| fail) => `(tactic| first | ((with_reducible apply st_ixC); (first | exact rfl | exact get_c1 | exact get_c2 | exact get_new | exact get_new1 | exact get_new2 | assumption | (simp only [List.append_assoc, List.cons_append, List.nil_append, List.length_append, List.length_cons, List.length_nil, Nat.add_assoc, set_at0, set_at1, set_at2, set_at3]; first | exact get_at0 | exact get_at1 | exact get_at2 | exact get_at3)); (exact rfl)) | fail_if_success skip)
set_option hygiene false in
local macro_rules | `(tactic| fail) => `(tactic| first | ((with_reducible apply st_mod); (first | decide | omega)) | fail_if_success skip)
set_option hygiene false in
local macro_rules | `(tactic| fail) => `(tactic| (with_reducible apply st_gsub))
set_option hygiene false in
local macro_rules | `(tactic| fail) => `(tactic| (with_reducible apply st_noP))
set_option hygiene false in
local macro_rules | `(tactic| fail) => `(tactic| (with_reducible apply st_or))
set_option hygiene false in
local macro_rules | `(tactic| fail) => `(tactic| first | ((with_reducible apply st_lenC); (first | exact rfl | exact get_c1 | exact get_c2 | exact get_new | exact get_new1 | exact get_new2 | assumption | (simp only [List.append_assoc, List.cons_append, List.nil_append, List.length_append, List.length_cons, List.length_nil, Nat.add_assoc, set_at0, set_at1, set_at2, set_at3]; first | exact get_at0 | exact get_at1 | exact get_at2 | exact get_at3))) | fail_if_success skip)
set_option hygiene false in
local macro_rules | `(tactic| fail) => `(tactic| first | (((with_reducible apply st_lenS)) <;> try decreasing_trivial_pre_omega) | fail_if_success skip)
set_option hygiene false in
local macro_rules | `(tactic| fail) => `(tactic| (with_reducible apply st_lenScr))
set_option hygiene false in
local macro_rules | `(tactic| fail) => `(tactic| (with_reducible apply st_lenT))
set_option hygiene false in
local macro_rules | `(tactic| fail) => `(tactic| (with_reducible apply st_lenL))
set_option hygiene false in
local macro_rules | `(tactic| fail) => `(tactic| first | ((with_reducible apply st_b) <;> intro hb <;> (first | (exfalso; first | exact hb rfl | (cases hb; done) | contradiction | omega) | skip)) | fail_if_success skip)
set_option hygiene false in
local macro_rules | `(tactic| fail) => `(tactic| first | ((with_reducible apply st_ndec) <;> intro hb <;> (first | (exfalso; first | exact hb rfl | (cases hb; done) | contradiction | omega) | skip)) | fail_if_success skip)
set_option hygiene false in
local macro_rules | `(tactic| fail) => `(tactic| first | ((with_reducible apply st_dec) <;> intro hb <;> (first | (exfalso; first | exact hb rfl | (cases hb; done) | contradiction | omega) | skip)) | fail_if_success skip)
set_option hygiene false in
local macro_rules | `(tactic| fail) => `(tactic| first | ((with_reducible apply st_ncs); (first | exact rfl | assumption | exact natsD_noC _ | exact noCs_chars _ | exact noCs_sp _ | exact noC_sp _ | ((simp only [noCs, noC, Bool.true_and, Bool.and_true, noCs_ints, noCs_strs, natsD_noC, *]) <;> first | exact noC_sp _ | exact noC_pap _ | ((rw [noC_pap, noC_sp]); exact rfl) | skip))) | fail_if_success skip)
set_option hygiene false in
local macro_rules | `(tactic| fail) => `(tactic| first | ((with_reducible apply st_gzC); (first | exact rfl | assumption | (first | (apply Well.noC; assumption) | (apply WellC.noC; assumption) | (apply PotB.noC; assumption) | (apply WellE.noC; assumption)) | (simp [noCO, noCs_ints, noCs_strs, natsD_noC, *]; done) | (simp only [noCO, noCs, noC, Bool.true_and, Bool.and_true, noCs_ints, noCs_strs, natsD_noC, *]))) | fail_if_success skip)
set_option hygiene false in
local macro_rules | `(tactic| fail) => `(tactic| first | ((with_reducible apply st_gfL); (first | exact rfl | assumption | exact natsD_noC _ | exact noCs_chars _ | exact noCs_sp _ | exact noC_sp _ | ((simp only [noCs, noC, Bool.true_and, Bool.and_true, noCs_ints, noCs_strs, natsD_noC, *]) <;> first | exact noC_sp _ | exact noC_pap _ | ((rw [noC_pap, noC_sp]); exact rfl) | skip))) | fail_if_success skip)
set_option hygiene false in
local macro_rules | `(tactic| fail) => `(tactic| first | ((with_reducible apply st_gzP); (first | exact rfl | assumption | exact natsD_noC _ | exact noCs_chars _ | exact noCs_sp _ | exact noC_sp _ | ((simp only [noCs, noC, Bool.true_and, Bool.and_true, noCs_ints, noCs_strs, natsD_noC, *]) <;> first | exact noC_sp _ | exact noC_pap _ | ((rw [noC_pap, noC_sp]); exact rfl) | skip))) | fail_if_success skip)
set_option hygiene false in
local macro_rules | `(tactic| fail) => `(tactic| first | ((with_reducible apply st_bz); (first | exact rfl | assumption | exact natsD_noC _ | exact noCs_chars _ | exact noCs_sp _ | exact noC_sp _ | ((simp only [noCs, noC, Bool.true_and, Bool.and_true, noCs_ints, noCs_strs, natsD_noC, *]) <;> first | exact noC_sp _ | exact noC_pap _ | ((rw [noC_pap, noC_sp]); exact rfl) | skip))) | fail_if_success skip)
set_option hygiene false in
local macro_rules | `(tactic| fail) => `(tactic| first | ((with_reducible apply st_iterC'); (first | exact rfl | exact get_c1 | exact get_c2 | exact get_new | exact get_new1 | exact get_new2 | assumption | (simp only [List.append_assoc, List.cons_append, List.nil_append, List.length_append, List.length_cons, List.length_nil, Nat.add_assoc, set_at0, set_at1, set_at2, set_at3]; first | exact get_at0 | exact get_at1 | exact get_at2 | exact get_at3))) | fail_if_success skip)
set_option hygiene false in
local macro_rules | `(tactic| fail) => `(tactic| first | ((with_reducible apply st_isKC); (first | exact rfl | exact get_c1 | exact get_c2 | exact get_new | exact get_new1 | exact get_new2 | assumption | (simp only [List.append_assoc, List.cons_append, List.nil_append, List.length_append, List.length_cons, List.length_nil, Nat.add_assoc, set_at0, set_at1, set_at2, set_at3]; first | exact get_at0 | exact get_at1 | exact get_at2 | exact get_at3))) | fail_if_success skip)
set_option hygiene false in
local macro_rules | `(tactic| fail) => `(tactic| first | ((with_reducible apply st_plE); (exact rfl)) | fail_if_success skip)
set_option hygiene false in
local macro_rules | `(tactic| fail) => `(tactic| first | ((with_reducible apply st_pl); (first | exact rfl | (simp only [noL]; done)); (first | exact rfl | exact noL1 (noLs_nats _) | exact noL1 (noLs_strs _))) | fail_if_success skip)
set_option hygiene false in
local macro_rules | `(tactic| fail) => `(tactic| first | ((with_reducible apply st_callT2); (first | exact rfl | exact get_c1 | exact get_c2 | exact get_new | exact get_new1 | exact get_new2 | assumption | (simp only [List.append_assoc, List.cons_append, List.nil_append, List.length_append, List.length_cons, List.length_nil, Nat.add_assoc, set_at0, set_at1, set_at2, set_at3]; first | exact get_at0 | exact get_at1 | exact get_at2 | exact get_at3)); (first | exact rfl | assumption | exact natsD_noC _ | exact noCs_chars _ | exact noCs_sp _ | exact noC_sp _ | ((simp only [noCs, noC, Bool.true_and, Bool.and_true, noCs_ints, noCs_strs, natsD_noC, *]) <;> first | exact noC_sp _ | exact noC_pap _ | ((rw [noC_pap, noC_sp]); exact rfl) | skip)); (first | exact rfl | assumption | exact natsD_noC _ | exact noCs_chars _ | exact noCs_sp _ | exact noC_sp _ | ((simp only [noCs, noC, Bool.true_and, Bool.and_true, noCs_ints, noCs_strs, natsD_noC, *]) <;> first | exact noC_sp _ | exact noC_pap _ | ((rw [noC_pap, noC_sp]); exact rfl) | skip))) | fail_if_success skip)
set_option hygiene false in
local macro_rules | `(tactic| fail) => `(tactic| first | ((with_reducible apply st_callT1); (first | exact rfl | exact get_c1 | exact get_c2 | exact get_new | exact get_new1 | exact get_new2 | assumption | (simp only [List.append_assoc, List.cons_append, List.nil_append, List.length_append, List.length_cons, List.length_nil, Nat.add_assoc, set_at0, set_at1, set_at2, set_at3]; first | exact get_at0 | exact get_at1 | exact get_at2 | exact get_at3)); (first | exact rfl | assumption | exact natsD_noC _ | exact noCs_chars _ | exact noCs_sp _ | exact noC_sp _ | ((simp only [noCs, noC, Bool.true_and, Bool.and_true, noCs_ints, noCs_strs, natsD_noC, *]) <;> first | exact noC_sp _ | exact noC_pap _ | ((rw [noC_pap, noC_sp]); exact rfl) | skip))) | fail_if_success skip)
set_option hygiene false in
local macro_rules | `(tactic| fail) => `(tactic| first | ((with_reducible apply st_frzD2); (first | exact rfl | exact get_c1 | exact get_c2 | exact get_new | exact get_new1 | exact get_new2 | assumption | (simp only [List.append_assoc, List.cons_append, List.nil_append, List.length_append, List.length_cons, List.length_nil, Nat.add_assoc, set_at0, set_at1, set_at2, set_at3]; first | exact get_at0 | exact get_at1 | exact get_at2 | exact get_at3))) | fail_if_success skip)
set_option hygiene false in
local macro_rules | `(tactic| fail) => `(tactic| first | ((with_reducible apply st_frzDct); (first | exact rfl | exact get_c1 | exact get_c2 | exact get_new | exact get_new1 | exact get_new2 | assumption | (simp only [List.append_assoc, List.cons_append, List.nil_append, List.length_append, List.length_cons, List.length_nil, Nat.add_assoc, set_at0, set_at1, set_at2, set_at3]; first | exact get_at0 | exact get_at1 | exact get_at2 | exact get_at3))) | fail_if_success skip)
set_option hygiene false in
local macro_rules | `(tactic| fail) => `(tactic| first | ((with_reducible apply st_frzL); (first | exact rfl | exact get_c1 | exact get_c2 | exact get_new | exact get_new1 | exact get_new2 | assumption | (simp only [List.append_assoc, List.cons_append, List.nil_append, List.length_append, List.length_cons, List.length_nil, Nat.add_assoc, set_at0, set_at1, set_at2, set_at3]; first | exact get_at0 | exact get_at1 | exact get_at2 | exact get_at3))) | fail_if_success skip)
set_option hygiene false in
local macro_rules | `(tactic| fail) => `(tactic| first | ((with_reducible apply st_zip'); (exact rfl); (exact rfl)) | fail_if_success skip)
set_option hygiene false in
local macro_rules | `(tactic| fail) => `(tactic| first | ((with_reducible apply st_enum'); (exact rfl); (exact rfl)) | fail_if_success skip)
set_option hygiene false in
local macro_rules | `(tactic| fail) => `(tactic| first | ((with_reducible apply st_rng2'); (omega)) | fail_if_success skip)
set_option hygiene false in
local macro_rules | `(tactic| fail) => `(tactic| first | ((with_reducible apply st_rng1'); (omega)) | fail_if_success skip)
set_option hygiene false in
local macro_rules | `(tactic| fail) => `(tactic| first | ((with_reducible apply st_items); (exact rfl)) | fail_if_success skip)
set_option hygiene false in
local macro_rules | `(tactic| fail) => `(tactic| first | ((with_reducible apply st_nonD); (exact rfl)) | fail_if_success skip)
set_option hygiene false in
local macro_rules | `(tactic| fail) => `(tactic| first | ((with_reducible apply st_nz); (first | exact rfl | assumption | (first | (apply Well.noC; assumption) | (apply WellC.noC; assumption) | (apply PotB.noC; assumption) | (apply WellE.noC; assumption)) | (simp [noCO, noCs_ints, noCs_strs, natsD_noC, *]; done) | (simp only [noCO, noCs, noC, Bool.true_and, Bool.and_true, noCs_ints, noCs_strs, natsD_noC, *]))) | fail_if_success skip)
set_option hygiene false in
local macro_rules | `(tactic| fail) => `(tactic| first | ((with_reducible apply st_wz); (first | exact rfl | assumption | exact natsD_noC _ | exact noCs_chars _ | exact noCs_sp _ | exact noC_sp _ | ((simp only [noCs, noC, Bool.true_and, Bool.and_true, noCs_ints, noCs_strs, natsD_noC, *]) <;> first | exact noC_sp _ | exact noC_pap _ | ((rw [noC_pap, noC_sp]); exact rfl) | skip)); (first | exact rfl | assumption | (first | (apply Well.noC; assumption) | (apply WellC.noC; assumption) | (apply PotB.noC; assumption) | (apply WellE.noC; assumption)) | (simp [noCO, noCs_ints, noCs_strs, natsD_noC, *]; done) | (simp only [noCO, noCs, noC, Bool.true_and, Bool.and_true, noCs_ints, noCs_strs, natsD_noC, *]))) | fail_if_success skip)
set_option hygiene false in
local macro_rules | `(tactic| fail) => `(tactic| (with_reducible apply st_ez))
set_option hygiene false in
local macro_rules | `(tactic| fail) => `(tactic| first | ((with_reducible apply st_pz); (first | exact rfl | assumption | exact natsD_noC _ | exact noCs_chars _ | exact noCs_sp _ | exact noC_sp _ | ((simp only [noCs, noC, Bool.true_and, Bool.and_true, noCs_ints, noCs_strs, natsD_noC, *]) <;> first | exact noC_sp _ | exact noC_pap _ | ((rw [noC_pap, noC_sp]); exact rfl) | skip))) | fail_if_success skip)
set_option hygiene false in
local macro_rules | `(tactic| fail) => `(tactic| first | ((with_reducible apply st_getD2); (first | exact rfl | assumption | exact dct_c (by assumption)); (first | exact rfl | assumption | exact isKD_nats _)) | fail_if_success skip)
set_option hygiene false in
local macro_rules | `(tactic| fail) => `(tactic| first | ((with_reducible apply st_getD1); (first | exact rfl | assumption | exact dct_c (by assumption))) | fail_if_success skip)
set_option hygiene false in
local macro_rules | `(tactic| fail) => `(tactic| (with_reducible apply st_isDct))
set_option hygiene false in
local macro_rules | `(tactic| fail) => `(tactic| first | ((with_reducible apply st_enumC'); (first | exact rfl | exact get_c1 | exact get_c2 | exact get_new | exact get_new1 | exact get_new2 | assumption | (simp only [List.append_assoc, List.cons_append, List.nil_append, List.length_append, List.length_cons, List.length_nil, Nat.add_assoc, set_at0, set_at1, set_at2, set_at3]; first | exact get_at0 | exact get_at1 | exact get_at2 | exact get_at3)); (first | assumption | exact rfl)) | fail_if_success skip)
set_option hygiene false in
local macro_rules | `(tactic| fail) => `(tactic| first | (((with_reducible apply st_sz)) <;> try decreasing_trivial_pre_omega) | fail_if_success skip)
set_option hygiene false in
local macro_rules | `(tactic| fail) => `(tactic| (with_reducible apply st_nF))
set_option hygiene false in
local macro_rules | `(tactic| fail) => `(tactic| (with_reducible apply st_nT))
set_option hygiene false in
local macro_rules | `(tactic| fail) => `(tactic| (with_reducible apply st_F))
set_option hygiene false in
local macro_rules | `(tactic| fail) => `(tactic| (with_reducible apply st_T))
set_option hygiene false in
local macro_rules | `(tactic| fail) => `(tactic| (with_reducible apply st_part'))
set_option hygiene false in
local macro_rules | `(tactic| fail) => `(tactic| (with_reducible apply st_isKL))
set_option hygiene false in
local macro_rules | `(tactic| fail) => `(tactic| (with_reducible apply st_isKS))
set_option hygiene false in
local macro_rules | `(tactic| fail) => `(tactic| (with_reducible apply st_rev'))
set_option hygiene false in
local macro_rules | `(tactic| fail) => `(tactic| (with_reducible apply st_tt))
set_option hygiene false in
local macro_rules | `(tactic| fail) => `(tactic| (with_reducible apply st_test'))
set_option hygiene false in
local macro_rules | `(tactic| fail) => `(tactic| (with_reducible apply st_par'))
set_option hygiene false in
local macro_rules | `(tactic| fail) => `(tactic| first | ((with_reducible apply st_mulI); (first | exact .inl ⟨by omega, by omega⟩ | exact .inr ⟨by omega, by omega⟩)) | fail_if_success skip)
set_option hygiene false in
local macro_rules | `(tactic| fail) => `(tactic| first | (((with_reducible apply st_append); (first | exact rfl | exact get_c1 | exact get_c2 | exact get_new | exact get_new1 | exact get_new2 | assumption | (simp only [List.append_assoc, List.cons_append, List.nil_append, List.length_append, List.length_cons, List.length_nil, Nat.add_assoc, set_at0, set_at1, set_at2, set_at3]; first | exact get_at0 | exact get_at1 | exact get_at2 | exact get_at3))) <;> try decreasing_trivial_pre_omega) | fail_if_success skip)
set_option hygiene false in
local macro_rules | `(tactic| fail) => `(tactic| (with_reducible apply st_finF))
set_option hygiene false in
local macro_rules | `(tactic| fail) => `(tactic| (with_reducible apply st_sl))
set_option hygiene false in
local macro_rules | `(tactic| fail) => `(tactic| (with_reducible apply st_part))
set_option hygiene false in
local macro_rules | `(tactic| fail) => `(tactic| (with_reducible apply st_sub))
set_option hygiene false in
local macro_rules | `(tactic| fail) => `(tactic| (with_reducible apply st_rng1))
set_option hygiene false in
local macro_rules | `(tactic| fail) => `(tactic| (with_reducible apply st_not))
set_option hygiene false in
local macro_rules | `(tactic| fail) => `(tactic| first | ((with_reducible apply st_eq); (exact rfl)) | fail_if_success skip)
set_option hygiene false in
local macro_rules | `(tactic| fail) => `(tactic| (with_reducible apply st_lstC))
set_option hygiene false in
local macro_rules | `(tactic| fail) => `(tactic| (with_reducible apply st_drop))
set_option hygiene false in
local macro_rules | `(tactic| fail) => `(tactic| (with_reducible apply st_yes))
set_option hygiene false in
local macro_rules | `(tactic| fail) => `(tactic| first | ((with_reducible apply st_rtK); (exact Nat.zero_le _); (exact rfl); ((intro z; cases z)); (first | exact rfl | assumption | (first | (apply Well.noC; assumption) | (apply WellC.noC; assumption) | (apply PotB.noC; assumption) | (apply WellE.noC; assumption)) | (simp [noCO, noCs_ints, noCs_strs, natsD_noC, *]; done) | (simp only [noCO, noCs, noC, Bool.true_and, Bool.and_true, noCs_ints, noCs_strs, natsD_noC, *])); (first | exact rfl | (refine noCM1 ?_; first | assumption | (first | (apply Well.noC; assumption) | (apply WellC.noC; assumption) | (apply PotB.noC; assumption) | (apply WellE.noC; assumption))) | (simp only [noCM, noCO, noCs, noC, List.take, List.length, Bool.true_and, Bool.and_true, noCs_ints, noCs_strs, natsD_noC, *]; done))) | fail_if_success skip)
set_option hygiene false in
local macro_rules | `(tactic| fail) => `(tactic| first | ((with_reducible apply st_rtC); (exact rfl)) | fail_if_success skip)
set_option hygiene false in
local macro_rules | `(tactic| fail) => `(tactic| first | ((with_reducible apply st_rt); (first | exact rfl | assumption | exact natsD_noC _ | exact noCs_chars _ | exact noCs_sp _ | exact noC_sp _ | ((simp only [noCs, noC, Bool.true_and, Bool.and_true, noCs_ints, noCs_strs, natsD_noC, *]) <;> first | exact noC_sp _ | exact noC_pap _ | ((rw [noC_pap, noC_sp]); exact rfl) | skip)); (first | exact rfl | (refine noCM1 ?_; first | assumption | (first | (apply Well.noC; assumption) | (apply WellC.noC; assumption) | (apply PotB.noC; assumption) | (apply WellE.noC; assumption))) | (simp only [noCM, noCO, noCs, noC, List.take, List.length, Bool.true_and, Bool.and_true, noCs_ints, noCs_strs, natsD_noC, *]; done))) | fail_if_success skip)
set_option hygiene false in
local macro_rules | `(tactic| fail) => `(tactic| first | ((with_reducible apply st_callW); (first | exact rfl | exact get_c1 | exact get_c2 | exact get_new | exact get_new1 | exact get_new2 | assumption | (simp only [List.append_assoc, List.cons_append, List.nil_append, List.length_append, List.length_cons, List.length_nil, Nat.add_assoc, set_at0, set_at1, set_at2, set_at3]; first | exact get_at0 | exact get_at1 | exact get_at2 | exact get_at3)); (first | exact rfl | assumption | exact natsD_noC _ | exact noCs_chars _ | exact noCs_sp _ | exact noC_sp _ | ((simp only [noCs, noC, Bool.true_and, Bool.and_true, noCs_ints, noCs_strs, natsD_noC, *]) <;> first | exact noC_sp _ | exact noC_pap _ | ((rw [noC_pap, noC_sp]); exact rfl) | skip)); (first | exact rfl | assumption | (first | (apply Well.noC; assumption) | (apply WellC.noC; assumption) | (apply PotB.noC; assumption) | (apply WellE.noC; assumption))); (first | assumption | (first | (apply Well.live; assumption) | (apply WellC.live; assumption) | (apply PotB.live; assumption) | (apply WellE.live; assumption)) | (intro z; cases z))) | fail_if_success skip)
set_option hygiene false in
local macro_rules | `(tactic| fail) => `(tactic| (with_reducible apply st_bm))
set_option hygiene false in
local macro_rules | `(tactic| fail) => `(tactic| (with_reducible apply st_for))
set_option hygiene false in
local macro_rules | `(tactic| fail) => `(tactic| (with_reducible apply st_ifS))
set_option hygiene false in
local macro_rules | `(tactic| fail) => `(tactic| (with_reducible apply st_next))
set_option hygiene false in
local macro_rules | `(tactic| fail) => `(tactic| (with_reducible apply st_lc))
set_option hygiene false in
local macro_rules | `(tactic| fail) => `(tactic| (with_reducible apply st_lst))
set_option hygiene false in
local macro_rules | `(tactic| fail) => `(tactic| (with_reducible apply st_tup))
set_option hygiene false in
local macro_rules | `(tactic| fail) => `(tactic| (with_reducible apply st_iter))
set_option hygiene false in
local macro_rules | `(tactic| fail) => `(tactic| first | ((with_reducible apply st_callP); (first | exact rfl | assumption | exact natsD_noC _ | exact noCs_chars _ | exact noCs_sp _ | exact noC_sp _ | ((simp only [noCs, noC, Bool.true_and, Bool.and_true, noCs_ints, noCs_strs, natsD_noC, *]) <;> first | exact noC_sp _ | exact noC_pap _ | ((rw [noC_pap, noC_sp]); exact rfl) | skip))) | fail_if_success skip)
set_option hygiene false in
local macro_rules | `(tactic| fail) => `(tactic| (with_reducible apply st_test))
set_option hygiene false in
local macro_rules | `(tactic| fail) => `(tactic| (with_reducible apply st_ca1))
set_option hygiene false in
local macro_rules | `(tactic| fail) => `(tactic| (with_reducible apply st_ret))
set_option hygiene false in
local macro_rules | `(tactic| fail) => `(tactic| (with_reducible apply st_call))
set_option hygiene false in
local macro_rules | `(tactic| fail) => `(tactic| (with_reducible apply st_cb))
set_option hygiene false in
local macro_rules | `(tactic| fail) => `(tactic| (with_reducible apply st_asg))
set_option hygiene false in
local macro_rules | `(tactic| fail) => `(tactic| (with_reducible apply st_seq))
set_option hygiene false in
local macro_rules | `(tactic| fail) => `(tactic| first | ((with_reducible apply st_name); (first | (simp only [List.set_cons_succ, List.set_cons_zero]; done) | (simp only [List.set_cons_succ, List.set_cons_zero]; exact rfl) | exact rfl)) | fail_if_success skip)
set_option hygiene false in
local macro_rules | `(tactic| fail) => `(tactic| (with_reducible apply st_op))
set_option hygiene false in
local macro_rules | `(tactic| fail) => `(tactic| (with_reducible apply st_c))
set_option hygiene false in
local macro_rules | `(tactic| fail) => `(tactic| (with_reducible apply st_nil))
set_option hygiene false in
local macro_rules | `(tactic| fail) => `(tactic| (with_reducible apply st_cons))
set_option hygiene false in
local macro_rules | `(tactic| fail) => `(tactic| first | ((with_reducible apply st_var); (exact rfl)) | fail_if_success skip)
def topS (i : Nat) : Stmt := PySem.Challenge.pw_shortweave_k53_texts_of_none.main.body.getD i (.Pass ⟨0, 0, 0, 0⟩)
structure Txt (K : PySem.W.Frag) (mg : Str → Option Value) (C : Str → Addr) : Prop where
  f_is_row : GFun K mg "is_row" (topS 13) ["thing"]
  f_words_in : GFun K mg "words_in" (topS 17) ["text"]
  f_read_rows : GFun K mg "read_rows" (topS 18) ["text"]
  f_pieces_in : GFun K mg "pieces_in" (topS 19) ["word"]
  f_read_pieces : GFun K mg "read_pieces" (topS 20) ["text"]
  f__law_well : GFun K mg "_law_well" (topS 22) ["_law_cell"]
  f__law_draw : GFun K mg "_law_draw" (topS 23) ["_law_well_here", "_law_many"]
  f__law_letters : GFun K mg "_law_letters" (topS 24) ["_law_well_here"]
  f__law_rows : GFun K mg "_law_rows" (topS 25) ["_law_well_here", "_law_many", "_law_most"]
  f__law_piece_rows : GFun K mg "_law_piece_rows" (topS 26) ["_law_well_here", "_law_many"]
  f__law_word : GFun K mg "_law_word" (topS 27) ["_law_caught"]
  f__law_sign : GFun K mg "_law_sign" (topS 28) ["_law_well_here"]
  f__law_spoilt : GFun K mg "_law_spoilt" (topS 29) ["_law_well_here", "_law_text"]
  f__law_is_row : GFun K mg "_law_is_row" (topS 30) ["_law_word_here", "_law_most"]
  f__law_pieces : GFun K mg "_law_pieces" (topS 31) ["_law_word_here"]
  f__law_due : GFun K mg "_law_due" (topS 32) ["_law_way", "_law_text"]
  f__law_told : GFun K mg "_law_told" (topS 33) ["_law_way", "_law_text"]
  f__law_right : GFun K mg "_law_right" (topS 34) ["_law_text"]
  f_law : GFun K mg "law" (topS 35) ["_law_script"]
  n_ValueError : mg "ValueError" = none
  n_int : mg "int" = none
  n_isinstance : mg "isinstance" = none
  n_len : mg "len" = none
  n_list : mg "list" = none
  n_range : mg "range" = none
  n_repr : mg "repr" = none
  n_str : mg "str" = none
  g_SIGNS : ∃ t, mg "SIGNS" = some (.str "abcdefghijklmnopqrstuvwxyz" t)
  g_MOST_ROWS : ∃ t, mg "MOST_ROWS" = some (.int 8 t)
  g_MOST_SIGNS : ∃ t, mg "MOST_SIGNS" = some (.int 40 t)
  x_WeaveError : ExcF K mg "WeaveError" (C "WeaveError")
  x_NoRow : ExcF K mg "NoRow" (C "NoRow")
  x_NoRows : ExcF K mg "NoRows" (C "NoRows")
  x_NoWeave : ExcF K mg "NoWeave" (C "NoWeave")
  x_NoNumber : ExcF K mg "NoNumber" (C "NoNumber")
  x_NoSign : ExcF K mg "NoSign" (C "NoSign")
  x_NoPieces : ExcF K mg "NoPieces" (C "NoPieces")
  x_TooMany : ExcF K mg "TooMany" (C "TooMany")
  x_NoText : ExcF K mg "NoText" (C "NoText")
  x_NoAsk : ExcF K mg "NoAsk" (C "NoAsk")
  tab : ExTab K C
abbrev N_is_row : List Str := ["thing", "sign"]
theorem sc_is_row : FnScope N_is_row ["thing"] (defScope (topS 13)) := ⟨rfl, rfl, rfl, by decide +kernel, rfl, by decide +kernel, by decide +kernel⟩
def S_is_row (_ : Str → Addr) : DSp := fun ds μ Q _ => ∃ d, ds = [d] ∧ μ = [] ∧ kindOk d ∧ Q (.bl (isRowD d)) []
theorem u_is_row {C : Str → Addr} {d : D} {Q : DQ} {E : FE} (hk : kindOk d) (q : Q (.bl (isRowD d)) []) : S_is_row C [d] [] Q E := ⟨d, rfl, rfl, hk, q⟩
set_option hygiene false in
local macro_rules | `(tactic| array_get_dec) => `(tactic| ((with_reducible apply u_is_row); (assumption)))
theorem ok_is_row {P : Program} {w : World} {K : PySem.W.Frag} {mg : Str → Option Value} {base : Heap} {C : Str → Addr} (SB : SmB K mg base) (T : Txt K mg C) : Fd P w K mg base "is_row" 1 (S_is_row C) := by
  refine fd_mk T.f_is_row sc_is_row ?len (fun f cdv A outer s H E hr tk po => ⟨_, (ws_one (ws_ret (we_and (we_callB ld_isi rfl T.n_isinstance (by decide +kernel) (wa_cons (we_var 0) (wa_cons (we_bty (n := "str") T.n_str (by decide +kernel)) wa_nil))) (we_and1 (we_cmp (cd_eq hr.units) (we_lc finF_ok [("sign", 1)] sc_is_row.nd (wi_any (we_var 0)) (blkOk_by (own := [("sign", 1)]) (N := N_is_row) (sc := defScope (topS 13)) (by decide +kernel))
  (fun _ _ _ _ _ => (wg_name 1 sc_is_row.nd)) (fun _ _ _ _ _ => (wts_one (wt_cmp cd_notIn (we_var 1) (we_globS rfl T.g_SIGNS)))) (fun _ _ _ _ _ => (we_var 1))) (we_lst wa_nil)))))), ?body⟩)
  case' body => clear tk po hr E H s outer A cdv f
  case len => rintro _ _ _ _ ⟨_, rfl, _⟩; rfl
  case body =>
    rintro ds μ Q E' ⟨d, rfl, rfl, ⟨⟨t, ht⟩, hs⟩, q⟩
    refine ⟨_, rfl, _, _, t, _, rfl, ht, kit_str ht, _, rfl, fun hb => ?_, fun hb => ?_⟩
    · cases d <;> first | (exact Bool.noConfusion hb) | skip
      rename_i s
      refine ⟨_, rfl, _, rfl, lc_pure (fun d => match d with | .str [c] => !isL c | _ => false) id (by rw [chars_length]; exact sz5 (hs s rfl).1) ?_ ?_⟩
      · intro i d hd KA KF h1 h2
        obtain ⟨c, hc, rfl⟩ := chars_get hd
        refine ⟨_, rfl, c, rfl, _, rfl, fun hb => ⟨_, rfl, h1 ?_⟩, fun hb => h2 ?_⟩
        · show (!isL c) = true
          have : ¬ (c ∈ ("abcdefghijklmnopqrstuvwxyz" : Str).cps.toList) := by simpa using hb
          rw [mem_signs] at this
          simpa using this
        · show (!isL c) = false
          have : c ∈ ("abcdefghijklmnopqrstuvwxyz" : Str).cps.toList := by simpa using hb
          rw [mem_signs] at this
          simpa using this
      · refine ⟨Nat.zero_le _, okD_lst (by decide) fun d hd => ?_, okD_lst (by decide) (by simp), ?_⟩
        · obtain ⟨d', hd', rfl⟩ := List.mem_map.mp hd
          obtain ⟨c, hc, rfl⟩ := List.mem_map.mp (List.mem_filter.mp hd').1
          exact okD_str fun c' hc' => (hs s rfl).2 c' (by simp at hc'; subst hc'; exact hc)
        · refine .inl ⟨rfl, rfl, ?_⟩
          have e : deq (dr [] (.lst (((chars s).filter (fun d => match d with | .str [c] => !isL c | _ => false)).map id))) (dr [] (.lst [])) = isRow s := by
            show deq (.lst _) (.lst []) = _
            rw [deq_nil, List.map_id]
            unfold isRow chars
            apply Bool.eq_iff_iff.mpr
            simp only [decide_eq_true_eq, List.filter_eq_nil_iff, List.mem_map, List.all_eq_true]
            constructor
            · intro h c hc
              have := h (.str [c]) ⟨c, hc, rfl⟩
              simpa using this
            · rintro h d ⟨c, hc, rfl⟩
              simpa using h c hc
          rw [e]
          exact q
    · have e : isRowD d = false := by cases d <;> first | rfl | (exact Bool.noConfusion hb)
      rw [e] at q
      exact .inl ⟨rfl, rfl, q⟩

abbrev N_words_in : List Str := ["text", "words", "word"]
theorem sc_words_in : FnScope N_words_in ["text"] (defScope (topS 17)) := ⟨rfl, rfl, rfl, by decide +kernel, rfl, by decide +kernel, by decide +kernel⟩
def S_words_in (C : Str → Addr) : DSp := fun ds μ Q E => ∃ d, ds = [d] ∧ μ = [] ∧ kindOk d ∧ noC d = true ∧ (∀ ws, wordsT d = some ws → Q (strsD ws) []) ∧ (wordsT d = none → E (.ref (C "NoText")) [])
theorem u_words_in {C : Str → Addr} {d : D} {Q : DQ} {E : FE} (h : kindOk d) (hn : noC d = true) (q1 : ∀ ws, wordsT d = some ws → Q (strsD ws) []) (q2 : wordsT d = none → E (.ref (C "NoText")) []) : S_words_in C [d] [] Q E := ⟨d, rfl, rfl, h, hn, q1, q2⟩
set_option hygiene false in
local macro_rules | `(tactic| array_get_dec) => `(tactic| ((with_reducible apply u_words_in); (assumption); (assumption)))
theorem ok_words_in {P : Program} {w : World} {K : PySem.W.Frag} {mg : Str → Option Value} {base : Heap} {C : Str → Addr} (SB : SmB K mg base) (T : Txt K mg C) : Fd P w K mg base "words_in" 1 (S_words_in C) := by
  refine fd_mk T.f_words_in sc_words_in ?len (fun f cdv A outer s H E hr tk po => ⟨_, (ws_cons (ws_if (wt_not (wt_val (we_callB ld_isi rfl T.n_isinstance (by decide +kernel) (wa_cons (we_var 0) (wa_cons (we_bty (n := "str") T.n_str (by decide +kernel)) wa_nil)))))
  (ws_one (ws_raise T.x_NoText tk))
  ws_nil)
  (ws_cons (ws_set 1 sc_words_in.nd (we_bm .str (md_split outF_ok) PySem.F.plainAttrs_str PySem.F.slot_str_split PySem.F.type_str_split (we_var 0) (wa_cons we_str wa_nil)))
  (ws_cons (ws_if (wt_cmp (cd_eq hr.units) (we_var 0) we_str)
  (ws_one (ws_set 1 sc_words_in.nd (we_lst wa_nil)))
  ws_nil)
  (ws_cons (ws_if (wt_bool (ww_or (wt_cmp cd_in we_str (we_var 1)) (ww_or1 (wt_cmp cd_gt (we_callB ld_len rfl T.n_len (by decide +kernel) (wa_cons (we_var 1) wa_nil)) (we_globI rfl T.g_MOST_ROWS)))))
  (ws_one (ws_raise T.x_NoText tk))
  ws_nil)
  (ws_one (ws_ret (we_lc finF_ok [("word", 2)] sc_words_in.nd (wi_any (we_var 1)) (blkOk_by (own := [("word", 2)]) (N := N_words_in) (sc := defScope (topS 17)) (by decide +kernel))
  (fun _ _ _ _ _ => (wg_name 2 sc_words_in.nd)) (fun _ _ _ _ _ => wts_nil) (fun _ _ _ _ _ => (we_ix id_ix (we_lst (wa_cons we_str (wa_cons (we_var 2) wa_nil))) (we_callTy ld_int rfl T.n_int (by decide +kernel) (wa_cons (we_cmp (cd_ne hr.units) (we_var 2) we_str) wa_nil))))))))))), ?body⟩)
  case' body => clear tk po hr E H s outer A cdv f
  case len => rintro _ _ _ _ ⟨_, rfl, _⟩; rfl
  case body =>
    rintro ds μ Q E' ⟨d, rfl, rfl, hk, hn, q1, q2⟩
    have es : (" " : Str).cps.toList = [32] := rfl
    have ee : ("=" : Str).cps.toList = [61] := rfl
    have en : ("" : Str).cps.toList = [] := rfl
    have ed : ("-" : Str).cps.toList = [45] := rfl
    obtain ⟨⟨ty, ht⟩, hs⟩ := hk
    repeat' fail
    refine st_isi ht (kit_str ht) ?_
    cases d with
    | str t =>
      obtain ⟨lt, ct⟩ := hs t rfl
      have key : ∀ ws, wdsT t = ws → ws.length ≤ 100001 ∧ (([] ∈ ws ∨ 8 < ws.length) → wordsT (.str t) = none) ∧ (¬ ([] ∈ ws ∨ 8 < ws.length) → wordsT (.str t) = some (ws.map undW)) := fun ws e => by
        subst e
        refine ⟨(wdsT_len lt).1, fun h => ?_, fun h => ?_⟩
        · show (if okWs t then _ else none) = none
          rw [if_neg]
          unfold okWs
          rcases h with h | h
          · simp [h]
          · simp; omega
        · show (if okWs t then _ else none) = _
          rw [if_pos]
          unfold okWs
          rw [not_or] at h
          simp [h.1]
          omega
      repeat' fail
      rw [es, ee, en, ed]
      refine st_split (by decide) (sz (by omega)) ?_
      repeat' fail
      · have e : wdsT t = [] := by unfold wdsT; rw [if_pos hb]
        obtain ⟨k1, k2, k3⟩ := key _ e
        refine st_inStrs (l := []) (fun _ => nofun) rfl ?_
        repeat' fail
        refine ⟨fun _ acc μ => acc = [] ∧ μ = [], ⟨rfl, rfl⟩, fun (i : Nat) (d : D) (acc : List D) (μ : Mu) (hd : ([] : List D)[i]? = some d) => by simp at hd, ?_⟩
        rintro acc μ ⟨rfl, rfl⟩
        repeat' fail
        exact q1 [] (k3 (by simp))
      · have e : wdsT t = TL.spl [32] 0 [] t := by unfold wdsT; rw [if_neg hb]
        obtain ⟨k1, k2, k3⟩ := key _ e
        have lm : ((TL.spl [32] 0 [] t).map D.str).length ≤ 100001 := by rw [List.length_map]; exact k1
        refine st_inStrs (l := TL.spl [32] 0 [] t) (fun _ => nofun) rfl ?_
        repeat' fail
        · refine q2 (k2 (.inl ?_))
          simpa using hb
        · refine q2 (k2 (.inr ?_))
          have hg := hb
          simp at hg
          omega
        · have n1 : ¬ ([] ∈ TL.spl [32] 0 [] t ∨ 8 < (TL.spl [32] 0 [] t).length) := by
            rintro (h | h)
            · simp_all
            · have hg := hb
              simp at hg
              omega
          refine lc_strs (l := TL.spl [32] 0 [] t) (fun w => .str (undW w)) (sz (by rw [not_or] at n1; omega)) ?_ ?_
          · intro j w hj KA h1
            repeat' fail
            by_cases z2 : w = [45]
            · rw [show undW w = [] by unfold undW; rw [if_pos z2]] at h1
              rw [show (if (!decide (w = [45])) = true then (1 : Int) else 0) = 0 by rw [if_neg]; simp [z2]]
              exact st_ixL (d := .str []) rfl rfl (atI_of (j := 0) rfl rfl) h1
            · rw [show undW w = w by unfold undW; rw [if_neg z2]] at h1
              rw [show (if (!decide (w = [45])) = true then (1 : Int) else 0) = 1 by rw [if_pos]; simp [z2]]
              exact st_ixL (d := .str w) rfl rfl (atI_of (j := 1) rfl rfl) h1
          · refine st_finF ?_
            rw [show (TL.spl [32] 0 [] t).map (fun w => D.str (undW w)) = ((TL.spl [32] 0 [] t).map undW).map D.str by rw [List.map_map]; rfl]
            have nc := noCs_strs (xs := (TL.spl [32] 0 [] t).map undW)
            repeat' fail
            exact q1 _ (k3 n1)
    | _ =>
      repeat' fail
      all_goals exact q2 rfl

abbrev N_read_rows : List Str := ["text", "rows", "row"]
theorem sc_read_rows : FnScope N_read_rows ["text"] (defScope (topS 18)) := ⟨rfl, rfl, rfl, by decide +kernel, rfl, by decide +kernel, by decide +kernel⟩
def S_read_rows (C : Str → Addr) : DSp := fun ds μ Q E => ∃ d, ds = [d] ∧ μ = [] ∧ kindOk d ∧ noC d = true ∧ (∀ ws, rowsT d = some ws → Q (strsD ws) []) ∧ (rowsT d = none → E (.ref (C "NoText")) [])
theorem u_read_rows {C : Str → Addr} {d : D} {Q : DQ} {E : FE} (h : kindOk d) (hn : noC d = true) (q1 : ∀ ws, rowsT d = some ws → Q (strsD ws) []) (q2 : rowsT d = none → E (.ref (C "NoText")) []) : S_read_rows C [d] [] Q E := ⟨d, rfl, rfl, h, hn, q1, q2⟩
set_option hygiene false in
local macro_rules | `(tactic| array_get_dec) => `(tactic| ((with_reducible apply u_read_rows); (assumption); (assumption)))
theorem ok_read_rows {P : Program} {w : World} {K : PySem.W.Frag} {mg : Str → Option Value} {base : Heap} {C : Str → Addr} (SB : SmB K mg base) (T : Txt K mg C) : Fd P w K mg base "read_rows" 2 (S_read_rows C) := by
  have D_words_in := ok_words_in (P := P) (w := w) (base := base) SB T
  have D_is_row := ok_is_row (P := P) (w := w) (base := base) SB T
  refine fd_mk T.f_read_rows sc_read_rows ?len (fun f cdv A outer s H E hr tk po => ⟨_, (ws_cons (ws_set 1 sc_read_rows.nd (we_call callP_ok D_words_in (hr.mono (by decide)) tk (wa_cons (we_var 0) wa_nil)))
  (ws_cons (ws_if (wt_cmp (cd_ne hr.units) (we_lc finF_ok [("row", 2)] sc_read_rows.nd (wi_any (we_var 1)) (blkOk_by (own := [("row", 2)]) (N := N_read_rows) (sc := defScope (topS 18)) (by decide +kernel))
  (fun _ _ _ _ _ => (wg_name 2 sc_read_rows.nd)) (fun _ _ _ _ _ => (wts_one (wt_bool (ww_or (wt_not (wt_val (we_call callP_ok D_is_row (hr.mono (by decide)) takesB (wa_cons (we_var 2) wa_nil)))) (ww_or1 (wt_cmp cd_gt (we_callB ld_len rfl T.n_len (by decide +kernel) (wa_cons (we_var 2) wa_nil)) (we_globI rfl T.g_MOST_SIGNS))))))) (fun _ _ _ _ _ => (we_var 2))) (we_lst wa_nil))
  (ws_one (ws_raise T.x_NoText tk))
  ws_nil)
  (ws_one (ws_ret (we_var 1))))), ?body⟩)
  case' body => clear tk po hr E H s outer A cdv f
  case len => rintro _ _ _ _ ⟨_, rfl, _⟩; rfl
  case body =>
    rintro ds μ Q E' ⟨d, rfl, rfl, hk, hn, q1, q2⟩
    repeat' fail
    · intro ws hw
      have h8 := wordsT_len hw
      have hz := wordsT_kind hw hk
      have nc := noCs_strs (xs := ws)
      repeat' fail
      refine lc_fstrs (l := ws) (fun r => !okW r) (fun r => .str r) (sz (by omega)) ?_ ?_
      · intro j r hj KA KF g1 g2
        obtain ⟨c1, l1⟩ := hz r (List.mem_of_getElem? hj)
        have k1 := kind_str c1 l1
        have eo : okW r = (isRowD (.str r) && decide (r.length ≤ 40)) := rfl
        repeat' fail
        · exact g1 (by rw [eo, show isRowD (.str r) = false from not_t (by assumption)]; rfl)
        · have hl : ¬ r.length ≤ 40 := by omega
          exact g1 (by rw [eo, decide_eq_false hl, Bool.and_false]; rfl)
        · have hl : r.length ≤ 40 := by omega
          exact g2 (by rw [eo, decide_eq_true hl, show isRowD (.str r) = true from not_f (by assumption)]; rfl)
      · refine st_finF ?_
        repeat' fail
        refine st_neNil (fun d hd => ?_) ?_
        · obtain ⟨w, hw', rfl⟩ := List.mem_map.mp hd
          exact okD_str (hz w (List.mem_filter.mp hw').1).1
        repeat' fail
        · exact q2 (rowsT_none hw (by simpa using hb))
        · exact q1 _ (rowsT_some hw (by simpa using hb))
    · intro hw
      refine ⟨rfl, ?_⟩
      repeat' fail
      first | exact q2 (rowsT_no hw) | exact ⟨rfl, q2 (rowsT_no hw)⟩ | exact ⟨rfl, .inl ⟨rfl, q2 (rowsT_no hw)⟩⟩ | exact .inl ⟨rfl, q2 (rowsT_no hw)⟩

abbrev N_pieces_in : List Str := ["word", "pieces"]
theorem sc_pieces_in : FnScope N_pieces_in ["word"] (defScope (topS 19)) := ⟨rfl, rfl, rfl, by decide +kernel, rfl, by decide +kernel, by decide +kernel⟩
def S_pieces_in (C : Str → Addr) : DSp := fun ds μ Q E => ∃ w, ds = [.str w] ∧ μ = [] ∧ (Chs w ∧ w.length ≤ 100000) ∧ (okP w = true → Q (strsD (outP w)) []) ∧ (okP w = false → E (.ref (C "NoText")) [])
theorem u_pieces_in {C : Str → Addr} {w : List Nat} {Q : DQ} {E : FE} (h : Chs w ∧ w.length ≤ 100000) (q1 : okP w = true → Q (strsD (outP w)) []) (q2 : okP w = false → E (.ref (C "NoText")) []) : S_pieces_in C [.str w] [] Q E := ⟨w, rfl, rfl, h, q1, q2⟩
set_option hygiene false in
local macro_rules | `(tactic| array_get_dec) => `(tactic| ((with_reducible apply u_pieces_in); (assumption)))
theorem ok_pieces_in {P : Program} {w : World} {K : PySem.W.Frag} {mg : Str → Option Value} {base : Heap} {C : Str → Addr} (SB : SmB K mg base) (T : Txt K mg C) : Fd P w K mg base "pieces_in" 2 (S_pieces_in C) := by
  have D_is_row := ok_is_row (P := P) (w := w) (base := base) SB T
  refine fd_mk T.f_pieces_in sc_pieces_in ?len (fun f cdv A outer s H E hr tk po => ⟨_, (ws_cons (ws_if (wt_cmp (cd_eq hr.units) (we_var 0) we_str)
  (ws_one (ws_ret (we_lst wa_nil)))
  ws_nil)
  (ws_cons (ws_set 1 sc_pieces_in.nd (we_bm .str (md_split outF_ok) PySem.F.plainAttrs_str PySem.F.slot_str_split PySem.F.type_str_split (we_var 0) (wa_cons we_str wa_nil)))
  (ws_cons (ws_if (wt_bool (ww_or (wt_cmp cd_in we_str (we_var 1)) (ww_or (wt_not (wt_val (we_call callP_ok D_is_row (hr.mono (by decide)) tk (wa_cons (we_bm .str md_join PySem.F.plainAttrs_str PySem.F.slot_str_join PySem.F.type_str_join we_str (wa_cons (we_var 1) wa_nil)) wa_nil)))) (ww_or1 (wt_cmp cd_gt (we_callB ld_len rfl T.n_len (by decide +kernel) (wa_cons (we_bm .str md_join PySem.F.plainAttrs_str PySem.F.slot_str_join PySem.F.type_str_join we_str (wa_cons (we_var 1) wa_nil)) wa_nil)) (we_globI rfl T.g_MOST_SIGNS))))))
  (ws_one (ws_raise T.x_NoText tk))
  ws_nil)
  (ws_one (ws_ret (we_var 1)))))), ?body⟩)
  case' body => clear tk po hr E H s outer A cdv f
  case len => rintro _ _ _ _ ⟨_, rfl, _⟩; rfl
  case body =>
    rintro ds μ Q E' ⟨w, rfl, rfl, ⟨cw, lw⟩, q1, q2⟩
    have en : ("" : Str).cps.toList = [] := rfl
    have ep : ("+" : Str).cps.toList = [43] := rfl
    rw [en, ep]
    repeat' fail
    · have z : w = [] := by simpa using hb
      subst z
      repeat' fail
      exact q1 rfl
    · have z : w ≠ [] := by simpa using hb
      refine st_split (by decide) (sz (by omega)) ?_
      obtain ⟨ps, e⟩ : ∃ ps, TL.spl [43] 0 [] w = ps := ⟨_, rfl⟩
      obtain ⟨k1, k2, k3, _⟩ := spl1 (c := 43) w []
      have ek : okP w = (!decide ([] ∈ ps) && (isRow ps.flatten && decide (ps.flatten.length ≤ 40))) := by
        unfold okP pcsW
        rw [e, decide_eq_false z, Bool.false_or]
      have eo : outP w = ps := by unfold outP pcsW; rw [if_neg z, e]
      rw [e] at k1 k2 k3 ⊢
      have cf : Chs ps.flatten := fun c hc => by
        obtain ⟨p, hp, hc⟩ := List.mem_flatten.mp hc
        rcases (k3 p hp).2 c hc with y | y
        · cases y
        · exact cw c y
      have lf : ps.flatten.length ≤ 100000 := by simp at k2; simp; omega
      have kf := kind_str cf lf
      have ef : isRowD (.str ps.flatten) = isRow ps.flatten := rfl
      have nc := noCs_strs (xs := ps)
      repeat' fail
      refine st_inStrs (l := ps) (fun _ => nofun) rfl ?_
      repeat' fail
      · exact q2 (by rw [ek, decide_eq_true hb]; rfl)
      · refine st_joinS (sep := []) (l := ps) rfl (by show _ + _ * 0 ≤ _; omega) ?_
        rw [joinL_nil]
        repeat' fail
        · exact q2 (by rw [ek, show isRow ps.flatten = false from not_t (by assumption), Bool.false_and, Bool.and_false])
        · refine st_joinS (sep := []) (l := ps) rfl (by show _ + _ * 0 ≤ _; omega) ?_
          rw [joinL_nil]
          repeat' fail
          · exact q2 (by rw [ek, decide_eq_false (show ¬ ps.flatten.length ≤ 40 by omega), Bool.and_false, Bool.and_false])
          · rw [eo] at q1
            refine q1 ?_
            rw [ek, decide_eq_false (by assumption : ¬ [] ∈ ps), decide_eq_true (show ps.flatten.length ≤ 40 by omega), show isRow ps.flatten = true from not_f (by assumption)]
            rfl

abbrev N_read_pieces : List Str := ["text", "word"]
theorem sc_read_pieces : FnScope N_read_pieces ["text"] (defScope (topS 20)) := ⟨rfl, rfl, rfl, by decide +kernel, rfl, by decide +kernel, by decide +kernel⟩
def S_read_pieces (C : Str → Addr) : DSp := fun ds μ Q E => ∃ d, ds = [d] ∧ μ = [] ∧ kindOk d ∧ noC d = true ∧ (∀ L, pcsT d = some L → Q (.lst (L.map strsD)) []) ∧ (pcsT d = none → E (.ref (C "NoText")) [])
theorem u_read_pieces {C : Str → Addr} {d : D} {Q : DQ} {E : FE} (h : kindOk d) (hn : noC d = true) (q1 : ∀ L, pcsT d = some L → Q (.lst (L.map strsD)) []) (q2 : pcsT d = none → E (.ref (C "NoText")) []) : S_read_pieces C [d] [] Q E := ⟨d, rfl, rfl, h, hn, q1, q2⟩
set_option hygiene false in
local macro_rules | `(tactic| array_get_dec) => `(tactic| ((with_reducible apply u_read_pieces); (assumption); (assumption)))
theorem ok_read_pieces {P : Program} {w : World} {K : PySem.W.Frag} {mg : Str → Option Value} {base : Heap} {C : Str → Addr} (SB : SmB K mg base) (T : Txt K mg C) : Fd P w K mg base "read_pieces" 3 (S_read_pieces C) := by
  have D_pieces_in := ok_pieces_in (P := P) (w := w) (base := base) SB T
  have D_words_in := ok_words_in (P := P) (w := w) (base := base) SB T
  refine fd_mk T.f_read_pieces sc_read_pieces ?len (fun f cdv A outer s H E hr tk po => ⟨_, (ws_one (ws_ret (we_lcE finF_ok [("word", 1)] tk sc_read_pieces.nd (wi_any (we_call callP_ok D_words_in (hr.mono (by decide)) tk (wa_cons (we_var 0) wa_nil))) (blkOk_by (own := [("word", 1)]) (N := N_read_pieces) (sc := defScope (topS 20)) (by decide +kernel))
  (fun _ _ _ _ _ _ => (wg_name 1 sc_read_pieces.nd)) (fun _ _ _ _ _ _ => wts_nil) (fun _ _ _ _ _ _ _ tkb => (we_call callP_ok D_pieces_in (hr.mono (by decide)) tkb (wa_cons (we_var 1) wa_nil)))))), ?body⟩)
  case' body => clear tk po hr E H s outer A cdv f
  case len => rintro _ _ _ _ ⟨_, rfl, _⟩; rfl
  case body =>
    rintro ds μ Q E' ⟨d, rfl, rfl, hk, hn, q1, q2⟩
    refine st_lcE ?_
    repeat' fail
    · intro ws hw
      have h8 := wordsT_len hw
      have hz := wordsT_kind hw hk
      repeat' fail
      refine ⟨fun i acc (μ : Mu) => μ = [] ∧ acc = ((ws.take i).map outP).map strsD ∧ ∀ w ∈ ws.take i, okP w = true, ⟨rfl, rfl, fun _ h => nomatch h⟩, ?_, ?_⟩
      · rintro i d acc μ hd ⟨rfl, rfl, ho⟩
        rw [List.getElem?_map] at hd
        obtain ⟨w, hi, rfl⟩ := Option.map_eq_some_iff.mp hd
        have cw := hz w (List.mem_of_getElem? hi)
        show gdName 1 (.str w) _ _ _
        repeat' fail
        · intro hp
          refine ⟨rfl, noCs_strs, by rw [List.length_map, List.length_map, List.length_take]; exact szl (by omega), rfl, by rw [take_suc hi]; simp, fun v hv => ?_⟩
          rw [take_suc hi] at hv
          rcases List.mem_append.mp hv with h | h
          · exact ho v h
          · rw [List.mem_singleton.mp h]; exact hp
        · intro hp
          have no := pcsT_none hw (List.mem_of_getElem? hi) hp
          refine ⟨rfl, ?_⟩
          repeat' fail
          first | exact q2 no | exact ⟨rfl, q2 no⟩ | exact ⟨rfl, .inl ⟨rfl, q2 no⟩⟩ | exact .inl ⟨rfl, q2 no⟩
      · rintro acc μ ⟨rfl, rfl, ho⟩
        rw [List.length_map, List.take_length] at *
        have nc := noCs_strsD (ws.map outP)
        refine st_finF ?_
        repeat' fail
        exact q1 _ (pcsT_some hw ho)
    · intro hw
      refine ⟨rfl, ?_⟩
      repeat' fail
      first | exact q2 (pcsT_no hw) | exact ⟨rfl, q2 (pcsT_no hw)⟩ | exact ⟨rfl, .inl ⟨rfl, q2 (pcsT_no hw)⟩⟩ | exact .inl ⟨rfl, q2 (pcsT_no hw)⟩

abbrev N__law_well : List Str := ["_law_cell"]
theorem sc__law_well : FnScope N__law_well ["_law_cell"] (defScope (topS 22)) := ⟨rfl, rfl, rfl, by decide +kernel, rfl, by decide +kernel, by decide +kernel⟩
def S__law_well (_ : Str → Addr) : DSp := fun ds μ Q _ => ∃ c : Int, ds = [.int c] ∧ μ = [] ∧ ∀ o, WellC o → Q (.cell 0) [o]
theorem u__law_well {C : Str → Addr} {c : Int} {Q : DQ} {E : FE} (q : ∀ o, WellC o → Q (.cell 0) [o]) : S__law_well C [.int c] [] Q E := ⟨c, rfl, rfl, q⟩
set_option hygiene false in
local macro_rules | `(tactic| array_get_dec) => `(tactic| with_reducible apply u__law_well)
theorem ok__law_well {P : Program} {w : World} {K : PySem.W.Frag} {mg : Str → Option Value} {base : Heap} {C : Str → Addr} (SB : SmB K mg base) (T : Txt K mg C) : Fd P w K mg base "_law_well" 1 (S__law_well C) := by
  refine fd_mk T.f__law_well sc__law_well ?len (fun f cdv A outer s H E hr tk po => ⟨_, (ws_cons (ws_if (wt_cmp cd_ge (we_var 0) (we_bin bd_pow we_int we_int))
  (ws_one (ws_ret (we_lstC (wa_cons (we_var 0) (wa_cons (we_bin bd_mod (we_var 0) we_int) wa_nil)))))
  ws_nil)
  (ws_one (ws_ret (we_lstC (wa_cons we_int (wa_cons (we_bin bd_mod (we_var 0) we_int) wa_nil)))))), ?body⟩)
  case' body => clear tk po hr E H s outer A cdv f
  case len => rintro _ _ _ _ ⟨_, rfl, _⟩; rfl
  case body =>
    rintro ds μ Q E' ⟨c, rfl, rfl, q⟩
    repeat' fail
    all_goals exact q _ ⟨_, _, rfl⟩

abbrev N__law_draw : List Str := ["_law_well_here", "_law_many", "_law_got", "_law_stirred"]
theorem sc__law_draw : FnScope N__law_draw ["_law_well_here", "_law_many"] (defScope (topS 23)) := ⟨rfl, rfl, rfl, by decide +kernel, rfl, by decide +kernel, by decide +kernel⟩
def S__law_draw (_ : Str → Addr) : DSp := fun ds μ Q _ => ∃ (o : MO) (many : Int), ds = [.cell 0, .int many] ∧ μ = [o] ∧ WellC o ∧ 0 < many ∧ many < 1000000 ∧ ∀ (r : Int) (o' : MO), 0 ≤ r → r < many → WellC o' → Q (.int r) [o']
theorem u__law_draw {C : Str → Addr} {o : MO} {many : Int} {Q : DQ} {E : FE} (W : WellC o) (h : 0 < many ∧ many < 1000000) (q : ∀ (r : Int) (o' : MO), 0 ≤ r → r < many → WellC o' → Q (.int r) [o']) : S__law_draw C [.cell 0, .int many] [o] Q E := ⟨o, many, rfl, rfl, W, h.1, h.2, q⟩
set_option hygiene false in
local macro_rules | `(tactic| array_get_dec) => `(tactic| ((with_reducible apply u__law_draw); (assumption); (omega)))
theorem ok__law_draw {P : Program} {w : World} {K : PySem.W.Frag} {mg : Str → Option Value} {base : Heap} {C : Str → Addr} (SB : SmB K mg base) (T : Txt K mg C) : Fd P w K mg base "_law_draw" 1 (S__law_draw C) := by
  refine fd_mk T.f__law_draw sc__law_draw ?len (fun f cdv A outer s H E hr tk po => ⟨_, (ws_cons (ws_if (wt_cmp cd_gt (we_ix id_ix (we_var 0) we_int) we_int)
  (ws_cons (ws_set 2 sc__law_draw.nd (we_bin bd_mod (we_ix id_ix (we_var 0) we_int) (we_var 1)))
  (ws_cons (ws_asg (we_bin bd_fdv (we_ix id_ix (we_var 0) we_int) (we_var 1)) (wg_sub sd_lst (we_var 0) we_int))
  (ws_one (ws_ret (we_var 2)))))
  ws_nil)
  (ws_cons (ws_set 3 sc__law_draw.nd (we_bin bd_mod (we_bin (bd_add outF_ok) (we_bin (bd_mul outF_ok) (we_ix id_ix (we_var 0) we_int) we_int) we_int) we_int))
  (ws_cons (ws_set 3 sc__law_draw.nd (we_bin bd_mod (we_bin (bd_mul outF_ok) (we_var 3) (we_var 3)) we_int))
  (ws_cons (ws_asg (we_bin bd_mod (we_bin (bd_add outF_ok) (we_bin (bd_mul outF_ok) (we_var 3) we_int) we_int) we_int) (wg_sub sd_lst (we_var 0) we_int))
  (ws_one (ws_ret (we_bin bd_mod (we_bin bd_fdv (we_ix id_ix (we_var 0) we_int) we_int) (we_var 1)))))))), ?body⟩)
  case' body => clear tk po hr E H s outer A cdv f
  case len => rintro _ _ _ _ ⟨_, _, rfl, _⟩; rfl
  case body =>
    rintro ds μ Q E' ⟨o, many, rfl, rfl, ⟨a, b, rfl⟩, m0, m1, q⟩
    have fm : ∀ i : Int, 0 ≤ Int.fmod i many ∧ Int.fmod i many < many := fun i => by
      rw [fmod_pos m0]
      exact ⟨Int.emod_nonneg _ (by omega), Int.emod_lt_of_pos _ m0⟩
    have fM : ∀ i : Int, 0 ≤ Int.fmod i 2147483647 ∧ Int.fmod i 2147483647 < 2147483647 := fun i => by
      rw [fmod_pos (by decide)]
      exact ⟨Int.emod_nonneg _ (by decide), Int.emod_lt_of_pos _ (by decide)⟩
    have fN : ∀ i : Int, 0 ≤ Int.fmod i 2147483587 ∧ Int.fmod i 2147483587 < 2147483587 := fun i => by
      rw [fmod_pos (by decide)]
      exact ⟨Int.emod_nonneg _ (by decide), Int.emod_lt_of_pos _ (by decide)⟩
    repeat' fail
    · exact q _ _ (fm a).1 (fm a).2 ⟨_, _, rfl⟩
    · have h1 := fM (b * 48271 + 11)
      refine st_mulI (.inl ⟨by omega, by omega⟩) ?_
      repeat' fail
      exact q _ _ (fm _).1 (fm _).2 ⟨_, _, rfl⟩

abbrev N__law_letters : List Str := ["_law_well_here", "_law_left", "_law_many", "_law_k"]
theorem sc__law_letters : FnScope N__law_letters ["_law_well_here"] (defScope (topS 24)) := ⟨rfl, rfl, rfl, by decide +kernel, rfl, by decide +kernel, by decide +kernel⟩
def S__law_letters (_ : Str → Addr) : DSp := fun ds μ Q _ => ∃ (o : MO), ds = [.cell 0] ∧ μ = [o] ∧ WellC o ∧ ∀ (s : List Nat) (o' : MO), isRow s = true → s ≠ [] → s.length ≤ 26 → WellC o' → Q (.str s) [o']
theorem u__law_letters {C : Str → Addr} {o : MO} {Q : DQ} {E : FE} (W : WellC o) (q : ∀ (s : List Nat) (o' : MO), isRow s = true → s ≠ [] → s.length ≤ 26 → WellC o' → Q (.str s) [o']) : S__law_letters C [.cell 0] [o] Q E := ⟨o, rfl, rfl, W, q⟩
set_option hygiene false in
local macro_rules | `(tactic| array_get_dec) => `(tactic| ((with_reducible apply u__law_letters); (assumption)))
theorem ok__law_letters {P : Program} {w : World} {K : PySem.W.Frag} {mg : Str → Option Value} {base : Heap} {C : Str → Addr} (SB : SmB K mg base) (T : Txt K mg C) : Fd P w K mg base "_law_letters" 2 (S__law_letters C) := by
  have D__law_draw := ok__law_draw (P := P) (w := w) (base := base) SB T
  refine fd_mk T.f__law_letters sc__law_letters ?len (fun f cdv A outer s H E hr tk po => ⟨_, (ws_cons (ws_set 1 sc__law_letters.nd (we_callTy (ld_listA outC_ok) rfl T.n_list (by decide +kernel) (wa_cons we_str wa_nil)))
  (ws_cons (ws_set 2 sc__law_letters.nd (we_ix id_ix (we_lst (wa_cons we_int (wa_cons we_int (wa_cons we_int (wa_cons we_int (wa_cons we_int (wa_cons we_int wa_nil))))))) (we_call callW_ok D__law_draw (hr.mono (by decide)) tk (wa_cons (we_var 0) (wa_cons we_int wa_nil)))))
  (ws_one (ws_ret (we_bm .str md_join PySem.F.plainAttrs_str PySem.F.slot_str_join PySem.F.type_str_join we_str (wa_cons (we_lc finF_ok [("_law_k", 3)] sc__law_letters.nd (wi_rng1 T.n_range (wa_cons (we_var 2) wa_nil)) (blkOk_by (own := [("_law_k", 3)]) (N := N__law_letters) (sc := defScope (topS 24)) (by decide +kernel))
  (fun _ _ _ _ _ => (wg_name 3 sc__law_letters.nd)) (fun _ _ _ _ _ => wts_nil) (fun _ _ _ _ _ => (we_bm .lst md_popAt PySem.F.plainAttrs_list PySem.F.slot_list_pop PySem.F.type_list_pop (we_var 1) (wa_cons (we_call callW_ok D__law_draw (hr.mono (by decide)) takesB (wa_cons (we_var 0) (wa_cons (we_callB ld_len rfl T.n_len (by decide +kernel) (wa_cons (we_var 1) wa_nil)) wa_nil))) wa_nil)))) wa_nil)))))), ?body⟩)
  case' body => clear tk po hr E H s outer A cdv f
  case len => rintro _ _ _ _ ⟨_, rfl, _⟩; rfl
  case body =>
    rintro ds μ Q E' ⟨o, rfl, rfl, ho, q⟩
    have hsz : ("abcdefghijklmnopqrstuvwxyz" : Str).cps.toList.length ≤ sizeLine := by rw [abc_len]; exact sz (by decide)
    repeat' fail
    intro r o1 r0 r1 h1
    obtain ⟨m, hm, m0, m1⟩ : ∃ b : Nat, atI [D.int 1, D.int 2, D.int 2, D.int 3, D.int 4, D.int 26] r = some (.int (b : Int)) ∧ 0 < b ∧ b ≤ 26 := by
      have : r = 0 ∨ r = 1 ∨ r = 2 ∨ r = 3 ∨ r = 4 ∨ r = 5 := by omega
      rcases this with rfl | rfl | rfl | rfl | rfl | rfl
      · exact ⟨1, rfl, by decide⟩
      · exact ⟨2, rfl, by decide⟩
      · exact ⟨2, rfl, by decide⟩
      · exact ⟨3, rfl, by decide⟩
      · exact ⟨4, rfl, by decide⟩
      · exact ⟨26, rfl, by decide⟩
    repeat' fail
    refine st_ixL rfl rfl hm ?_
    repeat' fail
    refine ⟨fun i acc (μ' : Mu) => ∃ (o2 : MO) (left cs : List Nat), μ' = [o2, .lst (chars left)] ∧ WellC o2 ∧ left.length + i = 26 ∧ isRow left = true ∧ acc = (cs.map fun c => [c]).map .str ∧ cs.length = i ∧ isRow cs = true, ⟨o1, _, [], rfl, h1, by rw [abc_len], abc_row, rfl, rfl, rfl⟩, ?_, ?_⟩
    · rintro i d acc μ' hd ⟨o2, left, cs, rfl, h2, hl, rl, rfl, hc, rc⟩
      obtain ⟨hi, rfl⟩ := rangeD_get hd
      have hcl := chars_length left
      have hz : ((cs.map fun c => [c]).map D.str).length < sizeLine := by rw [List.length_map, List.length_map]; exact szl (by omega)
      repeat' fail
      intro k o3 k0 k1 h3
      obtain ⟨c, hc', hm⟩ := chr_at (s := left) (m := left.length) k0 (by omega) (Nat.le_refl _)
      have hk : left[k.toNat]? = some c := by
        rw [show k = ((k.toNat : Nat) : Int) by omega] at hc'
        unfold atI at hc'
        rw [ixN_nat (by omega)] at hc'
        exact hc'
      have hk2 : (chars left)[k.toNat]? = some (.str [c]) := by unfold chars; rw [List.getElem?_map, hk]; rfl
      repeat' fail
      refine st_popAt rfl (by omega) hk2 ?_
      repeat' fail
      refine ⟨hz, o3, left.eraseIdx k.toNat, cs ++ [c], ?_, h3, ?_, isRow_sub rl fun _ hx => List.mem_of_mem_eraseIdx hx, by simp, by simp [hc], isRow_app rc (isRow_one (isRow_mem rl hm))⟩
      · rw [← chars_erase]
        rfl
      · rw [List.length_eraseIdx, if_pos (get_lt hk)]
        omega
    · rintro acc μ' ⟨o2, left, cs, rfl, h2, hl, rl, rfl, hc, rc⟩
      rw [rangeD_length] at hc
      repeat' fail
      refine join_chars (by omega) ?_
      repeat' fail
      refine q _ _ rc ?_ (by omega) h2
      rintro rfl
      simp at hc
      omega

abbrev N__law_rows : List Str := ["_law_well_here", "_law_many", "_law_most", "_law_letters_here", "_law_found", "_law_k", "_law_row", "_law_way", "_law_j"]
theorem sc__law_rows : FnScope N__law_rows ["_law_well_here", "_law_many", "_law_most"] (defScope (topS 25)) := ⟨rfl, rfl, rfl, by decide +kernel, rfl, by decide +kernel, by decide +kernel⟩
def S__law_rows (_ : Str → Addr) : DSp := fun ds μ Q _ => ∃ (o : MO) (many most : Nat), ds = [.cell 0, .int many, .int most] ∧ μ = [o] ∧ WellC o ∧ many ≤ 100 ∧ most ≤ 1000 ∧ ∀ (rows : List (List Nat)) (o' : MO), rows.length = many → Rows rows most → WellC o' → Q (.lst (rows.map .str)) [o']
theorem u__law_rows {C : Str → Addr} {o : MO} {m n : Int} {Q : DQ} {E : FE} (W : WellC o) (h : 0 ≤ m ∧ m ≤ 100 ∧ 0 ≤ n ∧ n ≤ 1000) (q : ∀ (rows : List (List Nat)) (o' : MO), (rows.length : Int) = m → Rows rows n.toNat → WellC o' → Q (.lst (rows.map .str)) [o']) : S__law_rows C [.cell 0, .int m, .int n] [o] Q E :=
  ⟨o, m.toNat, n.toNat, by rw [Int.toNat_of_nonneg h.1, Int.toNat_of_nonneg h.2.2.1], rfl, W, by omega, by omega, fun rows o' h1 h2 h3 => q rows o' (by omega) h2 h3⟩
set_option hygiene false in
local macro_rules | `(tactic| array_get_dec) => `(tactic| ((with_reducible apply u__law_rows); (assumption); (omega)))
theorem ok__law_rows {P : Program} {w : World} {K : PySem.W.Frag} {mg : Str → Option Value} {base : Heap} {C : Str → Addr} (SB : SmB K mg base) (T : Txt K mg C) : Fd P w K mg base "_law_rows" 3 (S__law_rows C) := by
  have D__law_letters := ok__law_letters (P := P) (w := w) (base := base) SB T
  have D__law_draw := ok__law_draw (P := P) (w := w) (base := base) SB T
  refine fd_mk T.f__law_rows sc__law_rows ?len (fun f cdv A outer s H E hr tk po => ⟨_, (ws_cons (ws_set 3 sc__law_rows.nd (we_call callW_ok D__law_letters (hr.mono (by decide)) tk (wa_cons (we_var 0) wa_nil)))
  (ws_cons (ws_set 4 sc__law_rows.nd (we_lstC wa_nil))
  (ws_cons (ws_for po (wi_rng1 T.n_range (wa_cons (we_var 1) wa_nil)) (wg_name 5 sc__law_rows.nd)
  (ws_cons (ws_set 6 sc__law_rows.nd (we_bm .str md_join PySem.F.plainAttrs_str PySem.F.slot_str_join PySem.F.type_str_join we_str (wa_cons (we_lc finF_ok [("_law_j", 8)] sc__law_rows.nd (wi_rng1 T.n_range (wa_cons (we_call callW_ok D__law_draw (hr.mono (by decide)) tk (wa_cons (we_var 0) (wa_cons (we_bin (bd_add outF_ok) (we_var 2) we_int) wa_nil))) wa_nil)) (blkOk_by (own := [("_law_j", 8)]) (N := N__law_rows) (sc := defScope (topS 25)) (by decide +kernel))
  (fun _ _ _ _ _ => (wg_name 8 sc__law_rows.nd)) (fun _ _ _ _ _ => wts_nil) (fun _ _ _ _ _ => (we_ix id_ix (we_var 3) (we_call callW_ok D__law_draw (hr.mono (by decide)) takesB (wa_cons (we_var 0) (wa_cons (we_callB ld_len rfl T.n_len (by decide +kernel) (wa_cons (we_var 3) wa_nil)) wa_nil)))))) wa_nil)))
  (ws_cons (ws_set 7 sc__law_rows.nd (we_call callW_ok D__law_draw (hr.mono (by decide)) tk (wa_cons (we_var 0) (wa_cons we_int wa_nil))))
  (ws_consC (ws_if (wt_bool (ww_and (wt_cmp (cd_ne hr.units) (we_var 4) (we_lst wa_nil)) (ww_and1 (wt_cmp cd_lt (we_var 7) we_int))))
  (ws_cons (ws_set 6 sc__law_rows.nd (we_ix id_ix (we_var 4) (we_call callW_ok D__law_draw (hr.mono (by decide)) tk (wa_cons (we_var 0) (wa_cons (we_callB ld_len rfl T.n_len (by decide +kernel) (wa_cons (we_var 4) wa_nil)) wa_nil)))))
  (ws_one (ws_set 6 sc__law_rows.nd (we_ix id_ix (we_lst (wa_cons (we_var 6) (wa_cons (we_cut outF_ok (we_var 6) (wp_some (we_call callW_ok D__law_draw (hr.mono (by decide)) tk (wa_cons (we_var 0) (wa_cons (we_bin (bd_add outF_ok) (we_callB ld_len rfl T.n_len (by decide +kernel) (wa_cons (we_var 6) wa_nil)) we_int) wa_nil)))) wp_none) wa_nil))) (we_var 7)))))
  ws_nil)
  (ws_one (ws_drop (we_bm .lst md_append PySem.F.plainAttrs_list PySem.F.slot_list_append PySem.F.type_list_append (we_var 4) (wa_cons (we_var 6) wa_nil))))))))
  (ws_one (ws_ret (we_frz (we_var 4))))))), ?body⟩)
  case' body => clear tk po hr E H s outer A cdv f
  case len => rintro _ _ _ _ ⟨_, _, _, rfl, _⟩; rfl
  case body =>
    rintro ds μ Q E' ⟨o, many, most, rfl, rfl, ho, hmany, hmost, q⟩
    repeat' fail
    intro ls o1 rl ne ll h1
    have hl0 : 0 < ls.length := List.length_pos_iff.mpr ne
    repeat' fail
    refine ⟨fun i (δ : DS) (μ : Mu) => ∃ (o2 : MO) (rows : List (List Nat)) (d5 d6 d7 d8 : Option D), δ = [some (.cell 0), some (.int many), some (.int most), some (.str ls), some (.cell 1), d5, d6, d7, d8] ∧ μ = [o2, .lst (rows.map .str)] ∧ WellC o2 ∧ rows.length = i ∧ Rows rows most, ⟨o1, [], _, _, _, _, rfl, rfl, h1, rfl, Rows.nil⟩, ?_, ?_⟩
    · rintro i d δ μ hd ⟨o2, rows, d5, d6, d7, d8, rfl, rfl, h2, hl, hr⟩
      obtain ⟨hi, rfl⟩ := rangeD_get hd
      repeat' fail
      intro m o3 m0 m1 h3
      repeat' fail
      refine ⟨fun j acc (μ' : Mu) => ∃ (o4 : MO) (cs : List Nat), μ' = [o4, .lst (rows.map .str)] ∧ WellC o4 ∧ acc = (cs.map fun c => [c]).map .str ∧ cs.length = j ∧ isRow cs = true, ⟨o3, [], rfl, h3, rfl, rfl, rfl⟩, ?_, ?_⟩
      · rintro j d acc μ' hd ⟨o4, cs, rfl, h4, rfl, hc, rc⟩
        obtain ⟨hj, rfl⟩ := rangeD_get hd
        have hz : ((cs.map fun c => [c]).map D.str).length < sizeLine := by rw [List.length_map, List.length_map]; exact szl (by omega)
        repeat' fail
        intro k o5 k0 k1 h5
        obtain ⟨c, hc', hm⟩ := chr_at (s := ls) (m := ls.length) k0 (by omega) (Nat.le_refl _)
        repeat' fail
        refine st_ixS (sz (by omega)) hc' ?_
        exact ⟨hz, o5, cs ++ [c], rfl, h5, by simp, by simp [hc], isRow_app rc (isRow_one (isRow_mem rl hm))⟩
      · rintro acc μ' ⟨o4, cs, rfl, h4, rfl, hc, rc⟩
        rw [rangeD_length] at hc
        have hcl : cs.length ≤ most := by omega
        repeat' fail
        refine join_chars (by omega) ?_
        repeat' fail
        intro way o5 w0 w1 h5
        repeat' fail
        with_reducible refine cutC (fun δ μ => ∃ (o : MO) (r : List Nat) (d7 d8 : Option D), δ = [some (.cell 0), some (.int many), some (.int most), some (.str ls), some (.cell 1), some (.int (0 + (i : Int) * 1)), some (.str r), d7, d8] ∧ μ = [o, .lst (rows.map .str)] ∧ WellC o ∧ isRow r = true ∧ r.length ≤ most) ?_ ?_
        · intro N hN
          repeat' fail
          refine st_neNilC rfl (strs_ok hr) ?_
          repeat' fail
          · have hne : ¬ rows.map D.str = [] := by assumption
            have hp : 0 < (rows.map D.str).length := List.length_pos_iff.mpr hne
            have hrl : (rows.map D.str).length ≤ 100 := by rw [List.length_map]; omega
            repeat' fail
            intro k o6 k0 k1 h6
            rw [List.length_map] at k1
            obtain ⟨r, hrk⟩ : ∃ r, rows[k.toNat]? = some r := ⟨_, List.getElem?_eq_getElem (by omega)⟩
            have hr' := hr.get hrk
            have rr := hr'.1
            have rl' := hr'.2
            repeat' fail
            refine st_ixC (xs := rows.map .str) ?_ (atI_of (i := k) (j := k.toNat) (x := .str r) (by omega) (by rw [List.getElem?_map, hrk]; rfl)) ?_
            · exact rfl
            repeat' fail
            intro z o7 z0 z1 h7
            have lc := cutL_len r (some z) none
            repeat' fail
            have hw : way = 0 ∨ way = 1 := by omega
            rcases hw with rfl | rfl
            · refine st_ixL (d := .str r) rfl rfl (atI_of (j := 0) rfl rfl) ?_
              repeat' fail
              exact hN _ _ ⟨_, _, _, _, rfl, rfl, h7, rr, rl'⟩
            · refine st_ixL (d := .str (cutL r (some z) none)) rfl rfl (atI_of (j := 1) rfl rfl) ?_
              repeat' fail
              exact hN _ _ ⟨_, _, _, _, rfl, rfl, h7, isRow_cut rr _ _, by omega⟩
          · exact hN _ _ ⟨_, _, _, _, rfl, rfl, h5, rc, hcl⟩
          · exact hN _ _ ⟨_, _, _, _, rfl, rfl, h5, rc, hcl⟩
        · rintro δ μ ⟨o6, r, d7, d8, rfl, rfl, h6, rr, lr⟩
          repeat' fail
          exact ⟨o6, rows ++ [r], _, _, _, _, rfl, by rw [List.map_append]; rfl, h6, by simp [hl], hr.app rr lr⟩
    · rintro δ μ ⟨o2, rows, d5, d6, d7, d8, rfl, rfl, h2, hl, hr⟩
      rw [rangeD_length] at hl
      have nc := noCs_strs (xs := rows)
      repeat' fail
      exact q _ _ (by omega) hr h2

abbrev N__law_piece_rows : List Str := ["_law_well_here", "_law_many", "_law_letters_here", "_law_found", "_law_k", "_law_pieces_here", "_law_j", "_law_most", "_law_i"]
theorem sc__law_piece_rows : FnScope N__law_piece_rows ["_law_well_here", "_law_many"] (defScope (topS 26)) := ⟨rfl, rfl, rfl, by decide +kernel, rfl, by decide +kernel, by decide +kernel⟩
def S__law_piece_rows (_ : Str → Addr) : DSp := fun ds μ Q _ => ∃ (o : MO) (many : Nat), ds = [.cell 0, .int many] ∧ μ = [o] ∧ WellC o ∧ many ≤ 100 ∧ ∀ (L : List (List (List Nat))) (o' : MO), L.length = many → PcL L → WellC o' → Q (.lst (L.map pcD)) [o']
theorem u__law_piece_rows {C : Str → Addr} {o : MO} {m : Int} {Q : DQ} {E : FE} (W : WellC o) (h : 0 ≤ m ∧ m ≤ 100) (q : ∀ (L : List (List (List Nat))) (o' : MO), (L.length : Int) = m → PcL L → WellC o' → Q (.lst (L.map pcD)) [o']) : S__law_piece_rows C [.cell 0, .int m] [o] Q E :=
  ⟨o, m.toNat, by rw [Int.toNat_of_nonneg h.1], rfl, W, by omega, fun L o' h1 h2 h3 => q L o' (by omega) h2 h3⟩
set_option hygiene false in
local macro_rules | `(tactic| array_get_dec) => `(tactic| ((with_reducible apply u__law_piece_rows); (assumption); (omega)))
theorem ok__law_piece_rows {P : Program} {w : World} {K : PySem.W.Frag} {mg : Str → Option Value} {base : Heap} {C : Str → Addr} (SB : SmB K mg base) (T : Txt K mg C) : Fd P w K mg base "_law_piece_rows" 3 (S__law_piece_rows C) := by
  have D__law_letters := ok__law_letters (P := P) (w := w) (base := base) SB T
  have D__law_draw := ok__law_draw (P := P) (w := w) (base := base) SB T
  refine fd_mk T.f__law_piece_rows sc__law_piece_rows ?len (fun f cdv A outer s H E hr tk po => ⟨_, (ws_cons (ws_set 2 sc__law_piece_rows.nd (we_call callW_ok D__law_letters (hr.mono (by decide)) tk (wa_cons (we_var 0) wa_nil)))
  (ws_cons (ws_set 3 sc__law_piece_rows.nd (we_lstC wa_nil))
  (ws_cons (ws_for po (wi_rng1 T.n_range (wa_cons (we_var 1) wa_nil)) (wg_name 4 sc__law_piece_rows.nd)
  (ws_cons (ws_set 5 sc__law_piece_rows.nd (we_lstC wa_nil))
  (ws_cons (ws_for po (wi_rng1 T.n_range (wa_cons (we_call callW_ok D__law_draw (hr.mono (by decide)) tk (wa_cons (we_var 0) (wa_cons (we_ix id_ix (we_lst (wa_cons we_int (wa_cons we_int (wa_cons we_int wa_nil)))) (we_call callW_ok D__law_draw (hr.mono (by decide)) tk (wa_cons (we_var 0) (wa_cons we_int wa_nil)))) wa_nil))) wa_nil)) (wg_name 6 sc__law_piece_rows.nd)
  (ws_cons (ws_set 7 sc__law_piece_rows.nd (we_ix id_ix (we_lst (wa_cons we_int (wa_cons we_int (wa_cons we_int (wa_cons we_int wa_nil))))) (we_call callW_ok D__law_draw (hr.mono (by decide)) tk (wa_cons (we_var 0) (wa_cons we_int wa_nil)))))
  (ws_cons (ws_drop (we_bm .lst md_append PySem.F.plainAttrs_list PySem.F.slot_list_append PySem.F.type_list_append (we_var 5) (wa_cons (we_bm .str md_join PySem.F.plainAttrs_str PySem.F.slot_str_join PySem.F.type_str_join we_str (wa_cons (we_lc finF_ok [("_law_i", 8)] sc__law_piece_rows.nd (wi_rng1 T.n_range (wa_cons (we_bin (bd_add outF_ok) we_int (we_call callW_ok D__law_draw (hr.mono (by decide)) tk (wa_cons (we_var 0) (wa_cons (we_var 7) wa_nil)))) wa_nil)) (blkOk_by (own := [("_law_i", 8)]) (N := N__law_piece_rows) (sc := defScope (topS 26)) (by decide +kernel))
  (fun _ _ _ _ _ => (wg_name 8 sc__law_piece_rows.nd)) (fun _ _ _ _ _ => wts_nil) (fun _ _ _ _ _ => (we_ix id_ix (we_var 2) (we_call callW_ok D__law_draw (hr.mono (by decide)) takesB (wa_cons (we_var 0) (wa_cons (we_callB ld_len rfl T.n_len (by decide +kernel) (wa_cons (we_var 2) wa_nil)) wa_nil)))))) wa_nil)) wa_nil)))
  (ws_one (ws_if (wt_cmp cd_gt (we_callB ld_len rfl T.n_len (by decide +kernel) (wa_cons (we_bm .str md_join PySem.F.plainAttrs_str PySem.F.slot_str_join PySem.F.type_str_join we_str (wa_cons (we_var 5) wa_nil)) wa_nil)) we_int)
  (ws_one (ws_drop (we_bm0 .lst md_pop PySem.F.plainAttrs_list PySem.F.slot_list_pop PySem.F.type_list_pop (we_var 5))))
  ws_nil)))))
  (ws_one (ws_drop (we_bm .lst md_append PySem.F.plainAttrs_list PySem.F.slot_list_append PySem.F.type_list_append (we_var 3) (wa_cons (we_frz (we_var 5)) wa_nil)))))))
  (ws_one (ws_ret (we_frz (we_var 3))))))), ?body⟩)
  case' body => clear tk po hr E H s outer A cdv f
  case len => rintro _ _ _ _ ⟨_, _, rfl, _⟩; rfl
  case body =>
    rintro ds μ Q E' ⟨o, many, rfl, rfl, ho, hmany, q⟩
    have ee : ("" : Str).cps.toList = [] := rfl
    rw [ee]
    repeat' fail
    intro ls o1 rl ne ll h1
    have hl0 : 0 < ls.length := List.length_pos_iff.mpr ne
    repeat' fail
    refine ⟨fun i (δ : DS) (μ : Mu) => ∃ (o2 : MO) (L : List (List (List Nat))) (ν : Mu) (d4 d5 d6 d7 d8 : Option D), δ = [some (.cell 0), some (.int many), some (.str ls), some (.cell 1), d4, d5, d6, d7, d8] ∧ μ = o2 :: .lst (L.map pcD) :: ν ∧ WellC o2 ∧ L.length = i ∧ PcL L, ⟨o1, [], [], _, _, _, _, _, rfl, rfl, h1, rfl, fun _ h => nomatch h⟩, ?_, ?_⟩
    · rintro i d δ μ hd ⟨o2, L, ν, d4, d5, d6, d7, d8, rfl, rfl, h2, hl, hL⟩
      obtain ⟨hi, rfl⟩ := rangeD_get hd
      repeat' fail
      intro r o3 r0 r1 h3
      repeat' fail
      obtain ⟨m, em, m0, m1⟩ : ∃ m : Int, atI [D.int 3, D.int 7, D.int 41] r = some (.int m) ∧ 1 ≤ m ∧ m ≤ 41 := by
        rcases (by omega : r = 0 ∨ r = 1 ∨ r = 2) with rfl | rfl | rfl
        all_goals exact ⟨_, rfl, by omega, by omega⟩
      refine st_ixL rfl rfl em ?_
      repeat' fail
      intro n o4 n0 n1 h4
      repeat' fail
      generalize hN : (o2 :: MO.lst (L.map pcD) :: ν).length = N
      have hN' : ∀ o' : MO, N = (o' :: MO.lst (L.map pcD) :: ν).length := fun o' => by rw [← hN]; rfl
      have gN : ∀ (o' : MO) (X : List D), ((o' :: MO.lst (L.map pcD) :: ν) ++ [MO.lst X])[N]? = some (.lst X) := fun o' X => by rw [hN' o']; exact get_new
      have sN : ∀ (o' : MO) (X Y : List D), ((o' :: MO.lst (L.map pcD) :: ν) ++ [MO.lst X]).set N (.lst Y) = (o' :: MO.lst (L.map pcD) :: ν) ++ [MO.lst Y] := fun o' X Y => by rw [hN' o', set_new]
      refine ⟨fun j (δ : DS) (μ : Mu) => ∃ (o : MO) (ps : List (List Nat)) (d6 d7 d8 : Option D), δ = [some (.cell 0), some (.int many), some (.str ls), some (.cell 1), some (.int (0 + (i : Int) * 1)), some (.cell N), d6, d7, d8] ∧ μ = (o :: .lst (L.map pcD) :: ν) ++ [.lst (ps.map .str)] ∧ WellC o ∧ Pcs ps, ⟨o4, [], _, _, _, rfl, rfl, h4, Pcs.nil⟩, ?_, ?_⟩
      · rintro j d δ μ hd ⟨o5, ps, d6, d7, d8, rfl, rfl, h5, hp⟩
        obtain ⟨hj, rfl⟩ := rangeD_get hd
        repeat' fail
        intro s o6 s0 s1 h6
        repeat' fail
        obtain ⟨t, et, t0, t1⟩ : ∃ t : Int, atI [D.int 3, D.int 8, D.int 1, D.int 40] s = some (.int t) ∧ 1 ≤ t ∧ t ≤ 40 := by
          rcases (by omega : s = 0 ∨ s = 1 ∨ s = 2 ∨ s = 3) with rfl | rfl | rfl | rfl
          all_goals exact ⟨_, rfl, by omega, by omega⟩
        refine st_ixL rfl rfl et ?_
        have g5 := gN o6 (ps.map .str)
        repeat' fail
        intro u o7 u0 u1 h7
        repeat' fail
        refine ⟨fun k acc (μ' : Mu) => ∃ (o8 : MO) (cs : List Nat), μ' = (o8 :: .lst (L.map pcD) :: ν) ++ [.lst (ps.map .str)] ∧ WellC o8 ∧ acc = (cs.map fun c => [c]).map .str ∧ cs.length = k ∧ isRow cs = true, ⟨o7, [], rfl, h7, rfl, rfl, rfl⟩, ?_, ?_⟩
        · rintro k d acc μ' hd ⟨o8, cs, rfl, h8, rfl, hc, rc⟩
          obtain ⟨hk, rfl⟩ := rangeD_get hd
          have hz : ((cs.map fun c => [c]).map D.str).length < sizeLine := by rw [List.length_map, List.length_map]; exact szl (by omega)
          repeat' fail
          intro k o9 k0 k1 h9
          repeat' fail
          obtain ⟨c, hc', hm⟩ := chr_at (s := ls) (m := ls.length) k0 (by omega) (Nat.le_refl _)
          refine st_ixS (sz (by omega)) hc' ?_
          exact ⟨hz, o9, cs ++ [c], rfl, h9, by simp, by simp [hc], isRow_app rc (isRow_one (isRow_mem rl hm))⟩
        · rintro acc μ' ⟨o8, cs, rfl, h8, rfl, hc, rc⟩
          rw [rangeD_length] at hc
          have hcl : cs.length ≤ 40 ∧ 1 ≤ cs.length := by omega
          have hpl := hp.len
          have hpf := hp.2
          have lps : (ps.map D.str).length < sizeLine := by rw [List.length_map]; exact szl (by omega)
          have g6 := gN o8 (ps.map .str)
          repeat' fail
          refine join_chars (by omega) ?_
          have g7 := gN o8 (ps.map .str ++ [.str cs])
          have lf : (ps ++ [cs]).flatten.length = ps.flatten.length + cs.length := by rw [List.flatten_append, List.length_append, List.flatten_cons, List.flatten_nil, List.append_nil]
          have e7 : ps.map D.str ++ [D.str cs] = (ps ++ [cs]).map .str := by rw [List.map_append]; rfl
          repeat' fail
          rw [sN]
          repeat' fail
          rw [e7]
          refine st_joinS (sep := []) (l := ps ++ [cs]) (rdL_cell (by rw [← e7]; exact g7)) (by rw [lf, List.length_append, List.length_singleton]; show _ + _ * 0 ≤ _; omega) ?_
          rw [joinL_nil]
          rw [← e7]
          repeat' fail
          · refine st_pop (y := .str cs) g7 (by simp) ?_
            rw [List.dropLast_concat, sN]
            exact ⟨o8, ps, _, _, _, rfl, rfl, h8, hp⟩
          · refine ⟨o8, ps ++ [cs], _, _, _, rfl, by rw [← e7], h8, fun p hm => ?_, by omega⟩
            rcases List.mem_append.mp hm with hm | hm
            · exact hp.1 p hm
            · rw [List.mem_singleton.mp hm]
              exact ⟨rc, fun z => by rw [z] at hcl; simp at hcl⟩
      · rintro δ μ ⟨o5, ps, d6, d7, d8, rfl, rfl, h5, hp⟩
        have g5 := gN o5 (ps.map .str)
        have lL : (L.map pcD).length < sizeLine := by rw [List.length_map]; exact szl (by omega)
        have sD : ((o5 :: MO.lst (L.map pcD) :: ν) ++ [MO.lst (ps.map .str)]).set N .dead = (o5 :: MO.lst (L.map pcD) :: ν) ++ [MO.dead] := by rw [hN' o5, set_new]
        repeat' fail
        rw [sD]
        repeat' fail
        refine ⟨o5, L ++ [ps], ν ++ [.dead], _, _, _, _, _, rfl, ?_, h5, by rw [List.length_append, hl]; rfl, fun x hx => ?_⟩
        · rw [List.map_append]; rfl
        · rcases List.mem_append.mp hx with hx | hx
          · exact hL x hx
          · rw [List.mem_singleton.mp hx]; exact hp
    · rintro δ μ ⟨o2, L, ν, d4, d5, d6, d7, d8, rfl, rfl, h2, hl, hL⟩
      rw [rangeD_length] at hl
      have nL := noC_pcs L
      repeat' fail
      exact q L o2 (by omega) hL h2

abbrev N__law_word : List Str := ["_law_caught", "_law_kinds", "_law_words"]
theorem sc__law_word : FnScope N__law_word ["_law_caught"] (defScope (topS 27)) := ⟨rfl, rfl, rfl, by decide +kernel, rfl, by decide +kernel, by decide +kernel⟩
def S__law_word (C : Str → Addr) : DSp := fun ds μ Q _ => ∃ x, (x ∈ excs ∧ x ≠ "WeaveError") ∧ ds = [.exc (.ref (C x))] ∧ μ = [] ∧ Q (.str x.cps.toList) []
theorem u__law_word {C : Str → Addr} {x : Str} {Q : DQ} {E : FE} (h : x ∈ excs ∧ x ≠ "WeaveError") (q : Q (.str x.cps.toList) []) : S__law_word C [.exc (.ref (C x))] [] Q E := ⟨x, h, rfl, rfl, q⟩
set_option hygiene false in
local macro_rules | `(tactic| array_get_dec) => `(tactic| ((with_reducible apply u__law_word); (first | assumption | decide +kernel)))
abbrev kindsL (x : Str) : List Bool := [under x "NoRow", under x "NoRows", under x "NoWeave", under x "NoNumber", under x "NoSign", under x "NoPieces", under x "TooMany", under x "NoText", under x "NoAsk"]
/-- where its own name stands -/
theorem kinds_at {x : Str} (h : x ∈ excs ∧ x ≠ "WeaveError") : (kindsL x).count true = 1 ∧ ∃ j : Nat, (kindsL x)[j]? = some true ∧ (∀ m < j, (kindsL x)[m]? = some false) ∧
    atI [D.str ("NoRow" : Str).cps.toList, D.str ("NoRows" : Str).cps.toList, D.str ("NoWeave" : Str).cps.toList, D.str ("NoNumber" : Str).cps.toList, D.str ("NoSign" : Str).cps.toList, D.str ("NoPieces" : Str).cps.toList, D.str ("TooMany" : Str).cps.toList, D.str ("NoText" : Str).cps.toList, D.str ("NoAsk" : Str).cps.toList] (j : Nat) = some (.str x.cps.toList) := by
  obtain ⟨h, n⟩ := h
  unfold excs at h
  simp only [List.mem_cons, List.not_mem_nil, or_false] at h
  rcases h with rfl | rfl | rfl | rfl | rfl | rfl | rfl | rfl | rfl | rfl
  · exact absurd rfl n
  · exact ⟨by decide +kernel, 0, by decide +kernel, by decide +kernel, rfl⟩
  · exact ⟨by decide +kernel, 1, by decide +kernel, by decide +kernel, rfl⟩
  · exact ⟨by decide +kernel, 2, by decide +kernel, by decide +kernel, rfl⟩
  · exact ⟨by decide +kernel, 3, by decide +kernel, by decide +kernel, rfl⟩
  · exact ⟨by decide +kernel, 4, by decide +kernel, by decide +kernel, rfl⟩
  · exact ⟨by decide +kernel, 5, by decide +kernel, by decide +kernel, rfl⟩
  · exact ⟨by decide +kernel, 6, by decide +kernel, by decide +kernel, rfl⟩
  · exact ⟨by decide +kernel, 7, by decide +kernel, by decide +kernel, rfl⟩
  · exact ⟨by decide +kernel, 8, by decide +kernel, by decide +kernel, rfl⟩
theorem ok__law_word {P : Program} {w : World} {K : PySem.W.Frag} {mg : Str → Option Value} {base : Heap} {C : Str → Addr} (SB : SmB K mg base) (T : Txt K mg C) : Fd P w K mg base "_law_word" 1 (S__law_word C) := by
  refine fd_mk T.f__law_word sc__law_word ?len (fun f cdv A outer s H E hr tk po => ⟨_, (ws_cons (ws_set 1 sc__law_word.nd (we_lst (wa_cons (we_callB (ld_isE T.tab) rfl T.n_isinstance (by decide +kernel) (wa_cons (we_var 0) (wa_cons (we_cls T.x_NoRow) wa_nil))) (wa_cons (we_callB (ld_isE T.tab) rfl T.n_isinstance (by decide +kernel) (wa_cons (we_var 0) (wa_cons (we_cls T.x_NoRows) wa_nil))) (wa_cons (we_callB (ld_isE T.tab) rfl T.n_isinstance (by decide +kernel) (wa_cons (we_var 0) (wa_cons (we_cls T.x_NoWeave) wa_nil))) wa_nil)))))
  (ws_cons (ws_set 1 sc__law_word.nd (we_bin (bd_add outF_ok) (we_var 1) (we_lst (wa_cons (we_callB (ld_isE T.tab) rfl T.n_isinstance (by decide +kernel) (wa_cons (we_var 0) (wa_cons (we_cls T.x_NoNumber) wa_nil))) (wa_cons (we_callB (ld_isE T.tab) rfl T.n_isinstance (by decide +kernel) (wa_cons (we_var 0) (wa_cons (we_cls T.x_NoSign) wa_nil))) (wa_cons (we_callB (ld_isE T.tab) rfl T.n_isinstance (by decide +kernel) (wa_cons (we_var 0) (wa_cons (we_cls T.x_NoPieces) wa_nil))) wa_nil))))))
  (ws_cons (ws_set 1 sc__law_word.nd (we_bin (bd_add outF_ok) (we_var 1) (we_lst (wa_cons (we_callB (ld_isE T.tab) rfl T.n_isinstance (by decide +kernel) (wa_cons (we_var 0) (wa_cons (we_cls T.x_TooMany) wa_nil))) (wa_cons (we_callB (ld_isE T.tab) rfl T.n_isinstance (by decide +kernel) (wa_cons (we_var 0) (wa_cons (we_cls T.x_NoText) wa_nil))) (wa_cons (we_callB (ld_isE T.tab) rfl T.n_isinstance (by decide +kernel) (wa_cons (we_var 0) (wa_cons (we_cls T.x_NoAsk) wa_nil))) wa_nil))))))
  (ws_cons (ws_if (wt_bool (ww_or (wt_cmp (cd_ne hr.units) (we_bm .lst md_countB PySem.F.plainAttrs_list PySem.F.slot_list_count PySem.F.type_list_count (we_var 1) (wa_cons we_bl wa_nil)) we_int) (ww_or1 (wt_not (wt_val (we_callB (ld_isE T.tab) rfl T.n_isinstance (by decide +kernel) (wa_cons (we_var 0) (wa_cons (we_bty (n := "ValueError") T.n_ValueError (by decide +kernel)) wa_nil))))))))
  (ws_one (ws_ret we_str))
  ws_nil)
  (ws_cons (ws_set 2 sc__law_word.nd (we_lst (wa_cons we_str (wa_cons we_str (wa_cons we_str (wa_cons we_str (wa_cons we_str (wa_cons we_str (wa_cons we_str (wa_cons we_str (wa_cons we_str wa_nil)))))))))))
  (ws_one (ws_ret (we_ix id_ix (we_var 2) (we_bm .lst md_indexB PySem.F.plainAttrs_list PySem.F.slot_list_index PySem.F.type_list_index (we_var 1) (wa_cons we_bl wa_nil)))))))))), ?body⟩)
  case' body => clear tk po hr E H s outer A cdv f
  case len => rintro _ _ _ _ ⟨_, _, rfl, _⟩; rfl
  case body =>
    rintro ds μ Q E' ⟨x, hx, rfl, rfl, q⟩
    have hxe := hx.1
    obtain ⟨e1, j, j1, j2, j3⟩ := kinds_at hx
    repeat' fail
    refine st_countB (bs := kindsL x) rfl ?_
    rw [e1]
    repeat' fail
    refine st_indexB (bs := kindsL x) j rfl j1 j2 ?_
    refine st_ixL rfl rfl j3 ?_
    exact .inl ⟨rfl, rfl, q⟩

abbrev N__law_sign : List Str := ["_law_well_here", "_law_wide", "_law_menu"]
theorem sc__law_sign : FnScope N__law_sign ["_law_well_here"] (defScope (topS 28)) := ⟨rfl, rfl, rfl, by decide +kernel, rfl, by decide +kernel, by decide +kernel⟩
def S__law_sign (_ : Str → Addr) : DSp := fun ds μ Q _ => ∃ (o : MO), ds = [.cell 0] ∧ μ = [o] ∧ WellC o ∧ ∀ (c : Nat) (o' : MO), c < 128 → WellC o' → Q (.str [c]) [o']
theorem u__law_sign {C : Str → Addr} {o : MO} {Q : DQ} {E : FE} (W : WellC o) (q : ∀ (c : Nat) (o' : MO), c < 128 → WellC o' → Q (.str [c]) [o']) : S__law_sign C [.cell 0] [o] Q E := ⟨o, rfl, rfl, W, q⟩
set_option hygiene false in
local macro_rules | `(tactic| array_get_dec) => `(tactic| ((with_reducible apply u__law_sign); (assumption)))
theorem ok__law_sign {P : Program} {w : World} {K : PySem.W.Frag} {mg : Str → Option Value} {base : Heap} {C : Str → Addr} (SB : SmB K mg base) (T : Txt K mg C) : Fd P w K mg base "_law_sign" 2 (S__law_sign C) := by
  have D__law_draw := ok__law_draw (P := P) (w := w) (base := base) SB T
  refine fd_mk T.f__law_sign sc__law_sign ?len (fun f cdv A outer s H E hr tk po => ⟨_, (ws_cons (ws_set 1 sc__law_sign.nd we_str)
  (ws_cons (ws_set 2 sc__law_sign.nd (we_ix id_ix (we_lst (wa_cons we_str (wa_cons (we_var 1) wa_nil))) (we_call callW_ok D__law_draw (hr.mono (by decide)) tk (wa_cons (we_var 0) (wa_cons we_int wa_nil)))))
  (ws_one (ws_ret (we_ix id_ix (we_var 2) (we_call callW_ok D__law_draw (hr.mono (by decide)) tk (wa_cons (we_var 0) (wa_cons (we_callB ld_len rfl T.n_len (by decide +kernel) (wa_cons (we_var 2) wa_nil)) wa_nil)))))))), ?body⟩)
  case' body => clear tk po hr E H s outer A cdv f
  case len => rintro _ _ _ _ ⟨_, rfl, _⟩; rfl
  case body =>
    rintro ds μ Q E' ⟨o, rfl, rfl, ho, q⟩
    repeat' fail
    intro r o1 r0 r1 h1
    repeat' fail
    obtain ⟨a, ea⟩ : ∃ a : List Nat, (" -=+az" : Str).cps.toList = a := ⟨_, rfl⟩
    obtain ⟨b, eb⟩ : ∃ b : List Nat, (" !\"#$&'()*+,-./0123456789:;<=>?@ABCDEFGHIJKLMNOPQRSTUVWXYZ[\\]^_`abcdefghijklmnopqrstuvwxyz{|}~\n\t" : Str).cps.toList = b := ⟨_, rfl⟩
    have ha : (a.length = 6) ∧ ∀ c ∈ a, c < 128 := by rw [← ea]; decide +kernel
    have hb : (b.length = 96) ∧ ∀ c ∈ b, c < 128 := by rw [← eb]; decide +kernel
    rw [ea, eb]
    obtain ⟨ms, em, l1, l2, l3⟩ : ∃ ms : List Nat, atI [D.str a, D.str b] r = some (.str ms) ∧ 0 < ms.length ∧ ms.length ≤ 97 ∧ ∀ c ∈ ms, c < 128 := by
      rcases (by omega : r = 0 ∨ r = 1) with rfl | rfl
      · exact ⟨a, rfl, by omega, by omega, ha.2⟩
      · exact ⟨b, rfl, by omega, by omega, hb.2⟩
    refine st_ixL rfl rfl em ?_
    repeat' fail
    intro k o2 k0 k1 h2
    repeat' fail
    obtain ⟨c, hc, hm⟩ := chr_at (s := ms) (m := ms.length) k0 (by omega) (Nat.le_refl _)
    refine st_ixS (sz (by omega)) hc ?_
    repeat' fail
    exact q c o2 (l3 c hm) h2

abbrev N__law_spoilt : List Str := ["_law_well_here", "_law_text", "_law_at", "_law_words", "_law_one", "_law_odd", "_law_word_here", "_law_way"]
theorem sc__law_spoilt : FnScope N__law_spoilt ["_law_well_here", "_law_text"] (defScope (topS 29)) := ⟨rfl, rfl, rfl, by decide +kernel, rfl, by decide +kernel, by decide +kernel⟩
def S__law_spoilt (_ : Str → Addr) : DSp := fun ds μ Q _ => ∃ (o : MO) (t : List Nat), ds = [.cell 0, .str t] ∧ μ = [o] ∧ WellC o ∧ (Chs t ∧ t.length ≤ 20000) ∧ ∀ (t' : List Nat) (o' : MO), Chs t' → t'.length ≤ 4 * t.length + 100 → WellC o' → Q (.str t') [o']
theorem u__law_spoilt {C : Str → Addr} {o : MO} {t : List Nat} {Q : DQ} {E : FE} (W : WellC o) (h : Chs t ∧ t.length ≤ 20000) (q : ∀ (t' : List Nat) (o' : MO), Chs t' → t'.length ≤ 4 * t.length + 100 → WellC o' → Q (.str t') [o']) : S__law_spoilt C [.cell 0, .str t] [o] Q E := ⟨o, t, rfl, rfl, W, h, q⟩
set_option hygiene false in
local macro_rules | `(tactic| array_get_dec) => `(tactic| ((with_reducible apply u__law_spoilt); (assumption); (assumption)))
abbrev oddW : List (List Nat) := [("-" : Str).cps.toList, ("=" : Str).cps.toList, ("" : Str).cps.toList, ("a" : Str).cps.toList, ("+" : Str).cps.toList, ("a+" : Str).cps.toList, ("+a" : Str).cps.toList, ("a++b" : Str).cps.toList, ("--" : Str).cps.toList, ("-a" : Str).cps.toList, ("a-" : Str).cps.toList, ("a+-" : Str).cps.toList, ("-+a" : Str).cps.toList, ("A" : Str).cps.toList, (List.replicate (40 : Int).toNat ("a" : Str).cps.toList).flatten, (List.replicate (41 : Int).toNat ("a" : Str).cps.toList).flatten, ("a+b" : Str).cps.toList]
theorem oddW_ok : ∀ w ∈ oddW, Chs w ∧ w.length ≤ 41 := by
  have h : (oddW.all fun w => w.all (fun c => decide (c < 0x110000)) && decide (w.length ≤ 41)) = true := by decide +kernel
  intro w hw
  have := List.all_eq_true.mp h w hw
  rw [Bool.and_eq_true] at this
  exact ⟨Chs.lit this.1, of_decide_eq_true this.2⟩
theorem at_strs {l : List (List Nat)} {k : Int} (h0 : 0 ≤ k) (h1 : k < l.length) : ∃ w ∈ l, atI (l.map D.str) k = some (.str w) := by
  have hk : k.toNat < l.length := by omega
  exact ⟨l[k.toNat], List.getElem_mem hk, atI_of (j := k.toNat) (by omega) (by rw [List.getElem?_map, List.getElem?_eq_getElem hk]; rfl)⟩
theorem ok__law_spoilt {P : Program} {w : World} {K : PySem.W.Frag} {mg : Str → Option Value} {base : Heap} {C : Str → Addr} (SB : SmB K mg base) (T : Txt K mg C) : Fd P w K mg base "_law_spoilt" 3 (S__law_spoilt C) := by
  have D__law_draw := ok__law_draw (P := P) (w := w) (base := base) SB T
  have D__law_sign := ok__law_sign (P := P) (w := w) (base := base) SB T
  refine fd_mk T.f__law_spoilt sc__law_spoilt ?len (fun f cdv A outer s H E hr tk po => ⟨_, (ws_cons (ws_set 2 sc__law_spoilt.nd (we_call callW_ok D__law_draw (hr.mono (by decide)) tk (wa_cons (we_var 0) (wa_cons (we_bin (bd_add outF_ok) (we_callB ld_len rfl T.n_len (by decide +kernel) (wa_cons (we_var 1) wa_nil)) we_int) wa_nil))))
  (ws_cons (ws_set 3 sc__law_spoilt.nd (we_bm .str (md_split outC_ok) PySem.F.plainAttrs_str PySem.F.slot_str_split PySem.F.type_str_split (we_var 1) (wa_cons we_str wa_nil)))
  (ws_cons (ws_set 4 sc__law_spoilt.nd (we_call callW_ok D__law_draw (hr.mono (by decide)) tk (wa_cons (we_var 0) (wa_cons (we_callB ld_len rfl T.n_len (by decide +kernel) (wa_cons (we_var 3) wa_nil)) wa_nil))))
  (ws_cons (ws_set 5 sc__law_spoilt.nd (we_lst (wa_cons we_str (wa_cons we_str (wa_cons we_str (wa_cons we_str (wa_cons we_str (wa_cons we_str (wa_cons we_str (wa_cons we_str (wa_cons we_str (wa_cons we_str (wa_cons we_str (wa_cons we_str (wa_cons we_str (wa_cons we_str (wa_cons (we_bin (bd_mul outF_ok) we_str we_int) (wa_cons (we_bin (bd_mul outF_ok) we_str we_int) (wa_cons we_str wa_nil)))))))))))))))))))
  (ws_cons (ws_set 6 sc__law_spoilt.nd (we_ix id_ix (we_var 5) (we_call callW_ok D__law_draw (hr.mono (by decide)) tk (wa_cons (we_var 0) (wa_cons we_int wa_nil)))))
  (ws_cons (ws_set 7 sc__law_spoilt.nd (we_call callW_ok D__law_draw (hr.mono (by decide)) tk (wa_cons (we_var 0) (wa_cons we_int wa_nil))))
  (ws_cons (ws_if (wt_cmp (cd_eq hr.units) (we_var 7) we_int)
  (ws_one (ws_ret (we_bin (bd_add outF_ok) (we_bin (bd_add outF_ok) (we_cut outF_ok (we_var 1) wp_none (wp_some (we_var 2))) (we_call callW_ok D__law_sign (hr.mono (by decide)) tk (wa_cons (we_var 0) wa_nil))) (we_cut outF_ok (we_var 1) (wp_some (we_var 2)) wp_none))))
  ws_nil)
  (ws_cons (ws_if (wt_cmp (cd_eq hr.units) (we_var 7) we_int)
  (ws_one (ws_ret (we_bin (bd_add outF_ok) (we_cut outF_ok (we_var 1) wp_none (wp_some (we_var 2))) (we_cut outF_ok (we_var 1) (wp_some (we_bin (bd_add outF_ok) (we_var 2) we_int)) wp_none))))
  ws_nil)
  (ws_cons (ws_if (wt_cmp (cd_eq hr.units) (we_var 7) we_int)
  (ws_one (ws_ret (we_bin (bd_add outF_ok) (we_bin (bd_add outF_ok) (we_cut outF_ok (we_var 1) wp_none (wp_some (we_var 2))) (we_call callW_ok D__law_sign (hr.mono (by decide)) tk (wa_cons (we_var 0) wa_nil))) (we_cut outF_ok (we_var 1) (wp_some (we_bin (bd_add outF_ok) (we_var 2) we_int)) wp_none))))
  ws_nil)
  (ws_cons (ws_if (wt_cmp (cd_eq hr.units) (we_var 7) we_int)
  (ws_one (ws_drop (we_bm .lst md_insert PySem.F.plainAttrs_list PySem.F.slot_list_insert PySem.F.type_list_insert (we_var 3) (wa_cons (we_var 4) (wa_cons (we_var 6) wa_nil)))))
  (ws_one (ws_if (wt_cmp (cd_eq hr.units) (we_var 7) we_int)
  (ws_one (ws_drop (we_bm .lst md_popAt PySem.F.plainAttrs_list PySem.F.slot_list_pop PySem.F.type_list_pop (we_var 3) (wa_cons (we_var 4) wa_nil))))
  (ws_one (ws_if (wt_cmp (cd_eq hr.units) (we_var 7) we_int)
  (ws_one (ws_asg (we_var 6) (wg_sub sd_lst (we_var 3) (we_var 4))))
  (ws_one (ws_if (wt_cmp (cd_eq hr.units) (we_var 7) we_int)
  (ws_one (ws_set 3 sc__law_spoilt.nd (we_bin (bd_add outC_ok) (we_var 3) (we_var 3))))
  (ws_one (ws_if (wt_cmp (cd_eq hr.units) (we_var 7) we_int)
  (ws_one (ws_ret (we_ix id_ix (we_lst (wa_four (bd_add outF_ok) (we_var 1) (we_bin (bd_add outF_ok) (we_var 1) we_str) (we_var 1) (we_bin (bd_add outF_ok) (we_var 1) we_str))) (we_call callW_ok D__law_draw (hr.mono (by decide)) tk (wa_cons (we_var 0) (wa_cons we_int wa_nil))))))
  ws_nil)))))))))
  (ws_one (ws_ret (we_bm .str md_join PySem.F.plainAttrs_str PySem.F.slot_str_join PySem.F.type_str_join we_str (wa_cons (we_var 3) wa_nil)))))))))))))), ?body⟩)
  case' body => clear tk po hr E H s outer A cdv f
  case len => rintro _ _ _ _ ⟨_, _, rfl, _⟩; rfl
  case body =>
    rintro ds μ Q E' ⟨o, t, rfl, rfl, ho, ⟨ct, lt⟩, q⟩
    repeat' fail
    intro at' o1 a0 a1 h1
    repeat' fail
    have es : (" " : Str).cps.toList = [32] := rfl
    have en : ("\n" : Str).cps.toList = [10] := rfl
    rw [es, en]
    refine st_split (by decide) (sz (by omega)) ?_
    obtain ⟨hW, nW⟩ := WdL.spl ct
    generalize TL.spl [32] 0 [] t = ws at hW nW ⊢
    have wl := hW.len
    have wp : 0 < (ws.map D.str).length ∧ (ws.map D.str).length ≤ t.length + 1 := by
      rw [List.length_map]
      exact ⟨List.length_pos_iff.mpr nW, wl⟩
    repeat' fail
    intro one o2 i0 i1 h2
    repeat' fail
    refine st_mulS (by decide) (by decide) ?_
    repeat' fail
    refine st_mulS (by decide) (by decide) ?_
    repeat' fail
    trace_state
    intro k o3 k0 k1 h3
    repeat' fail
    obtain ⟨w, hw, ew⟩ := at_strs (l := oddW) k0 k1
    obtain ⟨cw, lw⟩ := oddW_ok w hw
    refine st_ixL rfl rfl (show atI _ k = _ from ew) ?_
    repeat' fail
    intro way o4 w0 w1 h4
    have cL : Chs (cutL t none (some at')) := ct.cut _ _
    have cR : Chs (cutL t (some at') none) := ct.cut _ _
    have cR1 : Chs (cutL t (some (at' + 1)) none) := ct.cut _ _
    have lL := cutL_len t none (some at')
    have lR := cutL_len t (some at') none
    have lR1 := cutL_len t (some (at' + 1)) none
    repeat' fail
    · intro c o5 hc h5
      repeat' fail
      exact q _ o5 ((cL.app (Chs.one (by omega))).app cR) (by simp only [List.length_append, List.length_singleton]; omega) h5
    · exact q _ o4 (cL.app cR1) (by rw [List.length_append]; omega) h4
    · intro c o5 hc h5
      repeat' fail
      exact q _ o5 ((cL.app (Chs.one (by omega))).app cR1) (by simp only [List.length_append, List.length_singleton]; omega) h5
    · have J := (hW.ins one.toNat ⟨cw, lw⟩).join
      have Z := hW.ins one.toNat (w := w) ⟨cw, lw⟩
      have Z1 := Z.fl
      have Z2 := Z.len
      refine st_joinS (sep := [32]) (l := ws.take one.toNat ++ [w] ++ ws.drop one.toNat) (rdL_cell (by rw [List.map_append, List.map_append, List.map_take, List.map_drop]; rfl)) (by show _ + _ * 1 ≤ _; omega) ?_
      repeat' fail
      exact q _ o4 J.1 (by have := J.2; omega) h4
    · have ho : one.toNat < ws.length := by rw [List.length_map] at i1; omega
      refine st_popAt (xs := ws.map D.str) rfl ⟨i0, by omega⟩ (by rw [List.getElem?_map, List.getElem?_eq_getElem ho]; rfl) ?_
      repeat' fail
      have Z := hW.sub (List.eraseIdx_sublist ws one.toNat)
      have J := Z.join
      have Z1 := Z.fl
      have Z2 := Z.len
      refine st_joinS (sep := [32]) (l := ws.eraseIdx one.toNat) (rdL_cell (by rw [List.eraseIdx_eq_take_drop_succ, List.eraseIdx_eq_take_drop_succ, List.map_append, List.map_take, List.map_drop]; rfl)) (by show _ + _ * 1 ≤ _; omega) ?_
      repeat' fail
      exact q _ o4 J.1 (by have := J.2; omega) h4
    · refine st_setL (xs := ws.map D.str) rfl (ixN_of i0 i1) ?_
      repeat' fail
      have Z := hW.set one.toNat (w := w) ⟨cw, lw⟩
      have J := Z.join
      have Z1 := Z.fl
      have Z2 := Z.len
      refine st_joinS (sep := [32]) (l := ws.set one.toNat w) (rdL_cell (by rw [List.map_set]; rfl)) (by show _ + _ * 1 ≤ _; omega) ?_
      repeat' fail
      exact q _ o4 J.1 (by have := J.2; omega) h4
    · refine ⟨ws.map D.str, ws.map D.str, lstOf_cell rfl, lstOf_cell rfl, sz (by omega), ?_⟩
      repeat' fail
      have Z := hW.two
      have J := Z.join
      have Z1 := Z.fl
      have Z2 := Z.len
      refine st_joinS (sep := [32]) (l := ws ++ ws) (rdL_cell (by rw [List.map_append]; rfl)) (by show _ + _ * 1 ≤ _; omega) ?_
      repeat' fail
      exact q _ o4 J.1 (by have := J.2; omega) h4
    · refine st_repl1 ?_
      repeat' fail
      refine ⟨t, rfl, by show t.length + 2 ≤ _; omega, fun r lr mr => ?_⟩
      have cr : Chs r := fun c hc => (mr c hc).elim (ct c) (fun h => by
        have : c = 32 := by
          have h2 : c ∈ [32, 32] := h
          simp at h2
          exact h2
        omega)
      have lr2 : r.length ≤ t.length + 2 := lr
      repeat' fail
      intro k2 o5 k20 k21 h5
      repeat' fail
      rcases (by omega : k2 = 0 ∨ k2 = 1 ∨ k2 = 2 ∨ k2 = 3) with rfl | rfl | rfl | rfl
      · refine st_ixL rfl rfl (atI_of (j := 0) rfl rfl) ?_
        repeat' fail
        exact q _ o5 ((Chs.one (by decide)).app ct) (by rw [List.length_append]; show 1 + _ ≤ _; omega) h5
      · refine st_ixL rfl rfl (atI_of (j := 1) rfl rfl) ?_
        repeat' fail
        exact q _ o5 (ct.app (Chs.one (by decide))) (by rw [List.length_append]; show _ + 1 ≤ _; omega) h5
      · refine st_ixL rfl rfl (atI_of (j := 2) rfl rfl) ?_
        repeat' fail
        exact q _ o5 cr (by omega) h5
      · refine st_ixL rfl rfl (atI_of (j := 3) rfl rfl) ?_
        repeat' fail
        exact q _ o5 (ct.app (Chs.one (by decide))) (by rw [List.length_append]; show _ + 1 ≤ _; omega) h5
    · have J := hW.join
      have Z1 := hW.fl
      refine st_joinS (sep := [32]) (l := ws) (rdL_cell rfl) (by show _ + _ * 1 ≤ _; omega) ?_
      repeat' fail
      exact q _ o4 J.1 (by have := J.2; omega) h4

abbrev N__law_is_row : List Str := ["_law_word_here", "_law_most", "_law_odd", "_law_sign_here"]
theorem sc__law_is_row : FnScope N__law_is_row ["_law_word_here", "_law_most"] (defScope (topS 30)) := ⟨rfl, rfl, rfl, by decide +kernel, rfl, by decide +kernel, by decide +kernel⟩
def S__law_is_row (_ : Str → Addr) : DSp := fun ds μ Q _ => ∃ (w : List Nat) (m : Int), ds = [.str w, .int m] ∧ μ = [] ∧ (Chs w ∧ w.length ≤ 100000) ∧ Q (.bl (isRow w && (decide (1 ≤ w.length) && decide ((w.length : Int) ≤ m)))) []
theorem u__law_is_row {C : Str → Addr} {w : List Nat} {m : Int} {Q : DQ} {E : FE} (h : Chs w ∧ w.length ≤ 100000) (q : Q (.bl (isRow w && (decide (1 ≤ w.length) && decide ((w.length : Int) ≤ m)))) []) : S__law_is_row C [.str w, .int m] [] Q E := ⟨w, m, rfl, rfl, h, q⟩
set_option hygiene false in
local macro_rules | `(tactic| array_get_dec) => `(tactic| ((with_reducible apply u__law_is_row); (assumption)))
theorem ok__law_is_row {P : Program} {w : World} {K : PySem.W.Frag} {mg : Str → Option Value} {base : Heap} {C : Str → Addr} (SB : SmB K mg base) (T : Txt K mg C) : Fd P w K mg base "_law_is_row" 1 (S__law_is_row C) := by
  refine fd_mk T.f__law_is_row sc__law_is_row ?len (fun f cdv A outer s H E hr tk po => ⟨_, (ws_cons (ws_setLc finF_ok 2 [("_law_sign_here", 3)] sc__law_is_row.nd (wi_any (we_var 0)) (blkOk_by (own := [("_law_sign_here", 3)]) (N := N__law_is_row) (sc := defScope (topS 30)) (by decide +kernel))
  (fun _ _ _ _ _ => (wg_name 3 sc__law_is_row.nd)) (fun _ _ _ _ _ => (wts_one (wt_cmp cd_notIn (we_var 3) we_str))) (fun _ _ _ _ _ => (we_var 3)) (sw_true rfl rfl rfl (by decide +kernel)))
  (ws_one (ws_ret (we_and (we_cmp (cd_eq hr.units) (we_var 2) (we_lst wa_nil)) (we_and1 (we_chain cd_le cd_le we_int (we_callB ld_len rfl T.n_len (by decide +kernel) (wa_cons (we_var 0) wa_nil)) (we_var 1))))))), ?body⟩)
  case' body => clear tk po hr E H s outer A cdv f
  case len => rintro _ _ _ _ ⟨_, _, rfl, _⟩; rfl
  case body =>
    rintro ds μ Q E' ⟨s, m, rfl, rfl, ⟨cs, ls⟩, q⟩
    repeat' fail
    refine lc_pure (fun d => match d with | .str [c] => !isL c | _ => false) id (by rw [chars_length]; exact sz5 ls) ?_ ?_
    · intro i d hd KA KF h1 h2
      obtain ⟨c, hc, rfl⟩ := chars_get hd
      refine ⟨_, rfl, c, rfl, _, rfl, fun hb => ⟨_, rfl, h1 ?_⟩, fun hb => h2 ?_⟩
      · show (!isL c) = true
        have : ¬ (c ∈ ("abcdefghijklmnopqrstuvwxyz" : Str).cps.toList) := by simpa using hb
        rw [mem_signs] at this
        simpa using this
      · show (!isL c) = false
        have : c ∈ ("abcdefghijklmnopqrstuvwxyz" : Str).cps.toList := by simpa using hb
        rw [mem_signs] at this
        simpa using this
    · obtain ⟨odd, eo⟩ : ∃ odd : List D, ((chars s).filter (fun d => match d with | .str [c] => !isL c | _ => false)).map id = odd := ⟨_, rfl⟩
      have okO : ∀ d ∈ odd, okD 59 d := fun d hd => by
        rw [← eo] at hd
        obtain ⟨d', hd', rfl⟩ := List.mem_map.mp hd
        obtain ⟨c, hc, rfl⟩ := List.mem_map.mp (List.mem_filter.mp hd').1
        exact okD_str fun c' hc' => cs c' (by simp at hc'; subst hc'; exact hc)
      have e : decide (odd = []) = isRow s := by
        rw [← eo, List.map_id]
        unfold isRow chars
        apply Bool.eq_iff_iff.mpr
        simp only [decide_eq_true_eq, List.filter_eq_nil_iff, List.mem_map, List.all_eq_true]
        constructor
        · intro h c hc
          have := h (.str [c]) ⟨c, hc, rfl⟩
          simpa using this
        · rintro h d ⟨c, hc, rfl⟩
          simpa using h c hc
      rw [eo]
      rw [← e] at q
      refine st_finF ?_
      repeat' fail
      refine st_eqNil okO ?_
      repeat' fail
      · rw [decide_eq_true (by assumption : odd = []), decide_eq_true (show 1 ≤ s.length by omega)] at q
        exact q
      · rw [decide_eq_true (by assumption : odd = []), decide_eq_false (show ¬ 1 ≤ s.length by omega)] at q
        exact q
      · rw [decide_eq_false (by assumption : ¬ odd = [])] at q
        exact q

abbrev N__law_pieces : List Str := ["_law_word_here", "_law_pieces_here", "_law_piece"]
theorem sc__law_pieces : FnScope N__law_pieces ["_law_word_here"] (defScope (topS 31)) := ⟨rfl, rfl, rfl, by decide +kernel, rfl, by decide +kernel, by decide +kernel⟩
def S__law_pieces (_ : Str → Addr) : DSp := fun ds μ Q _ => ∃ w, ds = [.str w] ∧ μ = [] ∧ (Chs w ∧ w.length ≤ 100000) ∧ Q (dPd w) []
theorem u__law_pieces {C : Str → Addr} {w : List Nat} {Q : DQ} {E : FE} (h : Chs w ∧ w.length ≤ 100000) (q : Q (dPd w) []) : S__law_pieces C [.str w] [] Q E := ⟨w, rfl, rfl, h, q⟩
set_option hygiene false in
local macro_rules | `(tactic| array_get_dec) => `(tactic| ((with_reducible apply u__law_pieces); (assumption)))
theorem ok__law_pieces {P : Program} {w : World} {K : PySem.W.Frag} {mg : Str → Option Value} {base : Heap} {C : Str → Addr} (SB : SmB K mg base) (T : Txt K mg C) : Fd P w K mg base "_law_pieces" 2 (S__law_pieces C) := by
  have D__law_is_row := ok__law_is_row (P := P) (w := w) (base := base) SB T
  refine fd_mk T.f__law_pieces sc__law_pieces ?len (fun f cdv A outer s H E hr tk po => ⟨_, (ws_cons (ws_set 1 sc__law_pieces.nd (we_bm .str (md_split outF_ok) PySem.F.plainAttrs_str PySem.F.slot_str_split PySem.F.type_str_split (we_var 0) (wa_cons we_str wa_nil)))
  (ws_cons (ws_if (wt_bool (ww_or (wt_cmp (cd_ne hr.units) (we_lc finF_ok [("_law_piece", 2)] sc__law_pieces.nd (wi_any (we_var 1)) (blkOk_by (own := [("_law_piece", 2)]) (N := N__law_pieces) (sc := defScope (topS 31)) (by decide +kernel))
  (fun _ _ _ _ _ => (wg_name 2 sc__law_pieces.nd)) (fun _ _ _ _ _ => (wts_one (wt_not (wt_val (we_call callP_ok D__law_is_row (hr.mono (by decide)) takesB (wa_cons (we_var 2) (wa_cons we_int wa_nil))))))) (fun _ _ _ _ _ => (we_var 2))) (we_lst wa_nil)) (ww_or1 (wt_cmp cd_gt (we_callB ld_len rfl T.n_len (by decide +kernel) (wa_cons (we_bm .str md_join PySem.F.plainAttrs_str PySem.F.slot_str_join PySem.F.type_str_join we_str (wa_cons (we_var 1) wa_nil)) wa_nil)) we_int))))
  (ws_one (ws_ret we_non))
  ws_nil)
  (ws_one (ws_ret (we_var 1))))), ?body⟩)
  case' body => clear tk po hr E H s outer A cdv f
  case len => rintro _ _ _ _ ⟨_, rfl, _⟩; rfl
  case body =>
    rintro ds μ Q E' ⟨w, rfl, rfl, ⟨cw, lw⟩, q⟩
    have ep : ("+" : Str).cps.toList = [43] := rfl
    have en : ("" : Str).cps.toList = [] := rfl
    rw [ep, en]
    repeat' fail
    refine st_split (by decide) (sz (by omega)) ?_
    obtain ⟨ps, e⟩ : ∃ ps, TL.spl [43] 0 [] w = ps := ⟨_, rfl⟩
    obtain ⟨k1, k2, k3, _⟩ := spl1 (c := 43) w []
    have eP : dPd w = if (ps.all (fun p => isRow p && (decide (1 ≤ p.length) && decide ((p.length : Int) ≤ 40))) && decide (ps.flatten.length ≤ 40)) = true then strsD ps else .non := by
      unfold dPd lawP pcsW
      rw [e]
    rw [e] at k1 k2 k3 ⊢
    rw [eP] at q
    have hz : ∀ p ∈ ps, Chs p ∧ p.length ≤ 100000 := fun p hp => ⟨fun c hc => by
      rcases (k3 p hp).2 c hc with y | y
      · cases y
      · exact cw c y, by have := (k3 p hp).1; simp at this; omega⟩
    have lf : ps.flatten.length ≤ 100000 := by simp at k2; simp; omega
    have nc := noCs_strs (xs := ps)
    repeat' fail
    refine lc_fstrs (l := ps) (fun p => !(isRow p && (decide (1 ≤ p.length) && decide ((p.length : Int) ≤ 40)))) (fun r => .str r) (sz (by omega)) ?_ ?_
    · intro j r hj KA KF g1 g2
      have hr := hz r (List.mem_of_getElem? hj)
      repeat' fail
      · exact g1 (by assumption)
      · exact g2 (by assumption)
    · refine st_finF ?_
      repeat' fail
      refine st_neNil (fun d hd => ?_) ?_
      · obtain ⟨w, hw', rfl⟩ := List.mem_map.mp hd
        exact okD_str (hz w (List.mem_filter.mp hw').1).1
      have key : ps.filter (fun p => !(isRow p && (decide (1 ≤ p.length) && decide ((p.length : Int) ≤ 40)))) = [] ↔ ps.all (fun p => isRow p && (decide (1 ≤ p.length) && decide ((p.length : Int) ≤ 40))) = true := by
        rw [List.filter_eq_nil_iff, List.all_eq_true]
        refine forall_congr' fun p => forall_congr' fun _ => ?_
        cases (isRow p && (decide (1 ≤ p.length) && decide ((p.length : Int) ≤ 40))) <;> simp
      generalize ps.all (fun p => isRow p && (decide (1 ≤ p.length) && decide ((p.length : Int) ≤ 40))) = b at key q
      generalize ps.filter (fun p => !(isRow p && (decide (1 ≤ p.length) && decide ((p.length : Int) ≤ 40)))) = L at key
      rw [show decide (L.map (fun r => D.str r) = []) = b by
        rw [Bool.eq_iff_iff, decide_eq_true_eq, ← key, List.map_eq_nil_iff]]
      cases b with
      | false =>
        repeat' fail
        exact q
      | true =>
        repeat' fail
        refine st_joinS (sep := []) (l := ps) rfl (by show _ + _ * 0 ≤ _; omega) ?_
        rw [joinL_nil]
        repeat' fail
        · rw [decide_eq_false (show ¬ ps.flatten.length ≤ 40 by omega)] at q
          exact q
        · rw [decide_eq_true (show ps.flatten.length ≤ 40 by omega)] at q
          exact q

abbrev N__law_due : List Str := ["_law_way", "_law_text", "_law_words", "_law_found", "_law_word_here"]
theorem sc__law_due : FnScope N__law_due ["_law_way", "_law_text"] (defScope (topS 32)) := ⟨rfl, rfl, rfl, by decide +kernel, rfl, by decide +kernel, by decide +kernel⟩
def S__law_due (_ : Str → Addr) : DSp := fun ds μ Q _ => ∃ (way : Int) (d : D), ds = [.int way, d] ∧ μ = [] ∧ kindOk d ∧ noC d = true ∧ Q (dueTx way d) []
theorem u__law_due {C : Str → Addr} {way : Int} {d : D} {Q : DQ} {E : FE} (h : kindOk d) (hn : noC d = true) (q : Q (dueTx way d) []) : S__law_due C [.int way, d] [] Q E := ⟨way, d, rfl, rfl, h, hn, q⟩
set_option hygiene false in
local macro_rules | `(tactic| array_get_dec) => `(tactic| ((with_reducible apply u__law_due); (assumption); (assumption)))
theorem ok__law_due {P : Program} {w : World} {K : PySem.W.Frag} {mg : Str → Option Value} {base : Heap} {C : Str → Addr} (SB : SmB K mg base) (T : Txt K mg C) : Fd P w K mg base "_law_due" 3 (S__law_due C) := by
  have D__law_pieces := ok__law_pieces (P := P) (w := w) (base := base) SB T
  have D__law_is_row := ok__law_is_row (P := P) (w := w) (base := base) SB T
  refine fd_mk T.f__law_due sc__law_due ?len (fun f cdv A outer s H E hr tk po => ⟨_, (ws_cons (ws_if (wt_not (wt_val (we_callB ld_isi rfl T.n_isinstance (by decide +kernel) (wa_cons (we_var 1) (wa_cons (we_bty (n := "str") T.n_str (by decide +kernel)) wa_nil)))))
  (ws_one (ws_ret we_non))
  ws_nil)
  (ws_cons (ws_set 2 sc__law_due.nd (we_bm .str (md_split outF_ok) PySem.F.plainAttrs_str PySem.F.slot_str_split PySem.F.type_str_split (we_var 1) (wa_cons we_str wa_nil)))
  (ws_cons (ws_if (wt_cmp (cd_eq hr.units) (we_var 1) we_str)
  (ws_one (ws_ret (we_lst wa_nil)))
  ws_nil)
  (ws_cons (ws_set 3 sc__law_due.nd (we_lstC wa_nil))
  (ws_cons (ws_for po (wi_any (we_var 2)) (wg_name 4 sc__law_due.nd)
  (ws_one (ws_if (wt_cmp (cd_eq hr.units) (we_var 0) we_int)
  (ws_one (ws_drop (we_bm .lst md_append PySem.F.plainAttrs_list PySem.F.slot_list_append PySem.F.type_list_append (we_var 3) (wa_cons (we_if (wt_cmp (cd_eq hr.units) (we_var 4) we_str) we_str (we_ix id_ix (we_lst (wa_cons we_non (wa_cons (we_var 4) wa_nil))) (we_callTy ld_int rfl T.n_int (by decide +kernel) (wa_cons (we_call callP_ok D__law_is_row (hr.mono (by decide)) tk (wa_cons (we_var 4) (wa_cons we_int wa_nil))) wa_nil)))) wa_nil))))
  (ws_one (ws_drop (we_bm .lst md_append PySem.F.plainAttrs_list PySem.F.slot_list_append PySem.F.type_list_append (we_var 3) (wa_cons (we_if (wt_cmp (cd_eq hr.units) (we_var 4) we_str) (we_lst wa_nil) (we_call callP_ok D__law_pieces (hr.mono (by decide)) tk (wa_cons (we_var 4) wa_nil))) wa_nil)))))))
  (ws_one (ws_ret (we_if (wt_bool (ww_or (wt_cmp (cd_inG hr.units65) we_non (we_var 3)) (ww_or1 (wt_cmp cd_gt (we_callB ld_len rfl T.n_len (by decide +kernel) (wa_cons (we_var 2) wa_nil)) we_int)))) we_non (we_frz (we_var 3)))))))))), ?body⟩)
  case' body => clear tk po hr E H s outer A cdv f
  case len => rintro _ _ _ _ ⟨_, _, rfl, _⟩; rfl
  case body =>
    rintro ds μ Q E' ⟨way, d, rfl, rfl, hk, hn, q⟩
    have es : (" " : Str).cps.toList = [32] := rfl
    have ee : ("=" : Str).cps.toList = [61] := rfl
    have en : ("" : Str).cps.toList = [] := rfl
    have ed : ("-" : Str).cps.toList = [45] := rfl
    rw [es, ee, en, ed]
    obtain ⟨⟨ty, ht⟩, hs⟩ := hk
    repeat' fail
    refine st_isi ht (kit_str ht) ?_
    cases d with
    | str t =>
      obtain ⟨lt, ct⟩ := hs t rfl
      rw [dueTx_eq] at q
      repeat' fail
      refine st_split (by decide) (sz (by omega)) ?_
      repeat' fail
      · have z : wdsT t = [] := by unfold wdsT; rw [if_pos hb]
        rw [z, if_pos (by simp)] at q
        exact q
      · have z : TL.spl [32] 0 [] t = wdsT t := by unfold wdsT; rw [if_neg hb]
        rw [z]
        have wl := wdsT_len lt
        obtain ⟨wl1, wl2⟩ := wl
        have ok := fun w hw => okD_dW (t := t) (w := w) way ct lt hw
        generalize wdsT t = ws at wl1 wl2 ok q
        have lm : (ws.map D.str).length ≤ 100001 := by rw [List.length_map]; exact wl1
        repeat' fail
        refine ⟨fun i (δ : DS) (μ : Mu) => ∃ d4 : Option D, δ = [some (.int way), some (.str t), some (.lst (ws.map .str)), some (.cell 0), d4] ∧ μ = [.lst ((ws.take i).map (dW way))], ⟨_, rfl, rfl⟩, ?_, ?_⟩
        · rintro i d δ μ hd ⟨d4, rfl, rfl⟩
          rw [List.getElem?_map] at hd
          obtain ⟨w, hi, rfl⟩ := Option.map_eq_some_iff.mp hd
          have hm := List.mem_of_getElem? hi
          have hil := (List.getElem?_eq_some_iff.mp hi).1
          have cw : Chs w ∧ w.length ≤ 100000 := ⟨fun c hc => ct c ((wl2 w hm).2 c hc), (wl2 w hm).1⟩
          have hz : ((ws.take i).map (dW way)).length < sizeLine := by rw [List.length_map, List.length_take]; exact szl (by omega)
          have nd := (ok w hm).2
          have done : ∀ d4 : Option D, ∃ d4', [some (.int way), some (.str t), some (.lst (ws.map .str)), some (.cell 0), d4] = [some (D.int way), some (.str t), some (.lst (ws.map .str)), some (.cell 0), d4'] ∧ [MO.lst ((ws.take i).map (dW way) ++ [dW way w])] = [MO.lst ((ws.take (i + 1)).map (dW way))] := fun d4 => ⟨d4, rfl, by rw [take_suc hi, List.map_append]; rfl⟩
          repeat' fail
          · have e : dW way w = .str [] := by unfold dW; rw [if_pos (by assumption), if_pos hb]
            rw [e] at done
            exact done _
          · by_cases hc : (isRow w && (decide (1 ≤ w.length) && decide ((w.length : Int) ≤ 40))) = true
            · have e : dW way w = .str w := by unfold dW; rw [if_pos (by assumption), if_neg hb, if_pos hc]
              rw [e] at done
              rw [if_pos hc]
              refine st_ixL (d := .str w) rfl rfl (atI_of (j := 1) rfl rfl) ?_
              repeat' fail
              exact done _
            · have e : dW way w = .non := by unfold dW; rw [if_pos (by assumption), if_neg hb, if_neg hc]
              rw [e] at done
              rw [if_neg hc]
              refine st_ixL (d := .non) rfl rfl (atI_of (j := 0) rfl rfl) ?_
              repeat' fail
              exact done _
          · have e : dW way w = .lst [] := by unfold dW; rw [if_neg (by assumption), if_pos hb]
            rw [e] at done
            exact done _
          · have e : dW way w = dPd w := by unfold dW; rw [if_neg (by assumption), if_neg hb]
            rw [e] at done nd
            refine ⟨nd, ?_⟩
            repeat' fail
            exact done _
        · rintro δ μ ⟨d4, rfl, rfl⟩
          rw [List.length_map, List.take_length]
          repeat' fail
          refine st_inG (ys := ws.map (dW way)) (dr_cell rfl) (okD_lst (by decide) fun d hd => ?_) okD_non ?_
          · obtain ⟨w, hw, rfl⟩ := List.mem_map.mp hd
            exact (ok w hw).1
          rw [show dr [MO.lst (ws.map (dW way))] D.non = .non from rfl, inG_dW]
          by_cases hg : [] ∉ ws ∧ ∀ w ∈ ws, okD1 way w = true
          · rw [decide_eq_true hg]
            have nc : noCs (ws.map (dW way)) = true := noCs_mem fun d hd => by
              obtain ⟨w, hw, rfl⟩ := List.mem_map.mp hd
              exact (ok w hw).2
            repeat' fail
            · rw [if_neg (fun h => by have := h.2; rw [List.length_map] at hb; omega)] at q
              exact q
            · rw [if_pos ⟨hg, by rw [List.length_map] at hb; omega⟩] at q
              rw [show ws.map (outD way) = ws.map (dW way) from List.map_congr_left fun w hw => (dW_some (fun z => hg.1 (z ▸ hw)) (hg.2 w hw)).symm] at q
              exact q
          · rw [decide_eq_false hg]
            rw [if_neg (fun h => hg h.1)] at q
            repeat' fail
            exact q
    | _ =>
      have q : Q .non [] := by
        have e : ∀ d : D, isStrD d = false → dueTx way d = .non := fun d h => by
          unfold dueTx
          cases d <;> first | (exact Bool.noConfusion h) | (split <;> rfl)
        rw [e _ rfl] at q
        exact q
      repeat' fail
      all_goals exact q

abbrev N__law_told : List Str := ["_law_way", "_law_text", "_law_caught", "_law_found", "e"]
theorem sc__law_told : FnScope N__law_told ["_law_way", "_law_text"] (defScope (topS 33)) := ⟨rfl, rfl, rfl, by decide +kernel, rfl, by decide +kernel, by decide +kernel⟩
def S__law_told (_ : Str → Addr) : DSp := fun ds μ Q _ => ∃ (w : Int) (d : D), ds = [.int w, d] ∧ μ = [] ∧ kindOk d ∧ noC d = true ∧ Q (toldTx w d) []
theorem u__law_told {C : Str → Addr} {w : Int} {d : D} {Q : DQ} {E : FE} (h : kindOk d) (hn : noC d = true) (q : Q (toldTx w d) []) : S__law_told C [.int w, d] [] Q E := ⟨w, d, rfl, rfl, h, hn, q⟩
set_option hygiene false in
local macro_rules | `(tactic| array_get_dec) => `(tactic| ((with_reducible apply u__law_told); (assumption); (assumption)))
theorem ok__law_told {P : Program} {w : World} {K : PySem.W.Frag} {mg : Str → Option Value} {base : Heap} {C : Str → Addr} (SB : SmB K mg base) (T : Txt K mg C) : Fd P w K mg base "_law_told" 4 (S__law_told C) := by
  have D__law_word := ok__law_word (P := P) (w := w) (base := base) SB T
  have D_read_rows := ok_read_rows (P := P) (w := w) (base := base) SB T
  have D_read_pieces := ok_read_pieces (P := P) (w := w) (base := base) SB T
  refine fd_mk T.f__law_told sc__law_told ?len (fun f cdv A outer s H E hr tk po => ⟨_, (ws_cons (ws_set 2 sc__law_told.nd we_non)
  (ws_cons (ws_set 3 sc__law_told.nd we_non)
  (ws_cons (ws_try 4 2 sc__law_told.nd T.tab T.x_WeaveError tk (fun _ _ _ tk po =>
  (ws_one (ws_if (wt_cmp (cd_eq hr.units) (we_var 0) we_int)
  (ws_one (ws_set 3 sc__law_told.nd (we_call callP_ok D_read_rows (hr.mono (by decide)) tk (wa_cons (we_var 1) wa_nil))))
  (ws_one (ws_set 3 sc__law_told.nd (we_call callP_ok D_read_pieces (hr.mono (by decide)) tk (wa_cons (we_var 1) wa_nil))))))))
  (ws_cons (ws_if (wt_cmp cd_isN (we_var 2) we_non)
  (ws_one (ws_ret (we_ix id_ix (we_lst (wa_cons we_str (wa_cons (we_var 3) wa_nil))) (we_callTy ld_int rfl T.n_int (by decide +kernel) (wa_cons (we_not (we_callB ld_isi rfl T.n_isinstance (by decide +kernel) (wa_cons (we_var 3) (wa_cons (we_bty (n := "str") T.n_str (by decide +kernel)) wa_nil)))) wa_nil)))))
  ws_nil)
  (ws_one (ws_ret (we_call callP_ok D__law_word (hr.mono (by decide)) tk (wa_cons (we_var 2) wa_nil)))))))), ?body⟩)
  case' body => clear tk po hr E H s outer A cdv f
  case len => rintro _ _ _ _ ⟨_, _, rfl, _⟩; rfl
  case body =>
    rintro ds μ Q E' ⟨w, d, rfl, rfl, hk, hn, q⟩
    repeat' fail
    · intro ws hw
      refine ⟨rfl, noCs_strs, ?_⟩
      have e : toldTx w d = strsD ws := by
        unfold toldTx dueTx
        rw [if_pos (by assumption), hw]
      rw [e] at q
      have nc : noCs (ws.map D.str) = true := noCs_strs
      repeat' fail
      rw [show (if (!false) = true then (1 : Int) else 0) = 1 from rfl]
      refine st_ixL rfl rfl (atI_of (j := 1) rfl rfl) ?_
      repeat' fail
      exact q
    · intro hw
      refine ⟨rfl, ?_⟩
      have e : toldTx w d = .str ("NoText" : Str).cps.toList := by
        unfold toldTx dueTx
        rw [if_pos (by assumption), hw]
      rw [e] at q
      refine ⟨"NoText", by decide +kernel, rfl, ?_⟩
      dsimp only [List.set_cons_succ, List.set_cons_zero]
      repeat' fail
      exact q
    · intro ws hw
      refine ⟨rfl, noCs_strsD ws, ?_⟩
      have e : toldTx w d = .lst (ws.map strsD) := by
        unfold toldTx dueTx
        rw [if_neg (by assumption), hw]
      rw [e] at q
      have nc : noCs (ws.map strsD) = true := noCs_strsD ws
      repeat' fail
      rw [show (if (!false) = true then (1 : Int) else 0) = 1 from rfl]
      refine st_ixL rfl rfl (atI_of (j := 1) rfl rfl) ?_
      repeat' fail
      exact q
    · intro hw
      refine ⟨rfl, ?_⟩
      have e : toldTx w d = .str ("NoText" : Str).cps.toList := by
        unfold toldTx dueTx
        rw [if_neg (by assumption), hw]
      rw [e] at q
      refine ⟨"NoText", by decide +kernel, rfl, ?_⟩
      dsimp only [List.set_cons_succ, List.set_cons_zero]
      repeat' fail
      exact q

abbrev N__law_right : List Str := ["_law_text", "_law_way", "_law_due_here", "_law_kept", "_law_turn", "_law_found"]
theorem sc__law_right : FnScope N__law_right ["_law_text"] (defScope (topS 34)) := ⟨rfl, rfl, rfl, by decide +kernel, rfl, by decide +kernel, by decide +kernel⟩
def S__law_right (_ : Str → Addr) : DSp := fun ds μ Q _ => ∃ (d : D), ds = [d] ∧ μ = [] ∧ AnyT d ∧ Q (.bl true) []
theorem u__law_right {C : Str → Addr} {d : D} {Q : DQ} {E : FE} (h : AnyT d) (q : Q (.bl true) []) : S__law_right C [d] [] Q E := ⟨d, rfl, rfl, h, q⟩
set_option hygiene false in
local macro_rules | `(tactic| array_get_dec) => `(tactic| ((with_reducible apply u__law_right); (assumption)))
theorem ok__law_right {P : Program} {w : World} {K : PySem.W.Frag} {mg : Str → Option Value} {base : Heap} {C : Str → Addr} (SB : SmB K mg base) (T : Txt K mg C) : Fd P w K mg base "_law_right" 5 (S__law_right C) := by
  have D__law_due := ok__law_due (P := P) (w := w) (base := base) SB T
  have D__law_told := ok__law_told (P := P) (w := w) (base := base) SB T
  refine fd_mk T.f__law_right sc__law_right ?len (fun f cdv A outer s H E hr tk po => ⟨_, (ws_cons (ws_if (wt_bool (ww_and (wt_val (we_callB ld_isi rfl T.n_isinstance (by decide +kernel) (wa_cons (we_var 0) (wa_cons (we_bty (n := "str") T.n_str (by decide +kernel)) wa_nil)))) (ww_and1 (wt_cmp cd_gt (we_callB ld_len rfl T.n_len (by decide +kernel) (wa_cons (we_var 0) wa_nil)) we_int))))
  (ws_one (ws_ret we_bl))
  ws_nil)
  (ws_cons (ws_for po (wi_rng1 T.n_range (wa_cons we_int wa_nil)) (wg_name 1 sc__law_right.nd)
  (ws_cons (ws_set 2 sc__law_right.nd (we_call callP_ok D__law_due (hr.mono (by decide)) tk (wa_cons (we_var 1) (wa_cons (we_var 0) wa_nil))))
  (ws_cons (ws_set 3 sc__law_right.nd (we_callB (ld_repr hr.units hr.gd SB) rfl T.n_repr (by decide +kernel) (wa_cons (we_var 0) wa_nil)))
  (ws_one (ws_for po (wi_rng1 T.n_range (wa_cons we_int wa_nil)) (wg_name 4 sc__law_right.nd)
  (ws_cons (ws_set 5 sc__law_right.nd (we_call callP_ok D__law_told (hr.mono (by decide)) tk (wa_cons (we_var 1) (wa_cons (we_var 0) wa_nil))))
  (ws_cons (ws_if (wt_cmp (cd_ne hr.units) (we_callB (ld_repr hr.units hr.gd SB) rfl T.n_repr (by decide +kernel) (wa_cons (we_var 0) wa_nil)) (we_var 3))
  (ws_one (ws_ret we_bl))
  ws_nil)
  (ws_one (ws_if (wt_bool (ww_or (wt_bool (ww_and (wt_cmp cd_isN (we_var 2) we_non) (ww_and1 (wt_cmp (cd_ne hr.units) (we_var 5) we_str)))) (ww_or1 (wt_bool (ww_and (wt_cmp cd_notN (we_var 2) we_non) (ww_and1 (wt_cmp (cd_ne hr.units) (we_var 5) (we_var 2))))))))
  (ws_one (ws_ret we_bl))
  ws_nil)))))))))
  (ws_one (ws_ret we_bl)))), ?body⟩)
  case' body => clear tk po hr E H s outer A cdv f
  case len => rintro _ _ _ _ ⟨_, rfl, _⟩; rfl
  case body =>
    rintro ds μ Q E' ⟨d, rfl, rfl, ⟨hk, hn, rp⟩, q⟩
    have rp' : RpOk (dr [] d) := by rw [dr_noC hn]; exact rp
    obtain ⟨⟨ty, ht⟩, hs⟩ := id hk
    repeat' fail
    refine st_isi ht (kit_str ht) ?_
    cases e : isStrD d with
    | true =>
      obtain ⟨t, rfl⟩ : ∃ t, d = .str t := by cases d <;> first | exact ⟨_, rfl⟩ | cases e
      have lt := (hs t rfl).1
      repeat' fail
      · exact q
      · refine ⟨fun i (δ : DS) (μ : Mu) => ∃ d1 d2 d3 d4 d5 : Option D, δ = [some (.str t), d1, d2, d3, d4, d5] ∧ μ = [], ⟨_, _, _, _, _, rfl, rfl⟩, ?_, ?_⟩
        · rintro i x δ μ hd ⟨d1, d2, d3, d4, d5, rfl, rfl⟩
          obtain ⟨hi, rfl⟩ := rangeD_get hd
          obtain ⟨way, ew⟩ : ∃ way : Int, (0 + (i : Int) * 1) = way := ⟨_, rfl⟩
          rw [ew]
          repeat' fail
          rcases dueTx_or (way := way) hk with e1 | ⟨xs, e1, ok1, nc1⟩
          · have e2 := toldTx_non e1
            rw [e1]
            refine ⟨rfl, ?_⟩
            repeat' fail
            refine ⟨fun j (δ : DS) (μ : Mu) => ∃ d4 d5 : Option D, δ = [some (.str t), some (.int way), some .non, some (.str (reprD (dr [] (.str t)))), d4, d5] ∧ μ = [], ⟨_, _, rfl, rfl⟩, ?_, ?_⟩
            · rintro j x δ μ hd ⟨d4, d5, rfl, rfl⟩
              obtain ⟨hj, rfl⟩ := rangeD_get hd
              have nT : noC (toldTx way (.str t)) = true := by rw [e2]; rfl
              repeat' fail
              rw [e2]
              repeat' fail
              exact ⟨_, _, rfl, rfl⟩
            · rintro δ μ ⟨d4, d5, rfl, rfl⟩
              repeat' fail
              exact ⟨_, _, _, _, _, rfl, rfl⟩
          · have e2 := toldTx_lst e1
            rw [e1]
            refine ⟨nc1, ?_⟩
            repeat' fail
            refine ⟨fun j (δ : DS) (μ : Mu) => ∃ d4 d5 : Option D, δ = [some (.str t), some (.int way), some (.lst xs), some (.str (reprD (dr [] (.str t)))), d4, d5] ∧ μ = [], ⟨_, _, rfl, rfl⟩, ?_, ?_⟩
            · rintro j x δ μ hd ⟨d4, d5, rfl, rfl⟩
              obtain ⟨hj, rfl⟩ := rangeD_get hd
              have nT : noC (toldTx way (.str t)) = true := by rw [e2]; exact nc1
              repeat' fail
              rw [e2]
              repeat' fail
              have ed := dr_noC (μ := []) (show noC (.lst xs) = true from nc1)
              refine st_neD rfl (by rw [ed]; exact ok1) (by rw [ed]; exact ok1) ?_
              rw [ed, deq_self ok1]
              repeat' fail
              exact ⟨_, _, rfl, rfl⟩
            · rintro δ μ ⟨d4, d5, rfl, rfl⟩
              repeat' fail
              exact ⟨_, _, _, _, _, rfl, rfl⟩
        · rintro δ μ ⟨d1, d2, d3, d4, d5, rfl, rfl⟩
          repeat' fail
          exact q
    | false =>
      repeat' fail
      · refine ⟨fun i (δ : DS) (μ : Mu) => ∃ d1 d2 d3 d4 d5 : Option D, δ = [some d, d1, d2, d3, d4, d5] ∧ μ = [], ⟨_, _, _, _, _, rfl, rfl⟩, ?_, ?_⟩
        · rintro i x δ μ hd ⟨d1, d2, d3, d4, d5, rfl, rfl⟩
          obtain ⟨hi, rfl⟩ := rangeD_get hd
          obtain ⟨way, ew⟩ : ∃ way : Int, (0 + (i : Int) * 1) = way := ⟨_, rfl⟩
          rw [ew]
          repeat' fail
          rcases dueTx_or (way := way) hk with e1 | ⟨xs, e1, ok1, nc1⟩
          · have e2 := toldTx_non e1
            rw [e1]
            refine ⟨rfl, ?_⟩
            repeat' fail
            refine ⟨fun j (δ : DS) (μ : Mu) => ∃ d4 d5 : Option D, δ = [some d, some (.int way), some .non, some (.str (reprD (dr [] d))), d4, d5] ∧ μ = [], ⟨_, _, rfl, rfl⟩, ?_, ?_⟩
            · rintro j x δ μ hd ⟨d4, d5, rfl, rfl⟩
              obtain ⟨hj, rfl⟩ := rangeD_get hd
              have nT : noC (toldTx way d) = true := by rw [e2]; rfl
              repeat' fail
              rw [e2]
              repeat' fail
              exact ⟨_, _, rfl, rfl⟩
            · rintro δ μ ⟨d4, d5, rfl, rfl⟩
              repeat' fail
              exact ⟨_, _, _, _, _, rfl, rfl⟩
          · have e2 := toldTx_lst e1
            rw [e1]
            refine ⟨nc1, ?_⟩
            repeat' fail
            refine ⟨fun j (δ : DS) (μ : Mu) => ∃ d4 d5 : Option D, δ = [some d, some (.int way), some (.lst xs), some (.str (reprD (dr [] d))), d4, d5] ∧ μ = [], ⟨_, _, rfl, rfl⟩, ?_, ?_⟩
            · rintro j x δ μ hd ⟨d4, d5, rfl, rfl⟩
              obtain ⟨hj, rfl⟩ := rangeD_get hd
              have nT : noC (toldTx way d) = true := by rw [e2]; exact nc1
              repeat' fail
              rw [e2]
              repeat' fail
              have ed := dr_noC (μ := []) (show noC (.lst xs) = true from nc1)
              refine st_neD rfl (by rw [ed]; exact ok1) (by rw [ed]; exact ok1) ?_
              rw [ed, deq_self ok1]
              repeat' fail
              exact ⟨_, _, rfl, rfl⟩
            · rintro δ μ ⟨d4, d5, rfl, rfl⟩
              repeat' fail
              exact ⟨_, _, _, _, _, rfl, rfl⟩
        · rintro δ μ ⟨d1, d2, d3, d4, d5, rfl, rfl⟩
          repeat' fail
          exact q

abbrev N_law : List Str := ["_law_script", "_law_cell", "_law_well_here", "_law_rows_here", "_law_lists", "_law_some", "_law_text", "_law_turn", "_law_once", "_law_fixed", "_law_row", "_law_pieces_here", "_law_one"]
theorem sc_law : FnScope N_law ["_law_script"] (defScope (topS 35)) := ⟨rfl, rfl, rfl, by decide +kernel, rfl, by decide +kernel, by decide +kernel⟩
def S_law (_ : Str → Addr) : DSp := fun ds μ Q _ => ∃ ns : List Int, ds = [.scr (ns.map .int)] ∧ μ = [] ∧ Q (.bl true) []
theorem fixA : (([("" : Str).cps.toList, (" " : Str).cps.toList, ("-" : Str).cps.toList, ("=" : Str).cps.toList, ("= =" : Str).cps.toList, ("- =" : Str).cps.toList, ("a =" : Str).cps.toList, ("=a" : Str).cps.toList, ("+" : Str).cps.toList, ("a+" : Str).cps.toList, ("a b" : Str).cps.toList, ("a  b" : Str).cps.toList, ("-+-" : Str).cps.toList, ("-a" : Str).cps.toList, ("\n" : Str).cps.toList, ("a\n" : Str).cps.toList, ("a\tb" : Str).cps.toList] : List (List Nat)).all fun s => s.all (fun c => decide (c < 0x110000)) && decide (s.length ≤ 100000)) = true := by decide +kernel
theorem fixB : (([("a a a a a a a a" : Str).cps.toList, ("a a a a a a a a a" : Str).cps.toList, ("- - - - - - - - -" : Str).cps.toList, (List.replicate (Int.toNat 40) ("a" : Str).cps.toList).flatten, (List.replicate (Int.toNat 41) ("a" : Str).cps.toList).flatten, (List.replicate (Int.toNat 39) ("a+" : Str).cps.toList).flatten ++ ("a" : Str).cps.toList] : List (List Nat)).all fun s => s.all (fun c => decide (c < 0x110000)) && decide (s.length ≤ 100000)) = true := by decide +kernel
theorem fixC : (([(List.replicate (Int.toNat 40) ("a+" : Str).cps.toList).flatten ++ ("a" : Str).cps.toList] : List (List Nat)).all fun s => s.all (fun c => decide (c < 0x110000)) && decide (s.length ≤ 100000)) = true := by decide +kernel
theorem ok_law {P : Program} {w : World} {K : PySem.W.Frag} {mg : Str → Option Value} {base : Heap} {C : Str → Addr} {f0 : Addr} {fd0 : FuncData} (F0 : Fun K "law" "law" (topS 35) f0 fd0) (SB : SmB K mg base) (T : Txt K mg C) : FnOk P w K mg base (L2.CX P w) 6 f0 fd0 ["_law_script"] (upF K (S_law C)) := by
  have D__law_well := ok__law_well (P := P) (w := w) (base := base) SB T
  have D__law_rows := ok__law_rows (P := P) (w := w) (base := base) SB T
  have D__law_piece_rows := ok__law_piece_rows (P := P) (w := w) (base := base) SB T
  have D__law_draw := ok__law_draw (P := P) (w := w) (base := base) SB T
  have D__law_right := ok__law_right (P := P) (w := w) (base := base) SB T
  have D__law_spoilt := ok__law_spoilt (P := P) (w := w) (base := base) SB T
  refine fn_mk F0 sc_law ?len (fun f cdv A outer s H E hr tk po => ⟨_, (ws_cons (ws_for po (wi_any (we_bin (bd_add outF_ok) (we_lst (wa_cons we_int (wa_cons we_int wa_nil))) (we_cut outF_ok (we_var 0) wp_none (wp_some we_int)))) (wg_name 1 sc_law.nd)
  (ws_cons (ws_set 2 sc_law.nd (we_call callN_ok D__law_well (hr.mono (by decide)) tk (wa_cons (we_var 1) wa_nil)))
  (ws_cons (ws_set 3 sc_law.nd (we_call callW_ok D__law_rows (hr.mono (by decide)) tk (wa_cons (we_var 2) (wa_cons (we_call callW_ok D__law_draw (hr.mono (by decide)) tk (wa_cons (we_var 2) (wa_cons we_int wa_nil))) (wa_cons we_int wa_nil)))))
  (ws_cons (ws_set 4 sc_law.nd (we_call callW_ok D__law_piece_rows (hr.mono (by decide)) tk (wa_cons (we_var 2) (wa_cons (we_call callW_ok D__law_draw (hr.mono (by decide)) tk (wa_cons (we_var 2) (wa_cons we_int wa_nil))) wa_nil))))
  (ws_cons (ws_set 5 sc_law.nd (we_lst (wa_cons (we_bm .str md_join PySem.F.plainAttrs_str PySem.F.slot_str_join PySem.F.type_str_join we_str (wa_cons (we_lc finF_ok [("_law_row", 10)] sc_law.nd (wi_any (we_var 3)) (blkOk_by (own := [("_law_row", 10)]) (N := N_law) (sc := defScope (topS 35)) (by decide +kernel))
  (fun _ _ _ _ _ => (wg_name 10 sc_law.nd)) (fun _ _ _ _ _ => wts_nil) (fun _ _ _ _ _ => (we_orT (we_var 10) (we_and1 we_str)))) wa_nil)) (wa_cons (we_bm .str md_join PySem.F.plainAttrs_str PySem.F.slot_str_join PySem.F.type_str_join we_str (wa_cons (we_lc finF_ok [("_law_pieces_here", 11)] sc_law.nd (wi_any (we_var 4)) (blkOk_by (own := [("_law_pieces_here", 11)]) (N := N_law) (sc := defScope (topS 35)) (by decide +kernel))
  (fun _ _ _ _ _ => (wg_name 11 sc_law.nd)) (fun _ _ _ _ _ => wts_nil) (fun _ _ _ _ _ => (we_orT (we_bm .str md_join PySem.F.plainAttrs_str PySem.F.slot_str_join PySem.F.type_str_join we_str (wa_cons (we_var 11) wa_nil)) (we_and1 we_str)))) wa_nil)) wa_nil))))
  (ws_one (ws_for po (wi_any (we_lc finF_ok [("_law_one", 12)] sc_law.nd (wi_any (we_var 5)) (blkOk_by (own := [("_law_one", 12)]) (N := N_law) (sc := defScope (topS 35)) (by decide +kernel))
  (fun _ _ _ _ _ => (wg_name 12 sc_law.nd)) (fun _ _ _ _ _ => wts_nil) (fun _ _ _ _ _ => (we_orT (we_var 12) (we_and1 we_str))))) (wg_name 6 sc_law.nd)
  (ws_one (ws_for po (wi_rng1 T.n_range (wa_cons we_int wa_nil)) (wg_name 7 sc_law.nd)
  (ws_cons (ws_set 8 sc_law.nd (we_call callW_ok D__law_spoilt (hr.mono (by decide)) tk (wa_cons (we_var 2) (wa_cons (we_var 6) wa_nil))))
  (ws_one (ws_if (wt_bool (ww_or (wt_not (wt_val (we_call callP_ok D__law_right (hr.mono (by decide)) tk (wa_cons (we_var 6) wa_nil)))) (ww_or (wt_not (wt_val (we_call callP_ok D__law_right (hr.mono (by decide)) tk (wa_cons (we_var 8) wa_nil)))) (ww_or1 (wt_not (wt_val (we_call callP_ok D__law_right (hr.mono (by decide)) tk (wa_cons (we_call callW_ok D__law_spoilt (hr.mono (by decide)) tk (wa_cons (we_var 2) (wa_cons (we_var 8) wa_nil))) wa_nil))))))))
  (ws_one (ws_ret we_bl))
  ws_nil))))))))))))
  (ws_cons (ws_set 9 sc_law.nd (we_lst (wa_cons we_str (wa_cons we_str (wa_cons we_str (wa_cons we_str (wa_cons we_str (wa_cons we_str (wa_cons we_str (wa_cons we_str (wa_cons we_str (wa_cons we_str (wa_cons we_str (wa_cons we_str (wa_cons we_str (wa_cons we_str (wa_cons we_str (wa_cons we_str (wa_cons we_str wa_nil)))))))))))))))))))
  (ws_cons (ws_set 9 sc_law.nd (we_bin (bd_add outF_ok) (we_var 9) (we_lst (wa_cons we_str (wa_cons we_str (wa_cons we_str (wa_cons (we_bin (bd_mul outF_ok) we_str we_int) (wa_cons (we_bin (bd_mul outF_ok) we_str we_int) (wa_cons (we_bin (bd_add outF_ok) (we_bin (bd_mul outF_ok) we_str we_int) we_str) wa_nil)))))))))
  (ws_cons (ws_for po (wi_any (we_bin (bd_add outF_ok) (we_var 9) (we_lst (wa_cons (we_bin (bd_add outF_ok) (we_bin (bd_mul outF_ok) we_str we_int) we_str) (wa_cons we_non (wa_cons we_int (wa_cons we_bl (wa_cons (we_lst wa_nil) (wa_cons (we_lst (wa_cons we_str wa_nil)) (wa_cons (we_tup (wa_cons we_str wa_nil)) (wa_cons (we_frz (we_dnew true)) (wa_cons (we_bin bd_pow we_int we_int) (wa_cons (we_lst (wa_cons (we_lst (wa_cons we_str wa_nil)) wa_nil)) wa_nil))))))))))))) (wg_name 6 sc_law.nd)
  (ws_one (ws_if (wt_not (wt_val (we_call callP_ok D__law_right (hr.mono (by decide)) tk (wa_cons (we_var 6) wa_nil))))
  (ws_one (ws_ret we_bl))
  ws_nil)))
  (ws_one (ws_ret we_bl)))))), ?body⟩)
  case' body => clear tk po hr E H s outer A cdv f
  case len => rintro _ _ _ _ ⟨_, rfl, _⟩; rfl
  case body =>
    rintro ds μ Q E' ⟨ns, rfl, rfl, q⟩
    repeat' fail
    refine ⟨fun i (δ : DS) (μ : Mu) => ∃ d1 d2 d3 d4 d5 d6 d7 d8 d9 d10 d11 d12, δ = [some (.scr (ns.map .int)), d1, d2, d3, d4, d5, d6, d7, d8, d9, d10, d11, d12], ⟨_, _, _, _, _, _, _, _, _, _, _, _, rfl⟩, ?_, ?_⟩
    · rintro i d δ μ hd ⟨d1, d2, d3, d4, d5, d6, d7, d8, d9, d10, d11, d12, rfl⟩
      obtain ⟨c, rfl⟩ := cells_int hd (by simp)
      repeat' fail
      intro o0 h0
      repeat' fail
      intro m o1 m0 m1 h1
      repeat' fail
      intro rows o2 rl rr h2
      repeat' fail
      intro m2 o3 m20 m21 h3
      repeat' fail
      intro L o4 Ll hL h4
      have nL := noC_pcs L
      have rl8 : rows.length ≤ 8 := by omega
      have Ll8 : L.length ≤ 8 := by omega
      have es : (" " : Str).cps.toList = [32] := rfl
      have ed : ("-" : Str).cps.toList = [45] := rfl
      have ep : ("+" : Str).cps.toList = [43] := rfl
      have ee : ("=" : Str).cps.toList = [61] := rfl
      have lm1 : (rows.map D.str).length ≤ 8 := by rw [List.length_map]; exact rl8
      have lm2 : (L.map pcD).length ≤ 8 := by rw [List.length_map]; exact Ll8
      rw [es, ed, ep, ee]
      repeat' fail
      refine lc_strs (l := rows) (fun r => .str (dash r)) (sz (by omega)) ?_ ?_
      · intro j r hj KA k1
        have l1 := (rr r (List.mem_of_getElem? hj)).2
        repeat' fail
        refine ⟨r, rfl, sz (by omega), fun z => ?_, fun z => ?_⟩
        · have e : dash r = r := by unfold dash; rw [if_neg z]
          rw [e] at k1
          exact k1
        · have e : dash r = [45] := by unfold dash; rw [if_pos z]
          rw [e] at k1
          repeat' fail
          exact k1
      refine st_finF ?_
      rw [show (rows.map fun r => D.str (dash r)) = (rows.map dash).map D.str by rw [List.map_map]; rfl]
      obtain ⟨c1, b1, f1⟩ := textOk (l := rows.map dash) (m := 10) (fun w hw => by
        obtain ⟨r, hr, rfl⟩ := List.mem_map.mp hw
        exact dash_ok (rr r hr).1 (m := 9) (rr r hr).2) (by rw [List.length_map]; exact rl8)
      repeat' fail
      refine st_joinS (l := rows.map dash) rfl (by show _ + _ * 1 ≤ _; omega) ?_
      repeat' fail
      refine ⟨fun j acc (μ' : Mu) => μ' = _ ∧ acc = ((L.take j).map fun ps => D.str (dash (pw ps))), ⟨rfl, rfl⟩, ?_, ?_⟩
      · rintro j d acc μ' hd ⟨rfl, rfl⟩
        rw [List.getElem?_map] at hd
        obtain ⟨ps, hj, rfl⟩ := Option.map_eq_some_iff.mp hd
        have hp := hL ps (List.mem_of_getElem? hj)
        have hpl := hp.len
        have hpf := hp.2
        have hpw := hp.pw_len
        have hjl := (List.getElem?_eq_some_iff.mp hj).1
        have acc_ok : ∀ x : D, x = .str (dash (pw ps)) → (List.map (fun ps => D.str (dash (pw ps))) (List.take j L)) ++ [x] = (L.take (j + 1)).map fun ps => D.str (dash (pw ps)) := fun x e => by
          rw [take_suc hj, List.map_append, e]; rfl
        have hz : (List.map (fun ps => D.str (dash (pw ps))) (List.take j L)).length < sizeLine := by rw [List.length_map, List.length_take]; exact szl (by omega)
        repeat' fail
        refine st_joinS (sep := [43]) (l := ps) rfl (by show _ + _ * 1 ≤ _; omega) ?_
        refine ⟨pw ps, rfl, sz (by omega), fun z => ?_, fun z => ?_⟩
        · exact ⟨hz, rfl, acc_ok _ (by unfold dash; rw [if_neg z]; rfl)⟩
        · repeat' fail
          exact ⟨hz, rfl, acc_ok _ (by unfold dash; rw [if_pos z])⟩
      · rintro acc μ' ⟨rfl, rfl⟩
        rw [List.length_map, List.take_length]
        refine st_finF ?_
        rw [show (L.map fun ps => D.str (dash (pw ps))) = (L.map fun ps => dash (pw ps)).map D.str by rw [List.map_map]; rfl]
        obtain ⟨c2, b2, f2⟩ := textOk (l := L.map fun ps => dash (pw ps)) (m := 81) (fun w hw => by
          obtain ⟨ps, hr, rfl⟩ := List.mem_map.mp hw
          have hp := hL ps hr
          refine ⟨?_, ?_⟩
          · unfold dash
            split
            · exact Chs.one (by decide)
            · exact hp.pw_chs
          · have := dash_len (pw ps)
            have := hp.pw_len
            omega) (by rw [List.length_map]; exact Ll8)
        repeat' fail
        refine st_joinS (sep := [32]) (l := L.map fun ps => dash (pw ps)) rfl (by show _ + _ * 1 ≤ _; omega) ?_
        generalize joinL [32] (rows.map dash) = t1 at c1 b1
        generalize joinL [32] (L.map fun ps => dash (pw ps)) = t2 at c2 b2
        repeat' fail
        refine lc_strs (l := [t1, t2]) (fun t => .str (if t = [] then [61] else t)) (sz (n := 2) (by decide)) ?_ ?_
        · intro j r hj KA k1
          have hr : r.length ≤ 1000 := by
            have := List.mem_of_getElem? hj
            simp at this
            rcases this with rfl | rfl <;> omega
          repeat' fail
          refine ⟨r, rfl, sz (by omega), fun z => ?_, fun z => ?_⟩
          · rw [if_neg z] at k1
            exact k1
          · rw [if_pos z] at k1
            repeat' fail
            exact k1
        obtain ⟨ts, ets⟩ : ∃ ts : List (List Nat), ts = [t1, t2].map fun t => if t = [] then [61] else t := ⟨_, rfl⟩
        have okT : ∀ t ∈ ts, Chs t ∧ t.length ≤ 1000 := by
          rw [ets]
          intro t ht
          obtain ⟨x, hx, rfl⟩ := List.mem_map.mp ht
          split
          · exact ⟨Chs.one (by decide), by decide⟩
          · simp at hx
            rcases hx with rfl | rfl
            · exact ⟨c1, by omega⟩
            · exact ⟨c2, by omega⟩
        refine st_finF ?_
        rw [show ([t1, t2].map fun t => D.str (if t = [] then [61] else t)) = ts.map .str by rw [ets, List.map_map]; rfl]
        generalize hB : (((List.set (μ ++ [o0]) (List.length μ) o1).set (List.length μ) o2).set (List.length μ) o3).set (List.length μ) o4 = B
        have gB : B[μ.length]? = some o4 := by rw [← hB]; simp
        repeat' fail
        refine ⟨fun j (δ : DS) (μ' : Mu) => ∃ (o : MO) (d6 d7 d8 d10 d11 d12 : Option D), δ = [some (.scr (ns.map .int)), some (.int c), some (.cell μ.length), some (.lst (rows.map .str)), some (.lst (L.map pcD)), some (.lst [.str t1, .str t2]), d6, d7, d8, d9, d10, d11, d12] ∧ μ'[μ.length]? = some o ∧ WellC o, ⟨_, _, _, _, _, _, _, rfl, gB, h4⟩, ?_, ?_⟩
        · rintro j d δ μ' hd ⟨o5, d6, d7, d8, d10, d11, d12, rfl, g5, h5⟩
          rw [List.getElem?_map] at hd
          obtain ⟨t, hj, rfl⟩ := Option.map_eq_some_iff.mp hd
          obtain ⟨ct, lt⟩ := okT t (List.mem_of_getElem? hj)
          have at0 : AnyT (.str t) := let z := odd_str ct (by omega); ⟨z.kd, z.nc, z.rp⟩
          have ctl : Chs t ∧ t.length ≤ 20000 := ⟨ct, by omega⟩
          repeat' fail
          refine ⟨fun k (δ : DS) (μ' : Mu) => ∃ (o : MO) (d7 d8 : Option D), δ = [some (.scr (ns.map .int)), some (.int c), some (.cell μ.length), some (.lst (rows.map .str)), some (.lst (L.map pcD)), some (.lst [.str t1, .str t2]), some (.str t), d7, d8, d9, d10, d11, d12] ∧ μ'[μ.length]? = some o ∧ WellC o, ⟨_, _, _, rfl, g5, h5⟩, ?_, ?_⟩
          · rintro k d δ μ1 hd ⟨o6, d7, d8, rfl, g6, h6⟩
            obtain ⟨hk, rfl⟩ := rangeD_get hd
            repeat' fail
            intro u o7 cu lu h7
            have at1 : AnyT (.str u) := let z := odd_str cu (by omega); ⟨z.kd, z.nc, z.rp⟩
            have ctu : Chs u ∧ u.length ≤ 20000 := ⟨cu, by omega⟩
            have l6 := (List.getElem?_eq_some_iff.mp g6).1
            have g7 : (μ1.set μ.length o7)[μ.length]? = some o7 := List.getElem?_set_self l6
            repeat' fail
            intro v o8 cv lv h8
            have at2 : AnyT (.str v) := let z := odd_str cv (by omega); ⟨z.kd, z.nc, z.rp⟩
            have l7 := (List.getElem?_eq_some_iff.mp g7).1
            have g8 : ((μ1.set μ.length o7).set μ.length o8)[μ.length]? = some o8 := List.getElem?_set_self l7
            repeat' fail
            exact ⟨_, _, _, rfl, g8, h8⟩
          · rintro δ μ1 ⟨o6, d7, d8, rfl, g6, h6⟩
            repeat' fail
            exact ⟨_, _, _, _, _, _, _, rfl, g6, h6⟩
        · rintro δ μ' ⟨o5, d6, d7, d8, d10, d11, d12, rfl, g5, h5⟩
          exact ⟨_, _, _, _, _, _, _, _, _, _, _, _, rfl⟩
    · rintro δ μ ⟨d1, d2, d3, d4, d5, d6, d7, d8, d9, d10, d11, d12, rfl⟩
      repeat' fail
      refine st_mulS (by decide) (by decide) ?_
      repeat' fail
      refine st_mulS (by decide) (by decide) ?_
      repeat' fail
      refine st_mulS (by decide) (by decide) ?_
      repeat' fail
      · exact sz (by decide +kernel)
      refine st_mulS (by decide) (by decide) ?_
      repeat' fail
      · exact sz (by decide +kernel)
      refine ⟨fun j (δ : DS) (μ' : Mu) => ∃ d6 d9 : Option D, δ = [some (.scr (ns.map .int)), d1, d2, d3, d4, d5, d6, d7, d8, d9, d10, d11, d12], ⟨_, _, rfl⟩, ?_, ?_⟩
      · rintro j d δ μ' hd ⟨d6, d9, rfl⟩
        have hm := List.mem_of_getElem? hd
        have ha : AnyT d := by
          rcases List.mem_append.mp hm with hm | hm
          · rcases List.mem_append.mp hm with hm | hm
            · exact any_strs fixA d hm
            · exact any_strs fixB d hm
          · rcases List.mem_cons.mp hm with hm | hm
            · exact any_strs fixC d (List.mem_singleton.mpr hm)
            · exact any_rest hm
        have nd := ha.nc
        repeat' fail
        exact ⟨_, _, rfl⟩
      · rintro δ μ' ⟨d6, d9, rfl⟩
        repeat' fail
        exact q

theorem all_mk {P : Program} {w : World} {K : PySem.W.Frag} {h : Heap} {mg : Str → Option Value} {fa f0 f1 f2 f3 f4 f5 f6 f7 f8 f9 f10 f11 f12 f13 f14 f15 f16 f17 f18 C0 C1 C2 C3 C4 C5 C6 C7 C8 C9 : Addr} {od0 an0 od1 an1 od2 an2 od3 an3 od4 an4 od5 an5 od6 an6 od7 an7 od8 an8 od9 an9 od10 an10 od11 an11 od12 an12 od13 an13 od14 an14 od15 an15 od16 an16 od17 an17 od18 an18 : Option Addr} {sl0 sl1 sl2 sl3 sl4 sl5 sl6 sl7 sl8 sl9 sl10 sl11 sl12 sl13 sl14 sl15 sl16 sl17 sl18 : Array (Option Value)} {oc0 kV0 dc0 pm0 cd0 ct0 oc1 kV1 dc1 pm1 cd1 ct1 oc2 kV2 dc2 pm2 cd2 ct2 oc3 kV3 dc3 pm3 cd3 ct3 oc4 kV4 dc4 pm4 cd4 ct4 oc5 kV5 dc5 pm5 cd5 ct5 oc6 kV6 dc6 pm6 cd6 ct6 oc7 kV7 dc7 pm7 cd7 ct7 oc8 kV8 dc8 pm8 cd8 ct8 oc9 kV9 dc9 pm9 cd9 ct9 oc10 kV10 dc10 pm10 cd10 ct10 oc11 kV11 dc11 pm11 cd11 ct11 oc12 kV12 dc12 pm12 cd12 ct12 oc13 kV13 dc13 pm13 cd13 ct13 oc14 kV14 dc14 pm14 cd14 ct14 oc15 kV15 dc15 pm15 cd15 ct15 oc16 kV16 dc16 pm16 cd16 ct16 oc17 kV17 dc17 pm17 cd17 ct17 oc18 kV18 dc18 pm18 cd18 ct18 : Value} {gt0 gt1 gt2 : Tok} (X : K.In h) (G : h.Ns mainGlobals mg) (hfa : mg "law" = some (.ref fa))
    (a0 : PySem.W.nsIn K mainGlobals "is_row" = some (some (.ref f0)))
    (l0 : K.lookup f0 = some ⟨oc0, od0, .func (PySem.W.fnOf "is_row" "is_row" (defArgs (topS 13)) (defBody (topS 13)) (defScope (topS 13)) .none kV0 dc0 pm0 an0 cd0 ct0), sl0⟩)
    (c0 : PySem.W.codeIn K cd0 "is_row" = true)
    (k0 : PySem.W.keepIn K (.ref f0) = true)
    (a1 : PySem.W.nsIn K mainGlobals "words_in" = some (some (.ref f1)))
    (l1 : K.lookup f1 = some ⟨oc1, od1, .func (PySem.W.fnOf "words_in" "words_in" (defArgs (topS 17)) (defBody (topS 17)) (defScope (topS 17)) .none kV1 dc1 pm1 an1 cd1 ct1), sl1⟩)
    (c1 : PySem.W.codeIn K cd1 "words_in" = true)
    (k1 : PySem.W.keepIn K (.ref f1) = true)
    (a2 : PySem.W.nsIn K mainGlobals "read_rows" = some (some (.ref f2)))
    (l2 : K.lookup f2 = some ⟨oc2, od2, .func (PySem.W.fnOf "read_rows" "read_rows" (defArgs (topS 18)) (defBody (topS 18)) (defScope (topS 18)) .none kV2 dc2 pm2 an2 cd2 ct2), sl2⟩)
    (c2 : PySem.W.codeIn K cd2 "read_rows" = true)
    (k2 : PySem.W.keepIn K (.ref f2) = true)
    (a3 : PySem.W.nsIn K mainGlobals "pieces_in" = some (some (.ref f3)))
    (l3 : K.lookup f3 = some ⟨oc3, od3, .func (PySem.W.fnOf "pieces_in" "pieces_in" (defArgs (topS 19)) (defBody (topS 19)) (defScope (topS 19)) .none kV3 dc3 pm3 an3 cd3 ct3), sl3⟩)
    (c3 : PySem.W.codeIn K cd3 "pieces_in" = true)
    (k3 : PySem.W.keepIn K (.ref f3) = true)
    (a4 : PySem.W.nsIn K mainGlobals "read_pieces" = some (some (.ref f4)))
    (l4 : K.lookup f4 = some ⟨oc4, od4, .func (PySem.W.fnOf "read_pieces" "read_pieces" (defArgs (topS 20)) (defBody (topS 20)) (defScope (topS 20)) .none kV4 dc4 pm4 an4 cd4 ct4), sl4⟩)
    (c4 : PySem.W.codeIn K cd4 "read_pieces" = true)
    (k4 : PySem.W.keepIn K (.ref f4) = true)
    (a5 : PySem.W.nsIn K mainGlobals "_law_well" = some (some (.ref f5)))
    (l5 : K.lookup f5 = some ⟨oc5, od5, .func (PySem.W.fnOf "_law_well" "_law_well" (defArgs (topS 22)) (defBody (topS 22)) (defScope (topS 22)) .none kV5 dc5 pm5 an5 cd5 ct5), sl5⟩)
    (c5 : PySem.W.codeIn K cd5 "_law_well" = true)
    (k5 : PySem.W.keepIn K (.ref f5) = true)
    (a6 : PySem.W.nsIn K mainGlobals "_law_draw" = some (some (.ref f6)))
    (l6 : K.lookup f6 = some ⟨oc6, od6, .func (PySem.W.fnOf "_law_draw" "_law_draw" (defArgs (topS 23)) (defBody (topS 23)) (defScope (topS 23)) .none kV6 dc6 pm6 an6 cd6 ct6), sl6⟩)
    (c6 : PySem.W.codeIn K cd6 "_law_draw" = true)
    (k6 : PySem.W.keepIn K (.ref f6) = true)
    (a7 : PySem.W.nsIn K mainGlobals "_law_letters" = some (some (.ref f7)))
    (l7 : K.lookup f7 = some ⟨oc7, od7, .func (PySem.W.fnOf "_law_letters" "_law_letters" (defArgs (topS 24)) (defBody (topS 24)) (defScope (topS 24)) .none kV7 dc7 pm7 an7 cd7 ct7), sl7⟩)
    (c7 : PySem.W.codeIn K cd7 "_law_letters" = true)
    (k7 : PySem.W.keepIn K (.ref f7) = true)
    (a8 : PySem.W.nsIn K mainGlobals "_law_rows" = some (some (.ref f8)))
    (l8 : K.lookup f8 = some ⟨oc8, od8, .func (PySem.W.fnOf "_law_rows" "_law_rows" (defArgs (topS 25)) (defBody (topS 25)) (defScope (topS 25)) .none kV8 dc8 pm8 an8 cd8 ct8), sl8⟩)
    (c8 : PySem.W.codeIn K cd8 "_law_rows" = true)
    (k8 : PySem.W.keepIn K (.ref f8) = true)
    (a9 : PySem.W.nsIn K mainGlobals "_law_piece_rows" = some (some (.ref f9)))
    (l9 : K.lookup f9 = some ⟨oc9, od9, .func (PySem.W.fnOf "_law_piece_rows" "_law_piece_rows" (defArgs (topS 26)) (defBody (topS 26)) (defScope (topS 26)) .none kV9 dc9 pm9 an9 cd9 ct9), sl9⟩)
    (c9 : PySem.W.codeIn K cd9 "_law_piece_rows" = true)
    (k9 : PySem.W.keepIn K (.ref f9) = true)
    (a10 : PySem.W.nsIn K mainGlobals "_law_word" = some (some (.ref f10)))
    (l10 : K.lookup f10 = some ⟨oc10, od10, .func (PySem.W.fnOf "_law_word" "_law_word" (defArgs (topS 27)) (defBody (topS 27)) (defScope (topS 27)) .none kV10 dc10 pm10 an10 cd10 ct10), sl10⟩)
    (c10 : PySem.W.codeIn K cd10 "_law_word" = true)
    (k10 : PySem.W.keepIn K (.ref f10) = true)
    (a11 : PySem.W.nsIn K mainGlobals "_law_sign" = some (some (.ref f11)))
    (l11 : K.lookup f11 = some ⟨oc11, od11, .func (PySem.W.fnOf "_law_sign" "_law_sign" (defArgs (topS 28)) (defBody (topS 28)) (defScope (topS 28)) .none kV11 dc11 pm11 an11 cd11 ct11), sl11⟩)
    (c11 : PySem.W.codeIn K cd11 "_law_sign" = true)
    (k11 : PySem.W.keepIn K (.ref f11) = true)
    (a12 : PySem.W.nsIn K mainGlobals "_law_spoilt" = some (some (.ref f12)))
    (l12 : K.lookup f12 = some ⟨oc12, od12, .func (PySem.W.fnOf "_law_spoilt" "_law_spoilt" (defArgs (topS 29)) (defBody (topS 29)) (defScope (topS 29)) .none kV12 dc12 pm12 an12 cd12 ct12), sl12⟩)
    (c12 : PySem.W.codeIn K cd12 "_law_spoilt" = true)
    (k12 : PySem.W.keepIn K (.ref f12) = true)
    (a13 : PySem.W.nsIn K mainGlobals "_law_is_row" = some (some (.ref f13)))
    (l13 : K.lookup f13 = some ⟨oc13, od13, .func (PySem.W.fnOf "_law_is_row" "_law_is_row" (defArgs (topS 30)) (defBody (topS 30)) (defScope (topS 30)) .none kV13 dc13 pm13 an13 cd13 ct13), sl13⟩)
    (c13 : PySem.W.codeIn K cd13 "_law_is_row" = true)
    (k13 : PySem.W.keepIn K (.ref f13) = true)
    (a14 : PySem.W.nsIn K mainGlobals "_law_pieces" = some (some (.ref f14)))
    (l14 : K.lookup f14 = some ⟨oc14, od14, .func (PySem.W.fnOf "_law_pieces" "_law_pieces" (defArgs (topS 31)) (defBody (topS 31)) (defScope (topS 31)) .none kV14 dc14 pm14 an14 cd14 ct14), sl14⟩)
    (c14 : PySem.W.codeIn K cd14 "_law_pieces" = true)
    (k14 : PySem.W.keepIn K (.ref f14) = true)
    (a15 : PySem.W.nsIn K mainGlobals "_law_due" = some (some (.ref f15)))
    (l15 : K.lookup f15 = some ⟨oc15, od15, .func (PySem.W.fnOf "_law_due" "_law_due" (defArgs (topS 32)) (defBody (topS 32)) (defScope (topS 32)) .none kV15 dc15 pm15 an15 cd15 ct15), sl15⟩)
    (c15 : PySem.W.codeIn K cd15 "_law_due" = true)
    (k15 : PySem.W.keepIn K (.ref f15) = true)
    (a16 : PySem.W.nsIn K mainGlobals "_law_told" = some (some (.ref f16)))
    (l16 : K.lookup f16 = some ⟨oc16, od16, .func (PySem.W.fnOf "_law_told" "_law_told" (defArgs (topS 33)) (defBody (topS 33)) (defScope (topS 33)) .none kV16 dc16 pm16 an16 cd16 ct16), sl16⟩)
    (c16 : PySem.W.codeIn K cd16 "_law_told" = true)
    (k16 : PySem.W.keepIn K (.ref f16) = true)
    (a17 : PySem.W.nsIn K mainGlobals "_law_right" = some (some (.ref f17)))
    (l17 : K.lookup f17 = some ⟨oc17, od17, .func (PySem.W.fnOf "_law_right" "_law_right" (defArgs (topS 34)) (defBody (topS 34)) (defScope (topS 34)) .none kV17 dc17 pm17 an17 cd17 ct17), sl17⟩)
    (c17 : PySem.W.codeIn K cd17 "_law_right" = true)
    (k17 : PySem.W.keepIn K (.ref f17) = true)
    (a18 : PySem.W.nsIn K mainGlobals "law" = some (some (.ref f18)))
    (l18 : K.lookup f18 = some ⟨oc18, od18, .func (PySem.W.fnOf "law" "law" (defArgs (topS 35)) (defBody (topS 35)) (defScope (topS 35)) .none kV18 dc18 pm18 an18 cd18 ct18), sl18⟩)
    (c18 : PySem.W.codeIn K cd18 "law" = true)
    (k18 : PySem.W.keepIn K (.ref f18) = true)
    (xa0 : PySem.W.nsIn K mainGlobals "WeaveError" = some (some (.ref C0)))
    (xk0 : PySem.W.keepIn K (.ref C0) = true)
    (xq0 : PySem.W.excIn K C0 [.type "ValueError", .type "Exception", .type "BaseException", .type "object"] "ValueError.__new__" = true)
    (xb0 : PySem.W.subIn K (.ref C0) (.type "BaseException") = some true)
    (xt0 : PySem.W.typeIn K (.ref C0) = some (.type "type"))
    (xa1 : PySem.W.nsIn K mainGlobals "NoRow" = some (some (.ref C1)))
    (xk1 : PySem.W.keepIn K (.ref C1) = true)
    (xq1 : PySem.W.excIn K C1 [.type "ValueError", .type "Exception", .type "BaseException", .type "object"] "ValueError.__new__" = true)
    (xb1 : PySem.W.subIn K (.ref C1) (.type "BaseException") = some true)
    (xt1 : PySem.W.typeIn K (.ref C1) = some (.type "type"))
    (xa2 : PySem.W.nsIn K mainGlobals "NoRows" = some (some (.ref C2)))
    (xk2 : PySem.W.keepIn K (.ref C2) = true)
    (xq2 : PySem.W.excIn K C2 [.type "ValueError", .type "Exception", .type "BaseException", .type "object"] "ValueError.__new__" = true)
    (xb2 : PySem.W.subIn K (.ref C2) (.type "BaseException") = some true)
    (xt2 : PySem.W.typeIn K (.ref C2) = some (.type "type"))
    (xa3 : PySem.W.nsIn K mainGlobals "NoWeave" = some (some (.ref C3)))
    (xk3 : PySem.W.keepIn K (.ref C3) = true)
    (xq3 : PySem.W.excIn K C3 [.type "ValueError", .type "Exception", .type "BaseException", .type "object"] "ValueError.__new__" = true)
    (xb3 : PySem.W.subIn K (.ref C3) (.type "BaseException") = some true)
    (xt3 : PySem.W.typeIn K (.ref C3) = some (.type "type"))
    (xa4 : PySem.W.nsIn K mainGlobals "NoNumber" = some (some (.ref C4)))
    (xk4 : PySem.W.keepIn K (.ref C4) = true)
    (xq4 : PySem.W.excIn K C4 [.type "ValueError", .type "Exception", .type "BaseException", .type "object"] "ValueError.__new__" = true)
    (xb4 : PySem.W.subIn K (.ref C4) (.type "BaseException") = some true)
    (xt4 : PySem.W.typeIn K (.ref C4) = some (.type "type"))
    (xa5 : PySem.W.nsIn K mainGlobals "NoSign" = some (some (.ref C5)))
    (xk5 : PySem.W.keepIn K (.ref C5) = true)
    (xq5 : PySem.W.excIn K C5 [.type "ValueError", .type "Exception", .type "BaseException", .type "object"] "ValueError.__new__" = true)
    (xb5 : PySem.W.subIn K (.ref C5) (.type "BaseException") = some true)
    (xt5 : PySem.W.typeIn K (.ref C5) = some (.type "type"))
    (xa6 : PySem.W.nsIn K mainGlobals "NoPieces" = some (some (.ref C6)))
    (xk6 : PySem.W.keepIn K (.ref C6) = true)
    (xq6 : PySem.W.excIn K C6 [.type "ValueError", .type "Exception", .type "BaseException", .type "object"] "ValueError.__new__" = true)
    (xb6 : PySem.W.subIn K (.ref C6) (.type "BaseException") = some true)
    (xt6 : PySem.W.typeIn K (.ref C6) = some (.type "type"))
    (xa7 : PySem.W.nsIn K mainGlobals "TooMany" = some (some (.ref C7)))
    (xk7 : PySem.W.keepIn K (.ref C7) = true)
    (xq7 : PySem.W.excIn K C7 [.type "ValueError", .type "Exception", .type "BaseException", .type "object"] "ValueError.__new__" = true)
    (xb7 : PySem.W.subIn K (.ref C7) (.type "BaseException") = some true)
    (xt7 : PySem.W.typeIn K (.ref C7) = some (.type "type"))
    (xa8 : PySem.W.nsIn K mainGlobals "NoText" = some (some (.ref C8)))
    (xk8 : PySem.W.keepIn K (.ref C8) = true)
    (xq8 : PySem.W.excIn K C8 [.type "ValueError", .type "Exception", .type "BaseException", .type "object"] "ValueError.__new__" = true)
    (xb8 : PySem.W.subIn K (.ref C8) (.type "BaseException") = some true)
    (xt8 : PySem.W.typeIn K (.ref C8) = some (.type "type"))
    (xa9 : PySem.W.nsIn K mainGlobals "NoAsk" = some (some (.ref C9)))
    (xk9 : PySem.W.keepIn K (.ref C9) = true)
    (xq9 : PySem.W.excIn K C9 [.type "ValueError", .type "Exception", .type "BaseException", .type "object"] "ValueError.__new__" = true)
    (xb9 : PySem.W.subIn K (.ref C9) (.type "BaseException") = some true)
    (xt9 : PySem.W.typeIn K (.ref C9) = some (.type "type"))
    (yn : PySem.W.specialIn K (.builtin "object.__class__") "__get__" = some (some (.builtin "getset_descriptor.__get__")))
    (yt : PySem.W.takesIn K (.builtin "object.__class__") = some true)
    (yg0 : PySem.W.findIn K (.ref C0) "__getattribute__" = some (some (.builtin "BaseException.__getattribute__")))
    (yk0 : PySem.W.findIn K (.ref C0) "__getattr__" = some none)
    (yd0 : PySem.W.hasDictIn K C0 = true)
    (ya0 : PySem.W.findIn K (.ref C0) "__class__" = some (some (.builtin "object.__class__")))
    (ym0 : PySem.W.mroIn K C0 (.type "object") = some true)
    (yv0 : PySem.W.subIn K (.ref C0) (.type "ValueError") = some true)
    (ys0_0 : PySem.W.subIn K (.ref C0) (.ref C0) = some true)
    (ys0_1 : PySem.W.subIn K (.ref C0) (.ref C1) = some false)
    (ys0_2 : PySem.W.subIn K (.ref C0) (.ref C2) = some false)
    (ys0_3 : PySem.W.subIn K (.ref C0) (.ref C3) = some false)
    (ys0_4 : PySem.W.subIn K (.ref C0) (.ref C4) = some false)
    (ys0_5 : PySem.W.subIn K (.ref C0) (.ref C5) = some false)
    (ys0_6 : PySem.W.subIn K (.ref C0) (.ref C6) = some false)
    (ys0_7 : PySem.W.subIn K (.ref C0) (.ref C7) = some false)
    (ys0_8 : PySem.W.subIn K (.ref C0) (.ref C8) = some false)
    (ys0_9 : PySem.W.subIn K (.ref C0) (.ref C9) = some false)
    (yg1 : PySem.W.findIn K (.ref C1) "__getattribute__" = some (some (.builtin "BaseException.__getattribute__")))
    (yk1 : PySem.W.findIn K (.ref C1) "__getattr__" = some none)
    (yd1 : PySem.W.hasDictIn K C1 = true)
    (ya1 : PySem.W.findIn K (.ref C1) "__class__" = some (some (.builtin "object.__class__")))
    (ym1 : PySem.W.mroIn K C1 (.type "object") = some true)
    (yv1 : PySem.W.subIn K (.ref C1) (.type "ValueError") = some true)
    (ys1_0 : PySem.W.subIn K (.ref C1) (.ref C0) = some true)
    (ys1_1 : PySem.W.subIn K (.ref C1) (.ref C1) = some true)
    (ys1_2 : PySem.W.subIn K (.ref C1) (.ref C2) = some false)
    (ys1_3 : PySem.W.subIn K (.ref C1) (.ref C3) = some false)
    (ys1_4 : PySem.W.subIn K (.ref C1) (.ref C4) = some false)
    (ys1_5 : PySem.W.subIn K (.ref C1) (.ref C5) = some false)
    (ys1_6 : PySem.W.subIn K (.ref C1) (.ref C6) = some false)
    (ys1_7 : PySem.W.subIn K (.ref C1) (.ref C7) = some false)
    (ys1_8 : PySem.W.subIn K (.ref C1) (.ref C8) = some false)
    (ys1_9 : PySem.W.subIn K (.ref C1) (.ref C9) = some false)
    (yg2 : PySem.W.findIn K (.ref C2) "__getattribute__" = some (some (.builtin "BaseException.__getattribute__")))
    (yk2 : PySem.W.findIn K (.ref C2) "__getattr__" = some none)
    (yd2 : PySem.W.hasDictIn K C2 = true)
    (ya2 : PySem.W.findIn K (.ref C2) "__class__" = some (some (.builtin "object.__class__")))
    (ym2 : PySem.W.mroIn K C2 (.type "object") = some true)
    (yv2 : PySem.W.subIn K (.ref C2) (.type "ValueError") = some true)
    (ys2_0 : PySem.W.subIn K (.ref C2) (.ref C0) = some true)
    (ys2_1 : PySem.W.subIn K (.ref C2) (.ref C1) = some false)
    (ys2_2 : PySem.W.subIn K (.ref C2) (.ref C2) = some true)
    (ys2_3 : PySem.W.subIn K (.ref C2) (.ref C3) = some false)
    (ys2_4 : PySem.W.subIn K (.ref C2) (.ref C4) = some false)
    (ys2_5 : PySem.W.subIn K (.ref C2) (.ref C5) = some false)
    (ys2_6 : PySem.W.subIn K (.ref C2) (.ref C6) = some false)
    (ys2_7 : PySem.W.subIn K (.ref C2) (.ref C7) = some false)
    (ys2_8 : PySem.W.subIn K (.ref C2) (.ref C8) = some false)
    (ys2_9 : PySem.W.subIn K (.ref C2) (.ref C9) = some false)
    (yg3 : PySem.W.findIn K (.ref C3) "__getattribute__" = some (some (.builtin "BaseException.__getattribute__")))
    (yk3 : PySem.W.findIn K (.ref C3) "__getattr__" = some none)
    (yd3 : PySem.W.hasDictIn K C3 = true)
    (ya3 : PySem.W.findIn K (.ref C3) "__class__" = some (some (.builtin "object.__class__")))
    (ym3 : PySem.W.mroIn K C3 (.type "object") = some true)
    (yv3 : PySem.W.subIn K (.ref C3) (.type "ValueError") = some true)
    (ys3_0 : PySem.W.subIn K (.ref C3) (.ref C0) = some true)
    (ys3_1 : PySem.W.subIn K (.ref C3) (.ref C1) = some false)
    (ys3_2 : PySem.W.subIn K (.ref C3) (.ref C2) = some false)
    (ys3_3 : PySem.W.subIn K (.ref C3) (.ref C3) = some true)
    (ys3_4 : PySem.W.subIn K (.ref C3) (.ref C4) = some false)
    (ys3_5 : PySem.W.subIn K (.ref C3) (.ref C5) = some false)
    (ys3_6 : PySem.W.subIn K (.ref C3) (.ref C6) = some false)
    (ys3_7 : PySem.W.subIn K (.ref C3) (.ref C7) = some false)
    (ys3_8 : PySem.W.subIn K (.ref C3) (.ref C8) = some false)
    (ys3_9 : PySem.W.subIn K (.ref C3) (.ref C9) = some false)
    (yg4 : PySem.W.findIn K (.ref C4) "__getattribute__" = some (some (.builtin "BaseException.__getattribute__")))
    (yk4 : PySem.W.findIn K (.ref C4) "__getattr__" = some none)
    (yd4 : PySem.W.hasDictIn K C4 = true)
    (ya4 : PySem.W.findIn K (.ref C4) "__class__" = some (some (.builtin "object.__class__")))
    (ym4 : PySem.W.mroIn K C4 (.type "object") = some true)
    (yv4 : PySem.W.subIn K (.ref C4) (.type "ValueError") = some true)
    (ys4_0 : PySem.W.subIn K (.ref C4) (.ref C0) = some true)
    (ys4_1 : PySem.W.subIn K (.ref C4) (.ref C1) = some false)
    (ys4_2 : PySem.W.subIn K (.ref C4) (.ref C2) = some false)
    (ys4_3 : PySem.W.subIn K (.ref C4) (.ref C3) = some false)
    (ys4_4 : PySem.W.subIn K (.ref C4) (.ref C4) = some true)
    (ys4_5 : PySem.W.subIn K (.ref C4) (.ref C5) = some false)
    (ys4_6 : PySem.W.subIn K (.ref C4) (.ref C6) = some false)
    (ys4_7 : PySem.W.subIn K (.ref C4) (.ref C7) = some false)
    (ys4_8 : PySem.W.subIn K (.ref C4) (.ref C8) = some false)
    (ys4_9 : PySem.W.subIn K (.ref C4) (.ref C9) = some false)
    (yg5 : PySem.W.findIn K (.ref C5) "__getattribute__" = some (some (.builtin "BaseException.__getattribute__")))
    (yk5 : PySem.W.findIn K (.ref C5) "__getattr__" = some none)
    (yd5 : PySem.W.hasDictIn K C5 = true)
    (ya5 : PySem.W.findIn K (.ref C5) "__class__" = some (some (.builtin "object.__class__")))
    (ym5 : PySem.W.mroIn K C5 (.type "object") = some true)
    (yv5 : PySem.W.subIn K (.ref C5) (.type "ValueError") = some true)
    (ys5_0 : PySem.W.subIn K (.ref C5) (.ref C0) = some true)
    (ys5_1 : PySem.W.subIn K (.ref C5) (.ref C1) = some false)
    (ys5_2 : PySem.W.subIn K (.ref C5) (.ref C2) = some false)
    (ys5_3 : PySem.W.subIn K (.ref C5) (.ref C3) = some false)
    (ys5_4 : PySem.W.subIn K (.ref C5) (.ref C4) = some false)
    (ys5_5 : PySem.W.subIn K (.ref C5) (.ref C5) = some true)
    (ys5_6 : PySem.W.subIn K (.ref C5) (.ref C6) = some false)
    (ys5_7 : PySem.W.subIn K (.ref C5) (.ref C7) = some false)
    (ys5_8 : PySem.W.subIn K (.ref C5) (.ref C8) = some false)
    (ys5_9 : PySem.W.subIn K (.ref C5) (.ref C9) = some false)
    (yg6 : PySem.W.findIn K (.ref C6) "__getattribute__" = some (some (.builtin "BaseException.__getattribute__")))
    (yk6 : PySem.W.findIn K (.ref C6) "__getattr__" = some none)
    (yd6 : PySem.W.hasDictIn K C6 = true)
    (ya6 : PySem.W.findIn K (.ref C6) "__class__" = some (some (.builtin "object.__class__")))
    (ym6 : PySem.W.mroIn K C6 (.type "object") = some true)
    (yv6 : PySem.W.subIn K (.ref C6) (.type "ValueError") = some true)
    (ys6_0 : PySem.W.subIn K (.ref C6) (.ref C0) = some true)
    (ys6_1 : PySem.W.subIn K (.ref C6) (.ref C1) = some false)
    (ys6_2 : PySem.W.subIn K (.ref C6) (.ref C2) = some false)
    (ys6_3 : PySem.W.subIn K (.ref C6) (.ref C3) = some false)
    (ys6_4 : PySem.W.subIn K (.ref C6) (.ref C4) = some false)
    (ys6_5 : PySem.W.subIn K (.ref C6) (.ref C5) = some false)
    (ys6_6 : PySem.W.subIn K (.ref C6) (.ref C6) = some true)
    (ys6_7 : PySem.W.subIn K (.ref C6) (.ref C7) = some false)
    (ys6_8 : PySem.W.subIn K (.ref C6) (.ref C8) = some false)
    (ys6_9 : PySem.W.subIn K (.ref C6) (.ref C9) = some false)
    (yg7 : PySem.W.findIn K (.ref C7) "__getattribute__" = some (some (.builtin "BaseException.__getattribute__")))
    (yk7 : PySem.W.findIn K (.ref C7) "__getattr__" = some none)
    (yd7 : PySem.W.hasDictIn K C7 = true)
    (ya7 : PySem.W.findIn K (.ref C7) "__class__" = some (some (.builtin "object.__class__")))
    (ym7 : PySem.W.mroIn K C7 (.type "object") = some true)
    (yv7 : PySem.W.subIn K (.ref C7) (.type "ValueError") = some true)
    (ys7_0 : PySem.W.subIn K (.ref C7) (.ref C0) = some true)
    (ys7_1 : PySem.W.subIn K (.ref C7) (.ref C1) = some false)
    (ys7_2 : PySem.W.subIn K (.ref C7) (.ref C2) = some false)
    (ys7_3 : PySem.W.subIn K (.ref C7) (.ref C3) = some false)
    (ys7_4 : PySem.W.subIn K (.ref C7) (.ref C4) = some false)
    (ys7_5 : PySem.W.subIn K (.ref C7) (.ref C5) = some false)
    (ys7_6 : PySem.W.subIn K (.ref C7) (.ref C6) = some false)
    (ys7_7 : PySem.W.subIn K (.ref C7) (.ref C7) = some true)
    (ys7_8 : PySem.W.subIn K (.ref C7) (.ref C8) = some false)
    (ys7_9 : PySem.W.subIn K (.ref C7) (.ref C9) = some false)
    (yg8 : PySem.W.findIn K (.ref C8) "__getattribute__" = some (some (.builtin "BaseException.__getattribute__")))
    (yk8 : PySem.W.findIn K (.ref C8) "__getattr__" = some none)
    (yd8 : PySem.W.hasDictIn K C8 = true)
    (ya8 : PySem.W.findIn K (.ref C8) "__class__" = some (some (.builtin "object.__class__")))
    (ym8 : PySem.W.mroIn K C8 (.type "object") = some true)
    (yv8 : PySem.W.subIn K (.ref C8) (.type "ValueError") = some true)
    (ys8_0 : PySem.W.subIn K (.ref C8) (.ref C0) = some true)
    (ys8_1 : PySem.W.subIn K (.ref C8) (.ref C1) = some false)
    (ys8_2 : PySem.W.subIn K (.ref C8) (.ref C2) = some false)
    (ys8_3 : PySem.W.subIn K (.ref C8) (.ref C3) = some false)
    (ys8_4 : PySem.W.subIn K (.ref C8) (.ref C4) = some false)
    (ys8_5 : PySem.W.subIn K (.ref C8) (.ref C5) = some false)
    (ys8_6 : PySem.W.subIn K (.ref C8) (.ref C6) = some false)
    (ys8_7 : PySem.W.subIn K (.ref C8) (.ref C7) = some false)
    (ys8_8 : PySem.W.subIn K (.ref C8) (.ref C8) = some true)
    (ys8_9 : PySem.W.subIn K (.ref C8) (.ref C9) = some false)
    (yg9 : PySem.W.findIn K (.ref C9) "__getattribute__" = some (some (.builtin "BaseException.__getattribute__")))
    (yk9 : PySem.W.findIn K (.ref C9) "__getattr__" = some none)
    (yd9 : PySem.W.hasDictIn K C9 = true)
    (ya9 : PySem.W.findIn K (.ref C9) "__class__" = some (some (.builtin "object.__class__")))
    (ym9 : PySem.W.mroIn K C9 (.type "object") = some true)
    (yv9 : PySem.W.subIn K (.ref C9) (.type "ValueError") = some true)
    (ys9_0 : PySem.W.subIn K (.ref C9) (.ref C0) = some true)
    (ys9_1 : PySem.W.subIn K (.ref C9) (.ref C1) = some false)
    (ys9_2 : PySem.W.subIn K (.ref C9) (.ref C2) = some false)
    (ys9_3 : PySem.W.subIn K (.ref C9) (.ref C3) = some false)
    (ys9_4 : PySem.W.subIn K (.ref C9) (.ref C4) = some false)
    (ys9_5 : PySem.W.subIn K (.ref C9) (.ref C5) = some false)
    (ys9_6 : PySem.W.subIn K (.ref C9) (.ref C6) = some false)
    (ys9_7 : PySem.W.subIn K (.ref C9) (.ref C7) = some false)
    (ys9_8 : PySem.W.subIn K (.ref C9) (.ref C8) = some false)
    (ys9_9 : PySem.W.subIn K (.ref C9) (.ref C9) = some true)
    (z0 : PySem.W.nsIn K mainGlobals "ValueError" = some none)
    (z1 : PySem.W.nsIn K mainGlobals "int" = some none)
    (z2 : PySem.W.nsIn K mainGlobals "isinstance" = some none)
    (z3 : PySem.W.nsIn K mainGlobals "len" = some none)
    (z4 : PySem.W.nsIn K mainGlobals "list" = some none)
    (z5 : PySem.W.nsIn K mainGlobals "range" = some none)
    (z6 : PySem.W.nsIn K mainGlobals "repr" = some none)
    (z7 : PySem.W.nsIn K mainGlobals "str" = some none)
    (vs0 : PySem.W.nsIn K mainGlobals "SIGNS" = some (some (.str "abcdefghijklmnopqrstuvwxyz" gt0)))
    (vs1 : PySem.W.nsIn K mainGlobals "MOST_ROWS" = some (some (.int 8 gt1)))
    (vs2 : PySem.W.nsIn K mainGlobals "MOST_SIGNS" = some (some (.int 40 gt2)))
    : ∃ fd : FuncData, (∀ (s : Shared) (v : Value), BindsTo s fd ⟨[v], []⟩ [("_law_script", v)]) ∧ ∀ base : Heap, K.In base → base.Ns mainGlobals mg → SmB K mg base → SW.FnOk P w K mg base (L2.CX P w) 6 fa fd ["_law_script"] (upF K (S_law fun _ => 0)) := by
  have e := hfa.symm.trans (PySem.W.mg_of X G a18)
  cases e
  have T : Txt K mg (fun x => if x = "WeaveError" then C0 else if x = "NoRow" then C1 else if x = "NoRows" then C2 else if x = "NoWeave" then C3 else if x = "NoNumber" then C4 else if x = "NoSign" then C5 else if x = "NoPieces" then C6 else if x = "TooMany" then C7 else if x = "NoText" then C8 else if x = "NoAsk" then C9 else 0) := ⟨(gfun_mk X G a0 l0 c0 k0 fun _ _ _ _ _ _ us hl => match us, hl with | [_], _ => rfl),
    (gfun_mk X G a1 l1 c1 k1 fun _ _ _ _ _ _ us hl => match us, hl with | [_], _ => rfl),
    (gfun_mk X G a2 l2 c2 k2 fun _ _ _ _ _ _ us hl => match us, hl with | [_], _ => rfl),
    (gfun_mk X G a3 l3 c3 k3 fun _ _ _ _ _ _ us hl => match us, hl with | [_], _ => rfl),
    (gfun_mk X G a4 l4 c4 k4 fun _ _ _ _ _ _ us hl => match us, hl with | [_], _ => rfl),
    (gfun_mk X G a5 l5 c5 k5 fun _ _ _ _ _ _ us hl => match us, hl with | [_], _ => rfl),
    (gfun_mk X G a6 l6 c6 k6 fun _ _ _ _ _ _ us hl => match us, hl with | [_, _], _ => rfl),
    (gfun_mk X G a7 l7 c7 k7 fun _ _ _ _ _ _ us hl => match us, hl with | [_], _ => rfl),
    (gfun_mk X G a8 l8 c8 k8 fun _ _ _ _ _ _ us hl => match us, hl with | [_, _, _], _ => rfl),
    (gfun_mk X G a9 l9 c9 k9 fun _ _ _ _ _ _ us hl => match us, hl with | [_, _], _ => rfl),
    (gfun_mk X G a10 l10 c10 k10 fun _ _ _ _ _ _ us hl => match us, hl with | [_], _ => rfl),
    (gfun_mk X G a11 l11 c11 k11 fun _ _ _ _ _ _ us hl => match us, hl with | [_], _ => rfl),
    (gfun_mk X G a12 l12 c12 k12 fun _ _ _ _ _ _ us hl => match us, hl with | [_, _], _ => rfl),
    (gfun_mk X G a13 l13 c13 k13 fun _ _ _ _ _ _ us hl => match us, hl with | [_, _], _ => rfl),
    (gfun_mk X G a14 l14 c14 k14 fun _ _ _ _ _ _ us hl => match us, hl with | [_], _ => rfl),
    (gfun_mk X G a15 l15 c15 k15 fun _ _ _ _ _ _ us hl => match us, hl with | [_, _], _ => rfl),
    (gfun_mk X G a16 l16 c16 k16 fun _ _ _ _ _ _ us hl => match us, hl with | [_, _], _ => rfl),
    (gfun_mk X G a17 l17 c17 k17 fun _ _ _ _ _ _ us hl => match us, hl with | [_], _ => rfl),
    (gfun_mk X G a18 l18 c18 k18 fun _ _ _ _ _ _ us hl => match us, hl with | [_], _ => rfl),
    (PySem.W.mg_none_of X G z0),
    (PySem.W.mg_none_of X G z1),
    (PySem.W.mg_none_of X G z2),
    (PySem.W.mg_none_of X G z3),
    (PySem.W.mg_none_of X G z4),
    (PySem.W.mg_none_of X G z5),
    (PySem.W.mg_none_of X G z6),
    (PySem.W.mg_none_of X G z7),
    (⟨_, PySem.W.mg_of X G vs0⟩),
    (⟨_, PySem.W.mg_of X G vs1⟩),
    (⟨_, PySem.W.mg_of X G vs2⟩),
    (by rw [show (if ("WeaveError" : Str) = "WeaveError" then C0 else if ("WeaveError" : Str) = "NoRow" then C1 else if ("WeaveError" : Str) = "NoRows" then C2 else if ("WeaveError" : Str) = "NoWeave" then C3 else if ("WeaveError" : Str) = "NoNumber" then C4 else if ("WeaveError" : Str) = "NoSign" then C5 else if ("WeaveError" : Str) = "NoPieces" then C6 else if ("WeaveError" : Str) = "TooMany" then C7 else if ("WeaveError" : Str) = "NoText" then C8 else if ("WeaveError" : Str) = "NoAsk" then C9 else 0 : Addr) = C0 from if_pos rfl]; exact excf_mk X G xa0 xk0 xq0 xb0 xt0),
    (by rw [show (if ("NoRow" : Str) = "WeaveError" then C0 else if ("NoRow" : Str) = "NoRow" then C1 else if ("NoRow" : Str) = "NoRows" then C2 else if ("NoRow" : Str) = "NoWeave" then C3 else if ("NoRow" : Str) = "NoNumber" then C4 else if ("NoRow" : Str) = "NoSign" then C5 else if ("NoRow" : Str) = "NoPieces" then C6 else if ("NoRow" : Str) = "TooMany" then C7 else if ("NoRow" : Str) = "NoText" then C8 else if ("NoRow" : Str) = "NoAsk" then C9 else 0 : Addr) = C1 from (if_neg (by decide +kernel)).trans (if_pos rfl)]; exact excf_mk X G xa1 xk1 xq1 xb1 xt1),
    (by rw [show (if ("NoRows" : Str) = "WeaveError" then C0 else if ("NoRows" : Str) = "NoRow" then C1 else if ("NoRows" : Str) = "NoRows" then C2 else if ("NoRows" : Str) = "NoWeave" then C3 else if ("NoRows" : Str) = "NoNumber" then C4 else if ("NoRows" : Str) = "NoSign" then C5 else if ("NoRows" : Str) = "NoPieces" then C6 else if ("NoRows" : Str) = "TooMany" then C7 else if ("NoRows" : Str) = "NoText" then C8 else if ("NoRows" : Str) = "NoAsk" then C9 else 0 : Addr) = C2 from (if_neg (by decide +kernel)).trans ((if_neg (by decide +kernel)).trans (if_pos rfl))]; exact excf_mk X G xa2 xk2 xq2 xb2 xt2),
    (by rw [show (if ("NoWeave" : Str) = "WeaveError" then C0 else if ("NoWeave" : Str) = "NoRow" then C1 else if ("NoWeave" : Str) = "NoRows" then C2 else if ("NoWeave" : Str) = "NoWeave" then C3 else if ("NoWeave" : Str) = "NoNumber" then C4 else if ("NoWeave" : Str) = "NoSign" then C5 else if ("NoWeave" : Str) = "NoPieces" then C6 else if ("NoWeave" : Str) = "TooMany" then C7 else if ("NoWeave" : Str) = "NoText" then C8 else if ("NoWeave" : Str) = "NoAsk" then C9 else 0 : Addr) = C3 from (if_neg (by decide +kernel)).trans ((if_neg (by decide +kernel)).trans ((if_neg (by decide +kernel)).trans (if_pos rfl)))]; exact excf_mk X G xa3 xk3 xq3 xb3 xt3),
    (by rw [show (if ("NoNumber" : Str) = "WeaveError" then C0 else if ("NoNumber" : Str) = "NoRow" then C1 else if ("NoNumber" : Str) = "NoRows" then C2 else if ("NoNumber" : Str) = "NoWeave" then C3 else if ("NoNumber" : Str) = "NoNumber" then C4 else if ("NoNumber" : Str) = "NoSign" then C5 else if ("NoNumber" : Str) = "NoPieces" then C6 else if ("NoNumber" : Str) = "TooMany" then C7 else if ("NoNumber" : Str) = "NoText" then C8 else if ("NoNumber" : Str) = "NoAsk" then C9 else 0 : Addr) = C4 from (if_neg (by decide +kernel)).trans ((if_neg (by decide +kernel)).trans ((if_neg (by decide +kernel)).trans ((if_neg (by decide +kernel)).trans (if_pos rfl))))]; exact excf_mk X G xa4 xk4 xq4 xb4 xt4),
    (by rw [show (if ("NoSign" : Str) = "WeaveError" then C0 else if ("NoSign" : Str) = "NoRow" then C1 else if ("NoSign" : Str) = "NoRows" then C2 else if ("NoSign" : Str) = "NoWeave" then C3 else if ("NoSign" : Str) = "NoNumber" then C4 else if ("NoSign" : Str) = "NoSign" then C5 else if ("NoSign" : Str) = "NoPieces" then C6 else if ("NoSign" : Str) = "TooMany" then C7 else if ("NoSign" : Str) = "NoText" then C8 else if ("NoSign" : Str) = "NoAsk" then C9 else 0 : Addr) = C5 from (if_neg (by decide +kernel)).trans ((if_neg (by decide +kernel)).trans ((if_neg (by decide +kernel)).trans ((if_neg (by decide +kernel)).trans ((if_neg (by decide +kernel)).trans (if_pos rfl)))))]; exact excf_mk X G xa5 xk5 xq5 xb5 xt5),
    (by rw [show (if ("NoPieces" : Str) = "WeaveError" then C0 else if ("NoPieces" : Str) = "NoRow" then C1 else if ("NoPieces" : Str) = "NoRows" then C2 else if ("NoPieces" : Str) = "NoWeave" then C3 else if ("NoPieces" : Str) = "NoNumber" then C4 else if ("NoPieces" : Str) = "NoSign" then C5 else if ("NoPieces" : Str) = "NoPieces" then C6 else if ("NoPieces" : Str) = "TooMany" then C7 else if ("NoPieces" : Str) = "NoText" then C8 else if ("NoPieces" : Str) = "NoAsk" then C9 else 0 : Addr) = C6 from (if_neg (by decide +kernel)).trans ((if_neg (by decide +kernel)).trans ((if_neg (by decide +kernel)).trans ((if_neg (by decide +kernel)).trans ((if_neg (by decide +kernel)).trans ((if_neg (by decide +kernel)).trans (if_pos rfl))))))]; exact excf_mk X G xa6 xk6 xq6 xb6 xt6),
    (by rw [show (if ("TooMany" : Str) = "WeaveError" then C0 else if ("TooMany" : Str) = "NoRow" then C1 else if ("TooMany" : Str) = "NoRows" then C2 else if ("TooMany" : Str) = "NoWeave" then C3 else if ("TooMany" : Str) = "NoNumber" then C4 else if ("TooMany" : Str) = "NoSign" then C5 else if ("TooMany" : Str) = "NoPieces" then C6 else if ("TooMany" : Str) = "TooMany" then C7 else if ("TooMany" : Str) = "NoText" then C8 else if ("TooMany" : Str) = "NoAsk" then C9 else 0 : Addr) = C7 from (if_neg (by decide +kernel)).trans ((if_neg (by decide +kernel)).trans ((if_neg (by decide +kernel)).trans ((if_neg (by decide +kernel)).trans ((if_neg (by decide +kernel)).trans ((if_neg (by decide +kernel)).trans ((if_neg (by decide +kernel)).trans (if_pos rfl)))))))]; exact excf_mk X G xa7 xk7 xq7 xb7 xt7),
    (by rw [show (if ("NoText" : Str) = "WeaveError" then C0 else if ("NoText" : Str) = "NoRow" then C1 else if ("NoText" : Str) = "NoRows" then C2 else if ("NoText" : Str) = "NoWeave" then C3 else if ("NoText" : Str) = "NoNumber" then C4 else if ("NoText" : Str) = "NoSign" then C5 else if ("NoText" : Str) = "NoPieces" then C6 else if ("NoText" : Str) = "TooMany" then C7 else if ("NoText" : Str) = "NoText" then C8 else if ("NoText" : Str) = "NoAsk" then C9 else 0 : Addr) = C8 from (if_neg (by decide +kernel)).trans ((if_neg (by decide +kernel)).trans ((if_neg (by decide +kernel)).trans ((if_neg (by decide +kernel)).trans ((if_neg (by decide +kernel)).trans ((if_neg (by decide +kernel)).trans ((if_neg (by decide +kernel)).trans ((if_neg (by decide +kernel)).trans (if_pos rfl))))))))]; exact excf_mk X G xa8 xk8 xq8 xb8 xt8),
    (by rw [show (if ("NoAsk" : Str) = "WeaveError" then C0 else if ("NoAsk" : Str) = "NoRow" then C1 else if ("NoAsk" : Str) = "NoRows" then C2 else if ("NoAsk" : Str) = "NoWeave" then C3 else if ("NoAsk" : Str) = "NoNumber" then C4 else if ("NoAsk" : Str) = "NoSign" then C5 else if ("NoAsk" : Str) = "NoPieces" then C6 else if ("NoAsk" : Str) = "TooMany" then C7 else if ("NoAsk" : Str) = "NoText" then C8 else if ("NoAsk" : Str) = "NoAsk" then C9 else 0 : Addr) = C9 from (if_neg (by decide +kernel)).trans ((if_neg (by decide +kernel)).trans ((if_neg (by decide +kernel)).trans ((if_neg (by decide +kernel)).trans ((if_neg (by decide +kernel)).trans ((if_neg (by decide +kernel)).trans ((if_neg (by decide +kernel)).trans ((if_neg (by decide +kernel)).trans ((if_neg (by decide +kernel)).trans (if_pos rfl)))))))))]; exact excf_mk X G xa9 xk9 xq9 xb9 xt9),
    (⟨all_excs ⟨yg0, yk0, xb0, yd0, ya0, yn, yt, ym0⟩ ⟨yg1, yk1, xb1, yd1, ya1, yn, yt, ym1⟩ ⟨yg2, yk2, xb2, yd2, ya2, yn, yt, ym2⟩ ⟨yg3, yk3, xb3, yd3, ya3, yn, yt, ym3⟩ ⟨yg4, yk4, xb4, yd4, ya4, yn, yt, ym4⟩ ⟨yg5, yk5, xb5, yd5, ya5, yn, yt, ym5⟩ ⟨yg6, yk6, xb6, yd6, ya6, yn, yt, ym6⟩ ⟨yg7, yk7, xb7, yd7, ya7, yn, yt, ym7⟩ ⟨yg8, yk8, xb8, yd8, ya8, yn, yt, ym8⟩ ⟨yg9, yk9, xb9, yd9, ya9, yn, yt, ym9⟩,
    all_excs (all_excs (kit_ref yd0 xt0 ys0_0 ys0_0) (kit_ref yd1 xt1 ys0_0 ys0_1) (kit_ref yd2 xt2 ys0_0 ys0_2) (kit_ref yd3 xt3 ys0_0 ys0_3) (kit_ref yd4 xt4 ys0_0 ys0_4) (kit_ref yd5 xt5 ys0_0 ys0_5) (kit_ref yd6 xt6 ys0_0 ys0_6) (kit_ref yd7 xt7 ys0_0 ys0_7) (kit_ref yd8 xt8 ys0_0 ys0_8) (kit_ref yd9 xt9 ys0_0 ys0_9)) (all_excs (kit_ref yd0 xt0 ys1_1 ys1_0) (kit_ref yd1 xt1 ys1_1 ys1_1) (kit_ref yd2 xt2 ys1_1 ys1_2) (kit_ref yd3 xt3 ys1_1 ys1_3) (kit_ref yd4 xt4 ys1_1 ys1_4) (kit_ref yd5 xt5 ys1_1 ys1_5) (kit_ref yd6 xt6 ys1_1 ys1_6) (kit_ref yd7 xt7 ys1_1 ys1_7) (kit_ref yd8 xt8 ys1_1 ys1_8) (kit_ref yd9 xt9 ys1_1 ys1_9)) (all_excs (kit_ref yd0 xt0 ys2_2 ys2_0) (kit_ref yd1 xt1 ys2_2 ys2_1) (kit_ref yd2 xt2 ys2_2 ys2_2) (kit_ref yd3 xt3 ys2_2 ys2_3) (kit_ref yd4 xt4 ys2_2 ys2_4) (kit_ref yd5 xt5 ys2_2 ys2_5) (kit_ref yd6 xt6 ys2_2 ys2_6) (kit_ref yd7 xt7 ys2_2 ys2_7) (kit_ref yd8 xt8 ys2_2 ys2_8) (kit_ref yd9 xt9 ys2_2 ys2_9)) (all_excs (kit_ref yd0 xt0 ys3_3 ys3_0) (kit_ref yd1 xt1 ys3_3 ys3_1) (kit_ref yd2 xt2 ys3_3 ys3_2) (kit_ref yd3 xt3 ys3_3 ys3_3) (kit_ref yd4 xt4 ys3_3 ys3_4) (kit_ref yd5 xt5 ys3_3 ys3_5) (kit_ref yd6 xt6 ys3_3 ys3_6) (kit_ref yd7 xt7 ys3_3 ys3_7) (kit_ref yd8 xt8 ys3_3 ys3_8) (kit_ref yd9 xt9 ys3_3 ys3_9)) (all_excs (kit_ref yd0 xt0 ys4_4 ys4_0) (kit_ref yd1 xt1 ys4_4 ys4_1) (kit_ref yd2 xt2 ys4_4 ys4_2) (kit_ref yd3 xt3 ys4_4 ys4_3) (kit_ref yd4 xt4 ys4_4 ys4_4) (kit_ref yd5 xt5 ys4_4 ys4_5) (kit_ref yd6 xt6 ys4_4 ys4_6) (kit_ref yd7 xt7 ys4_4 ys4_7) (kit_ref yd8 xt8 ys4_4 ys4_8) (kit_ref yd9 xt9 ys4_4 ys4_9)) (all_excs (kit_ref yd0 xt0 ys5_5 ys5_0) (kit_ref yd1 xt1 ys5_5 ys5_1) (kit_ref yd2 xt2 ys5_5 ys5_2) (kit_ref yd3 xt3 ys5_5 ys5_3) (kit_ref yd4 xt4 ys5_5 ys5_4) (kit_ref yd5 xt5 ys5_5 ys5_5) (kit_ref yd6 xt6 ys5_5 ys5_6) (kit_ref yd7 xt7 ys5_5 ys5_7) (kit_ref yd8 xt8 ys5_5 ys5_8) (kit_ref yd9 xt9 ys5_5 ys5_9)) (all_excs (kit_ref yd0 xt0 ys6_6 ys6_0) (kit_ref yd1 xt1 ys6_6 ys6_1) (kit_ref yd2 xt2 ys6_6 ys6_2) (kit_ref yd3 xt3 ys6_6 ys6_3) (kit_ref yd4 xt4 ys6_6 ys6_4) (kit_ref yd5 xt5 ys6_6 ys6_5) (kit_ref yd6 xt6 ys6_6 ys6_6) (kit_ref yd7 xt7 ys6_6 ys6_7) (kit_ref yd8 xt8 ys6_6 ys6_8) (kit_ref yd9 xt9 ys6_6 ys6_9)) (all_excs (kit_ref yd0 xt0 ys7_7 ys7_0) (kit_ref yd1 xt1 ys7_7 ys7_1) (kit_ref yd2 xt2 ys7_7 ys7_2) (kit_ref yd3 xt3 ys7_7 ys7_3) (kit_ref yd4 xt4 ys7_7 ys7_4) (kit_ref yd5 xt5 ys7_7 ys7_5) (kit_ref yd6 xt6 ys7_7 ys7_6) (kit_ref yd7 xt7 ys7_7 ys7_7) (kit_ref yd8 xt8 ys7_7 ys7_8) (kit_ref yd9 xt9 ys7_7 ys7_9)) (all_excs (kit_ref yd0 xt0 ys8_8 ys8_0) (kit_ref yd1 xt1 ys8_8 ys8_1) (kit_ref yd2 xt2 ys8_8 ys8_2) (kit_ref yd3 xt3 ys8_8 ys8_3) (kit_ref yd4 xt4 ys8_8 ys8_4) (kit_ref yd5 xt5 ys8_8 ys8_5) (kit_ref yd6 xt6 ys8_8 ys8_6) (kit_ref yd7 xt7 ys8_8 ys8_7) (kit_ref yd8 xt8 ys8_8 ys8_8) (kit_ref yd9 xt9 ys8_8 ys8_9)) (all_excs (kit_ref yd0 xt0 ys9_9 ys9_0) (kit_ref yd1 xt1 ys9_9 ys9_1) (kit_ref yd2 xt2 ys9_9 ys9_2) (kit_ref yd3 xt3 ys9_9 ys9_3) (kit_ref yd4 xt4 ys9_9 ys9_4) (kit_ref yd5 xt5 ys9_9 ys9_5) (kit_ref yd6 xt6 ys9_9 ys9_6) (kit_ref yd7 xt7 ys9_9 ys9_7) (kit_ref yd8 xt8 ys9_9 ys9_8) (kit_ref yd9 xt9 ys9_9 ys9_9)),
    all_excs (kit_val yv0) (kit_val yv1) (kit_val yv2) (kit_val yv3) (kit_val yv4) (kit_val yv5) (kit_val yv6) (kit_val yv7) (kit_val yv8) (kit_val yv9),
    all_excs (PySem.W.exm_ref xb0 yd0 xt0 ys0_0) (PySem.W.exm_ref xb0 yd0 xt0 ys1_0) (PySem.W.exm_ref xb0 yd0 xt0 ys2_0) (PySem.W.exm_ref xb0 yd0 xt0 ys3_0) (PySem.W.exm_ref xb0 yd0 xt0 ys4_0) (PySem.W.exm_ref xb0 yd0 xt0 ys5_0) (PySem.W.exm_ref xb0 yd0 xt0 ys6_0) (PySem.W.exm_ref xb0 yd0 xt0 ys7_0) (PySem.W.exm_ref xb0 yd0 xt0 ys8_0) (PySem.W.exm_ref xb0 yd0 xt0 ys9_0)⟩)⟩
  exact ⟨PySem.W.fnOf "law" "law" (defArgs (topS 35)) (defBody (topS 35)) (defScope (topS 35)) .none kV18 dc18 pm18 an18 cd18 ct18, fun s v => .of_eq rfl, fun base _ _ SB => by have r := ok_law (P := P) (w := w) (base := base) (fun_mk l18 c18 k18) SB T; exact r⟩
end SW
open PySem PySem.W PyProof.Rows
set_option maxRecDepth 100000 in
set_option maxHeartbeats 0 in
theorem PySem.Challenge.cw_shortweave_k53_texts_of_none_holds : PySem.Challenge.rw_shortweave_k53_texts_of_none.Holds := by
  w_on; o_law; k_head; (case hw => w_witness2)
  k_fill
  refine SW.walk_of (l := PySem.Challenge.rw_shortweave_k53_texts_of_none) (n := 63) (k := 6) (x := "_law_script") (CX := fun w => L2.CX PySem.Challenge.rw_shortweave_k53_texts_of_none.prog w) (sp := fun w => SW.upF _ (SW.S_law fun _ => 0)) rfl (by decide) rfl (by decide +kernel) ⟨⟨rfl, by decide, by decide⟩, rfl⟩ ?lam (fun w h Y => PySem.W.kIn_of Y) ?F (fun w H a ns hl hO hS => SW.sp_scr hO hS ⟨ns, rfl, rfl, rfl⟩) (fun w H s e s' h => SW.cx_out H s e s' h)
  case lam =>
    intro w c P hL
    refine' SW.lamC_no ?n hL
    (case n => k_is)
  case F =>
    intro w mg fa h KX G hmg
    refine' SW.all_mk KX G hmg ?a0 ?l0 ?c0 ?k0 ?a1 ?l1 ?c1 ?k1 ?a2 ?l2 ?c2 ?k2 ?a3 ?l3 ?c3 ?k3 ?a4 ?l4 ?c4 ?k4 ?a5 ?l5 ?c5 ?k5 ?a6 ?l6 ?c6 ?k6 ?a7 ?l7 ?c7 ?k7 ?a8 ?l8 ?c8 ?k8 ?a9 ?l9 ?c9 ?k9 ?a10 ?l10 ?c10 ?k10 ?a11 ?l11 ?c11 ?k11 ?a12 ?l12 ?c12 ?k12 ?a13 ?l13 ?c13 ?k13 ?a14 ?l14 ?c14 ?k14 ?a15 ?l15 ?c15 ?k15 ?a16 ?l16 ?c16 ?k16 ?a17 ?l17 ?c17 ?k17 ?a18 ?l18 ?c18 ?k18 ?xa0 ?xk0 ?xq0 ?xb0 ?xt0 ?xa1 ?xk1 ?xq1 ?xb1 ?xt1 ?xa2 ?xk2 ?xq2 ?xb2 ?xt2 ?xa3 ?xk3 ?xq3 ?xb3 ?xt3 ?xa4 ?xk4 ?xq4 ?xb4 ?xt4 ?xa5 ?xk5 ?xq5 ?xb5 ?xt5 ?xa6 ?xk6 ?xq6 ?xb6 ?xt6 ?xa7 ?xk7 ?xq7 ?xb7 ?xt7 ?xa8 ?xk8 ?xq8 ?xb8 ?xt8 ?xa9 ?xk9 ?xq9 ?xb9 ?xt9 ?yn ?yt ?yg0 ?yk0 ?yd0 ?ya0 ?ym0 ?yv0 ?ys0_0 ?ys0_1 ?ys0_2 ?ys0_3 ?ys0_4 ?ys0_5 ?ys0_6 ?ys0_7 ?ys0_8 ?ys0_9 ?yg1 ?yk1 ?yd1 ?ya1 ?ym1 ?yv1 ?ys1_0 ?ys1_1 ?ys1_2 ?ys1_3 ?ys1_4 ?ys1_5 ?ys1_6 ?ys1_7 ?ys1_8 ?ys1_9 ?yg2 ?yk2 ?yd2 ?ya2 ?ym2 ?yv2 ?ys2_0 ?ys2_1 ?ys2_2 ?ys2_3 ?ys2_4 ?ys2_5 ?ys2_6 ?ys2_7 ?ys2_8 ?ys2_9 ?yg3 ?yk3 ?yd3 ?ya3 ?ym3 ?yv3 ?ys3_0 ?ys3_1 ?ys3_2 ?ys3_3 ?ys3_4 ?ys3_5 ?ys3_6 ?ys3_7 ?ys3_8 ?ys3_9 ?yg4 ?yk4 ?yd4 ?ya4 ?ym4 ?yv4 ?ys4_0 ?ys4_1 ?ys4_2 ?ys4_3 ?ys4_4 ?ys4_5 ?ys4_6 ?ys4_7 ?ys4_8 ?ys4_9 ?yg5 ?yk5 ?yd5 ?ya5 ?ym5 ?yv5 ?ys5_0 ?ys5_1 ?ys5_2 ?ys5_3 ?ys5_4 ?ys5_5 ?ys5_6 ?ys5_7 ?ys5_8 ?ys5_9 ?yg6 ?yk6 ?yd6 ?ya6 ?ym6 ?yv6 ?ys6_0 ?ys6_1 ?ys6_2 ?ys6_3 ?ys6_4 ?ys6_5 ?ys6_6 ?ys6_7 ?ys6_8 ?ys6_9 ?yg7 ?yk7 ?yd7 ?ya7 ?ym7 ?yv7 ?ys7_0 ?ys7_1 ?ys7_2 ?ys7_3 ?ys7_4 ?ys7_5 ?ys7_6 ?ys7_7 ?ys7_8 ?ys7_9 ?yg8 ?yk8 ?yd8 ?ya8 ?ym8 ?yv8 ?ys8_0 ?ys8_1 ?ys8_2 ?ys8_3 ?ys8_4 ?ys8_5 ?ys8_6 ?ys8_7 ?ys8_8 ?ys8_9 ?yg9 ?yk9 ?yd9 ?ya9 ?ym9 ?yv9 ?ys9_0 ?ys9_1 ?ys9_2 ?ys9_3 ?ys9_4 ?ys9_5 ?ys9_6 ?ys9_7 ?ys9_8 ?ys9_9 ?z0 ?z1 ?z2 ?z3 ?z4 ?z5 ?z6 ?z7 ?vs0 ?vs1 ?vs2
    (case a0 => k_is); (case l0 => k_is); (case c0 => k_is); (case k0 => k_is); (case a1 => k_is); (case l1 => k_is)
    (case c1 => k_is); (case k1 => k_is); (case a2 => k_is); (case l2 => k_is); (case c2 => k_is); (case k2 => k_is)
    (case a3 => k_is); (case l3 => k_is); (case c3 => k_is); (case k3 => k_is); (case a4 => k_is); (case l4 => k_is)
    (case c4 => k_is); (case k4 => k_is); (case a5 => k_is); (case l5 => k_is); (case c5 => k_is); (case k5 => k_is)
    (case a6 => k_is); (case l6 => k_is); (case c6 => k_is); (case k6 => k_is); (case a7 => k_is); (case l7 => k_is)
    (case c7 => k_is); (case k7 => k_is); (case a8 => k_is); (case l8 => k_is); (case c8 => k_is); (case k8 => k_is)
    (case a9 => k_is); (case l9 => k_is); (case c9 => k_is); (case k9 => k_is); (case a10 => k_is); (case l10 => k_is)
    (case c10 => k_is); (case k10 => k_is); (case a11 => k_is); (case l11 => k_is); (case c11 => k_is); (case k11 => k_is)
    (case a12 => k_is); (case l12 => k_is); (case c12 => k_is); (case k12 => k_is); (case a13 => k_is); (case l13 => k_is)
    (case c13 => k_is); (case k13 => k_is); (case a14 => k_is); (case l14 => k_is); (case c14 => k_is); (case k14 => k_is)
    (case a15 => k_is); (case l15 => k_is); (case c15 => k_is); (case k15 => k_is); (case a16 => k_is); (case l16 => k_is)
    (case c16 => k_is); (case k16 => k_is); (case a17 => k_is); (case l17 => k_is); (case c17 => k_is); (case k17 => k_is)
    (case a18 => k_is); (case l18 => k_is); (case c18 => k_is); (case k18 => k_is); (case xa0 => k_is); (case xk0 => k_is)
    (case xq0 => k_exc); (case xb0 => k_is); (case xt0 => k_is); (case xa1 => k_is); (case xk1 => k_is); (case xq1 => k_exc)
    (case xb1 => k_is); (case xt1 => k_is); (case xa2 => k_is); (case xk2 => k_is); (case xq2 => k_exc); (case xb2 => k_is)
    (case xt2 => k_is); (case xa3 => k_is); (case xk3 => k_is); (case xq3 => k_exc); (case xb3 => k_is); (case xt3 => k_is)
    (case xa4 => k_is); (case xk4 => k_is); (case xq4 => k_exc); (case xb4 => k_is); (case xt4 => k_is); (case xa5 => k_is)
    (case xk5 => k_is); (case xq5 => k_exc); (case xb5 => k_is); (case xt5 => k_is); (case xa6 => k_is); (case xk6 => k_is)
    (case xq6 => k_exc); (case xb6 => k_is); (case xt6 => k_is); (case xa7 => k_is); (case xk7 => k_is); (case xq7 => k_exc)
    (case xb7 => k_is); (case xt7 => k_is); (case xa8 => k_is); (case xk8 => k_is); (case xq8 => k_exc); (case xb8 => k_is)
    (case xt8 => k_is); (case xa9 => k_is); (case xk9 => k_is); (case xq9 => k_exc); (case xb9 => k_is); (case xt9 => k_is)
    (case yn => k_is); (case yt => k_is); (case yg0 => k_is); (case yk0 => k_is); (case yd0 => k_is); (case ya0 => k_is)
    (case ym0 => k_is); (case yv0 => k_is); (case ys0_0 => k_is); (case ys0_1 => k_is); (case ys0_2 => k_is); (case ys0_3 => k_is)
    (case ys0_4 => k_is); (case ys0_5 => k_is); (case ys0_6 => k_is); (case ys0_7 => k_is); (case ys0_8 => k_is); (case ys0_9 => k_is)
    (case yg1 => k_is); (case yk1 => k_is); (case yd1 => k_is); (case ya1 => k_is); (case ym1 => k_is); (case yv1 => k_is)
    (case ys1_0 => k_is); (case ys1_1 => k_is); (case ys1_2 => k_is); (case ys1_3 => k_is); (case ys1_4 => k_is); (case ys1_5 => k_is)
    (case ys1_6 => k_is); (case ys1_7 => k_is); (case ys1_8 => k_is); (case ys1_9 => k_is); (case yg2 => k_is); (case yk2 => k_is)
    (case yd2 => k_is); (case ya2 => k_is); (case ym2 => k_is); (case yv2 => k_is); (case ys2_0 => k_is); (case ys2_1 => k_is)
    (case ys2_2 => k_is); (case ys2_3 => k_is); (case ys2_4 => k_is); (case ys2_5 => k_is); (case ys2_6 => k_is); (case ys2_7 => k_is)
    (case ys2_8 => k_is); (case ys2_9 => k_is); (case yg3 => k_is); (case yk3 => k_is); (case yd3 => k_is); (case ya3 => k_is)
    (case ym3 => k_is); (case yv3 => k_is); (case ys3_0 => k_is); (case ys3_1 => k_is); (case ys3_2 => k_is); (case ys3_3 => k_is)
    (case ys3_4 => k_is); (case ys3_5 => k_is); (case ys3_6 => k_is); (case ys3_7 => k_is); (case ys3_8 => k_is); (case ys3_9 => k_is)
    (case yg4 => k_is); (case yk4 => k_is); (case yd4 => k_is); (case ya4 => k_is); (case ym4 => k_is); (case yv4 => k_is)
    (case ys4_0 => k_is); (case ys4_1 => k_is); (case ys4_2 => k_is); (case ys4_3 => k_is); (case ys4_4 => k_is); (case ys4_5 => k_is)
    (case ys4_6 => k_is); (case ys4_7 => k_is); (case ys4_8 => k_is); (case ys4_9 => k_is); (case yg5 => k_is); (case yk5 => k_is)
    (case yd5 => k_is); (case ya5 => k_is); (case ym5 => k_is); (case yv5 => k_is); (case ys5_0 => k_is); (case ys5_1 => k_is)
    (case ys5_2 => k_is); (case ys5_3 => k_is); (case ys5_4 => k_is); (case ys5_5 => k_is); (case ys5_6 => k_is); (case ys5_7 => k_is)
    (case ys5_8 => k_is); (case ys5_9 => k_is); (case yg6 => k_is); (case yk6 => k_is); (case yd6 => k_is); (case ya6 => k_is)
    (case ym6 => k_is); (case yv6 => k_is); (case ys6_0 => k_is); (case ys6_1 => k_is); (case ys6_2 => k_is); (case ys6_3 => k_is)
    (case ys6_4 => k_is); (case ys6_5 => k_is); (case ys6_6 => k_is); (case ys6_7 => k_is); (case ys6_8 => k_is); (case ys6_9 => k_is)
    (case yg7 => k_is); (case yk7 => k_is); (case yd7 => k_is); (case ya7 => k_is); (case ym7 => k_is); (case yv7 => k_is)
    (case ys7_0 => k_is); (case ys7_1 => k_is); (case ys7_2 => k_is); (case ys7_3 => k_is); (case ys7_4 => k_is); (case ys7_5 => k_is)
    (case ys7_6 => k_is); (case ys7_7 => k_is); (case ys7_8 => k_is); (case ys7_9 => k_is); (case yg8 => k_is); (case yk8 => k_is)
    (case yd8 => k_is); (case ya8 => k_is); (case ym8 => k_is); (case yv8 => k_is); (case ys8_0 => k_is); (case ys8_1 => k_is)
    (case ys8_2 => k_is); (case ys8_3 => k_is); (case ys8_4 => k_is); (case ys8_5 => k_is); (case ys8_6 => k_is); (case ys8_7 => k_is)
    (case ys8_8 => k_is); (case ys8_9 => k_is); (case yg9 => k_is); (case yk9 => k_is); (case yd9 => k_is); (case ya9 => k_is)
    (case ym9 => k_is); (case yv9 => k_is); (case ys9_0 => k_is); (case ys9_1 => k_is); (case ys9_2 => k_is); (case ys9_3 => k_is)
    (case ys9_4 => k_is); (case ys9_5 => k_is); (case ys9_6 => k_is); (case ys9_7 => k_is); (case ys9_8 => k_is); (case ys9_9 => k_is)
    (case z0 => k_is); (case z1 => k_is); (case z2 => k_is); (case z3 => k_is); (case z4 => k_is); (case z5 => k_is)
    (case z6 => k_is); (case z7 => k_is); (case vs0 => k_is); (case vs1 => k_is); (case vs2 => k_is)
