import PyProof.Rows.All
import Wide.All
import OpenK.AllK
import Wide.FinOn
import PySem.Challenge.RW_shortweave_k45_whole_pieces_and_rows
import HandS.ForMost
import HandS.Exc
import HandS.TryOnly
import HandS.ExcOwn
import HandS.WordsExc
import HandS.Ends
import HandS.Lambda
import KE.KDictKeyed
import HandS.TupAny
import HandS.TupLe
import HandS.Style
import HandS.StrMore
import HandS.StrSplit
import HandS.Zip
import HandS.RevRange
import KE.GoesNew
import KE.GoesEnum
import HandS.IsInst
import KE.KRevSl
import PyProof.ListStr
import HandS.More
import KE.SortData
import KE.DataMinMax
import PyProof.Rows.RegReprOcc
import HandS.Dict
import HandS.TupLen
import PyProof.Rows.TupDisplay
import HandS.TupMul
import PyProof.StrLawsFrom
import HandS.Flow
import PyProof.ReprRoads
import PyProof.ReprBulk
import PyProof.CallFns
import PyProof.NeKinds
import HandS.ExcIs
import KE.KDictZip
import KE.KDictCopyH
import KE.KDictOf
import HandS.SortRule
import HandS.Conv
import HandS.Keys
import PyProof.Rows.TupTab
import HandS.TupSets
import HandS.SetKeys
import HandS.SortInts
import PyProof.Rows.SortShellAny
import PyProof.Rows.StrMeet
import PyProof.StrLawsLast
set_option Elab.async false
set_option linter.all false
set_option maxRecDepth 100000
section
set_option Elab.async false
set_option linter.all false
set_option maxRecDepth 100000
/-! Room and promises of a def where no display is under way (repr asks it): the layer's own, with that one fact beside. -/
namespace SW
open PySem PySem.Spec PyProof.Rows L2
/-- an exception object of the class cls, without a dict -/
def ExB (cls : Value) (a : Addr) : HO := .ext fun h => ∃ (oe : Obj) (vs : Array Value), h.get? a = some oe ∧ Zc cls none oe ∧ oe.data = .fields vs

structure Room (k : Nat) (A : Around) : Prop where
  r : L2.Room k A
  gd : A.guards = some []
theorem Room.mono {i j : Nat} {B : Around} (z : SW.Room j B) (le : i ≤ j) : SW.Room i B := ⟨L2.Room.mono z.r le, z.gd⟩
theorem Room.units {k : Nat} {B : Around} (z : SW.Room k B) : B.units + 64 < cLine := z.r.units
section
variable {P : Program} {w : World} {K : PySem.W.Frag} {mg : Str → Option Value} {base : Heap} {CX : CXT} {k : Nat} {f : Addr} {fd : FuncData} {ps : List Str} {sp : Sp}
/-- the promise of the def at f, called where no display is under way -/
structure FnOk (P : Program) (w : World) (K : PySem.W.Frag) (mg : Str → Option Value) (base : Heap) (CX : CXT) (k : Nat) (f : Addr) (fd : FuncData) (ps : List Str) (sp : Sp) : Prop where
  many : ∀ {vs H Q E}, sp vs H Q E → vs.length = ps.length
  go : ∀ {A : Around} {outer : List Env} {s : Shared} {H : Hp} {args : Args} {us : List Value} {vs : List V} {Q : VK} {E : XK}, SW.Room k A →
    Env0 P w K mg base A outer s H → BindsTo s fd args (ps.zip us) → Vals vs us → sp vs H Q E → codeAny (model P w) A (.call (.ref f) args) (CR CX outer P w H s Q E) s
/-- by its body; the code object is known -/
theorem okXC {x qual : Str} {st : Stmt} {N : List Str} (F : L2.Fun K x qual st f fd) (Sc : FnScope N ps (defScope st)) (many : ∀ vs H Q E, sp vs H Q E → vs.length = ps.length)
    (body : ∀ (cdv : Value) (A : Around) (outer : List Env) (s : Shared) (H : Hp) (vs : List V) (Q : VK) (E : XK), (∃ (ob : Obj) (fd' : FuncData), K.lookup f = some ob ∧ ob.data = .func fd' ∧ fd'.code = cdv) → SW.Room k (A.deeper (envOfC qual (defScope st) s.heap.objs.size f cdv)) → sp vs H Q E →
      ∃ t, PSs (cxOf (L2.CX P w) P w K mg base N qual (defScope st) f cdv A outer s H E) (defBody st) t ∧ t { nx := fun _ H' => Q .non H', rt := Q } (start N vs) H) :
    SW.FnOk P w K mg base (L2.CX P w) (k + 1) f fd ps sp := by
  obtain ⟨oc, od, kV, doc, pm, an, cdv, ct, osl, rfl, lk, hcd⟩ := F.ex
  constructor
  · intro vs H Q E q
    exact many vs H Q E q
  · intro A outer s H args us vs Q E room e0 bind rel q
    obtain ⟨t, run, q1⟩ := body cdv A outer s H vs Q E ⟨_, _, lk, rfl, rfl⟩ ⟨room.r.deeper _, room.gd⟩ q
    have kin : K.In s.heap := e0.mod.kin.keeps (fun b u z => (e0.bs b u z).1)
    have nol : s.heap.NoLimit := e0.mod.nolimit.keeps (fun b u z => (e0.bs b u z).1)
    apply codeAny_call_function room.r.depth (kin _ _ lk) rfl Sc.co Sc.gen rfl (PySem.W.codeRec_of kin hcd)
    apply bind
    apply wpAny_newFunctionEnv_cells Sc.kind
    · rintro ⟨y, v⟩ hy
      have hp := Sc.par y (List.of_mem_zip hy).1
      exact hp.imp_right fun z => ⟨z, PySem.W.cellsFrom_some _ _ _ (.inl z)⟩
    · rintro _ rfl s1 ic
      have I0 := inv_start (CX := L2.CX P w) (E := E) Sc room.r.hd e0 (many _ _ _ _ q) rel ic
      refine ⟨nol.keeps ic.toInCall.keep, codeAny_func (wpAny_mono (run.run [] s1 _ H _ I0 q1) ?_ fun _ _ z => z)⟩
      intro fl s2 z
      match fl, z with
      | .ret u, ⟨v, _, H2, J, rv, qv⟩ => exact ⟨v, H2, J.os, J.bare, J.base, J.hok, rv, qv⟩
      | .next, ⟨_, H2, J, qv⟩ => exact ⟨V.non, H2, J.os, J.bare, J.base, J.hok, rfl, qv⟩
      | .brk, ⟨_, _, _, qv⟩ => exact qv.elim
      | .cont, ⟨_, _, _, qv⟩ => exact qv.elim
/-- by its body -/
theorem okX {x qual : Str} {st : Stmt} {N : List Str} (F : L2.Fun K x qual st f fd) (Sc : FnScope N ps (defScope st)) (many : ∀ vs H Q E, sp vs H Q E → vs.length = ps.length)
    (body : ∀ (cdv : Value) (A : Around) (outer : List Env) (s : Shared) (H : Hp) (vs : List V) (Q : VK) (E : XK), SW.Room k (A.deeper (envOfC qual (defScope st) s.heap.objs.size f cdv)) → sp vs H Q E →
      ∃ t, PSs (cxOf (L2.CX P w) P w K mg base N qual (defScope st) f cdv A outer s H E) (defBody st) t ∧ t { nx := fun _ H' => Q .non H', rt := Q } (start N vs) H) :
    SW.FnOk P w K mg base (L2.CX P w) (k + 1) f fd ps sp :=
  okXC F Sc many fun cdv A outer s H vs Q E _ => body cdv A outer s H vs Q E
end
section
variable {X : Cx} {CX : CXT} {k : Nat} {f : Addr} {fd : FuncData} {ps : List Str} {sp : Sp} {E : L2.St → XK} {x : Str} {p pos : Pos} {e : Expr} {es : List Expr} {t : TA}
theorem fnS_run (F : SW.FnOk X.prog X.w X.K X.mg X.base CX k f fd ps sp) (room : SW.Room k X.A) (bnd : Binds X.K fd ps []) {σ : L2.St} (out : PassesAt CX X σ (E σ)) {pins : List (Addr × Obj)} {H : Hp} {s : Shared} {Q : VK} {us : List Value} {vs : List V}
    (I : Inv X pins σ H s) (rel : Vals vs us) (q : sp vs H Q (E σ)) : wpAny (model X.prog X.w) X.A (call (.ref f) us) (EP X pins σ Q) X.xe s := by
  have same : us ++ [] = us := List.append_nil us
  have b := bnd s us I.kIn (by rw [same, ← rel.length, F.many q])
  rw [same] at b
  refine wpAny_call (codeAny_mono (F.go room I.env0 b rel q) ?_)
  rintro (er | fl) s2 z
  · exact out pins H s er s2 I z
  · match fl, z with
    | .ret u, z => exact I.after z
    | .next, z => exact z.elim
    | .brk, z => exact z.elim
    | .cont, z => exact z.elim
theorem pe_callS (F : SW.FnOk X.prog X.w X.K X.mg X.base CX k f fd ps sp) (room : SW.Room k X.A) (gl : Gl X x) (at_ : X.mg x = some (.ref f)) (kp : PySem.W.keepIn X.K (.ref f) = true) (bnd : Binds X.K fd ps []) (out : ∀ σ, PassesAt CX X σ (E σ)) (ha : PA X (e :: es) t)
    (db : (x == ("__debug__" : Str)) = false := by decide) (st : starEach (e :: es) X.env = (false, eval e X.env) :: starEach es X.env := by rfl) (pl : (backTo pos (starEach es X.env)).any (·.1) = false := by rfl) :
    PE X (.Call (.Name x p) (e :: es) [] pos) (tCallS sp E t) := by
  constructor
  intro pins s σ H Q I z
  apply wpAny_Call_Name_kw
  apply ld_glob I gl at_ ?_ db
  apply PySem.W.callWith_K (h₀ := X.base) I.ok.mod.kin kp ?_ st pl
  exact thn (ha.run pos pins s σ H _ I z) fun us s1 ⟨vs, H1, I1, rel, q⟩ => ⟨I1.kIn, fnS_run F room bnd (out σ) I1 rel q⟩
end
/-! the base heap holds the table of the modules: what is tracked stands elsewhere -/
/-- voted's code object stands at c, its table (of the lambda's code object) at P -/
def LamC (K : PySem.W.Frag) (c P : Addr) : Prop := ∃ (f : Addr) (ob oc : Obj) (fd : FuncData) (vs : Array Value), PySem.W.nsIn K mainGlobals "voted" = some (some (.ref f)) ∧ K.lookup f = some ob ∧ ob.data = .func fd ∧ fd.code = .ref c ∧ K.lookup c = some oc ∧ oc.data = .fields vs ∧ vs[11]? = some (.ref P)
theorem lamC_no {K : PySem.W.Frag} {c P : Addr} {B : Prop} (h : PySem.W.nsIn K mainGlobals "voted" = some none) (l : LamC K c P) : B := by
  obtain ⟨f, _, _, _, _, e, _⟩ := l
  rw [h] at e
  cases e
structure SmB (K : PySem.W.Frag) (mg : Str → Option Value) (base : Heap) : Prop where
  m : ∃ m, base.Ns sysModules m
  tb : ∀ c P, LamC K c P → LamX.TabB base mg c P
/-! ### the end -/
section
variable {P : Program} {w : World} {K : PySem.W.Frag} {mg mb : Str → Option Value} {CX : CXT} {k : Nat} {fa a : Addr} {fd : FuncData} {x : Str} {sp : Sp} {s : Shared} {vs : List Value} {ns : List Int}
open Classical in
/-- what is tracked at the start: the tables, the script, if it is no object of the module -/
noncomputable def topH (K : PySem.W.Frag) (a : Addr) (vs : List Value) (ns : List Int) : Hp := fun b =>
  if ∃ c, LamC K c b then some (.tbl #[]) else if b = a ∧ K.lookup b = none then some (.frz { cls := .type "list", data := .seq vs.toArray } (.lst (ns.map V.int))) else none
theorem topH_of {b : Addr} {u : HO} (h : topH K a vs ns b = some u) : ((∃ c, LamC K c b) ∧ u = .tbl #[]) ∨ b = a ∧ K.lookup b = none ∧ u = .frz { cls := .type "list", data := .seq vs.toArray } (.lst (ns.map V.int)) := by
  unfold topH at h
  split at h
  · rename_i c
    cases h
    exact .inl ⟨c, rfl⟩
  · split at h
    · rename_i c
      cases h
      exact .inr ⟨c.1, c.2, rfl⟩
    · cases h
theorem topH_none {b : Addr} (h : ∀ u, topH K a vs ns b ≠ some u) : topH K a vs ns b = none := by
  cases q : topH K a vs ns b with
  | none => rfl
  | some u => exact (h u q).elim
/-- the tables stand, empty -/
def TopT (K : PySem.W.Frag) (H : Hp) : Prop := ∀ c P, LamC K c P → H P = some (.tbl #[])
theorem top_goes (kin : K.In s.heap) (gl : s.heap.Ns mainGlobals mg) (bl : s.heap.Ns builtinsNs mb) (bb : ∀ x : Str, x ≠ "__name__" → mb x = bootBuiltins x) (nol : s.heap.NoLimit) (gens : s.gens = #[])
    (scr : s.heap.get? a = some { cls := .type "list", data := .seq vs.toArray }) (nsok : IntsAre vs ns) (short : ns.length ≤ sizeLine) (room : SW.Room k callerA)
    (lam : ∀ c P, LamC K c P → K.lookup P = none ∧ PySem.W.CodeHd s.heap c P ∧ s.heap.get? P = some { cls := .none, data := .fields #[] } ∧ isCodeTable s.heap P)
    (bmain : ∃ (bm : Addr) (ob : Obj), mg "__builtins__" = some (.ref bm) ∧ bm ≠ builtinsNs ∧ s.heap.get? bm = some ob ∧ ob.cls = .type "module" ∧ ob.dict = some builtinsNs ∧ ob.data = .plain)
    (mods : ∃ m, s.heap.Ns sysModules m) (F : ∀ base : Heap, K.In base → base.Ns mainGlobals mg → SmB K mg base → SW.FnOk P w K mg base CX k fa fd [x] sp) (bnd : ∀ (s : Shared) (u : Value), BindsTo s fd ⟨[u], []⟩ [(x, u)])
    (want : ∀ H : Hp, TopT K H → SqL K H a (ns.map V.int) → sp [.ref a] H (fun v _ => v = .bl true) fun _ _ _ => False)
    (no : ∀ H e s', CX [] H s (fun _ _ _ => False) e s' → False) :
    codeAny (model P w) callerA (.call (.ref fa) ⟨[.ref a], []⟩) (fun r s' => r = .ok (.ret (.bool true)) ∧ OldK s.heap s'.heap ∧ s'.os = s.os ∧ AllBare s'.gens) s := by
  have rel := vals_ints nsok
  have len : vs.length = ns.length := nsok.length
  let H := topH K a vs ns
  have unK : ∀ b u, K.lookup b = some u → H b = none := fun b u e => topH_none fun o z => by
    rcases topH_of z with ⟨⟨c, hc⟩, _⟩ | ⟨_, n, _⟩
    · rw [(lam c b hc).1] at e
      cases e
    · rw [e] at n
      cases n
  have unD : ∀ b u, s.heap.get? b = some u → (∀ xs n, u.data ≠ .seq xs n) → u.data ≠ .fields #[] → H b = none := fun b u e nd nf => topH_none fun o z => by
    rcases topH_of z with ⟨⟨c, hc⟩, _⟩ | ⟨rfl, _, _⟩
    · rw [(lam c b hc).2.2.1] at e
      cases e
      exact nf rfl
    · rw [scr] at e
      cases e
      exact nd _ _ rfl
  have nss : ∀ {b : Addr} {m : Str → Option Value}, s.heap.Ns b m → (hidT s.heap H).Ns b m := by
    rintro b m ⟨u, es, ep, e, d, more⟩
    exact ⟨u, es, ep, hidT_get e (unD b u e (fun xs n z => by rw [d] at z; cases z) fun z => by rw [d] at z; cases z), d, more⟩
  have kinT : K.In (hidT s.heap H) := fun b u e => hidT_get (kin b u e) (unK b u e)
  have mod : Mod K mg (hidT s.heap H) := by
    obtain ⟨mc, l1, l2⟩ := nol
    exact ⟨kinT, nss gl, ⟨mb, nss bl, bb⟩, ⟨mc, nss l1, l2⟩⟩
  have ok : HOk P w H s.heap := fun b u e => by
    rcases topH_of e with ⟨⟨c, hc⟩, rfl⟩ | ⟨rfl, _, rfl⟩
    · exact (lam c b hc).2.2.1
    · exact ⟨scr, by rw [List.length_map]; exact short, vs, _, rel, scr⟩
  have tabs : ∀ c P, LamC K c P → LamX.TabB (hidT s.heap H) mg c P := fun c P hc => by
    obtain ⟨_, hcd, hP, _⟩ := lam c P hc
    refine ⟨?_, ?_, fun z => ?_⟩
    · obtain ⟨o, us, file, tf, flags, tg, inF, text, tt, e1, r1, r2, r3, r⟩ := hcd
      refine ⟨o, us, file, tf, flags, tg, inF, text, tt, hidT_get e1 (unD _ _ e1 (fun xs n z => ?_) fun z => ?_), r1, r2, r3, r⟩
      · rw [r2] at z; cases z
      · rw [r2] at z
        cases z
        simp at r3
    · obtain ⟨bm, ob, b1, b2, b3, b4, b5, b6⟩ := bmain
      have nG : bm ≠ mainGlobals := fun q => by
        obtain ⟨o, es, ep, e, hd, _⟩ := gl
        rw [q, e] at b3
        cases b3
        rw [hd] at b6
        cases b6
      have nP : bm ≠ P := fun q => by
        rw [q, hP] at b3
        cases b3
        cases b6
      exact ⟨bm, ob, b1, b2, nG, nP, hidT_get b3 (unD _ _ b3 (fun xs n z => by rw [b6] at z; cases z) fun z => by rw [b6] at z; cases z), b4, b5, b6⟩
    · obtain ⟨o, es, ep, e, hd, _⟩ := gl
      rw [z, hP] at e
      cases e
      cases hd
  have e0 : Env0 P w K mg (hidT s.heap H) callerA [] s H := by
    refine ⟨rfl, mod, ?_, Nat.le_of_eq (hidT_size s.heap H), True.intro, ?_, ok, AllBare.of_eq gens⟩
    · intro b u e
      exact of_hidT e
    · intro b hb
      cases hb
  have tops : TopT K H := fun c P hc => if_pos ⟨c, hc⟩
  have sq : SqL K H a (ns.map V.int) := by
    cases q : K.lookup a with
    | none =>
      refine .inl (.inr ⟨{ cls := .type "list", data := .seq vs.toArray }, ?_⟩)
      have nl : ¬ ∃ c, LamC K c a := fun z => by
        obtain ⟨c, hc⟩ := z
        have := (lam c a hc).2.2.1
        rw [scr] at this
        cases this
      show topH K a vs ns a = _
      unfold topH
      rw [if_neg nl, if_pos ⟨rfl, q⟩]
    | some u =>
      have e := kin a u q
      rw [scr] at e
      cases e
      exact .inr ⟨_, vs.toArray, _, q, rfl, rfl, rfl, by rw [List.size_toArray, len]; exact short, rel⟩
  refine codeAny_mono ((F _ kinT (nss gl) ⟨mods.imp fun _ z => nss z, tabs⟩).go (us := [.ref a]) (vs := [.ref a]) room e0 (bnd s (.ref a)) (.cons rfl .nil) (want H tops sq)) ?_
  rintro (er | fl) s2 z
  · exact (no H er s2 z).elim
  · match fl, z with
    | .next, z => exact z.elim
    | .brk, z => exact z.elim
    | .cont, z => exact z.elim
    | .ret u, ⟨v, H2, os, bare, un, ok2, rv, ev⟩ =>
      cases (show v = .bl true from ev)
      obtain rfl : u = Value.bool true := rv
      have keep : ∀ b o, s.heap.get? b = some o → (¬ ∃ c, LamC K c b) → s2.heap.get? b = some o := fun b o e nt => by
        cases q : H b with
        | none => exact un.keep b o e q (by intro z; cases z) (by intro z; cases z)
        | some v =>
          rcases topH_of q with ⟨hc, _⟩ | ⟨_, _, rfl⟩
          · exact absurd hc nt
          · have there := (ok2 b _ (un.frzs b _ _ q)).1
            have here := (ok b _ q).1
            rw [e] at here
            rw [here]
            exact there
      have grown : ∀ c b, LamC K c b → ∃ more : Array Value, s2.heap.get? b = some { cls := .none, data := .fields more } := fun c b hc => by
        obtain ⟨more, z⟩ := un.tbls b #[] (tops c b hc)
        exact ⟨_, ok2 b _ z⟩
      refine ⟨rfl, ⟨fun b o e => ?_, fun b o e => ?_⟩, os, bare⟩
      · by_cases hb : ∃ c, LamC K c b
        · obtain ⟨c, hc⟩ := hb
          obtain ⟨more, hm⟩ := grown c b hc
          obtain ⟨_, hcd, hP, hT⟩ := lam c b hc
          rw [hP] at e
          cases e
          exact .inr (.inl ⟨hT, rfl, #[], more, rfl, by rw [Array.empty_append]; exact hm⟩)
        · exact .inl (keep b o e hb)
      · by_cases hb : ∃ c, LamC K c b
        · obtain ⟨c, hc⟩ := hb
          obtain ⟨more, hm⟩ := grown c b hc
          exact ⟨_, hm⟩
        · exact ⟨o, keep b o e hb⟩
end
theorem walk_of {l : PySem.W.OpenLaw} {n k : Nat} {q : Program} {loose : List Str} {XP : (Str → Option Value) → Heap → Prop} {YP : World → Heap → Prop} {d : DefRec} {K : Params → PySem.W.Frag} {CX : World → CXT} {sp : World → Sp} {x : Str} (most : l.most = some n) (short : n ≤ sizeLine) (nodf : d.params.defaults = []) (noimp : PyProof.Rows.importsNone q = true) (room : SW.Room k callerA)
    (lam : ∀ (w : World) (c P : Addr), LamC (K w.params) c P → (K w.params).lookup P = none ∧ ((recsOf q).any fun e => e.name == "voted") = true)
    (kin : ∀ (w : World) (h : Heap), YP w h → (K w.params).In h) (F : ∀ (w : World) (mg : Str → Option Value) (fa : Addr) (h : Heap), (K w.params).In h → h.Ns mainGlobals mg → mg d.name = some (.ref fa) → ∃ fd : FuncData, (∀ (s : Shared) (u : Value), BindsTo s fd ⟨[u], []⟩ [(x, u)]) ∧
        ∀ base : Heap, (K w.params).In base → base.Ns mainGlobals mg → SmB (K w.params) mg base → SW.FnOk l.prog w (K w.params) mg base (CX w) k fa fd [x] (sp w))
    (want : ∀ (w : World) (H : Hp) (a : Addr) (ns : List Int), ns.length ≤ n → TopT (K w.params) H → SqL (K w.params) H a (ns.map V.int) → sp w [.ref a] H (fun v _ => v = .bl true) fun _ _ _ => False) (no : ∀ (w : World) (H : Hp) (s : Shared) (e : Value) (s' : Shared), CX w [] H s (fun _ _ _ => False) e s' → False) :
    PySem.W.WalkO q loose XP YP l.row.toRowW d [] (fun f vs => PySem.call f vs) := by
  apply Att.attach_call most nodf
  intro w s₀ s mg mb fa o pm cd doc a vs ns G Y _ _ _ at_ scr nsok le gens
  obtain ⟨fd, bnd, run⟩ := F w mg fa _ (kin w _ Y) G.T.g at_
  refine top_goes (kin w _ Y) G.T.g G.T.b G.T.builtins G.T.nolimit gens scr nsok (Nat.le_trans le short) room (fun c P hc => ?_) G.T.bmain (let ⟨m, z, _⟩ := (G.T.seer noimp).mods; ⟨m, z⟩) run bnd (fun H => want w H a ns le) fun H => no w H s
  obtain ⟨nP, hrec⟩ := lam w c P hc
  obtain ⟨f, ob, oc, fd2, vs2, k1, k2, k3, k4, k5, k6, k7⟩ := hc
  have KX := kin w _ Y
  obtain ⟨dL, hm, hn1⟩ := List.any_eq_true.mp hrec
  have hn2 : dL.name = "voted" := beq_iff_eq.mp hn1
  obtain ⟨a', o', fd', c', P', h1, h2, h3, h4, h5, h6⟩ := G.T.tab dL hm
  rw [hn2, PySem.W.mg_of KX G.T.g k1] at h1
  cases h1
  rw [KX _ _ k2] at h2
  cases h2
  rw [k3] at h3
  cases h3
  rw [k4] at h4
  cases h4
  have hcd := PySem.W.CodeHd.of h5 h6
  have hT := h6.isCodeTable
  obtain ⟨⟨oc2, vc, e1, _, e3, e4⟩, hP⟩ := h6
  rw [KX _ _ k5] at e1
  cases e1
  rw [k6] at e3
  cases e3
  rw [k7] at e4
  cases e4
  exact ⟨nP, hcd, hP, hT⟩
end SW

end

section
set_option Elab.async false
set_option linter.all false
set_option maxRecDepth 100000
/-! Data in place of heaps: D is what a value means, Mu the cells that a def may change; up lifts a reading over data to a reading over the layer's heap. -/
namespace SW
open PySem L2

inductive D where
  | non
  | bl (b : Bool)
  | int (i : Int)
  | str (s : List Nat)
  | tup (xs : List D)
  | lst (xs : List D)
  | dct (t : Bool) (ks vs : List D)
  | dcn (w : World) (kk : List NestedKey) (vs : List D)
  | cell (k : Nat)
  | scr (xs : List D)
  | val (v : V)
  | exc (C : Value)

instance : Inhabited D := ⟨.non⟩

/-- a text by its codes -/
abbrev mkS (l : List Nat) : Str := ⟨l.toArray⟩
def kD : Key → D
  | .inl i => .int i
  | .inr x => .str x.cps.toList

/-! dicts whose keys are tuples of tuples: what is known of the object, and of the keys' own tuples -/
mutual
/-- the value is the key -/
def NK (F : Hp) : NestedKey → V → Prop
  | .none, v => v = .non
  | .num i, v => v = .int i
  | .text x, v => v = .str x
  | .tup ks, v => ∃ p vs, v = .ref p ∧ F p = some (.tup vs) ∧ NKs F ks vs
def NKs (F : Hp) : List NestedKey → List V → Prop
  | [], vs => vs = []
  | k :: ks, vs => ∃ v r, vs = v :: r ∧ NK F k v ∧ NKs F ks r
end
abbrev Sub (F F' : Hp) : Prop := ∀ b o, F b = some o → F' b = some o
mutual
theorem NK.mono {F F' : Hp} (e : Sub F F') : ∀ (k : NestedKey) (v : V), NK F k v → NK F' k v
  | .none, _, h => h
  | .num _, _, h => h
  | .text _, _, h => h
  | .tup ks, _, ⟨p, vs, h1, h2, h3⟩ => ⟨p, vs, h1, e _ _ h2, NKs.mono e ks vs h3⟩
theorem NKs.mono {F F' : Hp} (e : Sub F F') : ∀ (ks : List NestedKey) (vs : List V), NKs F ks vs → NKs F' ks vs
  | [], _, h => h
  | k :: ks, _, ⟨v, r, h1, h2, h3⟩ => ⟨v, r, h1, NK.mono e k v h2, NKs.mono e ks r h3⟩
end
/-- an entry: the key, where its tuple stands, the value -/
abbrev NEnt := NestedKey × Addr × V
def EntR (w : World) (x : NEnt) (e : DictEntry) : Prop := e.hash = x.1.hash w ∧ e.key = .ref x.2.1 ∧ RelV x.2.2 e.val
/-- what is true of such a dict's one object -/
def nkP (w : World) (p : Addr) (xs : List NEnt) (h : Heap) : Prop := xs.length ≤ sizeLine ∧ (p == sysModules) = false ∧ (xs.map (·.1)).Nodup ∧ (∀ x ∈ xs, x.1.depth ≤ 8) ∧
  ∃ o es ep, h.get? p = some o ∧ o.ExactDict ∧ o.data = .dict es ep ∧ Paired (EntR w) xs es.toList
def NkO (w : World) (p : Addr) (xs : List NEnt) : HO := .ext (nkP w p xs)
def nents (kk : List NestedKey) (bs : List Addr) (vs : List V) : List NEnt := kk.zip (bs.zip vs)
mutual
def Rep (K : PySem.W.Frag) (F : Hp) (θ : List Addr) : D → V → Prop
  | .non, v => v = .non
  | .bl b, v => v = .bl b
  | .int i, v => v = .int i
  | .str s, v => v = .str (mkS s)
  | .tup ds, v => ∃ p vs, v = .ref p ∧ F p = some (.tup vs) ∧ Reps K F θ ds vs
  | .lst ds, v => ∃ p vs, v = .ref p ∧ F p = some (.lst vs) ∧ Reps K F θ ds vs
  | .scr ds, v => ∃ p vs, v = .ref p ∧ SqL K F p vs ∧ Reps K F θ ds vs
  | .dct tt ks ds, v => ∃ p vs, v = .ref p ∧ Reps K F θ ds vs ∧ ks.length = vs.length ∧
      ((∃ kk : List Key, (tt = false ∧ ks = kk.map kD) ∧ ∃ ob, F p = some (.frz ob (.dK (kk.zip vs)))) ∨ (∃ kk : List (List Key), (tt = true ∧ ks = kk.map (fun x => .tup (x.map kD))) ∧ ∃ ob, F p = some (.frz ob (.dT (kk.zip vs)))))
  | .dcn w kk ds, v => ∃ p vs bs, v = .ref p ∧ Reps K F θ ds vs ∧ kk.length = vs.length ∧ NKs F kk (bs.map V.ref) ∧ ∃ ob, F p = some (.frz ob (NkO w p (nents kk bs vs)))
  | .cell k, v => ∃ p, v = .ref p ∧ θ[k]? = some p
  | .val u, v => v = u
  | .exc C, v => ∃ p, v = .ref p ∧ F p = some (ExB C p)
def Reps (K : PySem.W.Frag) (F : Hp) (θ : List Addr) : List D → List V → Prop
  | [], vs => vs = []
  | d :: ds, vs => ∃ v r, vs = v :: r ∧ Rep K F θ d v ∧ Reps K F θ ds r
end


section
variable {K : PySem.W.Frag} {F F' : Hp} {θ θ' : List Addr}
theorem sub_sqL {a : Addr} {xs : List V} (e : Sub F F') (h : SqL K F a xs) : SqL K F' a xs := Same.seq e h
theorem sub_sqT {a : Addr} {xs : List V} (e : Sub F F') (h : SqT K F a xs) : SqT K F' a xs := by
  rcases h with (h | ⟨o, h⟩) | h
  · exact .inl (.inl (e _ _ h))
  · exact .inl (.inr ⟨o, e _ _ h⟩)
  · exact .inr h

mutual
theorem Rep.mono (e : Sub F F') (t : ∀ (k : Nat) p, θ[k]? = some p → θ'[k]? = some p) : ∀ (d : D) (v : V), Rep K F θ d v → Rep K F' θ' d v
  | .non, v, h => by unfold Rep at h ⊢; exact h
  | .bl b, v, h => by unfold Rep at h ⊢; exact h
  | .int i, v, h => by unfold Rep at h ⊢; exact h
  | .str s, v, h => by unfold Rep at h ⊢; exact h
  | .tup ds, v, h => by
    unfold Rep at h ⊢
    obtain ⟨p, vs, h1, h2, h3⟩ := h
    exact ⟨p, vs, h1, e _ _ h2, Reps.mono e t ds vs h3⟩
  | .lst ds, v, h => by
    unfold Rep at h ⊢
    obtain ⟨p, vs, h1, h2, h3⟩ := h
    exact ⟨p, vs, h1, e _ _ h2, Reps.mono e t ds vs h3⟩
  | .scr ds, v, h => by
    unfold Rep at h ⊢
    obtain ⟨p, vs, h1, h2, h3⟩ := h
    exact ⟨p, vs, h1, sub_sqL e h2, Reps.mono e t ds vs h3⟩
  | .dct tt ks ds, v, h => by
    unfold Rep at h ⊢
    obtain ⟨p, vs, h1, h2, h3, h4⟩ := h
    refine ⟨p, vs, h1, Reps.mono e t ds vs h2, h3, ?_⟩
    rcases h4 with ⟨kk, e1, e2⟩ | ⟨kk, e1, e2⟩
    · exact .inl ⟨kk, e1, e2.imp fun o z => e _ _ z⟩
    · exact .inr ⟨kk, e1, e2.imp fun o z => e _ _ z⟩
  | .dcn w kk ds, v, h => by
    unfold Rep at h ⊢
    obtain ⟨p, vs, bs, h1, h2, h3, h4, ob, h5⟩ := h
    exact ⟨p, vs, bs, h1, Reps.mono e t ds vs h2, h3, NKs.mono e _ _ h4, ob, e _ _ h5⟩
  | .cell k, v, h => by
    unfold Rep at h ⊢
    obtain ⟨p, h1, h2⟩ := h
    exact ⟨p, h1, t _ _ h2⟩
  | .val u, v, h => by unfold Rep at h ⊢; exact h
  | .exc C, v, h => by
    unfold Rep at h ⊢
    obtain ⟨p, h1, h2⟩ := h
    exact ⟨p, h1, e _ _ h2⟩
theorem Reps.mono (e : Sub F F') (t : ∀ (k : Nat) p, θ[k]? = some p → θ'[k]? = some p) : ∀ (ds : List D) (vs : List V), Reps K F θ ds vs → Reps K F' θ' ds vs
  | [], vs, h => by unfold Reps at h ⊢; exact h
  | d :: ds, vs, h => by
    unfold Reps at h ⊢
    obtain ⟨v, r, h1, h2, h3⟩ := h
    exact ⟨v, r, h1, Rep.mono e t d v h2, Reps.mono e t ds r h3⟩
end
end

/-! ### cells -/
inductive MO where
  | lst (xs : List D)
  | dct (t : Bool) (ks vs : List D)
  | dcn (w : World) (kk : List NestedKey) (vs : List D)
  | dcl (ob : Obj) (u : HO) (t : Bool) (ks vs : List D)
  | dcm (ob : Obj) (u : HO) (w : World) (kk : List NestedKey) (vs : List D)
  | ins (C : Addr) (fs : List (Str × D))
  | dead

abbrev DS := List (Option D)
abbrev Mu := List MO
abbrev DQ := D → Mu → Prop
/-- an exception's class, the cells behind it -/
abbrev DE := Value → DS → Mu → Prop
abbrev TD := DS → Mu → DQ → DE → Prop
abbrev TDT := DS → Mu → (Bool → Mu → Prop) → DE → Prop
abbrev TDA := DS → Mu → (List D → Mu → Prop) → DE → Prop
structure DEnds where
  nx : DS → Mu → Prop
  rt : DQ
  ex : DE
  bk : DS → Mu → Prop := fun _ _ => False
  ct : DS → Mu → Prop := fun _ _ => False
abbrev TDS := DEnds → DS → Mu → Prop

/-- fields, by name -/
def RepF (K : PySem.W.Frag) (F : Hp) (θ : List Addr) : List (Str × D) → List (Str × V) → Prop
  | [], fv => fv = []
  | (x, d) :: r, fv => ∃ v fr, fv = (x, v) :: fr ∧ Rep K F θ d v ∧ RepF K F θ r fr
def RepO (K : PySem.W.Frag) (F : Hp) (θ : List Addr) (H : Hp) (p : Addr) : MO → Prop
  | .lst xs => ∃ vs, H p = some (.lst vs) ∧ Reps K F θ xs vs
  | .dct tt ks ds => ∃ vs, Reps K F θ ds vs ∧ ks.length = vs.length ∧
      ((∃ kk : List Key, (tt = false ∧ ks = kk.map kD) ∧ H p = some (.dK (kk.zip vs))) ∨ (∃ kk : List (List Key), (tt = true ∧ ks = kk.map (fun x => .tup (x.map kD))) ∧ H p = some (.dT (kk.zip vs))))
  | .dcn w kk ds => ∃ vs bs, H p = some (NkO w p (nents kk bs vs)) ∧ Reps K F θ ds vs ∧ kk.length = vs.length ∧ NKs F kk (bs.map V.ref)
  | .dcl ob u tt ks ds => H p = some (.frz ob u) ∧ ∃ vs, Reps K F θ ds vs ∧ ks.length = vs.length ∧
      ((∃ kk : List Key, (tt = false ∧ ks = kk.map kD) ∧ u = .dK (kk.zip vs)) ∨ (∃ kk : List (List Key), (tt = true ∧ ks = kk.map (fun x => .tup (x.map kD))) ∧ u = .dT (kk.zip vs)))
  | .dcm ob u w kk ds => H p = some (.frz ob u) ∧ ∃ vs bs, Reps K F θ ds vs ∧ kk.length = vs.length ∧ NKs F kk (bs.map V.ref) ∧ u = NkO w p (nents kk bs vs)
  | .ins C fs => ∃ dx fv, H p = some (.ins C dx fv) ∧ RepF K F θ fs fv
  | .dead => True

structure Wd where
  F : Hp
  th : List Addr

def Live (μ : Mu) (k : Nat) : Prop := ∃ o, μ[k]? = some o ∧ o ≠ .dead

/-! tables of code objects: the one of voted, whose lambda's code object is made at the first call -/
def lamQ : Str := "voted.<locals>.<lambda>"
/-- what has no part in a table, and is no tuple -/
def plainO : HO → Prop
  | .tup _ => False
  | .tbl _ => False
  | .ext φ => ∃ w p xs, φ = nkP w p xs
  | _ => True
/-- a code object is no such dict -/
theorem code_no {c : Addr} {q : Str} : ¬ plainO (LamX.CodeO c q) := by
  rintro ⟨w, p, xs, e⟩
  have e' := congrFun e { objs := (Array.replicate (c + 1) { cls := .none, data := .fields #[.none, .str q 0] } : Array Obj) }
  have g : ∀ b, b < c + 1 → Heap.get? { objs := (Array.replicate (c + 1) { cls := .none, data := .fields #[.none, .str q 0] } : Array Obj) } b = some { cls := .none, data := .fields #[.none, .str q 0] } := fun b hb => by
    unfold Heap.get?
    simp [hb]
  have y : nkP w p xs { objs := (Array.replicate (c + 1) { cls := .none, data := .fields #[.none, .str q 0] } : Array Obj) } := by
    rw [← e']
    exact ⟨_, _, 0, g c (Nat.lt_succ_self c), rfl, rfl⟩
  obtain ⟨_, _, _, _, o, es, ep, ho, _, hd, _⟩ := y
  by_cases hp : p < c + 1
  · rw [g p hp] at ho
    cases ho
    cases hd
  · unfold Heap.get? at ho
    simp [hp] at ho
def TabK (K : PySem.W.Frag) (F H : Hp) : Prop := ∀ c P, LamC K c P → LamX.TabS H P lamQ ∧ F P = none
theorem TabK.upd {K : PySem.W.Frag} {F H : Hp} {p : Addr} {o : HO} (t : TabK K F H) (h : ∀ u, H p = some u → plainO u) : TabK K F (upd H p o) := fun c P hP => by
  obtain ⟨⟨ps, h1, h2, h3⟩, hF⟩ := t c P hP
  have np : ∀ b u, H b = some u → ¬ plainO u → b ≠ p := fun b u e n z => n (h u (by rw [← z]; exact e))
  refine ⟨⟨ps, by rw [upd_ne (np P _ h1 (fun z => z))]; exact h1, h2, fun pos cv hc => ?_⟩, hF⟩
  obtain ⟨c, e1, e2⟩ := h3 pos cv hc
  exact ⟨c, e1, by rw [upd_ne (np c _ e2 code_no)]; exact e2⟩
theorem TabK.inF {K : PySem.W.Frag} {F H : Hp} {p : Addr} {o : HO} (t : TabK K F H) (h : ∀ ps, H p ≠ some (.tbl ps)) : TabK K (L2.upd F p o) H := fun c P hP => by
  obtain ⟨⟨ps, h1, h2, h3⟩, hF⟩ := t c P hP
  exact ⟨⟨ps, h1, h2, h3⟩, by rw [upd_ne (fun z => h ps (by rw [← z]; exact h1))]; exact hF⟩
theorem plain_none {H : Hp} {p : Addr} (h : H p = none) : ∀ u, H p = some u → plainO u := fun u e => by rw [h] at e; cases e
theorem plain_some {H : Hp} {p : Addr} {o : HO} (h : H p = some o) (n : plainO o) : ∀ u, H p = some u → plainO u := fun u e => by rw [h] at e; cases e; exact n
theorem plain_tbl {H : Hp} {p : Addr} (h : ∀ u, H p = some u → plainO u) : ∀ ps, H p ≠ some (.tbl ps) := fun ps e => h _ e
structure At (K : PySem.W.Frag) (g : Wd) (μ : Mu) (H : Hp) : Prop where
  sub : Sub g.F H
  len : g.th.length = μ.length
  obj : ∀ (k : Nat) o p, μ[k]? = some o → g.th[k]? = some p → o ≠ .dead → g.F p = none ∧ RepO K g.F g.th H p o
  inj : ∀ (j k : Nat) p, Live μ j → Live μ k → g.th[j]? = some p → g.th[k]? = some p → j = k
  al : ∀ p ∈ g.th, ∃ o, H p = some o
  tab : TabK K g.F H

theorem repO_plain {K : PySem.W.Frag} {F H : Hp} {θ : List Addr} {p : Addr} {o : MO} (hd : o ≠ .dead) (r : RepO K F θ H p o) : ∀ u, H p = some u → plainO u := by
  cases o with
  | lst xs => obtain ⟨_, h, _⟩ := r; exact plain_some h trivial
  | dct tt ks ds =>
    obtain ⟨_, _, _, h⟩ := r
    rcases h with ⟨_, _, h⟩ | ⟨_, _, h⟩ <;> exact plain_some h trivial
  | dcn w kk ds => obtain ⟨_, _, h, _⟩ := r; exact plain_some h ⟨_, _, _, rfl⟩
  | dcl ob u tt ks ds => obtain ⟨h, _⟩ := r; exact plain_some h trivial
  | dcm ob u w kk ds => obtain ⟨h, _⟩ := r; exact plain_some h trivial
  | ins C fs => obtain ⟨_, _, h, _⟩ := r; exact plain_some h trivial
  | dead => exact absurd rfl hd
structure Ext (g : Wd) (H : Hp) (g' : Wd) (H' : Hp) : Prop where
  F : Sub g.F g'.F
  th : ∃ more, g'.th = g.th ++ more ∧ ∀ p ∈ more, H p = none
  fr : ∀ b o, H b = some o → b ∉ g.th → (∀ ps, o ≠ .tbl ps) → H' b = some o
  tb : ∀ b ps, H b = some (.tbl ps) → b ∉ g.th → ∃ ps', H' b = some (.tbl ps')
  ek : ∀ b φ, H b = some (.ext φ) → ¬ plainO (.ext φ) → H' b = some (.ext φ)
  nw : ∀ b o, g'.F b = some o → g.F b = none → H b = none ∨ b ∈ g.th ∨ ∃ vs, H b = some (.tup vs)
  dom : ∀ b o, H b = some o → ∃ o', H' b = some o'

theorem Ext.refl (g : Wd) (H : Hp) : Ext g H g H := ⟨fun _ _ h => h, ⟨[], by simp, by simp⟩, fun _ _ h _ _ => h, fun b ps h _ => ⟨ps, h⟩, fun _ _ h _ => h, fun b o h h' => (by rw [h] at h'; cases h'), fun _ o h => ⟨o, h⟩⟩
theorem Ext.trans {g g1 g2 : Wd} {H H1 H2 : Hp} (a : Ext g H g1 H1) (b : Ext g1 H1 g2 H2) : Ext g H g2 H2 := by
  obtain ⟨m1, e1, f1⟩ := a.th
  obtain ⟨m2, e2, f2⟩ := b.th
  refine ⟨fun x o h => b.F _ _ (a.F _ _ h), ⟨m1 ++ m2, by rw [e2, e1, List.append_assoc], fun p hp => ?_⟩, fun x o h hx n => b.fr _ _ (a.fr _ _ h hx n) ?_ n, fun x ps h hx => ?_, fun x φ h n => b.ek _ _ (a.ek _ _ h n) n, fun x o h h' => ?_, fun x o h => ?_⟩
  · rcases List.mem_append.mp hp with hp | hp
    · exact f1 p hp
    · cases e : H p with
      | none => rfl
      | some o =>
        obtain ⟨o', h'⟩ := a.dom _ _ e
        rw [f2 p hp] at h'
        cases h'
  · intro hm
    rw [e1] at hm
    rcases List.mem_append.mp hm with hm | hm
    · exact hx hm
    · have := f1 _ hm
      rw [h] at this
      cases this
  · obtain ⟨ps', h'⟩ := a.tb _ _ h hx
    refine b.tb _ _ h' fun hm => ?_
    rw [e1] at hm
    rcases List.mem_append.mp hm with hm | hm
    · exact hx hm
    · have := f1 _ hm
      rw [h] at this
      cases this
  · cases e : g1.F x with
    | some o1 => exact a.nw _ _ e h'
    | none =>
      rcases b.nw _ _ h e with q | q | ⟨vs, q⟩
      · cases e2 : H x with
        | none => exact .inl rfl
        | some o2 =>
          obtain ⟨o', h'⟩ := a.dom _ _ e2
          rw [q] at h'
          cases h'
      · rw [e1] at q
        rcases List.mem_append.mp q with q | q
        · exact .inr (.inl q)
        · exact .inl (f1 _ q)
      · cases e2 : H x with
        | none => exact .inl rfl
        | some o2 =>
          by_cases hx : x ∈ g.th
          · exact .inr (.inl hx)
          · by_cases ht : ∃ ps, o2 = .tbl ps
            · obtain ⟨ps, rfl⟩ := ht
              obtain ⟨ps', h'⟩ := a.tb _ _ e2 hx
              rw [q] at h'
              cases h'
            · have := a.fr _ _ e2 hx fun ps z => ht ⟨ps, z⟩
              rw [q] at this
              cases this
              exact .inr (.inr ⟨vs, rfl⟩)
  · obtain ⟨o1, h1⟩ := a.dom _ _ h
    exact b.dom _ _ h1
theorem Ext.ix {g g' : Wd} {H H' : Hp} (e : Ext g H g' H') : ∀ (k : Nat) p, g.th[k]? = some p → g'.th[k]? = some p := by
  obtain ⟨m, e1, _⟩ := e.th
  intro k p h
  rw [e1, List.getElem?_append_left (List.getElem?_eq_some_iff.mp h).1]
  exact h
theorem Rep.ext {K : PySem.W.Frag} {g g' : Wd} {H H' : Hp} {d : D} {v : V} (h : Rep K g.F g.th d v) (e : Ext g H g' H') : Rep K g'.F g'.th d v := Rep.mono e.F e.ix d v h
theorem Reps.ext {K : PySem.W.Frag} {g g' : Wd} {H H' : Hp} {d : List D} {v : List V} (h : Reps K g.F g.th d v) (e : Ext g H g' H') : Reps K g'.F g'.th d v := Reps.mono e.F e.ix d v h

/-- the slots -/
structure Sl (K : PySem.W.Frag) (g : Wd) (σ : St) (δ : DS) : Prop where
  len : δ.length = σ.length
  get : ∀ (i : Nat) d, δ[i]? = some (some d) → ∃ v, σ[i]? = some (some v) ∧ Rep K g.F g.th d v
theorem Sl.ext {K : PySem.W.Frag} {g g' : Wd} {H H' : Hp} {σ : St} {δ : DS} (h : Sl K g σ δ) (e : Ext g H g' H') : Sl K g' σ δ :=
  ⟨h.len, fun i d q => let ⟨v, a, b⟩ := h.get i d q; ⟨v, a, b.ext e⟩⟩
theorem Sl.set {K : PySem.W.Frag} {g : Wd} {σ : St} {δ : DS} {i : Nat} {d : D} {v : V} (h : Sl K g σ δ) (r : Rep K g.F g.th d v) : Sl K g (σ.set i (some v)) (δ.set i (some d)) := by
  refine ⟨by simp [h.len], fun j d' q => ?_⟩
  by_cases e : i = j
  · subst e
    by_cases hl : i < δ.length
    · rw [List.getElem?_set_self hl] at q
      cases q
      exact ⟨v, List.getElem?_set_self (by rw [← h.len]; exact hl), r⟩
    · rw [List.getElem?_eq_none (by simpa using hl)] at q
      cases q
  · rw [List.getElem?_set_ne e] at q ⊢
    exact h.get j d' q
/-! ### the lift -/
section
variable (K : PySem.W.Frag) (W : WX)
def up (A : TD) : TE := fun σ H Q => ∃ (g : Wd) (μ : Mu) (δ : DS) (Q' : DQ) (E' : DE), At K g μ H ∧ Sl K g σ δ ∧ A δ μ Q' E' ∧
  (∀ g' H' μ' d v, At K g' μ' H' → Ext g H g' H' → Rep K g'.F g'.th d v → Q' d μ' → Q v H') ∧
  (∀ g' H' μ' C δ', At K g' μ' H' → Ext g H g' H' → Sl K g' σ δ' → E' C δ' μ' → W C none σ H')
def upT (A : TDT) : TT := fun σ H Q => ∃ (g : Wd) (μ : Mu) (δ : DS) (Q' : Bool → Mu → Prop) (E' : DE), At K g μ H ∧ Sl K g σ δ ∧ A δ μ Q' E' ∧
  (∀ g' H' μ' b, At K g' μ' H' → Ext g H g' H' → Q' b μ' → Q b H') ∧
  (∀ g' H' μ' C δ', At K g' μ' H' → Ext g H g' H' → Sl K g' σ δ' → E' C δ' μ' → W C none σ H')
def upA (A : TDA) : TA := fun σ H Q => ∃ (g : Wd) (μ : Mu) (δ : DS) (Q' : List D → Mu → Prop) (E' : DE), At K g μ H ∧ Sl K g σ δ ∧ A δ μ Q' E' ∧
  (∀ g' H' μ' ds vs, At K g' μ' H' → Ext g H g' H' → Reps K g'.F g'.th ds vs → Q' ds μ' → Q vs H') ∧
  (∀ g' H' μ' C δ', At K g' μ' H' → Ext g H g' H' → Sl K g' σ δ' → E' C δ' μ' → W C none σ H')
def upS (A : TDS) : TS := fun D σ H => ∃ (g : Wd) (μ : Mu) (δ : DS) (D' : DEnds), At K g μ H ∧ Sl K g σ δ ∧ A D' δ μ ∧
  (∀ g' H' μ' δ' σ', At K g' μ' H' → Ext g H g' H' → Sl K g' σ' δ' → D'.nx δ' μ' → D.nx σ' H') ∧
  (∀ g' H' μ' d v, At K g' μ' H' → Ext g H g' H' → Rep K g'.F g'.th d v → D'.rt d μ' → D.rt v H') ∧
  (∀ g' H' μ' δ' σ', At K g' μ' H' → Ext g H g' H' → Sl K g' σ' δ' → D'.bk δ' μ' → D.bk σ' H') ∧
  (∀ g' H' μ' δ' σ', At K g' μ' H' → Ext g H g' H' → Sl K g' σ' δ' → D'.ct δ' μ' → D.ct σ' H') ∧
  (∀ g' H' μ' C δ' σ', At K g' μ' H' → Ext g H g' H' → Sl K g' σ' δ' → D'.ex C δ' μ' → W C none σ' H')
end

theorem PE.imp {X : Cx} {e : Expr} {t t' : TE} (h : PE X e t) (i : ∀ σ H Q, t' σ H Q → t σ H Q) : PE X e t' := ⟨fun pins s σ H Q I q => h.run pins s σ H Q I (i _ _ _ q)⟩
theorem PT.imp {X : Cx} {e : Expr} {t t' : TT} (h : PT X e t) (i : ∀ σ H Q, t' σ H Q → t σ H Q) : PT X e t' := ⟨fun pins s σ H Q I q => h.run pins s σ H Q I (i _ _ _ q)⟩
theorem PW.imp {X : Cx} {e : Expr} {t t' : TT} (h : PW X e t) (i : ∀ σ H Q, t' σ H Q → t σ H Q) : PW X e t' := ⟨fun w pins s σ H Q I q => h.run w pins s σ H Q I (i _ _ _ q)⟩
theorem PA.imp {X : Cx} {e : List Expr} {t t' : TA} (h : PA X e t) (i : ∀ σ H Q, t' σ H Q → t σ H Q) : PA X e t' := ⟨fun w pins s σ H Q I q => h.run w pins s σ H Q I (i _ _ _ q)⟩
theorem PS.imp {X : Cx} {e : Stmt} {t t' : TS} (h : PS X e t) (i : ∀ D σ H, t' D σ H → t D σ H) : PS X e t' := ⟨fun pins s σ H Q I q => h.run pins s σ H Q I (i _ _ _ q)⟩
theorem PSs.imp {X : Cx} {e : List Stmt} {t t' : TS} (h : PSs X e t) (i : ∀ D σ H, t' D σ H → t D σ H) : PSs X e t' := ⟨fun pins s σ H Q I q => h.run pins s σ H Q I (i _ _ _ q)⟩

end SW

end

section
set_option Elab.async false
set_option linter.all false
set_option maxRecDepth 100000
namespace SW
open PySem L2

theorem RepF.mono {K : PySem.W.Frag} {F F' : Hp} {θ θ' : List Addr} (e : Sub F F') (t : ∀ (k : Nat) p, θ[k]? = some p → θ'[k]? = some p) : ∀ (fs : List (Str × D)) (fv : List (Str × V)), RepF K F θ fs fv → RepF K F' θ' fs fv
  | [], _, h => h
  | (x, d) :: r, fv, h => by
    obtain ⟨v, fr, a, b, c⟩ := h
    exact ⟨v, fr, a, Rep.mono e t d v b, RepF.mono e t r fr c⟩
theorem RepO.mono {K : PySem.W.Frag} {F F' : Hp} {θ θ' : List Addr} {H H' : Hp} {p : Addr} {o : MO} (e : Sub F F') (t : ∀ (k : Nat) p, θ[k]? = some p → θ'[k]? = some p) (hp : o ≠ .dead → H' p = H p) (h : RepO K F θ H p o) : RepO K F' θ' H' p o := by
  cases o with
  | lst xs =>
    obtain ⟨vs, a, b⟩ := h
    exact ⟨vs, by rw [hp (by simp)]; exact a, Reps.mono e t _ _ b⟩
  | dct tt ks ds =>
    obtain ⟨vs, a, b, c⟩ := h
    refine ⟨vs, Reps.mono e t _ _ a, b, ?_⟩
    rw [hp (by simp)]
    exact c
  | dcn w kk ds =>
    obtain ⟨vs, bs, a, b, c, d⟩ := h
    exact ⟨vs, bs, by rw [hp (by simp)]; exact a, Reps.mono e t _ _ b, c, NKs.mono e _ _ d⟩
  | dcl ob u tt ks ds =>
    obtain ⟨a, vs, b, c⟩ := h
    exact ⟨by rw [hp (by simp)]; exact a, vs, Reps.mono e t _ _ b, c⟩
  | dcm ob u w kk ds =>
    obtain ⟨a, vs, bs, b, c, d, q⟩ := h
    exact ⟨by rw [hp (by simp)]; exact a, vs, bs, Reps.mono e t _ _ b, c, NKs.mono e _ _ d, q⟩
  | ins C fs =>
    obtain ⟨dx, fv, a, b⟩ := h
    exact ⟨dx, fv, by rw [hp (by simp)]; exact a, RepF.mono e t _ _ b⟩
  | dead => trivial

theorem alloc_upd {H : Hp} {p q : Addr} {o : HO} (h : ∃ u, H q = some u) : ∃ u, (upd H p o) q = some u := by
  by_cases e : q = p
  · subst e
    exact ⟨_, upd_same⟩
  · rw [upd_ne e]
    exact h
theorem th_get {g : Wd} {μ : Mu} {H : Hp} {K : PySem.W.Frag} (a : At K g μ H) {k : Nat} {o : MO} (h : μ[k]? = some o) : ∃ p, g.th[k]? = some p := by
  have := (List.getElem?_eq_some_iff.mp h).1
  rw [← a.len] at this
  exact ⟨_, List.getElem?_eq_getElem this⟩

section
variable {K : PySem.W.Frag} {g : Wd} {μ : Mu} {H : Hp}

/-- the address of a live cell -/
theorem At.cellAt (a : At K g μ H) {k : Nat} {o : MO} (h : μ[k]? = some o) (hd : o ≠ .dead) {v : V} (r : Rep K g.F g.th (.cell k) v) : ∃ p, v = .ref p ∧ g.th[k]? = some p ∧ g.F p = none ∧ RepO K g.F g.th H p o := by
  unfold Rep at r
  obtain ⟨p, e, hp⟩ := r
  obtain ⟨x, y⟩ := a.obj k o p h hp hd
  exact ⟨p, e, hp, x, y⟩

/-- an object that no one changes is made -/
theorem At.newF (a : At K g μ H) {p : Addr} (hp : H p = none) (o : HO) : At K ⟨upd g.F p o, g.th⟩ μ (upd H p o) ∧ Ext g H ⟨upd g.F p o, g.th⟩ (upd H p o) ∧ (upd g.F p o) p = some o := by
  have hF : g.F p = none := Same.free a.sub hp
  have sub : Sub g.F (upd g.F p o) := fun b u e => by rw [upd_ne (ne_of_none e hF)]; exact e
  refine ⟨⟨fun b u e => ?_, a.len, fun k u q h1 h2 h3 => ?_, a.inj, fun q hq => alloc_upd (a.al q hq), (a.tab.inF (o := o) (plain_tbl (plain_none hp))).upd (plain_none hp)⟩, ⟨sub, ⟨[], by simp, by simp⟩, fun b u e _ _ => ?_, fun b ps e _ => ⟨ps, by rw [upd_ne (ne_of_none e hp)]; exact e⟩, fun b φ e _ => by rw [upd_ne (ne_of_none e hp)]; exact e, fun b u e e' => ?_, fun b u e => ?_⟩, upd_same⟩
  · have e : upd g.F p o b = some u := e
    by_cases hb : b = p
    · subst hb
      rw [upd_same] at e ⊢
      exact e
    · rw [upd_ne hb] at e ⊢
      exact a.sub _ _ e
  · obtain ⟨x, y⟩ := a.obj k u q h1 h2 h3
    have hq : q ≠ p := by
      rintro rfl
      cases u with
      | lst xs => obtain ⟨vs, z, _⟩ := y; rw [hp] at z; cases z
      | dct tt ks ds =>
        obtain ⟨vs, _, _, z⟩ := y
        rw [hp] at z
        rcases z with ⟨_, _, z⟩ | ⟨_, _, z⟩ <;> cases z
      | dcn w kk ds => obtain ⟨vs, bs, z, _⟩ := y; rw [hp] at z; cases z
      | dcl ob u tt ks ds => obtain ⟨z, _⟩ := y; rw [hp] at z; cases z
      | dcm ob u w kk ds => obtain ⟨z, _⟩ := y; rw [hp] at z; cases z
      | ins C fs => obtain ⟨dx, fv, z, _⟩ := y; rw [hp] at z; cases z
      | dead => exact h3 rfl
    exact ⟨by show upd g.F p o q = none; rw [upd_ne hq]; exact x, RepO.mono sub (fun _ _ h => h) (fun _ => upd_ne hq) y⟩
  · rw [upd_ne (ne_of_none e hp)]
    exact e
  · by_cases hb : b = p
    · subst hb
      exact .inl hp
    · have e : upd g.F p o b = some u := e
      rw [upd_ne hb, e'] at e
      cases e
  · exact ⟨u, by rw [upd_ne (ne_of_none e hp)]; exact e⟩
theorem At.newLst (a : At K g μ H) {p : Addr} (hp : H p = none) {ds : List D} {vs : List V} (r : Reps K g.F g.th ds vs) :
    ∃ g', At K g' μ (upd H p (.lst vs)) ∧ Ext g H g' (upd H p (.lst vs)) ∧ Rep K g'.F g'.th (.lst ds) (.ref p) := by
  obtain ⟨x, y, z⟩ := a.newF hp (.lst vs)
  exact ⟨_, x, y, by unfold Rep; exact ⟨p, vs, rfl, z, r.ext y⟩⟩
theorem At.newTup (a : At K g μ H) {p : Addr} (hp : H p = none) {ds : List D} {vs : List V} (r : Reps K g.F g.th ds vs) :
    ∃ g', At K g' μ (upd H p (.tup vs)) ∧ Ext g H g' (upd H p (.tup vs)) ∧ Rep K g'.F g'.th (.tup ds) (.ref p) := by
  obtain ⟨x, y, z⟩ := a.newF hp (.tup vs)
  exact ⟨_, x, y, by unfold Rep; exact ⟨p, vs, rfl, z, r.ext y⟩⟩

/-- a cell is made -/
theorem At.newC (a : At K g μ H) {p : Addr} (hp : H p = none) {ho : HO} {o : MO} (r : RepO K g.F (g.th ++ [p]) (upd H p ho) p o) :
    At K ⟨g.F, g.th ++ [p]⟩ (μ ++ [o]) (upd H p ho) ∧ Ext g H ⟨g.F, g.th ++ [p]⟩ (upd H p ho) ∧ Rep K g.F (g.th ++ [p]) (.cell μ.length) (.ref p) := by
  have hF : g.F p = none := Same.free a.sub hp
  have ix : ∀ (k : Nat) q, g.th[k]? = some q → (g.th ++ [p])[k]? = some q := fun k q h => by
    rw [List.getElem?_append_left (List.getElem?_eq_some_iff.mp h).1]
    exact h
  have old : ∀ (k : Nat) u, (μ ++ [o])[k]? = some u → (k < μ.length ∧ μ[k]? = some u) ∨ (k = μ.length ∧ u = o) := fun k u h => by
    by_cases hk : k < μ.length
    · rw [List.getElem?_append_left hk] at h
      exact .inl ⟨hk, h⟩
    · rw [List.getElem?_append_right (by omega)] at h
      have : k - μ.length = 0 := by
        cases e : k - μ.length with
        | zero => rfl
        | succ n => rw [e] at h; simp at h
      rw [this] at h
      simp at h
      exact .inr ⟨by omega, h.symm⟩
  have oldθ : ∀ (k : Nat) q, k < μ.length → (g.th ++ [p])[k]? = some q → g.th[k]? = some q := fun k q hk h => by
    rw [List.getElem?_append_left (by rw [a.len]; exact hk)] at h
    exact h
  have newθ : ∀ q, (g.th ++ [p])[μ.length]? = some q → q = p := fun q h => by
    rw [← a.len, List.getElem?_append_right (Nat.le_refl _), Nat.sub_self] at h
    simp at h
    exact h.symm
  have nep : ∀ (k : Nat) u q, μ[k]? = some u → u ≠ .dead → g.th[k]? = some q → q ≠ p := by
    rintro k u q h1 h3 h2 rfl
    obtain ⟨x, y⟩ := a.obj k u q h1 h2 h3
    cases u with
    | lst xs => obtain ⟨vs, z, _⟩ := y; rw [hp] at z; cases z
    | dct tt ks ds =>
      obtain ⟨vs, _, _, z⟩ := y
      rw [hp] at z
      rcases z with ⟨_, _, z⟩ | ⟨_, _, z⟩ <;> cases z
    | dcn w kk ds => obtain ⟨vs, bs, z, _⟩ := y; rw [hp] at z; cases z
    | dcl ob u tt ks ds => obtain ⟨z, _⟩ := y; rw [hp] at z; cases z
    | dcm ob u w kk ds => obtain ⟨z, _⟩ := y; rw [hp] at z; cases z
    | ins C fs => obtain ⟨dx, fv, z, _⟩ := y; rw [hp] at z; cases z
    | dead => exact h3 rfl
  refine ⟨⟨fun b u e => ?_, by simp [a.len], fun k u q h1 h2 h3 => ?_, fun j k q lj lk h1 h2 => ?_, fun q hq => ?_, a.tab.upd (plain_none hp)⟩, ⟨fun _ _ e => e, ⟨[p], rfl, fun q hq => ?_⟩, fun b u e _ _ => ?_, fun b ps e _ => ⟨ps, by rw [upd_ne (ne_of_none e hp)]; exact e⟩, fun b φ e _ => by rw [upd_ne (ne_of_none e hp)]; exact e, fun b u e e' => ?_, fun b u e => ?_⟩, ?_⟩
  · rw [upd_ne (ne_of_none (a.sub _ _ e) hp)]
    exact a.sub _ _ e
  · rcases old k u h1 with ⟨hk, h1⟩ | ⟨rfl, rfl⟩
    · have h2 := oldθ k q hk h2
      obtain ⟨x, y⟩ := a.obj k u q h1 h2 h3
      exact ⟨x, RepO.mono (fun _ _ e => e) ix (fun _ => upd_ne (nep k u q h1 h3 h2)) y⟩
    · have e := newθ q h2
      subst e
      exact ⟨hF, r⟩
  · obtain ⟨u, hu, du⟩ := lj
    obtain ⟨w, hw, dw⟩ := lk
    rcases old j u hu with ⟨hj, hu⟩ | ⟨rfl, eu⟩
    · rcases old k w hw with ⟨hk, hw⟩ | ⟨rfl, ew⟩
      · exact a.inj j k q ⟨u, hu, du⟩ ⟨w, hw, dw⟩ (oldθ _ _ hj h1) (oldθ _ _ hk h2)
      · have e := newθ q h2
        exact absurd e (nep j u q hu du (oldθ _ _ hj h1))
    · rcases old k w hw with ⟨hk, hw⟩ | ⟨rfl, _⟩
      · have e := newθ q h1
        exact absurd e (nep k w q hw dw (oldθ _ _ hk h2))
      · rfl
  · rcases List.mem_append.mp hq with hq | hq
    · exact alloc_upd (a.al q hq)
    · have : q = p := by simpa using hq
      subst this
      exact ⟨_, upd_same⟩
  · have : q = p := by simpa using hq
    subst this
    exact hp
  · rw [upd_ne (ne_of_none e hp)]
    exact e
  · have e : g.F b = some u := e
    rw [e'] at e
    cases e
  · exact ⟨u, by rw [upd_ne (ne_of_none e hp)]; exact e⟩
  · unfold Rep
    refine ⟨p, rfl, ?_⟩
    rw [← a.len, List.getElem?_append_right (Nat.le_refl _), Nat.sub_self]
    rfl
theorem At.newCL (a : At K g μ H) {p : Addr} (hp : H p = none) {ds : List D} {vs : List V} (r : Reps K g.F g.th ds vs) :
    ∃ g', At K g' (μ ++ [.lst ds]) (upd H p (.lst vs)) ∧ Ext g H g' (upd H p (.lst vs)) ∧ Rep K g'.F g'.th (.cell μ.length) (.ref p) := by
  refine ⟨_, a.newC hp ⟨vs, upd_same, Reps.mono (fun _ _ e => e) (fun k q h => ?_) _ _ r⟩⟩
  rw [List.getElem?_append_left (List.getElem?_eq_some_iff.mp h).1]
  exact h

/-- a cell is changed -/
theorem At.setC (a : At K g μ H) {k : Nat} {p : Addr} {o o' : MO} {ho : HO} (hk : μ[k]? = some o) (hd : o ≠ .dead) (hp : g.th[k]? = some p) (r : RepO K g.F g.th (upd H p ho) p o') :
    At K g (μ.set k o') (upd H p ho) ∧ Ext g H g (upd H p ho) := by
  obtain ⟨hF, y⟩ := a.obj k o p hk hp hd
  have hlt := (List.getElem?_eq_some_iff.mp hk).1
  have nep : ∀ (j : Nat) u q, j ≠ k → μ[j]? = some u → u ≠ .dead → g.th[j]? = some q → q ≠ p := by
    rintro j u q hj h1 h3 h2 rfl
    exact hj (a.inj j k q ⟨u, h1, h3⟩ ⟨o, hk, hd⟩ h2 hp)
  have liveOld : ∀ j, Live (μ.set k o') j → Live μ j := fun j ⟨u, h, d⟩ => by
    by_cases e : k = j
    · subst e
      exact ⟨o, hk, hd⟩
    · rw [List.getElem?_set_ne e] at h
      exact ⟨u, h, d⟩
  refine ⟨⟨fun b u e => ?_, by simp [a.len], fun j u q h1 h2 h3 => ?_, fun i j q li lj h1 h2 => a.inj i j q (liveOld i li) (liveOld j lj) h1 h2, fun q hq => alloc_upd (a.al q hq), a.tab.upd (repO_plain hd y)⟩, ⟨fun _ _ e => e, ⟨[], by simp, by simp⟩, fun b u e hb _ => ?_, fun b ps e hb => ⟨ps, by rw [upd_ne (fun e2 => hb (by rw [e2]; exact List.mem_of_getElem? hp))]; exact e⟩, fun b φ e n => by rw [upd_ne (fun z => n (repO_plain hd y (.ext φ) (by rw [← z]; exact e)))]; exact e, fun b u e e' => ?_, fun b u e => ?_⟩⟩
  · rw [upd_ne (ne_of_none e hF)]
    exact a.sub _ _ e
  · by_cases e : k = j
    · subst e
      rw [List.getElem?_set_self hlt] at h1
      cases h1
      rw [hp] at h2
      cases h2
      exact ⟨hF, r⟩
    · rw [List.getElem?_set_ne e] at h1
      obtain ⟨x, z⟩ := a.obj j u q h1 h2 h3
      exact ⟨x, RepO.mono (fun _ _ e => e) (fun _ _ e => e) (fun _ => upd_ne (nep j u q (Ne.symm e) h1 h3 h2)) z⟩
  · rw [upd_ne (fun e2 => hb (by rw [e2]; exact List.mem_of_getElem? hp))]
    exact e
  · rw [e'] at e
    cases e
  · by_cases hb : b = p
    · subst hb
      exact ⟨_, upd_same⟩
    · exact ⟨u, by rw [upd_ne hb]; exact e⟩

/-- a cell is changed no more -/
theorem At.frz (a : At K g μ H) {k : Nat} {p : Addr} {o : MO} {ho : HO} (hk : μ[k]? = some o) (hd : o ≠ .dead) (hp : g.th[k]? = some p) (h : H p = some ho) :
    At K ⟨upd g.F p ho, g.th⟩ (μ.set k .dead) H ∧ Ext g H ⟨upd g.F p ho, g.th⟩ H := by
  obtain ⟨hF, y⟩ := a.obj k o p hk hp hd
  have hlt := (List.getElem?_eq_some_iff.mp hk).1
  have sub : Sub g.F (upd g.F p ho) := fun b u e => by rw [upd_ne (ne_of_none e hF)]; exact e
  have liveOld : ∀ j, Live (μ.set k .dead) j → j ≠ k ∧ Live μ j := fun j ⟨u, h, d⟩ => by
    by_cases e : k = j
    · subst e
      rw [List.getElem?_set_self hlt] at h
      cases h
      exact absurd rfl d
    · rw [List.getElem?_set_ne e] at h
      exact ⟨Ne.symm e, u, h, d⟩
  refine ⟨⟨fun b u e => ?_, by simp [a.len], fun j u q h1 h2 h3 => ?_, fun i j q li lj h1 h2 => a.inj i j q (liveOld i li).2 (liveOld j lj).2 h1 h2, a.al, a.tab.inF (plain_tbl (repO_plain hd y))⟩, ⟨sub, ⟨[], by simp, by simp⟩, fun b u e _ _ => e, fun b ps e _ => ⟨ps, e⟩, fun _ _ e _ => e, fun b u e e' => ?_, fun b u e => ⟨u, e⟩⟩⟩
  · by_cases hb : b = p
    · subst hb
      have e : upd g.F b ho b = some u := e
      rw [upd_same] at e
      cases e
      exact h
    · have e : upd g.F p ho b = some u := e
      rw [upd_ne hb] at e
      exact a.sub _ _ e
  · obtain ⟨nk, u', hu', du'⟩ := liveOld j ⟨u, h1, h3⟩
    rw [List.getElem?_set_ne (Ne.symm nk)] at h1
    obtain ⟨x, z⟩ := a.obj j u q h1 h2 h3
    have hq : q ≠ p := by
      rintro rfl
      exact nk (a.inj j k q ⟨u, h1, h3⟩ ⟨o, hk, hd⟩ h2 hp)
    exact ⟨by show upd g.F p ho q = none; rw [upd_ne hq]; exact x, RepO.mono sub (fun _ _ e => e) (fun _ => rfl) z⟩
  · by_cases hb : b = p
    · subst hb
      exact .inr (.inl (List.mem_of_getElem? hp))
    · have e : upd g.F p ho b = some u := e
      rw [upd_ne hb, e'] at e
      cases e
/-- .. and locked -/
theorem At.frzL (a : At K g μ H) {k : Nat} {p : Addr} {o : MO} {ho : HO} (hk : μ[k]? = some o) (hd : o ≠ .dead) (hp : g.th[k]? = some p) :
    At K ⟨upd g.F p ho, g.th⟩ (μ.set k .dead) (upd H p ho) ∧ Ext g H ⟨upd g.F p ho, g.th⟩ (upd H p ho) := by
  obtain ⟨hF, y⟩ := a.obj k o p hk hp hd
  have hlt := (List.getElem?_eq_some_iff.mp hk).1
  have sub : Sub g.F (upd g.F p ho) := fun b u e => by rw [upd_ne (ne_of_none e hF)]; exact e
  have liveOld : ∀ j, Live (μ.set k .dead) j → j ≠ k ∧ Live μ j := fun j ⟨u, h, d⟩ => by
    by_cases e : k = j
    · subst e
      rw [List.getElem?_set_self hlt] at h
      cases h
      exact absurd rfl d
    · rw [List.getElem?_set_ne e] at h
      exact ⟨Ne.symm e, u, h, d⟩
  refine ⟨⟨fun b u e => ?_, by simp [a.len], fun j u q h1 h2 h3 => ?_, fun i j q li lj h1 h2 => a.inj i j q (liveOld i li).2 (liveOld j lj).2 h1 h2, fun q hq => alloc_upd (a.al q hq), (a.tab.inF (o := ho) (plain_tbl (repO_plain hd y))).upd (repO_plain hd y)⟩, ⟨sub, ⟨[], by simp, by simp⟩, fun b u e hb _ => by rw [upd_ne (fun z => hb (by rw [z]; exact List.mem_of_getElem? hp))]; exact e, fun b ps e hb => ⟨ps, by rw [upd_ne (fun z => hb (by rw [z]; exact List.mem_of_getElem? hp))]; exact e⟩, fun b φ e n => by rw [upd_ne (fun z => n (repO_plain hd y (.ext φ) (by rw [← z]; exact e)))]; exact e, fun b u e e' => ?_, fun b u e => alloc_upd ⟨u, e⟩⟩⟩
  · by_cases hb : b = p
    · subst hb
      have e : upd g.F b ho b = some u := e
      rw [upd_same] at e ⊢
      exact e
    · have e : upd g.F p ho b = some u := e
      rw [upd_ne hb] at e ⊢
      exact a.sub _ _ e
  · obtain ⟨nk, u', hu', du'⟩ := liveOld j ⟨u, h1, h3⟩
    rw [List.getElem?_set_ne (Ne.symm nk)] at h1
    obtain ⟨x, z⟩ := a.obj j u q h1 h2 h3
    have hq : q ≠ p := by
      rintro rfl
      exact nk (a.inj j k q ⟨u, h1, h3⟩ ⟨o, hk, hd⟩ h2 hp)
    exact ⟨by show upd g.F p ho q = none; rw [upd_ne hq]; exact x, RepO.mono sub (fun _ _ e => e) (fun _ => upd_ne hq) z⟩
  · by_cases hb : b = p
    · subst hb
      exact .inr (.inl (List.mem_of_getElem? hp))
    · have e : upd g.F p ho b = some u := e
      rw [upd_ne hb, e'] at e
      cases e
end

/-! ### lists of data -/
theorem Reps.length {K : PySem.W.Frag} {F : Hp} {θ : List Addr} : ∀ {ds : List D} {vs : List V}, Reps K F θ ds vs → ds.length = vs.length
  | [], vs, h => by unfold Reps at h; subst h; rfl
  | d :: ds, vs, h => by
    unfold Reps at h
    obtain ⟨v, r, e, _, h⟩ := h
    subst e
    simp [Reps.length h]
theorem Reps.get {K : PySem.W.Frag} {F : Hp} {θ : List Addr} : ∀ {ds : List D} {vs : List V} {i : Nat} {d : D}, Reps K F θ ds vs → ds[i]? = some d → ∃ v, vs[i]? = some v ∧ Rep K F θ d v
  | [], vs, i, d, h, e => by simp at e
  | x :: ds, vs, 0, d, h, e => by
    unfold Reps at h
    obtain ⟨v, r, q, h1, h⟩ := h
    subst q
    simp at e
    subst e
    exact ⟨v, rfl, h1⟩
  | x :: ds, vs, i + 1, d, h, e => by
    unfold Reps at h
    obtain ⟨v, r, q, h1, h⟩ := h
    subst q
    exact Reps.get (ds := ds) (vs := r) (i := i) h (by simpa using e)
theorem Reps.nil {K : PySem.W.Frag} {F : Hp} {θ : List Addr} : Reps K F θ [] [] := by unfold Reps; rfl
theorem Reps.cons {K : PySem.W.Frag} {F : Hp} {θ : List Addr} {d : D} {v : V} {ds : List D} {vs : List V} (a : Rep K F θ d v) (b : Reps K F θ ds vs) : Reps K F θ (d :: ds) (v :: vs) := by
  unfold Reps
  exact ⟨v, vs, rfl, a, b⟩
theorem Reps.append {K : PySem.W.Frag} {F : Hp} {θ : List Addr} : ∀ {ds es : List D} {vs ws : List V}, Reps K F θ ds vs → Reps K F θ es ws → Reps K F θ (ds ++ es) (vs ++ ws)
  | [], es, vs, ws, h, h2 => by unfold Reps at h; subst h; exact h2
  | d :: ds, es, vs, ws, h, h2 => by
    unfold Reps at h
    obtain ⟨v, r, q, h1, h⟩ := h
    subst q
    exact Reps.cons h1 (Reps.append h h2)
theorem Reps.take {K : PySem.W.Frag} {F : Hp} {θ : List Addr} : ∀ {ds : List D} {vs : List V} (n : Nat), Reps K F θ ds vs → Reps K F θ (ds.take n) (vs.take n)
  | [], vs, n, h => by unfold Reps at h; subst h; simp [Reps.nil]
  | d :: ds, vs, 0, h => by simp [Reps.nil]
  | d :: ds, vs, n + 1, h => by
    unfold Reps at h
    obtain ⟨v, r, q, h1, h⟩ := h
    subst q
    exact Reps.cons h1 (Reps.take n h)
theorem Reps.drop {K : PySem.W.Frag} {F : Hp} {θ : List Addr} : ∀ {ds : List D} {vs : List V} (n : Nat), Reps K F θ ds vs → Reps K F θ (ds.drop n) (vs.drop n)
  | [], vs, n, h => by unfold Reps at h; subst h; simp [Reps.nil]
  | d :: ds, vs, 0, h => h
  | d :: ds, vs, n + 1, h => by
    unfold Reps at h
    obtain ⟨v, r, q, h1, h⟩ := h
    subst q
    exact Reps.drop n h
theorem Reps.set {K : PySem.W.Frag} {F : Hp} {θ : List Addr} {d : D} {v : V} (a : Rep K F θ d v) : ∀ {ds : List D} {vs : List V} (n : Nat), Reps K F θ ds vs → Reps K F θ (ds.set n d) (vs.set n v)
  | [], vs, n, h => by unfold Reps at h; subst h; simp [Reps.nil]
  | x :: ds, vs, 0, h => by
    unfold Reps at h
    obtain ⟨w, r, q, h1, h⟩ := h
    subst q
    exact Reps.cons a h
  | x :: ds, vs, n + 1, h => by
    unfold Reps at h
    obtain ⟨w, r, q, h1, h⟩ := h
    subst q
    exact Reps.cons h1 (Reps.set a n h)
theorem Reps.flat {K : PySem.W.Frag} {F : Hp} {θ : List Addr} {ds : List D} {vs : List V} (h : Reps K F θ ds vs) : ∀ n, Reps K F θ (List.replicate n ds).flatten (List.replicate n vs).flatten
  | 0 => by simp [Reps.nil]
  | n + 1 => by
    rw [List.replicate_succ, List.replicate_succ, List.flatten_cons, List.flatten_cons]
    exact Reps.append h (Reps.flat h n)
theorem Reps.reverse {K : PySem.W.Frag} {F : Hp} {θ : List Addr} : ∀ {ds : List D} {vs : List V}, Reps K F θ ds vs → Reps K F θ ds.reverse vs.reverse
  | [], vs, h => by unfold Reps at h; subst h; exact Reps.nil
  | d :: ds, vs, h => by
    unfold Reps at h
    obtain ⟨v, r, q, h1, h⟩ := h
    subst q
    rw [List.reverse_cons, List.reverse_cons]
    exact Reps.append (Reps.reverse h) (Reps.cons h1 Reps.nil)
end SW

end

section
set_option Elab.async false
set_option linter.all false
set_option maxRecDepth 100000
namespace SW
open PySem L2 PyProof.Rows

/-! ### operations over data -/
abbrev DOp := D → D → Mu → DQ → Prop
abbrev DUn := D → Mu → DQ → Prop
abbrev DCa := List D → Mu → DQ → Prop
abbrev DMt := D → List D → Mu → DQ → Prop
/-- what is wanted behind an operation -/
abbrev Kt (K : PySem.W.Frag) (g : Wd) (H : Hp) (Q' : DQ) (Q : VK) : Prop := ∀ g' H' μ' d v, At K g' μ' H' → Ext g H g' H' → Rep K g'.F g'.th d v → Q' d μ' → Q v H'
def LOp (K : PySem.W.Frag) (r : R2) (f : DOp) : Prop := ∀ g μ H x y a b Q' Q, At K g μ H → Rep K g.F g.th x a → Rep K g.F g.th y b → f x y μ Q' → Kt K g H Q' Q → r a b H Q
def LUn (K : PySem.W.Frag) (r : V → Hp → VK → Prop) (f : DUn) : Prop := ∀ g μ H x a Q' Q, At K g μ H → Rep K g.F g.th x a → f x μ Q' → Kt K g H Q' Q → r a H Q
def LCa (K : PySem.W.Frag) (r : List V → Hp → VK → Prop) (f : DCa) : Prop := ∀ g μ H xs as Q' Q, At K g μ H → Reps K g.F g.th xs as → f xs μ Q' → Kt K g H Q' Q → r as H Q
def LMt (K : PySem.W.Frag) (r : V → List V → Hp → VK → Prop) (f : DMt) : Prop := ∀ g μ H x a xs as Q' Q, At K g μ H → Rep K g.F g.th x a → Reps K g.F g.th xs as → f x xs μ Q' → Kt K g H Q' Q → r a as H Q
theorem Kt.here {K : PySem.W.Frag} {g : Wd} {H : Hp} {Q' : DQ} {Q : VK} {μ : Mu} {d : D} {v : V} (k : Kt K g H Q' Q) (a : At K g μ H) (r : Rep K g.F g.th d v) (q : Q' d μ) : Q v H := k g H μ d v a (Ext.refl _ _) r q

/-! ### readings over data -/
def dVar (i : Nat) : TD := fun δ μ Q _ => ∃ d, δ[i]? = some (some d) ∧ Q d μ
def dC (d : D) : TD := fun _ μ Q _ => Q d μ
def dOp (f : DOp) (A B : TD) : TD := fun δ μ Q E => A δ μ (fun x μ1 => B δ μ1 (fun y μ2 => f x y μ2 Q) E) E
def dUn (f : DUn) (A : TD) : TD := fun δ μ Q E => A δ μ (fun x μ1 => f x μ1 Q) E
def dNil : TDA := fun _ μ Q _ => Q [] μ
def dCons (A : TD) (B : TDA) : TDA := fun δ μ Q E => A δ μ (fun x μ1 => B δ μ1 (fun xs μ2 => Q (x :: xs) μ2) E) E
def dCB (f : DCa) (A : TDA) : TD := fun δ μ Q E => A δ μ (fun xs μ1 => f xs μ1 Q) E
def dTest (A : TD) : TDT := fun δ μ Q E => A δ μ (fun x μ1 => ∃ b, x = .bl b ∧ Q b μ1) E
def dAnd (A B : TDT) : TDT := fun δ μ Q E => A δ μ (fun b μ1 => (b = true → B δ μ1 Q E) ∧ (b = false → Q false μ1)) E
def dOr (A B : TDT) : TDT := fun δ μ Q E => A δ μ (fun b μ1 => (b = true → Q true μ1) ∧ (b = false → B δ μ1 Q E)) E
def dNot (A : TDT) : TDT := fun δ μ Q E => A δ μ (fun b μ1 => Q (!b) μ1) E
def dAndV (A B : TD) : TD := fun δ μ Q E => A δ μ (fun x μ1 => ∃ b, x = .bl b ∧ (b = true → B δ μ1 Q E) ∧ (b = false → Q (.bl false) μ1)) E
def dOrV (A B : TD) : TD := fun δ μ Q E => A δ μ (fun x μ1 => ∃ b, x = .bl b ∧ (b = true → Q (.bl true) μ1) ∧ (b = false → B δ μ1 Q E)) E
def dNotV (A : TD) : TD := fun δ μ Q E => A δ μ (fun x μ1 => ∃ b, x = .bl b ∧ Q (.bl (!b)) μ1) E
def dIf (T : TDT) (A B : TD) : TD := fun δ μ Q E => T δ μ (fun b μ1 => (b = true → A δ μ1 Q E) ∧ (b = false → B δ μ1 Q E)) E
def dChain (f f' : DOp) (A B C : TD) : TD := fun δ μ Q E => A δ μ (fun x μ1 => B δ μ1 (fun y μ2 => f x y μ2 (fun z μ3 => ∃ b, z = .bl b ∧ (b = true → C δ μ3 (fun w μ4 => f' y w μ4 Q) E) ∧ (b = false → Q (.bl false) μ3))) E) E
/-- displays: new objects that no one changes, or a cell -/
def dTup (A : TDA) : TD := fun δ μ Q E => A δ μ (fun xs μ1 => xs.length ≤ sizeLine ∧ Q (.tup xs) μ1) E
def dLst (A : TDA) : TD := fun δ μ Q E => A δ μ (fun xs μ1 => xs.length ≤ sizeLine ∧ Q (.lst xs) μ1) E
def dLstC (A : TDA) : TD := fun δ μ Q E => A δ μ (fun xs μ1 => xs.length ≤ sizeLine ∧ Q (.cell μ1.length) (μ1 ++ [.lst xs])) E
/-- a cell is changed no more -/
def dFrz (A : TD) : TD := fun δ μ Q E => A δ μ (fun x μ1 => ∃ k, x = .cell k ∧ ((∃ xs, μ1[k]? = some (.lst xs) ∧ Q (.lst xs) (μ1.set k .dead)) ∨ (∃ tt ks vs, μ1[k]? = some (.dct tt ks vs) ∧ Q (.dct tt ks vs) (μ1.set k .dead)))) E

section
variable {X : Cx} {W : WX} {a b c e : Expr} {es : List Expr} {A B C : TD} {TA' : TDA} {S T : TDT} {pos : Pos}

theorem up_op {K : PySem.W.Frag} {r : R2} {f : DOp} (l : LOp K r f) : ∀ σ H Q, up K W (dOp f A B) σ H Q → tOp r (up K W A) (up K W B) σ H Q := by
  rintro σ H Q ⟨g, μ, δ, Q', E', at0, sl, h, k, kx⟩
  refine ⟨g, μ, δ, _, E', at0, sl, h, fun g1 H1 μ1 x v a1 e1 r1 q1 => ?_, kx⟩
  refine ⟨g1, μ1, δ, _, E', a1, sl.ext e1, q1, fun g2 H2 μ2 y w a2 e2 r2 q2 => ?_, fun g2 H2 μ2 C δ2 a2 e2 s2 q2 => kx g2 H2 μ2 C δ2 a2 (e1.trans e2) s2 q2⟩
  exact l g2 μ2 H2 x y v w Q' Q a2 (r1.ext e2) r2 q2 fun g3 H3 μ3 d u a3 e3 r3 q3 => k g3 H3 μ3 d u a3 (e1.trans (e2.trans e3)) r3 q3
theorem up_un {K : PySem.W.Frag} {r : V → Hp → VK → Prop} {f : DUn} (l : LUn K r f) : ∀ σ H Q, up K W (dUn f A) σ H Q → tUn r (up K W A) σ H Q := by
  rintro σ H Q ⟨g, μ, δ, Q', E', at0, sl, h, k, kx⟩
  refine ⟨g, μ, δ, _, E', at0, sl, h, fun g1 H1 μ1 x v a1 e1 r1 q1 => ?_, kx⟩
  exact l g1 μ1 H1 x v Q' Q a1 r1 q1 fun g3 H3 μ3 d u a3 e3 r3 q3 => k g3 H3 μ3 d u a3 (e1.trans e3) r3 q3
theorem up_cb {K : PySem.W.Frag} {r : List V → Hp → VK → Prop} {f : DCa} (l : LCa K r f) : ∀ σ H Q, up K W (dCB f TA') σ H Q → tCB r (upA K W TA') σ H Q := by
  rintro σ H Q ⟨g, μ, δ, Q', E', at0, sl, h, k, kx⟩
  refine ⟨g, μ, δ, _, E', at0, sl, h, fun g1 H1 μ1 x v a1 e1 r1 q1 => ?_, kx⟩
  exact l g1 μ1 H1 x v Q' Q a1 r1 q1 fun g3 H3 μ3 d u a3 e3 r3 q3 => k g3 H3 μ3 d u a3 (e1.trans e3) r3 q3
end
/-- the judgements -/
abbrev WX0 (X : Cx) (W : WX) (e : Expr) (A : TD) : Prop := PE X e (up X.K W A)
abbrev WT (X : Cx) (W : WX) (e : Expr) (A : TDT) : Prop := PT X e (upT X.K W A)
abbrev WA (X : Cx) (W : WX) (es : List Expr) (A : TDA) : Prop := PA X es (upA X.K W A)
structure BinD (X : Cx) (op : Operator) (f : DOp) : Prop where
  ex : ∃ r, OpR X (binaryOp op) r ∧ LOp X.K r f
structure CmpD (X : Cx) (op : CmpOp) (f : DOp) : Prop where
  ex : ∃ r, OpR X (compareOp op) r ∧ LOp X.K r f
structure CalD (X : Cx) (v : Value) (f : DCa) : Prop where
  ex : ∃ r, CallR X v r ∧ LCa X.K r f
section
variable {X : Cx} {W : WX} {a b c e : Expr} {es : List Expr} {A B C : TD} {TA' : TDA} {S T : TDT} {pos : Pos}
theorem we_bin {op : Operator} {f : DOp} (o : BinD X op f) (ha : WX0 X W a A) (hb : WX0 X W b B) : WX0 X W (.BinOp a op b pos) (dOp f A B) := by
  obtain ⟨r, h1, h2⟩ := o.ex
  exact PE.imp (pe_op h1 ha hb) (up_op h2)
theorem we_cmp {op : CmpOp} {f : DOp} (o : CmpD X op f) (ha : WX0 X W a A) (hb : WX0 X W b B) (hm : behindInMarks op b = false := by first | exact nobehind _ (by decide) (by decide) | rfl) : WX0 X W (.Compare a [op] [b] pos) (dOp f A B) := by
  obtain ⟨r, h1, h2⟩ := o.ex
  exact PE.imp (pe_cmpR h1 ha hb hm) (up_op h2)
theorem we_var (i : Nat) {x : Str} (hN : X.N[i]? = some x := by rfl) (hv : Vis X.env.scope x := by first | exact Or.inl rfl | exact Or.inr (Or.inl rfl) | exact Or.inr (Or.inr rfl)) (hd : (x == ("__debug__" : Str)) = false := by decide)
    (hcd : (x == ("__classdict__" : Str)) = false := by decide) : WX0 X W (.Name x pos) (dVar i) := by
  refine PE.imp (pe_var hN hv hd hcd) ?_
  rintro σ H Q ⟨g, μ, δ, Q', E', at0, sl, ⟨d, hd, h⟩, k, kx⟩
  obtain ⟨v, hv, r⟩ := sl.get i d hd
  exact ⟨v, hv, k g H μ d v at0 (Ext.refl _ _) r h⟩
theorem up_c {K : PySem.W.Frag} {d : D} {v : V} (r : ∀ F θ, Rep K F θ d v) : ∀ σ H Q, up K W (dC d) σ H Q → tC v σ H Q := by
  rintro σ H Q ⟨g, μ, δ, Q', E', at0, sl, h, k, kx⟩
  exact k g H μ d v at0 (Ext.refl _ _) (r _ _) h
theorem we_int {i j} : WX0 X W (.Constant (.int i) j pos) (dC (.int i)) := PE.imp pe_int (up_c fun _ _ => by unfold Rep; rfl)
theorem we_bl {b j} : WX0 X W (.Constant (.bool b) j pos) (dC (.bl b)) := PE.imp pe_bl (up_c fun _ _ => by unfold Rep; rfl)
theorem we_non {j} : WX0 X W (.Constant .none j pos) (dC .non) := PE.imp pe_non (up_c fun _ _ => by unfold Rep; rfl)
theorem mkS_of (x : Str) : mkS x.cps.toList = x := by cases x; rfl
theorem we_str {x : Str} {j} : WX0 X W (.Constant (.str x) j pos) (dC (.str x.cps.toList)) := PE.imp pe_str (up_c fun _ _ => by unfold Rep; rw [mkS_of])
/-- a constant of the module -/
theorem we_globI {x : Str} {i : Int} (hg : Gl X x) (hm : ∃ t, X.mg x = some (.int i t)) (hd : (x == ("__debug__" : Str)) = false := by decide) : WX0 X W (.Name x pos) (dC (.int i)) := let ⟨t, hm⟩ := hm; PE.imp (pe_glob (v := .int i) hg hm ⟨_, rfl⟩ hd) (up_c fun _ _ => by unfold Rep; rfl)
theorem we_globS {x y : Str} (hg : Gl X x) (hm : ∃ t, X.mg x = some (.str y t)) (hd : (x == ("__debug__" : Str)) = false := by decide) : WX0 X W (.Name x pos) (dC (.str y.cps.toList)) := let ⟨t, hm⟩ := hm; PE.imp (pe_glob (v := .str y) hg hm ⟨_, rfl⟩ hd) (up_c fun _ _ => by unfold Rep; rw [mkS_of])
/-! #### truth -/
theorem wt_val (h : WX0 X W e A) (he : ∀ whole, isTrue e X.env whole = (do let v ← whole; standAt e.pos; holding [v] (truthy v)) := by intro _; rfl) : WT X W e (dTest A) := by
  refine PT.imp (pt_val h he) ?_
  rintro σ H Q ⟨g, μ, δ, Q', E', at0, sl, h, k, kx⟩
  refine ⟨g, μ, δ, _, E', at0, sl, h, fun g1 H1 μ1 x v a1 e1 r1 ⟨b, hb, q1⟩ => ?_, kx⟩
  subst hb
  unfold Rep at r1
  exact ⟨b, r1, k g1 H1 μ1 b a1 e1 q1⟩
/-- comparisons as tests -/
theorem wt_cmp {op : CmpOp} {f : DOp} (o : CmpD X op f) (ha : WX0 X W a A) (hb : WX0 X W b B) (hm : behindInMarks op b = false := by first | exact nobehind _ (by decide) (by decide) | rfl) : WT X W (.Compare a [op] [b] pos) (dTest (dOp f A B)) := by
  obtain ⟨r, h1, h2⟩ := o.ex
  refine PT.imp (pt_cmpR h1 ha hb hm) ?_
  rintro σ H Q ⟨g, μ, δ, Q', E', at0, sl, h, k, kx⟩
  refine up_op (W := W) h2 σ H _ ⟨g, μ, δ, _, E', at0, sl, h, fun g1 H1 μ1 x v a1 e1 r1 ⟨b, hb, q1⟩ => ?_, kx⟩
  subst hb
  unfold Rep at r1
  exact ⟨b, r1, k g1 H1 μ1 b a1 e1 q1⟩
abbrev WW (X : Cx) (W : WX) (e : Expr) (A : TDT) : Prop := PW X e (upT X.K W A)
theorem ww_and1 (h : WT X W a S) : WW X W (.BoolOp .And [a] pos) S := pw_and1 h
theorem ww_or1 (h : WT X W a S) : WW X W (.BoolOp .Or [a] pos) S := pw_or1 h
theorem ww_and {rest : List Expr} (ha : WT X W a S) (hb : WW X W (.BoolOp .And (b :: rest) pos) T) : WW X W (.BoolOp .And (a :: b :: rest) pos) (dAnd S T) := by
  refine PW.imp (pw_and ha hb) ?_
  rintro σ H Q ⟨g, μ, δ, Q', E', at0, sl, h, k, kx⟩
  refine ⟨g, μ, δ, _, E', at0, sl, h, fun g1 H1 μ1 b a1 e1 q1 => ?_, kx⟩
  cases b with
  | true =>
    rw [if_pos rfl]
    exact ⟨g1, μ1, δ, Q', E', a1, sl.ext e1, q1.1 rfl, fun g2 H2 μ2 b a2 e2 q2 => k g2 H2 μ2 b a2 (e1.trans e2) q2, fun g2 H2 μ2 C δ2 a2 e2 s2 q2 => kx g2 H2 μ2 C δ2 a2 (e1.trans e2) s2 q2⟩
  | false =>
    rw [if_neg Bool.false_ne_true]
    exact k g1 H1 μ1 false a1 e1 (q1.2 rfl)
theorem ww_or {rest : List Expr} (ha : WT X W a S) (hb : WW X W (.BoolOp .Or (b :: rest) pos) T) : WW X W (.BoolOp .Or (a :: b :: rest) pos) (dOr S T) := by
  refine PW.imp (pw_or ha hb) ?_
  rintro σ H Q ⟨g, μ, δ, Q', E', at0, sl, h, k, kx⟩
  refine ⟨g, μ, δ, _, E', at0, sl, h, fun g1 H1 μ1 b a1 e1 q1 => ?_, kx⟩
  cases b with
  | false =>
    rw [if_neg Bool.false_ne_true]
    exact ⟨g1, μ1, δ, Q', E', a1, sl.ext e1, q1.2 rfl, fun g2 H2 μ2 b a2 e2 q2 => k g2 H2 μ2 b a2 (e1.trans e2) q2, fun g2 H2 μ2 C δ2 a2 e2 s2 q2 => kx g2 H2 μ2 C δ2 a2 (e1.trans e2) s2 q2⟩
  | true =>
    rw [if_pos rfl]
    exact k g1 H1 μ1 true a1 e1 (q1.1 rfl)
theorem wt_bool (h : WW X W e S) : WT X W e S := h.pt
theorem wt_not (ha : WT X W a S) : WT X W (.UnaryOp .Not a pos) (dNot S) := by
  refine PT.imp (pt_not ha) ?_
  rintro σ H Q ⟨g, μ, δ, Q', E', at0, sl, h, k, kx⟩
  exact ⟨g, μ, δ, _, E', at0, sl, h, fun g1 H1 μ1 b a1 e1 q1 => k g1 H1 μ1 (!b) a1 e1 q1, kx⟩
theorem we_and1 {op} (h : WX0 X W a A) : WX0 X W (.BoolOp op [a] pos) A := pe_one h
theorem rep_bl {K : PySem.W.Frag} {F : Hp} {θ : List Addr} {b : Bool} : Rep K F θ (.bl b) (.bl b) := by unfold Rep; rfl
theorem we_and {rest : List Expr} (ha : WX0 X W a A) (hb : WX0 X W (.BoolOp .And (b :: rest) pos) B) : WX0 X W (.BoolOp .And (a :: b :: rest) pos) (dAndV A B) := by
  refine PE.imp (pe_and ha hb) ?_
  rintro σ H Q ⟨g, μ, δ, Q', E', at0, sl, h, k, kx⟩
  refine ⟨g, μ, δ, _, E', at0, sl, h, fun g1 H1 μ1 x v a1 e1 r1 ⟨b, hb, q1⟩ => ?_, kx⟩
  subst hb
  unfold Rep at r1
  refine ⟨b, r1, ?_⟩
  cases b with
  | true =>
    rw [if_pos rfl]
    exact ⟨g1, μ1, δ, Q', E', a1, sl.ext e1, q1.1 rfl, fun g2 H2 μ2 d v a2 e2 r2 q2 => k g2 H2 μ2 d v a2 (e1.trans e2) r2 q2, fun g2 H2 μ2 C δ2 a2 e2 s2 q2 => kx g2 H2 μ2 C δ2 a2 (e1.trans e2) s2 q2⟩
  | false =>
    rw [if_neg Bool.false_ne_true]
    exact k g1 H1 μ1 _ _ a1 e1 rep_bl (q1.2 rfl)
theorem we_if {t : Expr} (ht : WT X W t S) (ha : WX0 X W a A) (hb : WX0 X W b B) : WX0 X W (.IfExp t a b pos) (dIf S A B) := by
  refine PE.imp (pe_ifExp ht ha hb) ?_
  rintro σ H Q ⟨g, μ, δ, Q', E', at0, sl, h, k, kx⟩
  refine ⟨g, μ, δ, _, E', at0, sl, h, fun g1 H1 μ1 b a1 e1 q1 => ?_, kx⟩
  cases b with
  | true =>
    rw [if_pos rfl]
    exact ⟨g1, μ1, δ, Q', E', a1, sl.ext e1, q1.1 rfl, fun g2 H2 μ2 d v a2 e2 r2 q2 => k g2 H2 μ2 d v a2 (e1.trans e2) r2 q2, fun g2 H2 μ2 C δ2 a2 e2 s2 q2 => kx g2 H2 μ2 C δ2 a2 (e1.trans e2) s2 q2⟩
  | false =>
    rw [if_neg Bool.false_ne_true]
    exact ⟨g1, μ1, δ, Q', E', a1, sl.ext e1, q1.2 rfl, fun g2 H2 μ2 d v a2 e2 r2 q2 => k g2 H2 μ2 d v a2 (e1.trans e2) r2 q2, fun g2 H2 μ2 C δ2 a2 e2 s2 q2 => kx g2 H2 μ2 C δ2 a2 (e1.trans e2) s2 q2⟩
def nonD : D → Option Bool
  | .non => some true
  | .val _ => none
  | _ => some false
theorem rep_isnon {K : PySem.W.Frag} {F : Hp} {θ : List Addr} {x : D} {v : V} {b : Bool} (hx : nonD x = some b) (r : Rep K F θ x v) : decide (v = .non) = b := by
  cases x <;> unfold Rep at r <;> simp only [nonD, Option.some.injEq] at hx
  case non => subst r; subst hx; rfl
  case bl => subst r; subst hx; rfl
  case int => subst r; subst hx; rfl
  case str => subst r; subst hx; rfl
  case tup => obtain ⟨p, vs, e, _⟩ := r; subst e; subst hx; rfl
  case lst => obtain ⟨p, vs, e, _⟩ := r; subst e; subst hx; rfl
  case dct => obtain ⟨p, vs, e, _⟩ := r; subst e; subst hx; rfl
  case dcn => obtain ⟨p, vs, bs, e, _⟩ := r; subst e; subst hx; rfl
  case cell => obtain ⟨p, e, _⟩ := r; subst e; subst hx; rfl
  case scr => obtain ⟨p, vs, e, _⟩ := r; subst e; subst hx; rfl
  case val u => cases hx
  case exc => obtain ⟨p, e, _⟩ := r; subst e; subst hx; rfl
def dIsN (A : TD) : TD := fun δ μ Q E => A δ μ (fun x μ1 => ∃ b, nonD x = some b ∧ Q (.bl b) μ1) E
def dNotN (A : TD) : TD := fun δ μ Q E => A δ μ (fun x μ1 => ∃ b, nonD x = some b ∧ Q (.bl (!b)) μ1) E
/-! #### arguments, displays -/
theorem wa_nil : WA X W [] dNil := by
  refine PA.imp pa_nil ?_
  rintro σ H Q ⟨g, μ, δ, Q', E', at0, sl, h, k, kx⟩
  exact k g H μ [] [] at0 (Ext.refl _ _) Reps.nil h
theorem wa_cons (ha : WX0 X W e A) (hr : WA X W es TA') (hs : starEach (e :: es) X.env = (false, eval e X.env) :: starEach es X.env := by rfl) : WA X W (e :: es) (dCons A TA') := by
  refine PA.imp (pa_cons ha hr hs) ?_
  rintro σ H Q ⟨g, μ, δ, Q', E', at0, sl, h, k, kx⟩
  refine ⟨g, μ, δ, _, E', at0, sl, h, fun g1 H1 μ1 x v a1 e1 r1 q1 => ?_, kx⟩
  exact ⟨g1, μ1, δ, _, E', a1, sl.ext e1, q1, fun g2 H2 μ2 ds vs a2 e2 r2 q2 => k g2 H2 μ2 _ _ a2 (e1.trans e2) (Reps.cons (r1.ext e2) r2) q2, fun g2 H2 μ2 C δ2 a2 e2 s2 q2 => kx g2 H2 μ2 C δ2 a2 (e1.trans e2) s2 q2⟩
theorem we_tup {x1} (h : WA X W es TA') : WX0 X W (.Tuple es x1 pos) (dTup TA') := by
  refine PE.imp (pe_tup h) ?_
  rintro σ H Q ⟨g, μ, δ, Q', E', at0, sl, h, k, kx⟩
  refine ⟨g, μ, δ, _, E', at0, sl, h, fun g1 H1 μ1 x v a1 e1 r1 ⟨hl, q1⟩ => ⟨by rw [← r1.length]; exact hl, fun p hp => ?_⟩, kx⟩
  obtain ⟨g2, a2, e2, r2⟩ := a1.newTup hp r1
  exact k g2 _ μ1 _ _ a2 (e1.trans e2) r2 q1
theorem we_lst (h : WA X W es TA') : WX0 X W (.List es pos) (dLst TA') := by
  refine PE.imp (pe_lst h) ?_
  rintro σ H Q ⟨g, μ, δ, Q', E', at0, sl, h, k, kx⟩
  refine ⟨g, μ, δ, _, E', at0, sl, h, fun g1 H1 μ1 x v a1 e1 r1 ⟨hl, q1⟩ => ⟨by rw [← r1.length]; exact hl, fun p hp => ?_⟩, kx⟩
  obtain ⟨g2, a2, e2, r2⟩ := a1.newLst hp r1
  exact k g2 _ μ1 _ _ a2 (e1.trans e2) r2 q1
theorem we_lstC (h : WA X W es TA') : WX0 X W (.List es pos) (dLstC TA') := by
  refine PE.imp (pe_lst h) ?_
  rintro σ H Q ⟨g, μ, δ, Q', E', at0, sl, h, k, kx⟩
  refine ⟨g, μ, δ, _, E', at0, sl, h, fun g1 H1 μ1 x v a1 e1 r1 ⟨hl, q1⟩ => ⟨by rw [← r1.length]; exact hl, fun p hp => ?_⟩, kx⟩
  obtain ⟨g2, a2, e2, r2⟩ := a1.newCL hp r1
  exact k g2 _ _ _ _ a2 (e1.trans e2) r2 q1
theorem pe_gl {t : TE} (h : PE X e t) : PE X e (fun σ H Q => t σ H fun v H1 => Q v H1 ∨ ∃ d u, H1 d = some u ∧ Mut (some u) ∧ ∀ od, Q v (upd H1 d (.frz od u))) := by
  refine ⟨fun pins s σ H Q I q => thn (h.run pins s σ H _ I q) fun v s1 z => ?_⟩
  obtain ⟨x, H1, I1, r, q⟩ := z
  rcases q with q | ⟨d, u, hd, mu, q⟩
  · exact ⟨x, H1, I1, r, q⟩
  · obtain ⟨od, I2⟩ := I1.lock hd mu
    exact ⟨x, _, I2, r, q od⟩
theorem frz_dct {g1 : Wd} {μ1 : Mu} {H1 : Hp} {n : Nat} {v : V} {tt : Bool} {ks vs : List D} (a1 : At X.K g1 μ1 H1) (hx : μ1[n]? = some (.dct tt ks vs)) (r1 : Rep X.K g1.F g1.th (.cell n) v) :
    ∃ d u, H1 d = some u ∧ Mut (some u) ∧ ∀ od, ∃ g2, At X.K g2 (μ1.set n .dead) (upd H1 d (.frz od u)) ∧ Ext g1 H1 g2 (upd H1 d (.frz od u)) ∧ Rep X.K g2.F g2.th (.dct tt ks vs) v := by
  obtain ⟨p, ev, hp, hF, ws, rw', hl, hH⟩ := a1.cellAt hx (by simp) r1
  subst ev
  rcases hH with ⟨kk, ek, hH⟩ | ⟨kk, ek, hH⟩
  · refine ⟨p, _, hH, trivial, fun od => ?_⟩
    obtain ⟨a2, e2⟩ := a1.frzL (ho := .frz od (.dK (kk.zip ws))) hx (by simp) hp
    refine ⟨_, a2, e2, ?_⟩
    unfold Rep
    exact ⟨p, ws, rfl, rw'.ext e2, hl, .inl ⟨kk, ek, od, upd_same⟩⟩
  · refine ⟨p, _, hH, trivial, fun od => ?_⟩
    obtain ⟨a2, e2⟩ := a1.frzL (ho := .frz od (.dT (kk.zip ws))) hx (by simp) hp
    refine ⟨_, a2, e2, ?_⟩
    unfold Rep
    exact ⟨p, ws, rfl, rw'.ext e2, hl, .inr ⟨kk, ek, od, upd_same⟩⟩
theorem frz_dcn {g1 : Wd} {μ1 : Mu} {H1 : Hp} {n : Nat} {v : V} {w : World} {kk : List NestedKey} {vs : List D} (a1 : At X.K g1 μ1 H1) (hx : μ1[n]? = some (.dcn w kk vs)) (r1 : Rep X.K g1.F g1.th (.cell n) v) :
    ∃ d u, H1 d = some u ∧ Mut (some u) ∧ ∀ od, ∃ g2, At X.K g2 (μ1.set n .dead) (upd H1 d (.frz od u)) ∧ Ext g1 H1 g2 (upd H1 d (.frz od u)) ∧ Rep X.K g2.F g2.th (.dcn w kk vs) v := by
  obtain ⟨p, ev, hp, hF, ws, bs, hH, rw', hl, nk⟩ := a1.cellAt hx (by simp) r1
  subst ev
  refine ⟨p, _, hH, trivial, fun od => ?_⟩
  obtain ⟨a2, e2⟩ := a1.frzL (ho := .frz od (NkO w p (nents kk bs ws))) hx (by simp) hp
  refine ⟨_, a2, e2, ?_⟩
  unfold Rep
  exact ⟨p, ws, bs, rfl, rw'.ext e2, hl, NKs.mono e2.F _ _ nk, od, upd_same⟩
/-- a dict of such keys is changed no more -/
def dFrzN (A : TD) : TD := fun δ μ Q E => A δ μ (fun x μ1 => ∃ n w kk vs, x = .cell n ∧ μ1[n]? = some (.dcn w kk vs) ∧ Q (.dcn w kk vs) (μ1.set n .dead)) E
theorem we_frzN (h : WX0 X W e A) : WX0 X W e (dFrzN A) := by
  refine PE.imp (pe_gl h) ?_
  rintro σ H Q ⟨g, μ, δ, Q', E', at0, sl, h, k, kx⟩
  refine ⟨g, μ, δ, _, E', at0, sl, h, fun g1 H1 μ1 x v a1 e1 r1 ⟨n, w, kk, vs, hn, hx, q1⟩ => ?_, kx⟩
  subst hn
  obtain ⟨d, u, hd, mu, z⟩ := frz_dcn a1 hx r1
  refine .inr ⟨d, u, hd, mu, fun od => ?_⟩
  obtain ⟨g2, a2, e2, r2⟩ := z od
  exact k _ _ _ _ _ a2 (e1.trans e2) r2 q1
theorem we_frz (h : WX0 X W e A) : WX0 X W e (dFrz A) := by
  refine PE.imp (pe_gl h) ?_
  rintro σ H Q ⟨g, μ, δ, Q', E', at0, sl, h, k, kx⟩
  refine ⟨g, μ, δ, _, E', at0, sl, h, fun g1 H1 μ1 x v a1 e1 r1 ⟨n, hn, q1⟩ => ?_, kx⟩
  subst hn
  rcases q1 with ⟨xs, hx, q1⟩ | ⟨tt, ks, vs, hx, q1⟩
  · obtain ⟨p, ev, hp, hF, ws, hH, rw'⟩ := a1.cellAt hx (by simp) r1
    subst ev
    obtain ⟨a2, e2⟩ := a1.frz hx (by simp) hp hH
    refine .inl (k _ _ _ _ _ a2 (e1.trans e2) ?_ q1)
    unfold Rep
    exact ⟨p, ws, rfl, upd_same, rw'.ext e2⟩
  · obtain ⟨d, u, hd, mu, z⟩ := frz_dct a1 hx r1
    refine .inr ⟨d, u, hd, mu, fun od => ?_⟩
    obtain ⟨g2, a2, e2, r2⟩ := z od
    exact k _ _ _ _ _ a2 (e1.trans e2) r2 q1
theorem we_callB {x : Str} {p : Pos} {id : String} {f : DCa} (c : CalD X (.builtin id) f) (hg : Gl X x) (hm : X.mg x = none) (hv : bootBuiltins x = some (.builtin id)) (ha : WA X W (e :: es) TA') (hn : x ≠ "__name__" := by decide) (hdb : (x == ("__debug__" : Str)) = false := by decide)
    (he : starEach (e :: es) X.env = (false, eval e X.env) :: starEach es X.env := by rfl) (hpl : (backTo pos (starEach es X.env)).any (·.1) = false := by rfl) : WX0 X W (.Call (.Name x p) (e :: es) [] pos) (dCB f TA') := by
  obtain ⟨r, h1, h2⟩ := c.ex
  exact PE.imp (pe_callB h1 hg hm hv ha hn hdb he hpl) (up_cb h2)
theorem we_callTy {x : Str} {p : Pos} {T : String} {f : DCa} (c : CalD X (.type T) f) (hg : Gl X x) (hm : X.mg x = none) (hv : bootBuiltins x = some (.type T)) (ha : WA X W (e :: es) TA') (hn : x ≠ "__name__" := by decide) (hdb : (x == ("__debug__" : Str)) = false := by decide)
    (he : starEach (e :: es) X.env = (false, eval e X.env) :: starEach es X.env := by rfl) (hpl : (backTo pos (starEach es X.env)).any (·.1) = false := by rfl) : WX0 X W (.Call (.Name x p) (e :: es) [] pos) (dCB f TA') := by
  obtain ⟨r, h1, h2⟩ := c.ex
  exact PE.imp (pe_callTy h1 hg hm hv ha hn hdb he hpl) (up_cb h2)
end
end SW

end

section
set_option Elab.async false
set_option linter.all false
set_option maxRecDepth 100000
namespace SW
open PySem L2 PyProof.Rows

/-! ### statements -/
abbrev WS (X : Cx) (W : WX) (st : Stmt) (A : TDS) : Prop := PS X st (upS X.K W A)
abbrev WSs (X : Cx) (W : WX) (st : List Stmt) (A : TDS) : Prop := PSs X st (upS X.K W A)
def dNext : TDS := fun D δ μ => D.nx δ μ
def dSeq (A B : TDS) : TDS := fun D δ μ => A { D with nx := fun δ' μ' => B D δ' μ' } δ μ
def dDrop (A : TD) : TDS := fun D δ μ => A δ μ (fun _ μ1 => D.nx δ μ1) D.ex
def dRet (A : TD) : TDS := fun D δ μ => A δ μ D.rt D.ex
def dRetN : TDS := fun D _ μ => D.rt .non μ
def dBrk : TDS := fun D δ μ => D.bk δ μ
def dCnt : TDS := fun D δ μ => D.ct δ μ
def dIfS (T : TDT) (A B : TDS) : TDS := fun D δ μ => T δ μ (fun b μ1 => (b = true → A D δ μ1) ∧ (b = false → B D δ μ1)) D.ex

section
variable {X : Cx} {W : WX} {e : Expr} {st : Stmt} {rest : List Stmt} {A B : TDS} {E1 : TD} {T : TDT} {pos : Pos}
theorem ws_nil : WSs X W [] dNext := by
  refine PSs.imp pss_nil ?_
  rintro D σ H ⟨g, μ, δ, D', a0, sl, h, k1, k2, k3, k4, k5⟩
  exact k1 g H μ δ σ a0 (Ext.refl _ _) sl h
theorem ws_cons (h1 : WS X W st A) (h2 : WSs X W rest B) : WSs X W (st :: rest) (dSeq A B) := by
  refine PSs.imp (pss_cons h1 h2) ?_
  rintro D σ H ⟨g, μ, δ, D', a0, sl, h, k1, k2, k3, k4, k5⟩
  refine ⟨g, μ, δ, _, a0, sl, h, fun g1 H1 μ1 δ1 σ1 a1 e1 s1 q => ?_, k2, k3, k4, k5⟩
  exact ⟨g1, μ1, δ1, D', a1, s1, q, fun g' H' μ' δ' σ' a e s q => k1 g' H' μ' δ' σ' a (e1.trans e) s q, fun g' H' μ' d v a e r q => k2 g' H' μ' d v a (e1.trans e) r q, fun g' H' μ' δ' σ' a e s q => k3 g' H' μ' δ' σ' a (e1.trans e) s q,
    fun g' H' μ' δ' σ' a e s q => k4 g' H' μ' δ' σ' a (e1.trans e) s q, fun g' H' μ' C δ' σ' a e s q => k5 g' H' μ' C δ' σ' a (e1.trans e) s q⟩
theorem ws_one (h1 : WS X W st A) : WSs X W [st] A := pss_one h1
theorem ws_drop (he : WX0 X W e E1) (hs : swapsWith e none pos.line X.env = pure false := by rfl) : WS X W (.Expr e pos) (dDrop E1) := by
  refine PS.imp (ps_expr he hs) ?_
  rintro D σ H ⟨g, μ, δ, D', a0, sl, h, k1, k2, k3, k4, k5⟩
  exact ⟨g, μ, δ, _, _, a0, sl, h, fun g1 H1 μ1 d v a1 e1 r1 q => k1 g1 H1 μ1 δ σ a1 e1 (sl.ext e1) q, fun g1 H1 μ1 C δ' a1 e1 s1 q => k5 g1 H1 μ1 C δ' σ a1 e1 s1 q⟩
theorem ws_ret (he : WX0 X W e E1) : WS X W (.Return (some e) pos) (dRet E1) := by
  refine PS.imp (ps_ret he) ?_
  rintro D σ H ⟨g, μ, δ, D', a0, sl, h, k1, k2, k3, k4, k5⟩
  exact ⟨g, μ, δ, _, _, a0, sl, h, fun g1 H1 μ1 d v a1 e1 r1 q => k2 g1 H1 μ1 d v a1 e1 r1 q, fun g1 H1 μ1 C δ' a1 e1 s1 q => k5 g1 H1 μ1 C δ' σ a1 e1 s1 q⟩
theorem ws_if {c : Expr} {xs ys : List Stmt} (hc : WT X W c T) (ha : WSs X W xs A) (hb : WSs X W ys B) : WS X W (.If c xs ys pos) (dIfS T A B) := by
  refine PS.imp (ps_if hc ha hb) ?_
  rintro D σ H ⟨g, μ, δ, D', a0, sl, h, k1, k2, k3, k4, k5⟩
  refine ⟨g, μ, δ, _, _, a0, sl, h, fun g1 H1 μ1 b a1 e1 q => ?_, fun g1 H1 μ1 C δ' a1 e1 s1 q => k5 g1 H1 μ1 C δ' σ a1 e1 s1 q⟩
  have go : ∀ A : TDS, A D' δ μ1 → upS X.K W A D σ H1 := fun A q =>
    ⟨g1, μ1, δ, D', a1, sl.ext e1, q, fun g' H' μ' δ' σ' a e s q => k1 g' H' μ' δ' σ' a (e1.trans e) s q, fun g' H' μ' d v a e r q => k2 g' H' μ' d v a (e1.trans e) r q, fun g' H' μ' δ' σ' a e s q => k3 g' H' μ' δ' σ' a (e1.trans e) s q,
      fun g' H' μ' δ' σ' a e s q => k4 g' H' μ' δ' σ' a (e1.trans e) s q, fun g' H' μ' C δ' σ' a e s q => k5 g' H' μ' C δ' σ' a (e1.trans e) s q⟩
  cases b with
  | true => refine iteT ?_; exact go A (q.1 rfl)
  | false => refine iteF ?_; exact go B (q.2 rfl)
end

/-! ### targets -/
abbrev TGD := D → DS → Mu → (DS → Mu → Prop) → Prop
abbrev TGDs := List D → DS → Mu → (DS → Mu → Prop) → Prop
def upG (K : PySem.W.Frag) (is : List Nat) (A : TGD) : TG := fun v σ H Q => ∃ (g : Wd) (μ : Mu) (δ : DS) (d : D) (Q' : DS → Mu → Prop), At K g μ H ∧ Sl K g σ δ ∧ Rep K g.F g.th d v ∧ A d δ μ Q' ∧
  ∀ g' H' μ' δ' σ', At K g' μ' H' → Ext g H g' H' → Sl K g' σ' δ' → (∀ vs : List Nat, (∀ i ∈ is, i ∈ vs) → wipe σ' vs = wipe σ vs) → Q' δ' μ' → Q σ' H'
def upGs (K : PySem.W.Frag) (is : List Nat) (A : TGDs) : TGs := fun vs σ H Q => ∃ (g : Wd) (μ : Mu) (δ : DS) (ds : List D) (Q' : DS → Mu → Prop), At K g μ H ∧ Sl K g σ δ ∧ Reps K g.F g.th ds vs ∧ A ds δ μ Q' ∧
  ∀ g' H' μ' δ' σ', At K g' μ' H' → Ext g H g' H' → Sl K g' σ' δ' → (∀ vs : List Nat, (∀ i ∈ is, i ∈ vs) → wipe σ' vs = wipe σ vs) → Q' δ' μ' → Q σ' H'
abbrev WG (X : Cx) (tg : Expr) (is : List Nat) (A : TGD) : Prop := PG X tg (upG X.K is A)
abbrev WGs (X : Cx) (tgs : List Expr) (is : List Nat) (A : TGDs) : Prop := PGs X tgs (upGs X.K is A)
theorem PG.imp {X : Cx} {e : Expr} {t t' : TG} (h : PG X e t) (i : ∀ v σ H Q, t' v σ H Q → t v σ H Q) : PG X e t' := ⟨fun pins s σ H v u Q I r q => h.run pins s σ H v u Q I r (i _ _ _ _ q)⟩
theorem PGs.imp {X : Cx} {e : List Expr} {t t' : TGs} (h : PGs X e t) (i : ∀ v σ H Q, t' v σ H Q → t v σ H Q) : PGs X e t' := ⟨fun pins s σ H v u Q I r q => h.run pins s σ H v u Q I r (i _ _ _ _ q)⟩
theorem PG.or {X : Cx} {e : Expr} {t t' : TG} (h : PG X e t) (h' : PG X e t') : PG X e (fun v σ H Q => t v σ H Q ∨ t' v σ H Q) := ⟨fun pins s σ H v u Q I r q => q.elim (h.run pins s σ H v u Q I r) (h'.run pins s σ H v u Q I r)⟩
def gdName (i : Nat) : TGD := fun d δ μ Q => Q (δ.set i (some d)) μ
def gdNil : TGDs := fun ds δ μ Q => ds = [] ∧ Q δ μ
def gdCons (A : TGD) (B : TGDs) : TGDs := fun ds δ μ Q => ∃ d r, ds = d :: r ∧ A d δ μ (fun δ' μ' => B r δ' μ' Q)
def gdTup (n : Nat) (A : TGDs) : TGD := fun d δ μ Q => ∃ ds, (d = .tup ds ∨ d = .lst ds) ∧ ds.length = n ∧ A ds δ μ Q
theorem wipe_get {σ : L2.St} {j : Nat} : ∀ {vs : List Nat}, j < σ.length → (wipe σ vs)[j]? = if j ∈ vs then some none else σ[j]?
  | [], h => by simp [wipe]
  | v :: vs, h => by
    unfold wipe
    by_cases e : v = j
    · subst e
      rw [List.getElem?_set_self (by rw [wipe_length]; exact h), if_pos List.mem_cons_self]
    · rw [List.getElem?_set_ne e, wipe_get h]
      have : (j ∈ v :: vs) ↔ j ∈ vs := by simp [Ne.symm e]
      by_cases q : j ∈ vs
      · rw [if_pos q, if_pos (this.mpr q)]
      · rw [if_neg q, if_neg (fun z => q (this.mp z))]
theorem wipe_set {σ : L2.St} {i : Nat} {x : Option V} {vs : List Nat} (h : i ∈ vs) : wipe (σ.set i x) vs = wipe σ vs := by
  apply List.ext_getElem?
  intro j
  by_cases hj : j < σ.length
  · rw [wipe_get (by simpa using hj), wipe_get hj]
    by_cases e : i = j
    · subst e
      rw [if_pos h, if_pos h]
    · rw [List.getElem?_set_ne e]
  · rw [List.getElem?_eq_none (by rw [wipe_length]; simpa using hj), List.getElem?_eq_none (by rw [wipe_length]; simpa using hj)]
section
variable {X : Cx} {W : WX} {e : Expr} {pos : Pos} {E1 : TD}
theorem wg_name (i : Nat) {x : Str} (hN : X.N.Nodup) (hi : X.N[i]? = some x := by rfl) (hx : Loc X.env.scope x := by first | exact Or.inl rfl | exact Or.inr rfl) (hf : X.fn x = true ∨ X.env.scope.names.lookup x = some .local := by first | exact .inl rfl | exact .inr rfl | assumption) : WG X (.Name x pos) [i] (gdName i) := by
  refine PG.imp (pg_name hN hi hx hf) ?_
  rintro v σ H Q ⟨g, μ, δ, d, Q', a0, sl, r, h, k⟩
  exact k g H μ _ _ a0 (Ext.refl _ _) (sl.set r) (fun vs hv => wipe_set (hv i (by simp))) h
theorem wgs_nil : WGs X [] [] gdNil := by
  refine PGs.imp pgs_nil ?_
  rintro v σ H Q ⟨g, μ, δ, d, Q', a0, sl, r, ⟨h0, h⟩, k⟩
  subst h0
  unfold Reps at r
  exact ⟨r, k g H μ _ _ a0 (Ext.refl _ _) sl (fun vs hv => rfl) h⟩
theorem wgs_cons {es : List Expr} {is js : List Nat} {A : TGD} {B : TGDs} (h1 : WG X e is A) (h2 : WGs X es js B)
    (hs : (assignEach (e :: es) X.env).map (·.2) = assign e X.env :: (assignEach es X.env).map (·.2) := by rfl) : WGs X (e :: es) (is ++ js) (gdCons A B) := by
  refine PGs.imp (pgs_cons h1 h2 hs) ?_
  rintro v σ H Q ⟨g, μ, δ, d, Q', a0, sl, r, ⟨x, rr, h0, h⟩, k⟩
  subst h0
  unfold Reps at r
  obtain ⟨v1, vr, e1, r1, r2⟩ := r
  refine ⟨v1, vr, e1, g, μ, δ, x, _, a0, sl, r1, h, fun g1 H1 μ1 δ1 σ1 a1 x1 s1 w1 q1 => ?_⟩
  exact ⟨g1, μ1, δ1, rr, Q', a1, s1, r2.ext x1, q1, fun g2 H2 μ2 δ2 σ2 a2 x2 s2 w2 q2 => k g2 H2 μ2 δ2 σ2 a2 (x1.trans x2) s2 (fun vs hv => (w2 vs fun i hi => hv i (List.mem_append_right _ hi)).trans (w1 vs fun i hi => hv i (List.mem_append_left _ hi))) q2⟩
theorem wg_tup {es : List Expr} {kk : Nat} {is : List Nat} {A : TGDs} {n : Nat} (h : WGs X es is A) (hc : X.calm = true := by rfl)
    (hn : (assignEach es X.env).length = n := by rfl) (hst : (assignEach es X.env).findIdx? (·.1) = none := by rfl) : WG X (.Tuple es kk pos) is (gdTup n A) := by
  refine PG.imp (PG.or (pg_tup hc h hn hst) (pg_lst hc h hn hst)) ?_
  rintro v σ H Q ⟨g, μ, δ, d, Q', a0, sl, r, ⟨ds, hd, hl, h⟩, k⟩
  rcases hd with hd | hd
  · subst hd
    unfold Rep at r
    obtain ⟨p, vs, e1, q, rr⟩ := r
    exact .inl ⟨p, vs, e1, SqT.of (a0.sub _ _ q), by rw [← rr.length]; exact hl, g, μ, δ, ds, Q', a0, sl, rr, h, k⟩
  · subst hd
    unfold Rep at r
    obtain ⟨p, vs, e1, q, rr⟩ := r
    exact .inr ⟨p, vs, e1, SqL.of (a0.sub _ _ q), by rw [← rr.length]; exact hl, g, μ, δ, ds, Q', a0, sl, rr, h, k⟩
/-- o[i] = v, by data -/
abbrev DSet := D → D → D → Mu → (Mu → Prop) → Prop
structure SetD (X : Cx) (f : DSet) : Prop where
  ex : ∃ t, PSet X t ∧ ∀ g μ H o i v a b c Q' (Q : Hp → Prop), At X.K g μ H → Rep X.K g.F g.th o a → Rep X.K g.F g.th i b → Rep X.K g.F g.th v c → f o i v μ Q' → (∀ g' H' μ', At X.K g' μ' H' → Ext g H g' H' → Q' μ' → Q H') → t a b c H Q
def gdSub (A B : TD) (f : DSet) : TGD := fun d δ μ Q => A δ μ (fun o μ1 => B δ μ1 (fun i μ2 => f o i d μ2 (fun μ3 => Q δ μ3)) (fun _ _ _ => False)) (fun _ _ _ => False)
theorem wg_sub {o i : Expr} {A B : TD} {f : DSet} (hs : SetD X f) (ho : WX0 X (fun _ _ _ _ => False) o A) (hi : WX0 X (fun _ _ _ _ => False) i B)
    (ha : ∀ v, assign (.Subscript o i pos) X.env v = (do
      let ov ← holding [v] (eval o X.env)
      let iv ← holding [v, ov] (eval i X.env)
      standAt pos
      holding [v, ov, iv] (setItem ov iv v)
      release [v, ov, iv] []) := by intro _; rfl) : WG X (.Subscript o i pos) [] (gdSub A B f) := by
  obtain ⟨t, h1, h2⟩ := hs.ex
  refine PG.imp (pg_sub ho hi h1 ha) ?_
  rintro v σ H Q ⟨g, μ, δ, d, Q', a0, sl, r, h, k⟩
  refine ⟨g, μ, δ, _, _, a0, sl, h, fun g1 H1 μ1 x y a1 e1 r1 q1 => ?_, fun _ _ _ _ _ _ _ _ z => z.elim⟩
  refine ⟨g1, μ1, δ, _, _, a1, sl.ext e1, q1, fun g2 H2 μ2 z w a2 e2 r2 q2 => ?_, fun _ _ _ _ _ _ _ _ z => z.elim⟩
  exact h2 g2 μ2 H2 x z d y w v _ _ a2 (r1.ext e2) r2 (r.ext (e1.trans e2)) q2 fun g3 H3 μ3 a3 e3 q3 => k g3 H3 μ3 δ σ a3 (e1.trans (e2.trans e3)) (sl.ext (e1.trans (e2.trans e3))) (fun _ _ => rfl) q3
def dAsg (A : TD) (G : TGD) : TDS := fun D δ μ => A δ μ (fun d μ1 => G d δ μ1 D.nx) D.ex
theorem ws_asg {tg : Expr} {is : List Nat} {G : TGD} (he : WX0 X W e E1) (hg : WG X tg is G) (hs : swapsWithSole [tg] e pos.line X.env = pure false := by rfl) (hw : swappedStores [tg] e X.env = pure none := by rfl)
    (h1 : (assignEach [tg] X.env).map (·.2) = [assign tg X.env] := by rfl) : WS X W (.Assign [tg] e pos) (dAsg E1 G) := by
  refine PS.imp (ps_asg he hg hs hw h1) ?_
  rintro D σ H ⟨g, μ, δ, D', a0, sl, h, k1, k2, k3, k4, k5⟩
  refine ⟨g, μ, δ, _, _, a0, sl, h, fun g1 H1 μ1 d v a1 e1 r1 q => ?_, fun g1 H1 μ1 C δ' a1 e1 s1 q => k5 g1 H1 μ1 C δ' σ a1 e1 s1 q⟩
  exact ⟨g1, μ1, δ, d, _, a1, sl.ext e1, r1, q, fun g2 H2 μ2 δ2 σ2 a2 e2 s2 w2 q2 => k1 g2 H2 μ2 δ2 σ2 a2 (e1.trans e2) s2 q2⟩
theorem ws_set (i : Nat) {x : Str} {pos' : Pos} (hN : X.N.Nodup) (he : WX0 X W e E1) (hi : X.N[i]? = some x := by rfl) (hx : Loc X.env.scope x := by first | exact Or.inl rfl | exact Or.inr rfl) (hs : swapsWithSole [.Name x pos'] e pos.line X.env = pure false := by rfl)
    (hf : X.fn x = true ∨ X.env.scope.names.lookup x = some .local := by first | exact .inl rfl | exact .inr rfl | assumption) : WS X W (.Assign [.Name x pos'] e pos) (dAsg E1 (gdName i)) := by
  refine PS.imp (ps_set hN hi hx he hs hf) ?_
  rintro D σ H ⟨g, μ, δ, D', a0, sl, h, k1, k2, k3, k4, k5⟩
  exact ⟨g, μ, δ, _, _, a0, sl, h, fun g1 H1 μ1 d v a1 e1 r1 q => k1 g1 H1 μ1 _ _ a1 e1 ((sl.ext e1).set r1) q, fun g1 H1 μ1 C δ' a1 e1 s1 q => k5 g1 H1 μ1 C δ' σ a1 e1 s1 q⟩
/-- a, b = x, y -/
def dPar (i j : Nat) (A : TDA) : TDS := fun D δ μ => A δ μ (fun ds μ1 => ∃ v w, ds = [v, w] ∧ D.nx ((δ.set i (some v)).set j (some w)) μ1) D.ex
end

/-! ### what is walked -/
structure Le (g g' : Wd) : Prop where
  F : Sub g.F g'.F
  ix : ∀ (k : Nat) p, g.th[k]? = some p → g'.th[k]? = some p
theorem Ext.le {g g' : Wd} {H H' : Hp} (e : Ext g H g' H') : Le g g' := ⟨e.F, e.ix⟩
theorem Rep.le {K : PySem.W.Frag} {g g' : Wd} {d : D} {v : V} (h : Rep K g.F g.th d v) (e : Le g g') : Rep K g'.F g'.th d v := Rep.mono e.F e.ix d v h
theorem Reps.le {K : PySem.W.Frag} {g g' : Wd} {d : List D} {v : List V} (h : Reps K g.F g.th d v) (e : Le g g') : Reps K g'.F g'.th d v := Reps.mono e.F e.ix d v h
def ItRep (K : PySem.W.Frag) (J : It) (ds : List D) (g : Wd) : Prop := ∀ g' H' μ' i, At K g' μ' H' → Le g g' →
  (∀ d, ds[i]? = some d → J.go i H' ∧ ∀ x H2, J.yld i H' x H2 → ∃ g2, At K g2 μ' H2 ∧ Ext g' H' g2 H2 ∧ Rep K g2.F g2.th d x) ∧ (i = ds.length → J.stop i H')
abbrev TDI := TDA
def upI (K : PySem.W.Frag) (W : WX) (A : TDI) : TI := fun σ H R => ∃ (g : Wd) (μ : Mu) (δ : DS) (Q' : List D → Mu → Prop) (E' : DE), At K g μ H ∧ Sl K g σ δ ∧ A δ μ Q' E' ∧
  (∀ g' H' μ' ds J, At K g' μ' H' → Ext g H g' H' → ItRep K J ds g' → Q' ds μ' → R J H') ∧
  (∀ g' H' μ' C δ', At K g' μ' H' → Ext g H g' H' → Sl K g' σ δ' → E' C δ' μ' → W C none σ H')
abbrev WI (X : Cx) (W : WX) (tg iter : Expr) (A : TDI) : Prop := PI X tg iter (upI X.K W A)
theorem PI.imp {X : Cx} {tg e : Expr} {t t' : TI} (h : PI X tg e t) (i : ∀ σ H R, t' σ H R → t σ H R) : PI X tg e t' := ⟨fun pins s σ H R I q => h.run pins s σ H R I (i _ _ _ q)⟩

def dFor (IA : TDI) (G : TGD) (B : TDS) : TDS := fun D δ μ => IA δ μ (fun ds μ1 => ∃ I : Nat → DS → Mu → Prop, I 0 δ μ1 ∧
  (∀ i d δ μ, ds[i]? = some d → I i δ μ → G d δ μ (fun δ' μ' => B { D with nx := I (i + 1), ct := I (i + 1), bk := D.nx } δ' μ')) ∧ ∀ δ μ, I ds.length δ μ → D.nx δ μ) D.ex
theorem ws_for {X : Cx} {W : WX} {tg iter : Expr} {body : List Stmt} {IA : TDI} {is : List Nat} {G : TGD} {B : TDS} {pos : Pos} (hp : PassesOwn (model X.prog X.w) X.A X.env X.xe) (hi : WI X W tg iter IA) (hg : WG X tg is G) (hb : WSs X W body B)
    (hc : X.calm = true := by rfl) (hs : ∀ x, foldedSetIterable iter X.env x = pure x := by intro _; rfl) : WS X W (.For tg iter body [] pos) (dFor IA G B) := by
  refine PS.imp (ps_for hp hc hi hg hb hs) ?_
  rintro D σ H ⟨g, μ, δ, D', a0, sl, h, k1, k2, k3, k4, k5⟩
  refine ⟨g, μ, δ, _, _, a0, sl, h, fun g1 H1 μ1 ds J a1 e1 rJ ⟨I, i0, step, fin⟩ => ?_, fun g1 H1 μ1 C δ' a1 e1 s1 q => k5 g1 H1 μ1 C δ' σ a1 e1 s1 q⟩
  refine ⟨fun i m σ' H' => m = ds.length - i ∧ i ≤ ds.length ∧ ∃ gi μi δi, At X.K gi μi H' ∧ Ext g1 H1 gi H' ∧ Sl X.K gi σ' δi ∧ I i δi μi, ⟨_, rfl, Nat.zero_le _, g1, μ1, δ, a1, Ext.refl _ _, sl.ext e1, i0⟩, ?_⟩
  rintro i m σ2 H2 ⟨rfl, hle, g2, μ2, δ2, a2, e2, s2, hI⟩
  by_cases hlt : i < ds.length
  · have hd := List.getElem?_eq_getElem hlt
    obtain ⟨go, yl⟩ := (rJ g2 H2 μ2 i a2 e2.le).1 _ hd
    refine .inr ⟨go, fun σ' H' => ∃ gi μi δi, At X.K gi μi H' ∧ Ext g1 H1 gi H' ∧ Sl X.K gi σ' δi ∧ I (i + 1) δi μi, fun σ' H' q => ⟨_, by omega, rfl, hlt, q⟩, fun x H3 hy => ?_⟩
    obtain ⟨g3, a3, e3, r3⟩ := yl x H3 hy
    refine ⟨g3, μ2, δ2, _, _, a3, s2.ext e3, r3, step i _ δ2 μ2 hd hI, fun g4 H4 μ4 δ4 σ4 a4 e4 s4 w4 q4 => ?_⟩
    have e14 := e2.trans (e3.trans e4)
    refine ⟨g4, μ4, δ4, _, a4, s4, q4, fun g5 H5 μ5 δ5 σ5 a5 e5 s5 q5 => ⟨g5, μ5, δ5, a5, e14.trans e5, s5, q5⟩, fun g5 H5 μ5 d5 v5 a5 e5 r5 q5 => k2 g5 H5 μ5 d5 v5 a5 (e1.trans (e14.trans e5)) r5 q5,
      fun g5 H5 μ5 δ5 σ5 a5 e5 s5 q5 => k1 g5 H5 μ5 δ5 σ5 a5 (e1.trans (e14.trans e5)) s5 q5, fun g5 H5 μ5 δ5 σ5 a5 e5 s5 q5 => ⟨g5, μ5, δ5, a5, e14.trans e5, s5, q5⟩, fun g5 H5 μ5 C δ5 σ5 a5 e5 s5 q5 => k5 g5 H5 μ5 C δ5 σ5 a5 (e1.trans (e14.trans e5)) s5 q5⟩
  · have e : i = ds.length := by omega
    subst e
    exact .inl ⟨(rJ g2 H2 μ2 _ a2 e2.le).2 rfl, k1 g2 H2 μ2 δ2 σ2 a2 (e1.trans e2) s2 (fin δ2 μ2 hI)⟩

def dWhile (T : TDT) (B : TDS) : TDS := fun D δ μ => ∃ I : Nat → DS → Mu → Prop, (∃ n, I n δ μ) ∧ ∀ n δ μ, I n δ μ →
  T δ μ (fun b μ1 => (b = true → B { D with nx := fun δ' μ' => ∃ m, m < n ∧ I m δ' μ', ct := fun δ' μ' => ∃ m, m < n ∧ I m δ' μ', bk := D.nx } δ μ1) ∧ (b = false → D.nx δ μ1)) D.ex
theorem ws_while {X : Cx} {W : WX} {c : Expr} {body : List Stmt} {T : TDT} {B : TDS} {pos : Pos} (hp : PassesOwn (model X.prog X.w) X.A X.env X.xe) (hc : WT X W c T) (hb : WSs X W body B) : WS X W (.While c body [] pos) (dWhile T B) := by
  refine PS.imp (ps_while hp hc hb) ?_
  rintro D σ H ⟨g, μ, δ, D', a0, sl, ⟨I, ⟨n0, i0⟩, turn⟩, k1, k2, k3, k4, k5⟩
  refine ⟨fun n σ' H' => ∃ gi μi δi, At X.K gi μi H' ∧ Ext g H gi H' ∧ Sl X.K gi σ' δi ∧ I n δi μi, ⟨n0, g, μ, δ, a0, Ext.refl _ _, sl, i0⟩, ?_⟩
  rintro n σ1 H1 ⟨g1, μ1, δ1, a1, e1, s1, hI⟩
  refine ⟨g1, μ1, δ1, _, _, a1, s1, turn n δ1 μ1 hI, fun g2 H2 μ2 b a2 e2 q2 => ?_, fun g2 H2 μ2 C δ' a2 e2 s2 q2 => k5 g2 H2 μ2 C δ' σ1 a2 (e1.trans e2) s2 q2⟩
  cases b with
  | true =>
    refine iteT ?_
    refine ⟨fun σ' H' => ∃ gi μi δi, At X.K gi μi H' ∧ Ext g H gi H' ∧ Sl X.K gi σ' δi ∧ ∃ m, m < n ∧ I m δi μi, fun σ' H' ⟨gi, μi, δi, ai, ei, si, m, hm, q⟩ => ⟨m, hm, gi, μi, δi, ai, ei, si, q⟩, ?_⟩
    have e12 := e1.trans e2
    exact ⟨g2, μ2, δ1, _, a2, s1.ext e2, q2.1 rfl, fun g5 H5 μ5 δ5 σ5 a5 e5 s5 q5 => ⟨g5, μ5, δ5, a5, e12.trans e5, s5, q5⟩, fun g5 H5 μ5 d5 v5 a5 e5 r5 q5 => k2 g5 H5 μ5 d5 v5 a5 (e12.trans e5) r5 q5,
      fun g5 H5 μ5 δ5 σ5 a5 e5 s5 q5 => k1 g5 H5 μ5 δ5 σ5 a5 (e12.trans e5) s5 q5, fun g5 H5 μ5 δ5 σ5 a5 e5 s5 q5 => ⟨g5, μ5, δ5, a5, e12.trans e5, s5, q5⟩, fun g5 H5 μ5 C δ5 σ5 a5 e5 s5 q5 => k5 g5 H5 μ5 C δ5 σ5 a5 (e12.trans e5) s5 q5⟩
  | false =>
    refine iteF ?_
    exact k1 g2 H2 μ2 δ1 σ1 a2 (e1.trans e2) (s1.ext e2) (q2.2 rfl)

/-! ### comprehensions -/
structure Out (g : Wd) (H : Hp) (p : Addr) (o : HO) : Prop where
  at' : H p = some o
  F : g.F p = none
  th : p ∉ g.th
  nt : plainO o
theorem Out.ext {g g' : Wd} {H H' : Hp} {p : Addr} {o : HO} (h : Out g H p o) (e : Ext g H g' H') : Out g' H' p o := by
  refine ⟨e.fr _ _ h.at' h.th fun ps z => by have := h.nt; rw [z] at this; exact this, ?_, fun hm => ?_, h.nt⟩
  · cases q : g'.F p with
    | none => rfl
    | some u =>
      rcases e.nw _ _ q h.F with z | z | ⟨vs, z⟩
      · rw [h.at'] at z; cases z
      · exact absurd z h.th
      · have := h.nt; rw [Option.some.inj (h.at'.symm.trans z)] at this; exact this.elim
  · obtain ⟨more, e1, e2⟩ := e.th
    rw [e1] at hm
    rcases List.mem_append.mp hm with hm | hm
    · exact h.th hm
    · have := e2 _ hm
      rw [h.at'] at this; cases this
theorem At.out {K : PySem.W.Frag} {g : Wd} {μ : Mu} {H : Hp} {p : Addr} {o : HO} (a : At K g μ H) (hF : g.F p = none) (hθ : p ∉ g.th) (hq : ∀ u, H p = some u → plainO u) : At K g μ (upd H p o) := by
  have ne : ∀ (k : Nat) q, g.th[k]? = some q → q ≠ p := fun k q h e => hθ (by rw [← e]; exact List.mem_of_getElem? h)
  refine ⟨fun b u e => ?_, a.len, fun k u q h1 h2 h3 => ?_, a.inj, fun q hq => alloc_upd (a.al q hq), a.tab.upd hq⟩
  · rw [upd_ne (ne_of_none e hF)]
    exact a.sub _ _ e
  · obtain ⟨x, y⟩ := a.obj k u q h1 h2 h3
    exact ⟨x, RepO.mono (fun _ _ e => e) (fun _ _ e => e) (fun _ => upd_ne (ne k q h2)) y⟩
/-- what is outside, kept -/
theorem Ext.out {g g1 : Wd} {H H1 : Hp} {p : Addr} {o : HO} (e : Ext g H g1 H1) (hp : H p = none) : Ext g H g1 (upd H1 p o) :=
  ⟨e.F, e.th, fun b u h hb n => by rw [upd_ne (ne_of_none h hp)]; exact e.fr _ _ h hb n, fun b ps h hb => by rw [upd_ne (ne_of_none h hp)]; exact e.tb _ _ h hb, fun b φ h => by rw [upd_ne (ne_of_none h hp)]; exact e.ek _ _ h, e.nw, fun b u h => alloc_upd (e.dom _ _ h)⟩
theorem At.inF {K : PySem.W.Frag} {g : Wd} {μ : Mu} {H : Hp} {p : Addr} {o : HO} (a : At K g μ H) (h : Out g H p o) : At K ⟨upd g.F p o, g.th⟩ μ H := by
  have sub : Sub g.F (upd g.F p o) := fun b u e => by rw [upd_ne (ne_of_none e h.F)]; exact e
  have ne : ∀ (k : Nat) q, g.th[k]? = some q → q ≠ p := fun k q hq e => h.th (by rw [← e]; exact List.mem_of_getElem? hq)
  refine ⟨fun b u e => ?_, a.len, fun k u q h1 h2 h3 => ?_, a.inj, a.al, a.tab.inF (plain_tbl (plain_some h.at' h.nt))⟩
  · have e : upd g.F p o b = some u := e
    by_cases hb : b = p
    · subst hb
      rw [upd_same] at e
      cases e
      exact h.at'
    · rw [upd_ne hb] at e
      exact a.sub _ _ e
  · obtain ⟨x, y⟩ := a.obj k u q h1 h2 h3
    exact ⟨by show upd g.F p o q = none; rw [upd_ne (ne k q h2)]; exact x, RepO.mono sub (fun _ _ e => e) (fun _ => rfl) y⟩
theorem Ext.inF {g g1 : Wd} {H H1 : Hp} {p : Addr} {o : HO} (e : Ext g H g1 H1) (hp : H p = none) (hF : g1.F p = none) : Ext g H ⟨upd g1.F p o, g1.th⟩ H1 :=
  ⟨fun b u h => by
    have q := e.F _ _ h
    show upd g1.F p o b = some u
    rw [upd_ne (ne_of_none q hF)]
    exact q, e.th, e.fr, e.tb, e.ek, fun b u h h' => by
    have h : upd g1.F p o b = some u := h
    by_cases hb : b = p
    · subst hb
      exact .inl hp
    · rw [upd_ne hb] at h
      exact e.nw _ _ h h', e.dom⟩
def wipeD (δ : DS) : List Nat → DS
  | [] => δ
  | v :: vs => (wipeD δ vs).set v none
theorem Sl.wipe {K : PySem.W.Frag} {g : Wd} {σ : L2.St} {δ : DS} (h : Sl K g σ δ) : ∀ vs : List Nat, Sl K g (wipe σ vs) (wipeD δ vs)
  | [] => h
  | v :: vs => by
    have ih := Sl.wipe h vs
    unfold L2.wipe wipeD
    refine ⟨by simp [ih.len], fun j d q => ?_⟩
    by_cases e : v = j
    · subst e
      by_cases hl : v < (wipeD δ vs).length
      · rw [List.getElem?_set_self hl] at q
        cases q
      · rw [List.getElem?_eq_none (by simpa using hl)] at q
        cases q
    · rw [List.getElem?_set_ne e] at q ⊢
      exact ih.get j d q
abbrev E0D : DE := fun _ _ _ => False
/-- the body of a comprehension -/
def dLc0 (IA : TDI) (G : TGD) (T : TDT) (A : TD) (vs : List Nat) (fin : List D → Mu → DQ → Prop) : TD := fun δ μ Q E => IA δ μ (fun ds μ1 => ∃ I : Nat → List D → Mu → Prop, I 0 [] μ1 ∧
  (∀ i d acc μ, ds[i]? = some d → I i acc μ → G d (wipeD δ vs) μ (fun δ2 μ2 => T δ2 μ2 (fun b μ3 => (b = true → A δ2 μ3 (fun y μ4 => acc.length < sizeLine ∧ I (i + 1) (acc ++ [y]) μ4) E0D) ∧ (b = false → I (i + 1) acc μ3)) E0D)) ∧
  ∀ acc μ, I ds.length acc μ → fin acc μ Q) E
def finF : List D → Mu → DQ → Prop := fun acc μ Q => Q (.lst acc) μ
def finC : List D → Mu → DQ → Prop := fun acc μ Q => Q (.cell μ.length) (μ ++ [.lst acc])
def FinOk (K : PySem.W.Frag) (fin : List D → Mu → DQ → Prop) : Prop := ∀ (g1 g : Wd) (H1 H : Hp) (p : Addr) (acc : List D) (vs : List V) μ Q' (Q : VK), At K g μ H → Ext g1 H1 g H → H1 p = none → Out g H p (.lst vs) → Reps K g.F g.th acc vs → fin acc μ Q' →
  Kt K g1 H1 Q' Q → Q (.ref p) H
theorem finF_ok {K : PySem.W.Frag} : FinOk K finF := by
  intro g1 g H1 H p acc vs μ Q' Q a e hp o r q k
  refine k _ _ _ (.lst acc) _ (a.inF o) (e.inF hp o.F) ?_ q
  unfold Rep
  exact ⟨p, vs, rfl, upd_same, Reps.mono (fun b u h => by show upd g.F p (.lst vs) b = some u; rw [upd_ne (ne_of_none h o.F)]; exact h) (fun _ _ h => h) _ _ r⟩
theorem up_lc {K : PySem.W.Frag} {W : WX} {IA : TDI} {is : List Nat} {G : TGD} {T : TDT} {A : TD} {vs : List Nat} {fin : List D → Mu → DQ → Prop} (hf : FinOk K fin) (his : ∀ i ∈ is, i ∈ vs) :
    ∀ σ H Q, up K W (dLc0 IA G T A vs fin) σ H Q → tLc (upI K W IA) (upG K is G) (upT K (fun _ _ _ _ => False) T) (up K (fun _ _ _ _ => False) A) vs σ H Q := by
  rintro σ H Q ⟨g, μ, δ, Q', E', at0, sl, h, k, kx⟩
  refine ⟨g, μ, δ, _, E', at0, sl, h, fun g1 H1 μ1 ds J a1 e1 rJ ⟨I, i0, step, fi⟩ => ?_, kx⟩
  intro Dd hD
  have hF1 : g1.F Dd = none := Same.free a1.sub hD
  have hθ1 : Dd ∉ g1.th := fun hm => by
    obtain ⟨o, ho⟩ := a1.al _ hm
    rw [hD] at ho; cases ho
  refine ⟨fun i m H' => m = ds.length - i ∧ i ≤ ds.length ∧ ∃ gi μi acc ws, At K gi μi H' ∧ Ext g1 H1 gi H' ∧ Out gi H' Dd (.lst ws) ∧ Reps K gi.F gi.th acc ws ∧ I i acc μi, ⟨_, rfl, Nat.zero_le _, g1, μ1, [], [], a1.out hF1 hθ1 (plain_none hD), (Ext.refl g1 H1).out hD, ⟨upd_same, hF1, hθ1, trivial⟩, Reps.nil, i0⟩, ?_⟩
  rintro i m H2 ⟨rfl, hle, g2, μ2, acc, ws, a2, e2, o2, r2, hI⟩
  by_cases hlt : i < ds.length
  · have hd := List.getElem?_eq_getElem hlt
    obtain ⟨go, yl⟩ := (rJ g2 H2 μ2 i a2 e2.le).1 _ hd
    refine .inr ⟨go, fun H' => ∃ gi μi acc ws, At K gi μi H' ∧ Ext g1 H1 gi H' ∧ Out gi H' Dd (.lst ws) ∧ Reps K gi.F gi.th acc ws ∧ I (i + 1) acc μi, fun H' q => ⟨_, by omega, rfl, hlt, q⟩, fun x H3 hy => ?_⟩
    obtain ⟨g3, a3, e3, r3⟩ := yl x H3 hy
    have s3 : Sl K g3 (wipe σ vs) (wipeD δ vs) := (sl.ext (e1.trans (e2.trans e3))).wipe vs
    refine ⟨g3, μ2, _, _, _, a3, s3, r3, step i _ acc μ2 hd hI, fun g4 H4 μ4 δ4 σ4 a4 e4 s4 w4 q4 => ?_⟩
    have wv : wipe (wipe σ vs) vs = wipe σ vs := by
      apply List.ext_getElem?
      intro j
      by_cases hj : j < σ.length
      · rw [wipe_get (by rw [wipe_length]; exact hj), wipe_get hj]
        by_cases hm : j ∈ vs <;> simp [hm]
      · rw [List.getElem?_eq_none (by rw [wipe_length, wipe_length]; simpa using hj), List.getElem?_eq_none (by rw [wipe_length]; simpa using hj)]
    refine ⟨(w4 vs his).trans wv, g4, μ4, δ4, _, _, a4, s4, q4, fun g5 H5 μ5 b a5 e5 q5 => ?_, fun _ _ _ _ _ _ _ _ z => z.elim⟩
    have e25 := e3.trans (e4.trans e5)
    cases b with
    | true =>
      refine iteT ?_
      refine ⟨g5, μ5, δ4, _, _, a5, s4.ext e5, q5.1 rfl, fun g6 H6 μ6 y u a6 e6 r6 ⟨hz, q6⟩ => ?_, fun _ _ _ _ _ _ _ _ z => z.elim⟩
      have e26 := e25.trans e6
      have o6 := o2.ext e26
      refine ⟨ws, o6.at', by rw [← r2.length]; exact hz, g6, μ6, acc ++ [y], ws ++ [u], a6.out o6.F o6.th (plain_some o6.at' trivial), (e2.trans e26).out hD, ⟨upd_same, o6.F, o6.th, trivial⟩, Reps.append (r2.ext e26) (Reps.cons r6 Reps.nil), q6⟩
    | false =>
      refine iteF ?_
      exact ⟨g5, μ5, acc, ws, a5, e2.trans e25, o2.ext e25, r2.ext e25, q5.2 rfl⟩
  · have e : i = ds.length := by omega
    subst e
    refine .inl ⟨(rJ g2 H2 μ2 _ a2 e2.le).2 rfl, ?_⟩
    exact hf g1 g2 H1 H2 Dd acc ws μ2 Q' Q a2 e2 hD o2 r2 (fi acc μ2 hI) fun g3 H3 μ3 d u a3 e3 r3 q3 => k g3 H3 μ3 d u a3 (e1.trans e3) r3 q3
def dYes : TDT := fun _ μ Q _ => Q true μ
theorem wts_nil {X : Cx} {W : WX} : PTs X [] (upT X.K W dYes) := by
  refine ⟨fun pins s σ H Q I h => ?_⟩
  obtain ⟨g, μ, δ, Q', E', a0, sl, h, k, kx⟩ := h
  exact (pts_nil (X := X)).run pins s σ H Q I (k g H μ true a0 (Ext.refl _ _) h)
theorem wts_one {X : Cx} {W : WX} {c : Expr} {T : TDT} (h : WT X W c T) : PTs X [c] (upT X.K W T) := pts_one h
abbrev W0 : WX := fun _ _ _ _ => False
theorem we_lc {X : Cx} {W : WX} {fin : List D → Mu → DQ → Prop} (hf : FinOk X.K fin) (own : List (Str × Nat)) {is : List Nat} {elt tg iter : Expr} {ifs : List Expr} {scope : Scope} {pos : Pos} {IA : TDI} {G : TGD} {T : TDT} {A : TD} (hN : X.N.Nodup) (hi : WI X W tg iter IA) (ok : BlkOk X.N X.env.scope scope own)
    (hg : ∀ (s : Shared) (H : Hp) (C : Addr) (cl : List (Str × Addr)) (fp : List Addr), WG (X.blk s H scope (compEnvC scope cl C X.env) fp) tg is G) (ht : ∀ (s : Shared) (H : Hp) (C : Addr) (cl : List (Str × Addr)) (fp : List Addr), PTs (X.blk s H scope (compEnvC scope cl C X.env) fp) ifs (upT X.K W0 T))
    (he : ∀ (s : Shared) (H : Hp) (C : Addr) (cl : List (Str × Addr)) (fp : List Addr), WX0 (X.blk s H scope (compEnvC scope cl C X.env) fp) W0 elt A) (hc : X.calm = true := by rfl) (his : ∀ i ∈ is, i ∈ own.map (·.2) := by decide) (hs : ∀ x, foldedSetIterable iter X.env x = pure x := by intro _; rfl) :
    WX0 X W (.ListComp elt [⟨tg, iter, ifs, 0⟩] scope pos) (dLc0 IA G T A (own.map (·.2)) fin) := PE.imp (pe_lc hc hN hi ok hg ht he hs) (up_lc hf his)
theorem ws_setLc {X : Cx} {W : WX} {fin : List D → Mu → DQ → Prop} (hf : FinOk X.K fin) (i : Nat) (own : List (Str × Nat)) {is : List Nat} {y : Str} {py : Pos} {elt tg iter : Expr} {ifs : List Expr} {scope : Scope} {pos spos : Pos} {IA : TDI} {G : TGD} {T : TDT} {A : TD} (hN : X.N.Nodup) (hi : WI X W tg iter IA) (ok : BlkOk X.N X.env.scope scope own)
    (hg : ∀ (s : Shared) (H : Hp) (C : Addr) (cl : List (Str × Addr)) (fp : List Addr), WG (X.blk s H scope (compEnvC scope cl C X.env) fp) tg is G) (ht : ∀ (s : Shared) (H : Hp) (C : Addr) (cl : List (Str × Addr)) (fp : List Addr), PTs (X.blk s H scope (compEnvC scope cl C X.env) fp) ifs (upT X.K W0 T))
    (he : ∀ (s : Shared) (H : Hp) (C : Addr) (cl : List (Str × Addr)) (fp : List Addr), WX0 (X.blk s H scope (compEnvC scope cl C X.env) fp) W0 elt A)
    (hsw : swapsWith (.ListComp elt [⟨tg, iter, ifs, 0⟩] scope pos) (some (.Name y py)) spos.line X.env = pure true)
    (hc : X.calm = true := by rfl) (hy : X.N[i]? = some y := by rfl) (hyl : X.env.scope.names.lookup y = some .local := by rfl) (his : ∀ i ∈ is, i ∈ own.map (·.2) := by decide) (hs : ∀ x, foldedSetIterable iter X.env x = pure x := by intro _; rfl) :
    WS X W (.Assign [.Name y py] (.ListComp elt [⟨tg, iter, ifs, 0⟩] scope pos) spos) (dAsg (dLc0 IA G T A (own.map (·.2)) fin) (gdName i)) := by
  refine PS.imp (ps_setLc (g := upG X.K is G) (tt := upT X.K W0 T) (te := up X.K W0 A) hc hN hy hyl hsw hi ok hg ht he hs) ?_
  rintro D σ H ⟨g, μ, δ, D', a0, sl, h, k1, k2, k3, k4, k5⟩
  refine up_lc hf his σ H _ ⟨g, μ, δ, _, _, a0, sl, h, fun g1 H1 μ1 d v a1 e1 r1 q => ?_, fun g1 H1 μ1 C δ' a1 e1 s1 q => k5 g1 H1 μ1 C δ' σ a1 e1 s1 q⟩
  exact k1 g1 H1 μ1 _ _ a1 e1 ((sl.ext e1).set r1) q
end SW

end

section
set_option Elab.async false
set_option linter.all false
set_option maxRecDepth 100000
namespace SW
open PySem L2 PyProof.Rows

/-! ### renaming of cells -/
mutual
def ren (f : Nat → Nat) : D → D
  | .non => .non
  | .bl b => .bl b
  | .int i => .int i
  | .str s => .str s
  | .tup xs => .tup (rens f xs)
  | .lst xs => .lst (rens f xs)
  | .scr xs => .scr (rens f xs)
  | .dct tt ks vs => .dct tt ks (rens f vs)
  | .dcn w kk vs => .dcn w kk (rens f vs)
  | .cell k => .cell (f k)
  | .val v => .val v
  | .exc C => .exc C
def rens (f : Nat → Nat) : List D → List D
  | [] => []
  | x :: xs => ren f x :: rens f xs
end
def renF (f : Nat → Nat) : List (Str × D) → List (Str × D)
  | [] => []
  | (x, d) :: r => (x, ren f d) :: renF f r
def renO (f : Nat → Nat) : MO → MO
  | .lst xs => .lst (rens f xs)
  | .dct tt ks vs => .dct tt ks (rens f vs)
  | .dcn w kk vs => .dcn w kk (rens f vs)
  | .dcl ob u tt ks vs => .dcl ob u tt ks (rens f vs)
  | .dcm ob u w kk vs => .dcm ob u w kk (rens f vs)
  | .ins C fs => .ins C (renF f fs)
  | .dead => .dead

section
variable {K : PySem.W.Frag} {F : Hp} {θ θ' : List Addr} {f : Nat → Nat}
/- from the renamed to the plain -/
mutual
theorem Rep.unren (t : ∀ (k : Nat) p, θ[f k]? = some p → θ'[k]? = some p) : ∀ (d : D) (v : V), Rep K F θ (ren f d) v → Rep K F θ' d v
  | .non, v, h => by unfold ren Rep at h; unfold Rep; exact h
  | .bl b, v, h => by unfold ren Rep at h; unfold Rep; exact h
  | .int i, v, h => by unfold ren Rep at h; unfold Rep; exact h
  | .str s, v, h => by unfold ren Rep at h; unfold Rep; exact h
  | .val u, v, h => by unfold ren Rep at h; unfold Rep; exact h
  | .exc u, v, h => by unfold ren Rep at h; unfold Rep; exact h
  | .tup ds, v, h => by
    unfold ren Rep at h; unfold Rep
    obtain ⟨p, vs, h1, h2, h3⟩ := h
    exact ⟨p, vs, h1, h2, Reps.unren t ds vs h3⟩
  | .lst ds, v, h => by
    unfold ren Rep at h; unfold Rep
    obtain ⟨p, vs, h1, h2, h3⟩ := h
    exact ⟨p, vs, h1, h2, Reps.unren t ds vs h3⟩
  | .scr ds, v, h => by
    unfold ren Rep at h; unfold Rep
    obtain ⟨p, vs, h1, h2, h3⟩ := h
    exact ⟨p, vs, h1, h2, Reps.unren t ds vs h3⟩
  | .dct tt ks ds, v, h => by
    unfold ren Rep at h; unfold Rep
    obtain ⟨p, vs, h1, h2, h3, h4⟩ := h
    exact ⟨p, vs, h1, Reps.unren t ds vs h2, h3, h4⟩
  | .dcn w kk ds, v, h => by
    unfold ren Rep at h; unfold Rep
    obtain ⟨p, vs, bs, h1, h2, h3⟩ := h
    exact ⟨p, vs, bs, h1, Reps.unren t ds vs h2, h3⟩
  | .cell k, v, h => by
    unfold ren Rep at h; unfold Rep
    obtain ⟨p, h1, h2⟩ := h
    exact ⟨p, h1, t _ _ h2⟩
theorem Reps.unren (t : ∀ (k : Nat) p, θ[f k]? = some p → θ'[k]? = some p) : ∀ (ds : List D) (vs : List V), Reps K F θ (rens f ds) vs → Reps K F θ' ds vs
  | [], vs, h => by unfold rens Reps at h; unfold Reps; exact h
  | d :: ds, vs, h => by
    unfold rens Reps at h; unfold Reps
    obtain ⟨v, r, h1, h2, h3⟩ := h
    exact ⟨v, r, h1, Rep.unren t d v h2, Reps.unren t ds r h3⟩
end
mutual
theorem Rep.ren (t : ∀ (k : Nat) p, θ'[k]? = some p → θ[f k]? = some p) : ∀ (d : D) (v : V), Rep K F θ' d v → Rep K F θ (SW.ren f d) v
  | .non, v, h => by unfold Rep at h; unfold SW.ren Rep; exact h
  | .bl b, v, h => by unfold Rep at h; unfold SW.ren Rep; exact h
  | .int i, v, h => by unfold Rep at h; unfold SW.ren Rep; exact h
  | .str s, v, h => by unfold Rep at h; unfold SW.ren Rep; exact h
  | .val u, v, h => by unfold Rep at h; unfold SW.ren Rep; exact h
  | .exc u, v, h => by unfold Rep at h; unfold SW.ren Rep; exact h
  | .tup ds, v, h => by
    unfold Rep at h; unfold SW.ren Rep
    obtain ⟨p, vs, h1, h2, h3⟩ := h
    exact ⟨p, vs, h1, h2, Reps.ren t ds vs h3⟩
  | .lst ds, v, h => by
    unfold Rep at h; unfold SW.ren Rep
    obtain ⟨p, vs, h1, h2, h3⟩ := h
    exact ⟨p, vs, h1, h2, Reps.ren t ds vs h3⟩
  | .scr ds, v, h => by
    unfold Rep at h; unfold SW.ren Rep
    obtain ⟨p, vs, h1, h2, h3⟩ := h
    exact ⟨p, vs, h1, h2, Reps.ren t ds vs h3⟩
  | .dct tt ks ds, v, h => by
    unfold Rep at h; unfold SW.ren Rep
    obtain ⟨p, vs, h1, h2, h3, h4⟩ := h
    exact ⟨p, vs, h1, Reps.ren t ds vs h2, h3, h4⟩
  | .dcn w kk ds, v, h => by
    unfold Rep at h; unfold SW.ren Rep
    obtain ⟨p, vs, bs, h1, h2, h3⟩ := h
    exact ⟨p, vs, bs, h1, Reps.ren t ds vs h2, h3⟩
  | .cell k, v, h => by
    unfold Rep at h; unfold SW.ren Rep
    obtain ⟨p, h1, h2⟩ := h
    exact ⟨p, h1, t _ _ h2⟩
theorem Reps.ren (t : ∀ (k : Nat) p, θ'[k]? = some p → θ[f k]? = some p) : ∀ (ds : List D) (vs : List V), Reps K F θ' ds vs → Reps K F θ (rens f ds) vs
  | [], vs, h => by unfold Reps at h; unfold rens Reps; exact h
  | d :: ds, vs, h => by
    unfold Reps at h; unfold rens Reps
    obtain ⟨v, r, h1, h2, h3⟩ := h
    exact ⟨v, r, h1, Rep.ren t d v h2, Reps.ren t ds r h3⟩
end
theorem RepF.unren (t : ∀ (k : Nat) p, θ[f k]? = some p → θ'[k]? = some p) : ∀ (fs : List (Str × D)) (fv : List (Str × V)), RepF K F θ (renF f fs) fv → RepF K F θ' fs fv
  | [], _, h => h
  | (x, d) :: r, fv, h => by
    obtain ⟨v, fr, a, b, c⟩ := h
    exact ⟨v, fr, a, Rep.unren t d v b, RepF.unren t r fr c⟩
theorem RepF.ren (t : ∀ (k : Nat) p, θ'[k]? = some p → θ[f k]? = some p) : ∀ (fs : List (Str × D)) (fv : List (Str × V)), RepF K F θ' fs fv → RepF K F θ (renF f fs) fv
  | [], _, h => h
  | (x, d) :: r, fv, h => by
    obtain ⟨v, fr, a, b, c⟩ := h
    exact ⟨v, fr, a, Rep.ren t d v b, RepF.ren t r fr c⟩
theorem RepO.unren {H : Hp} {p : Addr} (t : ∀ (k : Nat) p, θ[f k]? = some p → θ'[k]? = some p) {o : MO} (h : RepO K F θ H p (renO f o)) : RepO K F θ' H p o := by
  cases o with
  | lst xs => obtain ⟨vs, a, b⟩ := h; exact ⟨vs, a, Reps.unren t _ _ b⟩
  | dct tt ks ds => obtain ⟨vs, a, b, c⟩ := h; exact ⟨vs, Reps.unren t _ _ a, b, c⟩
  | dcn w kk ds => obtain ⟨vs, bs, a, b, c⟩ := h; exact ⟨vs, bs, a, Reps.unren t _ _ b, c⟩
  | dcl ob u tt ks ds => obtain ⟨a, vs, b, c⟩ := h; exact ⟨a, vs, Reps.unren t _ _ b, c⟩
  | dcm ob u w kk ds => obtain ⟨a, vs, bs, b, c⟩ := h; exact ⟨a, vs, bs, Reps.unren t _ _ b, c⟩
  | ins C fs => obtain ⟨dx, fv, a, b⟩ := h; exact ⟨dx, fv, a, RepF.unren t _ _ b⟩
  | dead => trivial
theorem RepO.ren {H : Hp} {p : Addr} (t : ∀ (k : Nat) p, θ'[k]? = some p → θ[f k]? = some p) {o : MO} (h : RepO K F θ' H p o) : RepO K F θ H p (renO f o) := by
  cases o with
  | lst xs => obtain ⟨vs, a, b⟩ := h; exact ⟨vs, a, Reps.ren t _ _ b⟩
  | dct tt ks ds => obtain ⟨vs, a, b, c⟩ := h; exact ⟨vs, Reps.ren t _ _ a, b, c⟩
  | dcn w kk ds => obtain ⟨vs, bs, a, b, c⟩ := h; exact ⟨vs, bs, a, Reps.ren t _ _ b, c⟩
  | dcl ob u tt ks ds => obtain ⟨a, vs, b, c⟩ := h; exact ⟨a, vs, Reps.ren t _ _ b, c⟩
  | dcm ob u w kk ds => obtain ⟨a, vs, bs, b, c⟩ := h; exact ⟨a, vs, bs, Reps.ren t _ _ b, c⟩
  | ins C fs => obtain ⟨dx, fv, a, b⟩ := h; exact ⟨dx, fv, a, RepF.ren t _ _ b⟩
  | dead => trivial
end
theorem renO_dead {f : Nat → Nat} {o : MO} : renO f o = .dead ↔ o = .dead := by cases o <;> simp [renO]

/-- how a callee's cells are named by its caller: ks, then the new ones -/
def rn (ks : List Nat) (n : Nat) : Nat → Nat := fun j => match ks[j]? with
  | some k => k
  | none => n + (j - ks.length)
/-- the caller's cells behind the call -/
def putB (f : Nat → Nat) : List Nat → Mu → Mu → Mu
  | [], μ, os => μ ++ os.map (renO f)
  | k :: ks, μ, o :: os => putB f ks (μ.set k (renO f o)) os
  | _ :: _, μ, [] => μ
def Sub' (f : Nat → Nat) (ks : List Nat) (μ μs : Mu) : Prop := ks.Nodup ∧ ks.length = μs.length ∧ ∀ (j k : Nat) o, ks[j]? = some k → μs[j]? = some o → μ[k]? = some (renO f o) ∧ o ≠ .dead

theorem rn_lt {ks : List Nat} {n j k : Nat} (h : ks[j]? = some k) : rn ks n j = k := by unfold rn; rw [h]
theorem rn_ge {ks : List Nat} {n j : Nat} (h : ks.length ≤ j) : rn ks n j = n + (j - ks.length) := by unfold rn; rw [List.getElem?_eq_none h]

theorem putB_length (f : Nat → Nat) : ∀ (ks : List Nat) (μ os : Mu), ks.length ≤ os.length → (putB f ks μ os).length = μ.length + (os.length - ks.length)
  | [], μ, os, _ => by simp [putB]
  | k :: ks, μ, o :: os, h => by
    unfold putB
    rw [putB_length f ks _ os (by simpa using h)]
    simp
  | k :: ks, μ, [], h => by simp at h
theorem putB_new (f : Nat → Nat) : ∀ (ks : List Nat) (μ os : Mu) (j : Nat), ks.length ≤ os.length → (putB f ks μ os)[μ.length + j]? = (os[ks.length + j]?).map (renO f)
  | [], μ, os, j, _ => by
    unfold putB
    rw [List.getElem?_append_right (by omega), Nat.add_sub_cancel_left, List.getElem?_map]
    simp
  | k :: ks, μ, o :: os, j, h => by
    unfold putB
    have := putB_new f ks (μ.set k (renO f o)) os j (by simpa using h)
    rw [List.length_set] at this
    rw [this]
    have e : (k :: ks).length + j = (ks.length + j) + 1 := by simp; omega
    rw [e, List.getElem?_cons_succ]
  | k :: ks, μ, [], j, h => by simp at h
theorem putB_other (f : Nat → Nat) : ∀ (ks : List Nat) (μ os : Mu) (j : Nat), ks.length ≤ os.length → j < μ.length → j ∉ ks → (putB f ks μ os)[j]? = μ[j]?
  | [], μ, os, j, _, hj, _ => by
    unfold putB
    rw [List.getElem?_append_left hj]
  | k :: ks, μ, o :: os, j, h, hj, hk => by
    unfold putB
    rw [putB_other f ks _ os j (by simpa using h) (by simpa using hj) (fun z => hk (List.mem_cons_of_mem _ z)), List.getElem?_set_ne (fun e => hk (by rw [e]; exact List.mem_cons_self))]
  | k :: ks, μ, [], j, h, _, _ => by simp at h
theorem putB_old (f : Nat → Nat) : ∀ (ks : List Nat) (μ os : Mu) (j k : Nat), ks.Nodup → ks.length ≤ os.length → ks[j]? = some k → k < μ.length → (putB f ks μ os)[k]? = (os[j]?).map (renO f)
  | [], μ, os, j, k, _, _, h, _ => by simp at h
  | c :: ks, μ, o :: os, 0, k, nd, h, hj, hk => by
    simp at hj
    subst hj
    unfold putB
    have : c ∉ ks := (List.nodup_cons.mp nd).1
    rw [putB_other f ks _ os c (by simpa using h) (by simpa using hk) this, List.getElem?_set_self hk]
    rfl
  | c :: ks, μ, o :: os, j + 1, k, nd, h, hj, hk => by
    unfold putB
    have := putB_old f ks (μ.set c (renO f o)) os j k (List.nodup_cons.mp nd).2 (by simpa using h) (by simpa using hj) (by simpa using hk)
    rw [this]
    simp
  | c :: ks, μ, [], j, k, _, h, _, _ => by simp at h

section
variable {K : PySem.W.Frag} {g : Wd} {μ μs : Mu} {H : Hp} {ks : List Nat}
/-- the callee's world -/
def subW (g : Wd) (ks : List Nat) : Wd := ⟨g.F, ks.filterMap fun k => g.th[k]?⟩
theorem subW_get (a : At K g μ H) (h : Sub' (rn ks μ.length) ks μ μs) : ∀ j : Nat, (subW g ks).th[j]? = (ks[j]?).bind fun k => g.th[k]? := by
  have hl : ∀ k ∈ ks, ∃ p, g.th[k]? = some p := fun k hk => by
    obtain ⟨j, hj⟩ := List.getElem?_of_mem hk
    obtain ⟨_, e, w⟩ := h
    have hj' := (List.getElem?_eq_some_iff.mp hj).1
    have := (w j k _ hj (List.getElem?_eq_getElem (by rw [← e]; exact hj'))).1
    exact th_get a this
  unfold subW
  clear h a
  intro j
  revert j
  induction ks with
  | nil => intro j; simp
  | cons c r ih =>
    intro j
    obtain ⟨p, hp⟩ := hl c List.mem_cons_self
    rw [List.filterMap_cons, hp]
    cases j with
    | zero => simp [hp]
    | succ j =>
      have := ih (fun k hk => hl k (List.mem_cons_of_mem _ hk)) j
      simpa using this
theorem subW_un (a : At K g μ H) (h : Sub' (rn ks μ.length) ks μ μs) : ∀ (k : Nat) p, g.th[rn ks μ.length k]? = some p → (subW g ks).th[k]? = some p := fun k p e => by
  rw [subW_get a h]
  cases q : ks[k]? with
  | some c => rw [rn_lt q] at e; exact e
  | none =>
    rw [rn_ge (List.getElem?_eq_none_iff.mp q), List.getElem?_eq_none (by rw [a.len]; omega)] at e
    cases e
theorem subW_at (a : At K g μ H) (h : Sub' (rn ks μ.length) ks μ μs) : At K (subW g ks) μs H := by
  have un := subW_un a h
  have gt := subW_get a h
  obtain ⟨nd, e, w⟩ := h
  have lk : ∀ (j : Nat) o, μs[j]? = some o → ∃ k, ks[j]? = some k ∧ μ[k]? = some (renO (rn ks μ.length) o) ∧ o ≠ .dead := fun j o ho => by
    have hj := (List.getElem?_eq_some_iff.mp ho).1
    rw [← e] at hj
    exact ⟨_, List.getElem?_eq_getElem hj, w j _ o (List.getElem?_eq_getElem hj) ho⟩
  have lenθ : (subW g ks).th.length = ks.length := by
    apply Nat.le_antisymm
    · unfold subW; exact List.length_filterMap_le _ _
    · apply Nat.le_of_not_lt
      intro hlt
      have h1 := gt (subW g ks).th.length
      rw [List.getElem?_eq_none (Nat.le_refl _), List.getElem?_eq_getElem hlt] at h1
      have hlt2 : (subW g ks).th.length < μs.length := by rw [← e]; exact hlt
      obtain ⟨k, hk, hm, _⟩ := lk _ _ (List.getElem?_eq_getElem hlt2)
      rw [List.getElem?_eq_getElem hlt] at hk
      cases hk
      obtain ⟨p, hp⟩ := th_get a hm
      rw [Option.bind_some, hp] at h1
      cases h1
  refine ⟨a.sub, by rw [lenθ, e], fun j o p h1 h2 h3 => ?_, fun i j p li lj h1 h2 => ?_, fun p hp => ?_, a.tab⟩
  · obtain ⟨k, hk, hm, _⟩ := lk j o h1
    rw [gt, hk, Option.bind_some] at h2
    obtain ⟨x, y⟩ := a.obj k _ p hm h2 (fun z => h3 (renO_dead.mp z))
    exact ⟨x, RepO.unren un y⟩
  · obtain ⟨o1, ho1, _⟩ := li
    obtain ⟨o2, ho2, _⟩ := lj
    obtain ⟨k1, hk1, hm1, d1⟩ := lk i o1 ho1
    obtain ⟨k2, hk2, hm2, d2⟩ := lk j o2 ho2
    rw [gt, hk1, Option.bind_some] at h1
    rw [gt, hk2, Option.bind_some] at h2
    have ek := a.inj k1 k2 p ⟨_, hm1, fun z => d1 (renO_dead.mp z)⟩ ⟨_, hm2, fun z => d2 (renO_dead.mp z)⟩ h1 h2
    subst ek
    exact nd_ix nd hk1 hk2
  · obtain ⟨j, hj⟩ := List.getElem?_of_mem hp
    rw [gt] at hj
    cases q : ks[j]? with
    | none => rw [q] at hj; cases hj
    | some k => rw [q, Option.bind_some] at hj; exact a.al _ (List.mem_of_getElem? hj)
theorem subW_mem (a : At K g μ H) (h : Sub' (rn ks μ.length) ks μ μs) {p : Addr} (hp : p ∈ (subW g ks).th) : ∃ (k : Nat), k ∈ ks ∧ g.th[k]? = some p := by
  obtain ⟨j, hj⟩ := List.getElem?_of_mem hp
  rw [subW_get a h] at hj
  cases q : ks[j]? with
  | none => rw [q] at hj; cases hj
  | some k => rw [q, Option.bind_some] at hj; exact ⟨k, List.mem_of_getElem? q, hj⟩

theorem repO_notTup {K : PySem.W.Frag} {F H : Hp} {θ : List Addr} {p : Addr} {o : MO} (hd : o ≠ .dead) (r : RepO K F θ H p o) : ∀ vs, H p ≠ some (.tup vs) := fun vs e => by
  cases o with
  | lst xs => obtain ⟨_, h, _⟩ := r; rw [h] at e; cases e
  | dct tt ks ds =>
    obtain ⟨_, _, _, h⟩ := r
    rcases h with ⟨_, _, h⟩ | ⟨_, _, h⟩ <;> (rw [h] at e; cases e)
  | dcn w kk ds => obtain ⟨_, _, h, _⟩ := r; rw [h] at e; cases e
  | dcl ob u tt ks ds => obtain ⟨h, _⟩ := r; rw [h] at e; cases e
  | dcm ob u w kk ds => obtain ⟨h, _⟩ := r; rw [h] at e; cases e
  | ins C fs => obtain ⟨_, _, h, _⟩ := r; rw [h] at e; cases e
  | dead => exact hd rfl
/-- behind the call -/
theorem putB_at (a : At K g μ H) (h : Sub' (rn ks μ.length) ks μ μs) {g2 : Wd} {μ2 : Mu} {H2 : Hp} (a2 : At K g2 μ2 H2) (e2 : Ext (subW g ks) H g2 H2) :
    ∃ g', At K g' (putB (rn ks μ.length) ks μ μ2) H2 ∧ Ext g H g' H2 ∧ ∀ d v, Rep K g2.F g2.th d v → Rep K g'.F g'.th (ren (rn ks μ.length) d) v := by
  obtain ⟨more, em, fm⟩ := e2.th
  have gt := subW_get a h
  have lenθ : (subW g ks).th.length = ks.length := by rw [(subW_at a h).len, h.2.1]
  have len2 : μ2.length = ks.length + more.length := by rw [← a2.len, em, List.length_append, lenθ]
  -- how the callee's places lie in the caller's
  have rev : ∀ (k : Nat) p, g2.th[k]? = some p → (g.th ++ more)[rn ks μ.length k]? = some p := fun k p e => by
    rw [em] at e
    by_cases hk : k < ks.length
    · rw [List.getElem?_append_left (by rw [lenθ]; exact hk), gt, List.getElem?_eq_getElem hk, Option.bind_some] at e
      rw [rn_lt (List.getElem?_eq_getElem hk), List.getElem?_append_left (List.getElem?_eq_some_iff.mp e).1]
      exact e
    · rw [List.getElem?_append_right (by rw [lenθ]; omega), lenθ] at e
      rw [rn_ge (by omega), List.getElem?_append_right (by rw [a.len]; omega), a.len, Nat.add_sub_cancel_left]
      exact e
  have hks : ∀ k ∈ ks, k < μ.length := fun k hk => by
    obtain ⟨j, hj⟩ := List.getElem?_of_mem hk
    have hj' := (List.getElem?_eq_some_iff.mp hj).1
    exact (List.getElem?_eq_some_iff.mp (h.2.2 j k _ hj (List.getElem?_eq_getElem (by rw [← h.2.1]; exact hj'))).1).1
  have hle : ks.length ≤ μ2.length := by omega
  -- which object stands at a place of the caller
  have look : ∀ (k : Nat) o, (putB (rn ks μ.length) ks μ μ2)[k]? = some o → (k < μ.length ∧ k ∉ ks ∧ μ[k]? = some o) ∨ ∃ (j : Nat) (u : MO), μ2[j]? = some u ∧ rn ks μ.length j = k ∧ o = renO (rn ks μ.length) u := fun k o ho => by
    by_cases hk : k < μ.length
    · by_cases hm : k ∈ ks
      · obtain ⟨j, hj⟩ := List.getElem?_of_mem hm
        rw [putB_old _ ks μ μ2 j k h.1 hle hj hk] at ho
        cases q : μ2[j]? with
        | none => rw [q] at ho; cases ho
        | some u => rw [q] at ho; exact .inr ⟨j, u, q, rn_lt hj, (Option.some.inj ho).symm⟩
      · rw [putB_other _ ks μ μ2 k hle hk hm] at ho
        exact .inl ⟨hk, hm, ho⟩
    · have e : k = μ.length + (k - μ.length) := by omega
      rw [e, putB_new _ ks μ μ2 _ hle] at ho
      cases q : μ2[ks.length + (k - μ.length)]? with
      | none => rw [q] at ho; cases ho
      | some u =>
        rw [q] at ho
        exact .inr ⟨_, u, q, by rw [rn_ge (by omega)]; omega, (Option.some.inj ho).symm⟩
  have rinj : ∀ (j : Nat) u p, μ2[j]? = some u → (g.th ++ more)[rn ks μ.length j]? = some p → g2.th[j]? = some p := fun j u p hu hp => by
    obtain ⟨q, hq⟩ := th_get a2 hu
    rw [rev j q hq] at hp
    rw [hq]
    exact hp
  have other : ∀ (k : Nat) o p, k < μ.length → k ∉ ks → μ[k]? = some o → o ≠ .dead → (g.th ++ more)[k]? = some p → g.th[k]? = some p ∧ p ∉ (subW g ks).th ∧ g.F p = none ∧ H p ≠ none := fun k o p hk hm ho hd hp => by
    rw [List.getElem?_append_left (by rw [a.len]; exact hk)] at hp
    refine ⟨hp, fun z => ?_, (a.obj k o p ho hp hd).1, fun z => ?_⟩
    · obtain ⟨c, hc, hcp⟩ := subW_mem a h z
      obtain ⟨j, hj⟩ := List.getElem?_of_mem hc
      have hj' := (List.getElem?_eq_some_iff.mp hj).1
      have w := h.2.2 j c _ hj (List.getElem?_eq_getElem (by rw [← h.2.1]; exact hj'))
      have := a.inj k c p ⟨o, ho, hd⟩ ⟨_, w.1, fun z => w.2 (renO_dead.mp z)⟩ hp hcp
      exact hm (this ▸ hc)
    · obtain ⟨o', e⟩ := a.al p (List.mem_of_getElem? hp)
      rw [e] at z; cases z
  have eF : Sub g.F g2.F := e2.F
  have nF : ∀ p, g.F p = none → H p ≠ none → p ∉ (subW g ks).th → (∀ vs, H p ≠ some (.tup vs)) → g2.F p = none := fun p h1 h2 h3 h4 => by
    cases q : g2.F p with
    | none => rfl
    | some o =>
      rcases e2.nw p o q h1 with z | z | ⟨vs, z⟩
      · exact absurd z h2
      · exact absurd z h3
      · exact absurd z (h4 vs)
  refine ⟨⟨g2.F, g.th ++ more⟩, ⟨a2.sub, by rw [putB_length _ ks μ μ2 hle]; simp [a.len]; omega, fun k o p h1 h2 h3 => ?_, fun i j p li lj h1 h2 => ?_, fun p hp => ?_, a2.tab⟩, ⟨eF, ⟨more, rfl, fm⟩, fun b o hb hn nt => ?_, fun b ps hb hn => ?_, e2.ek, fun b o h1 h2 => ?_, e2.dom⟩, fun d v r => Rep.ren rev d v r⟩
  · rcases look k o h1 with ⟨hk, hm, ho⟩ | ⟨j, u, hu, ej, rfl⟩
    · obtain ⟨x1, x2, x3, x4⟩ := other k o p hk hm ho h3 h2
      obtain ⟨y1, y2⟩ := a.obj k o p ho x1 h3
      refine ⟨nF p x3 x4 x2 (repO_notTup h3 y2), RepO.mono eF (fun k q e => ?_) (fun _ => ?_) y2⟩
      · show (g.th ++ more)[k]? = some q
        rw [List.getElem?_append_left (List.getElem?_eq_some_iff.mp e).1]; exact e
      · obtain ⟨o', ho'⟩ := a.al p (List.mem_of_getElem? x1)
        rw [ho']; exact e2.fr _ _ ho' x2 fun ps z => plain_tbl (repO_plain h3 y2) ps (by rw [ho', z])
    · subst ej
      have hp := rinj j u p hu h2
      obtain ⟨x, y⟩ := a2.obj j u p hu hp (fun z => h3 (renO_dead.mpr z))
      exact ⟨x, RepO.ren rev y⟩
  · obtain ⟨o1, ho1, d1⟩ := li
    obtain ⟨o2, ho2, d2⟩ := lj
    rcases look i o1 ho1 with ⟨hi, mi, hoi⟩ | ⟨ji, ui, hui, eji, rfl⟩
    · obtain ⟨x1, x2, x3, x4⟩ := other i o1 p hi mi hoi d1 h1
      rcases look j o2 ho2 with ⟨hj, mj, hoj⟩ | ⟨jj, uj, huj, ejj, rfl⟩
      · exact a.inj i j p ⟨o1, hoi, d1⟩ ⟨o2, hoj, d2⟩ x1 (other j o2 p hj mj hoj d2 h2).1
      · subst ejj
        have hp := rinj jj uj p huj h2
        exfalso
        have hm := List.mem_of_getElem? hp
        rw [em] at hm
        rcases List.mem_append.mp hm with z | z
        · exact x2 z
        · exact x4 (fm p z)
    · subst eji
      have hpi := rinj ji ui p hui h1
      rcases look j o2 ho2 with ⟨hj, mj, hoj⟩ | ⟨jj, uj, huj, ejj, rfl⟩
      · obtain ⟨x1, x2, x3, x4⟩ := other j o2 p hj mj hoj d2 h2
        exfalso
        have hm := List.mem_of_getElem? hpi
        rw [em] at hm
        rcases List.mem_append.mp hm with z | z
        · exact x2 z
        · exact x4 (fm p z)
      · subst ejj
        have hpj := rinj jj uj p huj h2
        have := a2.inj ji jj p ⟨ui, hui, fun z => d1 (renO_dead.mpr z)⟩ ⟨uj, huj, fun z => d2 (renO_dead.mpr z)⟩ hpi hpj
        rw [this]
  · rcases List.mem_append.mp hp with z | z
    · obtain ⟨o, e⟩ := a.al p z
      exact e2.dom _ _ e
    · exact a2.al p (by rw [em]; exact List.mem_append_right _ z)
  · exact e2.fr _ _ hb (fun z => by
      obtain ⟨k, _, hk⟩ := subW_mem a h z
      exact hn (List.mem_of_getElem? hk)) nt
  · exact e2.tb _ _ hb (fun z => by
      obtain ⟨k, _, hk⟩ := subW_mem a h z
      exact hn (List.mem_of_getElem? hk))
  · rcases e2.nw b o h1 h2 with z | z | z
    · exact .inl z
    · obtain ⟨k, _, hk⟩ := subW_mem a h z
      exact .inr (.inl (List.mem_of_getElem? hk))
    · exact .inr (.inr z)
end
end SW

end

section
set_option Elab.async false
set_option linter.all false
set_option maxRecDepth 100000
namespace SW
open PySem L2 PyProof.Rows

/-! ### data without cells -/
mutual
def noC : D → Bool
  | .non => true
  | .bl _ => true
  | .int _ => true
  | .str _ => true
  | .tup xs => noCs xs
  | .lst xs => noCs xs
  | .scr xs => noCs xs
  | .dct _ _ vs => noCs vs
  | .dcn _ _ vs => noCs vs
  | .cell _ => false
  | .val _ => true
  | .exc _ => true
def noCs : List D → Bool
  | [] => true
  | x :: xs => noC x && noCs xs
end
def noCF : List (Str × D) → Bool
  | [] => true
  | (_, d) :: r => noC d && noCF r
def noCO : MO → Bool
  | .lst xs => noCs xs
  | .dct _ _ vs => noCs vs
  | .dcn _ _ vs => noCs vs
  | .dcl _ _ _ _ vs => noCs vs
  | .dcm _ _ _ _ vs => noCs vs
  | .ins _ fs => noCF fs
  | .dead => true
def noCM : Mu → Bool
  | [] => true
  | o :: r => noCO o && noCM r
mutual
theorem ren_noC (f : Nat → Nat) : ∀ d : D, noC d = true → ren f d = d
  | .non, _ => rfl
  | .bl _, _ => rfl
  | .int _, _ => rfl
  | .str _, _ => rfl
  | .val _, _ => rfl
  | .exc _, _ => rfl
  | .cell _, h => by cases h
  | .tup xs, h => by unfold noC at h; unfold ren; rw [rens_noC f xs h]
  | .lst xs, h => by unfold noC at h; unfold ren; rw [rens_noC f xs h]
  | .scr xs, h => by unfold noC at h; unfold ren; rw [rens_noC f xs h]
  | .dct tt ks xs, h => by unfold noC at h; unfold ren; rw [rens_noC f xs h]
  | .dcn w kk xs, h => by unfold noC at h; unfold ren; rw [rens_noC f xs h]
theorem rens_noC (f : Nat → Nat) : ∀ ds : List D, noCs ds = true → rens f ds = ds
  | [], _ => rfl
  | x :: xs, h => by
    unfold noCs at h
    rw [Bool.and_eq_true] at h
    unfold rens
    rw [ren_noC f x h.1, rens_noC f xs h.2]
end
theorem renF_noC (f : Nat → Nat) : ∀ fs : List (Str × D), noCF fs = true → renF f fs = fs
  | [], _ => rfl
  | (x, d) :: r, h => by
    unfold noCF at h
    rw [Bool.and_eq_true] at h
    unfold renF
    rw [ren_noC f d h.1, renF_noC f r h.2]
theorem renO_noC (f : Nat → Nat) : ∀ o : MO, noCO o = true → renO f o = o
  | .lst xs, h => by show MO.lst (rens f xs) = _; rw [rens_noC f xs h]
  | .dct tt ks xs, h => by show MO.dct tt ks (rens f xs) = _; rw [rens_noC f xs h]
  | .dcn w kk xs, h => by show MO.dcn w kk (rens f xs) = _; rw [rens_noC f xs h]
  | .dcl ob u tt ks xs, h => by show MO.dcl ob u tt ks (rens f xs) = _; rw [rens_noC f xs h]
  | .dcm ob u w kk xs, h => by show MO.dcm ob u w kk (rens f xs) = _; rw [rens_noC f xs h]
  | .ins C fs, h => by show MO.ins C (renF f fs) = _; rw [renF_noC f fs h]
  | .dead, _ => rfl
theorem noCs_map {α : Type} (f : α → D) (h : ∀ a, noC (f a) = true) : ∀ l : List α, noCs (l.map f) = true
  | [] => rfl
  | a :: l => by
    rw [List.map_cons]
    unfold noCs
    rw [h a, noCs_map f h l]
    rfl
theorem noCs_app : ∀ {l r : List D}, noCs l = true → noCs r = true → noCs (l ++ r) = true
  | [], r, _, h => h
  | a :: l, r, h, h2 => by
    unfold noCs at h
    rw [Bool.and_eq_true] at h
    rw [List.cons_append]
    unfold noCs
    rw [h.1, noCs_app h.2 h2]
    rfl
theorem rep_noC {K : PySem.W.Frag} {F : Hp} {θ θ' : List Addr} {d : D} {v : V} (h : noC d = true) (r : Rep K F θ d v) : Rep K F θ' d v := by
  have r' : Rep K F θ (ren (fun k => k + θ.length) d) v := by rw [ren_noC _ _ h]; exact r
  exact Rep.unren (fun k p e => by
    rw [List.getElem?_eq_none (by omega)] at e
    cases e) d v r'
theorem repO_noC {K : PySem.W.Frag} {F : Hp} {θ θ' : List Addr} {H : Hp} {p : Addr} {o : MO} (h : noCO o = true) (r : RepO K F θ H p o) : RepO K F θ' H p o := by
  have r' : RepO K F θ H p (renO (fun k => k + θ.length) o) := by rw [renO_noC _ _ h]; exact r
  exact RepO.unren (fun k p e => by
    rw [List.getElem?_eq_none (by omega)] at e
    cases e) r'
theorem noCM_get : ∀ {μ : Mu} {k : Nat} {o : MO}, noCM μ = true → μ[k]? = some o → noCO o = true
  | o :: r, 0, u, h, e => by
    unfold noCM at h
    rw [Bool.and_eq_true] at h
    simp at e
    rw [← e]; exact h.1
  | o :: r, k + 1, u, h, e => by
    unfold noCM at h
    rw [Bool.and_eq_true] at h
    exact noCM_get h.2 (by simpa using e)
  | [], k, u, h, e => by simp at e
/-- the newer cells are let go -/
theorem At.drop {K : PySem.W.Frag} {g : Wd} {μ : Mu} {H : Hp} (a : At K g μ H) (n : Nat) (h : noCM (μ.take n) = true) : At K ⟨g.F, g.th.take n⟩ (μ.take n) H := by
  have old : ∀ (k : Nat) o, (μ.take n)[k]? = some o → μ[k]? = some o := fun k o e => by
    rw [List.getElem?_take] at e
    split at e
    · exact e
    · cases e
  have oldθ : ∀ (k : Nat) p, (g.th.take n)[k]? = some p → g.th[k]? = some p := fun k p e => by
    rw [List.getElem?_take] at e
    split at e
    · exact e
    · cases e
  refine ⟨a.sub, by simp [a.len], fun k o p h1 h2 h3 => ?_, fun j k p ⟨u, hu, du⟩ ⟨w, hw, dw⟩ h1 h2 => a.inj j k p ⟨u, old _ _ hu, du⟩ ⟨w, old _ _ hw, dw⟩ (oldθ _ _ h1) (oldθ _ _ h2), fun p hp => a.al p (List.mem_of_mem_take hp), a.tab⟩
  obtain ⟨x, y⟩ := a.obj k o p (old _ _ h1) (oldθ _ _ h2) h3
  exact ⟨x, repO_noC (noCM_get h h1) y⟩
theorem Ext.drop {g g' : Wd} {H H' : Hp} (e : Ext g H g' H') : Ext g H ⟨g'.F, g'.th.take g.th.length⟩ H' := by
  obtain ⟨more, h1, h2⟩ := e.th
  exact ⟨e.F, ⟨[], by show g'.th.take g.th.length = _; rw [h1]; simp, by simp⟩, e.fr, e.tb, e.ek, e.nw, e.dom⟩

/-! ### defs -/
abbrev FE := Value → Mu → Prop
abbrev DSp := List D → Mu → DQ → FE → Prop
def upF (K : PySem.W.Frag) (S : DSp) : Sp := fun vs H Q E => ∃ (g : Wd) (μ : Mu) (ds : List D) (Q' : DQ) (E' : FE), At K g μ H ∧ Reps K g.F g.th ds vs ∧ S ds μ Q' E' ∧
  (∀ g' H' μ' d v, At K g' μ' H' → Ext g H g' H' → Rep K g'.F g'.th d v → Q' d μ' → Q v H') ∧
  (∀ g' H' μ' C, At K g' μ' H' → Ext g H g' H' → E' C μ' → E C none H')
structure Fd (P : Program) (w : World) (K : PySem.W.Frag) (mg : Str → Option Value) (base : Heap) (x : Str) (k : Nat) (S : DSp) : Prop where
  ex : ∃ f fd ps, FnOk P w K mg base (L2.CX P w) k f fd ps (upF K S) ∧ mg x = some (.ref f) ∧ PySem.W.keepIn K (.ref f) = true ∧ Binds K fd ps []
/-- a def of the text -/
structure GFun (K : PySem.W.Frag) (mg : Str → Option Value) (x : Str) (st : Stmt) (ps : List Str) : Prop where
  ex : ∃ f fd, Fun K x x st f fd ∧ mg x = some (.ref f) ∧ Binds K fd ps []
def startD (N : List Str) (ds : List D) : DS := ds.map some ++ List.replicate (N.length - ds.length) none
theorem sl_start {K : PySem.W.Frag} {g : Wd} {N : List Str} {ds : List D} {vs : List V} (r : Reps K g.F g.th ds vs) : Sl K g (start N vs) (startD N ds) := by
  have hl := r.length
  refine ⟨by simp [L2.start, startD, hl], fun i d h => ?_⟩
  unfold startD at h
  by_cases hi : i < ds.length
  · rw [List.getElem?_append_left (by simpa using hi), List.getElem?_map] at h
    cases q : ds[i]? with
    | none => rw [q] at h; cases h
    | some d' =>
      rw [q] at h
      cases h
      obtain ⟨v, hv, rv⟩ := r.get q
      refine ⟨v, ?_, rv⟩
      unfold L2.start
      rw [List.getElem?_append_left (by simp; omega), List.getElem?_map, hv]
      rfl
  · rw [List.getElem?_append_right (by simpa using hi), List.getElem?_replicate] at h
    split at h <;> cases h
/-- one newer cell is kept, the others are let go -/
theorem At.keep1 {K : PySem.W.Frag} {g : Wd} {μ : Mu} {H : Hp} (a : At K g μ H) {n k : Nat} {o : MO} {p : Addr} (hn : n ≤ k) (hk : μ[k]? = some o) (hd : o ≠ .dead) (hc : noCO o = true) (hp : g.th[k]? = some p) (h : noCM (μ.take n) = true) :
    At K ⟨g.F, g.th.take n ++ [p]⟩ (μ.take n ++ [o]) H := by
  have hlt := (List.getElem?_eq_some_iff.mp hk).1
  have hlt2 := (List.getElem?_eq_some_iff.mp hp).1
  have l1 : (μ.take n).length = n := by rw [List.length_take]; omega
  have l2 : (g.th.take n).length = n := by rw [List.length_take]; omega
  have old : ∀ (j : Nat) u, (μ.take n ++ [o])[j]? = some u → (j < n ∧ μ[j]? = some u) ∨ (j = n ∧ u = o) := fun j u e => by
    by_cases hj : j < n
    · rw [List.getElem?_append_left (by omega), List.getElem?_take, if_pos hj] at e
      exact .inl ⟨hj, e⟩
    · rw [List.getElem?_append_right (by omega), l1] at e
      have : j - n = 0 := by
        cases q : j - n with
        | zero => rfl
        | succ m => rw [q] at e; simp at e
      rw [this] at e
      simp at e
      exact .inr ⟨by omega, e.symm⟩
  have oldt : ∀ (j : Nat) q, (g.th.take n ++ [p])[j]? = some q → (j < n ∧ g.th[j]? = some q) ∨ (j = n ∧ q = p) := fun j q e => by
    by_cases hj : j < n
    · rw [List.getElem?_append_left (by omega), List.getElem?_take, if_pos hj] at e
      exact .inl ⟨hj, e⟩
    · rw [List.getElem?_append_right (by omega), l2] at e
      have : j - n = 0 := by
        cases q : j - n with
        | zero => rfl
        | succ m => rw [q] at e; simp at e
      rw [this] at e
      simp at e
      exact .inr ⟨by omega, e.symm⟩
  refine ⟨a.sub, by simp [a.len], fun j u q h1 h2 h3 => ?_, fun i j q li lj h1 h2 => ?_, fun q hq => ?_, a.tab⟩
  · rcases old j u h1 with ⟨hj, e1⟩ | ⟨ej, eu⟩
    · rcases oldt j q h2 with ⟨_, e2⟩ | ⟨ej, _⟩
      · obtain ⟨x, y⟩ := a.obj j u q e1 e2 h3
        refine ⟨x, repO_noC (noCM_get h (by rw [List.getElem?_take, if_pos hj]; exact e1)) y⟩
      · omega
    · rcases oldt j q h2 with ⟨hj, _⟩ | ⟨_, eq⟩
      · omega
      · subst eu eq
        obtain ⟨x, y⟩ := a.obj k _ _ hk hp hd
        exact ⟨x, repO_noC hc y⟩
  · obtain ⟨u, hu, du⟩ := li
    obtain ⟨w, hw, dw⟩ := lj
    rcases old i u hu with ⟨hi, e1⟩ | ⟨ei, eu⟩
    · rcases oldt i q h1 with ⟨_, e1'⟩ | ⟨z, _⟩
      · rcases old j w hw with ⟨hj, e2⟩ | ⟨ej, ew⟩
        · rcases oldt j q h2 with ⟨_, e2'⟩ | ⟨z, _⟩
          · exact a.inj i j q ⟨u, e1, du⟩ ⟨w, e2, dw⟩ e1' e2'
          · omega
        · rcases oldt j q h2 with ⟨z, _⟩ | ⟨_, eq⟩
          · omega
          · subst eq
            have := a.inj i k q ⟨u, e1, du⟩ ⟨o, hk, hd⟩ e1' hp
            omega
      · omega
    · rcases oldt i q h1 with ⟨z, _⟩ | ⟨_, eq⟩
      · omega
      · subst eq
        rcases old j w hw with ⟨hj, e2⟩ | ⟨ej, ew⟩
        · rcases oldt j q h2 with ⟨_, e2'⟩ | ⟨z, _⟩
          · have := a.inj j k q ⟨w, e2, dw⟩ ⟨o, hk, hd⟩ e2' hp
            omega
          · omega
        · omega
  · rcases List.mem_append.mp hq with hq | hq
    · exact a.al q (List.mem_of_mem_take hq)
    · rw [List.mem_singleton.mp hq]
      exact a.al p (List.mem_of_getElem? hp)
theorem Ext.keep1 {g g' : Wd} {H H' : Hp} (e : Ext g H g' H') {k : Nat} {p : Addr} (hn : g.th.length ≤ k) (hp : g'.th[k]? = some p) : Ext g H ⟨g'.F, g'.th.take g.th.length ++ [p]⟩ H' := by
  obtain ⟨more, h1, h2⟩ := e.th
  refine ⟨e.F, ⟨[p], by show g'.th.take g.th.length ++ [p] = _; rw [h1]; simp, fun q hq => ?_⟩, e.fr, e.tb, e.ek, e.nw, e.dom⟩
  rw [List.mem_singleton.mp hq]
  rw [h1, List.getElem?_append_right hn] at hp
  exact h2 p (List.mem_of_getElem? hp)
/-- what a body's end is to show: the cells made on the way may be let go -/
def rtD (n : Nat) (Q : DQ) : DQ := fun d μ => (noC d = true ∧ noCM (μ.take n) = true ∧ Q d (μ.take n)) ∨ Q d μ ∨
  ∃ k o, d = .cell k ∧ n ≤ k ∧ μ[k]? = some o ∧ o ≠ .dead ∧ noCO o = true ∧ noCM (μ.take n) = true ∧ Q (.cell n) (μ.take n ++ [o])
def exD (n : Nat) (E : FE) : DE := fun C _ μ => (noCM (μ.take n) = true ∧ E C (μ.take n)) ∨ E C μ
abbrev endD (n : Nat) (Q : DQ) (E : FE) : DEnds := { nx := fun _ μ => rtD n Q .non μ, rt := rtD n Q, ex := exD n E }
theorem rtD_run {K : PySem.W.Frag} {g : Wd} {μ : Mu} {H : Hp} {n : Nat} {Q' : DQ} {Q : VK} (hn : g.th.length = n) (k : Kt K g H Q' Q) {g' : Wd} {H' : Hp} {μ' : Mu} {d : D} {v : V} (a : At K g' μ' H') (e : Ext g H g' H') (r : Rep K g'.F g'.th d v) (q : rtD n Q' d μ') : Q v H' := by
  subst hn
  rcases q with ⟨h1, h2, h3⟩ | h | ⟨j, o, rfl, hj, ho, hd, hc, hm, h⟩
  · exact k _ _ _ d v (a.drop _ h2) e.drop (rep_noC h1 r) h3
  · exact k _ _ _ d v a e r h
  · unfold Rep at r
    obtain ⟨p, rfl, hp⟩ := r
    refine k _ _ _ (.cell g.th.length) _ (a.keep1 hj ho hd hc hp hm) (e.keep1 hj hp) ?_ h
    unfold Rep
    refine ⟨p, rfl, ?_⟩
    obtain ⟨more, h1, _⟩ := e.th
    have : (g'.th.take g.th.length).length = g.th.length := by rw [h1]; simp
    show (g'.th.take g.th.length ++ [p])[g.th.length]? = some p
    rw [List.getElem?_append_right (by omega), this, Nat.sub_self]
    rfl
theorem fd_mk {P : Program} {w : World} {K : PySem.W.Frag} {mg : Str → Option Value} {base : Heap} {x : Str} {st : Stmt} {N ps : List Str} {k : Nat} {S : DSp} (F : GFun K mg x st ps) (Sc : FnScope N ps (defScope st)) (len : ∀ ds μ Q E, S ds μ Q E → ds.length = ps.length)
    (hb : ∀ (f : Addr) (cdv : Value) (A : Around) (outer : List Env) (s : Shared) (H : Hp) (E : XK), Room k (A.deeper (envOfC x (defScope st) s.heap.objs.size f cdv)) →
      Takes (cxOf (L2.CX P w) P w K mg base N x (defScope st) f cdv A outer s H E) (fun c d _ H => E c d H) →
      PassesOwn (model P w) (A.deeper (envOfC x (defScope st) s.heap.objs.size f cdv)) (envOfC x (defScope st) s.heap.objs.size f cdv) (cxOf (L2.CX P w) P w K mg base N x (defScope st) f cdv A outer s H E).xe →
      ∃ A', WSs (cxOf (L2.CX P w) P w K mg base N x (defScope st) f cdv A outer s H E) (fun c d _ H => E c d H) (defBody st) A' ∧ ∀ ds μ Q E', S ds μ Q E' → A' (endD μ.length Q E') (startD N ds) μ) :
    Fd P w K mg base x (k + 1) S := by
  obtain ⟨f, fd, F0, hm, hbd⟩ := F.ex
  refine ⟨f, fd, ps, ?_, hm, F0.kp, hbd⟩
  refine SW.okX F0 Sc (fun vs H Q E ⟨g, μ, ds, Q', E', a, r, h, _⟩ => by rw [← r.length]; exact len ds μ Q' E' h) fun cdv A outer s H vs Q E hr hsp => ?_
  obtain ⟨A', hA, run⟩ := hb f cdv A outer s H E hr (takes_of rfl rfl rfl rfl) (passes_of rfl)
  refine ⟨_, hA, ?_⟩
  obtain ⟨g, μ, ds, Q', E', a, r, h, k1, k2⟩ := hsp
  refine ⟨g, μ, startD N ds, endD μ.length Q' E', a, sl_start r, run ds μ Q' E' h, fun g' H' μ' δ' σ' a' e' s' q => ?_, fun g' H' μ' d v a' e' r' q => rtD_run (μ := μ) a.len k1 a' e' r' q, fun _ _ _ _ _ _ _ _ z => z.elim, fun _ _ _ _ _ _ _ _ z => z.elim, fun g' H' μ' C δ' σ' a' e' s' q => ?_⟩
  · exact rtD_run (μ := μ) (d := .non) (v := .non) a.len k1 a' e' (by unfold Rep; rfl) q
  · rcases q with ⟨h1, h2⟩ | h
    · have e2 := e'.drop
      rw [a.len] at e2
      exact k2 _ _ _ C (a'.drop _ h1) e2 h2
    · exact k2 _ _ _ C a' e' h
/-! ### calls -/
section
variable {X : Cx} {W : WX} {e : Expr} {es : List Expr} {A : TDA} {S : DSp} {x : Str} {p pos : Pos} {k : Nat}
theorem WX0.imp {e : Expr} {A B : TD} (h : WX0 X W e A) (i : ∀ δ μ Q E, B δ μ Q E → A δ μ Q E) : WX0 X W e B := PE.imp h fun σ H Q ⟨g, μ, δ, Q', E', a0, sl, h, k, kx⟩ => ⟨g, μ, δ, Q', E', a0, sl, i _ _ _ _ h, k, kx⟩
end
/-- with nothing that changes: ds without cells; what is told too -/
def callP (S : DSp) (ds : List D) (μ : Mu) (Q : DQ) (E : Value → Mu → Prop) : Prop := noCs ds = true ∧ S ds [] (fun d μ2 => μ2 = [] ∧ noC d = true ∧ Q d μ) (fun C μ2 => μ2 = [] ∧ E C μ)
/-- one cell handed in, first -/
def callW (S : DSp) (ds : List D) (μ : Mu) (Q : DQ) (E : Value → Mu → Prop) : Prop := ∃ k o rest, ds = .cell k :: rest ∧ noCs rest = true ∧ μ[k]? = some o ∧ noCO o = true ∧ o ≠ .dead ∧
  S (.cell 0 :: rest) [o] (fun d μ2 => ∃ o', μ2 = [o'] ∧ noC d = true ∧ noCO o' = true ∧ Q d (μ.set k o')) (fun C μ2 => ∃ o', μ2 = [o'] ∧ noCO o' = true ∧ E C (μ.set k o'))
/-- a new cell is told -/
def callN (S : DSp) (ds : List D) (μ : Mu) (Q : DQ) (E : Value → Mu → Prop) : Prop := noCs ds = true ∧ S ds [] (fun d μ2 => ∃ o, d = .cell 0 ∧ μ2 = [o] ∧ noCO o = true ∧ Q (.cell μ.length) (μ ++ [o])) (fun C μ2 => μ2 = [] ∧ E C μ)
/-- what is told is new and changes, or is data -/
def callG (S : DSp) (ds : List D) (μ : Mu) (Q : DQ) (E : Value → Mu → Prop) : Prop := noCs ds = true ∧ S ds [] (fun d μ2 => (μ2 = [] ∧ noC d = true ∧ Q d μ) ∨ ∃ o, d = .cell 0 ∧ μ2 = [o] ∧ noCO o = true ∧ Q (.cell μ.length) (μ ++ [o])) (fun C μ2 => μ2 = [] ∧ E C μ)
abbrev CForm := DSp → List D → Mu → DQ → (Value → Mu → Prop) → Prop
def dCall (c : CForm) (S : DSp) (A : TDA) : TD := fun δ μ Q E => A δ μ (fun ds μ1 => c S ds μ1 Q (fun C μ2 => E C δ μ2)) E
/-- a spec wants more where more is wanted -/
structure MonoS (S : DSp) : Prop where
  mono : ∀ ds μ Q Q' E E', (∀ d μ, Q d μ → Q' d μ) → (∀ C μ, E C μ → E' C μ) → S ds μ Q E → S ds μ Q' E'
/-- the forms are the general one's -/
def FormOk (c : CForm) (S : DSp) : Prop := ∀ ds μ Q E, c S ds μ Q E → ∃ ks ds' μs, ds = rens (rn ks μ.length) ds' ∧ Sub' (rn ks μ.length) ks μ μs ∧
  ∃ Q0 E0, S ds' μs Q0 E0 ∧ (∀ d μ2, Q0 d μ2 → Q (ren (rn ks μ.length) d) (putB (rn ks μ.length) ks μ μ2)) ∧ (∀ C μ2, E0 C μ2 → E C (putB (rn ks μ.length) ks μ μ2))
theorem sub_nil {f : Nat → Nat} {μ : Mu} : Sub' f [] μ [] := ⟨List.nodup_nil, rfl, fun j k o h => by simp at h⟩
theorem callP_ok {S : DSp} : FormOk (callP) S := by
  rintro ds μ Q E ⟨h1, h2⟩
  refine ⟨[], ds, [], (rens_noC _ _ h1).symm, sub_nil, _, _, h2, ?_, ?_⟩
  · rintro d μ2 ⟨rfl, h3, q⟩
    rw [ren_noC _ _ h3]
    simpa [putB] using q
  · rintro C μ2 ⟨rfl, q⟩
    simpa [putB] using q
theorem callN_ok {S : DSp} : FormOk (callN) S := by
  rintro ds μ Q E ⟨h1, h2⟩
  refine ⟨[], ds, [], (rens_noC _ _ h1).symm, sub_nil, _, _, h2, ?_, ?_⟩
  · rintro d μ2 ⟨o, rfl, rfl, h3, q⟩
    show Q (.cell (rn [] μ.length 0)) (μ ++ [o].map (renO _))
    rw [List.map_cons, List.map_nil, renO_noC _ _ h3]
    exact q
  · rintro C μ2 ⟨rfl, q⟩
    simpa [putB] using q
theorem callW_ok {S : DSp} : FormOk callW S := by
  rintro ds μ Q E ⟨k, o, rest, rfl, h1, h2, h3, h4, h5⟩
  refine ⟨[k], .cell 0 :: rest, [o], ?_, ⟨by simp, rfl, fun j c u hj hu => ?_⟩, _, _, h5, ?_, ?_⟩
  · show _ = .cell (rn [k] μ.length 0) :: rens _ rest
    rw [rens_noC _ _ h1]
    rfl
  · cases j with
    | zero =>
      simp at hj hu
      subst hj; subst hu
      exact ⟨by rw [renO_noC _ _ h3]; exact h2, h4⟩
    | succ j => simp at hj
  · rintro d μ2 ⟨o', rfl, h6, h7, q⟩
    rw [ren_noC _ _ h6]
    show Q d (μ.set k (renO _ o') ++ [].map _)
    rw [renO_noC _ _ h7]
    simpa using q
  · rintro C μ2 ⟨o', rfl, h7, q⟩
    show E C (μ.set k (renO _ o') ++ [].map _)
    rw [renO_noC _ _ h7]
    simpa using q
section
variable {X : Cx} {W : WX} {e : Expr} {es : List Expr} {A : TDA} {S : DSp} {x : Str} {p pos : Pos} {k : Nat}
theorem we_call {c : CForm} (hc : FormOk c S) (F : Fd X.prog X.w X.K X.mg X.base x k S) (hr : Room k X.A) (tk : Takes X W) (ha : WA X W (e :: es) A) (hg : Gl X x := by rfl) (hdb : (x == ("__debug__" : Str)) = false := by decide)
    (he : starEach (e :: es) X.env = (false, eval e X.env) :: starEach es X.env := by rfl) (hpl : (backTo pos (starEach es X.env)).any (·.1) = false := by rfl) : WX0 X W (.Call (.Name x p) (e :: es) [] pos) (dCall c S A) := by
  obtain ⟨f, fd, ps, F0, hm, hk, hb⟩ := F.ex
  refine PE.imp (pe_callS F0 hr hg hm hk hb (fun σ => passAt tk σ) ha hdb he hpl) ?_
  rintro σ H Q ⟨g, μ, δ, Q', E', a0, sl, h, kq, kx⟩
  refine ⟨g, μ, δ, _, E', a0, sl, h, fun g1 H1 μ1 ds vs a1 e1 r1 hq => ?_, kx⟩
  obtain ⟨ks, ds', μs, hd, hs, Q0, E0, q, hQ, hE⟩ := hc _ _ _ _ hq
  subst hd
  refine ⟨subW g1 ks, μs, ds', Q0, E0, subW_at a1 hs, Reps.unren (subW_un a1 hs) _ _ r1, q, fun g2 H2 μ2 d v a2 e2 r2 q2 => ?_, fun g2 H2 μ2 C a2 e2 q2 => ?_⟩
  · obtain ⟨g3, a3, e3, r3⟩ := putB_at a1 hs a2 e2
    exact kq g3 H2 _ _ v a3 (e1.trans e3) (r3 d v r2) (hQ d μ2 q2)
  · obtain ⟨g3, a3, e3, r3⟩ := putB_at a1 hs a2 e2
    exact kx g3 H2 _ C δ a3 (e1.trans e3) (sl.ext (e1.trans e3)) (hE C μ2 q2)
end
theorem takesB {X : Cx} : Takes X W0 := takes0
end SW

end

section
set_option Elab.async false
set_option linter.all false
set_option maxRecDepth 100000
namespace SW
open PySem L2

/-! ### what is walked: lists, tuples, texts, ranges -/
def chars (s : List Nat) : List D := s.map fun c => .str [c]
def itemsOf : D → Option (List D)
  | .lst xs => some xs
  | .scr xs => some xs
  | .tup xs => some xs
  | .str s => some (chars s)
  | _ => none
def dIter (A : TD) : TDI := fun δ μ Q E => A δ μ (fun x μ1 => ∃ ds, itemsOf x = some ds ∧ Q ds μ1) E
section
variable {K : PySem.W.Frag} {g : Wd} {ds : List D} {vs : List V} {p : Addr}
theorem itrep_list (h : SqL K g.F p vs) (r : Reps K g.F g.th ds vs) : ItRep K (Itl K p) ds g := by
  intro g' H' μ' i a le
  have hs : SqL K H' p vs := sub_sqL a.sub (sub_sqL le.F h)
  refine ⟨fun d hd => ?_, fun hi => ⟨vs, hs, by rw [← r.length]; omega⟩⟩
  obtain ⟨v, hv, rv⟩ := r.get hd
  refine ⟨⟨vs, v, hs, hv⟩, fun x H2 ⟨e, hx⟩ => ?_⟩
  subst e
  have := hx vs hs
  rw [hv] at this
  cases this
  exact ⟨g', a, Ext.refl _ _, rv.le le⟩
theorem itrep_tup (h : SqT K g.F p vs) (r : Reps K g.F g.th ds vs) : ItRep K (Itt K p) ds g := by
  intro g' H' μ' i a le
  have hs : SqT K H' p vs := sub_sqT a.sub (sub_sqT le.F h)
  refine ⟨fun d hd => ?_, fun hi => ⟨vs, hs, by rw [← r.length]; omega⟩⟩
  obtain ⟨v, hv, rv⟩ := r.get hd
  refine ⟨⟨vs, v, hs, hv⟩, fun x H2 ⟨e, hx⟩ => ?_⟩
  subst e
  have := hx vs hs
  rw [hv] at this
  cases this
  exact ⟨g', a, Ext.refl _ _, rv.le le⟩
theorem itrep_str (s : List Nat) : ItRep K (Its (mkS s)) (chars s) g := by
  intro g' H' μ' i a le
  unfold chars
  refine ⟨fun d hd => ?_, fun hi => ?_⟩
  · rw [List.getElem?_map] at hd
    cases e : s[i]? with
    | none => rw [e] at hd; cases hd
    | some c =>
      rw [e] at hd
      cases hd
      have hl := (List.getElem?_eq_some_iff.mp e).1
      refine ⟨by show i < s.toArray.size; simpa using hl, fun x H2 ⟨e1, c', hc, ex⟩ => ?_⟩
      subst e1
      have hc : s.toArray[i]? = some c' := hc
      rw [List.getElem?_toArray, e] at hc
      cases hc
      subst ex
      exact ⟨g', a, Ext.refl _ _, by unfold Rep; rfl⟩
  · subst hi
    show s.toArray.size ≤ _
    rw [List.length_map]
    exact Nat.le_refl _
def rangeD (lo c : Int) (n : Nat) : List D := (List.range n).map fun (i : Nat) => .int (lo + (i : Int) * c)
theorem rangeD_length (lo c : Int) (n : Nat) : (rangeD lo c n).length = n := by unfold rangeD; rw [List.length_map, List.length_range]
theorem rangeD_get {lo c : Int} {n i : Nat} {d : D} (h : (rangeD lo c n)[i]? = some d) : i < n ∧ d = .int (lo + (i : Int) * c) := by
  unfold rangeD at h
  rw [List.getElem?_map] at h
  by_cases hi : i < n
  · rw [List.getElem?_range hi] at h
    exact ⟨hi, (Option.some.inj h).symm⟩
  · rw [List.getElem?_eq_none (by simpa using hi)] at h
    cases h
theorem itrep_rng (lo : Int) (n : Nat) : ItRep K (Itr lo n) (rangeD lo 1 n) g := by
  intro g' H' μ' i a le
  refine ⟨fun d hd => ?_, fun hi => ?_⟩
  · obtain ⟨h, rfl⟩ := rangeD_get hd
    refine ⟨h, fun x H2 ⟨e1, ex⟩ => ?_⟩
    subst e1; subst ex
    exact ⟨g', a, Ext.refl _ _, by unfold Rep; rw [Int.mul_one]⟩
  · rw [hi, rangeD_length]
    exact Nat.le_refl n
theorem itrep_rngC (lo c : Int) (n : Nat) : ItRep K (Itc lo c n) (rangeD lo c n) g := by
  intro g' H' μ' i a le
  refine ⟨fun d hd => ?_, fun hi => ?_⟩
  · obtain ⟨h, rfl⟩ := rangeD_get hd
    refine ⟨h, fun x H2 ⟨e1, ex⟩ => ?_⟩
    subst e1; subst ex
    exact ⟨g', a, Ext.refl _ _, by unfold Rep; rfl⟩
  · rw [hi, rangeD_length]
    exact Nat.le_refl n
end
/-- iter(v), by values -/
def PIV (X : Cx) (tg : Expr) (r : V → Hp → (It → Hp → Prop) → Prop) : Prop := ∀ (pins : List (Addr × Obj)) (s : Shared) (σ : L2.St) (H : Hp) (x : V) (v : Value) (R : It → Hp → Prop), Inv X pins σ H s → RelV x v → r x H R →
  wpAny (model X.prog X.w) X.A (pyIter v) (PIE X pins σ tg R) X.xe s
theorem PIV.or {X : Cx} {tg : Expr} {r r' : V → Hp → (It → Hp → Prop) → Prop} (h : PIV X tg r) (h' : PIV X tg r') : PIV X tg (fun x H R => r x H R ∨ r' x H R) := fun pins s σ H x v R I rv q =>
  q.elim (h pins s σ H x v R I rv) (h' pins s σ H x v R I rv)
theorem pi_of {X : Cx} {tg e : Expr} {te : TE} {r : V → Hp → (It → Hp → Prop) → Prop} (he : PE X e te) (h : PIV X tg r) : PI X tg e (fun σ H R => te σ H fun x H1 => r x H1 R) := by
  refine ⟨fun pins s σ H R I q => thn (he.run pins s σ H _ I q) fun v s1 ⟨x, H1, I1, rv, q1⟩ => h pins s1 σ H1 x v R I1 rv q1⟩
theorem piv_list {X : Cx} {tg : Expr} : PIV X tg (fun x H R => ∃ a xs, x = .ref a ∧ SqL X.K H a xs ∧ R (Itl X.K a) H) := by
  rintro pins s σ H x v R I rv ⟨a, xs, rfl, hq, q⟩
  cases rv
  obtain ⟨its, _, pl, _⟩ := I.list hq
  exact wpAny_pyIter_list pl.isList (pi_one (tk := s.toks) I _ (turn_list a _) ⟨_, Heap.get?_push_size _ rfl, rfl, rfl⟩ q)
theorem piv_tup {X : Cx} {tg : Expr} : PIV X tg (fun x H R => ∃ a xs, x = .ref a ∧ SqT X.K H a xs ∧ R (Itt X.K a) H) := by
  rintro pins s σ H x v R I rv ⟨a, xs, rfl, hq, q⟩
  cases rv
  obtain ⟨its, _, pl, _⟩ := I.tuple hq
  exact wpAny_pyIter_tuple (show Heap.IsTuple s.heap a its.toArray from pl) (pi_one (tk := s.toks) I _ (turn_tuple a _) ⟨_, Heap.get?_push_size _ rfl, rfl, rfl⟩ q)
theorem piv_str {X : Cx} {tg : Expr} : PIV X tg (fun x H R => ∃ z, x = .str z ∧ R (Its z) H) := by
  rintro pins s σ H x v R I rv ⟨z, rfl, q⟩
  obtain ⟨t, rfl⟩ := rv
  cases ha : z.cps.all (· < 128)
  · exact wpAny_pyIter_wide ha (pi_one (tk := s.toks) I _ (turn_str _ z t _ (.inr rfl)) ⟨_, Heap.get?_push_size _ rfl, rfl, rfl⟩ q)
  · exact wpAny_pyIter_ascii ha (pi_one (tk := s.toks) I _ (turn_str _ z t _ (.inl rfl)) ⟨_, Heap.get?_push_size _ rfl, rfl, rfl⟩ q)
section
variable {X : Cx} {W : WX} {e tg : Expr} {es : List Expr} {A : TD} {TA' : TDA} {pos p : Pos}
theorem wi_any (he : WX0 X W e A) : WI X W tg e (dIter A) := by
  refine PI.imp (pi_of he (PIV.or piv_list (PIV.or piv_tup piv_str))) ?_
  rintro σ H R ⟨g, μ, δ, Q', E', a0, sl, h, k, kx⟩
  refine ⟨g, μ, δ, _, E', a0, sl, h, fun g1 H1 μ1 d v a1 e1 r1 ⟨ds, hi, q⟩ => ?_, kx⟩
  cases d with
  | lst xs =>
    cases hi
    unfold Rep at r1
    obtain ⟨p, vs, rfl, hF, rs⟩ := r1
    exact .inl ⟨p, vs, rfl, SqL.of (a1.sub _ _ hF), k g1 H1 μ1 _ _ a1 e1 (itrep_list (SqL.of hF) rs) q⟩
  | scr xs =>
    cases hi
    unfold Rep at r1
    obtain ⟨p, vs, rfl, hF, rs⟩ := r1
    exact .inl ⟨p, vs, rfl, sub_sqL a1.sub hF, k g1 H1 μ1 _ _ a1 e1 (itrep_list hF rs) q⟩
  | tup xs =>
    cases hi
    unfold Rep at r1
    obtain ⟨p, vs, rfl, hF, rs⟩ := r1
    exact .inr (.inl ⟨p, vs, rfl, SqT.of (a1.sub _ _ hF), k g1 H1 μ1 _ _ a1 e1 (itrep_tup (SqT.of hF) rs) q⟩)
  | str s =>
    cases hi
    unfold Rep at r1
    subst r1
    exact .inr (.inr ⟨_, rfl, k g1 H1 μ1 _ _ a1 e1 (itrep_str s) q⟩)
  | _ => cases hi
/-- range -/
def dRng1 (A : TDA) : TDI := fun δ μ Q E => A δ μ (fun ds μ1 => ∃ j, ds = [.int j] ∧ -(2 ^ 62) ≤ j ∧ j < 2 ^ 62 ∧ Q (rangeD 0 1 j.toNat) μ1) E
def dRng2 (A : TDA) : TDI := fun δ μ Q E => A δ μ (fun ds μ1 => ∃ i j, ds = [.int i, .int j] ∧ (-(2 ^ 62) ≤ i ∧ i < 2 ^ 62 ∧ -(2 ^ 62) ≤ j ∧ j < 2 ^ 62) ∧ Q (rangeD i 1 (j - i).toNat) μ1) E
def dRng3 (A : TDA) : TDI := fun δ μ Q E => A δ μ (fun ds μ1 => ∃ i j c n, ds = [.int i, .int j, .int c] ∧ RgC i j c n ∧ Q (rangeD i c n) μ1) E
theorem reps1 {K : PySem.W.Frag} {F : Hp} {θ : List Addr} {d : D} {vs : List V} (r : Reps K F θ [d] vs) : ∃ v, vs = [v] ∧ Rep K F θ d v := by
  unfold Reps at r
  obtain ⟨v, r, rfl, h1, h2⟩ := r
  unfold Reps at h2
  subst h2
  exact ⟨v, rfl, h1⟩
theorem reps2 {K : PySem.W.Frag} {F : Hp} {θ : List Addr} {d d2 : D} {vs : List V} (r : Reps K F θ [d, d2] vs) : ∃ v w, vs = [v, w] ∧ Rep K F θ d v ∧ Rep K F θ d2 w := by
  unfold Reps at r
  obtain ⟨v, r, rfl, h1, h2⟩ := r
  obtain ⟨w, rfl, h3⟩ := reps1 h2
  exact ⟨v, w, rfl, h1, h3⟩
theorem reps3 {K : PySem.W.Frag} {F : Hp} {θ : List Addr} {d d2 d3 : D} {vs : List V} (r : Reps K F θ [d, d2, d3] vs) : ∃ v w u, vs = [v, w, u] ∧ Rep K F θ d v ∧ Rep K F θ d2 w ∧ Rep K F θ d3 u := by
  unfold Reps at r
  obtain ⟨v, r, rfl, h1, h2⟩ := r
  obtain ⟨w, u, rfl, h3, h4⟩ := reps2 h2
  exact ⟨v, w, u, rfl, h1, h3, h4⟩
theorem rep_int {K : PySem.W.Frag} {F : Hp} {θ : List Addr} {i : Int} {v : V} (r : Rep K F θ (.int i) v) : v = .int i := by unfold Rep at r; exact r
theorem rep_blv {K : PySem.W.Frag} {F : Hp} {θ : List Addr} {i : Bool} {v : V} (r : Rep K F θ (.bl i) v) : v = .bl i := by unfold Rep at r; exact r
theorem rep_str {K : PySem.W.Frag} {F : Hp} {θ : List Addr} {i : List Nat} {v : V} (r : Rep K F θ (.str i) v) : v = .str (mkS i) := by unfold Rep at r; exact r
theorem wi_rng1 {a : Expr} (hm : X.mg "range" = none) (ha : WA X W [a] TA') (hg : Gl X "range" := by rfl) (hs : starEach [a] X.env = [(false, eval a X.env)] := by rfl) : WI X W tg (.Call (.Name "range" p) [a] [] pos) (dRng1 TA') := by
  refine PI.imp (pi_range1 hg hm ha hs) ?_
  rintro σ H R ⟨g, μ, δ, Q', E', a0, sl, h, k, kx⟩
  refine ⟨g, μ, δ, _, E', a0, sl, h, fun g1 H1 μ1 ds vs a1 e1 r1 ⟨j, hd, h1, h2, q⟩ => ?_, kx⟩
  subst hd
  obtain ⟨v, rfl, rv⟩ := reps1 r1
  obtain rfl := rep_int rv
  exact ⟨j, rfl, h1, h2, k g1 H1 μ1 _ _ a1 e1 (itrep_rng 0 _) q⟩
theorem wi_rng3 {a b c : Expr} (hm : X.mg "range" = none) (ha : WA X W [a, b, c] TA') (hg : Gl X "range" := by rfl) (hs : starEach [a, b, c] X.env = (false, eval a X.env) :: starEach [b, c] X.env := by rfl) (hpl : (backTo pos (starEach [b, c] X.env)).any (·.1) = false := by rfl) :
    WI X W tg (.Call (.Name "range" p) [a, b, c] [] pos) (dRng3 TA') := by
  refine PI.imp (pi_range3 hg hm ha hs hpl) ?_
  rintro σ H R ⟨g, μ, δ, Q', E', a0, sl, h, k, kx⟩
  refine ⟨g, μ, δ, _, E', a0, sl, h, fun g1 H1 μ1 ds vs a1 e1 r1 ⟨i, j, c, n, hd, h1, q⟩ => ?_, kx⟩
  subst hd
  obtain ⟨v, w, u, rfl, rv, rw', ru⟩ := reps3 r1
  obtain rfl := rep_int rv
  obtain rfl := rep_int rw'
  obtain rfl := rep_int ru
  exact ⟨i, j, c, n, rfl, h1, k g1 H1 μ1 _ _ a1 e1 (itrep_rngC i c n) q⟩
end

/-! ### enumerate and zip over lists, tuples, texts -/
inductive Kd where
  | lst | tup | txt
/-- what is read of a source -/
def Sv (K : PySem.W.Frag) (H : Hp) : Kd → V → List V → Prop
  | .lst, x, xs => ∃ a, x = .ref a ∧ SqL K H a xs
  | .tup, x, xs => ∃ a, x = .ref a ∧ SqT K H a xs
  | .txt, x, xs => ∃ z : Str, x = .str z ∧ xs = z.cps.toList.map fun c => .str ⟨#[c]⟩
/-- its iterator's own state -/
def Own : Kd → Value → Addr → Nat → Heap → Prop
  | .lst, v, it, i, h => ∃ a, v = .ref a ∧ h.IsListIter it a i
  | .tup, v, it, i, h => ∃ a, v = .ref a ∧ h.IsTupleIter it a i
  | .txt, v, it, i, h => ∃ z t, v = .str z t ∧ h.IsStrIter it (strIterType z) z t i
theorem own_obj {k : Kd} {v : Value} {it : Addr} {i : Nat} {h : Heap} (o : Own k v it i h) : ∃ ob, h.get? it = some ob ∧ ∀ v, ob.data ≠ .cell v := by
  cases k with
  | lst => obtain ⟨a, _, ob, e, c, d⟩ := o; exact ⟨ob, e, fun v z => by rw [d] at z; cases z⟩
  | tup => obtain ⟨a, _, ob, e, c, d⟩ := o; exact ⟨ob, e, fun v z => by rw [d] at z; cases z⟩
  | txt => obtain ⟨z, t, _, ob, e, c, d⟩ := o; exact ⟨ob, e, fun v z => by rw [d] at z; cases z⟩
theorem own_at {k : Kd} {v : Value} {it : Addr} {i : Nat} {h h' : Heap} (o : Own k v it i h) (e : ∀ ob, h.get? it = some ob → h'.get? it = some ob) : Own k v it i h' := by
  cases k with
  | lst => obtain ⟨a, ev, ob, x, c⟩ := o; exact ⟨a, ev, ob, e _ x, c⟩
  | tup => obtain ⟨a, ev, ob, x, c⟩ := o; exact ⟨a, ev, ob, e _ x, c⟩
  | txt => obtain ⟨z, t, ev, ob, x, c⟩ := o; exact ⟨z, t, ev, ob, e _ x, c⟩
/-- what a source draws, at a state -/
structure DrawsAt (X : Cx) (pins : List (Addr × Obj)) (H : Hp) (xs : List V) (k : Kd) (v : Value) (it : Addr) (i : Nat) (h : Heap) (fp : List Addr) (P : Nat → Value → Prop) (St : Nat → Heap → Prop) : Prop where
  D : ∀ A : Around, A.handled = none → Draws X.prog X.w A it fp xs.length P St
  now : St i h
  own : ∀ j h', St j h' → Own k v it j h'
  val : ∀ j u, P j u → ∃ y, xs[j]? = some y ∧ RelV y u
  mem : it ∈ fp
  oth : ∀ b ∈ fp, b ≠ it → ∀ c, FpOk X pins H c → c ≠ b
theorem fp_ne {X : Cx} {pins : List (Addr × Obj)} {σ : L2.St} {H : Hp} {s : Shared} (I : Inv X pins σ H s) {a c : Addr} (ha : (∃ o, H a = some o) ∨ ∃ o, X.K.lookup a = some o) (hc : FpOk X pins H c) : c ≠ a := by
  rintro rfl
  rcases ha with ⟨o, e⟩ | ⟨o, e⟩
  · rw [hc.1] at e
    cases e
  · have hb : X.base.get? c = some o := I.ok.mod.kin _ _ e
    rcases hc.2.2.2.1 with z | z
    · exact I.ok.noex c o hb z
    · have h1 := Heap.lt_size hb
      have h2 := I.ok.bsz
      exact absurd (Nat.lt_of_lt_of_le h1 (Nat.le_trans h2 z)) (Nat.lt_irrefl _)
theorem rd_some {H : Hp} {a : Addr} {u : HO} (h : Rd H a u) : ∃ o, H a = some o := h.elim (fun e => ⟨_, e⟩) fun ⟨o, e⟩ => ⟨_, e⟩
theorem sqL_at {K : PySem.W.Frag} {H : Hp} {a : Addr} {xs : List V} (h : SqL K H a xs) : (∃ o, H a = some o) ∨ ∃ o, K.lookup a = some o := h.elim (fun e => .inl (rd_some e)) fun ⟨o, _, _, e, _⟩ => .inr ⟨o, e⟩
theorem sqT_at {K : PySem.W.Frag} {H : Hp} {a : Addr} {xs : List V} (h : SqT K H a xs) : (∃ o, H a = some o) ∨ ∃ o, K.lookup a = some o := h.elim (fun e => .inl (rd_some e)) fun ⟨o, _, _, e, _⟩ => .inr ⟨o, e⟩
theorem draws_at {X : Cx} {pins : List (Addr × Obj)} {σ : L2.St} {H : Hp} {s : Shared} {k : Kd} {x : V} {v : Value} {xs : List V} {it : Addr} {i : Nat} (I : Inv X pins σ H s) (hs : Sv X.K H k x xs) (rv : RelV x v) (o : Own k v it i s.heap) :
    ∃ fp P St, DrawsAt X pins H xs k v it i s.heap fp P St := by
  cases k with
  | lst =>
    obtain ⟨a, rfl, hq⟩ := hs
    cases rv
    obtain ⟨a', ea, hit⟩ := o
    cases ea
    obtain ⟨its, rr, pl, hz⟩ := I.list hq
    have hl := pl.isList
    have ne : a ≠ it := by
      rintro rfl
      obtain ⟨o1, h1, c1, _⟩ := id hl
      obtain ⟨o2, h2, c2, _⟩ := id hit
      rw [h1] at h2
      cases h2
      rw [c1] at c2
      exact absurd c2 (by decide)
    have ez : its.toArray.size = xs.length := by rw [List.size_toArray, rr.length]
    refine ⟨_, _, _, ⟨fun A hA => ez ▸ Draws.list hA it a ne its.toArray, ⟨hit, hl⟩, fun j h' st => ⟨a, rfl, st.1⟩, fun j u hu => ?_, by simp, fun b hb hne => ?_⟩⟩
    · have hu : its.toArray[j]? = some u := hu
      have hu : its[j]? = some u := by simpa using hu
      cases q : xs[j]? with
      | none => rw [Vals.none_of rr q] at hu; cases hu
      | some y =>
        obtain ⟨u', h1, h2⟩ := rr.get q
        rw [h1] at hu
        cases hu
        exact ⟨y, rfl, h2⟩
    · have : b = a := by simpa [hne] using hb
      subst this
      exact fun c hc => fp_ne I (sqL_at hq) hc
  | tup =>
    obtain ⟨a, rfl, hq⟩ := hs
    cases rv
    obtain ⟨a', ea, hit⟩ := o
    cases ea
    obtain ⟨its, rr, pl, hz⟩ := I.tuple hq
    have hl : s.heap.IsTuple a its.toArray := pl
    have ne : a ≠ it := by
      rintro rfl
      obtain ⟨o1, h1, c1, _⟩ := id hl
      obtain ⟨o2, h2, c2, _⟩ := id hit
      rw [h1] at h2
      cases h2
      rw [c1] at c2
      exact absurd c2 (by decide)
    have ez : its.toArray.size = xs.length := by rw [List.size_toArray, rr.length]
    refine ⟨_, _, _, ⟨fun A hA => ez ▸ Draws.tuple hA it a ne its.toArray, ⟨hit, hl⟩, fun j h' st => ⟨a, rfl, st.1⟩, fun j u hu => ?_, by simp, fun b hb hne => ?_⟩⟩
    · have hu : its.toArray[j]? = some u := hu
      have hu : its[j]? = some u := by simpa using hu
      cases q : xs[j]? with
      | none => rw [Vals.none_of rr q] at hu; cases hu
      | some y =>
        obtain ⟨u', h1, h2⟩ := rr.get q
        rw [h1] at hu
        cases hu
        exact ⟨y, rfl, h2⟩
    · have : b = a := by simpa [hne] using hb
      subst this
      exact fun c hc => fp_ne I (sqT_at hq) hc
  | txt =>
    obtain ⟨z, rfl, rfl⟩ := hs
    obtain ⟨t, rfl⟩ := rv
    obtain ⟨z', t', ea, hit⟩ := o
    cases ea
    have ez : z.cps.size = (z.cps.toList.map fun c => V.str ⟨#[c]⟩).length := by simp
    refine ⟨_, _, _, ⟨fun A hA => ez ▸ Draws.text hA it z t, hit, fun j h' st => ⟨z, t, rfl, st⟩, fun j u ⟨c, u', hc, eu⟩ => ⟨.str ⟨#[c]⟩, ?_, ?_⟩, by simp, fun b hb hne => absurd (by simpa using hb) hne⟩⟩
    · rw [List.getElem?_map, Array.getElem?_toList, hc]
      rfl
    · exact ⟨u', eu⟩
end SW

end

section
set_option Elab.async false
set_option linter.all false
set_option maxRecDepth 100000
namespace SW
open PySem PySem.Spec L2

theorem sv_ext {K : PySem.W.Frag} {H H' : Hp} {k : Kd} {x : V} {xs : List V} (e : Sub H H') (h : Sv K H k x xs) : Sv K H' k x xs := by
  cases k with
  | lst => obtain ⟨a, e1, q⟩ := h; exact ⟨a, e1, sub_sqL e q⟩
  | tup => obtain ⟨a, e1, q⟩ := h; exact ⟨a, e1, sub_sqT e q⟩
  | txt => exact h
def ItE (K : PySem.W.Frag) (k : Kd) (x : V) (xs : List V) : It :=
  ⟨fun i H => i < xs.length ∧ Sv K H k x xs, fun i H v H' => ∃ T y, v = .ref T ∧ H T = none ∧ xs[i]? = some y ∧ H' = upd H T (.tup [.int (i : Nat), y]), fun i H => i = xs.length ∧ Sv K H k x xs⟩
theorem turn_enumA {P : Program} {w : World} {K : PySem.W.Frag} {elts : List Expr} {kk : Nat} {tpos : Pos} {k : Kd} {x : V} {xs : List V} {v : Value} {e it : Addr} (rv : RelV x v) :
    Turn P w K (.Tuple elts kk tpos) (ItE K k x xs) [e, it] e (fun i h => (∃ old, IsEnum h e it ((0 : Int) + (i : Int)) old) ∧ Own k v it i h ∧ e ≠ it) where
  mem := by simp
  obj := fun i h st b hb => by
    obtain ⟨⟨old, he⟩, ho, _⟩ := st
    rcases (by simpa using hb : b = e ∨ b = it) with z | z
    · subst z; exact ⟨_, he, fun v q => nomatch q⟩
    · subst z; exact own_obj ho
  keep := fun i h h' st ke => ⟨st.1.imp fun old he => ke e (by simp) _ he, own_at st.2.1 fun ob q => ke it (by simp) ob q, st.2.2⟩
  item := by
    intro X hP hw hK hc i pins s σ H E I hf st hg
    subst hP hw hK
    obtain ⟨hlt, hsv⟩ := hg
    obtain ⟨hen, ho, hne⟩ := st
    obtain ⟨fp, Pd, Sd, Da⟩ := draws_at I hsv rv ho
    have hef : e ∉ fp := fun hm => (Da.oth e hm hne e (hf e (by simp))) rfl
    refine (GoesN.enumFrom (elts := elts) (x1 := kk) (pos := tpos) 0 (Da.D X.A.in1 (I.ok.hd hc)) e hne hef Da.mem).goes i s _ E hlt ⟨hen, Da.now⟩ fun u h' tk hY st' hk htk => ?_
    obtain ⟨T, t, y, rfl, hT, hy, hTup⟩ := hY
    obtain ⟨yv, hyv, ry⟩ := Da.val i y hy
    have new : ObjOk X.prog X.w (upd H T (.tup [.int (i : Nat), yv])) h' T (.tup [.int (i : Nat), yv]) := by
      refine ⟨by show 2 ≤ sizeLine; decide, [.int (0 + (i : Int)) t, y], .cons ⟨t, by rw [Int.zero_add]⟩ (.cons ry .nil), hTup⟩
    have I1 := I.turnedNew (t' := tk) (ch := [e, it]) hk hf hT new
    refine ⟨.ref T, _, I1, rfl, ⟨T, yv, rfl, I.hok.fresh hT, hyv, rfl⟩, ⟨st'.1, Da.own _ _ st'.2, hne⟩, fun b hb => ?_⟩
    rw [upd_ne (fun z => ?_)]
    · exact (hf b hb).1
    · subst z
      obtain ⟨⟨old, he⟩, ho', _⟩ : (∃ old, IsEnum s.heap e it ((0 : Int) + (i : Int)) old) ∧ Own k v it i s.heap ∧ e ≠ it := ⟨hen, ho, hne⟩
      rcases (by simpa using hb : b = e ∨ b = it) with z | z
      · subst z; exact absurd (Nat.lt_of_lt_of_le (Heap.lt_size he) hT) (Nat.lt_irrefl _)
      · subst z; obtain ⟨ob, hob, _⟩ := own_obj ho'; exact absurd (Nat.lt_of_lt_of_le (Heap.lt_size hob) hT) (Nat.lt_irrefl _)
  done := by
    intro X hP hw hK hc i pins s σ H E I hf st hg
    subst hP hw hK
    obtain ⟨rfl, hsv⟩ := hg
    obtain ⟨hen, ho, hne⟩ := st
    obtain ⟨fp, Pd, Sd, Da⟩ := draws_at I hsv rv ho
    have hef : e ∉ fp := fun hm => (Da.oth e hm hne e (hf e (by simp))) rfl
    refine (GoesN.enumFrom (elts := elts) (x1 := kk) (pos := tpos) 0 (Da.D X.A.in1 (I.ok.hd hc)) e hne hef Da.mem).stops s (fun s1 => Inv X pins σ H s1) E ⟨hen, Da.now⟩ fun h' tk hk htk => I.turnedL (t' := tk) hk hf
  self := fun A i s Q E st h => wpAny_pyIter_enum st.1.choose_spec h

/-- pairs of two sources -/
def ItZ (K : PySem.W.Frag) (k1 k2 : Kd) (x1 x2 : V) (xs1 xs2 : List V) : It :=
  ⟨fun i H => i < min xs1.length xs2.length ∧ Sv K H k1 x1 xs1 ∧ Sv K H k2 x2 xs2, fun i H v H' => ∃ T y z, v = .ref T ∧ H T = none ∧ xs1[i]? = some y ∧ xs2[i]? = some z ∧ H' = upd H T (.tup [y, z]),
    fun i H => i = min xs1.length xs2.length ∧ Sv K H k1 x1 xs1 ∧ Sv K H k2 x2 xs2⟩
/-- five cells that lie apart -/
structure Ap5 (z TI TO i1 i2 : Addr) : Prop where
  a : TI ≠ z
  b : TO ≠ z
  c : TI ≠ TO
  d : TI ≠ i1
  e : z ≠ i1
  f : TO ≠ i1
  g : TI ≠ i2
  h : z ≠ i2
  i : TO ≠ i2
  j : i1 ≠ i2
theorem turn_zipB {P : Program} {w : World} {K : PySem.W.Frag} {elts : List Expr} {kk : Nat} {tpos : Pos} {k1 k2 : Kd} {x1 x2 : V} {xs1 xs2 : List V} {v1 v2 : Value} {z TI TO i1 i2 : Addr} (rv1 : RelV x1 v1) (rv2 : RelV x2 v2) (ap : Ap5 z TI TO i1 i2) :
    Turn P w K (.Tuple elts kk tpos) (ItZ K k1 k2 x1 x2 xs1 xs2) [z, TI, TO, i1, i2] z (fun i h => IsZip h z TI TO .none ∧ IsTupOf2 h TI (.ref i1) (.ref i2) ∧ (∃ a1 a2, IsTupOf2 h TO a1 a2) ∧ Own k1 v1 i1 i h ∧ Own k2 v2 i2 i h) where
  mem := by simp
  obj := fun i h st b hb => by
    obtain ⟨h1, h2, ⟨a1, a2, h3⟩, h4, h5⟩ := st
    rcases (by simpa using hb : b = z ∨ b = TI ∨ b = TO ∨ b = i1 ∨ b = i2) with e | e | e | e | e
    · subst e; exact ⟨_, h1, fun v q => nomatch q⟩
    · subst e; exact ⟨_, h2, fun v q => nomatch q⟩
    · subst e; exact ⟨_, h3, fun v q => nomatch q⟩
    · subst e; exact own_obj h4
    · subst e; exact own_obj h5
  keep := fun i h h' ⟨h1, h2, ⟨a1, a2, h3⟩, h4, h5⟩ ke => ⟨ke z (by simp) _ h1, ke TI (by simp) _ h2, ⟨a1, a2, ke TO (by simp) _ h3⟩, own_at h4 fun ob q => ke i1 (by simp) ob q, own_at h5 fun ob q => ke i2 (by simp) ob q⟩
  item := by
    intro X hP hw hK hc i pins s σ H E I hf st hg
    subst hP hw hK
    obtain ⟨hlt, hs1, hs2⟩ := hg
    obtain ⟨h1, h2, h3, h4, h5⟩ := id st
    obtain ⟨fp1, P1, S1, D1⟩ := draws_at I hs1 rv1 h4
    obtain ⟨fp2, P2, S2, D2⟩ := draws_at I hs2 rv2 h5
    have no1 : ∀ c ∈ [z, TI, TO, i1, i2], c ≠ i1 → c ∉ fp1 := fun c hc2 hne hm => D1.oth c hm hne c (hf c hc2) rfl
    have no2 : ∀ c ∈ [z, TI, TO, i1, i2], c ≠ i2 → c ∉ fp2 := fun c hc2 hne hm => D2.oth c hm hne c (hf c hc2) rfl
    have sep : ZipSep2 z TI TO i1 i2 fp1 fp2 := ⟨ap.a, ap.b, ap.c, ap.d, D1.mem, no1 z (by simp) ap.e, no1 TO (by simp) ap.f, ap.g, D2.mem, no2 z (by simp) ap.h, no2 TO (by simp) ap.i, no2 i1 (by simp) ap.j, no1 i2 (by simp) (Ne.symm ap.j)⟩
    have sub : ∀ b ∈ [z, TO, i1, i2], b ∈ [z, TI, TO, i1, i2] := by
      intro b hb
      simp at hb ⊢
      rcases hb with e | e | e | e <;> simp [e]
    refine (GoesN.zip2 (elts := elts) (x1 := kk) (pos := tpos) sep (D1.D X.A.in1 (I.ok.hd hc)) (D2.D X.A.in1 (I.ok.hd hc))).goes i s _ E hlt ⟨h1, h2, h3, D1.now, D2.now⟩ fun u h' tk hY st' hk htk => ?_
    obtain ⟨T, y1, y2, rfl, hT, hy1, hy2, hTup⟩ := hY
    obtain ⟨w1, hw1, r1⟩ := D1.val i y1 hy1
    obtain ⟨w2, hw2, r2⟩ := D2.val i y2 hy2
    have new : ObjOk X.prog X.w (upd H T (.tup [w1, w2])) h' T (.tup [w1, w2]) := ⟨by show 2 ≤ sizeLine; decide, [y1, y2], .cons r1 (.cons r2 .nil), hTup⟩
    have I1 := I.turnedNew (t' := tk) (ch := [z, TO, i1, i2]) hk (fun b hb => hf b (sub b hb)) hT new
    refine ⟨.ref T, _, I1, rfl, ⟨T, w1, w2, rfl, I.hok.fresh hT, hw1, hw2, rfl⟩, ⟨st'.1, st'.2.1, st'.2.2.1, D1.own _ _ st'.2.2.2.1, D2.own _ _ st'.2.2.2.2⟩, fun b hb => ?_⟩
    have lt : b < s.heap.objs.size := by
      obtain ⟨a1, a2, h3⟩ := h3
      rcases (by simpa using hb : b = z ∨ b = TI ∨ b = TO ∨ b = i1 ∨ b = i2) with e | e | e | e | e
      · subst e; exact Heap.lt_size h1
      · subst e; exact Heap.lt_size h2
      · subst e; exact Heap.lt_size h3
      · subst e; obtain ⟨ob, hob, _⟩ := own_obj h4; exact Heap.lt_size hob
      · subst e; obtain ⟨ob, hob, _⟩ := own_obj h5; exact Heap.lt_size hob
    rw [upd_ne (fun e => absurd (Nat.lt_of_lt_of_le lt (by rw [e]; exact hT)) (Nat.lt_irrefl _))]
    exact (hf b hb).1
  done := by
    intro X hP hw hK hc i pins s σ H E I hf st hg
    subst hP hw hK
    obtain ⟨rfl, hs1, hs2⟩ := hg
    obtain ⟨h1, h2, h3, h4, h5⟩ := id st
    obtain ⟨fp1, P1, S1, D1⟩ := draws_at I hs1 rv1 h4
    obtain ⟨fp2, P2, S2, D2⟩ := draws_at I hs2 rv2 h5
    have no1 : ∀ c ∈ [z, TI, TO, i1, i2], c ≠ i1 → c ∉ fp1 := fun c hc2 hne hm => D1.oth c hm hne c (hf c hc2) rfl
    have no2 : ∀ c ∈ [z, TI, TO, i1, i2], c ≠ i2 → c ∉ fp2 := fun c hc2 hne hm => D2.oth c hm hne c (hf c hc2) rfl
    have sep : ZipSep2 z TI TO i1 i2 fp1 fp2 := ⟨ap.a, ap.b, ap.c, ap.d, D1.mem, no1 z (by simp) ap.e, no1 TO (by simp) ap.f, ap.g, D2.mem, no2 z (by simp) ap.h, no2 TO (by simp) ap.i, no2 i1 (by simp) ap.j, no1 i2 (by simp) (Ne.symm ap.j)⟩
    refine (GoesN.zip2 (elts := elts) (x1 := kk) (pos := tpos) sep (D1.D X.A.in1 (I.ok.hd hc)) (D2.D X.A.in1 (I.ok.hd hc))).stops s (fun s1 => Inv X pins σ H s1) E ⟨h1, h2, h3, D1.now, D2.now⟩ fun h' tk hk htk => I.turnedL (t' := tk) (ch := [z, TO, i1, i2]) hk fun b hb => hf b ?_
    simp at hb ⊢
    rcases hb with e | e | e | e <;> simp [e]
  self := fun A i s Q E st h => wpAny_pyIter_zip st.1 h

/-! ### the sources begin -/
theorem begins_src {X : Cx} {pins : List (Addr × Obj)} {σ : L2.St} {H : Hp} {s : Shared} {k : Kd} {x : V} {v : Value} {xs : List V} (I : Inv X pins σ H s) (hs : Sv X.K H k x xs) (rv : RelV x v) :
    ∃ o Hc, Begins v o Hc ∧ Hc s.heap ∧ ∀ h it, h.get? it = some o → Own k v it 0 h := by
  cases k with
  | lst =>
    obtain ⟨a, rfl, hq⟩ := hs
    cases rv
    obtain ⟨its, rr, pl, hz⟩ := I.list hq
    exact ⟨_, _, begins_list a its.toArray, pl.isList, fun h it e => ⟨a, rfl, _, e, rfl, rfl⟩⟩
  | tup =>
    obtain ⟨a, rfl, hq⟩ := hs
    cases rv
    obtain ⟨its, rr, pl, hz⟩ := I.tuple hq
    exact ⟨_, _, begins_tuple a its.toArray, pl, fun h it e => ⟨a, rfl, _, e, rfl, rfl⟩⟩
  | txt =>
    obtain ⟨z, rfl, rfl⟩ := hs
    obtain ⟨t, rfl⟩ := rv
    exact ⟨_, _, begins_text z t, trivial, fun h it e => ⟨z, t, rfl, _, e, rfl, rfl⟩⟩
/-- a source's data -/
inductive SrcD (K : PySem.W.Frag) (g : Wd) : D → List D → V → Kd → List V → Prop
  | lst {p : Addr} {ds : List D} {vs : List V} : SqL K g.F p vs → Reps K g.F g.th ds vs → SrcD K g (.lst ds) ds (.ref p) .lst vs
  | scr {p : Addr} {ds : List D} {vs : List V} : SqL K g.F p vs → Reps K g.F g.th ds vs → SrcD K g (.scr ds) ds (.ref p) .lst vs
  | tup {p : Addr} {ds : List D} {vs : List V} : SqT K g.F p vs → Reps K g.F g.th ds vs → SrcD K g (.tup ds) ds (.ref p) .tup vs
  | str {s : List Nat} : SrcD K g (.str s) (chars s) (.str (mkS s)) .txt (s.map fun c => .str ⟨#[c]⟩)
theorem src_of {K : PySem.W.Frag} {g : Wd} {d : D} {v : V} {ds : List D} (r : Rep K g.F g.th d v) (h : itemsOf d = some ds) : ∃ k vs, SrcD K g d ds v k vs := by
  cases d with
  | lst xs =>
    cases h
    unfold Rep at r
    obtain ⟨p, vs, rfl, hF, rs⟩ := r
    exact ⟨_, _, .lst (SqL.of hF) rs⟩
  | scr xs =>
    cases h
    unfold Rep at r
    obtain ⟨p, vs, rfl, hF, rs⟩ := r
    exact ⟨_, _, .scr hF rs⟩
  | tup xs =>
    cases h
    unfold Rep at r
    obtain ⟨p, vs, rfl, hF, rs⟩ := r
    exact ⟨_, _, .tup (SqT.of hF) rs⟩
  | str s =>
    cases h
    unfold Rep at r
    subst r
    exact ⟨_, _, .str⟩
  | _ => cases h
theorem SrcD.sv {K : PySem.W.Frag} {g : Wd} {d : D} {v : V} {ds : List D} {k : Kd} {vs : List V} (h : SrcD K g d ds v k vs) : Sv K g.F k v vs := by
  cases h with
  | lst a b => exact ⟨_, rfl, a⟩
  | scr a b => exact ⟨_, rfl, a⟩
  | tup a b => exact ⟨_, rfl, a⟩
  | str => exact ⟨_, rfl, by simp⟩
theorem reps_chars {K : PySem.W.Frag} {F : Hp} {θ : List Addr} : ∀ s : List Nat, Reps K F θ (chars s) (s.map fun c => .str ⟨#[c]⟩)
  | [] => Reps.nil
  | c :: s => Reps.cons (by unfold Rep; rfl) (reps_chars s)
theorem SrcD.reps {K : PySem.W.Frag} {g : Wd} {d : D} {v : V} {ds : List D} {k : Kd} {vs : List V} (h : SrcD K g d ds v k vs) : Reps K g.F g.th ds vs := by
  cases h with
  | lst a b => exact b
  | scr a b => exact b
  | tup a b => exact b
  | str => exact reps_chars _
theorem SrcD.le {K : PySem.W.Frag} {g g' : Wd} {d : D} {v : V} {ds : List D} {k : Kd} {vs : List V} (h : SrcD K g d ds v k vs) (l : Le g g') : SrcD K g' d ds v k vs := by
  cases h with
  | lst a b => exact .lst (sub_sqL l.F a) (b.le l)
  | scr a b => exact .scr (sub_sqL l.F a) (b.le l)
  | tup a b => exact .tup (sub_sqT l.F a) (b.le l)
  | str => exact .str
def pairI (ds : List D) : List D := (List.range ds.length).map fun (i : Nat) => .tup [.int (i : Int), ds.getD i .non]
def pairZ (ds es : List D) : List D := (List.range (min ds.length es.length)).map fun (i : Nat) => .tup [ds.getD i .non, es.getD i .non]
theorem itrep_enum {K : PySem.W.Frag} {g : Wd} {d : D} {v : V} {ds : List D} {k : Kd} {vs : List V} (h : SrcD K g d ds v k vs) : ItRep K (ItE K k v vs) (pairI ds) g := by
  intro g' H' μ' i a le
  have h' := h.le le
  have hl := h.reps.length
  refine ⟨fun d hd => ?_, fun hi => ⟨by rw [hi]; simp [pairI, hl], sv_ext a.sub h'.sv⟩⟩
  unfold pairI at hd
  rw [List.getElem?_map] at hd
  by_cases hi : i < ds.length
  · rw [List.getElem?_range hi] at hd
    cases hd
    refine ⟨⟨by omega, sv_ext a.sub h'.sv⟩, fun x H2 ⟨T, y, e1, e2, e3, e4⟩ => ?_⟩
    subst e1; subst e4
    have hg : ds[i]? = some (ds.getD i .non) := by rw [List.getElem?_eq_getElem hi]; simp [List.getD, List.getElem?_eq_getElem hi]
    obtain ⟨u, hu, ru⟩ := h'.reps.get hg
    rw [e3] at hu
    cases hu
    exact a.newTup e2 (Reps.cons (by unfold Rep; rfl) (Reps.cons ru Reps.nil)) |>.imp fun g2 ⟨x1, x2, x3⟩ => ⟨x1, x2, x3⟩
  · rw [List.getElem?_eq_none (by simpa using hi)] at hd
    cases hd
theorem itrep_zip {K : PySem.W.Frag} {g : Wd} {d e : D} {v w : V} {ds es : List D} {k l : Kd} {vs ws : List V} (h : SrcD K g d ds v k vs) (h2 : SrcD K g e es w l ws) : ItRep K (ItZ K k l v w vs ws) (pairZ ds es) g := by
  intro g' H' μ' i a le
  have h' := h.le le
  have h2' := h2.le le
  have hl := h.reps.length
  have hl2 := h2.reps.length
  refine ⟨fun d hd => ?_, fun hi => ⟨by rw [hi]; simp [pairZ, hl, hl2], sv_ext a.sub h'.sv, sv_ext a.sub h2'.sv⟩⟩
  unfold pairZ at hd
  rw [List.getElem?_map] at hd
  by_cases hi : i < min ds.length es.length
  · rw [List.getElem?_range hi] at hd
    cases hd
    refine ⟨⟨by omega, sv_ext a.sub h'.sv, sv_ext a.sub h2'.sv⟩, fun x H2 ⟨T, y, z, e1, e2, e3, e4, e5⟩ => ?_⟩
    subst e1; subst e5
    have hi1 : i < ds.length := by omega
    have hi2 : i < es.length := by omega
    have hg : ds[i]? = some (ds.getD i .non) := by rw [List.getElem?_eq_getElem hi1]; simp [List.getD, List.getElem?_eq_getElem hi1]
    have hg2 : es[i]? = some (es.getD i .non) := by rw [List.getElem?_eq_getElem hi2]; simp [List.getD, List.getElem?_eq_getElem hi2]
    obtain ⟨u, hu, ru⟩ := h'.reps.get hg
    obtain ⟨u2, hu2, ru2⟩ := h2'.reps.get hg2
    rw [e3] at hu
    cases hu
    rw [e4] at hu2
    cases hu2
    exact a.newTup e2 (Reps.cons ru (Reps.cons ru2 Reps.nil)) |>.imp fun g2 ⟨x1, x2, x3⟩ => ⟨x1, x2, x3⟩
  · rw [List.getElem?_eq_none (by simpa using hi)] at hd
    cases hd
def isTupD : D → Bool
  | .tup _ => true
  | _ => false
def dEnum (A : TDA) : TDI := fun δ μ Q E => A δ μ (fun xs μ1 => ∃ d ds, xs = [d] ∧ isTupD d = false ∧ itemsOf d = some ds ∧ Q (pairI ds) μ1) E
def dZip (A : TDA) : TDI := fun δ μ Q E => A δ μ (fun xs μ1 => ∃ d e ds es, xs = [d, e] ∧ itemsOf d = some ds ∧ itemsOf e = some es ∧ Q (pairZ ds es) μ1) E
section
variable {X : Cx} {W : WX} {TA' : TDA} {pos p tpos : Pos} {elts : List Expr} {kk : Nat}
theorem wi_enum {e : Expr} (hm : X.mg "enumerate" = none) (ha : WA X W [e] TA') (hg : Gl X "enumerate" := by rfl) (hs : starEach [e] X.env = [(false, eval e X.env)] := by rfl) :
    WI X W (.Tuple elts kk tpos) (.Call (.Name "enumerate" p) [e] [] pos) (dEnum TA') := by
  refine ⟨fun pins s σ H R I h => ?_⟩
  obtain ⟨g, μ, δ, Q', E', a0, sl, h, k, kx⟩ := h
  have hA : upA X.K W TA' σ H (fun vs H1 => ∃ g1 μ1 ds d v kd ws, vs = [v] ∧ At X.K g1 μ1 H1 ∧ Ext g H g1 H1 ∧ SrcD X.K g1 d ds v kd ws ∧ kd ≠ .tup ∧ Q' (pairI ds) μ1) := by
    refine ⟨g, μ, δ, _, E', a0, sl, h, fun g1 H1 μ1 xs vs a1 e1 r1 ⟨d, ds, hd, hnt, hi, q⟩ => ?_, kx⟩
    subst hd
    obtain ⟨v, rfl, rv⟩ := reps1 r1
    obtain ⟨kd, ws, sd⟩ := src_of rv hi
    refine ⟨g1, μ1, ds, d, v, kd, ws, rfl, a1, e1, sd, ?_, q⟩
    rintro rfl
    cases sd
    exact Bool.noConfusion hnt
  refine PyProof.Rows.Call_ (ld_blt I hg hm PyProof.Rows.boot_enumerate (PyProof.Rows.callWith_type1 (thn (ha.run pos pins s σ H _ I hA) fun us s1 hq => ?_) hs rfl))
  obtain ⟨vs, H1, I1, r1, g1, μ1, ds, d, v, kd, ws, rfl, a1, e1, sd, hnt, q⟩ := hq
  obtain ⟨u, rfl, rv⟩ := vals1 r1
  have sv := sv_ext a1.sub sd.sv
  have fin : ∀ h', IsEnum h' (s1.heap.objs.size + 1) s1.heap.objs.size 0 .none → Own kd u s1.heap.objs.size 0 h' → (∀ b o, s1.heap.get? b = some o → h'.get? b = some o) →
      PIE X pins σ (.Tuple elts kk tpos) R (.ref (s1.heap.objs.size + 1)) { s1 with heap := h' } := fun h' he hit hk => by
    have I2 : Inv X pins σ H1 { s1 with heap := h' } := I1.kept (t' := s1.toks) hk
    refine ⟨s1.heap.objs.size + 1, [s1.heap.objs.size + 1, s1.heap.objs.size], _, _, H1, rfl, I2, turn_enumA rv, ⟨⟨.none, he⟩, hit, Nat.succ_ne_self _⟩, fun b hb => ?_, k g1 H1 μ1 _ _ a1 e1 (itrep_enum sd) q⟩
    obtain ⟨n, rfl⟩ : ∃ n, b = s1.heap.objs.size + n := by
      rcases (by simpa using hb : b = s1.heap.objs.size + 1 ∨ b = s1.heap.objs.size) with z | z <;> first | exact ⟨_, z⟩ | exact ⟨0, z⟩
    exact I1.fpOk (Nat.le_add_right _ n) (I1.hok.fresh (Nat.le_add_right _ n))
  cases kd with
  | lst =>
    obtain ⟨a, rfl, hq⟩ := sv
    cases rv
    obtain ⟨its, rr, pl, hz⟩ := I1.list hq
    exact call_enumerate_list pl.isList fun h' he hit hsz hk => wpAny_pyIter_enum he (fin h' he ⟨a, rfl, hit⟩ hk)
  | tup => exact absurd rfl hnt
  | txt =>
    obtain ⟨z, rfl, _⟩ := sv
    obtain ⟨t, rfl⟩ := rv
    exact call_enumerate_str fun h' he hit hsz hk => wpAny_pyIter_enum he (fin h' he ⟨z, t, rfl, hit⟩ hk)
theorem wi_zip {e e2 : Expr} (hm : X.mg "zip" = none) (ha : WA X W [e, e2] TA') (hg : Gl X "zip" := by rfl) (hs : starEach [e, e2] X.env = (false, eval e X.env) :: starEach [e2] X.env := by rfl) (hpl : (backTo pos (starEach [e2] X.env)).any (·.1) = false := by rfl) :
    WI X W (.Tuple elts kk tpos) (.Call (.Name "zip" p) [e, e2] [] pos) (dZip TA') := by
  refine ⟨fun pins s σ H R I h => ?_⟩
  obtain ⟨g, μ, δ, Q', E', a0, sl, h, k, kx⟩ := h
  have hA : upA X.K W TA' σ H (fun vs H1 => ∃ g1 μ1 ds d v kd ws es d2 v2 kd2 ws2, vs = [v, v2] ∧ At X.K g1 μ1 H1 ∧ Ext g H g1 H1 ∧ SrcD X.K g1 d ds v kd ws ∧ SrcD X.K g1 d2 es v2 kd2 ws2 ∧ Q' (pairZ ds es) μ1) := by
    refine ⟨g, μ, δ, _, E', a0, sl, h, fun g1 H1 μ1 xs vs a1 e1 r1 ⟨d, d2, ds, es, hd, hi, hi2, q⟩ => ?_, kx⟩
    subst hd
    obtain ⟨v, v2, rfl, rv, rv2⟩ := reps2 r1
    obtain ⟨kd, ws, sd⟩ := src_of rv hi
    obtain ⟨kd2, ws2, sd2⟩ := src_of rv2 hi2
    exact ⟨g1, μ1, ds, d, v, kd, ws, es, d2, v2, kd2, ws2, rfl, a1, e1, sd, sd2, q⟩
  refine PyProof.Rows.Call_ (ld_blt I hg hm PyProof.Rows.boot_zip (PyProof.Rows.callWith_type1 (thn (ha.run pos pins s σ H _ I hA) fun us s1 hq => ?_) hs hpl))
  obtain ⟨vs, H1, I1, r1, g1, μ1, ds, d, v, kd, ws, es, d2, v2, kd2, ws2, rfl, a1, e1, sd, sd2, q⟩ := hq
  obtain ⟨u, u2, rfl, rv, rv2⟩ := vals2 r1
  obtain ⟨o1, Hc1, B1, hc1, ow1⟩ := begins_src I1 (sv_ext a1.sub sd.sv) rv
  obtain ⟨o2, Hc2, B2, hc2, ow2⟩ := begins_src I1 (sv_ext a1.sub sd2.sv) rv2
  refine zip_begins2 B1 B2 hc1 hc2 fun h' hz hTI hTO h1 h2 hsz hk => wpAny_pyIter_zip hz ?_
  have I2 : Inv X pins σ H1 { s1 with heap := h' } := I1.kept (t' := s1.toks) hk
  have ap : ∀ n : Nat, Ap5 (n + 4) (n + 2) (n + 3) n (n + 1) := fun n => ⟨show (n + 2 : Nat) ≠ n + 4 by omega, show (n + 3 : Nat) ≠ n + 4 by omega, show (n + 2 : Nat) ≠ n + 3 by omega, show (n + 2 : Nat) ≠ n by omega, show (n + 4 : Nat) ≠ n by omega,
    show (n + 3 : Nat) ≠ n by omega, show (n + 2 : Nat) ≠ n + 1 by omega, show (n + 4 : Nat) ≠ n + 1 by omega, show (n + 3 : Nat) ≠ n + 1 by omega, show (n : Nat) ≠ n + 1 by omega⟩
  refine ⟨s1.heap.objs.size + 4, [s1.heap.objs.size + 4, s1.heap.objs.size + 2, s1.heap.objs.size + 3, s1.heap.objs.size, s1.heap.objs.size + 1], _, _, H1, rfl, I2, turn_zipB rv rv2 (ap _), ⟨hz, hTI, ⟨_, _, hTO⟩, ow1 _ _ h1, ow2 _ _ h2⟩, fun b hb => ?_, k g1 H1 μ1 _ _ a1 e1 (itrep_zip sd sd2) q⟩
  obtain ⟨n, rfl⟩ : ∃ n, b = s1.heap.objs.size + n := by
    rcases (by simpa using hb : b = s1.heap.objs.size + 4 ∨ b = s1.heap.objs.size + 2 ∨ b = s1.heap.objs.size + 3 ∨ b = s1.heap.objs.size ∨ b = s1.heap.objs.size + 1) with z | z | z | z | z <;> first | exact ⟨_, z⟩ | exact ⟨0, z⟩
  exact I1.fpOk (Nat.le_add_right _ n) (I1.hok.fresh (Nat.le_add_right _ n))
end
end SW

end

section
set_option Elab.async false
set_option linter.all false
set_option maxRecDepth 100000
namespace SW
open PySem L2

/-! ### what is read -/
/-- the items of a list or tuple that is read, of a cell too -/
def seqOf (μ : Mu) : D → Option (List D)
  | .lst xs => some xs
  | .scr xs => some xs
  | .tup xs => some xs
  | .cell k => match μ[k]? with
    | some (.lst xs) => some xs
    | _ => none
  | _ => none
def lstOf (μ : Mu) : D → Option (List D)
  | .lst xs => some xs
  | .cell k => match μ[k]? with
    | some (.lst xs) => some xs
    | _ => none
  | _ => none
theorem seq_rd {K : PySem.W.Frag} {g : Wd} {μ : Mu} {H : Hp} {d : D} {v : V} {xs : List D} (a : At K g μ H) (r : Rep K g.F g.th d v) (h : seqOf μ d = some xs) : ∃ p vs, v = .ref p ∧ (SqL K H p vs ∨ SqT K H p vs) ∧ Reps K g.F g.th xs vs := by
  cases d with
  | lst ys =>
    cases h
    unfold Rep at r
    obtain ⟨p, vs, e, q, rs⟩ := r
    exact ⟨p, vs, e, .inl (SqL.of (a.sub _ _ q)), rs⟩
  | scr ys =>
    cases h
    unfold Rep at r
    obtain ⟨p, vs, e, q, rs⟩ := r
    exact ⟨p, vs, e, .inl (sub_sqL a.sub q), rs⟩
  | tup ys =>
    cases h
    unfold Rep at r
    obtain ⟨p, vs, e, q, rs⟩ := r
    exact ⟨p, vs, e, .inr (SqT.of (a.sub _ _ q)), rs⟩
  | cell k =>
    unfold seqOf at h
    cases e : μ[k]? with
    | none => simp [e] at h
    | some o =>
      cases o with
      | lst ys =>
        simp [e] at h
        subst h
        obtain ⟨p, ev, hp, hF, vs, hH, rs⟩ := a.cellAt e (by simp) r
        exact ⟨p, vs, ev, .inl (SqL.of hH), rs⟩
      | _ => simp [e] at h
  | _ => cases h
theorem lst_rd {K : PySem.W.Frag} {g : Wd} {μ : Mu} {H : Hp} {d : D} {v : V} {xs : List D} (a : At K g μ H) (r : Rep K g.F g.th d v) (h : lstOf μ d = some xs) : ∃ p vs, v = .ref p ∧ H p = some (.lst vs) ∧ Reps K g.F g.th xs vs := by
  cases d with
  | lst ys =>
    cases h
    unfold Rep at r
    obtain ⟨p, vs, e, q, rs⟩ := r
    exact ⟨p, vs, e, a.sub _ _ q, rs⟩
  | cell k =>
    unfold lstOf at h
    cases e : μ[k]? with
    | none => simp [e] at h
    | some o =>
      cases o with
      | lst ys =>
        simp [e] at h
        subst h
        obtain ⟨p, ev, hp, hF, vs, hH, rs⟩ := a.cellAt e (by simp) r
        exact ⟨p, vs, ev, hH, rs⟩
      | _ => simp [e] at h
  | _ => cases h

/-! ### operators -/
theorem OpR.or {X : Cx} {f : Value → Value → Sem Value} {r r' : R2} (h : OpR X f r) (h' : OpR X f r') : OpR X f (fun x y H Q => r x y H Q ∨ r' x y H Q) := fun pins s σ H x y v u Q I rx ry q =>
  q.elim (h pins s σ H x y v u Q I rx ry) (h' pins s σ H x y v u Q I rx ry)
theorem CallR.or {X : Cx} {f : Value} {r r' : List V → Hp → VK → Prop} (h : CallR X f r) (h' : CallR X f r') : CallR X f (fun x H Q => r x H Q ∨ r' x H Q) := fun pins s σ H xs us Q I rx q =>
  q.elim (h pins s σ H xs us Q I rx) (h' pins s σ H xs us Q I rx)
theorem rep_intI {K : PySem.W.Frag} {F : Hp} {θ : List Addr} {i : Int} : Rep K F θ (.int i) (.int i) := by unfold Rep; rfl
theorem rep_strI {K : PySem.W.Frag} {F : Hp} {θ : List Addr} {i : List Nat} : Rep K F θ (.str i) (.str (mkS i)) := by unfold Rep; rfl
theorem mkS_app (a b : List Nat) : mkS a ++ mkS b = mkS (a ++ b) := by
  show Str.append _ _ = _
  unfold Str.append
  simp [mkS]
theorem mkS_len (a : List Nat) : (mkS a).length = a.length := by
  show (mkS a).cps.size = _
  simp [mkS]
/-- the result a list that no one changes, or a cell -/
def outF (xs : List D) (μ : Mu) (Q : DQ) : Prop := Q (.lst xs) μ
def outC (xs : List D) (μ : Mu) (Q : DQ) : Prop := Q (.cell μ.length) (μ ++ [.lst xs])
def OutOk (K : PySem.W.Frag) (o : List D → Mu → DQ → Prop) : Prop := ∀ g μ H p xs vs Q' Q, At K g μ H → H p = none → Reps K g.F g.th xs vs → o xs μ Q' → Kt K g H Q' Q → Q (.ref p) (upd H p (.lst vs))
theorem outF_ok {K : PySem.W.Frag} : OutOk K outF := by
  intro g μ H p xs vs Q' Q a hp r q k
  obtain ⟨g', a', e', r'⟩ := a.newLst hp r
  exact k _ _ _ _ _ a' e' r' q
theorem outC_ok {K : PySem.W.Frag} : OutOk K outC := by
  intro g μ H p xs vs Q' Q a hp r q k
  obtain ⟨g', a', e', r'⟩ := a.newCL hp r
  exact k _ _ _ _ _ a' e' r' q
def dAdd (o : List D → Mu → DQ → Prop) : DOp := fun x y μ Q => match x, y with
  | .int i, .int j => Q (.int (i + j)) μ
  | .str a, .str b => a.length + b.length ≤ sizeLine ∧ Q (.str (a ++ b)) μ
  | .tup a, .tup b => a.length + b.length ≤ sizeLine ∧ Q (.tup (a ++ b)) μ
  | x, y => ∃ xs ys, lstOf μ x = some xs ∧ lstOf μ y = some ys ∧ xs.length + ys.length ≤ sizeLine ∧ o (xs ++ ys) μ Q
theorem bd_add {X : Cx} {o : List D → Mu → DQ → Prop} (ho : OutOk X.K o) : BinD X .Add (dAdd o) := by
  refine ⟨_, OpR.or op_add (OpR.or op_add_str (OpR.or op_catA op_cat)), ?_⟩
  have lists : ∀ g μ H x y a b Q' (Q : VK), At X.K g μ H → Rep X.K g.F g.th x a → Rep X.K g.F g.th y b → (∃ xs ys, lstOf μ x = some xs ∧ lstOf μ y = some ys ∧ xs.length + ys.length ≤ sizeLine ∧ o (xs ++ ys) μ Q') → Kt X.K g H Q' Q → rCat a b H Q := by
    rintro g μ H x y a b Q' Q a0 rx ry ⟨xs, ys, h1, h2, h3, q⟩ k
    obtain ⟨p, vs, rfl, hH, r1⟩ := lst_rd a0 rx h1
    obtain ⟨p2, ws, rfl, hH2, r2⟩ := lst_rd a0 ry h2
    exact ⟨p, p2, vs, ws, rfl, rfl, hH, hH2, by rw [← r1.length, ← r2.length]; exact h3, fun n hn => ho g μ H n _ _ Q' Q a0 hn (r1.append r2) q k⟩
  intro g μ H x y a b Q' Q a0 rx ry q k
  unfold dAdd at q
  split at q
  · obtain rfl := rep_int rx
    obtain rfl := rep_int ry
    exact .inl ⟨_, _, rfl, rfl, k.here a0 rep_intI q⟩
  · obtain rfl := rep_str rx
    obtain rfl := rep_str ry
    refine .inr (.inl ⟨_, _, rfl, rfl, by rw [mkS_len, mkS_len]; exact q.1, ?_⟩)
    rw [mkS_app]
    exact k.here a0 rep_strI q.2
  · rename_i ds1 ds2
    unfold Rep at rx ry
    obtain ⟨p, vs, rfl, h1, r1⟩ := rx
    obtain ⟨p2, ws, rfl, h2, r2⟩ := ry
    refine .inr (.inr (.inl ⟨p, p2, vs, ws, rfl, rfl, SqT.of (a0.sub _ _ h1), SqT.of (a0.sub _ _ h2), by rw [← r1.length, ← r2.length]; exact q.1, fun e => ?_, fun _ e => ?_, fun _ _ n hn => ?_⟩))
    · have e0 : ds1 = [] := List.eq_nil_of_length_eq_zero (by rw [r1.length, e]; rfl)
      subst e0
      refine k.here a0 ?_ q.2
      unfold Rep
      exact ⟨p2, ws, rfl, h2, r2⟩
    · have e0 : ds2 = [] := List.eq_nil_of_length_eq_zero (by rw [r2.length, e]; rfl)
      subst e0
      have q2 := q.2
      rw [List.append_nil] at q2
      refine k.here a0 ?_ q2
      unfold Rep
      exact ⟨p, vs, rfl, h1, r1⟩
    · obtain ⟨g', a', e', r'⟩ := a0.newTup hn (r1.append r2)
      exact k _ _ _ _ _ a' e' r' q.2
  · exact .inr (.inr (.inr (lists g μ H _ _ a b Q' Q a0 rx ry q k)))
def dInt2 (C : Int → Int → Prop) (f : Int → Int → Int) : DOp := fun x y μ Q => ∃ i j, x = .int i ∧ y = .int j ∧ C i j ∧ Q (.int (f i j)) μ
theorem lop_int {K : PySem.W.Frag} {C : Int → Int → Prop} {f : Int → Int → Int} : LOp K (rI C fun i j => .int (f i j)) (dInt2 C f) := by
  rintro g μ H x y a b Q' Q a0 rx ry ⟨i, j, rfl, rfl, c, q⟩ k
  obtain rfl := rep_int rx
  obtain rfl := rep_int ry
  exact ⟨i, j, rfl, rfl, c, k.here a0 rep_intI q⟩
def dSub : DOp := dInt2 (fun _ _ => True) (fun i j => i - j)
theorem bd_sub {X : Cx} : BinD X .Sub dSub := ⟨_, op_sub, by
  rintro g μ H x y a b Q' Q a0 rx ry ⟨i, j, rfl, rfl, c, q⟩ k
  obtain rfl := rep_int rx
  obtain rfl := rep_int ry
  exact ⟨i, j, rfl, rfl, k.here a0 rep_intI q⟩⟩
def dFdv : DOp := dInt2 CDivN Int.fdiv
theorem bd_fdv {X : Cx} : BinD X .FloorDiv dFdv := ⟨_, op_fdivN, lop_int⟩
def dMod : DOp := dInt2 (fun _ j => j ≠ 0) Int.fmod
theorem bd_mod {X : Cx} : BinD X .Mod dMod := ⟨_, op_modN, lop_int⟩
def dPow : DOp := dInt2 CPow (fun i j => i ^ j.toNat)
theorem bd_pow {X : Cx} : BinD X .Pow dPow := ⟨_, op_pow, lop_int⟩
/-- s * n of a text -/
theorem op_mul_str {X : Cx} : OpR X (binaryOp .Mult) (fun x y H Q => ∃ z n, x = .str z ∧ y = .int n ∧ MulOk z n ∧ Q (.str (Txt.mul z n)) H) := by
  rintro pins s σ H x y v u Q I rx ry ⟨z, n, rfl, rfl, h, q⟩
  obtain ⟨t, rfl⟩ := rx
  obtain ⟨t', rfl⟩ := ry
  exact SB.mul h fun t2 k => ⟨.str _, H, I.tok k, ⟨t2, rfl⟩, q⟩
def dMul (o : List D → Mu → DQ → Prop) : DOp := fun x y μ Q => match x, y with
  | .int i, .int j => CMul i j ∧ Q (.int (i * j)) μ
  | .str s, .int n => 0 ≤ n ∧ n ≤ 100000 ∧ s.length * n.toNat ≤ 100000 ∧ Q (.str (List.replicate n.toNat s).flatten) μ
  | x, y => ∃ xs n, lstOf μ x = some xs ∧ y = .int n ∧ -(2 ^ 63) ≤ n ∧ n < 2 ^ 63 ∧ xs.length * n.toNat ≤ sizeLine ∧ o (List.replicate n.toNat xs).flatten μ Q
theorem foldl_app (z : Array Nat) : ∀ (n : Nat) (a : Array Nat), (List.replicate n z).foldl (· ++ ·) a = a ++ (List.replicate n z.toList).flatten.toArray
  | 0, a => by simp
  | n + 1, a => by
    rw [List.replicate_succ, List.foldl_cons, foldl_app z n, List.replicate_succ, List.flatten_cons]
    apply Array.toList_inj.mp
    simp
theorem mul_mkS (s : List Nat) (n : Int) : Txt.mul (mkS s) n = mkS (List.replicate n.toNat s).flatten := by
  unfold Txt.mul
  split
  · have : n.toNat = 0 := by omega
    rw [this]
    rfl
  · split
    · rename_i h1 h2
      rw [Bool.or_eq_true] at h2
      rcases h2 with h2 | h2
      · have : n = 1 := by simpa using h2
        subst this
        simp
      · have : s = [] := by
          have : (mkS s).length = 0 := by simpa using h2
          rw [mkS_len] at this
          exact List.eq_nil_of_length_eq_zero this
        subst this
        have : (List.replicate n.toNat ([] : List Nat)).flatten = [] := by simp
        rw [this]
    · rw [foldl_app]
      simp
theorem bd_mul {X : Cx} {o : List D → Mu → DQ → Prop} (ho : OutOk X.K o) : BinD X .Mult (dMul o) := by
  refine ⟨_, OpR.or op_mul (OpR.or op_mul_str op_rep), ?_⟩
  intro g μ H x y a b Q' Q a0 rx ry q k
  unfold dMul at q
  split at q
  · obtain rfl := rep_int rx
    obtain rfl := rep_int ry
    exact .inl ⟨_, _, rfl, rfl, q.1, k.here a0 rep_intI q.2⟩
  · obtain rfl := rep_str rx
    obtain rfl := rep_int ry
    rename_i s n
    obtain ⟨h0, h1, h2, q⟩ := q
    refine .inr (.inl ⟨_, _, rfl, rfl, ?_, ?_⟩)
    · have hl : (mkS s).length = s.length := mkS_len s
      refine ⟨?_, fun h3 h4 => ?_, fun h3 h4 => ?_⟩
      · have e1 : ¬ n < -(2 ^ 63 : Int) := by omega
        have e2 : ¬ n ≥ (2 ^ 63 : Int) := by omega
        rw [decide_eq_false e1, decide_eq_false e2]
        rfl
      · intro h5
        have e3 : ((mkS s).length : Int) * n ≤ 100000 := by
          rw [hl]
          have : n = (n.toNat : Int) := by omega
          rw [this, ← Int.natCast_mul]
          exact Int.ofNat_le.mpr h2
        have hn : 0 < n := by omega
        have e4 := (Int.ediv_lt_iff_lt_mul hn).mp (show ((2 : Int) ^ 63 - 1) / n < ((mkS s).length : Int) from h5)
        omega
      · unfold Builtin.Str.tooLong
        rw [hl]
        exact decide_eq_false (Nat.not_lt_of_le (Nat.le_trans h2 (by decide)))
    · rw [mul_mkS]
      exact k.here a0 rep_strI q
  · obtain ⟨xs, n, h1, rfl, h2, h3, h4, q⟩ := q
    obtain rfl := rep_int ry
    obtain ⟨p, vs, rfl, hH, r1⟩ := lst_rd a0 rx h1
    exact .inr (.inr ⟨p, n, vs, rfl, rfl, hH, h2, h3, by rw [← r1.length]; exact h4, fun m hm => ho g μ H m _ _ Q' Q a0 hm (r1.flat _) q k⟩)
/-! ### comparisons -/
def dCmpI (f : Int → Int → Bool) (f' : List Nat → List Nat → Bool) : DOp := fun x y μ Q => match x, y with
  | .int i, .int j => Q (.bl (f i j)) μ
  | .str a, .str b => Q (.bl (f' a b)) μ
  | _, _ => False
theorem lop_cmp {K : PySem.W.Frag} {f : Int → Int → Bool} {f' : List Nat → List Nat → Bool} : LOp K (fun x y H Q => rI0 (fun i j => .bl (f i j)) x y H Q ∨ (∃ i j : Str, x = .str i ∧ y = .str j ∧ Q (.bl (f' i.cps.toList j.cps.toList)) H)) (dCmpI f f') := by
  intro g μ H x y a b Q' Q a0 rx ry q k
  unfold dCmpI at q
  split at q
  · obtain rfl := rep_int rx
    obtain rfl := rep_int ry
    exact .inl ⟨_, _, rfl, rfl, k.here a0 rep_bl q⟩
  · obtain rfl := rep_str rx
    obtain rfl := rep_str ry
    refine .inr ⟨_, _, rfl, rfl, k.here a0 rep_bl ?_⟩
    simpa [mkS] using q
  · exact q.elim
def dLt : DOp := dCmpI (fun i j => decide (i < j)) (fun a b => decide (a < b))
def dLe : DOp := dCmpI (fun i j => decide (i ≤ j)) (fun a b => !decide (b < a))
def dGt : DOp := dCmpI (fun i j => decide (i > j)) (fun a b => decide (b < a))
def dGe : DOp := dCmpI (fun i j => decide (i ≥ j)) (fun a b => !decide (a < b))
theorem cd_lt {X : Cx} : CmpD X .Lt dLt := ⟨_, OpR.or op_lt op_lt_str, lop_cmp⟩
theorem cd_le {X : Cx} : CmpD X .LtE dLe := ⟨_, OpR.or op_le op_le_str, lop_cmp⟩
theorem cd_gt {X : Cx} : CmpD X .Gt dGt := ⟨_, OpR.or op_gt op_gt_str, lop_cmp⟩
theorem cd_ge {X : Cx} : CmpD X .GtE dGe := ⟨_, OpR.or op_ge op_ge_str, lop_cmp⟩
/-! #### == -/
mutual
def toPy : D → PyData
  | .non => .none
  | .bl b => .bool b
  | .int i => .int i
  | .str s => .str (mkS s)
  | .tup xs => .tuple (toPys xs)
  | .lst xs => .list (toPys xs)
  | .scr xs => .list (toPys xs)
  | _ => .dict []
def toPys : List D → List PyData
  | [] => []
  | x :: xs => toPy x :: toPys xs
end
mutual
/-- what == may be asked of: no dicts, no cells within; at most n deep; signs that there are -/
def okD : Nat → D → Prop
  | _, .non => True
  | _, .bl _ => True
  | _, .int _ => True
  | _, .str s => ∀ c ∈ s, c < 0x110000
  | n, .tup xs => 1 ≤ n ∧ okDs (n - 1) xs
  | n, .lst xs => 1 ≤ n ∧ okDs (n - 1) xs
  | n, .scr xs => 1 ≤ n ∧ okDs (n - 1) xs
  | _, _ => False
def okDs : Nat → List D → Prop
  | _, [] => True
  | n, x :: xs => okD n x ∧ okDs n xs
end
mutual
theorem okD_can : ∀ (n : Nat) (d : D), okD n d → (toPy d).canLay0 = true ∧ (toPy d).depth ≤ n
  | n, .non, h => by unfold toPy; exact ⟨rfl, Nat.zero_le _⟩
  | n, .bl _, h => by unfold toPy; exact ⟨rfl, Nat.zero_le _⟩
  | n, .int _, h => by unfold toPy; exact ⟨rfl, Nat.zero_le _⟩
  | n, .str s, h => by
    unfold okD at h
    unfold toPy
    refine ⟨?_, Nat.zero_le _⟩
    show PyData.strOk (mkS s) = true
    unfold PyData.strOk mkS
    simpa using h
  | n, .tup xs, h => by
    unfold okD at h
    unfold toPy
    obtain ⟨h1, h2⟩ := okDs_can (n - 1) xs h.2
    refine ⟨h1, ?_⟩
    show PyData.depthAll _ + 1 ≤ n
    have := h.1
    omega
  | n, .lst xs, h => by
    unfold okD at h
    unfold toPy
    obtain ⟨h1, h2⟩ := okDs_can (n - 1) xs h.2
    refine ⟨h1, ?_⟩
    show PyData.depthAll _ + 1 ≤ n
    have := h.1
    omega
  | n, .scr xs, h => by
    unfold okD at h
    unfold toPy
    obtain ⟨h1, h2⟩ := okDs_can (n - 1) xs h.2
    refine ⟨h1, ?_⟩
    show PyData.depthAll _ + 1 ≤ n
    have := h.1
    omega
  | n, .dct _ _ _, h => by unfold okD at h; exact h.elim
  | n, .cell _, h => by unfold okD at h; exact h.elim
  | n, .val _, h => by unfold okD at h; exact h.elim
  | n, .exc _, h => by unfold okD at h; exact h.elim
theorem okDs_can : ∀ (n : Nat) (ds : List D), okDs n ds → PyData.canLayAll0 (toPys ds) = true ∧ PyData.depthAll (toPys ds) ≤ n
  | n, [], h => by unfold toPys; exact ⟨rfl, Nat.zero_le _⟩
  | n, x :: xs, h => by
    unfold okDs at h
    unfold toPys
    obtain ⟨h1, h2⟩ := okD_can n x h.1
    obtain ⟨h3, h4⟩ := okDs_can n xs h.2
    refine ⟨?_, ?_⟩
    · show ((toPy x).canLay0 && PyData.canLayAll0 (toPys xs)) = true
      rw [h1, h3]; rfl
    · show max _ _ ≤ n
      omega
end
theorem okD_shaped {d : D} (h : okD 60 d) : SeqAt.shaped (toPy d) = true := by
  obtain ⟨h1, h2⟩ := okD_can 60 d h
  unfold SeqAt.shaped
  rw [h1, Bool.true_and]
  exact decide_eq_true (by omega)
mutual
theorem dp_of {K : PySem.W.Frag} {F : Hp} {θ : List Addr} {H : Hp} (sub : Sub F H) : ∀ (n : Nat) (d : D) (v : V), okD n d → Rep K F θ d v → Dp K H v (toPy d)
  | n, .non, v, h, r => by unfold Rep at r; unfold toPy; subst r; exact .non
  | n, .bl _, v, h, r => by unfold Rep at r; unfold toPy; subst r; exact .bl _
  | n, .int _, v, h, r => by unfold Rep at r; unfold toPy; subst r; exact .int _
  | n, .str s, v, h, r => by unfold Rep at r; unfold toPy; subst r; exact .str _
  | n, .tup xs, v, h, r => by
    unfold okD at h
    unfold Rep at r
    unfold toPy
    obtain ⟨p, vs, rfl, q, rs⟩ := r
    exact .tup (SqT.of (sub _ _ q)) (dps_of sub _ xs vs h.2 rs)
  | n, .lst xs, v, h, r => by
    unfold okD at h
    unfold Rep at r
    unfold toPy
    obtain ⟨p, vs, rfl, q, rs⟩ := r
    exact .lst (SqL.of (sub _ _ q)) (dps_of sub _ xs vs h.2 rs)
  | n, .scr xs, v, h, r => by
    unfold okD at h
    unfold Rep at r
    unfold toPy
    obtain ⟨p, vs, rfl, q, rs⟩ := r
    exact .lst (sub_sqL sub q) (dps_of sub _ xs vs h.2 rs)
  | n, .dct _ _ _, v, h, r => by unfold okD at h; exact h.elim
  | n, .cell _, v, h, r => by unfold okD at h; exact h.elim
  | n, .val _, v, h, r => by unfold okD at h; exact h.elim
  | n, .exc _, v, h, r => by unfold okD at h; exact h.elim
theorem dps_of {K : PySem.W.Frag} {F : Hp} {θ : List Addr} {H : Hp} (sub : Sub F H) : ∀ (n : Nat) (ds : List D) (vs : List V), okDs n ds → Reps K F θ ds vs → DpAll K H vs (toPys ds)
  | n, [], vs, h, r => by unfold Reps at r; unfold toPys; subst r; exact .nil
  | n, x :: xs, vs, h, r => by
    unfold okDs at h
    unfold Reps at r
    unfold toPys
    obtain ⟨v, q, rfl, r1, r2⟩ := r
    exact .cons (dp_of sub n x v h.1 r1) (dps_of sub n xs q h.2 r2)
end
def dr (μ : Mu) : D → D
  | .cell k => match μ[k]? with
    | some (.lst xs) => .lst xs
    | _ => .cell k
  | x => x
theorem dp_dr {K : PySem.W.Frag} {g : Wd} {μ : Mu} {H : Hp} {d : D} {v : V} (a : At K g μ H) (r : Rep K g.F g.th d v) (h : okD 60 (dr μ d)) : Dp K H v (toPy (dr μ d)) := by
  cases d with
  | cell k =>
    have hd : dr μ (.cell k) = (match μ[k]? with | some (.lst xs) => .lst xs | _ => .cell k) := rfl
    rw [hd] at h ⊢
    cases e : μ[k]? with
    | none => rw [e] at h; unfold okD at h; exact h.elim
    | some o =>
      rw [e] at h
      cases o with
      | lst xs =>
        obtain ⟨p, ev, hp, hF, vs, hH, rs⟩ := a.cellAt e (by simp) r
        subst ev
        show Dp K H (.ref p) (toPy (.lst xs))
        unfold okD at h
        unfold toPy
        exact .lst (SqL.of hH) (dps_of a.sub _ xs vs h.2 rs)
      | _ => unfold okD at h; exact h.elim
  | _ => exact dp_of a.sub 60 _ v h r
def deq (x y : D) : Bool := PyData.eqv (toPy x) (toPy y)
def scalD : D → D → Option Bool
  | .non, .non => some true
  | .non, .int _ => some false
  | .int _, .non => some false
  | .non, .bl _ => some false
  | .bl _, .non => some false
  | .non, .str _ => some false
  | .str _, .non => some false
  | .int i, .int j => some (decide (i = j))
  | .bl a, .bl b => some (decide (a = b))
  | .str a, .str b => some (decide (a = b))
  | .int _, .str _ => some false
  | .str _, .int _ => some false
  | .bl _, .str _ => some false
  | .str _, .bl _ => some false
  | _, _ => none
def dEq : DOp := fun x y μ Q => match scalD x y with
  | some b => Q (.bl b) μ
  | none => okD 60 (dr μ x) ∧ okD 60 (dr μ y) ∧ Q (.bl (deq (dr μ x) (dr μ y))) μ
def dNe : DOp := fun x y μ Q => match scalD x y with
  | some b => Q (.bl (!b)) μ
  | none => okD 60 (dr μ x) ∧ okD 60 (dr μ y) ∧ Q (.bl (!deq (dr μ x) (dr μ y))) μ
theorem mkS_inj {a b : List Nat} : mkS a = mkS b ↔ a = b := by
  constructor
  · intro h
    have : a.toArray = b.toArray := by injection h
    simpa using this
  · rintro rfl; rfl
theorem scal_rd {K : PySem.W.Frag} {F : Hp} {θ : List Addr} {x y : D} {a b : V} {c : Bool} (h : scalD x y = some c) (rx : Rep K F θ x a) (ry : Rep K F θ y b) : scal a b = true ∧ decide (a = b) = c := by
  unfold scalD at h
  split at h <;> cases h <;> unfold Rep at rx ry <;> subst rx <;> subst ry <;> refine ⟨rfl, ?_⟩ <;> first
    | rfl
    | simp [mkS_inj]
theorem cd_eq {X : Cx} (hu : X.A.units + 64 < cLine) : CmpD X .Eq dEq := by
  refine ⟨_, OpR.or op_eq (op_eqD hu), ?_⟩
  intro g μ H x y a b Q' Q a0 rx ry q k
  unfold dEq at q
  split at q
  · rename_i c hc
    obtain ⟨h1, h2⟩ := scal_rd hc rx ry
    refine .inl ⟨h1, ?_⟩
    rw [h2]
    exact k.here a0 rep_bl q
  · obtain ⟨h1, h2, q⟩ := q
    exact .inr ⟨_, _, dp_dr a0 rx h1, dp_dr a0 ry h2, okD_shaped h1, okD_shaped h2, k.here a0 rep_bl q⟩
theorem cd_ne {X : Cx} (hu : X.A.units + 64 < cLine) : CmpD X .NotEq dNe := by
  refine ⟨_, OpR.or op_ne (op_neD hu), ?_⟩
  intro g μ H x y a b Q' Q a0 rx ry q k
  unfold dNe at q
  split at q
  · rename_i c hc
    obtain ⟨h1, h2⟩ := scal_rd hc rx ry
    refine .inl ⟨h1, ?_⟩
    rw [h2]
    exact k.here a0 rep_bl q
  · obtain ⟨h1, h2, q⟩ := q
    exact .inr ⟨_, _, dp_dr a0 rx h1, dp_dr a0 ry h2, okD_shaped h1, okD_shaped h2, k.here a0 rep_bl q⟩
/-! #### in -/
def flatD : D → Bool
  | .non => true
  | .bl _ => true
  | .int _ => true
  | .str _ => true
  | _ => false
def inD (x : D) (ys : List D) : Bool := ys.any fun y => deq y x
def dIn (neg : Bool) : DOp := fun x y μ Q => match y with
  | .str s => ∃ c, x = .str [c] ∧ Q (.bl (if neg then !decide (c ∈ s) else decide (c ∈ s))) μ
  | y => ∃ ys, seqOf μ y = some ys ∧ flatD x = true ∧ ys.all flatD = true ∧ Q (.bl (if neg then !inD x ys else inD x ys)) μ
theorem flat_rd {K : PySem.W.Frag} {F : Hp} {θ : List Addr} {x : D} {a : V} (h : flatD x = true) (rx : Rep K F θ x a) : flatV a = true := by
  cases x <;> first | (exact Bool.noConfusion h) | (unfold Rep at rx; subst rx; rfl)
theorem feq_rd {K : PySem.W.Frag} {F : Hp} {θ : List Addr} {x y : D} {a b : V} (h : flatD x = true) (h' : flatD y = true) (rx : Rep K F θ x a) (ry : Rep K F θ y b) : eqV a b = deq x y := by
  cases x <;> first
    | (exact Bool.noConfusion h)
    | (cases y <;> first
        | (exact Bool.noConfusion h')
        | (unfold Rep at rx ry
           subst rx
           subst ry
           unfold deq
           simp [toPy, PyData.eqv, eqV]))
theorem in_rd {K : PySem.W.Frag} {F : Hp} {θ : List Addr} {x : D} {a : V} (h : flatD x = true) (rx : Rep K F θ x a) : ∀ {ys : List D} {vs : List V}, ys.all flatD = true → Reps K F θ ys vs → vs.all flatV = true ∧ inV a vs = inD x ys
  | [], vs, _, r => by unfold Reps at r; subst r; exact ⟨rfl, rfl⟩
  | y :: ys, vs, h', r => by
    unfold Reps at r
    obtain ⟨v, q, rfl, r1, r2⟩ := r
    rw [List.all_cons, Bool.and_eq_true] at h'
    obtain ⟨e1, e2⟩ := in_rd h rx h'.2 r2
    refine ⟨by rw [List.all_cons, flat_rd h'.1 r1, e1]; rfl, ?_⟩
    unfold inV inD at e2 ⊢
    rw [List.any_cons, List.any_cons, e2, feq_rd h'.1 h r1 rx]
theorem cd_notIn {X : Cx} : CmpD X .NotIn (dIn true) := by
  refine ⟨_, OpR.or op_notIn_sign op_notIn_seq, ?_⟩
  intro g μ H x y a b Q' Q a0 rx ry q k
  unfold dIn at q
  split at q
  · obtain ⟨c, rfl, q⟩ := q
    obtain rfl := rep_str rx
    obtain rfl := rep_str ry
    exact .inl ⟨c, _, rfl, rfl, k.here a0 rep_bl q⟩
  · obtain ⟨ys, h1, h2, h3, q⟩ := q
    obtain ⟨p, vs, rfl, hs, rs⟩ := seq_rd a0 ry h1
    obtain ⟨e1, e2⟩ := in_rd h2 rx h3 rs
    refine .inr ⟨p, vs, rfl, hs, flat_rd h2 rx, e1, ?_⟩
    rw [e2]
    exact k.here a0 rep_bl q
/-! #### is, of truths -/
def dIs (neg : Bool) : DOp := fun x y μ Q => ∃ a b, x = .bl a ∧ y = .bl b ∧ Q (.bl (if neg then !decide (a = b) else decide (a = b))) μ
/-! ### unary -/
def dNeg : DUn := fun x μ Q => ∃ i, x = .int i ∧ Q (.int (-i)) μ
section
variable {X : Cx} {W : WX} {e a b : Expr} {A B : TD} {pos : Pos}
theorem we_neg (ha : WX0 X W a A) : WX0 X W (.UnaryOp .USub a pos) (dUn dNeg A) := by
  refine PE.imp (pe_un un_neg ha) (up_un ?_)
  rintro g μ H x v Q' Q a0 rx ⟨i, rfl, q⟩ k
  obtain rfl := rep_int rx
  exact ⟨i, rfl, k.here a0 rep_intI q⟩
end
end SW

end

section
set_option Elab.async false
set_option linter.all false
set_option maxRecDepth 100000
namespace SW
open PySem L2

/-! ### subscripts -/
def dIx : DOp := fun x i μ Q => match x with
  | .str s => ∃ n c, i = .int n ∧ s.length ≤ sizeLine ∧ atI s n = some c ∧ Q (.str [c]) μ
  | x => ∃ n xs d, i = .int n ∧ seqOf μ x = some xs ∧ atI xs n = some d ∧ Q d μ
theorem at_reps {K : PySem.W.Frag} {F : Hp} {θ : List Addr} {xs : List D} {vs : List V} {n : Int} {d : D} (r : Reps K F θ xs vs) (h : atI xs n = some d) : ∃ v, atI vs n = some v ∧ Rep K F θ d v := by
  unfold atI at h ⊢
  rw [r.length] at h
  cases e : ixN vs.length n with
  | none => rw [e] at h; cases h
  | some j =>
    rw [e] at h
    exact r.get h
structure IxD (X : Cx) (f : DOp) : Prop where
  ex : ∃ r, IxR X r ∧ LOp X.K r f
theorem id_ix {X : Cx} : IxD X dIx := by
  refine ⟨_, IxR.or ix_list (IxR.or ix_tup ix_str), ?_⟩
  intro g μ H x y a b Q' Q a0 rx ry q k
  unfold dIx at q
  split at q
  · obtain ⟨n, c, rfl, hl, hc, q⟩ := q
    obtain rfl := rep_str rx
    obtain rfl := rep_int ry
    refine .inr (.inr ⟨_, n, c, rfl, rfl, by rw [mkS_len]; exact hl, by simpa [mkS] using hc, k.here a0 ?_ q⟩)
    unfold Rep
    rfl
  · obtain ⟨n, xs, d, rfl, hs, hd, q⟩ := q
    obtain rfl := rep_int ry
    obtain ⟨p, vs, rfl, h1, rs⟩ := seq_rd a0 rx hs
    obtain ⟨v, hv, rv⟩ := at_reps rs hd
    rcases h1 with h1 | h1
    · exact .inl ⟨p, vs, n, v, rfl, rfl, h1, hv, k.here a0 rv q⟩
    · exact .inr (.inl ⟨p, vs, n, v, rfl, rfl, h1, hv, k.here a0 rv q⟩)
section
variable {X : Cx} {W : WX} {e a b : Expr} {A B : TD} {pos : Pos}
theorem we_ix {f : DOp} (o : IxD X f) (ha : WX0 X W a A) (hb : WX0 X W b B) (hs : PlainIx b := by exact fun _ _ => rfl) : WX0 X W (.Subscript a b pos) (dOp f A B) := by
  obtain ⟨r, h1, h2⟩ := o.ex
  exact PE.imp (pe_ix h1 ha hb hs) (up_op h2)
end
/-- xs[i] = v, of a cell -/
def dSetL : DSet := fun o i v μ Q => ∃ k xs n j, o = .cell k ∧ μ[k]? = some (.lst xs) ∧ i = .int n ∧ ixN xs.length n = some j ∧ Q (μ.set k (.lst (xs.set j v)))
theorem sd_lst {X : Cx} : SetD X dSetL := by
  refine ⟨_, set_list, ?_⟩
  rintro g μ H o i v a b c Q' Q a0 ro ri rv ⟨k, xs, n, j, rfl, hk, rfl, hj, q⟩ kq
  obtain rfl := rep_int ri
  obtain ⟨p, rfl, hp, hF, vs, hH, rs⟩ := a0.cellAt hk (by simp) ro
  refine ⟨p, vs, n, j, rfl, rfl, hH, by rw [← rs.length]; exact hj, ?_⟩
  obtain ⟨a1, e1⟩ := a0.setC (ho := .lst (vs.set j c)) hk (by simp) hp (o' := .lst (xs.set j v)) ⟨_, upd_same, rs.set rv j⟩
  exact kq _ _ _ a1 e1 q

/-! ### lists that are read -/
def rdL (μ : Mu) : D → Option (List D)
  | .lst xs => some xs
  | .scr xs => some xs
  | .cell k => match μ[k]? with
    | some (.lst xs) => some xs
    | _ => none
  | _ => none
theorem rdL_rd {K : PySem.W.Frag} {g : Wd} {μ : Mu} {H : Hp} {d : D} {v : V} {xs : List D} (a : At K g μ H) (r : Rep K g.F g.th d v) (h : rdL μ d = some xs) : ∃ p vs, v = .ref p ∧ SqL K H p vs ∧ Reps K g.F g.th xs vs := by
  cases d with
  | lst ys =>
    cases h
    unfold Rep at r
    obtain ⟨p, vs, e, q, rs⟩ := r
    exact ⟨p, vs, e, SqL.of (a.sub _ _ q), rs⟩
  | scr ys =>
    cases h
    unfold Rep at r
    obtain ⟨p, vs, e, q, rs⟩ := r
    exact ⟨p, vs, e, sub_sqL a.sub q, rs⟩
  | cell k =>
    unfold rdL at h
    cases e : μ[k]? with
    | none => simp [e] at h
    | some o =>
      cases o with
      | lst ys =>
        simp [e] at h
        subst h
        obtain ⟨p, ev, hp, hF, vs, hH, rs⟩ := a.cellAt e (by simp) r
        exact ⟨p, vs, ev, SqL.of hH, rs⟩
      | _ => simp [e] at h
  | _ => cases h

/-! ### slices -/
abbrev TDP := DS → Mu → (Option Int → Mu → Prop) → DE → Prop
def upP (K : PySem.W.Frag) (W : WX) (A : TDP) : TO := fun σ H Q => ∃ (g : Wd) (μ : Mu) (δ : DS) (Q' : Option Int → Mu → Prop) (E' : DE), At K g μ H ∧ Sl K g σ δ ∧ A δ μ Q' E' ∧
  (∀ g' H' μ' b, At K g' μ' H' → Ext g H g' H' → Q' b μ' → Q b H') ∧
  (∀ g' H' μ' C δ', At K g' μ' H' → Ext g H g' H' → Sl K g' σ δ' → E' C δ' μ' → W C none σ H')
theorem PO.imp {X : Cx} {e : Option Expr} {t t' : TO} (h : PO X e t) (i : ∀ σ H Q, t' σ H Q → t σ H Q) : PO X e t' := ⟨fun pins s σ H Q I q => h.run pins s σ H Q I (i _ _ _ q)⟩
def dNoP : TDP := fun _ μ Q _ => Q none μ
def dPart (A : TD) : TDP := fun δ μ Q E => A δ μ (fun x μ1 => ∃ i, x = .int i ∧ Q (some i) μ1) E
abbrev WP (X : Cx) (W : WX) (e : Option Expr) (A : TDP) : Prop := PO X e (upP X.K W A)
def cutL {α : Type} (xs : List α) (lo hi : Option Int) : List α := (xs.drop (HT.sIx xs.length 0 lo)).take (HT.sIx xs.length xs.length hi - HT.sIx xs.length 0 lo)
abbrev DSl := D → Option Int → Option Int → Mu → DQ → Prop
def dSl (f : DSl) (A : TD) (L U : TDP) : TD := fun δ μ Q E => A δ μ (fun x μ1 => L δ μ1 (fun lo μ2 => U δ μ2 (fun hi μ3 => f x lo hi μ3 Q) E) E) E
def dCut (o : List D → Mu → DQ → Prop) : DSl := fun x lo hi μ Q => match x with
  | .str s => s.length ≤ sizeLine ∧ Q (.str (cutL s lo hi)) μ
  | .tup xs => Q (.tup (cutL xs lo hi)) μ
  | x => ∃ xs, rdL μ x = some xs ∧ o (cutL xs lo hi) μ Q
theorem cutL_reps {K : PySem.W.Frag} {F : Hp} {θ : List Addr} {xs : List D} {vs : List V} (r : Reps K F θ xs vs) (lo hi : Option Int) : Reps K F θ (cutL xs lo hi) (cutV vs lo hi) := by
  unfold cutL cutV
  rw [r.length]
  exact (r.drop _).take _
theorem cutS_mk (s : List Nat) (lo hi : Option Int) : cutS (mkS s) lo hi = mkS (cutL s lo hi) := by
  unfold cutS cutL
  rw [mkS_len]
section
variable {X : Cx} {W : WX} {e a b : Expr} {A B : TD} {L U : TDP} {lo hi : Option Expr} {pos p2 : Pos}
theorem wp_none : WP X W none dNoP := by
  refine PO.imp po_none ?_
  rintro σ H Q ⟨g, μ, δ, Q', E', a0, sl, h, k, kx⟩
  exact k g H μ none a0 (Ext.refl _ _) h
theorem wp_some (he : WX0 X W e A) : WP X W (some e) (dPart A) := by
  refine PO.imp (po_some he) ?_
  rintro σ H Q ⟨g, μ, δ, Q', E', a0, sl, h, k, kx⟩
  refine ⟨g, μ, δ, _, E', a0, sl, h, fun g1 H1 μ1 d v a1 e1 r1 ⟨i, hi, q⟩ => ?_, kx⟩
  subst hi
  exact ⟨i, rep_int r1, k g1 H1 μ1 _ a1 e1 q⟩
theorem we_cut {o : List D → Mu → DQ → Prop} (ho : OutOk X.K o) (he : WX0 X W e A) (hl : WP X W lo L) (hu : WP X W hi U) : WX0 X W (.Subscript e (.Slice lo hi none p2) pos) (dSl (dCut o) A L U) := by
  refine PE.imp (pe_slice (SlR.or sl_list (SlR.or sl_tupA sl_str)) he hl hu) ?_
  rintro σ H Q ⟨g, μ, δ, Q', E', a0, sl, h, k, kx⟩
  refine ⟨g, μ, δ, _, E', a0, sl, h, fun g1 H1 μ1 x v a1 e1 r1 q1 => ?_, kx⟩
  refine ⟨g1, μ1, δ, _, E', a1, sl.ext e1, q1, fun g2 H2 μ2 l a2 e2 q2 => ?_, fun g2 H2 μ2 C δ2 a2 e2 s2 q2 => kx g2 H2 μ2 C δ2 a2 (e1.trans e2) s2 q2⟩
  refine ⟨g2, μ2, δ, _, E', a2, sl.ext (e1.trans e2), q2, fun g3 H3 μ3 u a3 e3 q3 => ?_, fun g3 H3 μ3 C δ3 a3 e3 s3 q3 => kx g3 H3 μ3 C δ3 a3 (e1.trans (e2.trans e3)) s3 q3⟩
  have e13 := e1.trans (e2.trans e3)
  have r3 := (r1.ext e2).ext e3
  have kk : Kt X.K g3 H3 Q' Q := fun g4 H4 μ4 d w a4 e4 r4 q4 => k g4 H4 μ4 d w a4 (e13.trans e4) r4 q4
  clear r1
  unfold dCut at q3
  split at q3
  · obtain rfl := rep_str r3
    refine .inr (.inr ⟨_, rfl, by rw [mkS_len]; exact q3.1, ?_⟩)
    rw [cutS_mk]
    exact kk.here a3 rep_strI q3.2
  · unfold Rep at r3
    obtain ⟨p, vs, rfl, hq, rs⟩ := r3
    rename_i xs
    refine .inr (.inl ⟨p, vs, rfl, SqT.of (a3.sub _ _ hq), fun hw => ?_, fun _ n hn => ?_⟩)
    · have ew : cutL xs l u = xs := by
        unfold cutL
        rw [rs.length, hw.1, hw.2]
        simp [← rs.length]
      rw [ew] at q3
      refine kk.here a3 ?_ q3
      unfold Rep
      exact ⟨p, vs, rfl, hq, rs⟩
    · obtain ⟨g4, a4, e4, r4⟩ := a3.newTup hn (cutL_reps rs l u)
      exact kk _ _ _ _ _ a4 e4 r4 q3
  · obtain ⟨xs, hs, q3⟩ := q3
    obtain ⟨p, vs, rfl, h1, rs⟩ := rdL_rd a3 r3 hs
    exact .inl ⟨p, vs, rfl, h1, fun n hn => ho g3 μ3 H3 n _ _ Q' Q a3 hn (cutL_reps rs l u) q3 kk⟩
end

/-! ### methods of lists and texts -/
inductive MK where
  | lst | str
def MK.n : MK → String
  | .lst => "list"
  | .str => "str"
def isK (μ : Mu) (x : D) : MK → Prop
  | .lst => ∃ xs, rdL μ x = some xs
  | .str => ∃ s, x = .str s
theorem isK_ty {K : PySem.W.Frag} {g : Wd} {μ : Mu} {H : Hp} {x : D} {v : V} {k : MK} (a : At K g μ H) (r : Rep K g.F g.th x v) (h : isK μ x k) : tyV K k.n v H := by
  cases k with
  | lst =>
    obtain ⟨xs, h⟩ := h
    obtain ⟨p, vs, rfl, q, _⟩ := rdL_rd a r h
    exact .inl ⟨rfl, _, q⟩
  | str =>
    obtain ⟨s, rfl⟩ := h
    obtain rfl := rep_str r
    rfl
def dBM (k : MK) (f : DMt) (A : TD) (B : TDA) : TD := fun δ μ Q E => A δ μ (fun x μ1 => isK μ1 x k ∧ B δ μ1 (fun xs μ2 => f x xs μ2 Q) E) E
structure MtD (X : Cx) (id : String) (f : DMt) : Prop where
  ex : ∃ r, MtR X id r ∧ LMt X.K r f
section
variable {X : Cx} {W : WX} {o e : Expr} {es : List Expr} {A : TD} {B : TDA} {name : Str} {apos cpos : Pos} {id : String} {f : DMt}
theorem we_bm (k : MK) (m : MtD X id f) (pa : PlainAttrs k.n) (slot : Slot k.n name id) (hty : typeOf (.builtin id) = pure (.type "method_descriptor")) (ho : WX0 X W o A) (ha : WA X W (e :: es) B)
    (hbase : attributeBase o name X.env (eval o X.env) = eval o X.env := by rfl)
    (hfew : ((backTo cpos (starEach (e :: es) X.env)).all (fun x => !x.1) && (backToKw cpos (keywordEach [] X.env)).all (fun x => x.1.isSome)
      && decide ((e :: es).length + ([] : List Keyword).length + (if ([] : List Keyword).isEmpty then 0 else 1) < 30)) = true := by rfl)
    (hline : (apos.endLine == cpos.line) = true := by rfl) (hs : starEach (e :: es) X.env = (false, eval e X.env) :: starEach es X.env := by rfl) (hplain : (backTo cpos (starEach es X.env)).any (·.1) = false := by rfl) :
    WX0 X W (.Call (.Attribute o name apos) (e :: es) [] cpos) (dBM k f A B) := by
  obtain ⟨r, h1, h2⟩ := m.ex
  refine PE.imp (pe_bm pa slot hty h1 ho ha hbase hfew hline hs hplain) ?_
  rintro σ H Q ⟨g, μ, δ, Q', E', a0, sl, h, kq, kx⟩
  refine ⟨g, μ, δ, _, E', a0, sl, h, fun g1 H1 μ1 x v a1 e1 r1 ⟨hk, q1⟩ => ⟨isK_ty a1 r1 hk, ?_⟩, kx⟩
  refine ⟨g1, μ1, δ, _, E', a1, sl.ext e1, q1, fun g2 H2 μ2 xs vs a2 e2 r2 q2 => ?_, fun g2 H2 μ2 C δ2 a2 e2 s2 q2 => kx g2 H2 μ2 C δ2 a2 (e1.trans e2) s2 q2⟩
  exact h2 g2 μ2 H2 x v xs vs Q' Q a2 (r1.ext e2) r2 q2 fun g3 H3 μ3 d u a3 e3 r3 q3 => kq g3 H3 μ3 d u a3 (e1.trans (e2.trans e3)) r3 q3
end
theorem rep_nonI {K : PySem.W.Frag} {F : Hp} {θ : List Addr} : Rep K F θ .non .non := by unfold Rep; rfl
def dAppend : DMt := fun x ys μ Q => ∃ k xs y, x = .cell k ∧ ys = [y] ∧ μ[k]? = some (.lst xs) ∧ xs.length < sizeLine ∧ Q .non (μ.set k (.lst (xs ++ [y])))
theorem md_append {X : Cx} : MtD X "list.append" dAppend := by
  refine ⟨_, mt_append, ?_⟩
  rintro g μ H x a xs as Q' Q a0 rx rs ⟨k, ys, y, rfl, rfl, hk, hl, q⟩ kq
  obtain ⟨p, rfl, hp, hF, vs, hH, r⟩ := a0.cellAt hk (by simp) rx
  obtain ⟨w, rfl, rw'⟩ := reps1 rs
  obtain ⟨a1, e1⟩ := a0.setC (ho := .lst (vs ++ [w])) hk (by simp) hp (o' := .lst (ys ++ [y])) ⟨_, upd_same, r.append (Reps.cons rw' Reps.nil)⟩
  exact ⟨p, vs, w, rfl, rfl, hH, by rw [← r.length]; exact hl, kq _ _ _ _ _ a1 e1 rep_nonI q⟩
def dExtend : DMt := fun x ys μ Q => ∃ k xs y zs, x = .cell k ∧ ys = [y] ∧ μ[k]? = some (.lst xs) ∧ y ≠ .cell k ∧ lstOf μ y = some zs ∧ xs.length + zs.length ≤ sizeLine ∧ Q .non (μ.set k (.lst (xs ++ zs)))
theorem md_extend {X : Cx} : MtD X "list.extend" dExtend := by
  refine ⟨_, mt_extend, ?_⟩
  rintro g μ H x a xs as Q' Q a0 rx rs ⟨k, ys, y, zs, rfl, rfl, hk, hne, hz, hl, q⟩ kq
  obtain ⟨p, rfl, hp, hF, vs, hH, r⟩ := a0.cellAt hk (by simp) rx
  obtain ⟨w, rfl, rw'⟩ := reps1 rs
  obtain ⟨p2, ws, rfl, hH2, r2⟩ := lst_rd a0 rw' hz
  obtain ⟨a1, e1⟩ := a0.setC (ho := .lst (vs ++ ws)) hk (by simp) hp (o' := .lst (ys ++ zs)) ⟨_, upd_same, r.append r2⟩
  exact ⟨p, p2, vs, ws, rfl, rfl, hH, hH2, by rw [← r.length, ← r2.length]; exact hl, kq _ _ _ _ _ a1 e1 rep_nonI q⟩
theorem Reps.dropLast {K : PySem.W.Frag} {F : Hp} {θ : List Addr} {ds : List D} {vs : List V} (r : Reps K F θ ds vs) : Reps K F θ ds.dropLast vs.dropLast := by
  rw [List.dropLast_eq_take, List.dropLast_eq_take, r.length]
  exact r.take _
def dPop : DMt := fun x ys μ Q => ∃ k xs y, x = .cell k ∧ ys = [] ∧ μ[k]? = some (.lst xs) ∧ xs[xs.length - 1]? = some y ∧ Q y (μ.set k (.lst xs.dropLast))
/-- texts -/
def dFind2 : DMt := fun x ys μ Q => ∃ s t i, x = .str s ∧ ys = [.str t, .int i] ∧ Q (.int (Txt.find3 (mkS s) (mkS t) i)) μ
theorem md_find2 {X : Cx} : MtD X "str.find" dFind2 := by
  refine ⟨_, mt_find3, ?_⟩
  rintro g μ H x a xs as Q' Q a0 rx rs ⟨s, t, i, rfl, rfl, q⟩ kq
  obtain rfl := rep_str rx
  obtain ⟨v, w, rfl, r1, r2⟩ := reps2 rs
  obtain rfl := rep_str r1
  obtain rfl := rep_int r2
  exact ⟨_, _, _, rfl, rfl, kq.here a0 rep_intI q⟩
def dRfind3 : DMt := fun x ys μ Q => ∃ s t i j, x = .str s ∧ ys = [.str t, .int i, .int j] ∧ Q (.int (Txt.rfindIn (mkS s) (mkS t) i j)) μ
/-- texts in a list -/
def strsOf : List D → Option (List (List Nat))
  | [] => some []
  | .str s :: r => (strsOf r).map fun t => s :: t
  | _ :: _ => none
def joinL (sep : List Nat) : List (List Nat) → List Nat
  | [] => []
  | [x] => x
  | x :: y :: r => x ++ sep ++ joinL sep (y :: r)
theorem strs_rd {K : PySem.W.Frag} {F : Hp} {θ : List Addr} : ∀ {ds : List D} {vs : List V} {ss : List (List Nat)}, strsOf ds = some ss → Reps K F θ ds vs → vs = (ss.map mkS).map V.str
  | [], vs, ss, h, r => by unfold Reps at r; cases h; subst r; rfl
  | d :: ds, vs, ss, h, r => by
    unfold Reps at r
    obtain ⟨v, q, rfl, r1, r2⟩ := r
    cases d <;> first
      | (unfold strsOf at h
         rw [Option.map_eq_some_iff] at h
         obtain ⟨t, ht, rfl⟩ := h
         rw [strs_rd ht r2, rep_str r1]
         rfl)
      | (unfold strsOf at h
         cases h)
theorem join_fold (sep : List Nat) : ∀ (r : List (List Nat)) (a : Array Nat), (r.map mkS).foldl (fun acc p => acc ++ (mkS sep).cps ++ p.cps) a = a ++ ((r.map fun t => sep ++ t).flatten).toArray
  | [], a => by simp
  | t :: r, a => by
    rw [List.map_cons, List.foldl_cons, join_fold sep r, List.map_cons, List.flatten_cons]
    apply Array.toList_inj.mp
    simp [mkS]
theorem joinL_cons (sep x : List Nat) : ∀ r : List (List Nat), joinL sep (x :: r) = x ++ (r.map fun t => sep ++ t).flatten
  | [] => by simp [joinL]
  | y :: r => by
    unfold joinL
    rw [joinL_cons sep y r]
    simp
theorem join_mkS (sep : List Nat) (ss : List (List Nat)) : Txt.join (mkS sep) (ss.map mkS) = mkS (joinL sep ss) := by
  unfold Txt.join Builtin.Str.glued
  cases ss with
  | nil => rfl
  | cons x r =>
    rw [List.map_cons, List.drop_succ_cons, List.drop_zero, List.headD_cons, join_fold, joinL_cons]
    simp [mkS]
def dJoin : DMt := fun x ys μ Q => ∃ sep y xs ss, x = .str sep ∧ ys = [y] ∧ rdL μ y = some xs ∧ strsOf xs = some ss ∧ (ss.map List.length).sum + ss.length * sep.length ≤ 16777216 ∧ Q (.str (joinL sep ss)) μ
theorem md_join {X : Cx} : MtD X "str.join" dJoin := by
  refine ⟨_, mt_join, ?_⟩
  rintro g μ H x a xs as Q' Q a0 rx rs ⟨sep, y, ds, ss, rfl, rfl, hy, hs, hl, q⟩ kq
  obtain rfl := rep_str rx
  obtain ⟨v, rfl, r1⟩ := reps1 rs
  obtain ⟨p, vs, rfl, hq, rr⟩ := rdL_rd a0 r1 hy
  have e := strs_rd hs rr
  subst e
  refine ⟨mkS sep, p, ss.map mkS, rfl, rfl, .inl hq, ?_, ?_⟩
  · have e1 : (ss.map mkS).map (fun z : Str => z.length) = ss.map List.length := by
      rw [List.map_map]
      exact List.map_congr_left fun t _ => mkS_len t
    rw [e1, List.length_map, mkS_len]
    exact hl
  · rw [join_mkS]
    exact kq.here a0 rep_strI q

/-! ### calls of what is built in -/
def ca1 (f : DUn) : DCa := fun xs μ Q => ∃ x, xs = [x] ∧ f x μ Q
def dLen : DUn := fun x μ Q => match x with
  | .str s => s.length ≤ sizeLine ∧ Q (.int s.length) μ
  | .cell k => (∃ xs, μ[k]? = some (.lst xs) ∧ Q (.int xs.length) μ)
  | x => ∃ xs, seqOf μ x = some xs ∧ Q (.int xs.length) μ
theorem ld_len {X : Cx} : CalD X (.builtin "len") (ca1 dLen) := by
  refine ⟨_, call_len, ?_⟩
  rintro g μ H xs as Q' Q a0 rs ⟨x, rfl, q⟩ k
  obtain ⟨v, rfl, rv⟩ := reps1 rs
  have seq : ∀ ys, seqOf μ x = some ys → Q' (.int ys.length) μ → ∃ y n, [v] = [y] ∧ LenV X.K y H n ∧ Q (.int n) H := fun ys hs q => by
    obtain ⟨p, vs, rfl, h1, rr⟩ := seq_rd a0 rv hs
    refine ⟨.ref p, vs.length, rfl, ?_, by rw [← rr.length]; exact k.here a0 rep_intI q⟩
    rcases h1 with h1 | h1
    · exact .inl ⟨vs, h1, rfl⟩
    · exact .inr ⟨vs, h1, rfl⟩
  unfold dLen at q
  split at q
  · obtain rfl := rep_str rv
    refine ⟨_, _, rfl, ⟨by rw [mkS_len]; exact q.1, rfl⟩, ?_⟩
    rw [mkS_len]
    exact k.here a0 rep_intI q.2
  · obtain ⟨ys, hk, q⟩ := q
    exact seq ys (by simp [seqOf, hk]) q
  · obtain ⟨ys, hs, q⟩ := q
    exact seq ys hs q
def dIntOf : DUn := fun x μ Q => match x with
  | .int i => Q (.int i) μ
  | .bl b => Q (.int (if b then 1 else 0)) μ
  | _ => False
theorem ld_int {X : Cx} : CalD X (.type "int") (ca1 dIntOf) := by
  refine ⟨_, call_int1, ?_⟩
  rintro g μ H xs as Q' Q a0 rs ⟨x, rfl, q⟩ k
  obtain ⟨v, rfl, rv⟩ := reps1 rs
  unfold dIntOf at q
  split at q
  · obtain rfl := rep_int rv
    exact .inl ⟨_, rfl, k.here a0 rep_intI q⟩
  · obtain rfl := rep_blv rv
    exact .inr ⟨_, rfl, k.here a0 rep_intI q⟩
  · exact q.elim
def dMin2 : DCa := fun xs μ Q => ∃ i j, xs = [.int i, .int j] ∧ Q (.int (if j < i then j else i)) μ
def dMax2 : DCa := fun xs μ Q => ∃ i j, xs = [.int i, .int j] ∧ Q (.int (if j > i then j else i)) μ
def dMinL : DCa := fun xs μ Q => ∃ x ys ns, xs = [x] ∧ rdL μ x = some ys ∧ ys = (ns : List Int).map .int ∧ 0 < ns.length ∧ ∀ m, m ∈ ns → (∀ y, y ∈ ns → m ≤ y) → Q (.int m) μ
theorem ints_rd {K : PySem.W.Frag} {F : Hp} {θ : List Addr} : ∀ {ns : List Int} {vs : List V}, Reps K F θ (ns.map .int) vs → vs = ns.map V.int
  | [], vs, r => by unfold List.map Reps at r; exact r
  | n :: ns, vs, r => by
    rw [List.map_cons] at r
    unfold Reps at r
    obtain ⟨v, q, rfl, r1, r2⟩ := r
    rw [ints_rd r2, rep_int r1]
    rfl
theorem ld_min2 {X : Cx} (hc : X.calm = true := by rfl) : CalD X (.builtin "min") dMin2 := by
  refine ⟨_, call_min2 hc, ?_⟩
  rintro g μ H xs as Q' Q a0 rs ⟨i, j, rfl, q⟩ k
  obtain ⟨v, w, rfl, r1, r2⟩ := reps2 rs
  obtain rfl := rep_int r1
  obtain rfl := rep_int r2
  exact ⟨i, j, rfl, k.here a0 rep_intI q⟩
theorem ld_minL {X : Cx} (hc : X.calm = true := by rfl) : CalD X (.builtin "min") dMinL := by
  refine ⟨_, cr_min hc, ?_⟩
  rintro g μ H xs as Q' Q a0 rs ⟨x, ys, ns, rfl, hy, rfl, hl, q⟩ k
  obtain ⟨v, rfl, rv⟩ := reps1 rs
  obtain ⟨p, vs, rfl, hq, rr⟩ := rdL_rd a0 rv hy
  have e := ints_rd rr
  subst e
  exact ⟨p, ns, rfl, hq, hl, fun m h1 h2 => k.here a0 rep_intI (q m h1 h2)⟩
def dSum : DCa := fun xs μ Q => ∃ x ys ns, xs = [x] ∧ rdL μ x = some ys ∧ ys = (ns : List Int).map .int ∧ Q (.int ns.sum) μ
theorem ld_sum {X : Cx} (hc : X.calm = true := by rfl) : CalD X (.builtin "sum") dSum := by
  refine ⟨_, cr_sum hc, ?_⟩
  rintro g μ H xs as Q' Q a0 rs ⟨x, ys, ns, rfl, hy, rfl, q⟩ k
  obtain ⟨v, rfl, rv⟩ := reps1 rs
  obtain ⟨p, vs, rfl, hq, rr⟩ := rdL_rd a0 rv hy
  have e := ints_rd rr
  subst e
  exact ⟨p, ns, rfl, hq, k.here a0 rep_intI q⟩
/-- list(x), tuple(x) of a list or tuple -/
def dListOf (o : List D → Mu → DQ → Prop) : DUn := fun x μ Q => ∃ xs, seqOf μ x = some xs ∧ o xs μ Q
theorem seq_split {μ : Mu} {x : D} {ys : List D} (h : seqOf μ x = some ys) : rdL μ x = some ys ∨ x = .tup ys := by
  cases x <;> first | (exact .inl h) | (cases h; exact .inr rfl)
def dTupOf : DUn := fun x μ Q => ∃ xs, seqOf μ x = some xs ∧ Q (.tup xs) μ
theorem ld_tup {X : Cx} : CalD X (.type "tuple") (ca1 dTupOf) := by
  refine ⟨_, call_tuple_of, ?_⟩
  rintro g μ H xs as Q' Q a0 rs ⟨x, rfl, ys, hy, q⟩ k
  obtain ⟨v, rfl, rv⟩ := reps1 rs
  rcases seq_split hy with hy | rfl
  · obtain ⟨p, vs, rfl, h1, rr⟩ := rdL_rd a0 rv hy
    refine ⟨p, vs, rfl, .inl ⟨h1, fun n hn => ?_⟩⟩
    obtain ⟨g', a', e', r'⟩ := a0.newTup hn rr
    exact k _ _ _ _ _ a' e' r' q
  · have rv' := rv
    unfold Rep at rv
    obtain ⟨p, vs, rfl, h1, rr⟩ := rv
    exact ⟨p, vs, rfl, .inr ⟨SqT.of (a0.sub _ _ h1), k.here a0 rv' q⟩⟩
/-! #### isinstance -/
def tyN : Mu → D → Option String
  | _, .non => some "NoneType"
  | _, .bl _ => some "bool"
  | _, .int _ => some "int"
  | _, .str _ => some "str"
  | _, .tup _ => some "tuple"
  | _, .lst _ => some "list"
  | _, .dct _ _ _ => some "dict"
  | _, .dcn _ _ _ => some "dict"
  | μ, .cell k => match μ[k]? with
    | some (.lst _) => some "list"
    | some (.dct _ _ _) => some "dict"
    | some (.dcn _ _ _) => some "dict"
    | _ => none
  | _, _ => none
def dIsi : DCa := fun xs μ Q => ∃ x n t b, xs = [x, .val (.ty n)] ∧ tyN μ x = some t ∧ kitB t n = some b ∧ Q (.bl b) μ
theorem tyN_rd {K : PySem.W.Frag} {g : Wd} {μ : Mu} {H : Hp} {x : D} {v : V} {t : String} (a : At K g μ H) (r : Rep K g.F g.th x v) (h : tyN μ x = some t) : TyX K H v (.type t) ∨ (∃ (p : Addr) (o : Obj) (kvs : List (List Key × V)), v = .ref p ∧ H p = some (.frz o (.dT kvs)) ∧ t = "dict") ∨ ∃ (p : Addr) (w : World) (xs : List NEnt), v = .ref p ∧ Rd H p (NkO w p xs) ∧ t = "dict" := by
  cases x with
  | non => cases h; unfold Rep at r; subst r; exact .inl <| .base .non
  | bl b => cases h; unfold Rep at r; subst r; exact .inl <| .base (.bl _)
  | int b => cases h; unfold Rep at r; subst r; exact .inl <| .base (.int _)
  | str b => cases h; unfold Rep at r; subst r; exact .inl <| .base (.str _)
  | tup xs =>
    cases h
    unfold Rep at r
    obtain ⟨p, vs, rfl, q, _⟩ := r
    exact .inl <| .base (.tup (a.sub _ _ q))
  | lst xs =>
    cases h
    unfold Rep at r
    obtain ⟨p, vs, rfl, q, _⟩ := r
    exact .inl <| .base (.lst (a.sub _ _ q))
  | dct tt ks vs =>
    cases h
    unfold Rep at r
    obtain ⟨p, ws, rfl, _, _, q⟩ := r
    rcases q with ⟨kk, _, q⟩ | ⟨kk, _, q⟩
    · obtain ⟨o, q⟩ := q
      exact .inl <| .fDict (a.sub _ _ q)
    · obtain ⟨o, q⟩ := q
      exact .inr <| .inl ⟨p, o, _, rfl, a.sub _ _ q, rfl⟩
  | dcn w kk vs =>
    cases h
    unfold Rep at r
    obtain ⟨p, ws, bs, rfl, _, _, _, o, q⟩ := r
    exact .inr <| .inr ⟨p, _, _, rfl, .inr ⟨o, a.sub _ _ q⟩, rfl⟩
  | cell k =>
    unfold tyN at h
    cases e : μ[k]? with
    | none => simp [e] at h
    | some o =>
      cases o with
      | lst ys =>
        simp [e] at h
        subst h
        obtain ⟨p, rfl, hp, hF, vs, hH, rs⟩ := a.cellAt e (by simp) r
        exact .inl <| .base (.lst hH)
      | dct tt ks ys =>
        simp [e] at h
        subst h
        obtain ⟨p, rfl, hp, hF, vs, _, _, q⟩ := a.cellAt e (by simp) r
        rcases q with ⟨kk, _, q⟩ | ⟨kk, _, q⟩
        · exact .inl <| .base (.dK q)
        · exact .inl <| .base (.dT q)
      | dcn w kk ys =>
        simp [e] at h
        subst h
        obtain ⟨p, rfl, hp, hF, vs, bs, q, _⟩ := a.cellAt e (by simp) r
        exact .inr <| .inr ⟨p, _, _, rfl, .inl q, rfl⟩
      | _ => simp [e] at h
  | scr xs => cases h
  | val v => cases h
  | exc v => cases h
theorem call_isiFT {X : Cx} : CallR X (.builtin "isinstance") (fun xs H Q => ∃ (p : Addr) (o : Obj) (kvs : List (List Key × V)) (n : String) (b : Bool), xs = [.ref p, .ty n] ∧ H p = some (.frz o (.dT kvs)) ∧ kitB "dict" n = some b ∧ Q (.bl b) H) := by
  intro pins s σ H xs us Q I r h
  obtain ⟨p, o, kvs, n, b, rfl, hp, e, q⟩ := h
  obtain ⟨u1, u2, rfl, r1, r2⟩ := vals2 r
  cases (show u1 = Value.ref p from r1)
  obtain rfl : u2 = .type n := r2
  obtain ⟨hs, hgd, hx, _⟩ := I.frzT hp
  exact PySem.W.kia_one PySem.W.kitx_dict I.kIn ⟨o, hgd, hx.1⟩ (kit_ty e) (fun z => nomatch z) fun tk => ⟨.bl b, H, I.tok tk, rfl, q⟩
theorem call_isiN {X : Cx} : CallR X (.builtin "isinstance") (fun xs H Q => ∃ (p : Addr) (w : World) (ys : List NEnt) (n : String) (b : Bool), xs = [.ref p, .ty n] ∧ Rd H p (NkO w p ys) ∧ kitB "dict" n = some b ∧ Q (.bl b) H) := by
  intro pins s σ H xs us Q I r h
  obtain ⟨p, w, ys, n, b, rfl, hp, e, q⟩ := h
  obtain ⟨u1, u2, rfl, r1, r2⟩ := vals2 r
  cases (show u1 = Value.ref p from r1)
  obtain rfl : u2 = .type n := r2
  obtain ⟨_, _, _, _, o, es, ep, hgd, hx, _⟩ := (hp.ok I.hok).1
  exact PySem.W.kia_one PySem.W.kitx_dict I.kIn ⟨o, hgd, hx.1⟩ (kit_ty e) (fun z => nomatch z) fun tk => ⟨.bl b, H, I.tok tk, rfl, q⟩
theorem ld_isi {X : Cx} : CalD X (.builtin "isinstance") dIsi := by
  refine ⟨_, CallR.or call_isi (CallR.or call_isiFT call_isiN), ?_⟩
  rintro g μ H xs as Q' Q a0 rs ⟨x, n, t, b, rfl, ht, hb, q⟩ k
  obtain ⟨v, w, rfl, r1, r2⟩ := reps2 rs
  have e : w = .ty n := by unfold Rep at r2; exact r2
  subst e
  rcases tyN_rd a0 r1 ht with z | ⟨p, o, kvs, rfl, hp, rfl⟩ | ⟨p, w, ys, rfl, hp, rfl⟩
  · exact .inl ⟨v, .ty n, .type t, .type n, b, rfl, .ty n, z, kit_ty hb, k.here a0 rep_bl q⟩
  · exact .inr (.inl ⟨p, o, kvs, n, b, rfl, hp, hb, k.here a0 rep_bl q⟩)
  · exact .inr (.inr ⟨p, w, ys, n, b, rfl, hp, hb, k.here a0 rep_bl q⟩)
/-- a built-in class as a value -/
theorem we_bty {X : Cx} {W : WX} {x : Str} {n : String} {pos : Pos} (hm : X.mg x = none) (hv : bootBuiltins x = some (.type n)) (hg : Gl X x := by rfl) (hn : x ≠ "__name__" := by decide) (hd : (x == ("__debug__" : Str)) = false := by decide) : WX0 X W (.Name x pos) (dC (.val (.ty n))) :=
  PE.imp (pe_bltn (v := .ty n) hg hm hv rfl hn hd) (up_c fun _ _ => by unfold Rep; rfl)
end SW

end

section
set_option Elab.async false
set_option linter.all false
set_option maxRecDepth 100000
namespace SW
open PySem PySem.Spec L2

/-! ### raise -/
structure ExcF (K : PySem.W.Frag) (mg : Str → Option Value) (x : Str) (C : Addr) : Prop where
  g : mg x = some (.ref C)
  k : PySem.W.keepIn K (.ref C) = true
  q : PySem.W.excIn K C [.type "ValueError", .type "Exception", .type "BaseException", .type "object"] "ValueError.__new__" = true
  b : PySem.W.subIn K (.ref C) (.type "BaseException") = some true
  t : PySem.W.typeIn K (.ref C) = some (.type "type")
def dRaise (C : Addr) : TDS := fun D δ μ => D.ex (.ref C) δ μ
theorem ws_raise {X : Cx} {W : WX} {x m : Str} {C : Addr} {j : Nat} {p p2 pos pos2 : Pos} (T : ExcF X.K X.mg x C) (tk : Takes X W) (hc : X.calm = true := by rfl) (hg : Gl X x := by rfl) (hdb : (x == ("__debug__" : Str)) = false := by decide) :
    WS X W (.Raise (some (.Call (.Name x p) [.Constant (.str m) j p2] [] pos)) none pos2) (dRaise C) := by
  refine PS.imp (ps_raise hc tk (pmk_own PySem.F.excBase_ValueError T.q T.g T.k (raises_own T.b T.t) hg hdb)) ?_
  rintro D σ H ⟨g, μ, δ, D', a0, sl, h, k1, k2, k3, k4, k5⟩
  exact k5 g H μ _ δ σ a0 (Ext.refl _ _) sl h

/-! ### reversed -/
def dRev (A : TDA) : TDI := fun δ μ Q E => A δ μ (fun xs μ1 => ∃ ds, xs = [.lst ds] ∧ Q ds.reverse μ1) E
/-! ### the items turned about -/
def stepL (c : Int) (s : List Nat) : List Nat := (Builtin.Str.strSliceIndices none none c s.length).filterMap (s[·]?)
theorem range_rev (n : Nat) : ((List.range n).map fun (k : Nat) => (((n : Int) - 1) + (-1) * (k : Int)).toNat) = (List.range n).reverse := by
  apply List.ext_getElem
  · simp
  · intro i h1 h2
    simp at h1
    simp [List.getElem_reverse]
    omega
theorem stepL_rev (s : List Nat) : stepL (-1) s = s.reverse := by
  unfold stepL Builtin.Str.strSliceIndices
  have e1 : sliceRange ((s.length : Int) - 1) (-1) (-1) = (List.range s.length).reverse := by
    unfold sliceRange
    have : (if ((-1 : Int) > 0) then (if ((s.length : Int) - 1) < (-1) then ((-1 : Int) - ((s.length : Int) - 1) + (-1) - 1) / (-1) else 0) else (if ((s.length : Int) - 1) > (-1) then (((s.length : Int) - 1) - (-1) - (-1) - 1) / (-(-1)) else 0)) = (s.length : Int) := by
      rw [if_neg (by decide)]
      split
      · simp
      · omega
    rw [this]
    simp only [Int.toNat_natCast]
    exact range_rev _
  show (sliceRange ((s.length : Int) - 1) (-1) (-1)).filterMap _ = _
  rw [e1, List.filterMap_reverse]
  congr 1
  apply List.ext_getElem?
  intro i
  have go : ∀ (l : List Nat) (n : Nat), n ≤ l.length → (List.range n).filterMap (l[·]?) = l.take n := by
    intro l n
    induction n with
    | zero => intro _; rfl
    | succ n ih =>
      intro hn
      rw [List.range_succ, List.filterMap_append, ih (by omega), List.take_add_one]
      simp [List.getElem?_eq_getElem (show n < l.length by omega)]
  rw [go s _ (Nat.le_refl _), List.take_length]
/-- e[::c] -/
def dStep (c : Int) (o : List D → Mu → DQ → Prop) : DUn := fun x μ Q => match x with
  | .str s => s.length ≤ sizeLine ∧ Q (.str (stepL c s)) μ
  | x => c = -1 ∧ ∃ xs, rdL μ x = some xs ∧ o xs.reverse μ Q
theorem pe_stepA {X : Cx} {e st : Expr} {te ts : TE} {c : Int} {p2 pos : Pos} (hc : (c == 0) = false) (hc1 : (c == 1) = false) (he : PE X e te) (hst : PE X st ts) (hts : ∀ σ H Q, Q (.int c) H → ts σ H Q)
    (hsub : ∀ v r, subscripted (.Slice none none (some st) p2) false v r = operate [v, r] (getItem v r) ∨ subscripted (.Slice none none (some st) p2) false v r = operate [r, v] (getItem v r) := by first | exact fun _ _ => .inl (by with_unfolding_all rfl) | exact fun _ _ => .inr (by with_unfolding_all rfl)) :
    PE X (.Subscript e (.Slice none none (some st) p2) pos) (fun σ H Q => te σ H fun x H1 => (∃ z, x = .str z ∧ z.length ≤ sizeLine ∧ Q (.str ⟨((Builtin.Str.strSliceIndices none none c z.length).filterMap (z.cps[·]?)).toArray⟩) H1) ∨
      (c = -1 ∧ ∃ a xs, x = .ref a ∧ SqL X.K H1 a xs ∧ ∀ p, H1 p = none → Q (.ref p) (upd H1 p (.lst xs.reverse)))) := by
  refine ⟨fun pins s σ H Q I h => ?_⟩
  refine PyProof.Rows.Subscript_ (thn (he.run pins s σ H _ I h) fun v s1 ⟨x, H1, I1, r1, q1⟩ => ?_)
  refine wpAny_Slice (thn (po_none.run pins s1 σ H1 (fun o H2 => o = none ∧ H2 = H1) I1 ⟨rfl, rfl⟩) fun vl s2 ⟨l, H2, I2, pl, el, e2⟩ => ?_)
  subst el e2
  refine thn (po_none.run pins s2 σ H2 (fun o H3 => o = none ∧ H3 = H2) I2 ⟨rfl, rfl⟩) fun vu s3 ⟨u, H3, I3, pu, eu, e3⟩ => ?_
  subst eu e3
  have ho : PO X (some st) (tPart ts) := po_some hst
  refine thn (ho.run pins s3 σ H3 (fun o H4 => o = some c ∧ H4 = H3) I3 (hts σ H3 _ ⟨c, rfl, rfl, rfl⟩)) fun vs s4 ⟨o, H4, I4, ps, eo, e4⟩ => ?_
  subst eo e4
  have I5 : Inv X pins σ H4 { s4 with heap := s4.heap.push { cls := .type "slice", data := .fields #[vl, vu, vs] } } := I4.kept (t' := s4.toks) fun b ob q => Heap.get?_push_of_some _ q
  have isl := Heap.IsSliceOf.new s4.heap vl vu vs
  have fin : ∀ T id, typeLookup (.type T) "__getitem__" = pure (some (.builtin id)) → Shared.TypeIs { s4 with heap := s4.heap.push { cls := .type "slice", data := .fields #[vl, vu, vs] } } v T →
      wpAny (model X.prog X.w) X.A (getItem v (.ref s4.heap.objs.size)) (EP X pins σ Q) X.xe { s4 with heap := s4.heap.push { cls := .type "slice", data := .fields #[vl, vu, vs] } } →
      wpAny (model X.prog X.w) X.A (PyProof.Rows.subscriptTail e (.Slice none none (some st) p2) v (.ref s4.heap.objs.size)) (EP X pins σ Q) X.xe { s4 with heap := s4.heap.push { cls := .type "slice", data := .fields #[vl, vu, vs] } } := fun T id h1 h2 h3 => by
    rcases hsub v (.ref s4.heap.objs.size) with z | z
    · exact PyProof.Rows.tail_any h2 h1 h3 z
    · exact PyProof.Rows.tail_any h2 h1 h3 z
  rcases q1 with ⟨z, rfl, hz, q⟩ | ⟨rfl, a, xs, rfl, hx, q⟩
  · obtain ⟨t, rfl⟩ := r1
    obtain ⟨os, hos, hcs, hds⟩ := isl
    obtain ⟨l', el2, el1⟩ := IsPart.raw pl
    obtain ⟨u', eu2, eu1⟩ := IsPart.raw pu
    obtain ⟨w', ew2, ew1⟩ := IsPart.raw ps
    subst el2
    subst eu2
    subst ew2
    cases l' with
    | some y => cases el1
    | none =>
      cases u' with
      | some y => cases eu1
      | none =>
        cases w' with
        | none => cases ew1
        | some ct =>
          obtain ⟨c', tc⟩ := ct
          cases ew1
          refine fin "str" _ PySem.F.slot_str_getitem.lookup (typeIs_str _ _ _) (wpAny_getItem_str_slice (l := none) (u := none) (st := some (c', tc)) ⟨os, hos, hcs, hds⟩ hc ?_)
          refine post_val_or_str ⟨Nat.le_trans (Txt.sliceBy_le z none none (c', tc) (by simpa using hc)) hz, fun t' k => ⟨.str _, H4, I5.tok k, ⟨t', rfl⟩, ?_⟩⟩
          rw [if_neg (by
            show ¬ ((c' == 1 && _) = true)
            rw [hc1, Bool.false_and]
            exact Bool.false_ne_true)]
          exact q
  · cases r1
    obtain ⟨its, r, ht, hz⟩ := I5.list hx
    have hlen := r.length
    refine fin "list" _ PySem.slot_list_getitem.lookup ht.isList.typeIs (wpAny_getItem_list_slice ht.isList isl pl pu ps (by decide) ?_ (by rw [List.size_toArray]; omega))
    rw [PySem.W.krv_pick]
    refine ⟨.ref _, _, I5.laid (t' := s4.toks) (o := .lst xs.reverse) (fun b ob q => Heap.get?_push_of_some _ q) (Nat.le_refl _) ?_, rfl, q _ (I5.hok.fresh (Nat.le_refl _))⟩
    exact ⟨by rw [List.length_reverse]; exact hz, _, 0, r.reverse, Heap.get?_push_size _ rfl⟩
section
variable {X : Cx} {W : WX} {e : Expr} {A : TD} {p1 p2 p3 pos : Pos} {k : Nat}
theorem up_step {K : PySem.W.Frag} {c : Int} {o : List D → Mu → DQ → Prop} (ho : OutOk K o) : ∀ σ H Q, up K W (dUn (dStep c o) A) σ H Q → up K W A σ H fun x H1 => (∃ z : Str, x = .str z ∧ z.length ≤ sizeLine ∧ Q (.str ⟨((Builtin.Str.strSliceIndices none none c z.length).filterMap (z.cps[·]?)).toArray⟩) H1) ∨
      (c = -1 ∧ ∃ a xs, x = .ref a ∧ SqL K H1 a xs ∧ ∀ p, H1 p = none → Q (.ref p) (upd H1 p (.lst xs.reverse))) := by
  rintro σ H Q ⟨g, μ, δ, Q', E', a0, sl, h, kq, kx⟩
  refine ⟨g, μ, δ, _, E', a0, sl, h, fun g1 H1 μ1 d v a1 e1 r1 q => ?_, kx⟩
  have kk : Kt K g1 H1 Q' Q := fun g4 H4 μ4 d w a4 e4 r4 q4 => kq g4 H4 μ4 d w a4 (e1.trans e4) r4 q4
  unfold dStep at q
  split at q
  · obtain rfl := rep_str r1
    rename_i s
    refine .inl ⟨_, rfl, by rw [mkS_len]; exact q.1, ?_⟩
    have e : ((Builtin.Str.strSliceIndices none none c (mkS s).length).filterMap ((mkS s).cps[·]?)) = stepL c s := by
      rw [mkS_len]
      unfold stepL
      congr 1
      funext i
      simp [mkS]
    rw [e]
    exact kk.here a1 rep_strI q.2
  · obtain ⟨hc, xs, hx, q⟩ := q
    obtain ⟨p, vs, rfl, hs, rs⟩ := rdL_rd a1 r1 hx
    exact .inr ⟨hc, p, vs, rfl, hs, fun n hn => ho g1 μ1 H1 n _ _ Q' Q a1 hn rs.reverse q kk⟩
theorem we_rev {o : List D → Mu → DQ → Prop} (ho : OutOk X.K o) (he : WX0 X W e A) : WX0 X W (.Subscript e (.Slice none none (some (.UnaryOp .USub (.Constant (.int 1) k p1) p2)) p3) pos) (dUn (dStep (-1) o) A) :=
  PE.imp (pe_stepA (c := -1) (by decide) (by decide) he (pe_un un_neg pe_int) (fun σ H Q q => ⟨1, rfl, q⟩)) (up_step ho)
end
end SW

end

section
set_option Elab.async false
set_option linter.all false
set_option maxRecDepth 100000
namespace SW
open PySem L2
/-! ### list(text) -/
theorem call_list_txt {X : Cx} (hc : X.calm = true := by rfl) : CallR X (.type "list") (fun xs H Q => ∃ z : Str, xs = [.str z] ∧ z.cps.size ≤ sizeLine ∧ ∀ l, H l = none → Q (.ref l) (upd H l (.lst (z.cps.toList.map fun c => .str ⟨#[c]⟩)))) := by
  intro pins s σ H xs us Q I r h
  obtain ⟨z, rfl, hz, q⟩ := h
  obtain ⟨u, rfl, rx⟩ := vals1 r
  obtain ⟨t, rfl⟩ : ∃ t, u = .str z t := rx
  refine call_list_str (I.ok.hd hc) z t (fun h' tk acc' c' kp e hit => ?_) hz
  have rv : Vals (z.cps.toList.map fun c => V.str ⟨#[c]⟩) acc'.toList := by
    refine vals_of_at ?_ ?_
    · rw [List.length_map, Array.length_toList, Array.length_toList, hit.1]
    · intro j x u hx hu
      rw [List.getElem?_map, Array.getElem?_toList] at hx
      rw [Array.getElem?_toList] at hu
      obtain ⟨c, w, h1, rfl⟩ := hit.2 j u hu
      rw [h1] at hx
      cases hx
      exact ⟨_, rfl⟩
  exact ⟨.ref s.heap.objs.size, _, I.laid (t' := tk) kp (Nat.le_refl _) (show ObjOk X.prog X.w _ h' _ (.lst _) from ⟨by rw [List.length_map, Array.length_toList]; exact hz, acc'.toList, c', rv, e⟩), rfl, q _ (I.hok.fresh (Nat.le_refl _))⟩
def dListA (o : List D → Mu → DQ → Prop) : DUn := fun x μ Q => match x with
  | .str s => s.length ≤ sizeLine ∧ o (chars s) μ Q
  | x => dListOf o x μ Q
theorem ld_listA {X : Cx} {o : List D → Mu → DQ → Prop} (ho : OutOk X.K o) (hc : X.calm = true := by rfl) : CalD X (.type "list") (ca1 (dListA o)) := by
  refine ⟨_, CallR.or call_list_of (call_list_txt hc), ?_⟩
  rintro g μ H xs as Q' Q a0 rs ⟨x, rfl, q⟩ k
  obtain ⟨v, rfl, rv⟩ := reps1 rs
  have old : dListOf o x μ Q' → ∃ p ys, [v] = [V.ref p] ∧ (SqL X.K H p ys ∨ SqT X.K H p ys) ∧ ∀ l, H l = none → Q (.ref l) (upd H l (.lst ys)) := fun ⟨ys, hy, q⟩ => by
    obtain ⟨p, vs, rfl, h1, rr⟩ := seq_rd a0 rv hy
    exact ⟨p, vs, rfl, h1, fun n hn => ho g μ H n _ _ Q' Q a0 hn rr q k⟩
  cases x with
  | str s =>
    obtain rfl := rep_str rv
    refine .inr ⟨mkS s, rfl, ?_, fun n hn => ?_⟩
    · show s.toArray.size ≤ sizeLine
      rw [List.size_toArray]
      exact q.1
    · have e : (mkS s).cps.toList = s := List.toList_toArray ..
      rw [e]
      exact ho g μ H n _ _ Q' Q a0 hn (reps_chars s) q.2 k
  | _ => exact .inl (old q)
end SW

end

section
set_option Elab.async false
set_option linter.all false
set_option maxRecDepth 100000
namespace SW
open PySem L2 PyProof.Rows

/-! ### the end: from the reading of the law's own def to the row's promise -/
theorem fn_mk {P : Program} {w : World} {K : PySem.W.Frag} {mg : Str → Option Value} {base : Heap} {x : Str} {st : Stmt} {f : Addr} {fd : FuncData} {N ps : List Str} {k : Nat} {S : DSp} (F0 : Fun K x x st f fd) (Sc : FnScope N ps (defScope st)) (len : ∀ ds μ Q E, S ds μ Q E → ds.length = ps.length)
    (hb : ∀ (f : Addr) (cdv : Value) (A : Around) (outer : List Env) (s : Shared) (H : Hp) (E : XK), Room k (A.deeper (envOfC x (defScope st) s.heap.objs.size f cdv)) →
      Takes (cxOf (L2.CX P w) P w K mg base N x (defScope st) f cdv A outer s H E) (fun c d _ H => E c d H) →
      PassesOwn (model P w) (A.deeper (envOfC x (defScope st) s.heap.objs.size f cdv)) (envOfC x (defScope st) s.heap.objs.size f cdv) (cxOf (L2.CX P w) P w K mg base N x (defScope st) f cdv A outer s H E).xe →
      ∃ A', WSs (cxOf (L2.CX P w) P w K mg base N x (defScope st) f cdv A outer s H E) (fun c d _ H => E c d H) (defBody st) A' ∧ ∀ ds μ Q E', S ds μ Q E' → A' (endD μ.length Q E') (startD N ds) μ) :
    FnOk P w K mg base (L2.CX P w) (k + 1) f fd ps (upF K S) := by
  refine SW.okX F0 Sc (fun vs H Q E ⟨g, μ, ds, Q', E', a, r, h, _⟩ => by rw [← r.length]; exact len ds μ Q' E' h) fun cdv A outer s H vs Q E hr hsp => ?_
  obtain ⟨A', hA, run⟩ := hb f cdv A outer s H E hr (takes_of rfl rfl rfl rfl) (passes_of rfl)
  refine ⟨_, hA, ?_⟩
  obtain ⟨g, μ, ds, Q', E', a, r, h, k1, k2⟩ := hsp
  refine ⟨g, μ, startD N ds, endD μ.length Q' E', a, sl_start r, run ds μ Q' E' h, fun g' H' μ' δ' σ' a' e' s' q => ?_, fun g' H' μ' d v a' e' r' q => rtD_run (μ := μ) a.len k1 a' e' r' q, fun _ _ _ _ _ _ _ _ z => z.elim, fun _ _ _ _ _ _ _ _ z => z.elim, fun g' H' μ' C δ' σ' a' e' s' q => ?_⟩
  · exact rtD_run (μ := μ) (d := .non) (v := .non) a.len k1 a' e' (by unfold Rep; rfl) q
  · rcases q with ⟨h1, h2⟩ | h
    · have e2 := e'.drop
      rw [a.len] at e2
      exact k2 _ _ _ C (a'.drop _ h1) e2 h2
    · exact k2 _ _ _ C a' e' h
theorem gfun_mk {K : PySem.W.Frag} {h : Heap} {mg : Str → Option Value} {x : Str} {st : Stmt} {ps : List Str} {f : Addr} {od an : Option Addr} {sl : Array (Option Value)} {oc kV dc pm cd ct : Value} (X : K.In h) (G : h.Ns mainGlobals mg)
    (a : PySem.W.nsIn K mainGlobals x = some (some (.ref f))) (l : K.lookup f = some ⟨oc, od, .func (PySem.W.fnOf x x (defArgs st) (defBody st) (defScope st) .none kV dc pm an cd ct), sl⟩) (c : PySem.W.codeIn K cd x = true) (k : PySem.W.keepIn K (.ref f) = true)
    (b : ∀ (kV doc pm : Value) (an : Option Addr) (cdv ct : Value) (us : List Value), us.length = ps.length → bindArgs (PySem.W.fnOf x x (defArgs st) (defBody st) (defScope st) .none kV doc pm an cdv ct) ⟨us, []⟩ = pure (ps.zip us)) : GFun K mg x st ps :=
  ⟨f, _, fun_mk l c k, PySem.W.mg_of X G a, (fun_mk l c k).binds b⟩
theorem excf_mk {K : PySem.W.Frag} {h : Heap} {mg : Str → Option Value} {x : Str} {C : Addr} (X : K.In h) (G : h.Ns mainGlobals mg) (a : PySem.W.nsIn K mainGlobals x = some (some (.ref C))) (k : PySem.W.keepIn K (.ref C) = true)
    (q : PySem.W.excIn K C [.type "ValueError", .type "Exception", .type "BaseException", .type "object"] "ValueError.__new__" = true)
    (b : PySem.W.subIn K (.ref C) (.type "BaseException") = some true) (t : PySem.W.typeIn K (.ref C) = some (.type "type")) : ExcF K mg x C := ⟨PySem.W.mg_of X G a, k, q, b, t⟩
/-- all but the tables -/
def noTab (H : Hp) : Hp := fun b => match H b with
  | some (.tbl _) => none
  | r => r
theorem noTab_sub {H : Hp} : Sub (noTab H) H := fun b o e => by
  unfold noTab at e
  split at e
  · cases e
  · exact e
theorem noTab_of {H : Hp} {b : Addr} {o : HO} (h : H b = some o) (n : ∀ ps, o ≠ .tbl ps) : noTab H b = some o := by
  unfold noTab
  rw [h]
  split
  · rename_i ps e
    cases e
    exact absurd rfl (n ps)
  · rfl
theorem at_scr {K : PySem.W.Frag} {H : Hp} (t : TopT K H) : At K ⟨noTab H, []⟩ [] H where
  sub := noTab_sub
  tab := fun c P hP => ⟨.nil (t c P hP), by show noTab H P = none; unfold noTab; rw [t c P hP]⟩
  len := rfl
  obj := fun k o p h => by simp at h
  inj := fun j k p h => by obtain ⟨o, h, _⟩ := h; simp at h
  al := fun p h => by cases h
theorem sp_scr {K : PySem.W.Frag} {S : DSp} {H : Hp} {a : Addr} {ns : List Int} (hT : TopT K H) (hS : SqL K H a (ns.map V.int)) (h : S [.scr (ns.map .int)] [] (fun d _ => d = .bl true) (fun _ _ => False)) : upF K S [.ref a] H (fun v _ => v = .bl true) (fun _ _ _ => False) := by
  replace hS : SqL K (noTab H) a (ns.map V.int) := by
    rcases hS with (z | ⟨o, z⟩) | z
    · exact .inl (.inl (noTab_of z fun _ q => nomatch q))
    · exact .inl (.inr ⟨o, noTab_of z fun _ q => nomatch q⟩)
    · exact .inr z
  refine ⟨⟨noTab H, []⟩, [], [.scr (ns.map .int)], _, _, at_scr hT, ?_, h, ?_, fun _ _ _ _ _ _ z => z⟩
  · unfold Reps Rep
    refine ⟨_, _, rfl, ⟨a, ns.map V.int, rfl, hS, ?_⟩, by unfold Reps; rfl⟩
    clear h hS
    induction ns with
    | nil => unfold List.map Reps; rfl
    | cons n ns ih => rw [List.map_cons, List.map_cons]; unfold Reps; exact ⟨_, _, rfl, rep_intI, ih⟩
  · rintro g' H' μ' d v _ _ r rfl
    exact rep_blv r
theorem cx_out {P : Program} {w : World} (H : Hp) (s : Shared) (e : Value) (s' : Shared) (h : L2.CX P w [] H s (fun _ _ _ => False) e s') : False := by
  obtain ⟨a, B, H', cls, d, _, _, _, _, _, _, _, z⟩ := h
  exact z
end SW

end

section
set_option Elab.async false
set_option linter.all false
set_option maxRecDepth 100000
namespace SW
open PySem L2

/-! ### loops and comprehensions: the forms one uses -/
theorem lc_pure {ds : List D} {G : TGD} {T : TDT} {A : TD} {δ : DS} {vs : List Nat} {μ : Mu} {fin : List D → Mu → DQ → Prop} {Q : DQ} (p : D → Bool) (f : D → D) (hz : ds.length ≤ sizeLine)
    (h : ∀ (i : Nat) d, ds[i]? = some d → ∀ (KA : D → Mu → Prop) (KF : Mu → Prop), (p d = true → KA (f d) μ) → (p d = false → KF μ) →
      G d (wipeD δ vs) μ (fun δ2 μ2 => T δ2 μ2 (fun b μ3 => (b = true → A δ2 μ3 KA E0D) ∧ (b = false → KF μ3)) E0D))
    (q : fin ((ds.filter p).map f) μ Q) :
    ∃ I : Nat → List D → Mu → Prop, I 0 [] μ ∧ (∀ i d acc μ, ds[i]? = some d → I i acc μ → G d (wipeD δ vs) μ (fun δ2 μ2 => T δ2 μ2 (fun b μ3 => (b = true → A δ2 μ3 (fun y μ4 => acc.length < sizeLine ∧ I (i + 1) (acc ++ [y]) μ4) E0D) ∧ (b = false → I (i + 1) acc μ3)) E0D)) ∧
      ∀ acc μ, I ds.length acc μ → fin acc μ Q := by
  refine ⟨fun i acc μ' => μ' = μ ∧ acc = ((ds.take i).filter p).map f, ⟨rfl, by simp⟩, ?_, ?_⟩
  · rintro i d acc μ' hd ⟨rfl, rfl⟩
    have hi := (List.getElem?_eq_some_iff.mp hd).1
    have et : ds.take (i + 1) = ds.take i ++ [d] := by rw [List.take_add_one, hd]; rfl
    refine h i d hd _ _ (fun hp => ⟨?_, rfl, ?_⟩) (fun hp => ⟨rfl, ?_⟩)
    · refine Nat.lt_of_le_of_lt (m := i) ?_ (Nat.lt_of_lt_of_le hi hz)
      rw [List.length_map]
      refine Nat.le_trans (List.length_filter_le _ _) ?_
      rw [List.length_take]
      exact Nat.min_le_left _ _
    · rw [et, List.filter_append, List.map_append]
      simp [hp]
    · rw [et, List.filter_append, List.map_append]
      simp [hp]
  · rintro acc μ' ⟨rfl, rfl⟩
    rw [List.take_length]
    exact q
theorem lc_map {ds : List D} {G : TGD} {A : TD} {δ : DS} {vs : List Nat} {μ : Mu} {fin : List D → Mu → DQ → Prop} {Q : DQ} (f : D → D) (hz : ds.length ≤ sizeLine)
    (h : ∀ (i : Nat) d, ds[i]? = some d → ∀ (KA : D → Mu → Prop), KA (f d) μ → G d (wipeD δ vs) μ (fun δ2 μ2 => A δ2 μ2 KA E0D))
    (hG : ∀ d δ μ K K', (∀ δ2 μ2, K δ2 μ2 → K' δ2 μ2) → G d δ μ K → G d δ μ K')
    (q : fin (ds.map f) μ Q) :
    ∃ I : Nat → List D → Mu → Prop, I 0 [] μ ∧ (∀ i d acc μ, ds[i]? = some d → I i acc μ → G d (wipeD δ vs) μ (fun δ2 μ2 => dYes δ2 μ2 (fun b μ3 => (b = true → A δ2 μ3 (fun y μ4 => acc.length < sizeLine ∧ I (i + 1) (acc ++ [y]) μ4) E0D) ∧ (b = false → I (i + 1) acc μ3)) E0D)) ∧
      ∀ acc μ, I ds.length acc μ → fin acc μ Q := by
  refine lc_pure (fun _ => true) f hz (fun i d hd KA KF h1 _ => ?_) (by
    have e : ds.filter (fun _ => true) = ds := List.filter_eq_self.mpr fun _ _ => rfl
    rw [e]
    exact q)
  exact hG _ _ _ _ _ (fun δ2 μ2 hk => ⟨fun _ => hk, fun z => Bool.noConfusion z⟩) (h i d hd KA (h1 rfl))
theorem gmono_name (i : Nat) : ∀ d δ μ K K', (∀ δ2 μ2, K δ2 μ2 → K' δ2 μ2) → gdName i d δ μ K → gdName i d δ μ K' := fun _ _ _ _ _ h q => h _ _ q
theorem gmono_nil : ∀ d δ μ K K', (∀ δ2 μ2, K δ2 μ2 → K' δ2 μ2) → gdNil d δ μ K → gdNil d δ μ K' := fun _ _ _ _ _ h q => ⟨q.1, h _ _ q.2⟩
theorem gmono_cons {A : TGD} {B : TGDs} (hA : ∀ d δ μ K K', (∀ δ2 μ2, K δ2 μ2 → K' δ2 μ2) → A d δ μ K → A d δ μ K') (hB : ∀ d δ μ K K', (∀ δ2 μ2, K δ2 μ2 → K' δ2 μ2) → B d δ μ K → B d δ μ K') :
    ∀ d δ μ K K', (∀ δ2 μ2, K δ2 μ2 → K' δ2 μ2) → gdCons A B d δ μ K → gdCons A B d δ μ K' := fun _ _ _ _ _ h ⟨d, r, e, q⟩ => ⟨d, r, e, hA _ _ _ _ _ (fun _ _ q2 => hB _ _ _ _ _ h q2) q⟩
theorem gmono_tup {n : Nat} {A : TGDs} (hA : ∀ d δ μ K K', (∀ δ2 μ2, K δ2 μ2 → K' δ2 μ2) → A d δ μ K → A d δ μ K') : ∀ d δ μ K K', (∀ δ2 μ2, K δ2 μ2 → K' δ2 μ2) → gdTup n A d δ μ K → gdTup n A d δ μ K' :=
  fun _ _ _ _ _ h ⟨ds, e, l, q⟩ => ⟨ds, e, l, hA _ _ _ _ _ h q⟩
theorem gmono_pair (i j : Nat) : ∀ d δ μ K K', (∀ δ2 μ2, K δ2 μ2 → K' δ2 μ2) → gdTup 2 (gdCons (gdName i) (gdCons (gdName j) gdNil)) d δ μ K → gdTup 2 (gdCons (gdName i) (gdCons (gdName j) gdNil)) d δ μ K' :=
  gmono_tup (gmono_cons (gmono_name i) (gmono_cons (gmono_name j) gmono_nil))

/-! ### signs and rows -/
def isL (c : Nat) : Bool := decide (97 ≤ c) && decide (c ≤ 122)
def isRow (s : List Nat) : Bool := s.all isL
def isRowD : D → Bool
  | .str s => isRow s
  | _ => false
/-- a thing that the laws hand in: its kind is known, a text of signs that there are -/
def kindOk (d : D) : Prop := (∃ t, tyN [] d = some t) ∧ ∀ s, d = .str s → s.length ≤ 100000 ∧ ∀ c ∈ s, c < 0x110000
def isStrD : D → Bool
  | .str _ => true
  | _ => false
theorem kit_str {d : D} {t : String} (h : tyN [] d = some t) : kitB t "str" = some (isStrD d) := by
  cases d with
  | cell k => unfold tyN at h; simp at h
  | scr xs => cases h
  | val v => cases h
  | exc v => cases h
  | str s => cases h; show kitB "str" "str" = some true; decide +kernel
  | non => cases h; show kitB _ "str" = some false; decide +kernel
  | bl b => cases h; show kitB _ "str" = some false; decide +kernel
  | int b => cases h; show kitB _ "str" = some false; decide +kernel
  | tup b => cases h; show kitB _ "str" = some false; decide +kernel
  | lst b => cases h; show kitB _ "str" = some false; decide +kernel
  | dct a b c => cases h; show kitB _ "str" = some false; decide +kernel
  | dcn a b c => cases h; show kitB _ "str" = some false; decide +kernel
theorem signs_eq : ("abcdefghijklmnopqrstuvwxyz" : Str).cps.toList = (List.range 26).map (· + 97) := by decide +kernel
theorem mem_signs {c : Nat} : c ∈ ("abcdefghijklmnopqrstuvwxyz" : Str).cps.toList ↔ isL c = true := by
  rw [signs_eq]
  unfold isL
  simp only [List.mem_map, List.mem_range, Bool.and_eq_true, decide_eq_true_eq]
  constructor
  · rintro ⟨a, h, rfl⟩; omega
  · rintro ⟨h1, h2⟩; exact ⟨c - 97, by omega, by omega⟩
theorem row_ok {s : List Nat} (h : isRow s = true) : ∀ c ∈ s, c < 0x110000 := fun c hc => by
  have := List.all_eq_true.mp h c hc
  unfold isL at this
  simp only [Bool.and_eq_true, decide_eq_true_eq] at this
  omega
theorem kind_row {s : List Nat} (h : isRow s = true) (hl : s.length ≤ 100000) : kindOk (.str s) := ⟨⟨_, rfl⟩, fun t e => by cases e; exact ⟨hl, row_ok h⟩⟩

/-! ### == -/
theorem deq_nil {xs : List D} : deq (.lst xs) (.lst []) = decide (xs = []) := by
  cases xs with
  | nil => simp [deq, toPy, toPys, PyData.eqv, PyData.eqvAll]
  | cons a r => simp [deq, toPy, toPys, PyData.eqv, PyData.eqvAll]
theorem okDs_all {n : Nat} : ∀ {xs : List D}, (∀ d ∈ xs, okD n d) → okDs n xs
  | [], _ => by unfold okDs; trivial
  | x :: xs, h => by unfold okDs; exact ⟨h x List.mem_cons_self, okDs_all fun d hd => h d (List.mem_cons_of_mem _ hd)⟩
theorem okD_lst {n : Nat} {xs : List D} (hn : 1 ≤ n) (h : ∀ d ∈ xs, okD (n - 1) d) : okD n (.lst xs) := by unfold okD; exact ⟨hn, okDs_all h⟩
theorem okD_tup {n : Nat} {xs : List D} (hn : 1 ≤ n) (h : ∀ d ∈ xs, okD (n - 1) d) : okD n (.tup xs) := by unfold okD; exact ⟨hn, okDs_all h⟩
theorem okD_int {n : Nat} {i : Int} : okD n (.int i) := by unfold okD; trivial
theorem okD_str {n : Nat} {s : List Nat} (h : ∀ c ∈ s, c < 0x110000) : okD n (.str s) := by unfold okD; exact h
theorem deqs_ints : ∀ {xs ys : List Int}, PyData.eqvAll (toPys (xs.map .int)) (toPys (ys.map .int)) = decide (xs = ys)
  | [], [] => by simp [toPys, PyData.eqvAll]
  | [], y :: ys => by simp [toPys, PyData.eqvAll]
  | x :: xs, [] => by simp [toPys, PyData.eqvAll]
  | x :: xs, y :: ys => by
    have := @deqs_ints xs ys
    simp only [List.map_cons, toPys, PyData.eqvAll, this, toPy, PyData.eqv]
    by_cases h : x = y <;> simp [h]
/-! ### items by places -/
theorem ixN_nat {n j : Nat} (h : j < n) : ixN n (j : Int) = some j := by
  unfold ixN
  rw [if_pos (by omega), if_pos (by omega)]
  rfl
theorem atI_of {α : Type} {xs : List α} {i : Int} {j : Nat} {x : α} (e : i = (j : Int)) (h : xs[j]? = some x) : atI xs i = some x := by
  subst e
  have hj := (List.getElem?_eq_some_iff.mp h).1
  unfold atI
  rw [ixN_nat hj]
  exact h
theorem getD_eq {α : Type} {xs : List α} {i : Nat} {d x : α} (h : xs[i]? = some x) : xs.getD i d = x := by
  simp [List.getD, h]
theorem pairI_get {ds : List D} {i : Nat} {d : D} (h : (pairI ds)[i]? = some d) : ∃ x, ds[i]? = some x ∧ d = .tup [.int (i : Int), x] := by
  unfold pairI at h
  rw [List.getElem?_map] at h
  by_cases hi : i < ds.length
  · rw [List.getElem?_range hi] at h
    exact ⟨ds[i], List.getElem?_eq_getElem hi, by
      have e : d = .tup [.int (i : Int), ds.getD i .non] := (Option.some.inj h).symm
      have e2 : ds.getD i .non = ds[i] := getD_eq (List.getElem?_eq_getElem hi)
      rw [e2] at e
      exact e⟩
  · rw [List.getElem?_eq_none (by simpa using hi)] at h
    cases h
theorem pairI_length (ds : List D) : (pairI ds).length = ds.length := by simp [pairI]
theorem chars_get {s : List Nat} {i : Nat} {d : D} (h : (chars s)[i]? = some d) : ∃ c, s[i]? = some c ∧ d = .str [c] := by
  unfold chars at h
  rw [List.getElem?_map] at h
  cases e : s[i]? with
  | none => rw [e] at h; cases h
  | some c => rw [e] at h; exact ⟨c, rfl, (Option.some.inj h).symm⟩
theorem chars_length (s : List Nat) : (chars s).length = s.length := by simp [chars]
theorem get_lt {α : Type} {xs : List α} {i : Nat} {x : α} (h : xs[i]? = some x) : i < xs.length := (List.getElem?_eq_some_iff.mp h).1
theorem take_suc {α : Type} {xs : List α} {i : Nat} {x : α} (h : xs[i]? = some x) : xs.take (i + 1) = xs.take i ++ [x] := by rw [List.take_add_one, h]; rfl
theorem sz {n : Nat} (h : n ≤ 16000000) : n ≤ sizeLine := Nat.le_trans h (by decide)
theorem sz5 {n : Nat} (h : n ≤ 100000) : n ≤ sizeLine := Nat.le_trans h (by decide)
theorem szl {n : Nat} (h : n < 16000000) : n < sizeLine := Nat.lt_of_lt_of_le h (by decide)
/-! ### the newest cell -/
theorem get_new {μ : Mu} {o : MO} : (μ ++ [o])[μ.length]? = some o := by rw [List.getElem?_append_right (Nat.le_refl _), Nat.sub_self]; rfl
theorem set_new {μ : Mu} {o o' : MO} : (μ ++ [o]).set μ.length o' = μ ++ [o'] := by simp
theorem rdL_cell {μ : Mu} {k : Nat} {xs : List D} (h : μ[k]? = some (.lst xs)) : rdL μ (.cell k) = some xs := by
  show (match μ[k]? with | some (.lst xs) => some xs | _ => none) = _
  rw [h]
theorem seqOf_cell {μ : Mu} {k : Nat} {xs : List D} (h : μ[k]? = some (.lst xs)) : seqOf μ (.cell k) = some xs := by
  show (match μ[k]? with | some (.lst xs) => some xs | _ => none) = _
  rw [h]
theorem lstOf_cell {μ : Mu} {k : Nat} {xs : List D} (h : μ[k]? = some (.lst xs)) : lstOf μ (.cell k) = some xs := by
  show (match μ[k]? with | some (.lst xs) => some xs | _ => none) = _
  rw [h]
theorem noCM_app : ∀ {μ : Mu} {o : MO}, noCM μ = true → noCO o = true → noCM (μ ++ [o]) = true
  | [], o, _, h => by simp [noCM, h]
  | a :: μ, o, h, h2 => by
    unfold noCM at h
    rw [Bool.and_eq_true] at h
    rw [List.cons_append]
    unfold noCM
    rw [h.1, noCM_app h.2 h2]
    rfl
theorem noCs_ints {xs : List Int} : noCs (xs.map .int) = true := noCs_map _ (fun _ => rfl) _
theorem noCs_strs {xs : List (List Nat)} : noCs (xs.map .str) = true := noCs_map _ (fun _ => rfl) _
theorem fmod_pos {i j : Int} (h : 0 < j) : Int.fmod i j = i % j := Int.fmod_eq_emod_of_nonneg _ (Int.le_of_lt h)
theorem fdiv_pos {i j : Int} (h : 0 < j) : Int.fdiv i j = i / j := Int.fdiv_eq_ediv_of_nonneg _ (Int.le_of_lt h)
end SW

end

section
set_option Elab.async false
set_option linter.all false
set_option maxRecDepth 100000
namespace SW
open PySem L2

/-! ### a cut between two statements -/
/-! ### short displays -/
theorem ln0 {α : Type} : ([] : List α).length ≤ sizeLine := Nat.zero_le _
theorem ln1 {α : Type} {a : α} : [a].length ≤ sizeLine := by show 1 ≤ sizeLine; decide
theorem ln2 {α : Type} {a b : α} : [a, b].length ≤ sizeLine := by show 2 ≤ sizeLine; decide
theorem ln3 {α : Type} {a b c : α} : [a, b, c].length ≤ sizeLine := by show 3 ≤ sizeLine; decide
theorem ln4 {α : Type} {a b c d : α} : [a, b, c, d].length ≤ sizeLine := by show 4 ≤ sizeLine; decide
theorem ln5 {α : Type} {a b c d e : α} : [a, b, c, d, e].length ≤ sizeLine := by show 5 ≤ sizeLine; decide
/-! ### slices -/
theorem cutL_to {α : Type} (xs : List α) {m : Int} (h : 0 ≤ m) : cutL xs none (some m) = xs.take m.toNat := by
  unfold cutL HT.sIx
  simp only [if_neg (show ¬ m < 0 by omega), List.drop_zero, Nat.sub_zero]
  rw [List.take_eq_take_iff]
  omega
theorem cutL_from {α : Type} (xs : List α) {m : Int} (h : 0 ≤ m) : cutL xs (some m) none = xs.drop m.toNat := by
  unfold cutL HT.sIx
  simp only [if_neg (show ¬ m < 0 by omega)]
  rw [List.take_of_length_le (by rw [List.length_drop]; omega)]
  rcases Nat.le_total m.toNat xs.length with g | g
  · rw [Nat.min_eq_left g]
  · rw [Nat.min_eq_right g, List.drop_of_length_le (Nat.le_refl _), List.drop_of_length_le g]
theorem cutL_mid {α : Type} (xs : List α) {l m : Int} (h : 0 ≤ l) (h2 : 0 ≤ m) : cutL xs (some l) (some m) = (xs.drop l.toNat).take (m.toNat - l.toNat) := by
  unfold cutL HT.sIx
  simp only [if_neg (show ¬ m < 0 by omega), if_neg (show ¬ l < 0 by omega)]
  rcases Nat.le_total l.toNat xs.length with g | g
  · rw [Nat.min_eq_left g, List.take_eq_take_iff, List.length_drop]
    omega
  · rw [Nat.min_eq_right g, List.drop_of_length_le (Nat.le_refl _), List.drop_of_length_le g, List.take_nil, List.take_nil]
theorem cutL_sub {α : Type} (xs : List α) (l h : Option Int) : ∀ x ∈ cutL xs l h, x ∈ xs := fun x hx => List.mem_of_mem_drop (List.mem_of_mem_take hx)
theorem cutL_len {α : Type} (xs : List α) (l h : Option Int) : (cutL xs l h).length ≤ xs.length := by
  unfold cutL
  rw [List.length_take, List.length_drop]
  omega
/-! ### rows -/
theorem isRow_mem {s : List Nat} (h : isRow s = true) {c : Nat} (hc : c ∈ s) : isL c = true := List.all_eq_true.mp h c hc
theorem isRow_of {s : List Nat} (h : ∀ c ∈ s, isL c = true) : isRow s = true := List.all_eq_true.mpr h
theorem isRow_sub {s t : List Nat} (h : isRow t = true) (hs : ∀ c ∈ s, c ∈ t) : isRow s = true := isRow_of fun c hc => isRow_mem h (hs c hc)
theorem isRow_app {s t : List Nat} (h : isRow s = true) (h2 : isRow t = true) : isRow (s ++ t) = true := isRow_of fun c hc => (List.mem_append.mp hc).elim (isRow_mem h) (isRow_mem h2)
theorem isRow_one {c : Nat} (h : isL c = true) : isRow [c] = true := isRow_of fun x hx => by rw [List.mem_singleton.mp hx]; exact h
/-! ### joins, signs -/
theorem chr_at {s : List Nat} {i : Int} {m : Nat} (h0 : 0 ≤ i) (h1 : i < (m : Int)) (hm : m ≤ s.length) : ∃ c, atI s i = some c ∧ c ∈ s := by
  have hi : i.toNat < s.length := by omega
  refine ⟨s[i.toNat], ?_, List.getElem_mem hi⟩
  exact atI_of (j := i.toNat) (by omega) (List.getElem?_eq_getElem hi)
theorem joinL_nil (ss : List (List Nat)) : joinL [] ss = ss.flatten := by
  cases ss with
  | nil => rfl
  | cons x r => rw [joinL_cons]; simp
theorem flat1 : ∀ cs : List Nat, (cs.map fun c => [c]).flatten = cs
  | [] => rfl
  | c :: cs => by rw [List.map_cons, List.flatten_cons, flat1 cs]; rfl
theorem strsOf_strs : ∀ ss : List (List Nat), strsOf (ss.map .str) = some ss
  | [] => rfl
  | s :: ss => by
    rw [List.map_cons]
    unfold strsOf
    rw [strsOf_strs ss]
    rfl
theorem join1 (cs : List Nat) : joinL [] (cs.map fun c => [c]) = cs := by rw [joinL_nil, flat1]
theorem sum1 : ∀ cs : List Nat, ((cs.map fun c => [c]).map List.length).sum = cs.length
  | [] => rfl
  | c :: cs => by
    rw [List.map_cons, List.map_cons, List.sum_cons, sum1 cs, List.length_cons, List.length_cons]
    show 0 + 1 + cs.length = cs.length + 1
    omega
/-- signs drawn one by one, joined -/
theorem join_chars {μ : Mu} {cs : List Nat} {Q : DQ} (hl : cs.length ≤ 1000000) (q : Q (.str cs) μ) : dJoin (.str ("" : Str).cps.toList) [.lst ((cs.map fun c => [c]).map .str)] μ Q := by
  refine ⟨[], _, _, _, rfl, rfl, rfl, strsOf_strs _, ?_, ?_⟩
  · rw [sum1]
    show cs.length + _ * 0 ≤ _
    omega
  · rw [join1]
    exact q
theorem abc_row : isRow ("abcdefghijklmnopqrstuvwxyz" : Str).cps.toList = true := by decide +kernel
theorem abc_len : ("abcdefghijklmnopqrstuvwxyz" : Str).cps.toList.length = 26 := by decide +kernel
/-! ### the well -/
/-- a well: three numbers, the last one how often was drawn -/
def Well (n : Int) (o : MO) : Prop := ∃ a b c : Int, o = .lst [.int a, .int b, .int c] ∧ 0 ≤ c ∧ c ≤ n
theorem Well.noC {n : Int} {o : MO} (h : Well n o) : noCO o = true := by obtain ⟨a, b, c, rfl, _⟩ := h; rfl
theorem Well.live {n : Int} {o : MO} (h : Well n o) : o ≠ .dead := by obtain ⟨a, b, c, rfl, _⟩ := h; exact fun z => nomatch z
theorem Well.mono {n m : Int} {o : MO} (h : Well n o) (l : n ≤ m) : Well m o := by obtain ⟨a, b, c, rfl, h1, h2⟩ := h; exact ⟨a, b, c, rfl, h1, Int.le_trans h2 l⟩
/-! ### ranges that step -/
theorem fits_of {i : Int} (h : -1000000000 ≤ i) (h2 : i ≤ 1000000000) : PySem.Builtin.Range.rangeFitsLong i = true := by
  unfold PySem.Builtin.Range.rangeFitsLong
  simp
  omega
theorem rgc_of {i j c : Int} {n : Nat} (hc : c ≠ 0) (c0 : -1000000 ≤ c) (c1 : c ≤ 1000000) (i0 : -1000000 ≤ i) (i1 : i ≤ 1000000) (j0 : -1000000 ≤ j) (j1 : j ≤ 1000000) (n1 : n ≤ 1000000)
    (e : PySem.Builtin.Range.rangeSize i j c = (n : Int)) : RgC i j c n := by
  refine ⟨hc, by omega, ?_, e⟩
  unfold PySem.Builtin.Range.small
  rw [e, fits_of (by omega) (by omega), fits_of (by omega) (by omega), fits_of (by omega) (by omega), fits_of (by omega) (by omega)]
  split <;> rw [fits_of (by omega) (by omega)] <;> simp
/-- from i down to j, j not with them -/
theorem rgc_down {i j : Int} {n : Nat} (i0 : -1000000 ≤ i) (i1 : i ≤ 1000000) (j0 : -1000000 ≤ j) (j1 : j ≤ 1000000) (n1 : n ≤ 1000000) (h : (n : Int) = max 0 (i - j)) : RgC i j (-1) n := by
  refine rgc_of (by decide) (by decide) (by decide) i0 i1 j0 j1 n1 ?_
  unfold PySem.Builtin.Range.rangeSize
  rw [if_neg (by decide)]
  split
  · rw [show -(-1 : Int) = 1 from rfl, Int.ediv_one]; omega
  · omega
theorem kit_int_int : kitB "int" "int" = some true := by decide +kernel
theorem kit_int_bool : kitB "int" "bool" = some false := by decide +kernel
end SW

end

section
set_option Elab.async false
set_option linter.all false
set_option maxRecDepth 100000
namespace SW
open PySem L2

/-! ### steps: each construct's reading, by its head -/
section
variable {Z : DEnds} {δ : DS} {μ : Mu} {Q : DQ} {E : DE} {A B C : TD} {TA' : TDA} {S T : TDT} {R R' : TDS} {G : TGD} {QT : Bool → Mu → Prop} {QA : List D → Mu → Prop} {KG : DS → Mu → Prop}
theorem st_seq (h : R { Z with nx := fun δ' μ' => R' Z δ' μ' } δ μ) : dSeq R R' Z δ μ := h
theorem st_next (h : Z.nx δ μ) : dNext Z δ μ := h
theorem st_drop (h : A δ μ (fun _ μ1 => Z.nx δ μ1) Z.ex) : dDrop A Z δ μ := h
theorem st_ret (h : A δ μ Z.rt Z.ex) : dRet A Z δ μ := h
theorem st_retN (h : Z.rt .non μ) : dRetN Z δ μ := h
theorem st_brk (h : Z.bk δ μ) : dBrk Z δ μ := h
theorem st_cnt (h : Z.ct δ μ) : dCnt Z δ μ := h
theorem st_ifS (h : T δ μ (fun b μ1 => (b = true → R Z δ μ1) ∧ (b = false → R' Z δ μ1)) Z.ex) : dIfS T R R' Z δ μ := h
theorem st_asg (h : A δ μ (fun d μ1 => G d δ μ1 Z.nx) Z.ex) : dAsg A G Z δ μ := h
theorem st_par {i j : Nat} (h : TA' δ μ (fun ds μ1 => ∃ v w, ds = [v, w] ∧ Z.nx ((δ.set i (some v)).set j (some w)) μ1) Z.ex) : dPar i j TA' Z δ μ := h
theorem st_par' {v w : D} {P : D → D → Prop} (h : P v w) : ∃ v' w', [v, w] = [v', w'] ∧ P v' w' := ⟨_, _, rfl, h⟩
theorem st_raise {c : Addr} (h : Z.ex (.ref c) δ μ) : dRaise c Z δ μ := h
theorem st_for {IA : TDI} (h : IA δ μ (fun ds μ1 => ∃ I : Nat → DS → Mu → Prop, I 0 δ μ1 ∧
  (∀ i d δ μ, ds[i]? = some d → I i δ μ → G d δ μ (fun δ' μ' => R { Z with nx := I (i + 1), ct := I (i + 1), bk := Z.nx } δ' μ')) ∧ ∀ δ μ, I ds.length δ μ → Z.nx δ μ) Z.ex) : dFor IA G R Z δ μ := h
/- targets -/
theorem st_name {i : Nat} {d : D} {δ' : DS} (e : δ.set i (some d) = δ') (h : KG δ' μ) : gdName i d δ μ KG := by subst e; exact h
theorem st_pair {i j : Nat} {x y : D} {δ' : DS} (e : (δ.set i (some x)).set j (some y) = δ') (h : KG δ' μ) : gdTup 2 (gdCons (gdName i) (gdCons (gdName j) gdNil)) (.tup [x, y]) δ μ KG := by subst e; exact ⟨_, .inl rfl, rfl, _, _, rfl, _, _, rfl, rfl, h⟩
theorem st_pairL {i j : Nat} {x y : D} {δ' : DS} (e : (δ.set i (some x)).set j (some y) = δ') (h : KG δ' μ) : gdTup 2 (gdCons (gdName i) (gdCons (gdName j) gdNil)) (.lst [x, y]) δ μ KG := by subst e; exact ⟨_, .inr rfl, rfl, _, _, rfl, _, _, rfl, rfl, h⟩
theorem st_gsub {f : DSet} {d : D} (h : A δ μ (fun o μ1 => B δ μ1 (fun i μ2 => f o i d μ2 (fun μ3 => KG δ μ3)) (fun _ _ _ => False)) (fun _ _ _ => False)) : gdSub A B f d δ μ KG := h
theorem st_setL {k : Nat} {xs : List D} {n : Int} {j : Nat} {v : D} {KM : Mu → Prop} (hk : μ[k]? = some (.lst xs)) (hj : ixN xs.length n = some j) (h : KM (μ.set k (.lst (xs.set j v)))) : dSetL (.cell k) (.int n) v μ KM := ⟨_, _, _, _, rfl, hk, rfl, hj, h⟩
/- expressions -/
theorem st_var {i : Nat} {d : D} (e : δ[i]? = some (some d)) (h : Q d μ) : dVar i δ μ Q E := ⟨d, e, h⟩
theorem st_c {d : D} (h : Q d μ) : dC d δ μ Q E := h
theorem st_op {f : DOp} (h : A δ μ (fun x μ1 => B δ μ1 (fun y μ2 => f x y μ2 Q) E) E) : dOp f A B δ μ Q E := h
theorem st_un {f : DUn} (h : A δ μ (fun x μ1 => f x μ1 Q) E) : dUn f A δ μ Q E := h
theorem st_nil (h : QA [] μ) : dNil δ μ QA E := h
theorem st_cons (h : A δ μ (fun x μ1 => TA' δ μ1 (fun xs μ2 => QA (x :: xs) μ2) E) E) : dCons A TA' δ μ QA E := h
theorem st_cb {f : DCa} (h : TA' δ μ (fun xs μ1 => f xs μ1 Q) E) : dCB f TA' δ μ Q E := h
theorem st_test (h : A δ μ (fun x μ1 => ∃ b, x = .bl b ∧ QT b μ1) E) : dTest A δ μ QT E := h
theorem st_test' {c : Bool} {P : Bool → Prop} (h : P c) : ∃ b, D.bl c = .bl b ∧ P b := ⟨_, rfl, h⟩
theorem st_and (h : S δ μ (fun b μ1 => (b = true → T δ μ1 QT E) ∧ (b = false → QT false μ1)) E) : dAnd S T δ μ QT E := h
theorem st_or (h : S δ μ (fun b μ1 => (b = true → QT true μ1) ∧ (b = false → T δ μ1 QT E)) E) : dOr S T δ μ QT E := h
theorem st_not (h : S δ μ (fun b μ1 => QT (!b) μ1) E) : dNot S δ μ QT E := h
theorem st_andV (h : A δ μ (fun x μ1 => ∃ b, x = .bl b ∧ (b = true → B δ μ1 Q E) ∧ (b = false → Q (.bl false) μ1)) E) : dAndV A B δ μ Q E := h
theorem st_orV (h : A δ μ (fun x μ1 => ∃ b, x = .bl b ∧ (b = true → Q (.bl true) μ1) ∧ (b = false → B δ μ1 Q E)) E) : dOrV A B δ μ Q E := h
theorem st_tt {c : Bool} {P P' : Prop} (h : (c = true → P) ∧ (c = false → P')) : ∃ b, D.bl c = .bl b ∧ (b = true → P) ∧ (b = false → P') := ⟨_, rfl, h⟩
theorem st_notV (h : A δ μ (fun x μ1 => ∃ b, x = .bl b ∧ Q (.bl (!b)) μ1) E) : dNotV A δ μ Q E := h
theorem st_if (h : T δ μ (fun b μ1 => (b = true → A δ μ1 Q E) ∧ (b = false → B δ μ1 Q E)) E) : dIf T A B δ μ Q E := h
theorem st_chain {f f' : DOp} (h : A δ μ (fun x μ1 => B δ μ1 (fun y μ2 => f x y μ2 (fun z μ3 => ∃ b, z = .bl b ∧ (b = true → C δ μ3 (fun w μ4 => f' y w μ4 Q) E) ∧ (b = false → Q (.bl false) μ3))) E) E) : dChain f f' A B C δ μ Q E := h
theorem st_tup (h : TA' δ μ (fun xs μ1 => xs.length ≤ sizeLine ∧ Q (.tup xs) μ1) E) : dTup TA' δ μ Q E := h
theorem st_lst (h : TA' δ μ (fun xs μ1 => xs.length ≤ sizeLine ∧ Q (.lst xs) μ1) E) : dLst TA' δ μ Q E := h
theorem st_lstC (h : TA' δ μ (fun xs μ1 => xs.length ≤ sizeLine ∧ Q (.cell μ1.length) (μ1 ++ [.lst xs])) E) : dLstC TA' δ μ Q E := h
theorem st_frz (h : A δ μ (fun x μ1 => ∃ k, x = .cell k ∧ ((∃ xs, μ1[k]? = some (.lst xs) ∧ Q (.lst xs) (μ1.set k .dead)) ∨ (∃ tt ks vs, μ1[k]? = some (.dct tt ks vs) ∧ Q (.dct tt ks vs) (μ1.set k .dead)))) E) : dFrz A δ μ Q E := h
theorem st_isN (h : A δ μ (fun x μ1 => ∃ b, nonD x = some b ∧ Q (.bl b) μ1) E) : dIsN A δ μ Q E := h
theorem st_notN (h : A δ μ (fun x μ1 => ∃ b, nonD x = some b ∧ Q (.bl (!b)) μ1) E) : dNotN A δ μ Q E := h
theorem st_nonD {x : D} {c : Bool} {P : Bool → Prop} (e : nonD x = some c) (h : P c) : ∃ b, nonD x = some b ∧ P b := ⟨_, e, h⟩
theorem st_yes (h : QT true μ) : dYes δ μ QT E := h
/- walks -/
theorem st_iter (h : A δ μ (fun x μ1 => ∃ ds, itemsOf x = some ds ∧ QA ds μ1) E) : dIter A δ μ QA E := h
theorem st_items {x : D} {ds : List D} {P : List D → Prop} (e : itemsOf x = some ds) (h : P ds) : ∃ ds, itemsOf x = some ds ∧ P ds := ⟨_, e, h⟩
theorem st_rng1 (h : TA' δ μ (fun ds μ1 => ∃ j, ds = [.int j] ∧ -(2 ^ 62) ≤ j ∧ j < 2 ^ 62 ∧ QA (rangeD 0 1 j.toNat) μ1) E) : dRng1 TA' δ μ QA E := h
theorem st_rng1' {j : Int} {P : Int → Prop} (h1 : -1000000000 ≤ j ∧ j ≤ 1000000000) (h : P j) : ∃ j', [D.int j] = [.int j'] ∧ -(2 ^ 62) ≤ j' ∧ j' < 2 ^ 62 ∧ P j' := ⟨j, rfl, by omega, by omega, h⟩
theorem st_rng2 (h : TA' δ μ (fun ds μ1 => ∃ i j, ds = [.int i, .int j] ∧ (-(2 ^ 62) ≤ i ∧ i < 2 ^ 62 ∧ -(2 ^ 62) ≤ j ∧ j < 2 ^ 62) ∧ QA (rangeD i 1 (j - i).toNat) μ1) E) : dRng2 TA' δ μ QA E := h
theorem st_rng2' {i j : Int} {P : Int → Int → Prop} (h1 : -1000000000 ≤ i ∧ i ≤ 1000000000 ∧ -1000000000 ≤ j ∧ j ≤ 1000000000) (h : P i j) : ∃ i' j', [D.int i, .int j] = [.int i', .int j'] ∧ (-(2 ^ 62) ≤ i' ∧ i' < 2 ^ 62 ∧ -(2 ^ 62) ≤ j' ∧ j' < 2 ^ 62) ∧ P i' j' := ⟨i, j, rfl, by omega, h⟩
theorem st_rng3 (h : TA' δ μ (fun ds μ1 => ∃ i j c n, ds = [.int i, .int j, .int c] ∧ RgC i j c n ∧ QA (rangeD i c n) μ1) E) : dRng3 TA' δ μ QA E := h
theorem st_rng3' {i j c : Int} {n : Nat} {P : Int → Int → Int → Nat → Prop} (h1 : RgC i j c n) (h : P i j c n) : ∃ i' j' c' n, [D.int i, .int j, .int c] = [.int i', .int j', .int c'] ∧ RgC i' j' c' n ∧ P i' j' c' n := ⟨_, _, _, _, rfl, h1, h⟩
theorem st_enum (h : TA' δ μ (fun xs μ1 => ∃ d ds, xs = [d] ∧ isTupD d = false ∧ itemsOf d = some ds ∧ QA (pairI ds) μ1) E) : dEnum TA' δ μ QA E := h
theorem st_enum' {d : D} {ds : List D} {P : D → List D → Prop} (h1 : isTupD d = false) (e : itemsOf d = some ds) (h : P d ds) : ∃ d' ds, [d] = [d'] ∧ isTupD d' = false ∧ itemsOf d' = some ds ∧ P d' ds := ⟨_, _, rfl, h1, e, h⟩
theorem st_zip (h : TA' δ μ (fun xs μ1 => ∃ d e ds es, xs = [d, e] ∧ itemsOf d = some ds ∧ itemsOf e = some es ∧ QA (pairZ ds es) μ1) E) : dZip TA' δ μ QA E := h
theorem st_zip' {d e : D} {ds es : List D} {P : D → D → List D → List D → Prop} (e1 : itemsOf d = some ds) (e2 : itemsOf e = some es) (h : P d e ds es) : ∃ d' e' ds es, [d, e] = [d', e'] ∧ itemsOf d' = some ds ∧ itemsOf e' = some es ∧ P d' e' ds es := ⟨_, _, _, _, rfl, e1, e2, h⟩
theorem st_rev (h : TA' δ μ (fun xs μ1 => ∃ ds, xs = [.lst ds] ∧ QA ds.reverse μ1) E) : dRev TA' δ μ QA E := h
theorem st_rev' {ds : List D} {P : List D → Prop} (h : P ds) : ∃ ds', [D.lst ds] = [.lst ds'] ∧ P ds' := ⟨_, rfl, h⟩
/- calls -/
theorem st_call {c : CForm} {F : DSp} (h : TA' δ μ (fun ds μ1 => c F ds μ1 Q (fun C μ2 => E C δ μ2)) E) : dCall c F TA' δ μ Q E := h
theorem st_callP {F : DSp} {ds : List D} {EF : Value → Mu → Prop} (h1 : noCs ds = true) (h : F ds [] (fun d μ2 => μ2 = [] ∧ noC d = true ∧ Q d μ) (fun C μ2 => μ2 = [] ∧ EF C μ)) : callP F ds μ Q EF := ⟨h1, h⟩
theorem st_callN {F : DSp} {ds : List D} {EF : Value → Mu → Prop} (h1 : noCs ds = true) (h : F ds [] (fun d μ2 => ∃ o, d = .cell 0 ∧ μ2 = [o] ∧ noCO o = true ∧ Q (.cell μ.length) (μ ++ [o])) (fun C μ2 => μ2 = [] ∧ EF C μ)) : callN F ds μ Q EF := ⟨h1, h⟩
theorem st_callG {F : DSp} {ds : List D} {EF : Value → Mu → Prop} (h1 : noCs ds = true) (h : F ds [] (fun d μ2 => (μ2 = [] ∧ noC d = true ∧ Q d μ) ∨ ∃ o, d = .cell 0 ∧ μ2 = [o] ∧ noCO o = true ∧ Q (.cell μ.length) (μ ++ [o])) (fun C μ2 => μ2 = [] ∧ EF C μ)) : callG F ds μ Q EF := ⟨h1, h⟩
theorem st_callW {F : DSp} {k : Nat} {o : MO} {rest : List D} {EF : Value → Mu → Prop} (hk : μ[k]? = some o) (h1 : noCs rest = true) (h2 : noCO o = true) (h3 : o ≠ .dead)
  (h : F (.cell 0 :: rest) [o] (fun d μ2 => ∃ o', μ2 = [o'] ∧ noC d = true ∧ noCO o' = true ∧ Q d (μ.set k o')) (fun C μ2 => ∃ o', μ2 = [o'] ∧ noCO o' = true ∧ EF C (μ.set k o'))) : callW F (.cell k :: rest) μ Q EF := ⟨_, _, _, rfl, h1, hk, h2, h3, h⟩
/- operators -/
theorem st_addI {o : List D → Mu → DQ → Prop} {i j : Int} (h : Q (.int (i + j)) μ) : dAdd o (.int i) (.int j) μ Q := h
theorem st_addS {o : List D → Mu → DQ → Prop} {a b : List Nat} (h1 : a.length + b.length ≤ sizeLine) (h : Q (.str (a ++ b)) μ) : dAdd o (.str a) (.str b) μ Q := ⟨h1, h⟩
theorem st_addT {o : List D → Mu → DQ → Prop} {a b : List D} (h1 : a.length + b.length ≤ sizeLine) (h : Q (.tup (a ++ b)) μ) : dAdd o (.tup a) (.tup b) μ Q := ⟨h1, h⟩
theorem st_addL {a b : List D} (h1 : a.length + b.length ≤ sizeLine) (h : Q (.lst (a ++ b)) μ) : dAdd outF (.lst a) (.lst b) μ Q := ⟨_, _, rfl, rfl, h1, h⟩
theorem st_addLC {a b : List D} (h1 : a.length + b.length ≤ sizeLine) (h : Q (.cell μ.length) (μ ++ [.lst (a ++ b)])) : dAdd outC (.lst a) (.lst b) μ Q := ⟨_, _, rfl, rfl, h1, h⟩
theorem st_sub {i j : Int} (h : Q (.int (i - j)) μ) : dSub (.int i) (.int j) μ Q := ⟨_, _, rfl, rfl, trivial, h⟩
theorem st_mod {i j : Int} (h1 : j ≠ 0) (h : Q (.int (Int.fmod i j)) μ) : dMod (.int i) (.int j) μ Q := ⟨_, _, rfl, rfl, h1, h⟩
theorem st_fdv {i j : Int} (h1 : CDivN i j) (h : Q (.int (Int.fdiv i j)) μ) : dFdv (.int i) (.int j) μ Q := ⟨_, _, rfl, rfl, h1, h⟩
theorem st_pow {i j : Int} (h1 : CPow i j) (h : Q (.int (i ^ j.toNat)) μ) : dPow (.int i) (.int j) μ Q := ⟨_, _, rfl, rfl, h1, h⟩
theorem st_mulI {o : List D → Mu → DQ → Prop} {i j : Int} (h1 : CMul i j) (h : Q (.int (i * j)) μ) : dMul o (.int i) (.int j) μ Q := ⟨h1, h⟩
theorem st_lt {i j : Int} (h : Q (.bl (decide (i < j))) μ) : dLt (.int i) (.int j) μ Q := h
theorem st_le {i j : Int} (h : Q (.bl (decide (i ≤ j))) μ) : dLe (.int i) (.int j) μ Q := h
theorem st_gt {i j : Int} (h : Q (.bl (decide (i > j))) μ) : dGt (.int i) (.int j) μ Q := h
theorem st_ge {i j : Int} (h : Q (.bl (decide (i ≥ j))) μ) : dGe (.int i) (.int j) μ Q := h
theorem st_ltS {i j : List Nat} (h : Q (.bl (decide (i < j))) μ) : dLt (.str i) (.str j) μ Q := h
theorem st_leS {i j : List Nat} (h : Q (.bl (!decide (j < i))) μ) : dLe (.str i) (.str j) μ Q := h
theorem st_gtS {i j : List Nat} (h : Q (.bl (decide (j < i))) μ) : dGt (.str i) (.str j) μ Q := h
theorem st_geS {i j : List Nat} (h : Q (.bl (!decide (i < j))) μ) : dGe (.str i) (.str j) μ Q := h
theorem st_eq {x y : D} {b : Bool} (e : scalD x y = some b) (h : Q (.bl b) μ) : dEq x y μ Q := by unfold dEq; rw [e]; exact h
theorem st_ne {x y : D} {b : Bool} (e : scalD x y = some b) (h : Q (.bl (!b)) μ) : dNe x y μ Q := by unfold dNe; rw [e]; exact h
theorem st_eqD {x y : D} (e : scalD x y = none) (h1 : okD 60 (dr μ x)) (h2 : okD 60 (dr μ y)) (h : Q (.bl (deq (dr μ x) (dr μ y))) μ) : dEq x y μ Q := by unfold dEq; rw [e]; exact ⟨h1, h2, h⟩
theorem st_neD {x y : D} (e : scalD x y = none) (h1 : okD 60 (dr μ x)) (h2 : okD 60 (dr μ y)) (h : Q (.bl (!deq (dr μ x) (dr μ y))) μ) : dNe x y μ Q := by unfold dNe; rw [e]; exact ⟨h1, h2, h⟩
theorem st_inS {c : Nat} {s : List Nat} (h : Q (.bl (decide (c ∈ s))) μ) : dIn false (.str [c]) (.str s) μ Q := ⟨_, rfl, h⟩
theorem st_ninS {c : Nat} {s : List Nat} (h : Q (.bl (!decide (c ∈ s))) μ) : dIn true (.str [c]) (.str s) μ Q := ⟨_, rfl, h⟩
theorem st_is {a b : Bool} (h : Q (.bl (decide (a = b))) μ) : dIs false (.bl a) (.bl b) μ Q := ⟨_, _, rfl, rfl, h⟩
theorem st_neg {i : Int} (h : Q (.int (-i)) μ) : dNeg (.int i) μ Q := ⟨_, rfl, h⟩
theorem st_ixS {s : List Nat} {n : Int} {c : Nat} (h1 : s.length ≤ sizeLine) (e : atI s n = some c) (h : Q (.str [c]) μ) : dIx (.str s) (.int n) μ Q := ⟨_, _, rfl, h1, e, h⟩
theorem st_ixL {x : D} {xs : List D} {n : Int} {d : D} (hs : isStrD x = false) (e1 : seqOf μ x = some xs) (e : atI xs n = some d) (h : Q d μ) : dIx x (.int n) μ Q := by
  cases x <;> first | (exact Bool.noConfusion hs) | exact ⟨_, _, _, rfl, e1, e, h⟩
theorem st_ca1 {f : DUn} {x : D} (h : f x μ Q) : ca1 f [x] μ Q := ⟨_, rfl, h⟩
theorem st_lenS {s : List Nat} (h1 : s.length ≤ sizeLine) (h : Q (.int s.length) μ) : dLen (.str s) μ Q := ⟨h1, h⟩
theorem st_lenL {xs : List D} (h : Q (.int xs.length) μ) : dLen (.lst xs) μ Q := ⟨_, rfl, h⟩
theorem st_lenT {xs : List D} (h : Q (.int xs.length) μ) : dLen (.tup xs) μ Q := ⟨_, rfl, h⟩
theorem st_lenC {k : Nat} {xs : List D} (hk : μ[k]? = some (.lst xs)) (h : Q (.int xs.length) μ) : dLen (.cell k) μ Q := ⟨_, hk, h⟩
theorem st_intI {i : Int} (h : Q (.int i) μ) : dIntOf (.int i) μ Q := h
theorem st_intB {b : Bool} (h : Q (.int (if b then 1 else 0)) μ) : dIntOf (.bl b) μ Q := h
theorem st_min2 {i j : Int} (h : Q (.int (if j < i then j else i)) μ) : dMin2 [.int i, .int j] μ Q := ⟨_, _, rfl, h⟩
theorem st_max2 {i j : Int} (h : Q (.int (if j > i then j else i)) μ) : dMax2 [.int i, .int j] μ Q := ⟨_, _, rfl, h⟩
theorem st_isi {x : D} {n t : String} {b : Bool} (h1 : tyN μ x = some t) (h2 : kitB t n = some b) (h : Q (.bl b) μ) : dIsi [x, .val (.ty n)] μ Q := ⟨_, _, _, _, rfl, h1, h2, h⟩
theorem st_append {k : Nat} {xs : List D} {y : D} (hk : μ[k]? = some (.lst xs)) (h1 : xs.length < sizeLine) (h : Q .non (μ.set k (.lst (xs ++ [y])))) : dAppend (.cell k) [y] μ Q := ⟨_, _, _, rfl, rfl, hk, h1, h⟩
theorem st_extend {k : Nat} {xs zs : List D} (hk : μ[k]? = some (.lst xs)) (h1 : xs.length + zs.length ≤ sizeLine) (h : Q .non (μ.set k (.lst (xs ++ zs)))) : dExtend (.cell k) [.lst zs] μ Q := ⟨_, _, _, _, rfl, rfl, hk, (fun z => nomatch z), rfl, h1, h⟩
theorem st_bm {k : MK} {f : DMt} (h : A δ μ (fun x μ1 => isK μ1 x k ∧ TA' δ μ1 (fun xs μ2 => f x xs μ2 Q) E) E) : dBM k f A TA' δ μ Q E := h
theorem st_isKS {s : List Nat} {P : Prop} (h : P) : isK μ (.str s) .str ∧ P := ⟨⟨_, rfl⟩, h⟩
theorem st_isKL {xs : List D} {P : Prop} (h : P) : isK μ (.lst xs) .lst ∧ P := ⟨⟨_, rfl⟩, h⟩
theorem st_isKC {k : Nat} {xs : List D} {P : Prop} (hk : μ[k]? = some (.lst xs)) (h : P) : isK μ (.cell k) .lst ∧ P := ⟨⟨_, rdL_cell hk⟩, h⟩
theorem st_find2 {s t : List Nat} {i : Int} (h : Q (.int (Txt.find3 (mkS s) (mkS t) i)) μ) : dFind2 (.str s) [.str t, .int i] μ Q := ⟨_, _, _, rfl, rfl, h⟩
theorem st_rfind3 {s t : List Nat} {i j : Int} (h : Q (.int (Txt.rfindIn (mkS s) (mkS t) i j)) μ) : dRfind3 (.str s) [.str t, .int i, .int j] μ Q := ⟨_, _, _, _, rfl, rfl, h⟩
/- slices -/
theorem st_sl {f : DSl} {L U : TDP} (h : A δ μ (fun x μ1 => L δ μ1 (fun lo μ2 => U δ μ2 (fun hi μ3 => f x lo hi μ3 Q) E) E) E) : dSl f A L U δ μ Q E := h
theorem st_noP {QP : Option Int → Mu → Prop} (h : QP none μ) : dNoP δ μ QP E := h
theorem st_part {QP : Option Int → Mu → Prop} (h : A δ μ (fun x μ1 => ∃ i, x = .int i ∧ QP (some i) μ1) E) : dPart A δ μ QP E := h
theorem st_part' {i : Int} {P : Int → Prop} (h : P i) : ∃ j, D.int i = .int j ∧ P j := ⟨_, rfl, h⟩
theorem st_cutS {o : List D → Mu → DQ → Prop} {s : List Nat} {lo hi : Option Int} (h1 : s.length ≤ sizeLine) (h : Q (.str (cutL s lo hi)) μ) : dCut o (.str s) lo hi μ Q := ⟨h1, h⟩
theorem st_cutL {xs : List D} {lo hi : Option Int} (h : Q (.lst (cutL xs lo hi)) μ) : dCut outF (.lst xs) lo hi μ Q := ⟨_, rfl, h⟩
theorem st_cutR {xs : List D} {lo hi : Option Int} (h : Q (.lst (cutL xs lo hi)) μ) : dCut outF (.scr xs) lo hi μ Q := ⟨_, rfl, h⟩
theorem st_revS {s : List Nat} {o : List D → Mu → DQ → Prop} (h1 : s.length ≤ sizeLine) (h : Q (.str s.reverse) μ) : dStep (-1) o (.str s) μ Q := ⟨h1, by rw [stepL_rev]; exact h⟩
theorem st_revL {xs : List D} (h : Q (.lst xs.reverse) μ) : dStep (-1) outF (.lst xs) μ Q := ⟨rfl, _, rfl, h⟩
theorem st_revLC {xs : List D} (h : Q (.cell μ.length) (μ ++ [.lst xs.reverse])) : dStep (-1) outC (.lst xs) μ Q := ⟨rfl, _, rfl, h⟩
theorem st_revCC {k : Nat} {xs : List D} (hk : μ[k]? = some (.lst xs)) (h : Q (.cell μ.length) (μ ++ [.lst xs.reverse])) : dStep (-1) outC (.cell k) μ Q := ⟨rfl, _, rdL_cell hk, h⟩
theorem st_revCF {k : Nat} {xs : List D} (hk : μ[k]? = some (.lst xs)) (h : Q (.lst xs.reverse) μ) : dStep (-1) outF (.cell k) μ Q := ⟨rfl, _, rdL_cell hk, h⟩
/- ends, branches -/
theorem st_rt {n : Nat} {Q' : DQ} {d : D} (h1 : noC d = true) (h2 : noCM (μ.take n) = true) (h : Q' d (μ.take n)) : rtD n Q' d μ := .inl ⟨h1, h2, h⟩
theorem st_ex {n : Nat} {E' : FE} {C : Value} (h2 : noCM (μ.take n) = true) (h : E' C (μ.take n)) : exD n E' C δ μ := .inl ⟨h2, h⟩
theorem st_dec {p : Prop} [Decidable p] {P P' : Prop} (h : p → P) (h' : ¬ p → P') : (decide p = true → P) ∧ (decide p = false → P') := ⟨fun e => h (of_decide_eq_true e), fun e => h' (of_decide_eq_false e)⟩
theorem st_ndec {p : Prop} [Decidable p] {P P' : Prop} (h : ¬ p → P) (h' : p → P') : ((!decide p) = true → P) ∧ ((!decide p) = false → P') := ⟨fun e => h (by simpa using e), fun e => h' (by simpa using e)⟩
theorem st_T {P P' : Prop} (h : P) : (true = true → P) ∧ (true = false → P') := ⟨fun _ => h, fun z => Bool.noConfusion z⟩
theorem st_F {P P' : Prop} (h : P') : (false = true → P) ∧ (false = false → P') := ⟨fun z => Bool.noConfusion z, fun _ => h⟩
theorem st_nT {P P' : Prop} (h : P') : ((!true) = true → P) ∧ ((!true) = false → P') := ⟨fun z => Bool.noConfusion z, fun _ => h⟩
theorem st_nF {P P' : Prop} (h : P) : ((!false) = true → P) ∧ ((!false) = false → P') := ⟨fun _ => h, fun z => Bool.noConfusion z⟩
theorem st_b {b : Bool} {P P' : Prop} (h : b = true → P) (h' : b = false → P') : (b = true → P) ∧ (b = false → P') := ⟨h, h'⟩
theorem st_sz {n : Nat} {P : Prop} (h1 : n ≤ sizeLine) (h : P) : n ≤ sizeLine ∧ P := ⟨h1, h⟩
end
/-- a draw, as it is used -/
theorem st_outF {xs : List D} {μ : Mu} {Q : DQ} (h : Q (.lst xs) μ) : outF xs μ Q := h
theorem st_outC {xs : List D} {μ : Mu} {Q : DQ} (h : Q (.cell μ.length) (μ ++ [.lst xs])) : outC xs μ Q := h
theorem st_finF {xs : List D} {μ : Mu} {Q : DQ} (h : Q (.lst xs) μ) : finF xs μ Q := h
theorem st_finC {xs : List D} {μ : Mu} {Q : DQ} (h : Q (.cell μ.length) (μ ++ [.lst xs])) : finC xs μ Q := h
/- what a call tells -/
theorem st_pz {d : D} {P : Prop} (h1 : noC d = true) (h : P) : ([] : Mu) = [] ∧ noC d = true ∧ P := ⟨rfl, h1, h⟩
theorem st_wz {d : D} {o : MO} {P : MO → Prop} (h1 : noC d = true) (h2 : noCO o = true) (h : P o) : ∃ o', [o] = [o'] ∧ noC d = true ∧ noCO o' = true ∧ P o' := ⟨o, rfl, h1, h2, h⟩
theorem st_nz {o : MO} {P : MO → Prop} (h2 : noCO o = true) (h : P o) : ∃ o', D.cell 0 = .cell 0 ∧ [o] = [o'] ∧ noCO o' = true ∧ P o' := ⟨o, rfl, rfl, h2, h⟩
theorem st_gzP {d : D} {P R : Prop} (h1 : noC d = true) (h : P) : (([] : Mu) = [] ∧ noC d = true ∧ P) ∨ R := .inl ⟨rfl, h1, h⟩
theorem st_gzC {o : MO} {P : MO → Prop} {R : Prop} (h2 : noCO o = true) (h : P o) : R ∨ ∃ o', D.cell 0 = .cell 0 ∧ [o] = [o'] ∧ noCO o' = true ∧ P o' := .inr ⟨o, rfl, rfl, h2, h⟩
theorem st_ez {P : Prop} (h : P) : ([] : Mu) = [] ∧ P := ⟨rfl, h⟩
theorem st_rtC {n : Nat} {Q' : DQ} {k : Nat} {μ : Mu} (hl : μ.length = n + 1) (h : Q' (.cell k) μ) : rtD n Q' (.cell k) μ := .inr (.inl h)
theorem st_rtK {n : Nat} {Q' : DQ} {k : Nat} {μ : Mu} {o : MO} (hn : n ≤ k) (hk : μ[k]? = some o) (h1 : o ≠ .dead) (h2 : noCO o = true) (h3 : noCM (μ.take n) = true) (h : Q' (.cell n) (μ.take n ++ [o])) : rtD n Q' (.cell k) μ := .inr (.inr ⟨k, o, rfl, hn, hk, h1, h2, h3, h⟩)
theorem noCM1 {o : MO} (h : noCO o = true) : noCM [o] = true := by show (noCO o && true) = true; rw [h]; rfl
/-! ### whole numbers from 0 on, in a list -/
def natsD (l : List Nat) : List D := l.map fun (k : Nat) => D.int (k : Int)
theorem natsD_noC (l : List Nat) : noCs (natsD l) = true := noCs_map _ (fun _ => rfl) _
theorem natsD_len (l : List Nat) : (natsD l).length = l.length := by simp [natsD]
/-! ### cells by places -/
theorem get_at0 {μ r : Mu} {a : MO} : (μ ++ a :: r)[μ.length]? = some a := by rw [List.getElem?_append_right (Nat.le_refl _), Nat.sub_self]; rfl
theorem get_at1 {μ r : Mu} {a b : MO} : (μ ++ a :: b :: r)[μ.length + (0 + 1)]? = some b := by rw [List.getElem?_append_right (by omega), Nat.add_sub_cancel_left]; rfl
theorem get_at2 {μ r : Mu} {a b c : MO} : (μ ++ a :: b :: c :: r)[μ.length + (0 + 1 + 1)]? = some c := by rw [List.getElem?_append_right (by omega), Nat.add_sub_cancel_left]; rfl
theorem get_at3 {μ r : Mu} {a b c d : MO} : (μ ++ a :: b :: c :: d :: r)[μ.length + (0 + 1 + 1 + 1)]? = some d := by rw [List.getElem?_append_right (by omega), Nat.add_sub_cancel_left]; rfl
theorem set_at0 {μ r : Mu} {a o : MO} : (μ ++ a :: r).set μ.length o = μ ++ o :: r := by simp
theorem set_at1 {μ r : Mu} {a b o : MO} : (μ ++ a :: b :: r).set (μ.length + (0 + 1)) o = μ ++ a :: o :: r := by simp
theorem set_at2 {μ r : Mu} {a b c o : MO} : (μ ++ a :: b :: c :: r).set (μ.length + (0 + 1 + 1)) o = μ ++ a :: b :: o :: r := by simp
theorem set_at3 {μ r : Mu} {a b c d o : MO} : (μ ++ a :: b :: c :: d :: r).set (μ.length + (0 + 1 + 1 + 1)) o = μ ++ a :: b :: c :: o :: r := by simp
theorem rowD_str {d : D} (h : isRowD d = true) : ∃ s, d = .str s ∧ isRow s = true := by
  cases d <;> first | exact ⟨_, rfl, h⟩ | exact Bool.noConfusion h
end SW

end

section
set_option Elab.async false
set_option linter.all false
set_option maxRecDepth 100000
namespace SW
open PySem L2 PyProof.Rows

/-! ### walks over a list that may change, but does not within the walk -/
abbrev TDIC := DS → Mu → (List D → (Mu → Prop) → Mu → Prop) → DE → Prop
def dForC (IA : TDIC) (G : TGD) (B : TDS) : TDS := fun D δ μ => IA δ μ (fun ds P μ1 => ∃ I : Nat → DS → Mu → Prop, I 0 δ μ1 ∧ (∀ i δ μ, I i δ μ → P μ) ∧
  (∀ i d δ μ, ds[i]? = some d → I i δ μ → G d δ μ (fun δ' μ' => B { D with nx := I (i + 1), ct := I (i + 1), bk := D.nx } δ' μ')) ∧ ∀ δ μ, I ds.length δ μ → D.nx δ μ) D.ex
/-- the body of a comprehension over such -/
def dLcC (IA : TDIC) (G : TGD) (T : TDT) (A : TD) (vs : List Nat) (fin : List D → Mu → DQ → Prop) : TD := fun δ μ Q E => IA δ μ (fun ds P μ1 => ∃ I : Nat → List D → Mu → Prop, I 0 [] μ1 ∧ (∀ i acc μ, I i acc μ → P μ) ∧
  (∀ i d acc μ, ds[i]? = some d → I i acc μ → G d (wipeD δ vs) μ (fun δ2 μ2 => T δ2 μ2 (fun b μ3 => (b = true → A δ2 μ3 (fun y μ4 => acc.length < sizeLine ∧ I (i + 1) (acc ++ [y]) μ4) E0D) ∧ (b = false → I (i + 1) acc μ3)) E0D)) ∧
  ∀ acc μ, I ds.length acc μ → fin acc μ Q) E
def dIterC (A : TD) : TDIC := fun δ μ Q E => A δ μ (fun x μ1 => ∃ k xs, x = .cell k ∧ μ1[k]? = some (.lst xs) ∧ Q xs (fun μ => μ[k]? = some (.lst xs)) μ1) E
/-! ### x op= e, of a local -/
structure AugD (X : Cx) (op : Operator) (f : DOp) : Prop where
  ex : ∃ r : R2, (∀ (pins : List (Addr × Obj)) (s : Shared) (σ : L2.St) (H : Hp) (x y : V) (v u : Value) (Q : VK), Inv X pins σ H s → RelV x v → RelV y u → r x y H Q → wpAny (model X.prog X.w) X.A (inplaceOp op v u) (EP X pins σ Q) X.xe s) ∧ LOp X.K r f
def dAug (i : Nat) (f : DOp) (A : TD) : TDS := fun Z δ μ => ∃ x, δ[i]? = some (some x) ∧ A δ μ (fun y μ1 => f x y μ1 (fun z μ2 => Z.nx (δ.set i (some z)) μ2)) Z.ex
theorem ws_aug (i : Nat) {X : Cx} {W : WX} {x : Str} {e : Expr} {A : TD} {op : Operator} {f : DOp} {pos' pos : Pos} (hN : X.N.Nodup) (o : AugD X op f) (he : WX0 X W e A) (hi : X.N[i]? = some x := by rfl) (hx : Loc X.env.scope x := by first | exact Or.inl rfl | exact Or.inr rfl) (hf : X.fn x = true ∨ X.env.scope.names.lookup x = some .local := by first | exact .inl rfl | exact .inr rfl | assumption) :
    WS X W (.AugAssign (.Name x pos') op e pos) (dAug i f A) := by
  obtain ⟨r, h1, h2⟩ := o.ex
  refine PS.imp (ps_aug (ti := r) hN hi hx he h1 hf) ?_
  rintro D σ H ⟨g, μ, δ, D', a0, sl, ⟨d, hd, h⟩, k1, k2, k3, k4, k5⟩
  obtain ⟨v, hv, rv⟩ := sl.get i d hd
  refine ⟨v, hv, g, μ, δ, _, _, a0, sl, h, fun g1 H1 μ1 y u a1 e1 r1 q => ?_, fun g1 H1 μ1 C δ' a1 e1 s1 q => k5 g1 H1 μ1 C δ' σ a1 e1 s1 q⟩
  exact h2 g1 μ1 H1 d y v u _ _ a1 (rv.ext e1) r1 q fun g2 H2 μ2 z w a2 e2 r2 q2 => k1 g2 H2 μ2 _ _ a2 (e1.trans e2) ((sl.ext (e1.trans e2)).set r2) q2
def dAddI : DOp := dInt2 (fun _ _ => True) (fun i j => i + j)
theorem ad_sub {X : Cx} : AugD X .Sub dSub := ⟨_, ip_sub, by
  rintro g μ H x y a b Q' Q a0 rx ry ⟨i, j, rfl, rfl, c, q⟩ k
  obtain rfl := rep_int rx
  obtain rfl := rep_int ry
  exact ⟨i, j, rfl, rfl, k.here a0 rep_intI q⟩⟩
theorem ad_add {X : Cx} : AugD X .Add dAddI := ⟨_, ip_add, by
  rintro g μ H x y a b Q' Q a0 rx ry ⟨i, j, rfl, rfl, c, q⟩ k
  obtain rfl := rep_int rx
  obtain rfl := rep_int ry
  exact ⟨i, j, rfl, rfl, k.here a0 rep_intI q⟩⟩
/-- new and changed no more, or data -/
def dFrzG (A : TD) : TD := fun δ μ Q E => A δ μ (fun x μ1 => (∃ k xs, x = .cell k ∧ μ1[k]? = some (.lst xs) ∧ Q (.lst xs) (μ1.set k .dead)) ∨ ((∀ k, x ≠ .cell k) ∧ Q x μ1)) E
/-! ### is None, as a test -/
def dIsNon : DOp := fun x y μ Q => y = .non ∧ ∃ b, nonD x = some b ∧ Q (.bl b) μ
def dNotNon : DOp := fun x y μ Q => y = .non ∧ ∃ b, nonD x = some b ∧ Q (.bl (!b)) μ
theorem cd_isN {X : Cx} : CmpD X .Is dIsNon := ⟨_, op_isN, by
  rintro g μ H x y a b Q' Q a0 rx ry ⟨rfl, c, hx, q⟩ k
  have e : b = .non := by unfold Rep at ry; exact ry
  subst e
  refine ⟨rfl, ?_⟩
  rw [rep_isnon hx rx]
  exact k.here a0 rep_bl q⟩
theorem st_isNon {x : D} {c : Bool} {μ : Mu} {Q : DQ} (e : nonD x = some c) (h : Q (.bl c) μ) : dIsNon x .non μ Q := ⟨rfl, _, e, h⟩
theorem st_notNon {x : D} {c : Bool} {μ : Mu} {Q : DQ} (e : nonD x = some c) (h : Q (.bl (!c)) μ) : dNotNon x .non μ Q := ⟨rfl, _, e, h⟩
theorem st_frzG {A : TD} {δ : DS} {μ : Mu} {Q : DQ} {E : DE} (h : A δ μ (fun x μ1 => (∃ k xs, x = .cell k ∧ μ1[k]? = some (.lst xs) ∧ Q (.lst xs) (μ1.set k .dead)) ∨ ((∀ k, x ≠ .cell k) ∧ Q x μ1)) E) : dFrzG A δ μ Q E := h
theorem st_aug {i : Nat} {f : DOp} {A : TD} {Z : DEnds} {δ : DS} {μ : Mu} {x : D} (e : δ[i]? = some (some x)) (h : A δ μ (fun y μ1 => f x y μ1 (fun z μ2 => Z.nx (δ.set i (some z)) μ2)) Z.ex) : dAug i f A Z δ μ := ⟨x, e, h⟩
theorem st_addA {i j : Int} {μ : Mu} {Q : DQ} (h : Q (.int (i + j)) μ) : dAddI (.int i) (.int j) μ Q := ⟨_, _, rfl, rfl, trivial, h⟩
theorem st_lc {IA : TDI} {G : TGD} {T : TDT} {A : TD} {vs : List Nat} {fin : List D → Mu → DQ → Prop} {δ : DS} {μ : Mu} {Q : DQ} {E : DE} (h : IA δ μ (fun ds μ1 => ∃ I : Nat → List D → Mu → Prop, I 0 [] μ1 ∧
  (∀ i d acc μ, ds[i]? = some d → I i acc μ → G d (wipeD δ vs) μ (fun δ2 μ2 => T δ2 μ2 (fun b μ3 => (b = true → A δ2 μ3 (fun y μ4 => acc.length < sizeLine ∧ I (i + 1) (acc ++ [y]) μ4) E0D) ∧ (b = false → I (i + 1) acc μ3)) E0D)) ∧
  ∀ acc μ, I ds.length acc μ → fin acc μ Q) E) : dLc0 IA G T A vs fin δ μ Q E := h
theorem st_lcC {IA : TDIC} {G : TGD} {T : TDT} {A : TD} {vs : List Nat} {fin : List D → Mu → DQ → Prop} {δ : DS} {μ : Mu} {Q : DQ} {E : DE} (h : IA δ μ (fun ds P μ1 => ∃ I : Nat → List D → Mu → Prop, I 0 [] μ1 ∧ (∀ i acc μ, I i acc μ → P μ) ∧
  (∀ i d acc μ, ds[i]? = some d → I i acc μ → G d (wipeD δ vs) μ (fun δ2 μ2 => T δ2 μ2 (fun b μ3 => (b = true → A δ2 μ3 (fun y μ4 => acc.length < sizeLine ∧ I (i + 1) (acc ++ [y]) μ4) E0D) ∧ (b = false → I (i + 1) acc μ3)) E0D)) ∧
  ∀ acc μ, I ds.length acc μ → fin acc μ Q) E) : dLcC IA G T A vs fin δ μ Q E := h
theorem st_forC {IA : TDIC} {G : TGD} {R : TDS} {Z : DEnds} {δ : DS} {μ : Mu} (h : IA δ μ (fun ds P μ1 => ∃ I : Nat → DS → Mu → Prop, I 0 δ μ1 ∧ (∀ i δ μ, I i δ μ → P μ) ∧
  (∀ i d δ μ, ds[i]? = some d → I i δ μ → G d δ μ (fun δ' μ' => R { Z with nx := I (i + 1), ct := I (i + 1), bk := Z.nx } δ' μ')) ∧ ∀ δ μ, I ds.length δ μ → Z.nx δ μ) Z.ex) : dForC IA G R Z δ μ := h
theorem st_iterC {A : TD} {δ : DS} {μ : Mu} {Q : List D → (Mu → Prop) → Mu → Prop} {E : DE} (h : A δ μ (fun x μ1 => ∃ k xs, x = .cell k ∧ μ1[k]? = some (.lst xs) ∧ Q xs (fun μ => μ[k]? = some (.lst xs)) μ1) E) : dIterC A δ μ Q E := h
theorem st_iterC' {k : Nat} {xs : List D} {μ : Mu} {P : Nat → List D → Prop} (hk : μ[k]? = some (.lst xs)) (h : P k xs) : ∃ k' xs, D.cell k = .cell k' ∧ μ[k']? = some (.lst xs) ∧ P k' xs := ⟨_, _, rfl, hk, h⟩
/- pure comprehensions, ready -/
theorem st_eqNil {xs : List D} {μ : Mu} {Q : DQ} (h : ∀ d ∈ xs, okD 59 d) (q : Q (.bl (decide (xs = []))) μ) : dEq (.lst xs) (.lst []) μ Q := by
  refine st_eqD rfl (okD_lst (by decide) h) (okD_lst (by decide) (by simp)) ?_
  rw [show deq (dr μ (.lst xs)) (dr μ (.lst [])) = decide (xs = []) from deq_nil]
  exact q
theorem st_neNil {xs : List D} {μ : Mu} {Q : DQ} (h : ∀ d ∈ xs, okD 59 d) (q : Q (.bl (!decide (xs = []))) μ) : dNe (.lst xs) (.lst []) μ Q := by
  refine st_neD rfl (okD_lst (by decide) h) (okD_lst (by decide) (by simp)) ?_
  rw [show deq (dr μ (.lst xs)) (dr μ (.lst [])) = decide (xs = []) from deq_nil]
  exact q
/-- a cell that is read alone, or data, handed in first -/
def callB (S : DSp) (ds : List D) (μ : Mu) (Q : DQ) (E : Value → Mu → Prop) : Prop := callP S ds μ Q E ∨ ∃ k o rest, ds = .cell k :: rest ∧ noCs rest = true ∧ μ[k]? = some o ∧ noCO o = true ∧ o ≠ .dead ∧
  S (.cell 0 :: rest) [o] (fun d μ2 => μ2 = [o] ∧ noC d = true ∧ Q d μ) (fun C μ2 => μ2 = [o] ∧ E C μ)
theorem st_callBC {F : DSp} {k : Nat} {o : MO} {rest : List D} {μ : Mu} {Q : DQ} {EF : Value → Mu → Prop} (hk : μ[k]? = some o) (h1 : noCs rest = true) (h2 : noCO o = true) (h3 : o ≠ .dead)
  (h : F (.cell 0 :: rest) [o] (fun d μ2 => μ2 = [o] ∧ noC d = true ∧ Q d μ) (fun C μ2 => μ2 = [o] ∧ EF C μ)) : callB F (.cell k :: rest) μ Q EF := .inr ⟨_, _, _, rfl, h1, hk, h2, h3, h⟩
theorem st_callBP {F : DSp} {ds : List D} {μ : Mu} {Q : DQ} {EF : Value → Mu → Prop} (h1 : noCs ds = true) (h : F ds [] (fun d μ2 => μ2 = [] ∧ noC d = true ∧ Q d μ) (fun C μ2 => μ2 = [] ∧ EF C μ)) : callB F ds μ Q EF := .inl ⟨h1, h⟩
theorem st_bz {d : D} {o : MO} {P : Prop} (h1 : noC d = true) (h : P) : [o] = [o] ∧ noC d = true ∧ P := ⟨rfl, h1, h⟩
theorem get_new1 {μ : Mu} {o o' : MO} : (μ ++ [o] ++ [o'])[μ.length]? = some o := by rw [List.getElem?_append_left (by simp)]; exact get_new
theorem get_new2 {μ : Mu} {o o' o2 : MO} : (μ ++ [o] ++ [o'] ++ [o2])[μ.length]? = some o := by rw [List.getElem?_append_left (by simp)]; exact get_new1
/-! ### a call whose told list, or data, is changed no more -/
def dGF (S : DSp) (A : TDA) : TD := fun δ μ Q E => A δ μ (fun ds μ1 => noCs ds = true ∧ S ds [] (fun d μ2 => (μ2 = [] ∧ noC d = true ∧ Q d μ1) ∨ ∃ xs, d = .cell 0 ∧ μ2 = [.lst xs] ∧ noCs xs = true ∧ Q (.lst xs) (μ1 ++ [.dead])) (fun C μ2 => μ2 = [] ∧ E C δ μ1)) E
theorem we_callGF {X : Cx} {W : WX} {e : Expr} {es : List Expr} {A : TDA} {S : DSp} {x : Str} {p pos : Pos} {k : Nat} (F : Fd X.prog X.w X.K X.mg X.base x k S) (hr : Room k X.A) (tk : Takes X W) (ha : WA X W (e :: es) A) (hg : Gl X x := by rfl) (hdb : (x == ("__debug__" : Str)) = false := by decide)
    (he : starEach (e :: es) X.env = (false, eval e X.env) :: starEach es X.env := by rfl) (hpl : (backTo pos (starEach es X.env)).any (·.1) = false := by rfl) : WX0 X W (.Call (.Name x p) (e :: es) [] pos) (dGF S A) := by
  obtain ⟨f, fd, ps, F0, hm, hk, hb⟩ := F.ex
  refine PE.imp (pe_callS F0 hr hg hm hk hb (fun σ => passAt tk σ) ha hdb he hpl) ?_
  rintro σ H Q ⟨g, μ, δ, Q', E', a0, sl, h, kq, kx⟩
  refine ⟨g, μ, δ, _, E', a0, sl, h, fun g1 H1 μ1 ds vs a1 e1 r1 hq => ?_, kx⟩
  obtain ⟨hn, q⟩ := hq
  have hs : Sub' (rn [] μ1.length) [] μ1 [] := sub_nil
  have rr : rens (rn [] μ1.length) ds = ds := rens_noC _ _ hn
  refine ⟨subW g1 [], [], ds, _, _, subW_at a1 hs, Reps.unren (subW_un a1 hs) _ _ (by rw [rr]; exact r1), q, fun g2 H2 μ2 d v a2 e2 r2 q2 => ?_, fun g2 H2 μ2 C a2 e2 q2 => ?_⟩
  · obtain ⟨g3, a3, e3, r3⟩ := putB_at a1 hs a2 e2
    have r4 := r3 d v r2
    rcases q2 with ⟨rfl, h3, q⟩ | ⟨xs, rfl, rfl, h3, q⟩
    · rw [ren_noC _ _ h3] at r4
      refine kq g3 H2 _ _ v a3 (e1.trans e3) r4 ?_
      simpa [putB] using q
    · have em : putB (rn [] μ1.length) [] μ1 [MO.lst xs] = μ1 ++ [.lst xs] := by
        show μ1 ++ [MO.lst xs].map (renO _) = _
        rw [List.map_cons, List.map_nil, renO_noC _ _ (show noCO (.lst xs) = true from h3)]
      rw [em] at a3
      have r5 : Rep X.K g3.F g3.th (.cell μ1.length) v := r4
      obtain ⟨p, ev, hp, hF, ws, hH, rw'⟩ := a3.cellAt get_new (by simp) r5
      subst ev
      obtain ⟨a4, e4⟩ := a3.frz get_new (by simp) hp hH
      rw [set_new] at a4
      refine kq _ _ _ _ _ a4 (e1.trans (e3.trans e4)) ?_ q
      unfold Rep
      exact ⟨p, ws, rfl, upd_same, rw'.ext e4⟩
  · obtain ⟨g3, a3, e3, r3⟩ := putB_at a1 hs a2 e2
    obtain ⟨rfl, q⟩ := q2
    refine kx g3 H2 _ C δ a3 (e1.trans e3) (sl.ext (e1.trans e3)) ?_
    simpa [putB] using q
theorem st_callGF {S : DSp} {A : TDA} {δ : DS} {μ : Mu} {Q : DQ} {E : DE} (h : A δ μ (fun ds μ1 => noCs ds = true ∧ S ds [] (fun d μ2 => (μ2 = [] ∧ noC d = true ∧ Q d μ1) ∨ ∃ xs, d = .cell 0 ∧ μ2 = [.lst xs] ∧ noCs xs = true ∧ Q (.lst xs) (μ1 ++ [.dead])) (fun C μ2 => μ2 = [] ∧ E C δ μ1)) E) : dGF S A δ μ Q E := h
theorem st_ncs {ds : List D} {P : Prop} (h : noCs ds = true) (q : P) : noCs ds = true ∧ P := ⟨h, q⟩
theorem st_gfL {xs : List D} {P : List D → Prop} {R : Prop} (h2 : noCs xs = true) (h : P xs) : R ∨ ∃ xs', D.cell 0 = .cell 0 ∧ [MO.lst xs] = [.lst xs'] ∧ noCs xs' = true ∧ P xs' := .inr ⟨xs, rfl, rfl, h2, h⟩
/-! ### the script's first cells -/
theorem cellsN_len (ns : List Int) {m : Int} (hm : 0 ≤ m) : (([D.int 0] ++ cutL (ns.map D.int) none (some m)).length : Int) ≤ m + 1 := by
  rw [cutL_to _ hm, List.length_append, List.length_take]
  show ((1 + min m.toNat _ : Nat) : Int) ≤ m + 1
  omega
theorem st_addL0 {ns : List Int} {m : Int} {μ : Mu} {Q : DQ} (hm : 0 ≤ m ∧ m ≤ 1000) (h : Q (.lst ([D.int 0] ++ cutL (ns.map D.int) none (some m))) μ) : dAdd outF (.lst [.int 0]) (.lst (cutL (ns.map D.int) none (some m))) μ Q :=
  st_addL (by
    have := cellsN_len ns hm.1
    rw [List.length_append] at this
    refine sz ?_
    omega) h
theorem st_listaS {o : List D → Mu → DQ → Prop} {s : List Nat} {μ : Mu} {Q : DQ} (h1 : s.length ≤ sizeLine) (h : o (chars s) μ Q) : dListA o (.str s) μ Q := ⟨h1, h⟩
theorem st_listaL {o : List D → Mu → DQ → Prop} {xs : List D} {μ : Mu} {Q : DQ} (h : o xs μ Q) : dListA o (.lst xs) μ Q := ⟨_, rfl, h⟩
theorem st_listaT {o : List D → Mu → DQ → Prop} {xs : List D} {μ : Mu} {Q : DQ} (h : o xs μ Q) : dListA o (.tup xs) μ Q := ⟨_, rfl, h⟩
theorem chars_eq (s : List Nat) : chars s = (s.map fun c => [c]).map .str := by unfold chars; rw [List.map_map]; rfl
/-! ### a block that is looked at in two parts -/
end SW

end

section
set_option Elab.async false
set_option linter.all false
set_option maxRecDepth 100000
namespace SW
open PySem PySem.Spec L2

/-! ### a list of lists, changed no more -/
def deadAll (μ : Mu) : List Nat → Mu
  | [] => μ
  | k :: ks => deadAll (μ.set k .dead) ks
theorem deadAll_other : ∀ (ks : List Nat) (μ : Mu) (j : Nat), j ∉ ks → (deadAll μ ks)[j]? = μ[j]?
  | [], μ, j, _ => rfl
  | k :: ks, μ, j, h => by
    unfold deadAll
    rw [deadAll_other ks _ j (fun z => h (List.mem_cons_of_mem _ z)), List.getElem?_set_ne (fun e => h (by rw [e]; exact List.mem_cons_self))]
theorem frz_list {K : PySem.W.Frag} {H : Hp} : ∀ (ks : List Nat) (rows : List (List D)) (vs : List V) (g : Wd) (μ : Mu), At K g μ H → Reps K g.F g.th (ks.map .cell) vs → ks.Nodup → ks.length = rows.length →
    (∀ (i k : Nat) r, ks[i]? = some k → rows[i]? = some r → μ[k]? = some (.lst r)) → ∃ g', At K g' (deadAll μ ks) H ∧ Ext g H g' H ∧ Reps K g'.F g'.th (rows.map .lst) vs
  | [], rows, vs, g, μ, a, r, nd, hl, h => by
    have e : rows = [] := List.eq_nil_of_length_eq_zero hl.symm
    subst e
    exact ⟨g, a, Ext.refl _ _, r⟩
  | k :: ks, [], vs, g, μ, a, r, nd, hl, h => by simp at hl
  | k :: ks, row :: rows, vs, g, μ, a, r, nd, hl, h => by
    rw [List.map_cons] at r
    unfold Reps at r
    obtain ⟨v, q, rfl, r1, r2⟩ := r
    obtain ⟨n1, n2⟩ := List.nodup_cons.mp nd
    have hk := h 0 k row rfl rfl
    obtain ⟨p, rfl, hp, hF, ws, hH, rw'⟩ := a.cellAt hk (by simp) r1
    obtain ⟨a1, e1⟩ := a.frz hk (by simp) hp hH
    obtain ⟨g', a2, e2, r3⟩ := frz_list ks rows q _ (μ.set k .dead) a1 (r2.ext e1) n2 (by simpa using hl) fun i k' r hi hr => by
      have hne : k ≠ k' := fun e => n1 (by rw [e]; exact List.mem_of_getElem? hi)
      rw [List.getElem?_set_ne hne]
      exact h (i + 1) k' r hi hr
    refine ⟨g', a2, e1.trans e2, ?_⟩
    rw [List.map_cons]
    refine Reps.cons ?_ r3
    unfold Rep
    refine ⟨p, ws, rfl, e2.F _ _ upd_same, (rw'.ext e1).ext e2⟩
def dFrzD (A : TD) : TD := fun δ μ Q E => A δ μ (fun x μ1 => ∃ (k : Nat) (ks : List Nat) (rows : List (List D)), x = .cell k ∧ μ1[k]? = some (.lst (ks.map .cell)) ∧ ks.Nodup ∧ k ∉ ks ∧ ks.length = rows.length ∧ (∀ (i k : Nat) r, ks[i]? = some k → rows[i]? = some r → μ1[k]? = some (.lst r)) ∧
  Q (.lst (rows.map .lst)) ((deadAll μ1 ks).set k .dead)) E
theorem st_frzD {A : TD} {δ : DS} {μ : Mu} {Q : DQ} {E : DE} (h : A δ μ (fun x μ1 => ∃ (k : Nat) (ks : List Nat) (rows : List (List D)), x = .cell k ∧ μ1[k]? = some (.lst (ks.map .cell)) ∧ ks.Nodup ∧ k ∉ ks ∧ ks.length = rows.length ∧ (∀ (i k : Nat) r, ks[i]? = some k → rows[i]? = some r → μ1[k]? = some (.lst r)) ∧
  Q (.lst (rows.map .lst)) ((deadAll μ1 ks).set k .dead)) E) : dFrzD A δ μ Q E := h
/-! ### a text by steps of 1 or -1 -/
/-- s[::c], c being 1 or -1 -/
def dStepD : DOp := fun x y μ Q => ∃ s c, x = .str s ∧ y = .int c ∧ s.length ≤ sizeLine ∧ ((c = 1 ∧ Q (.str s) μ) ∨ (c = -1 ∧ Q (.str s.reverse) μ))
theorem st_stepD1 {s : List Nat} {μ : Mu} {Q : DQ} (h1 : s.length ≤ sizeLine) (h : Q (.str s) μ) : dStepD (.str s) (.int 1) μ Q := ⟨s, 1, rfl, rfl, h1, .inl ⟨rfl, h⟩⟩
theorem st_stepDm {s : List Nat} {μ : Mu} {Q : DQ} (h1 : s.length ≤ sizeLine) (h : Q (.str s.reverse) μ) : dStepD (.str s) (.int (-1)) μ Q := ⟨s, -1, rfl, rfl, h1, .inr ⟨rfl, h⟩⟩
end SW

end

section
set_option Elab.async false
set_option linter.all false
set_option maxRecDepth 100000
namespace SW
open PySem L2
/-! ### insert -/
def dInsert : DMt := fun x ys μ Q => ∃ k xs i y, x = .cell k ∧ ys = [.int i, y] ∧ μ[k]? = some (.lst xs) ∧ xs.length < sizeLine ∧ 0 ≤ i ∧ i < 2 ^ 63 ∧ Q .non (μ.set k (.lst (xs.take i.toNat ++ [y] ++ xs.drop i.toNat)))
theorem st_insert {k : Nat} {xs : List D} {i : Int} {y : D} {μ : Mu} {Q : DQ} (hk : μ[k]? = some (.lst xs)) (h1 : xs.length < sizeLine) (h2 : 0 ≤ i ∧ i < 1000000) (h : Q .non (μ.set k (.lst (xs.take i.toNat ++ [y] ++ xs.drop i.toNat)))) : dInsert (.cell k) [.int i, y] μ Q := ⟨k, xs, i, y, rfl, rfl, hk, h1, h2.1, by omega, h⟩
/-! ### min of a list of data -/
section
open PyProof.Rows PySem.W PySem.SeqAt
variable {prog : Program} {w : World} {A : Around} {E : Value → Shared → Prop} {s : Shared}
end
end SW

end

section
set_option Elab.async false
set_option linter.all false
set_option maxRecDepth 100000
namespace SW
open PySem L2 PyProof.Rows

/-! ### a list or dict that may change, handed in to be read alone -/
mutual
/-- no list, no dict within -/
def noL : D → Bool
  | .lst _ => false
  | .scr _ => false
  | .dct _ _ _ => false
  | .dcn _ _ _ => false
  | .exc _ => false
  | .tup ds => noLs ds
  | _ => true
def noLs : List D → Bool
  | [] => true
  | d :: ds => noL d && noLs ds
end
def noLF : List (Str × D) → Bool
  | [] => true
  | (_, d) :: r => noL d && noLF r
def noLO : MO → Bool
  | .lst xs => noLs xs
  | .dct _ _ vs => noLs vs
  | .dcn _ _ _ => false
  | .dcl _ _ _ _ _ => false
  | .dcm _ _ _ _ _ => false
  | .ins _ fs => noLF fs
  | .dead => true
def noLM : Mu → Bool
  | [] => true
  | o :: r => noLO o && noLM r
def thawF (F : Hp) (ps : List Addr) : Hp := fun b => if b ∈ ps then none else F b
/-- no tuple -/
def notTup (o : HO) : Prop := ∀ vs, o ≠ .tup vs ∧ ∀ q, o ≠ .frz q (.tup vs)
section
variable {K : PySem.W.Frag} {F : Hp} {θ : List Addr} {ps : List Addr}
mutual
theorem Rep.thaw (h : ∀ p ∈ ps, ∀ o, F p = some o → notTup o) : ∀ (d : D) (v : V), noL d = true → Rep K F θ d v → Rep K (thawF F ps) θ d v
  | .non, v, _, r => by unfold Rep at r ⊢; exact r
  | .bl b, v, _, r => by unfold Rep at r ⊢; exact r
  | .int i, v, _, r => by unfold Rep at r ⊢; exact r
  | .str s, v, _, r => by unfold Rep at r ⊢; exact r
  | .tup ds, v, n, r => by
    unfold noL at n
    unfold Rep at r ⊢
    obtain ⟨p, vs, h1, h2, h3⟩ := r
    refine ⟨p, vs, h1, ?_, Reps.thaw h ds vs n h3⟩
    unfold thawF
    rw [if_neg fun hp => (h p hp _ h2 vs).1 rfl]
    exact h2
  | .lst ds, v, n, r => by unfold noL at n; cases n
  | .scr ds, v, n, r => by unfold noL at n; cases n
  | .dct _ _ _, v, n, r => by unfold noL at n; cases n
  | .dcn _ _ _, v, n, r => by unfold noL at n; cases n
  | .cell k, v, _, r => by unfold Rep at r ⊢; exact r
  | .val u, v, _, r => by unfold Rep at r ⊢; exact r
  | .exc _, v, n, r => by unfold noL at n; cases n
theorem Reps.thaw (h : ∀ p ∈ ps, ∀ o, F p = some o → notTup o) : ∀ (ds : List D) (vs : List V), noLs ds = true → Reps K F θ ds vs → Reps K (thawF F ps) θ ds vs
  | [], vs, _, r => by unfold Reps at r ⊢; exact r
  | d :: ds, vs, n, r => by
    simp [noLs] at n
    unfold Reps at r ⊢
    obtain ⟨v, q, h1, h2, h3⟩ := r
    exact ⟨v, q, h1, Rep.thaw h d v n.1 h2, Reps.thaw h ds q n.2 h3⟩
end
theorem RepF.thaw (h : ∀ p ∈ ps, ∀ o, F p = some o → notTup o) : ∀ (fs : List (Str × D)) (fv : List (Str × V)), noLF fs = true → RepF K F θ fs fv → RepF K (thawF F ps) θ fs fv
  | [], _, _, r => r
  | (x, d) :: r, fv, n, ⟨v, fr, a, b, c⟩ => by
    simp [noLF] at n
    exact ⟨v, fr, a, Rep.thaw h d v n.1 b, RepF.thaw h r fr n.2 c⟩
theorem RepO.thaw {H : Hp} {p : Addr} {o : MO} (h : ∀ p ∈ ps, ∀ o, F p = some o → notTup o) (n : noLO o = true) (r : RepO K F θ H p o) : RepO K (thawF F ps) θ H p o := by
  cases o with
  | lst xs =>
    obtain ⟨vs, a, b⟩ := r
    exact ⟨vs, a, Reps.thaw h _ _ n b⟩
  | dct tt ks ds =>
    obtain ⟨vs, a, b, c⟩ := r
    exact ⟨vs, Reps.thaw h _ _ n a, b, c⟩
  | dcn w kk ds => cases n
  | dcl ob u tt ks ds => cases n
  | dcm ob u w kk ds => cases n
  | ins C fs =>
    obtain ⟨dx, fv, a, b⟩ := r
    exact ⟨dx, fv, a, RepF.thaw h _ _ n b⟩
  | dead => trivial
end
/-- a call's data with the named cells as what they hold -/
def frzOf (μ : Mu) (fs : List Nat) : D → D
  | .cell k => if k ∈ fs then (match μ[k]? with
    | some (.lst xs) => .lst xs
    | some (.dct tt ks vs) => .dct tt ks vs
    | _ => .cell k) else .cell k
  | d => d
def isLD : MO → Prop
  | .lst _ => True
  | _ => False
/-! ### such a call -/
/-- a spec whose answers hold no list or dict -/
def plusL (S : DSp) : DSp := fun ds μ Q E => S ds μ (fun d μ2 => noL d = true ∧ noLM μ2 = true ∧ Q d μ2) (fun C μ2 => noLM μ2 = true ∧ E C μ2)
def dCallT (c : CForm) (S : DSp) (A : TDA) : TD := fun δ μ Q E => A δ μ (fun ds μ1 => c S ds μ1 Q (fun C μ2 => E C δ μ2) ∨
  ∃ fs : List Nat, (∀ k ∈ fs, ∃ o, μ1[k]? = some o ∧ isLD o) ∧ c (plusL S) (ds.map (frzOf μ1 fs)) μ1 Q (fun C μ2 => E C δ μ2)) E
section
variable {X : Cx} {W : WX} {e : Expr} {es : List Expr} {A : TDA} {S : DSp} {x : Str} {p pos : Pos} {k : Nat}
end
end SW

end

section
set_option Elab.async false
set_option linter.all false
set_option maxRecDepth 100000
namespace SW
open PySem L2 PySem.SeqAt PyProof.Rows

/-! ### min of a list of data that are alike -/
end SW

end

section
set_option Elab.async false
set_option linter.all false
set_option maxRecDepth 100000
namespace SW
open PySem L2

/-! ### functions of data, by kind -/
def strF (f : List Nat → D) : D → D
  | .str s => f s
  | _ => .non
def intF (f : Int → D) : D → D
  | .int s => f s
  | _ => .non
theorem map_strF (f : List Nat → D) (l : List (List Nat)) : (l.map D.str).map (strF f) = l.map f := by rw [List.map_map]; rfl
theorem chars_strF (f : List Nat → D) (s : List Nat) : (chars s).map (strF f) = s.map fun c => f [c] := by unfold chars; rw [List.map_map]; rfl
theorem st_frzL {k : Nat} {xs : List D} {μ : Mu} {P : Nat → List D → Prop} {R : Nat → Prop} (hk : μ[k]? = some (.lst xs)) (h : P k xs) : ∃ k', D.cell k = .cell k' ∧ ((∃ xs, μ[k']? = some (.lst xs) ∧ P k' xs) ∨ R k') := ⟨_, rfl, .inl ⟨_, hk, h⟩⟩
/-- a comprehension over texts -/
theorem lc_strs {l : List (List Nat)} {i : Nat} {A : TD} {δ : DS} {vs : List Nat} {μ : Mu} {fin : List D → Mu → DQ → Prop} {Q : DQ} (f : List Nat → D) (hz : l.length ≤ sizeLine)
    (h : ∀ (j : Nat) s, l[j]? = some s → ∀ (KA : D → Mu → Prop), KA (f s) μ → gdName i (.str s) (wipeD δ vs) μ (fun δ2 μ2 => A δ2 μ2 KA E0D))
    (q : fin (l.map f) μ Q) :
    ∃ I : Nat → List D → Mu → Prop, I 0 [] μ ∧ (∀ j d acc μ, (l.map D.str)[j]? = some d → I j acc μ → gdName i d (wipeD δ vs) μ (fun δ2 μ2 => dYes δ2 μ2 (fun b μ3 => (b = true → A δ2 μ3 (fun y μ4 => acc.length < sizeLine ∧ I (j + 1) (acc ++ [y]) μ4) E0D) ∧ (b = false → I (j + 1) acc μ3)) E0D)) ∧
      ∀ acc μ, I (l.map D.str).length acc μ → fin acc μ Q := by
  refine lc_map (strF f) (by rw [List.length_map]; exact hz) (fun j d hd KA hk => ?_) (gmono_name i) (by rw [map_strF]; exact q)
  rw [List.getElem?_map] at hd
  obtain ⟨s, hs, rfl⟩ := Option.map_eq_some_iff.mp hd
  exact h j s hs KA hk
end SW

end

section
set_option Elab.async false
set_option linter.all false
set_option maxRecDepth 100000
namespace SW
open PySem L2

/-! ### pop by place, count, clear -/
theorem Reps.eraseIdx {K : PySem.W.Frag} {F : Hp} {θ : List Addr} : ∀ {ds : List D} {vs : List V} (n : Nat), Reps K F θ ds vs → Reps K F θ (ds.eraseIdx n) (vs.eraseIdx n)
  | [], vs, n, h => by unfold Reps at h; subst h; simp [Reps.nil]
  | d :: ds, vs, 0, h => by
    unfold Reps at h
    obtain ⟨v, r, q, h1, h⟩ := h
    subst q
    exact h
  | d :: ds, vs, n + 1, h => by
    unfold Reps at h
    obtain ⟨v, r, q, h1, h⟩ := h
    subst q
    exact Reps.cons h1 (Reps.eraseIdx n h)
def dPopAt : DMt := fun x ys μ Q => ∃ k xs i y, x = .cell k ∧ ys = [.int i] ∧ μ[k]? = some (.lst xs) ∧ 0 ≤ i ∧ i < 1000000000 ∧ xs[i.toNat]? = some y ∧ Q y (μ.set k (.lst (xs.eraseIdx i.toNat)))
theorem md_popAt {X : Cx} : MtD X "list.pop" dPopAt := by
  refine ⟨_, mt_popAt, ?_⟩
  rintro g μ H x a xs as Q' Q a0 rx rs ⟨k, ys, i, y, rfl, rfl, hk, h0, h1, hy, q⟩ kq
  obtain ⟨p, rfl, hp, hF, vs, hH, r⟩ := a0.cellAt hk (by simp) rx
  obtain ⟨w, rfl, r1⟩ := reps1 rs
  obtain rfl := rep_int r1
  obtain ⟨w, hw, rw'⟩ := r.get hy
  obtain ⟨a1, e1⟩ := a0.setC (ho := .lst (vs.eraseIdx i.toNat)) hk (by simp) hp (o' := .lst (ys.eraseIdx i.toNat)) ⟨_, upd_same, r.eraseIdx _⟩
  have hl := (List.getElem?_eq_some_iff.mp hw).1
  refine ⟨p, vs, i, i.toNat, w, rfl, rfl, hH, by omega, by omega, ?_, hw, kq _ _ _ _ _ a1 e1 (rw'.ext e1) q⟩
  unfold seqIndex?
  have e1 : ¬ i < 0 := by omega
  have e2 : i < (vs.length : Int) := by omega
  simp [h0, e1, e2]
theorem st_popAt {k : Nat} {xs : List D} {i : Int} {y : D} {μ : Mu} {Q : DQ} (hk : μ[k]? = some (.lst xs)) (h : 0 ≤ i ∧ i < 1000000000) (hy : xs[i.toNat]? = some y) (q : Q y (μ.set k (.lst (xs.eraseIdx i.toNat)))) : dPopAt (.cell k) [.int i] μ Q := ⟨k, xs, i, y, rfl, rfl, hk, h.1, h.2, hy, q⟩
theorem st_pop {k : Nat} {xs : List D} {y : D} {μ : Mu} {Q : DQ} (hk : μ[k]? = some (.lst xs)) (hy : xs[xs.length - 1]? = some y) (q : Q y (μ.set k (.lst xs.dropLast))) : dPop (.cell k) [] μ Q := ⟨k, xs, y, rfl, rfl, hk, hy, q⟩
def dCount : DMt := fun x ys μ Q => ∃ s c, x = .str s ∧ ys = [.str [c]] ∧ Q (.int (s.count c : Nat)) μ
theorem st_count {s : List Nat} {c : Nat} {μ : Mu} {Q : DQ} (q : Q (.int (s.count c : Nat)) μ) : dCount (.str s) [.str [c]] μ Q := ⟨s, c, rfl, rfl, q⟩
end SW

end

section
set_option Elab.async false
set_option linter.all false
set_option maxRecDepth 100000
namespace SW
open PySem L2

/-! ### steps of a call that reads a list that changes -/
theorem frz_noC {μ : Mu} {fs : List Nat} : ∀ {ds : List D}, noCs ds = true → ds.map (frzOf μ fs) = ds
  | [], _ => rfl
  | d :: ds, h => by
    simp only [noCs, Bool.and_eq_true] at h
    rw [List.map_cons, frz_noC h.2]
    cases d with
    | cell k => exact absurd h.1 (by simp [noC])
    | _ => rfl
section
variable {c : CForm} {S : DSp} {δ : DS} {μ : Mu} {Q : DQ} {E : DE} {EF : Value → Mu → Prop} {A : TDA}
theorem st_callT (h : A δ μ (fun ds μ1 => c S ds μ1 Q (fun C μ2 => E C δ μ2) ∨
  ∃ fs : List Nat, (∀ k ∈ fs, ∃ o, μ1[k]? = some o ∧ isLD o) ∧ c (plusL S) (ds.map (frzOf μ1 fs)) μ1 Q (fun C μ2 => E C δ μ2)) E) : dCallT c S A δ μ Q E := h
theorem st_callT1 {k : Nat} {xs rest : List D} (hk : μ[k]? = some (.lst xs)) (hr : noCs rest = true) (h : c (plusL S) (.lst xs :: rest) μ Q EF) :
    c S (.cell k :: rest) μ Q EF ∨ ∃ fs : List Nat, (∀ k ∈ fs, ∃ o, μ[k]? = some o ∧ isLD o) ∧ c (plusL S) ((.cell k :: rest).map (frzOf μ fs)) μ Q EF :=
  .inr ⟨[k], fun j hj => by rw [List.mem_singleton.mp hj]; exact ⟨_, hk, trivial⟩, by
    rw [List.map_cons, frz_noC hr]
    have : frzOf μ [k] (.cell k) = .lst xs := by simp [frzOf, hk]
    rw [this]
    exact h⟩
theorem st_callT2 {k : Nat} {d : D} {xs rest : List D} (hk : μ[k]? = some (.lst xs)) (hd : noCs [d] = true) (hr : noCs rest = true) (h : c (plusL S) (d :: .lst xs :: rest) μ Q EF) :
    c S (d :: .cell k :: rest) μ Q EF ∨ ∃ fs : List Nat, (∀ k ∈ fs, ∃ o, μ[k]? = some o ∧ isLD o) ∧ c (plusL S) ((d :: .cell k :: rest).map (frzOf μ fs)) μ Q EF :=
  .inr ⟨[k], fun j hj => by rw [List.mem_singleton.mp hj]; exact ⟨_, hk, trivial⟩, by
    rw [List.map_cons, List.map_cons, frz_noC hr]
    have : frzOf μ [k] (.cell k) = .lst xs := by simp [frzOf, hk]
    rw [this]
    have e : [d].map (frzOf μ [k]) = [d] := frz_noC hd
    have e' : frzOf μ [k] d = d := List.cons.inj e |>.1
    rw [e']
    exact h⟩
theorem st_plus {ds : List D} {E' : Value → Mu → Prop} (h : S ds μ (fun d μ2 => noL d = true ∧ noLM μ2 = true ∧ Q d μ2) (fun C μ2 => noLM μ2 = true ∧ E' C μ2)) : plusL S ds μ Q E' := h
theorem st_pl {d : D} {P : Prop} (h1 : noL d = true) (h2 : noLM μ = true) (h : P) : noL d = true ∧ noLM μ = true ∧ P := ⟨h1, h2, h⟩
theorem st_plE {P : Prop} (h2 : noLM μ = true) (h : P) : noLM μ = true ∧ P := ⟨h2, h⟩
end
theorem st_ixC {k : Nat} {xs : List D} {n : Int} {d : D} {μ : Mu} {Q : DQ} (hk : μ[k]? = some (.lst xs)) (e : atI xs n = some d) (h : Q d μ) : dIx (.cell k) (.int n) μ Q := st_ixL rfl (seqOf_cell hk) e h
/-! ### a well of two numbers -/
def WellC (o : MO) : Prop := ∃ a b : Int, o = .lst [.int a, .int b]
theorem WellC.noC {o : MO} (h : WellC o) : noCO o = true := by obtain ⟨a, b, rfl⟩ := h; rfl
theorem WellC.live {o : MO} (h : WellC o) : o ≠ .dead := by obtain ⟨a, b, rfl⟩ := h; exact fun z => nomatch z
theorem WellC.noL {o : MO} (h : WellC o) : noLO o = true := by obtain ⟨a, b, rfl⟩ := h; rfl
/-- a comprehension over the signs of a text -/
theorem lc_chars {l : List Nat} {i : Nat} {A : TD} {δ : DS} {vs : List Nat} {μ : Mu} {fin : List D → Mu → DQ → Prop} {Q : DQ} (f : Nat → D) (hz : l.length ≤ sizeLine)
    (h : ∀ (j : Nat) c, l[j]? = some c → ∀ (KA : D → Mu → Prop), KA (f c) μ → gdName i (.str [c]) (wipeD δ vs) μ (fun δ2 μ2 => A δ2 μ2 KA E0D))
    (q : fin (l.map f) μ Q) :
    ∃ I : Nat → List D → Mu → Prop, I 0 [] μ ∧ (∀ j d acc μ, (chars l)[j]? = some d → I j acc μ → gdName i d (wipeD δ vs) μ (fun δ2 μ2 => dYes δ2 μ2 (fun b μ3 => (b = true → A δ2 μ3 (fun y μ4 => acc.length < sizeLine ∧ I (j + 1) (acc ++ [y]) μ4) E0D) ∧ (b = false → I (j + 1) acc μ3)) E0D)) ∧
      ∀ acc μ, I (chars l).length acc μ → fin acc μ Q := by
  refine lc_map (strF fun s => f (s.headD 0)) (by rw [chars_length]; exact hz) (fun j d hd KA hk => ?_) (gmono_name i) (by rw [chars_strF]; exact q)
  obtain ⟨c, hc, rfl⟩ := chars_get hd
  exact h j c hc KA hk
theorem lc_fchars {l : List Nat} {G : TGD} {T : TDT} {A : TD} {δ : DS} {vs : List Nat} {μ : Mu} {fin : List D → Mu → DQ → Prop} {Q : DQ} (p : Nat → Bool) (f : Nat → D) (hz : l.length ≤ sizeLine)
    (h : ∀ (j : Nat) c, l[j]? = some c → ∀ (KA : D → Mu → Prop) (KF : Mu → Prop), (p c = true → KA (f c) μ) → (p c = false → KF μ) →
      G (.str [c]) (wipeD δ vs) μ (fun δ2 μ2 => T δ2 μ2 (fun b μ3 => (b = true → A δ2 μ3 KA E0D) ∧ (b = false → KF μ3)) E0D))
    (q : fin ((l.filter p).map f) μ Q) :
    ∃ I : Nat → List D → Mu → Prop, I 0 [] μ ∧ (∀ j d acc μ, (chars l)[j]? = some d → I j acc μ → G d (wipeD δ vs) μ (fun δ2 μ2 => T δ2 μ2 (fun b μ3 => (b = true → A δ2 μ3 (fun y μ4 => acc.length < sizeLine ∧ I (j + 1) (acc ++ [y]) μ4) E0D) ∧ (b = false → I (j + 1) acc μ3)) E0D)) ∧
      ∀ acc μ, I (chars l).length acc μ → fin acc μ Q := by
  refine lc_pure (fun d => match d with | .str s => p (s.headD 0) | _ => false) (strF fun s => f (s.headD 0)) (by rw [chars_length]; exact hz) (fun j d hd KA KF h1 h2 => ?_) ?_
  · obtain ⟨c, hc, rfl⟩ := chars_get hd
    exact h j c hc KA KF h1 h2
  · have e : ((chars l).filter (fun d => match d with | .str s => p (s.headD 0) | _ => false)).map (strF fun s => f (s.headD 0)) = (l.filter p).map f := by
      unfold chars
      rw [List.filter_map, List.map_map]
      rfl
    rw [e]
    exact q
theorem st_sum {l : List Int} {x : D} {μ : Mu} {Q : DQ} (hx : rdL μ x = some (l.map .int)) (q : Q (.int l.sum) μ) : dSum [x] μ Q := ⟨x, _, l, rfl, hx, rfl, q⟩
/-! ### the script's first cells, behind some written ones -/
theorem st_addLS {a : List D} {ns : List Int} {m : Int} {μ : Mu} {Q : DQ} (ha : a.length ≤ 1000) (hm : 0 ≤ m ∧ m ≤ 1000) (h : Q (.lst (a ++ cutL (ns.map D.int) none (some m))) μ) : dAdd outF (.lst a) (.lst (cutL (ns.map D.int) none (some m))) μ Q := st_addL (by
  have : (cutL (ns.map D.int) none (some m)).length ≤ m.toNat := by rw [cutL_to _ hm.1, List.length_take]; omega
  exact sz (by omega)) h
/-! ### rows -/
def Rows (rows : List (List Nat)) (most : Nat) : Prop := ∀ r ∈ rows, isRow r = true ∧ r.length ≤ most
theorem Rows.get {rows : List (List Nat)} {most i : Nat} {r : List Nat} (h : Rows rows most) (e : rows[i]? = some r) : isRow r = true ∧ r.length ≤ most := h r (List.mem_of_getElem? e)
theorem Rows.mono {rows : List (List Nat)} {m n : Nat} (h : Rows rows m) (l : m ≤ n) : Rows rows n := fun r hr => ⟨(h r hr).1, by have := (h r hr).2; omega⟩
theorem Rows.nil {m : Nat} : Rows [] m := fun _ h => nomatch h
theorem Rows.app {rows : List (List Nat)} {m : Nat} {r : List Nat} (h : Rows rows m) (hr : isRow r = true) (hl : r.length ≤ m) : Rows (rows ++ [r]) m := fun x hx => by
  rcases List.mem_append.mp hx with hx | hx
  · exact h x hx
  · rw [List.mem_singleton.mp hx]; exact ⟨hr, hl⟩
theorem Rows.sub {rows rows' : List (List Nat)} {m : Nat} (h : Rows rows m) (hs : ∀ r ∈ rows', r ∈ rows) : Rows rows' m := fun x hx => h x (hs x hx)
theorem chars_erase (s : List Nat) (n : Nat) : (chars s).eraseIdx n = chars (s.eraseIdx n) := by
  unfold chars
  induction s generalizing n with
  | nil => rfl
  | cons a r ih => cases n with
    | zero => rfl
    | succ n => simp [ih]
theorem Rows.dropLast {rows : List (List Nat)} {m : Nat} (h : Rows rows m) : Rows rows.dropLast m := h.sub fun _ hx => List.dropLast_subset _ hx
theorem Rows.drop {rows : List (List Nat)} {m n : Nat} (h : Rows rows m) : Rows (rows.drop n) m := h.sub fun _ hx => List.mem_of_mem_drop hx
end SW

end

section
set_option Elab.async false
set_option linter.all false
set_option maxRecDepth 100000
namespace SW
open PySem L2

/-! ### comprehensions over whole numbers from 0 on -/
theorem rangeD_nats (n : Nat) : rangeD 0 1 n = natsD (List.range n) := by
  unfold rangeD natsD
  refine List.map_congr_left fun i _ => ?_
  rw [show (0 : Int) + (i : Int) * 1 = (i : Int) by omega]
theorem natsD_get {l : List Nat} {i : Nat} {d : D} (h : (natsD l)[i]? = some d) : ∃ k, l[i]? = some k ∧ d = .int (k : Int) := by
  unfold natsD at h
  rw [List.getElem?_map] at h
  obtain ⟨k, hk, e⟩ := Option.map_eq_some_iff.mp h
  exact ⟨k, hk, e.symm⟩
theorem natsD_at {l : List Nat} {i k : Nat} (h : l[i]? = some k) : (natsD l)[i]? = some (.int (k : Int)) := by
  unfold natsD
  rw [List.getElem?_map, h]
  rfl
/-- without a test -/
theorem lc_nats {l : List Nat} {i : Nat} {A : TD} {δ : DS} {vs : List Nat} {μ : Mu} {fin : List D → Mu → DQ → Prop} {Q : DQ} (f : Nat → D) (hz : l.length ≤ sizeLine)
    (h : ∀ (j : Nat) c, l[j]? = some c → ∀ (KA : D → Mu → Prop), KA (f c) μ → gdName i (.int (c : Int)) (wipeD δ vs) μ (fun δ2 μ2 => A δ2 μ2 KA E0D))
    (q : fin (l.map f) μ Q) :
    ∃ I : Nat → List D → Mu → Prop, I 0 [] μ ∧ (∀ j d acc μ, (natsD l)[j]? = some d → I j acc μ → gdName i d (wipeD δ vs) μ (fun δ2 μ2 => dYes δ2 μ2 (fun b μ3 => (b = true → A δ2 μ3 (fun y μ4 => acc.length < sizeLine ∧ I (j + 1) (acc ++ [y]) μ4) E0D) ∧ (b = false → I (j + 1) acc μ3)) E0D)) ∧
      ∀ acc μ, I (natsD l).length acc μ → fin acc μ Q := by
  refine lc_map (intF fun s => f s.toNat) (by rw [natsD_len]; exact hz) (fun j d hd KA hk => ?_) (gmono_name i) ?_
  · obtain ⟨c, hc, rfl⟩ := natsD_get hd
    exact h j c hc KA hk
  · have e : (natsD l).map (intF fun s => f s.toNat) = l.map f := by
      unfold natsD
      rw [List.map_map]
      rfl
    rw [e]
    exact q
/-! ### sums, places -/
theorem noLs_nats (l : List Nat) : noLs (natsD l) = true := by
  unfold natsD
  induction l with
  | nil => rfl
  | cons x l ih => simp [noLs, noL, ih]
theorem noL1 {xs : List D} (h : noLs xs = true) : noLM [.lst xs] = true := by simp [noLM, noLO, h]
theorem noLs_strs (l : List (List Nat)) : noLs (l.map D.str) = true := by
  induction l with
  | nil => rfl
  | cons x l ih => simp [noLs, noL, ih]
theorem st_isiC {k : Nat} {xs : List D} {n : String} {b : Bool} {μ : Mu} {Q : DQ} (hk : μ[k]? = some (.lst xs)) (h2 : kitB "list" n = some b) (h : Q (.bl b) μ) : dIsi [.cell k, .val (.ty n)] μ Q := st_isi (t := "list") (by simp [tyN, hk]) h2 h
theorem kit_list_list : kitB "list" "list" = some true := by decide +kernel
end SW

end

section
set_option Elab.async false
set_option linter.all false
set_option maxRecDepth 100000
namespace SW
open PySem L2

/-! ### keys -/
def isK1 : D → Bool
  | .int _ => true
  | .str _ => true
  | _ => false
def keq1 : D → D → Bool
  | .int i, .int j => decide (i = j)
  | .str a, .str b => decide (a = b)
  | _, _ => false
def keqs : List D → List D → Bool
  | [], [] => true
  | x :: xs, y :: ys => keq1 x y && keqs xs ys
  | _, _ => false
def isKD (t : Bool) : D → Bool
  | .tup xs => t && xs.all isK1
  | y => !t && isK1 y
def keq : D → D → Bool
  | .tup xs, .tup ys => keqs xs ys
  | x, y => keq1 x y
theorem keq1_kD : ∀ a b : Key, keq1 (kD a) (kD b) = decide (a = b)
  | .inl i, .inl j => by show decide (i = j) = _; by_cases h : i = j <;> simp [h]
  | .inl i, .inr y => by show false = _; simp
  | .inr x, .inl j => by show false = _; simp
  | .inr x, .inr y => by
    show decide (x.cps.toList = y.cps.toList) = _
    by_cases h : x = y
    · simp [h]
    · have : ¬ x.cps.toList = y.cps.toList := fun e => h (by rw [← mkS_of x, ← mkS_of y, e])
      simp [h, this]
theorem keqs_kD : ∀ a b : List Key, keqs (a.map kD) (b.map kD) = decide (a = b)
  | [], [] => rfl
  | [], _ :: _ => by simp [keqs]
  | _ :: _, [] => by simp [keqs]
  | x :: xs, y :: ys => by
    show (keq1 (kD x) (kD y) && keqs (xs.map kD) (ys.map kD)) = _
    rw [keq1_kD, keqs_kD xs ys]
    by_cases h : x = y <;> by_cases h2 : xs = ys <;> simp [h, h2]
abbrev kT (x : List Key) : D := .tup (x.map kD)
theorem keq_kT (a b : List Key) : keq (kT a) (kT b) = decide (a = b) := keqs_kD a b
theorem keq_kD (a b : Key) : keq (kD a) (kD b) = decide (a = b) := by
  rw [← keq1_kD]
  cases a <;> cases b <;> rfl
theorem isK1_ex : ∀ {y : D}, isK1 y = true → ∃ k, y = kD k
  | .int i, _ => ⟨.inl i, rfl⟩
  | .str s, _ => ⟨.inr (mkS s), by show D.str s = .str (mkS s).cps.toList; simp [mkS]⟩
theorem isK1s_ex : ∀ {ys : List D}, ys.all isK1 = true → ∃ k : List Key, ys = k.map kD
  | [], _ => ⟨[], rfl⟩
  | y :: ys, h => by
    rw [List.all_cons, Bool.and_eq_true] at h
    obtain ⟨k, rfl⟩ := isK1_ex h.1
    obtain ⟨ks, rfl⟩ := isK1s_ex h.2
    exact ⟨k :: ks, rfl⟩
theorem isKD_f {y : D} (h : isKD false y = true) : ∃ k, y = kD k := by
  cases y with
  | tup xs => simp [isKD] at h
  | _ => exact isK1_ex (by simpa [isKD] using h)
theorem isKD_t {y : D} (h : isKD true y = true) : ∃ k, y = kT k := by
  cases y with
  | tup xs =>
    obtain ⟨k, e⟩ := isK1s_ex (by simpa [isKD] using h)
    exact ⟨k, by rw [e]⟩
  | _ => simp [isKD] at h
theorem rep_kD {K : PySem.W.Frag} {F : Hp} {θ : List Addr} {k : Key} {v : V} (r : Rep K F θ (kD k) v) : v = kV k := by
  cases k with
  | inl i => exact rep_int r
  | inr x =>
    have := rep_str r
    rw [mkS_of] at this
    exact this
theorem reps_kD {K : PySem.W.Frag} {F : Hp} {θ : List Addr} : ∀ {k : List Key} {vs : List V}, Reps K F θ (k.map kD) vs → vs = k.map kV
  | [], vs, r => by unfold Reps at r; exact r
  | k :: ks, vs, r => by
    rw [List.map_cons] at r
    unfold Reps at r
    obtain ⟨v, t, rfl, h1, h2⟩ := r
    rw [rep_kD h1, reps_kD h2, List.map_cons]
theorem rep_kT {K : PySem.W.Frag} {F : Hp} {θ : List Addr} {k : List Key} {v : V} (r : Rep K F θ (kT k) v) : ∃ p, v = .ref p ∧ F p = some (.tup (k.map kV)) := by
  unfold Rep at r
  obtain ⟨p, vs, e, h1, h2⟩ := r
  rw [reps_kD h2] at h1
  exact ⟨p, e, h1⟩

/-! ### tables -/
def lookD (y : D) : List D → List D → Option D
  | k :: ks, v :: vs => if keq k y then some v else lookD y ks vs
  | _, _ => none
def hasD (y : D) (ks : List D) : Bool := ks.any fun k => keq k y
def setVs (y v : D) : List D → List D → List D
  | k :: ks, w :: vs => (if keq k y then v else w) :: setVs y v ks vs
  | _, _ => []
def putKs (y : D) (ks : List D) : List D := if hasD y ks then ks else ks ++ [y]
def putVs (y v : D) (ks vs : List D) : List D := if hasD y ks then setVs y v ks vs else vs ++ [v]
section
variable {κ : Type} [DecidableEq κ] {K : PySem.W.Frag} {F : Hp} {θ : List Addr} {f : κ → D} (hf : ∀ a b, keq (f a) (f b) = decide (a = b))
include hf
theorem look_val (k : κ) : ∀ (kk : List κ) (vs : List D) (ws : List V), Reps K F θ vs ws → kk.length = ws.length →
    (∀ v, lookD (f k) (kk.map f) vs = some v → ∃ w, valV (kk.zip ws) k = some w ∧ Rep K F θ v w) ∧ (lookD (f k) (kk.map f) vs = none → valV (kk.zip ws) k = none)
  | [], vs, ws, r, hl => ⟨fun v h => by simp [lookD] at h, fun _ => by simp [valV]⟩
  | c :: kk, vs, ws, r, hl => by
    cases ws with
    | nil => simp at hl
    | cons w ws =>
      cases vs with
      | nil => have := r.length; simp at this
      | cons v vs =>
        unfold Reps at r
        obtain ⟨w', ws', e, r1, r2⟩ := r
        injection e with e1 e2
        subst e1 e2
        obtain ⟨i1, i2⟩ := look_val k kk vs ws r2 (by simpa using hl)
        show (∀ u, (if keq (f c) (f k) then some v else lookD (f k) (kk.map f) vs) = some u → _) ∧ ((if keq (f c) (f k) then some v else lookD (f k) (kk.map f) vs) = none → _)
        rw [hf, List.zip_cons_cons]
        by_cases h : c = k
        · rw [decide_eq_true h, valV_pos (p := (c, w)) h]
          exact ⟨fun u e => ⟨w, rfl, by simpa using (by simpa using e : v = u) ▸ r1⟩, fun e => by simp at e⟩
        · rw [decide_eq_false h, valV_neg (p := (c, w)) h]
          exact ⟨fun u e => i1 u (by simpa using e), fun e => i2 (by simpa using e)⟩
theorem has_any (k : κ) : ∀ (kk : List κ) (ws : List V), kk.length = ws.length → ((kk.zip ws).any fun kv => decide (kv.1 = k)) = hasD (f k) (kk.map f)
  | [], ws, _ => rfl
  | c :: kk, [], hl => by simp at hl
  | c :: kk, w :: ws, hl => by
    have ih := has_any k kk ws (by simpa using hl)
    rw [List.zip_cons_cons, List.any_cons, ih]
    show _ = (keq (f c) (f k) || hasD (f k) (kk.map f))
    rw [hf]
theorem set_map (k : κ) {v : D} {w : V} (rv : Rep K F θ v w) : ∀ (kk : List κ) (vs : List D) (ws : List V), Reps K F θ vs ws → kk.length = ws.length →
    ∃ ws', (kk.zip ws).map (fun kv => if kv.1 = k then (kv.1, w) else kv) = kk.zip ws' ∧ kk.length = ws'.length ∧ Reps K F θ (setVs (f k) v (kk.map f) vs) ws'
  | [], vs, ws, r, hl => ⟨[], rfl, rfl, by rw [List.map_nil]; exact Reps.nil⟩
  | c :: kk, vs, [], r, hl => by simp at hl
  | c :: kk, [], w1 :: ws, r, hl => by have := r.length; simp at this
  | c :: kk, u :: vs, w1 :: ws, r, hl => by
    unfold Reps at r
    obtain ⟨w', ws', e, r1, r2⟩ := r
    injection e with e1 e2
    subst e1 e2
    obtain ⟨ws', h1, h2, h3⟩ := set_map k rv kk vs ws r2 (by simpa using hl)
    rw [List.zip_cons_cons, List.map_cons, h1, List.map_cons]
    show ∃ ws', _ ∧ _ ∧ Reps K F θ ((if keq (f c) (f k) then v else u) :: setVs (f k) v (kk.map f) vs) ws'
    rw [hf]
    by_cases h : c = k
    · rw [decide_eq_true h, if_pos rfl]
      exact ⟨w :: ws', by rw [List.zip_cons_cons]; simp [h], by simp [h2], Reps.cons rv h3⟩
    · rw [decide_eq_false h]
      exact ⟨w1 :: ws', by rw [List.zip_cons_cons]; simp [h], by simp [h2], Reps.cons (by simpa using r1) h3⟩
theorem put_map (k : κ) {v : D} {w : V} (rv : Rep K F θ v w) (kk : List κ) (vs : List D) (ws : List V) (r : Reps K F θ vs ws) (hl : kk.length = ws.length) :
    ∃ (kk' : List κ) (ws' : List V), putK (kk.zip ws) k w = kk'.zip ws' ∧ kk'.length = ws'.length ∧ putKs (f k) (kk.map f) = kk'.map f ∧ Reps K F θ (putVs (f k) v (kk.map f) vs) ws' := by
  unfold putK putKs putVs
  rw [has_any hf k kk ws hl]
  by_cases h : hasD (f k) (kk.map f) = true
  · obtain ⟨ws', h1, h2, h3⟩ := set_map hf k rv kk vs ws r hl
    rw [if_pos h, if_pos h, if_pos h]
    exact ⟨kk, ws', h1, h2, rfl, h3⟩
  · rw [if_neg h, if_neg h, if_neg h]
    refine ⟨kk ++ [k], ws ++ [w], by rw [List.zip_append hl]; rfl, by simp [hl], by simp, r.append (Reps.cons rv Reps.nil)⟩
end

/-! ### dicts that are read -/
def dctOf (μ : Mu) : D → Option (Bool × List D × List D)
  | .dct t ks vs => some (t, ks, vs)
  | .cell k => match μ[k]? with
    | some (.dct t ks vs) => some (t, ks, vs)
    | _ => none
  | _ => none
theorem dct_rd {K : PySem.W.Frag} {g : Wd} {μ : Mu} {H : Hp} {d : D} {v : V} {t : Bool} {ks vs : List D} (a : At K g μ H) (r : Rep K g.F g.th d v) (h : dctOf μ d = some (t, ks, vs)) :
    ∃ p ws, v = .ref p ∧ Reps K g.F g.th vs ws ∧ ks.length = ws.length ∧ ((∃ kk : List Key, (t = false ∧ ks = kk.map kD) ∧ Rd H p (.dK (kk.zip ws))) ∨ (∃ kk : List (List Key), (t = true ∧ ks = kk.map kT) ∧ Rd H p (.dT (kk.zip ws)))) := by
  cases d with
  | dct t' ks' vs' =>
    cases h
    unfold Rep at r
    obtain ⟨p, ws, e, rs, hl, q⟩ := r
    refine ⟨p, ws, e, rs, hl, ?_⟩
    rcases q with ⟨kk, q1, q2⟩ | ⟨kk, q1, q2⟩
    · exact .inl ⟨kk, q1, .inr (q2.imp fun o z => a.sub _ _ z)⟩
    · exact .inr ⟨kk, q1, .inr (q2.imp fun o z => a.sub _ _ z)⟩
  | cell k =>
    unfold dctOf at h
    cases e : μ[k]? with
    | none => simp [e] at h
    | some o =>
      cases o with
      | dct t' ks' vs' =>
        simp [e] at h
        obtain ⟨rfl, rfl, rfl⟩ := h
        obtain ⟨p, ev, hp, hF, ws, rs, hl, q⟩ := a.cellAt e (by simp) r
        exact ⟨p, ws, ev, rs, hl, q.imp (fun ⟨kk, a, b⟩ => ⟨kk, a, .inl b⟩) fun ⟨kk, a, b⟩ => ⟨kk, a, .inl b⟩⟩
      | _ => simp [e] at h
  | _ => cases h
theorem dct_get {K : PySem.W.Frag} {g : Wd} {μ : Mu} {H : Hp} {d y : D} {v b : V} {t : Bool} {ks vs : List D} (a : At K g μ H) (r : Rep K g.F g.th d v) (ry : Rep K g.F g.th y b) (h : dctOf μ d = some (t, ks, vs)) (hy : isKD t y = true) :
    ∃ p o, v = .ref p ∧ DGet H p b o ∧ (∀ u, lookD y ks vs = some u → ∃ w, o = some w ∧ Rep K g.F g.th u w) ∧ (lookD y ks vs = none → o = none) := by
  obtain ⟨p, ws, e, rs, hl, q⟩ := dct_rd a r h
  rcases q with ⟨kk, ⟨rfl, rfl⟩, q⟩ | ⟨kk, ⟨rfl, rfl⟩, q⟩
  · obtain ⟨k, rfl⟩ := isKD_f hy
    obtain rfl := rep_kD ry
    obtain ⟨l1, l2⟩ := look_val keq_kD k kk vs ws rs (by simpa using hl)
    exact ⟨p, _, e, .inl ⟨_, _, q, rfl, rfl⟩, l1, l2⟩
  · obtain ⟨k, rfl⟩ := isKD_t hy
    obtain ⟨b', rfl, hb⟩ := rep_kT ry
    obtain ⟨l1, l2⟩ := look_val keq_kT k kk vs ws rs (by simpa using hl)
    exact ⟨p, _, e, .inr ⟨_, _, _, q, rfl, a.sub _ _ hb, rfl⟩, l1, l2⟩
section
variable {X : Cx} {W : WX} {e a b : Expr} {A B : TD} {pos : Pos}
/-- d[y] -/
def dIxD : DOp := fun x y μ Q => ∃ t ks vs u, dctOf μ x = some (t, ks, vs) ∧ isKD t y = true ∧ lookD y ks vs = some u ∧ Q u μ
theorem we_ixD (hu : X.A.units + 1 < cLine) (ha : WX0 X W a A) (hb : WX0 X W b B) (hs : NoSl b := by exact fun _ _ => rfl) : WX0 X W (.Subscript a b pos) (dOp dIxD A B) := by
  refine PE.imp (pe_dget hu ha hb hs) (up_op (r := fun x y H Q => ∃ a v, x = .ref a ∧ DGet H a y (some v) ∧ Q v H) ?_)
  rintro g μ H x y v w Q' Q a0 rx ry ⟨t, ks, vs, u, h1, h2, h3, q⟩ k
  obtain ⟨p, o, rfl, hg, l1, l2⟩ := dct_get a0 rx ry h1 h2
  obtain ⟨z, rfl, rz⟩ := l1 u h3
  exact ⟨p, z, rfl, hg, k.here a0 rz q⟩
/-- y in d -/
def dInD (neg : Bool) : DOp := fun y x μ Q => ∃ t ks vs, dctOf μ x = some (t, ks, vs) ∧ isKD t y = true ∧ Q (.bl (if neg then !(lookD y ks vs).isSome else (lookD y ks vs).isSome)) μ
theorem dct_some {K : PySem.W.Frag} {F : Hp} {θ : List Addr} {o : Option V} {l : Option D} (h1 : ∀ u, l = some u → ∃ w, o = some w ∧ Rep K F θ u w) (h2 : l = none → o = none) : o.isSome = l.isSome := by
  cases l with
  | none => rw [h2 rfl]; rfl
  | some u => obtain ⟨w, e, _⟩ := h1 u rfl; rw [e]; rfl
theorem rep_blI {K : PySem.W.Frag} {F : Hp} {θ : List Addr} {b : Bool} : Rep K F θ (.bl b) (.bl b) := by unfold Rep; rfl
end
/-! ### a dict is changed -/
theorem zip_len {α β : Type} {a : List α} {b : List β} (h : a.length = b.length) : (a.zip b).length = a.length := by rw [List.length_zip]; omega
theorem dct_put {K : PySem.W.Frag} {g : Wd} {μ : Mu} {H : Hp} {k : Nat} {y u : D} {v b c : V} {t : Bool} {ks vs : List D} (a : At K g μ H) (hk : μ[k]? = some (.dct t ks vs)) (r : Rep K g.F g.th (.cell k) v) (ry : Rep K g.F g.th y b)
    (ru : Rep K g.F g.th u c) (hy : isKD t y = true) (hl : ks.length < sizeLine) :
    ∃ p H', v = .ref p ∧ DPut H p b c H' ∧ At K g (μ.set k (.dct t (putKs y ks) (putVs y u ks vs))) H' ∧ Ext g H g H' := by
  obtain ⟨p, ev, hp, hF, ws, rs, hl', q⟩ := a.cellAt hk (by simp) r
  rcases q with ⟨kk, ⟨rfl, rfl⟩, q⟩ | ⟨kk, ⟨rfl, rfl⟩, q⟩
  · obtain ⟨k1, rfl⟩ := isKD_f hy
    obtain rfl := rep_kD ry
    rw [List.length_map] at hl' hl
    obtain ⟨kk', ws', h1, h2, h3, h4⟩ := put_map keq_kD k1 ru kk vs ws rs hl'
    obtain ⟨a1, e1⟩ := a.setC (ho := .dK (kk'.zip ws')) hk (by simp) hp (o' := .dct false (putKs (kD k1) (kk.map kD)) (putVs (kD k1) u (kk.map kD) vs)) ⟨ws', h4, by rw [h3, List.length_map]; exact h2, .inl ⟨kk', ⟨rfl, h3⟩, upd_same⟩⟩
    exact ⟨p, _, ev, by rw [← h1]; exact DPut.k q (by rw [zip_len hl']; exact hl), a1, e1⟩
  · obtain ⟨k1, rfl⟩ := isKD_t hy
    obtain ⟨b', rfl, hb⟩ := rep_kT ry
    rw [List.length_map] at hl' hl
    obtain ⟨kk', ws', h1, h2, h3, h4⟩ := put_map (f := kT) keq_kT k1 ru kk vs ws rs hl'
    obtain ⟨a1, e1⟩ := a.setC (ho := .dT (kk'.zip ws')) hk (by simp) hp (o' := .dct true (putKs (kT k1) (kk.map kT)) (putVs (kT k1) u (kk.map kT) vs)) ⟨ws', h4, by rw [h3, List.length_map]; exact h2, .inr ⟨kk', ⟨rfl, h3⟩, upd_same⟩⟩
    exact ⟨p, _, ev, by rw [← h1]; exact DPut.t q (a.sub _ _ hb) (by rw [zip_len hl']; exact hl), a1, e1⟩
def dSetD : DSet := fun o y v μ Q => ∃ k t ks vs, o = .cell k ∧ μ[k]? = some (.dct t ks vs) ∧ isKD t y = true ∧ ks.length < sizeLine ∧ Q (μ.set k (.dct t (putKs y ks) (putVs y v ks vs)))
theorem sd_dct {X : Cx} (hu : X.A.units + 1 < cLine) : SetD X dSetD := by
  refine ⟨fun o y v H Q => ∃ a H', o = .ref a ∧ DPut H a y v H' ∧ Q H', ?_, ?_⟩
  · intro pins s σ H o i v ov iv u Q I ro ri rv h
    obtain ⟨a, H', rfl, hg, q⟩ := h
    obtain rfl : ov = Value.ref a := ro
    exact d_setItem hu I hg ri rv fun s4 I4 => ⟨H', I4, q⟩
  · rintro g μ H o i v a b c Q' Q a0 ro ri rv ⟨k, t, ks, vs, rfl, hk, hy, hl, q⟩ kq
    obtain ⟨p, H', rfl, hg, a1, e1⟩ := dct_put a0 hk ro ri rv hy hl
    exact ⟨p, H', rfl, hg, kq _ _ _ a1 e1 q⟩

/-! ### new dicts -/
def dNewD (t : Bool) : TD := fun _ μ Q _ => Q (.cell μ.length) (μ ++ [.dct t [] []])
theorem At.newD {K : PySem.W.Frag} {g : Wd} {μ : Mu} {H : Hp} (t : Bool) (a : At K g μ H) {p : Addr} (hp : H p = none) : ∃ g', g'.F = g.F ∧ At K g' (μ ++ [.dct t [] []]) (upd H p (if t then .dT [] else .dK [])) ∧ Ext g H g' (upd H p (if t then .dT [] else .dK [])) ∧ Rep K g'.F g'.th (.cell μ.length) (.ref p) := by
  have r : RepO K g.F (g.th ++ [p]) (upd H p (if t then .dT [] else .dK [])) p (.dct t [] []) := by
    refine ⟨[], Reps.nil, rfl, ?_⟩
    cases t with
    | false => exact .inl ⟨[], ⟨rfl, rfl⟩, upd_same⟩
    | true => exact .inr ⟨[], ⟨rfl, rfl⟩, upd_same⟩
  exact ⟨⟨g.F, g.th ++ [p]⟩, rfl, a.newC hp r⟩
section
variable {X : Cx} {W : WX} {pos : Pos}
theorem we_dnew (t : Bool) : WX0 X W (.Dict [] [] pos) (dNewD t) := by
  have k : ∀ σ H Q, up X.K W (dNewD t) σ H Q → ∀ p, H p = none → Q (.ref p) (upd H p (if t then .dT [] else .dK [])) := by
    rintro σ H Q ⟨g, μ, δ, Q', E', a0, sl, h, k, kx⟩ p hp
    obtain ⟨g', _, a1, e1, r1⟩ := a0.newD t hp
    exact k _ _ _ _ _ a1 e1 r1 h
  cases t with
  | false => exact PE.imp pe_dnewK k
  | true => exact PE.imp pe_dnewT k
end
/-! ### displays of dicts -/
def dPairs : List (TD × TD) → DS → Mu → (List (D × D) → Mu → Prop) → DE → Prop
  | [], _, μ, Q, _ => Q [] μ
  | (A, B) :: r, δ, μ, Q, E => A δ μ (fun x μ1 => B δ μ1 (fun y μ2 => dPairs r δ μ2 (fun ps μ3 => Q ((x, y) :: ps) μ3) E) E) E
def putAll : List (D × D) → List D × List D → List D × List D
  | [], kv => kv
  | p :: ps, kv => putAll ps (putKs p.1 kv.1, putVs p.1 p.2 kv.1 kv.2)
def dDisp (t : Bool) (ds : List (TD × TD)) : TD := fun δ μ Q E => dPairs ds δ (μ ++ [.dct t [] []]) (fun ps μ2 => μ2[μ.length]? = some (.dct t [] []) ∧ (∀ p ∈ ps, isKD t p.1 = true) ∧ ps.length ≤ 15 ∧
  Q (.cell μ.length) (μ2.set μ.length (.dct t (putAll ps ([], [])).1 (putAll ps ([], [])).2))) E
def Rp2 (K : PySem.W.Frag) (F : Hp) (θ : List Addr) : List (D × D) → List (V × V) → Prop
  | [], vs => vs = []
  | d :: ds, vs => ∃ v r, vs = v :: r ∧ Rep K F θ d.1 v.1 ∧ Rep K F θ d.2 v.2 ∧ Rp2 K F θ ds r
theorem Rp2.ext {K : PySem.W.Frag} {g g' : Wd} {H H' : Hp} (e : Ext g H g' H') : ∀ {ds : List (D × D)} {vs : List (V × V)}, Rp2 K g.F g.th ds vs → Rp2 K g'.F g'.th ds vs
  | [], _, h => h
  | _ :: _, _, ⟨v, r, e1, h1, h2, h3⟩ => ⟨v, r, e1, h1.ext e, h2.ext e, Rp2.ext e h3⟩
theorem up_pairs {K : PySem.W.Frag} {W : WX} : ∀ {ds : List (TD × TD)} {σ : St} {H : Hp} {Q : List (V × V) → Hp → Prop} (g : Wd) (μ : Mu) (δ : DS) (Q' : List (D × D) → Mu → Prop) (E' : DE), At K g μ H → Sl K g σ δ → dPairs ds δ μ Q' E' →
    (∀ g' H' μ' ps vs, At K g' μ' H' → Ext g H g' H' → Rp2 K g'.F g'.th ps vs → Q' ps μ' → Q vs H') →
    (∀ g' H' μ' C δ', At K g' μ' H' → Ext g H g' H' → Sl K g' σ δ' → E' C δ' μ' → W C none σ H') → tPairs (ds.map fun p => (up K W p.1, up K W p.2)) σ H Q
  | [], σ, H, Q, g, μ, δ, Q', E', a0, sl, h, k, kx => k g H μ [] [] a0 (Ext.refl _ _) rfl h
  | (A, B) :: r, σ, H, Q, g, μ, δ, Q', E', a0, sl, h, k, kx => by
    show up K W A σ H fun x H1 => up K W B σ H1 fun y H2 => tPairs (r.map fun p => (up K W p.1, up K W p.2)) σ H2 fun ps H3 => Q ((x, y) :: ps) H3
    refine ⟨g, μ, δ, _, E', a0, sl, h, fun g1 H1 μ1 x v a1 e1 r1 q1 => ?_, kx⟩
    refine ⟨g1, μ1, δ, _, E', a1, sl.ext e1, q1, fun g2 H2 μ2 y w a2 e2 r2 q2 => ?_, fun g2 H2 μ2 C δ2 a2 e2 s2 q2 => kx g2 H2 μ2 C δ2 a2 (e1.trans e2) s2 q2⟩
    refine up_pairs g2 μ2 δ _ E' a2 (sl.ext (e1.trans e2)) q2 (fun g3 H3 μ3 ps vs a3 e3 r3 q3 => ?_) fun g3 H3 μ3 C δ3 a3 e3 s3 q3 => kx g3 H3 μ3 C δ3 a3 (e1.trans (e2.trans e3)) s3 q3
    exact k g3 H3 μ3 ((x, y) :: ps) ((v, w) :: vs) a3 (e1.trans (e2.trans e3)) ⟨(v, w), vs, rfl, r1.ext (e2.trans e3), r2.ext e3, r3⟩ q3
section
variable {X : Cx} {pins : List (Addr × Obj)} {σ : St} {A : Around} {E : Value → Shared → Prop}
end
theorem wps_nil {X : Cx} {W : WX} {pos : Pos} : PPs X pos [] [] (([] : List (TD × TD)).map fun p => (up X.K W p.1, up X.K W p.2)) := pps_nil
theorem wps_cons {X : Cx} {W : WX} {pos : Pos} {k v : Expr} {ks : List (Option Expr)} {vs : List Expr} {A B : TD} {ds : List (TD × TD)} (hk : WX0 X W k A) (hv : WX0 X W v B) (hr : PPs X pos ks vs (ds.map fun p => (up X.K W p.1, up X.K W p.2))) :
    PPs X pos (some k :: ks) (v :: vs) (((A, B) :: ds).map fun p => (up X.K W p.1, up X.K W p.2)) := pps_cons hk hv hr

/-! ### len(d) -/
def dLenD : DUn := fun x μ Q => ∃ t ks vs, dctOf μ x = some (t, ks, vs) ∧ Q (.int ks.length) μ
/-! ### steps -/
section
variable {μ : Mu} {Q : DQ} {k : Nat} {t : Bool} {ks vs : List D} {x y u : D}
theorem st_ixD (h1 : dctOf μ x = some (t, ks, vs)) (h2 : isKD t y = true) (h3 : lookD y ks vs = some u) (q : Q u μ) : dIxD x y μ Q := ⟨t, ks, vs, u, h1, h2, h3, q⟩
theorem st_inD (h1 : dctOf μ x = some (t, ks, vs)) (h2 : isKD t y = true) (q : Q (.bl (lookD y ks vs).isSome) μ) : dInD false y x μ Q := ⟨t, ks, vs, h1, h2, q⟩
theorem st_ninD (h1 : dctOf μ x = some (t, ks, vs)) (h2 : isKD t y = true) (q : Q (.bl (!(lookD y ks vs).isSome)) μ) : dInD true y x μ Q := ⟨t, ks, vs, h1, h2, q⟩
theorem st_setD {K : Mu → Prop} (h1 : μ[k]? = some (.dct t ks vs)) (h2 : isKD t y = true) (h3 : ks.length < sizeLine) (q : K (μ.set k (.dct t (putKs y ks) (putVs y u ks vs)))) : dSetD (.cell k) y u μ K := ⟨k, t, ks, vs, rfl, h1, h2, h3, q⟩
theorem st_newD {δ : DS} {E : DE} (q : Q (.cell μ.length) (μ ++ [.dct t [] []])) : dNewD t δ μ Q E := q
theorem st_disp {δ : DS} {E : DE} {ds : List (TD × TD)} (h : dPairs ds δ (μ ++ [.dct t [] []]) (fun ps μ2 => μ2[μ.length]? = some (.dct t [] []) ∧ (∀ p ∈ ps, isKD t p.1 = true) ∧ ps.length ≤ 15 ∧
  Q (.cell μ.length) (μ2.set μ.length (.dct t (putAll ps ([], [])).1 (putAll ps ([], [])).2))) E) : dDisp t ds δ μ Q E := h
theorem st_pairs0 {δ : DS} {E : DE} {QP : List (D × D) → Mu → Prop} (h : QP [] μ) : dPairs [] δ μ QP E := h
theorem st_pairs1 {δ : DS} {E : DE} {QP : List (D × D) → Mu → Prop} {A B : TD} {r : List (TD × TD)} (h : A δ μ (fun x μ1 => B δ μ1 (fun y μ2 => dPairs r δ μ2 (fun ps μ3 => QP ((x, y) :: ps) μ3) E) E) E) : dPairs ((A, B) :: r) δ μ QP E := h
theorem st_lenD (h1 : dctOf μ x = some (t, ks, vs)) (q : Q (.int ks.length) μ) : dLenD x μ Q := ⟨t, ks, vs, h1, q⟩
end
end SW

end

section
set_option Elab.async false
set_option linter.all false
set_option maxRecDepth 100000
set_option maxHeartbeats 4000000
namespace SW
open PySem L2 PySem.Spec PyProof.Rows
/-! ### a tuple taken once, or not at all -/
section
variable {α : Type} {M : Model} {A : Around} {E : Value → Shared → Prop} {s : Shared} {Q : α → Shared → Prop} {a b : Sem α} {c : Bool}
end
section
variable {l : Addr} {items : Array Value} {n : Nat} {dd : Option Addr} {sl : Array (Option Value)} {x : Int} {u : Tok}
abbrev tupO (items : Array Value) (n : Nat) (dd : Option Addr) (sl : Array (Option Value)) : Obj := { cls := .type "tuple", dict := dd, data := .seq items n, slots := sl }
end
section
variable {X : Cx} {pins : List (Addr × Obj)} {σ : L2.St} {H : Hp} {s : Shared}
/-- what stands there, and how the product is asked of it -/
theorem taken {l : Addr} {xs : List V} {k : Int} {t : Tok} {Q : Value → Shared → Prop} {E : Value → Shared → Prop} (I : Inv X pins σ H s) (hT : SqT X.K H l xs)
    (q : ∀ (its : Array Value) n dd sl, Vals xs its.toList → s.heap.get? l = some (tupO its n dd sl) → wpAny (model X.prog X.w) X.A (call (.builtin "tuple.__mul__") [.ref l, .int k t]) Q E s) : wpAny (model X.prog X.w) X.A (binaryOp .Mult (.ref l) (.int k t)) Q E s := by
  obtain ⟨its, r, ⟨o, ho, hc, n, hd⟩, _⟩ := I.tuple hT
  obtain ⟨_, dd, _, sl⟩ := o
  obtain rfl : _ = _ := hc
  obtain rfl : _ = _ := hd
  exact wpAny_binaryOp_repeat_ref (T := "tuple") (U := "int") (by decide) ⟨_, ho, rfl⟩ (fun _ => typeIs_int _ k t) noFill_tuple_mul F.fills_int_mul F.slot_int_rmul repeat_tuple F.slot_int_index.lookup
    (call_meets F.slot_int_rmul (typeIs_int s k t) F.entry_int_rmul (F.args_int_rmul_2 _ _) (int_rmul_tuple k t l its.toArray n dd sl) ⟨ho, rfl, ⟨_, ho, rfl⟩, q its.toArray n dd sl r ho⟩)
end
def dMulT : DOp := fun x y μ Q => ∃ xs k, x = .tup xs ∧ y = .int k ∧ xs ≠ [] ∧ -1000 ≤ k ∧ k ≤ 1000 ∧ xs.length ≤ 1000 ∧ Q (.tup (List.replicate k.toNat xs).flatten) μ
theorem st_mulT {x : D} {n : Nat} {μ : Mu} {Q : DQ} (h : n ≤ 1000) (q : Q (.tup (List.replicate n x)) μ) : dMulT (.tup [x]) (.int n) μ Q :=
  ⟨[x], n, rfl, rfl, by simp, by omega, by omega, by simp, by
    have e : (List.replicate (n : Int).toNat [x]).flatten = List.replicate n x := by
      rw [Int.toNat_natCast]
      exact List.flatten_replicate_singleton
    rw [e]
    exact q⟩
theorem st_tupOfL {xs : List D} {μ : Mu} {Q : DQ} (q : Q (.tup xs) μ) : dTupOf (.lst xs) μ Q := ⟨xs, rfl, q⟩
theorem noCs_chars (l : List Nat) : noCs (chars l) = true := noCs_map _ (fun _ => rfl) _
theorem st_frzDct {k : Nat} {tt : Bool} {ks vs : List D} {μ : Mu} {Q : DQ} (hk : μ[k]? = some (.dct tt ks vs)) (q : Q (.dct tt ks vs) (μ.set k .dead)) :
    ∃ k', D.cell k = .cell k' ∧ ((∃ xs, μ[k']? = some (.lst xs) ∧ Q (.lst xs) (μ.set k' .dead)) ∨ (∃ tt ks vs, μ[k']? = some (.dct tt ks vs) ∧ Q (.dct tt ks vs) (μ.set k' .dead))) := ⟨k, rfl, .inr ⟨tt, ks, vs, hk, q⟩⟩
theorem get_c1 {X Y : MO} {ν : Mu} : (X :: (ν ++ [Y]))[ν.length + 1]? = some Y := by
  rw [List.getElem?_cons_succ, List.getElem?_append_right (Nat.le_refl _), Nat.sub_self]
  rfl
theorem st_lenScr {xs : List D} {μ : Mu} {Q : DQ} (q : Q (.int xs.length) μ) : dLen (.scr xs) μ Q := ⟨xs, rfl, q⟩
theorem le_units {n : Nat} (h : n + 64 < cLine) : n + 1 < cLine := by omega
end SW

end

section
set_option Elab.async false
set_option linter.all false
set_option maxRecDepth 100000
namespace SW
open PySem L2
theorem st_addCO {o : List D → Mu → DQ → Prop} {k : Nat} {xs ys : List D} {μ : Mu} {Q : DQ} (hk : μ[k]? = some (.lst xs)) (h1 : xs.length + ys.length ≤ sizeLine) (h : o (xs ++ ys) μ Q) : dAdd o (.cell k) (.lst ys) μ Q :=
  ⟨xs, ys, by show (match μ[k]? with | some (.lst xs) => some xs | _ => none) = _; rw [hk], rfl, h1, h⟩
def thingOk (d : D) : Prop := kindOk d ∧ okD 59 d ∧ noC d = true
def listOk (d : D) : Prop := kindOk d ∧ noC d = true ∧ ∀ xs, d = .lst xs → xs.length ≤ 100000 ∧ ∀ x ∈ xs, thingOk x
theorem thing_row {m : Nat} {r : List Nat} (h : isRow r = true) (hl : r.length ≤ 1000) : thingOk (.str r) := ⟨kind_row h (by omega), okD_str (row_ok h), rfl⟩
theorem rows_listOk {rows : List (List Nat)} {m : Nat} (h : Rows rows m) (hl : rows.length ≤ 1000) (hm : m ≤ 1000) : listOk (.lst (rows.map .str)) := ⟨⟨⟨_, rfl⟩, fun s e => by cases e⟩, by unfold noC; exact noCs_strs, fun xs e => by
  cases e
  refine ⟨by rw [List.length_map]; omega, fun x hx => ?_⟩
  obtain ⟨r, hr, rfl⟩ := List.mem_map.mp hx
  exact thing_row (m := m) (h r hr).1 (by have := (h r hr).2; omega)⟩
theorem strs_inj : ∀ {a b : List (List Nat)}, a.map D.str = b.map D.str → a = b
  | [], [], _ => rfl
  | [], _ :: _, h => by cases h
  | _ :: _, [], h => by cases h
  | x :: a, y :: b, h => by
    rw [List.map_cons, List.map_cons] at h
    injection h with h1 h2
    injection h1 with h1
    rw [h1, strs_inj h2]
theorem kit_list {d : D} {t : String} (h : tyN [] d = some t) : kitB t "list" = some (match d with | .lst _ => true | _ => false) := by
  cases d with
  | cell k => unfold tyN at h; simp at h
  | scr xs => cases h
  | val v => cases h
  | exc v => cases h
  | lst s => cases h; show kitB "list" "list" = some true; decide +kernel
  | str s => cases h; show kitB _ "list" = some false; decide +kernel
  | non => cases h; show kitB _ "list" = some false; decide +kernel
  | bl b => cases h; show kitB _ "list" = some false; decide +kernel
  | int b => cases h; show kitB _ "list" = some false; decide +kernel
  | tup b => cases h; show kitB _ "list" = some false; decide +kernel
  | dct a b c => cases h; show kitB _ "list" = some false; decide +kernel
  | dcn a b c => cases h; show kitB _ "list" = some false; decide +kernel
theorem drop_getG {α : Type} {a : List α} {i : Nat} {x : α} (h : a[i]? = some x) : a.drop i = x :: a.drop (i + 1) := by
  obtain ⟨hi, rfl⟩ := List.getElem?_eq_some_iff.mp h
  exact List.drop_eq_getElem_cons hi
end SW

end

section
set_option Elab.async false
set_option linter.all false
set_option maxRecDepth 100000
namespace SW
open PySem L2 PySem.Spec PyProof.Rows

/-! ### the keys of a dict that no one changes -/
def dKeysIt (A : TD) : TDI := fun δ μ Q E => A δ μ (fun x μ1 => ∃ t ks vs, x = .dct t ks vs ∧ Q ks μ1) E
theorem st_keysIt {A : TD} {δ : DS} {μ : Mu} {QA : List D → Mu → Prop} {E : DE} (h : A δ μ (fun x μ1 => ∃ t ks vs, x = .dct t ks vs ∧ QA ks μ1) E) : dKeysIt A δ μ QA E := h
theorem st_isDct {t : Bool} {ks vs : List D} {P : Bool → List D → List D → Prop} (h : P t ks vs) : ∃ t' ks' vs', D.dct t ks vs = .dct t' ks' vs' ∧ P t' ks' vs' := ⟨_, _, _, rfl, h⟩
/-! ### a variable's dict is changed no more -/
def dFrzV (i : Nat) (R : TDS) : TDS := fun Z δ μ => ∃ k t ks vs, δ[i]? = some (some (.cell k)) ∧ μ[k]? = some (.dct t ks vs) ∧ R Z (δ.set i (some (.dct t ks vs))) (μ.set k .dead)
theorem st_frzV {i k : Nat} {t : Bool} {ks vs : List D} {R : TDS} {Z : DEnds} {δ δ' : DS} {μ : Mu} (hi : δ[i]? = some (some (.cell k))) (hk : μ[k]? = some (.dct t ks vs)) (e : δ.set i (some (.dct t ks vs)) = δ') (h : R Z δ' (μ.set k .dead)) : dFrzV i R Z δ μ := by
  subst e
  exact ⟨k, t, ks, vs, hi, hk, h⟩
/-! ### d.get(k, x) -/
def dGet2 (A B C : TD) : TD := fun δ μ Q E => A δ μ (fun x μ1 => (∃ t ks vs, dctOf μ1 x = some (t, ks, vs)) ∧ B δ μ1 (fun y μ2 => C δ μ2 (fun z μ3 => ∃ t ks vs, dctOf μ3 x = some (t, ks, vs) ∧ isKD t y = true ∧ Q ((lookD y ks vs).getD z) μ3) E) E) E
theorem st_get2 {A B C : TD} {δ : DS} {μ : Mu} {Q : DQ} {E : DE} (h : A δ μ (fun x μ1 => (∃ t ks vs, dctOf μ1 x = some (t, ks, vs)) ∧ B δ μ1 (fun y μ2 => C δ μ2 (fun z μ3 => ∃ t ks vs, dctOf μ3 x = some (t, ks, vs) ∧ isKD t y = true ∧ Q ((lookD y ks vs).getD z) μ3) E) E) E) : dGet2 A B C δ μ Q E := h
theorem st_getD1 {x : D} {t : Bool} {ks vs : List D} {μ : Mu} {P : Prop} (h : dctOf μ x = some (t, ks, vs)) (q : P) : (∃ t ks vs, dctOf μ x = some (t, ks, vs)) ∧ P := ⟨⟨t, ks, vs, h⟩, q⟩
theorem st_getD2 {x y : D} {t : Bool} {ks vs : List D} {μ : Mu} {P : Bool → List D → List D → Prop} (h1 : dctOf μ x = some (t, ks, vs)) (h2 : isKD t y = true) (q : P t ks vs) : ∃ t ks vs, dctOf μ x = some (t, ks, vs) ∧ isKD t y = true ∧ P t ks vs := ⟨t, ks, vs, h1, h2, q⟩
/-! ### dict(pairs) -/
theorem st_frzD2 {k : Nat} {tt : Bool} {ks vs : List D} {μ : Mu} {R : Nat → Prop} {P : Nat → Bool → List D → List D → Prop} (hk : μ[k]? = some (.dct tt ks vs)) (h : P k tt ks vs) :
    ∃ k', D.cell k = .cell k' ∧ (R k' ∨ (∃ tt ks vs, μ[k']? = some (.dct tt ks vs) ∧ P k' tt ks vs)) := ⟨k, rfl, .inr ⟨tt, ks, vs, hk, h⟩⟩
theorem get_c2 {X Y Z : MO} {ν : Mu} : (X :: Z :: (ν ++ [Y]))[ν.length + 1 + 1]? = some Y := by
  rw [List.getElem?_cons_succ, List.getElem?_cons_succ, List.getElem?_append_right (Nat.le_refl _), Nat.sub_self]
  rfl
theorem dct_c {μ : Mu} {k : Nat} {t : Bool} {ks vs : List D} (h : μ[k]? = some (.dct t ks vs)) : dctOf μ (.cell k) = some (t, ks, vs) := by
  show (match μ[k]? with | some (.dct t ks vs) => some (t, ks, vs) | _ => none) = _
  rw [h]
end SW

end

section
set_option Elab.async false
set_option linter.all false
set_option maxRecDepth 100000
namespace SW
open PySem L2
/-! ### a call that tells cells, however many -/
def callA (S : DSp) (ds : List D) (μ : Mu) (Q : DQ) (E : Value → Mu → Prop) : Prop := noCs ds = true ∧ S ds [] (fun d μ2 => Q (ren (rn [] μ.length) d) (μ ++ μ2.map (renO (rn [] μ.length)))) (fun C μ2 => μ2 = [] ∧ E C μ)
theorem callA_ok {S : DSp} : FormOk callA S := by
  rintro ds μ Q E ⟨h1, h2⟩
  refine ⟨[], ds, [], (rens_noC _ _ h1).symm, sub_nil, _, _, h2, fun d μ2 q => q, ?_⟩
  rintro C μ2 ⟨rfl, q⟩
  simpa [putB] using q
theorem st_callA {F : DSp} {ds : List D} {μ : Mu} {Q : DQ} {EF : Value → Mu → Prop} (h1 : noCs ds = true) (h : F ds [] (fun d μ2 => Q (ren (rn [] μ.length) d) (μ ++ μ2.map (renO (rn [] μ.length)))) (fun C μ2 => μ2 = [] ∧ EF C μ)) : callA F ds μ Q EF := ⟨h1, h⟩
theorem rn0 (n j : Nat) : rn [] n j = n + j := by unfold rn; simp
theorem ren_pair (n k : Nat) (i : Int) : ren (rn [] n) (.tup [.cell k, .int i]) = .tup [.cell (n + k), .int i] := by
  show D.tup [.cell (rn [] n k), .int i] = _
  rw [rn0]
theorem renO_nats (n : Nat) (l : List Nat) : renO (rn [] n) (.lst (natsD l)) = .lst (natsD l) := renO_noC _ _ (natsD_noC l)
theorem st_rtA {n : Nat} {Q' : DQ} {d : D} {μ : Mu} (h : Q' d μ) : rtD n Q' d μ := .inr (.inl h)
/-! ### a piece found -/
def atP (s t : List Nat) (k : Nat) : Prop := k + t.length ≤ s.length ∧ (s.drop k).take t.length = t
instance (s t : List Nat) (k : Nat) : Decidable (atP s t k) := by unfold atP; exact inferInstance
def fbeg (s t : List Nat) (n : Nat) : Option Nat := (List.range (s.length + 1)).find? fun v => decide (n ≤ v) && decide (atP s t v)
theorem fbeg_some {s t : List Nat} {n k : Nat} (h1 : n ≤ k) (h2 : atP s t k) (h3 : ∀ v, n ≤ v → v < k → ¬ atP s t v) : fbeg s t n = some k := by
  unfold fbeg
  have hk : k < s.length + 1 := by have := h2.1; omega
  rw [List.find?_eq_some_iff_getElem]
  refine ⟨by simp [h1, h2], k, by simpa using hk, by simp, fun j hj => ?_⟩
  have hj2 : ¬ (n ≤ j ∧ atP s t j) := fun z => h3 j z.1 hj z.2
  simp only [List.getElem_range]
  by_cases e : n ≤ j
  · have : ¬ atP s t j := fun z => hj2 ⟨e, z⟩
    simp [this]
  · simp [e]
theorem fbeg_none {s t : List Nat} {n : Nat} (h : ∀ v, n ≤ v → ¬ atP s t v) : fbeg s t n = none := by
  unfold fbeg
  rw [List.find?_eq_none]
  intro v _
  by_cases e : n ≤ v
  · have := h v e
    simp [this]
  · simp [e]
theorem find_piece (s t : List Nat) (n : Nat) : (Txt.find3 (mkS s) (mkS t) (n : Int) = -1 ∧ fbeg s t n = none) ∨ ∃ k : Nat, Txt.find3 (mkS s) (mkS t) (n : Int) = (k : Int) ∧ fbeg s t n = some k ∧ n ≤ k ∧ atP s t k := by
  have e0 : PySem.fromIndex (mkS s).length (n : Int) = n := by
    unfold PySem.fromIndex
    have : ¬ ((n : Int) < 0) := by omega
    rw [if_neg this]
    omega
  have at_ : ∀ i, PySem.StrLaws.At (mkS s) (mkS t) (mkS s).length i ↔ atP s t i := fun i => by
    have : PySem.StrLaws.At (mkS s) (mkS t) (mkS s).length i ↔ i + (mkS t).length ≤ (mkS s).length ∧ PySem.Builtin.Str.subAt (mkS s) (mkS t) i = true := Iff.rfl
    rw [this, PySem.StrLaws.subAt_eq, mkS_len, mkS_len]
    unfold atP
    have e1 : (mkS s).cps.toList = s := by simp [mkS]
    have e2 : (mkS t).cps.toList = t := by simp [mkS]
    rw [e1, e2]
    simp
  unfold Txt.find3
  rw [e0]
  rcases PySem.StrLaws.occ_head_from (mkS s) (mkS t) n 1 (Nat.le_refl 1) with ⟨h0, hn⟩ | ⟨k, r, h0, hlo, hk, hn⟩
  · rw [h0]
    exact .inl ⟨rfl, fbeg_none fun v hv z => hn v hv ((at_ v).mpr z)⟩
  · rw [h0]
    have hk2 := (at_ k).mp hk
    exact .inr ⟨k, rfl, fbeg_some hlo hk2 fun v hv hvk z => hn v hv hvk ((at_ v).mpr z), hlo, hk2⟩
/-- where the pieces begin, as far as they stand, and where the last one ends -/
def begF (s : List Nat) : List (List Nat) → Nat → List Nat × Nat
  | [], n => ([], n)
  | t :: ts, n => match fbeg s t n with
    | none => ([], n)
    | some k => (k :: (begF s ts (k + t.length)).1, (begF s ts (k + t.length)).2)
theorem begF_none {s t : List Nat} {ts : List (List Nat)} {n : Nat} (h : fbeg s t n = none) : begF s (t :: ts) n = ([], n) := by show (match fbeg s t n with | none => _ | some k => _) = _; rw [h]
theorem begF_some {s t : List Nat} {ts : List (List Nat)} {n k : Nat} (h : fbeg s t n = some k) : begF s (t :: ts) n = (k :: (begF s ts (k + t.length)).1, (begF s ts (k + t.length)).2) := by show (match fbeg s t n with | none => _ | some k => _) = _; rw [h]
theorem fbeg_at {s t : List Nat} {n k : Nat} (h : fbeg s t n = some k) : n ≤ k ∧ atP s t k := by
  unfold fbeg at h
  have := List.find?_some h
  simpa using this
theorem begF_le {s : List Nat} : ∀ {ts : List (List Nat)} {n : Nat}, n ≤ s.length → n ≤ (begF s ts n).2 ∧ (begF s ts n).2 ≤ s.length ∧ (begF s ts n).1.length ≤ ts.length ∧ ∀ k ∈ (begF s ts n).1, k ≤ s.length
  | [], n, h => ⟨Nat.le_refl _, h, Nat.zero_le _, fun _ h => nomatch h⟩
  | t :: ts, n, h => by
    cases e : fbeg s t n with
    | none =>
      rw [begF_none e]
      exact ⟨Nat.le_refl _, h, Nat.zero_le _, fun _ h => nomatch h⟩
    | some k =>
      obtain ⟨h1, h2⟩ := fbeg_at e
      have h3 := h2.1
      obtain ⟨a, b, c, d⟩ := begF_le (ts := ts) (n := k + t.length) h3
      rw [begF_some e]
      exact ⟨by show n ≤ (begF s ts (k + t.length)).2; omega, b, by simp; exact c, fun x hx => by
        rcases List.mem_cons.mp hx with rfl | hx
        · omega
        · exact d x hx⟩
/-! ### the end of a text -/
theorem suf_drop {s t : List Nat} : t <:+ s ↔ t.length ≤ s.length ∧ s.drop (s.length - t.length) = t := by
  constructor
  · rintro ⟨u, rfl⟩
    rw [List.length_append]
    refine ⟨by omega, ?_⟩
    rw [show u.length + t.length - t.length = u.length by omega, List.drop_left]
  · rintro ⟨_, h⟩
    exact ⟨s.take (s.length - t.length), by conv => lhs; rhs; rw [← h]
                                            exact List.take_append_drop _ _⟩
theorem ends_eq (s t : List Nat) : Txt.endswith (mkS s) (mkS t) = decide (t <:+ s) := by
  show (decide (0 + (mkS t).length ≤ (mkS s).length) && PySem.Builtin.Str.subAt (mkS s) (mkS t) ((mkS s).length - (mkS t).length)) = _
  rw [PySem.StrLaws.subAt_eq, mkS_len, mkS_len]
  have e1 : (mkS s).cps.toList = s := by simp [mkS]
  have e2 : (mkS t).cps.toList = t := by simp [mkS]
  rw [e1, e2, Bool.eq_iff_iff, Bool.and_eq_true, decide_eq_true_iff, decide_eq_true_iff, suf_drop]
  constructor
  · rintro ⟨h1, h2⟩
    refine ⟨by omega, ?_⟩
    have h2 := eq_of_beq h2
    rw [List.take_of_length_le (by rw [List.length_drop]; omega)] at h2
    exact h2
  · rintro ⟨h1, h2⟩
    refine ⟨by omega, ?_⟩
    rw [List.take_of_length_le (by rw [List.length_drop]; omega), h2]
    exact beq_self_eq_true _
def dEnds : DMt := fun x ys μ Q => ∃ s t, x = .str s ∧ ys = [.str t] ∧ Q (.bl (decide (t <:+ s))) μ
theorem md_endswith {X : Cx} : MtD X "str.endswith" dEnds := by
  refine ⟨_, mt_endswith, ?_⟩
  rintro g μ H x a xs as Q' Q a0 rx rs ⟨s, t, rfl, rfl, q⟩ kq
  obtain rfl := rep_str rx
  obtain ⟨v, rfl, r1⟩ := reps1 rs
  obtain rfl := rep_str r1
  refine ⟨_, _, rfl, rfl, ?_⟩
  rw [ends_eq]
  exact kq.here a0 rep_blI q
theorem st_ends {s t : List Nat} {μ : Mu} {Q : DQ} (q : Q (.bl (decide (t <:+ s))) μ) : dEnds (.str s) [.str t] μ Q := ⟨s, t, rfl, rfl, q⟩
end SW

end

section
set_option Elab.async false
set_option linter.all false
set_option maxRecDepth 100000
namespace SW
open PySem L2
/-! ### a text cut at a sign -/
/-! ### x or y, of texts -/
def dOrT (A B : TD) : TD := fun δ μ Q E => A δ μ (fun x μ1 => ∃ s, x = .str s ∧ s.length ≤ sizeLine ∧ (s ≠ [] → Q x μ1) ∧ (s = [] → B δ μ1 Q E)) E
section
variable {X : Cx} {W : WX} {a b : Expr} {A B : TD} {pos : Pos}
end
theorem st_orT {A B : TD} {δ : DS} {μ : Mu} {Q : DQ} {E : DE} (q : A δ μ (fun x μ1 => ∃ s, x = .str s ∧ s.length ≤ sizeLine ∧ (s ≠ [] → Q x μ1) ∧ (s = [] → B δ μ1 Q E)) E) : dOrT A B δ μ Q E := q
section
variable {X : Cx} {W : WX} {a b c : Expr} {A B C : TD} {pos : Pos}
end
end SW

end

section
set_option Elab.async false
set_option linter.all false
set_option maxRecDepth 100000
namespace SW
open PySem PySem.Spec L2
/-! ### == of a list of lists that change -/
def dr2 (μ : Mu) : D → D
  | .cell k => match μ[k]? with
    | some (.lst xs) => .lst (xs.map (dr μ))
    | _ => .cell k
  | x => x
/-! ### enumerate over a list of lists that change -/
def cellsD : List D → Bool
  | [] => true
  | .cell _ :: xs => cellsD xs
  | _ :: _ => false
def dEnumC (A : TDA) : TDIC := fun δ μ Q E => A δ μ (fun xs μ1 => ∃ k ds, xs = [.cell k] ∧ μ1[k]? = some (.lst ds) ∧ cellsD ds = true ∧ Q (pairI ds) (fun μ => μ[k]? = some (.lst ds)) μ1) E
theorem st_enumC {A : TDA} {δ : DS} {μ : Mu} {Q : List D → (Mu → Prop) → Mu → Prop} {E : DE} (h : A δ μ (fun xs μ1 => ∃ k ds, xs = [.cell k] ∧ μ1[k]? = some (.lst ds) ∧ cellsD ds = true ∧ Q (pairI ds) (fun μ => μ[k]? = some (.lst ds)) μ1) E) : dEnumC A δ μ Q E := h
theorem st_enumC' {k : Nat} {xs : List D} {μ : Mu} {P : Nat → List D → Prop} (hk : μ[k]? = some (.lst xs)) (hc : cellsD xs = true) (h : P k xs) : ∃ k' ds, [D.cell k] = [.cell k'] ∧ μ[k']? = some (.lst ds) ∧ cellsD ds = true ∧ P k' ds := ⟨_, _, rfl, hk, hc, h⟩
end SW

end

section
set_option Elab.async false
set_option linter.all false
set_option maxRecDepth 100000
namespace SW
open PySem L2 PyProof.Rows

theorem SmB.none {X : Cx} {pins : List (Addr × Obj)} {σ : L2.St} {H : Hp} {s : Shared} (h : SmB X.K X.mg X.base) (I : Inv X pins σ H s) : H sysModules = none := by
  obtain ⟨⟨m, o, es, ep, e, _⟩, _⟩ := h
  exact (I.bs _ _ e).2
/-! ### repr of data; of dicts from ints and texts to ints -/
def kPy : Key → PyData
  | .inl i => .int i
  | .inr x => .str x
/-- what stands at v reads as d, in every state that H tells of; no table of modules within -/
def RdH (X : Cx) (H : Hp) (v : V) (d : PyData) : Prop := ∀ (pins : List (Addr × Obj)) (σ : L2.St) (s : Shared) (u : Value), Inv X pins σ H s → RelV v u → ∃ as, Reads s.heap u d as ∧ sysModules ∉ as
/-! data for repr -/
mutual
def toPyR : D → PyData
  | .non => .none
  | .bl b => .bool b
  | .int i => .int i
  | .str s => .str (mkS s)
  | .tup xs => .tuple (toPyRs xs)
  | .lst xs => .list (toPyRs xs)
  | .dct _ ks vs => .dict ((toPyRs ks).zip (toPyRs vs))
  | _ => .none
def toPyRs : List D → List PyData
  | [] => []
  | x :: xs => toPyR x :: toPyRs xs
end
mutual
/-- what repr may be asked of: at most n deep -/
def okR : Nat → D → Prop
  | _, .non => True
  | _, .bl _ => True
  | _, .int _ => True
  | _, .str s => ∀ c ∈ s, c < 0x110000
  | n, .tup xs => 1 ≤ n ∧ okRs (n - 1) xs
  | n, .lst xs => 1 ≤ n ∧ okRs (n - 1) xs
  | n, .dct _ ks vs => 1 ≤ n ∧ okRs (n - 1) ks ∧ okRs (n - 1) vs
  | _, _ => False
def okRs : Nat → List D → Prop
  | _, [] => True
  | n, x :: xs => okR n x ∧ okRs n xs
end
theorem toPyRs_kD : ∀ kk : List Key, toPyRs (kk.map kD) = kk.map kPy
  | [] => rfl
  | k :: kk => by
    rw [List.map_cons, toPyRs, toPyRs_kD kk, List.map_cons]
    cases k with
    | inl i => rfl
    | inr x => rw [show toPyR (kD (.inr x)) = .str (mkS x.cps.toList) from rfl, mkS_of]; rfl
theorem toPyRs_tD : ∀ kk : List (List Key), toPyRs (kk.map fun x => .tup (x.map kD)) = kk.map fun x => .tuple (x.map kPy)
  | [] => rfl
  | k :: kk => by
    rw [List.map_cons, toPyRs, toPyRs_tD kk, List.map_cons]
    show PyData.tuple (toPyRs (k.map kD)) :: _ = _
    rw [toPyRs_kD]
theorem zip_fst {α β : Type} : ∀ {a : List α} {b : List β}, a.length = b.length → (a.zip b).map (·.1) = a
  | [], _, _ => rfl
  | _ :: _, [], h => by cases h
  | x :: a, y :: b, h => congrArg (x :: ·) (zip_fst (by simpa using h))
theorem zip_snd {α β : Type} : ∀ {a : List α} {b : List β}, a.length = b.length → (a.zip b).map (·.2) = b
  | [], [], _ => rfl
  | [], _ :: _, h => by cases h
  | _ :: _, [], h => by cases h
  | x :: a, y :: b, h => congrArg (y :: ·) (zip_snd (by simpa using h))
theorem toPyRs_len : ∀ xs : List D, (toPyRs xs).length = xs.length
  | [] => rfl
  | x :: xs => congrArg (· + 1) (toPyRs_len xs)
theorem vals_kR {h : Heap} : ∀ {k : List Key} {its : List Value}, Vals (k.map kV) its → ReadsAll h its (k.map kPy) []
  | [], _, .nil => ReadsAll.nil
  | .inl i :: k, _ :: _, .cons r q => by
    obtain ⟨u, rfl⟩ := (show ∃ u, _ = Value.int i u from r)
    exact ReadsAll.cons (Reads.int _ _) (vals_kR q)
  | .inr x :: k, _ :: _, .cons r q => by
    obtain ⟨u, rfl⟩ := (show ∃ u, _ = Value.str x u from r)
    exact ReadsAll.cons (Reads.str _ _) (vals_kR q)
theorem kv_of : ∀ {kk : List Key} {us : List V} {ws : List (Key × Value)}, KV (kk.zip us) ws → kk.length = us.length → Vals us (ws.map (·.2)) ∧ ws.map (·.1) = kk
  | [], [], _, .nil, _ => ⟨.nil, rfl⟩
  | [], _ :: _, _, _, h => by cases h
  | _ :: _, [], _, _, h => by cases h
  | k :: kk, u :: us, _, .cons a b, h => by
    obtain ⟨q1, q2⟩ := kv_of b (by simpa using h)
    exact ⟨.cons a.2 q1, by rw [List.map_cons, q2, ← a.1]⟩
theorem pairs_of {P : Program} {w : World} {h : Heap} : ∀ {es : List DictEntry} {ws : List (Key × Value)}, Pairs (mixKind P w) es ws → ReadsAll h (es.map (·.key)) ((ws.map (·.1)).map kPy) [] ∧ es.map (·.val) = ws.map (·.2)
  | _, _, .nil => ⟨ReadsAll.nil, rfl⟩
  | e :: _, kv :: _, .cons h1 h2 hp => by
    obtain ⟨q1, q2⟩ := pairs_of (h := h) hp
    refine ⟨?_, by rw [List.map_cons, List.map_cons, h2, q2]⟩
    have e1 : Reads h e.key (kPy kv.1) [] := by
      rcases keyIs_shape h1 with ⟨i, t, q, e⟩ | ⟨x, t, q, e⟩
      · rw [e, q]; exact Reads.int _ _
      · rw [e, q]; exact Reads.str _ _
    exact ReadsAll.cons e1 q1
section
variable {X : Cx} {pins : List (Addr × Obj)} {σ : L2.St} {H : Hp} {s : Shared} {F : Hp} {θ : List Addr}
theorem pairsT_of (I : Inv X pins σ H s) : ∀ {kk : List (List Key)} {us : List V} {xs : List (List Key × Addr × Value)}, Paired (fun (p : List Key × V) (q : List Key × Addr × Value) => p.1 = q.1 ∧ H q.2.1 = some (.tup (p.1.map kV)) ∧ RelV p.2 q.2.2) (kk.zip us) xs → kk.length = us.length →
    Vals us (xs.map (·.2.2)) ∧ ReadsAll s.heap (xs.map fun x => .ref x.2.1) (kk.map fun x => .tuple (x.map kPy)) []
  | [], [], _, .nil, _ => ⟨.nil, ReadsAll.nil⟩
  | [], _ :: _, _, _, h => by cases h
  | _ :: _, [], _, _, h => by cases h
  | k :: kk, u :: us, _, .cons a b, h => by
    obtain ⟨q1, q2⟩ := pairsT_of I b (by simpa using h)
    obtain ⟨_, its, vv, o, ho, hc, m, hd⟩ := I.hok _ _ a.2.1
    exact ⟨.cons a.2.2 q1, ReadsAll.cons (as := []) (bs := []) (Reads.tuple (xs := k.map kPy) ho hc hd (by simpa using vals_kR (h := s.heap) vv)) q2⟩
mutual
theorem reads_rep (hm : SmB X.K X.mg X.base) (I : Inv X pins σ H s) (sub : Sub F H) : ∀ (n : Nat) (d : D) (v : V) (u : Value), okR n d → Rep X.K F θ d v → RelV v u → ∃ as, Reads s.heap u (toPyR d) as ∧ sysModules ∉ as
  | n, .non, v, u, _, r, ru => by unfold Rep at r; subst r; cases (show u = .none from ru); exact ⟨_, Reads.none, by simp⟩
  | n, .bl b, v, u, _, r, ru => by unfold Rep at r; subst r; cases (show u = .bool b from ru); exact ⟨_, Reads.bool b, by simp⟩
  | n, .int i, v, u, _, r, ru => by unfold Rep at r; subst r; obtain ⟨t, rfl⟩ := (show ∃ t, u = .int i t from ru); exact ⟨_, Reads.int i t, by simp⟩
  | n, .str x, v, u, _, r, ru => by unfold Rep at r; subst r; obtain ⟨t, rfl⟩ := (show ∃ t, u = .str (mkS x) t from ru); exact ⟨_, Reads.str _ t, by simp⟩
  | n, .tup xs, v, u, h, r, ru => by
    unfold okR at h
    unfold Rep at r
    obtain ⟨p, vs, rfl, q, rs⟩ := r
    cases (show u = .ref p from ru)
    obtain ⟨_, its, vv, o, ho, hc, m, hd⟩ := I.hok p _ (sub _ _ q)
    obtain ⟨as, ra, hn⟩ := readss_rep hm I sub _ xs vs its h.2 rs vv
    exact ⟨as, Reads.tuple ho hc hd (by simpa using ra), hn⟩
  | n, .lst xs, v, u, h, r, ru => by
    unfold okR at h
    unfold Rep at r
    obtain ⟨p, vs, rfl, q, rs⟩ := r
    cases (show u = .ref p from ru)
    obtain ⟨_, its, m, vv, ho⟩ := I.hok p _ (sub _ _ q)
    obtain ⟨as, ra, hn⟩ := readss_rep hm I sub _ xs vs its h.2 rs vv
    refine ⟨p :: as, Reads.list ho rfl rfl (by simpa using ra), fun z => ?_⟩
    rcases List.mem_cons.mp z with z | z
    · have := hm.none I
      rw [z, sub _ _ q] at this
      cases this
    · exact hn z
  | n, .dct tt ks vs, v, u, h, r, ru => by
    unfold okR at h
    obtain ⟨_, _, hv⟩ := h
    unfold Rep at r
    obtain ⟨p, us, rfl, r1, hl, hh⟩ := r
    cases (show u = .ref p from ru)
    have hlv : vs.length = us.length := r1.length
    rcases hh with ⟨kk, ⟨_, rfl⟩, ob, hF⟩ | ⟨kk, ⟨_, rfl⟩, ob, hF⟩
    · rw [List.length_map] at hl
      obtain ⟨_, e2⟩ := I.hok p _ (sub _ _ hF)
      obtain ⟨_, hsm, ws, kv, o, es, ep, ho, hx, hdat, _, pr, _⟩ := e2
      obtain ⟨k1, k2⟩ := kv_of kv hl
      obtain ⟨k3, k4⟩ := pairs_of (h := s.heap) pr
      obtain ⟨as, ra, hn⟩ := readss_rep hm I sub (n - 1) vs us _ hv r1 k1
      rw [k2] at k3
      have hz : (kk.map kPy).length = (toPyRs vs).length := by rw [List.length_map, toPyRs_len, hlv, hl]
      refine ⟨p :: [] ++ as, ?_, fun z => ?_⟩
      · show Reads _ _ (PyData.dict _) _
        rw [toPyRs_kD]
        exact Reads.dict ho hx.1 hdat (by rw [zip_fst hz]; exact k3) (by rw [zip_snd hz, k4]; exact ra)
      · rcases List.mem_cons.mp z with z | z
        · rw [z] at hsm; simp at hsm
        · exact hn z
    · rw [List.length_map] at hl
      obtain ⟨_, e2⟩ := I.hok p _ (sub _ _ hF)
      obtain ⟨_, hsm, xs, pr, o, es, ep, ho, hx, hdat, he, _⟩ := e2
      obtain ⟨k1, k3⟩ := pairsT_of I pr hl
      obtain ⟨as, ra, hn⟩ := readss_rep hm I sub (n - 1) vs us _ hv r1 k1
      have hz : (kk.map fun x => PyData.tuple (x.map kPy)).length = (toPyRs vs).length := by rw [List.length_map, toPyRs_len, hlv, hl]
      refine ⟨p :: [] ++ as, ?_, fun z => ?_⟩
      · show Reads _ _ (PyData.dict _) _
        rw [toPyRs_tD]
        refine Reads.dict ho hx.1 hdat (by rw [zip_fst hz, he, List.map_map]; exact k3) (by rw [zip_snd hz, he, List.map_map]; exact ra)
      · rcases List.mem_cons.mp z with z | z
        · rw [z] at hsm; simp at hsm
        · exact hn z
  | n, .scr _, v, u, h, _, _ => by unfold okR at h; exact h.elim
  | n, .cell _, v, u, h, _, _ => by unfold okR at h; exact h.elim
  | n, .val _, v, u, h, _, _ => by unfold okR at h; exact h.elim
  | n, .exc _, v, u, h, _, _ => by unfold okR at h; exact h.elim
theorem readss_rep (hm : SmB X.K X.mg X.base) (I : Inv X pins σ H s) (sub : Sub F H) : ∀ (n : Nat) (ds : List D) (vs : List V) (us : List Value), okRs n ds → Reps X.K F θ ds vs → Vals vs us → ∃ as, ReadsAll s.heap us (toPyRs ds) as ∧ sysModules ∉ as
  | n, [], vs, us, _, r, rv => by
    unfold Reps at r
    subst r
    cases rv
    exact ⟨_, ReadsAll.nil, by simp⟩
  | n, x :: xs, vs, us, h, r, rv => by
    unfold okRs at h
    unfold Reps at r
    obtain ⟨v, q, rfl, r1, r2⟩ := r
    cases rv with
    | cons a b =>
      obtain ⟨as, h1, h2⟩ := reads_rep hm I sub n x v _ h.1 r1 a
      obtain ⟨bs, h3, h4⟩ := readss_rep hm I sub n xs q _ h.2 r2 b
      exact ⟨as ++ bs, ReadsAll.cons h1 h3, fun z => (List.mem_append.mp z).elim h2 h4⟩
end
end
theorem depthKv_le : ∀ (ks vs : List PyData), PyData.depthKv (ks.zip vs) ≤ max (PyData.depthAll ks) (PyData.depthAll vs)
  | [], _ => Nat.zero_le _
  | _ :: _, [] => Nat.zero_le _
  | k :: ks, v :: vs => by
    have := depthKv_le ks vs
    show max (max k.depth v.depth) (PyData.depthKv (ks.zip vs)) ≤ max (max k.depth (PyData.depthAll ks)) (max v.depth (PyData.depthAll vs))
    omega
mutual
theorem okR_depth : ∀ (n : Nat) (d : D), okR n d → (toPyR d).depth ≤ n
  | n, .non, _ => Nat.zero_le _
  | n, .bl _, _ => Nat.zero_le _
  | n, .int _, _ => Nat.zero_le _
  | n, .str _, _ => Nat.zero_le _
  | n, .tup xs, h => by
    unfold okR at h
    have := okRs_depth _ xs h.2
    have h1 := h.1
    show PyData.depthAll _ + 1 ≤ n
    omega
  | n, .lst xs, h => by
    unfold okR at h
    have := okRs_depth _ xs h.2
    have h1 := h.1
    show PyData.depthAll _ + 1 ≤ n
    omega
  | n, .dct tt ks vs, h => by
    unfold okR at h
    obtain ⟨h1, h2, h4⟩ := h
    have := okRs_depth _ ks h2
    have := okRs_depth _ vs h4
    have h3 := depthKv_le (toPyRs ks) (toPyRs vs)
    show PyData.depthKv _ + 1 ≤ n
    omega
  | n, .scr _, h => by unfold okR at h; exact h.elim
  | n, .cell _, h => by unfold okR at h; exact h.elim
  | n, .val _, h => by unfold okR at h; exact h.elim
  | n, .exc _, h => by unfold okR at h; exact h.elim
theorem okRs_depth : ∀ (n : Nat) (ds : List D), okRs n ds → PyData.depthAll (toPyRs ds) ≤ n
  | n, [], _ => Nat.zero_le _
  | n, x :: xs, h => by
    unfold okRs at h
    have h1 := okR_depth n x h.1
    have h2 := okRs_depth n xs h.2
    show max _ _ ≤ n
    omega
end
structure RpOk (d : D) : Prop where
  ok : okR 50 d
  sh : (toPyR d).showable = true
  sz : (toPyR d).shown.length ≤ sizeLine
/-- the text that repr tells -/
def reprD (d : D) : List Nat := (toPyR d).shown.cps.toList
def dRepr : DUn := fun x μ Q => RpOk (dr μ x) ∧ Q (.str (reprD (dr μ x))) μ
theorem st_repr {x : D} {μ : Mu} {Q : DQ} (h : RpOk (dr μ x)) (q : Q (.str (reprD (dr μ x))) μ) : dRepr x μ Q := ⟨h, q⟩
/-! bounds -/
mutual
def bk : D → Nat
  | .str s => s.length
  | .tup xs => bks xs
  | .lst xs => bks xs
  | .dct _ ks vs => bks ks + bks vs
  | _ => 0
def bks : List D → Nat
  | [] => 0
  | x :: xs => bk x + 1 + bks xs
end
mutual
/-- whole numbers of few figures alone -/
def fewF : D → Bool
  | .int i => decide ((PyData.shown (.int i)).length ≤ 13) && decide (i.natAbs.log2 < 1920)
  | .tup xs => fewFs xs
  | .lst xs => fewFs xs
  | .dct _ ks vs => fewFs ks && fewFs vs
  | _ => true
def fewFs : List D → Bool
  | [] => true
  | x :: xs => fewF x && fewFs xs
end
theorem kv_facts : ∀ (ks vs : List PyData), PyData.showableAll ks = true → PyData.showableAll vs = true → PyData.leavesShortAll 13 ks = true → PyData.leavesShortAll 13 vs = true →
    PyData.showableKv (ks.zip vs) = true ∧ PyData.leavesShortKv 13 (ks.zip vs) = true ∧ PyData.bulkKv (ks.zip vs) ≤ PyData.bulkAll ks + PyData.bulkAll vs
  | [], _, _, _, _, _ => ⟨rfl, rfl, Nat.zero_le _⟩
  | _ :: _, [], _, _, _, _ => ⟨rfl, rfl, Nat.zero_le _⟩
  | k :: ks, v :: vs, h1, h2, h3, h4 => by
    have a1 : (k.showable && PyData.showableAll ks) = true := h1
    have a2 : (v.showable && PyData.showableAll vs) = true := h2
    have a3 : (k.leavesShort 13 && PyData.leavesShortAll 13 ks) = true := h3
    have a4 : (v.leavesShort 13 && PyData.leavesShortAll 13 vs) = true := h4
    rw [Bool.and_eq_true] at a1 a2 a3 a4
    obtain ⟨b1, b2, b3⟩ := kv_facts ks vs a1.2 a2.2 a3.2 a4.2
    refine ⟨?_, ?_, ?_⟩
    · show (k.showable && v.showable && PyData.showableKv (ks.zip vs)) = true
      rw [a1.1, a2.1, b1]; rfl
    · show (k.leavesShort 13 && v.leavesShort 13 && PyData.leavesShortKv 13 (ks.zip vs)) = true
      rw [a3.1, a4.1, b2]; rfl
    · show k.bulk + v.bulk + 2 + PyData.bulkKv (ks.zip vs) ≤ (k.bulk + 1 + PyData.bulkAll ks) + (v.bulk + 1 + PyData.bulkAll vs)
      omega
mutual
theorem rp_facts : ∀ (n : Nat) (d : D), okR n d → fewF d = true → (toPyR d).showable = true ∧ (toPyR d).leavesShort 13 = true ∧ (toPyR d).bulk ≤ bk d
  | n, .non, _, _ => ⟨rfl, rfl, Nat.le_refl _⟩
  | n, .bl _, _, _ => ⟨rfl, rfl, Nat.le_refl _⟩
  | n, .int i, _, h => by
    unfold fewF at h
    rw [Bool.and_eq_true] at h
    exact ⟨h.2, h.1, Nat.le_refl _⟩
  | n, .str s, h, _ => by
    unfold okR at h
    refine ⟨rfl, ?_, Nat.le_refl _⟩
    show PyData.leavesShort 13 (.str (mkS s)) = true
    simp only [PyData.leavesShort, List.all_eq_true, decide_eq_true_eq]
    intro c hc
    have := h c (by simpa [mkS] using hc)
    omega
  | n, .tup xs, h, f => by
    unfold okR at h
    unfold fewF at f
    obtain ⟨a, b, c⟩ := rps_facts (n - 1) xs h.2 f
    exact ⟨a, b, c⟩
  | n, .lst xs, h, f => by
    unfold okR at h
    unfold fewF at f
    obtain ⟨a, b, c⟩ := rps_facts (n - 1) xs h.2 f
    exact ⟨a, b, c⟩
  | n, .dct _ ks vs, h, f => by
    unfold okR at h
    obtain ⟨_, h2, h4⟩ := h
    unfold fewF at f
    rw [Bool.and_eq_true] at f
    obtain ⟨a1, a2, a3⟩ := rps_facts (n - 1) ks h2 f.1
    obtain ⟨b1, b2, b3⟩ := rps_facts (n - 1) vs h4 f.2
    obtain ⟨c1, c2, c3⟩ := kv_facts _ _ a1 b1 a2 b2
    refine ⟨c1, c2, ?_⟩
    show PyData.bulkKv _ ≤ bks ks + bks _
    omega
  | n, .scr _, h, _ => by unfold okR at h; exact h.elim
  | n, .cell _, h, _ => by unfold okR at h; exact h.elim
  | n, .val _, h, _ => by unfold okR at h; exact h.elim
  | n, .exc _, h, _ => by unfold okR at h; exact h.elim
theorem rps_facts : ∀ (n : Nat) (ds : List D), okRs n ds → fewFs ds = true → PyData.showableAll (toPyRs ds) = true ∧ PyData.leavesShortAll 13 (toPyRs ds) = true ∧ PyData.bulkAll (toPyRs ds) ≤ bks ds
  | n, [], _, _ => ⟨rfl, rfl, Nat.le_refl _⟩
  | n, x :: xs, h, f => by
    unfold okRs at h
    unfold fewFs at f
    rw [Bool.and_eq_true] at f
    obtain ⟨a1, a2, a3⟩ := rp_facts n x h.1 f.1
    obtain ⟨b1, b2, b3⟩ := rps_facts n xs h.2 f.2
    refine ⟨?_, ?_, ?_⟩
    · show ((toPyR x).showable && PyData.showableAll (toPyRs xs)) = true
      rw [a1, b1]; rfl
    · show ((toPyR x).leavesShort 13 && PyData.leavesShortAll 13 (toPyRs xs)) = true
      rw [a2, b2]; rfl
    · show (toPyR x).bulk + 1 + PyData.bulkAll (toPyRs xs) ≤ bk x + 1 + bks xs
      omega
end
theorem rp_of {d : D} (h : okR 50 d) (f : fewF d = true) (b : bk d ≤ 1000000) : RpOk d := by
  obtain ⟨a1, a2, a3⟩ := rp_facts 50 d h f
  refine ⟨h, a1, ?_⟩
  have := PyData.shown_le_bulk 13 (by decide) _ a2
  show _ ≤ 2 ^ 24
  omega
theorem okR_str {n : Nat} {s : List Nat} (h : ∀ c ∈ s, c < 0x110000) : okR n (.str s) := by unfold okR; exact h
mutual
theorem okR_mono : ∀ {n m : Nat}, n ≤ m → ∀ {d : D}, okR n d → okR m d
  | n, m, hl, .non, _ => by unfold okR; trivial
  | n, m, hl, .bl _, _ => by unfold okR; trivial
  | n, m, hl, .int _, _ => by unfold okR; trivial
  | n, m, hl, .str s, h => by unfold okR at h ⊢; exact h
  | n, m, hl, .tup xs, h => by unfold okR at h ⊢; exact ⟨by omega, okRs_mono (by omega) h.2⟩
  | n, m, hl, .lst xs, h => by unfold okR at h ⊢; exact ⟨by omega, okRs_mono (by omega) h.2⟩
  | n, m, hl, .dct _ _ _, h => by unfold okR at h ⊢; exact ⟨by omega, okRs_mono (by omega) h.2.1, okRs_mono (by omega) h.2.2⟩
  | n, m, hl, .scr _, h => by unfold okR at h; exact h.elim
  | n, m, hl, .cell _, h => by unfold okR at h; exact h.elim
  | n, m, hl, .val _, h => by unfold okR at h; exact h.elim
  | n, m, hl, .exc _, h => by unfold okR at h; exact h.elim
theorem okRs_mono : ∀ {n m : Nat}, n ≤ m → ∀ {ds : List D}, okRs n ds → okRs m ds
  | n, m, hl, [], _ => by unfold okRs; trivial
  | n, m, hl, x :: xs, h => by unfold okRs at h ⊢; exact ⟨okR_mono hl h.1, okRs_mono hl h.2⟩
end
/-! ### {k: v, ..}, its keys ints or texts -/
/-! ### tuple(text) -/
theorem call_tuple_txt {X : Cx} (hc : X.calm = true := by rfl) : CallR X (.type "tuple") (fun xs H Q => ∃ z : Str, xs = [.str z] ∧ z.cps.size ≤ sizeLine ∧ ∀ l, H l = none → Q (.ref l) (upd H l (.tup (z.cps.toList.map fun c => .str ⟨#[c]⟩)))) := by
  intro pins s σ H xs us Q I r h
  obtain ⟨z, rfl, hz, q⟩ := h
  obtain ⟨u, rfl, rx⟩ := vals1 r
  obtain ⟨t, rfl⟩ : ∃ t, u = .str z t := rx
  refine call_tuple_str (I.ok.hd hc) z t (fun h' tk acc kp hit => ?_) hz
  have rv : Vals (z.cps.toList.map fun c => V.str ⟨#[c]⟩) acc.toList := by
    refine vals_of_at ?_ ?_
    · rw [List.length_map, Array.length_toList, Array.length_toList, hit.1]
    · intro j x u hx hu
      rw [List.getElem?_map, Array.getElem?_toList] at hx
      rw [Array.getElem?_toList] at hu
      obtain ⟨c, w, h1, rfl⟩ := hit.2 j u hu
      rw [h1] at hx
      cases hx
      exact ⟨_, rfl⟩
  have I1 : Inv X pins σ H { s with heap := h', toks := tk } := I.kept (t' := tk) kp
  have n1 := I1.hok.fresh (Nat.le_refl h'.objs.size)
  refine ⟨.ref h'.objs.size, _, I1.laid (h' := h'.push { cls := .type "tuple", data := .seq acc }) (t' := tk) (fun _ _ e => Heap.get?_push_of_some _ e) (Nat.le_refl _) (show ObjOk X.prog X.w _ _ _ (.tup _) from ⟨by rw [List.length_map, Array.length_toList]; exact hz, acc.toList, rv, _, Heap.get?_push_size _ rfl, rfl, 0, by simp⟩), rfl, q _ n1⟩
def dTupA : DUn := fun x μ Q => match x with
  | .str s => s.length ≤ sizeLine ∧ Q (.tup (chars s)) μ
  | x => dTupOf x μ Q
theorem ld_tupA {X : Cx} (hc : X.calm = true := by rfl) : CalD X (.type "tuple") (ca1 dTupA) := by
  obtain ⟨r, c, old⟩ := ld_tup (X := X)
  refine ⟨_, CallR.or c (call_tuple_txt hc), ?_⟩
  rintro g μ H xs as Q' Q a0 rs ⟨x, rfl, q⟩ k
  have std : dTupOf x μ Q' → r as H Q := fun z => old g μ H [x] as Q' Q a0 rs ⟨x, rfl, z⟩ k
  cases x with
  | str s =>
    obtain ⟨v, rfl, rv⟩ := reps1 rs
    obtain rfl := rep_str rv
    refine .inr ⟨mkS s, rfl, ?_, fun n hn => ?_⟩
    · show s.toArray.size ≤ sizeLine
      rw [List.size_toArray]
      exact q.1
    · have e : (mkS s).cps.toList = s := List.toList_toArray ..
      rw [e]
      obtain ⟨g', a', e', r'⟩ := a0.newTup hn (reps_chars s)
      exact k _ _ _ _ _ a' e' r' q.2
  | _ => exact .inl (std q)
theorem st_tupA {s : List Nat} {μ : Mu} {Q : DQ} (hl : s.length ≤ sizeLine) (q : Q (.tup (chars s)) μ) : dTupA (.str s) μ Q := ⟨hl, q⟩
theorem st_tupAL {xs : List D} {μ : Mu} {Q : DQ} (q : Q (.tup xs) μ) : dTupA (.lst xs) μ Q := ⟨xs, rfl, q⟩
/-! ### xs != []: whatever stands in xs -/
def dNeN : DOp := fun x y μ Q => ∃ xs, rdL μ x = some xs ∧ rdL μ y = some [] ∧ Q (.bl (!decide (xs = []))) μ
theorem op_neNil {X : Cx} (hu : X.A.units + 64 < cLine) : OpR X (compareOp .NotEq) (fun x y H Q => ∃ a b xs, x = .ref a ∧ y = .ref b ∧ SqL X.K H a xs ∧ SqL X.K H b [] ∧ Q (.bl (!decide (xs = []))) H) := by
  intro pins s σ H x y v u Q I rx ry h
  obtain ⟨a, b, xs, rfl, rfl, ha, hb, q⟩ := h
  cases (show v = .ref a from rx)
  cases (show u = .ref b from ry)
  obtain ⟨ia, ra, la, _⟩ := I.list ha
  obtain ⟨ib, rb, lb, _⟩ := I.list hb
  cases rb
  by_cases e : xs = []
  · subst e
    cases ra
    refine (SeqAt.RcNeAt.lists (A := X.A) (e := fun _ => true) la.isList lb.isList rfl (by omega) (fun j h1 h2 => by simp at h1)) X.prog X.w _ _ ⟨.bl _, H, I, rfl, ?_⟩
    simpa using q
  · have hz : ia.length ≠ 0 := fun z => e (by
      have := ra.length
      rw [z] at this
      exact List.length_eq_zero_iff.mp this)
    refine (SeqAt.RcNeAt.lists_lengths (A := X.A) la.isList lb.isList (by simpa using hz) (by omega)) X.prog X.w _ _ ⟨.bl _, H, I, rfl, ?_⟩
    rw [decide_eq_false e] at q
    exact q
theorem cd_neN {X : Cx} (hu : X.A.units + 64 < cLine) : CmpD X .NotEq dNeN := by
  refine ⟨_, op_neNil hu, ?_⟩
  rintro g μ H x y a b Q' Q a0 rx ry ⟨xs, hx, hy, q⟩ k
  obtain ⟨p, vs, rfl, h1, r1⟩ := rdL_rd a0 rx hx
  obtain ⟨p2, ws, rfl, h2, r2⟩ := rdL_rd a0 ry hy
  have e2 : ws = [] := by unfold Reps at r2; exact r2
  subst e2
  refine ⟨p, p2, vs, rfl, rfl, h1, h2, ?_⟩
  have e : decide (vs = []) = decide (xs = []) := decide_eq_decide.mpr (by
    have := r1.length
    rw [← List.length_eq_zero_iff, ← List.length_eq_zero_iff]
    omega)
  rw [e]
  exact k.here a0 rep_bl q
theorem st_neN {xs : List D} {μ : Mu} {Q : DQ} (q : Q (.bl (!decide (xs = []))) μ) : dNeN (.lst xs) (.lst []) μ Q := ⟨xs, rfl, rfl, q⟩
end SW

end

section
set_option Elab.async false
set_option linter.all false
set_option maxRecDepth 100000
namespace SW
open PySem L2
/-! ### texts of any signs; odd things -/
def Chs (s : List Nat) : Prop := ∀ c ∈ s, c < 0x110000
theorem Chs.app {a b : List Nat} (h : Chs a) (h' : Chs b) : Chs (a ++ b) := fun c hc => (List.mem_append.mp hc).elim (h c) (h' c)
theorem Chs.cut {a : List Nat} (h : Chs a) (l u : Option Int) : Chs (cutL a l u) := fun c hc => h c (cutL_sub _ _ _ c hc)
theorem Chs.one {c : Nat} (h : c < 0x110000) : Chs [c] := fun x hx => by rw [List.mem_singleton.mp hx]; exact h
theorem Chs.nil : Chs [] := fun _ h => nomatch h
theorem Chs.row {a : List Nat} (h : isRow a = true) : Chs a := row_ok h
/-- what the laws hand in besides rows, and what repr tells of it -/
structure OddOk (d : D) : Prop where
  kd : kindOk d
  nc : noC d = true
  rp : RpOk d
theorem rp_str {s : List Nat} (h : Chs s) (hl : s.length ≤ 100000) : RpOk (.str s) := rp_of (okR_str h) rfl (by show s.length ≤ _; omega)
/-! ### things that may stand in a list -/
structure Odd1 (d : D) : Prop where
  kd : kindOk d
  nc : noC d = true
  ok : okR 40 d
  fw : fewF d = true
  bb : bk d ≤ 3000
theorem Odd1.odd {d : D} (h : Odd1 d) : OddOk d := ⟨h.kd, h.nc, rp_of (okR_mono (by decide) h.ok) h.fw (by have := h.bb; omega)⟩
/-! ### a dict from texts to 1, put one behind the other -/
end SW

end

section
set_option Elab.async false
set_option linter.all false
set_option maxRecDepth 100000
namespace SW
open PySem L2
/-! ### str(n) -/
def strI (i : Int) : List Nat := (toString i : Str).cps.toList
def dStrI : DUn := fun x μ Q => ∃ i, x = .int i ∧ i.natAbs.log2 < 1920 ∧ Q (.str (strI i)) μ
theorem st_strI {i : Int} {μ : Mu} {Q : DQ} (h : i.natAbs.log2 < 1920) (q : Q (.str (strI i)) μ) : dStrI (.int i) μ Q := ⟨i, rfl, h, q⟩
theorem log2_small {i : Int} (h : -1000 ≤ i ∧ i ≤ 1000) : i.natAbs.log2 < 1920 := by
  have h1 : i.natAbs ≤ 1000 := by omega
  have h2 : i.natAbs.log2 ≤ i.natAbs := Nat.log2_le_self _
  omega
end SW

end

section
set_option Elab.async false
set_option linter.all false
set_option maxRecDepth 100000
namespace SW
open PySem PySem.Spec L2

/-! ### an exception that a name keeps behind its except clause -/
section
variable {X : Cx} {pins : List (Addr × Obj)} {σ : L2.St} {H : Hp} {s : Shared}
end
section
variable {X : Cx} {x n m : Str} {c : Value} {i j : Nat} {body : List Stmt} {np pos pos' p1 p2 p3 : Pos} {tb : WX → TS} {Wout : WX}
end
/-! ### try over data -/
/-- the exceptions' names -/
def excs : List Str := ["WeaveError", "NoRow", "NoRows", "NoWeave", "NoNumber", "NoSign", "NoPieces", "TooMany", "NoText", "NoAsk"]
/-- is the one a kind of the other -/
def under (x y : Str) : Bool := x == y || y == "WeaveError"
structure ExTab (K : PySem.W.Frag) (C : Str → Addr) : Prop where
  k : ∀ x ∈ excs, ExcC K (C x)
  s : ∀ x ∈ excs, ∀ y ∈ excs, PySem.W.kitOne K (.ref (C x)) (.ref (C y)) = some (under x y)
  v : ∀ x ∈ excs, PySem.W.kitOne K (.ref (C x)) (.type "ValueError") = some true
  e : ∀ x ∈ excs, PySem.W.exmOne K (.ref (C x)) (.ref (C "WeaveError")) = some true
/-- try: B except x as e: m = e -/
def dTry (C : Str → Addr) (i j : Nat) (B : TDS) : TDS := fun Z δ μ => B { nx := Z.nx, rt := Z.rt, bk := Z.bk, ct := Z.ct, ex := fun c δ' μ' => ∃ x ∈ excs, c = .ref (C x) ∧ Z.nx ((δ'.set j (some (.exc c))).set i none) μ' } δ μ
end SW

end

section
set_option Elab.async false
set_option linter.all false
set_option maxRecDepth 100000
namespace SW
open PySem PySem.Spec L2 PyProof.Rows

/-! ### isinstance of a kept exception -/
section
variable {X : Cx} {C : Str → Addr}
/-- a class as data -/
abbrev clsD (C : Str → Addr) (x : Str) : D := .val (.ref (C x))
def dIsE (C : Str → Addr) : DCa := fun xs μ Q => ∃ x, x ∈ excs ∧ ((∃ y, y ∈ excs ∧ xs = [.exc (.ref (C x)), clsD C y] ∧ Q (.bl (under x y)) μ) ∨ (xs = [.exc (.ref (C x)), .val (.ty "ValueError")] ∧ Q (.bl true) μ) ∨
  (∃ ys : List Str, (∀ y ∈ ys, y ∈ excs) ∧ xs = [.exc (.ref (C x)), .tup (ys.map (clsD C))] ∧ Q (.bl (ys.any (under x))) μ))
end
theorem st_isE {C : Str → Addr} {x y : Str} {μ : Mu} {Q : DQ} (hx : x ∈ excs) (hy : y ∈ excs) (h : Q (.bl (under x y)) μ) : dIsE C [.exc (.ref (C x)), clsD C y] μ Q := ⟨x, hx, .inl ⟨y, hy, rfl, h⟩⟩
theorem st_isEv {C : Str → Addr} {x : Str} {μ : Mu} {Q : DQ} (hx : x ∈ excs) (h : Q (.bl true) μ) : dIsE C [.exc (.ref (C x)), .val (.ty "ValueError")] μ Q := ⟨x, hx, .inr (.inl ⟨rfl, h⟩)⟩
/-! ### how often, and where, a list of truths says yes -/
end SW

end

section
set_option Elab.async false
set_option linter.all false
set_option maxRecDepth 100000
namespace SW
open PySem PySem.Spec L2 PyProof.Rows

/-! ### a call of what an expression tells: one of two defs of the text, picked by number -/
section
variable {X : Cx} {CX : CXT} {E : L2.St → XK} {pos : Pos} {fe e : Expr} {es : List Expr} {tf : TE} {t : TA}
end
section
variable {X : Cx} {W : WX} {e idx : Expr} {es : List Expr} {A : TDA} {B : TD} {S0 S1 : DSp} {x0 x1 : Str} {p0 p1 p2 p3 pos : Pos} {k0 k1 : Nat}
/-- [x0, x1][i](..) -/
def dPick (c0 c1 : CForm) (S0 S1 : DSp) (B : TD) (A : TDA) : TD := fun δ μ Q E => B δ μ (fun v μ1 => (v = .int 0 ∧ A δ μ1 (fun ds μ2 => c0 S0 ds μ2 Q (fun C μ3 => E C δ μ3)) E) ∨ (v = .int 1 ∧ A δ μ1 (fun ds μ2 => c1 S1 ds μ2 Q (fun C μ3 => E C δ μ3)) E)) E
theorem st_pick0 {c0 c1 : CForm} {δ : DS} {μ : Mu} {Q : DQ} {E : DE} (h : B δ μ (fun v μ1 => (v = .int 0 ∧ A δ μ1 (fun ds μ2 => c0 S0 ds μ2 Q (fun C μ3 => E C δ μ3)) E) ∨ (v = .int 1 ∧ A δ μ1 (fun ds μ2 => c1 S1 ds μ2 Q (fun C μ3 => E C δ μ3)) E)) E) : dPick c0 c1 S0 S1 B A δ μ Q E := h
end
theorem st_try {C : Str → Addr} {i j : Nat} {B : TDS} {Z : DEnds} {δ : DS} {μ : Mu} (h : B { nx := Z.nx, rt := Z.rt, bk := Z.bk, ct := Z.ct, ex := fun c δ' μ' => ∃ x ∈ excs, c = .ref (C x) ∧ Z.nx ((δ'.set j (some (.exc c))).set i none) μ' } δ μ) : dTry C i j B Z δ μ := h
end SW

end

section
set_option Elab.async false
set_option linter.all false
set_option maxRecDepth 100000
namespace SW
open PySem L2
/-! ### odd things of a known size -/
structure OddS (m : Nat) (d : D) : Prop where
  kd : kindOk d
  nc : noC d = true
  ok : okR 40 d
  fw : fewF d = true
  bb : bk d ≤ m
section
variable {m : Nat} {d x y : D}
theorem OddS.odd (h : OddS m d) (hm : m ≤ 1000000 := by omega) : OddOk d := ⟨h.kd, h.nc, rp_of (okR_mono (by decide) h.ok) h.fw (by have := h.bb; omega)⟩
theorem OddS.mono {n : Nat} (h : OddS m d) (hm : m ≤ n) : OddS n d := ⟨h.kd, h.nc, h.ok, h.fw, Nat.le_trans h.bb hm⟩
end
theorem st_mulL {o : List D → Mu → DQ → Prop} {xs : List D} {n : Int} {μ : Mu} {Q : DQ} (h : 0 ≤ n ∧ n ≤ 100000) (h2 : xs.length * n.toNat ≤ 100000) (q : o (List.replicate n.toNat xs).flatten μ Q) : dMul o (.lst xs) (.int n) μ Q := ⟨xs, n, rfl, rfl, by omega, by omega, sz (by omega), q⟩
/-! ### xs == []: whatever stands in xs -/
def dEqN : DOp := fun x y μ Q => ∃ xs, rdL μ x = some xs ∧ rdL μ y = some [] ∧ Q (.bl (decide (xs = []))) μ
theorem st_eqN {xs : List D} {μ : Mu} {Q : DQ} (q : Q (.bl (decide (xs = []))) μ) : dEqN (.lst xs) (.lst []) μ Q := ⟨xs, rfl, rfl, q⟩
end SW

end

section
set_option Elab.async false
set_option linter.all false
set_option maxRecDepth 100000
namespace SW
open PySem PySem.Spec L2 PyProof.Rows

/-! ### dict(enumerate(xs)) -/
def enumK (n : Nat) : List Key := (List.range n).map fun (i : Nat) => .inl (i : Int)
section
variable {X : Cx} {p1 p2 pos2 pos : Pos} {e : Expr} {t : TA}
end
def dDictEnum (A : TDA) : TD := fun δ μ Q E => A δ μ (fun ds μ1 => ∃ x xs, ds = [x] ∧ rdL μ1 x = some xs ∧ Q (.cell μ1.length) (μ1 ++ [.dct false ((enumK xs.length).map kD) xs])) E
theorem st_dictEnum {A : TDA} {δ : DS} {μ : Mu} {Q : DQ} {E : DE} (h : A δ μ (fun ds μ1 => ∃ x xs, ds = [x] ∧ rdL μ1 x = some xs ∧ Q (.cell μ1.length) (μ1 ++ [.dct false ((enumK xs.length).map kD) xs])) E) : dDictEnum A δ μ Q E := h
end SW

end

section
set_option Elab.async false
set_option linter.all false
set_option maxRecDepth 100000
namespace SW
open PySem L2
/-! ### a well of the whole laws -/
def WellE (o : MO) : Prop := ∃ a b : Int, o = .lst [.int a, .int b] ∧ 0 ≤ b ∧ b < 2147483587
theorem WellE.noC {o : MO} (h : WellE o) : noCO o = true := by obtain ⟨a, b, rfl, _⟩ := h; rfl
theorem WellE.live {o : MO} (h : WellE o) : o ≠ .dead := by obtain ⟨a, b, rfl, _⟩ := h; exact fun z => nomatch z
/-! ### a call whose third argument is a list or dict that changes -/
end SW

end

section
set_option Elab.async false
set_option linter.all false
set_option maxRecDepth 100000
namespace SW
open PySem L2
/-! ### is not, of truths; a range that steps up -/
end SW

end

section
set_option Elab.async false
set_option linter.all false
set_option maxRecDepth 100000
/-! ### dict(d), d's keys tuples: a copy, where no two of them have one hash -/
namespace PySem
open Sem (wp)
section
variable {prog : Program} {w : World} {K : Type} [DecidableEq K] {knd : HeapKind prog w K} {A : Around} {Er : Value → Shared → Prop} {t : Shared}
end
end PySem
namespace L2
open PySem PySem.Spec PyProof.Rows
section
variable {X : Cx} {pins : List (Addr × Obj)} {σ : St} {H : Hp} {s : Shared} {a : Addr} {kvs : List (List Key × V)} {A : Around} {Er : Value → Shared → Prop}
end
end L2
namespace L2
open PySem PySem.Spec PyProof.Rows
end L2
namespace SW
open PySem L2
end SW

end

section
set_option Elab.async false
set_option linter.all false
set_option maxRecDepth 100000
/-! ### sorted(d), d's keys tuples of whole numbers, any number of them -/
namespace SrtO
open PySem PyProof.Rows Srt
/-- a tuple of whole numbers -/
def IsTupI (h : Heap) (v : Value) (ns : List Int) : Prop := ∃ a o its n, v = .ref a ∧ h.get? a = some o ∧ o.cls = .type "tuple" ∧ o.data = .seq its n ∧ its.toList.length = ns.length ∧ ∀ (j : Nat) u, its.toList[j]? = some u → ∃ t, u = .int (ns.getD j 0) t
section
variable {prog : Program} {w : World} {A : Around} {s : Shared}
end
end SrtO
namespace SrtO
open PySem PyProof.Rows Srt
section
variable {prog : Program} {w : World} {A : Around} {Er : Value → Shared → Prop} {s : Shared}
theorem IsTupI.on {h g : Heap} {v : Value} {ns : List Int} (x : IsTupI h v ns) (keep : ∀ b o, h.get? b = some o → o.cls = .type "tuple" → g.get? b = some o) : IsTupI g v ns := by
  obtain ⟨a, o, its, n, e, at', c, r⟩ := x
  exact ⟨a, o, its, n, e, keep a o at' c, c, r⟩
end
end SrtO
namespace L2
open PySem PySem.Spec PyProof.Rows
end L2
namespace SW
open PySem L2
end SW

end

section
set_option Elab.async false
set_option linter.all false
set_option maxRecDepth 100000
/-! Dicts whose keys are tuples of any depth: what is told of them, read and put. -/
namespace SW
open PySem L2 PyProof.Rows

/-! ### the layer -/
section
variable {P : Program} {w : World} {H : Hp} {h : Heap}
mutual
theorem nk_is (ok : HOk P w H h) : ∀ (k : NestedKey) (v : V) (u : Value), NK H k v → RelV v u → NestedIs h k u
  | .none, v, u, e, r => by
    obtain rfl : v = .non := e
    obtain rfl : u = .none := r
    exact .none
  | .num i, v, u, e, r => by
    obtain rfl : v = .int i := e
    obtain ⟨t, rfl⟩ := r
    exact .int i t
  | .text x, v, u, e, r => by
    obtain rfl : v = .str x := e
    obtain ⟨t, rfl⟩ := r
    exact .text x t
  | .tup ks, v, u, ⟨p, vs, e1, e2, e3⟩, r => by
    subst e1
    obtain rfl : u = .ref p := r
    obtain ⟨_, its, rv, o, ho, hc, n, hd⟩ := (show ObjOk P w H h p (.tup vs) from ok p _ e2)
    exact .tup ho hc hd (nks_is ok ks vs its e3 rv)
theorem nks_is (ok : HOk P w H h) : ∀ (ks : List NestedKey) (vs : List V) (us : List Value), NKs H ks vs → Vals vs us → NestedAll h ks us
  | [], vs, us, e, r => by
    obtain rfl : vs = [] := e
    cases r
    exact .nil
  | k :: ks, _, us, ⟨v, t, e1, e2, e3⟩, r => by
    subst e1
    cases r with
    | cons q qs => exact .cons (nk_is ok k v _ e2 q) (nks_is ok ks t _ e3 qs)
end
/-- entries beside what the model keeps of them -/
abbrev NR : List NEnt → List (NestedKey × Addr × Value) → Prop := Paired fun x y => x.1 = y.1 ∧ x.2.1 = y.2.1 ∧ RelV x.2.2 y.2.2
def valN (xs : List NEnt) (k : NestedKey) : Option V := (xs.find? fun x => decide (x.1 = k)).map (·.2.2)
def putN (xs : List NEnt) (k : NestedKey) (b : Addr) (v : V) : List NEnt :=
  if xs.any fun x => decide (x.1 = k) then xs.map fun x => if x.1 = k then (x.1, x.2.1, v) else x else xs ++ [(k, b, v)]
theorem NR.keys {xs : List NEnt} {ys : List (NestedKey × Addr × Value)} (r : NR xs ys) : ys.map (·.1) = xs.map (·.1) := by
  induction r with
  | nil => rfl
  | cons q t ih => rw [List.map_cons, List.map_cons, ih, q.1]
theorem NR.all {xs : List NEnt} {ys : List (NestedKey × Addr × Value)} (r : NR xs ys) {p : NestedKey → Addr → Prop} (h : ∀ x ∈ xs, p x.1 x.2.1) : ∀ y ∈ ys, p y.1 y.2.1 := by
  induction r with
  | nil => exact fun _ z => nomatch z
  | cons q t ih =>
    intro y hy
    rcases List.mem_cons.mp hy with rfl | hy
    · rw [← q.1, ← q.2.1]
      exact h _ List.mem_cons_self
    · exact ih (fun x hx => h x (List.mem_cons_of_mem _ hx)) y hy
theorem NR.val {xs : List NEnt} {ys : List (NestedKey × Addr × Value)} (r : NR xs ys) (k : NestedKey) : RelO (valN xs k) ((atKey ys k).map (·.2)) := by
  induction r with
  | nil => exact True.intro
  | @cons x y xs ys q t ih =>
    unfold valN atKey at ih ⊢
    rw [List.find?_cons, List.find?_cons, ← q.1]
    by_cases e : x.1 = k
    · rw [decide_eq_true e]
      exact q.2.2
    · rw [decide_eq_false e]
      exact ih
theorem NR.has {xs : List NEnt} {ys : List (NestedKey × Addr × Value)} (r : NR xs ys) (k : NestedKey) : (xs.any fun x => decide (x.1 = k)) = (atKey ys k).isSome := by
  induction r with
  | nil => rfl
  | @cons x y xs ys q t ih =>
    unfold atKey at ih ⊢
    rw [List.any_cons, List.find?_cons, ih, ← q.1]
    by_cases e : x.1 = k
    · rw [decide_eq_true e]; rfl
    · rw [decide_eq_false e]; rfl
theorem NR.repl {xs : List NEnt} {ys : List (NestedKey × Addr × Value)} (r : NR xs ys) (k : NestedKey) {v : V} {u : Value} (rv : RelV v u) : NR (xs.map fun x => if x.1 = k then (x.1, x.2.1, v) else x) (ys.map (putAt k u)) := by
  induction r with
  | nil => exact .nil
  | @cons x y xs ys q t ih =>
    rw [List.map_cons, List.map_cons]
    refine .cons ?_ ih
    unfold putAt
    rw [← q.1]
    by_cases e : x.1 = k
    · rw [if_pos e, if_pos e]
      exact ⟨rfl, q.2.1, rv⟩
    · rw [if_neg e, if_neg e]
      exact q
theorem NR.put {xs : List NEnt} {ys : List (NestedKey × Addr × Value)} (r : NR xs ys) (k : NestedKey) (b : Addr) {v : V} {u : Value} (rv : RelV v u) : NR (putN xs k b v) (storedH ys k b u) := by
  unfold putN storedH
  rw [r.has k]
  split
  · exact r.repl k rv
  · exact Paired.snoc r ⟨rfl, rfl, rv⟩
theorem putN_len (xs : List NEnt) (k : NestedKey) (b : Addr) (v : V) : (putN xs k b v).length ≤ xs.length + 1 := by
  unfold putN
  split <;> simp
theorem putN_all {p : NestedKey → Addr → Prop} {xs : List NEnt} {k : NestedKey} {b : Addr} {v : V} (h : ∀ x ∈ xs, p x.1 x.2.1) (hk : p k b) : ∀ x ∈ putN xs k b v, p x.1 x.2.1 := by
  unfold putN
  intro x hx
  split at hx
  · obtain ⟨y, hy, rfl⟩ := List.mem_map.mp hx
    split <;> exact h y hy
  · rcases List.mem_append.mp hx with hx | hx
    · exact h x hx
    · rw [List.mem_singleton.mp hx]
      exact hk
/-- the keys' tuples are known -/
abbrev Kn (H : Hp) (xs : List NEnt) : Prop := ∀ x ∈ xs, NK H x.1 (.ref x.2.1)
theorem nr_of {xs : List NEnt} {l : List DictEntry} (r : Paired (EntR w) xs l) : ∃ ys, NR xs ys ∧ l = ys.map (entryOfKey (nestedKind P w)) := by
  induction r with
  | nil => exact ⟨[], .nil, rfl⟩
  | @cons x e xs l q t ih =>
    obtain ⟨ys, h1, h2⟩ := ih
    refine ⟨(x.1, x.2.1, e.val) :: ys, .cons ⟨rfl, rfl, q.2.2⟩ h1, ?_⟩
    rw [List.map_cons, ← h2]
    obtain ⟨i, c, u⟩ := e
    obtain ⟨q1, q2, q3⟩ := q
    dsimp only at q1 q2
    rw [q1, q2]
    rfl
theorem nr_ent {xs : List NEnt} {ys : List (NestedKey × Addr × Value)} (r : NR xs ys) : Paired (EntR w) xs (ys.map (entryOfKey (nestedKind P w))) := by
  induction r with
  | nil => exact .nil
  | @cons x y xs ys q t ih =>
    rw [List.map_cons]
    refine .cons ⟨?_, ?_, q.2.2⟩ ih
    · rw [q.1]; rfl
    · rw [q.2.1]; rfl
theorem nk_open {p : Addr} {xs : List NEnt} (ok : HOk P w H h) (e : Rd H p (NkO w p xs)) (kn : Kn H xs) : xs.length ≤ sizeLine ∧ (p == sysModules) = false ∧ (∀ x ∈ xs, x.1.depth ≤ 8) ∧ ∃ ys, NR xs ys ∧ h.DictOfH (nestedKind P w) p ys := by
  obtain ⟨⟨z, y, nd, dp, o, es, ep, ho, hx, hd, r⟩, _⟩ := (show ObjOk P w H h p (NkO w p xs) from e.ok ok)
  obtain ⟨ys, h1, h2⟩ := nr_of (P := P) r
  refine ⟨z, y, dp, ys, h1, o, es, ep, ho, hx, hd, h2, ?_, by rw [h1.keys]; exact nd⟩
  exact h1.all (p := fun k b => (nestedKind P w).is h k b) fun x hx => ⟨nk_is ok _ _ _ (kn x hx) rfl, dp x hx⟩
theorem nk_close {p : Addr} {xs : List NEnt} {ys : List (NestedKey × Addr × Value)} (z : xs.length ≤ sizeLine) (y : (p == sysModules) = false) (dp : ∀ x ∈ xs, x.1.depth ≤ 8) (r : NR xs ys) (d : h.DictOfH (nestedKind P w) p ys) : ObjOk P w H h p (NkO w p xs) := by
  obtain ⟨o, es, ep, ho, hx, hd, he, _, nd⟩ := d
  refine ⟨⟨z, y, by rw [← r.keys]; exact nd, dp, o, es, ep, ho, hx, hd, by rw [he]; exact nr_ent r⟩, ⟨o, ho⟩, ?_⟩
  rintro h1 h2 ⟨z, y, nd, dp, o, es, ep, ho, r⟩ k
  exact ⟨z, y, nd, dp, o, es, ep, k o ho, r⟩
end
section
variable {X : Cx} {pins : List (Addr × Obj)} {σ : L2.St} {H : Hp} {s : Shared} {A : Around} {E : Value → Shared → Prop} {p : Addr} {y : V} {u : Value}
/-- what such a dict tells at y -/
def NGet (w : World) (H : Hp) (p : Addr) (y : V) (o : Option V) : Prop := ∃ xs k b, Rd H p (NkO w p xs) ∧ Kn H xs ∧ y = .ref b ∧ NK H k (.ref b) ∧ k.depth ≤ 8 ∧ valN xs k = o
/-- the heap behind d[y] = v -/
def NPut (w : World) (H : Hp) (p : Addr) (y v : V) (H' : Hp) : Prop := ∃ xs k b, H p = some (NkO w p xs) ∧ Kn H xs ∧ y = .ref b ∧ NK H k (.ref b) ∧ k.depth ≤ 8 ∧ xs.length < sizeLine ∧ H' = upd H p (NkO w p (putN xs k b v))
theorem NGet.typeIs {o : Option V} (I : Inv X pins σ H s) (g : NGet X.w H p y o) : s.TypeIs (.ref p) "dict" := by
  obtain ⟨xs, k, b, e, kn, _⟩ := g
  obtain ⟨_, _, _, ys, _, d⟩ := nk_open I.hok e kn
  exact d.typeIs (s := s)
theorem n_get {v : V} {Q : Value → Shared → Prop} (hu : A.units + 16 < cLine) (I : Inv X pins σ H s) (g : NGet X.w H p y (some v)) (ry : RelV y u) (k : ∀ w' s', Inv X pins σ H s' → RelV v w' → Q w' s') : wpAny (model X.prog X.w) A (getItem (.ref p) u) Q E s := by
  obtain ⟨xs, c, b, e, kn, rfl, hc, dc, l⟩ := g
  obtain rfl : u = .ref b := ry
  obtain ⟨_, _, _, ys, r, d⟩ := nk_open I.hok e kn
  have isk : (nestedKind X.prog X.w).is s.heap c b := ⟨nk_is I.hok _ _ _ hc rfl, dc⟩
  have q := r.val c
  rw [l] at q
  obtain ⟨w', hw, rw'⟩ := RelO.some_of (v := v) q
  obtain ⟨z, hz, rfl⟩ := Option.map_eq_some_iff.mp hw
  exact wpAny_getItem_heap (by show A.units + 1 + 8 < cLine; omega) isk d hz (k _ _ (I.tok _) rw')
theorem n_notIn {o : Option V} {Q : Value → Shared → Prop} (hu : A.units + 16 < cLine) (I : Inv X pins σ H s) (g : NGet X.w H p y o) (ry : RelV y u) (k : ∀ s', Inv X pins σ H s' → Q (.bool (!o.isSome)) s') : wpAny (model X.prog X.w) A (compareOp .NotIn u (.ref p)) Q E s := by
  obtain ⟨xs, c, b, e, kn, rfl, hc, dc, l⟩ := g
  obtain rfl : u = .ref b := ry
  obtain ⟨_, hd, _, ys, r, d⟩ := nk_open I.hok e kn
  have isk : (nestedKind X.prog X.w).is s.heap c b := ⟨nk_is I.hok _ _ _ hc rfl, dc⟩
  refine wpAny_notIn_heap (by show A.units + 1 + 8 < cLine; omega) isk hd d ?_
  have q := (r.val c).isSome_eq
  rw [Option.isSome_map, l] at q
  rw [← q]
  exact k _ (I.tok _)
theorem n_put {v : V} {r : Value} {H' : Hp} {Q : Unit → Shared → Prop} (hu : A.units + 16 < cLine) (I : Inv X pins σ H s) (g : NPut X.w H p y v H') (ry : RelV y u) (rv : RelV v r) (k : ∀ s', Inv X pins σ H' s' → Q () s') : wpAny (model X.prog X.w) A (setItem (.ref p) u r) Q E s := by
  obtain ⟨xs, c, b, e, kn, rfl, hc, dc, hl, rfl⟩ := g
  obtain rfl : u = .ref b := ry
  obtain ⟨_, hd, dp, ys, rr, d⟩ := nk_open I.hok (.inl e) kn
  have isk : (nestedKind X.prog X.w).is s.heap c b := ⟨nk_is I.hok _ _ _ hc rfl, dc⟩
  refine wpAny_setItem_heap (hsz := by rw [← Paired.length rr]; omega) (by show A.units + 1 + 8 < cLine; omega) isk d fun h' d' hs => k _ ?_
  have hq : ∃ q, h'.get? p = some q := let ⟨q, _, _, hq, _⟩ := d'; ⟨q, hq⟩
  exact d_write I (by rw [e]; exact True.intro) hs hq (nk_close (by have := putN_len xs c b v; omega) hd (putN_all (p := fun k _ => k.depth ≤ 8) dp dc) (rr.put c b rv) d')
/-- the same, as a display does it -/
theorem n_dictSet {v : V} {r : Value} {H' : Hp} {Q : Unit → Shared → Prop} (hu : A.units + 16 < cLine) (I : Inv X pins σ H s) (g : NPut X.w H p y v H') (ry : RelV y u) (rv : RelV v r) (k : ∀ s', Inv X pins σ H' s' → Q () s') : wpAny (model X.prog X.w) A (dictSet p u r) Q E s := by
  obtain ⟨xs, c, b, e, kn, rfl, hc, dc, hl, rfl⟩ := g
  obtain rfl : u = .ref b := ry
  obtain ⟨_, hd, dp, ys, rr, d⟩ := nk_open I.hok (.inl e) kn
  have isk : (nestedKind X.prog X.w).is s.heap c b := ⟨nk_is I.hok _ _ _ hc rfl, dc⟩
  refine wpAny_dictSet_heap (hsz := by rw [← Paired.length rr]; omega) (knd := nestedKind X.prog X.w) (by show A.units + 8 < cLine; omega) isk d fun h' d' hs => k _ ?_
  have hq : ∃ q, h'.get? p = some q := let ⟨q, _, _, hq, _⟩ := d'; ⟨q, hq⟩
  exact d_write I (by rw [e]; exact True.intro) hs hq (nk_close (by have := putN_len xs c b v; omega) hd (putN_all (p := fun k _ => k.depth ≤ 8) dp dc) (rr.put c b rv) d')
theorem nk_empty {H : Hp} (h : Heap) (hb : sysModules < h.objs.size) : ObjOk X.prog X.w H (h.push { cls := .type "dict", data := .dict #[] }) h.objs.size (NkO X.w h.objs.size []) :=
  nk_close (Nat.zero_le _) (beq_eq_false_iff_ne.mpr (Ne.symm (Nat.ne_of_lt hb))) (fun _ z => nomatch z) .nil (Heap.DictOfH.new h)
end
section
variable {X : Cx} {o i : Expr} {pos : Pos} {td ty : TE}
theorem pe_getN (hu : X.A.units + 16 < cLine) (ho : PE X o td) (hi : PE X i ty) (hs : NoSl i) : PE X (.Subscript o i pos) (fun σ H Q => td σ H fun x H1 => ty σ H1 fun y H2 => ∃ p v, x = .ref p ∧ NGet X.w H2 p y (some v) ∧ Q v H2) := by
  refine ⟨fun pins s σ H Q I h => ?_⟩
  refine subD_of PySem.F.slot_dict_getitem.lookup hs (thn (ho.run pins s σ H _ I h) fun u s1 ⟨x, H1, I1, rx, q1⟩ => thn (hi.run pins s1 σ H1 _ I1 q1) fun iv s2 ⟨y, H2, I2, ry, p, v, ex, g, q2⟩ => ?_)
  subst ex
  obtain rfl : u = .ref p := rx
  exact ⟨g.typeIs I2, n_get hu I2 g ry fun w' s3 I3 rw' => ⟨v, H2, I3, rw', q2⟩⟩
end
end SW

end

section
set_option Elab.async false
set_option linter.all false
set_option maxRecDepth 100000
/-! Dicts whose keys are tuples of any depth, as data. -/
namespace SW
open PySem L2 PyProof.Rows

/-! ### keys as data -/
mutual
def nD : NestedKey → D
  | .none => .non
  | .num i => .int i
  | .text x => .str x.cps.toList
  | .tup ks => .tup (nDs ks)
def nDs : List NestedKey → List D
  | [] => []
  | k :: ks => nD k :: nDs ks
end
section
variable {K : PySem.W.Frag} {F : Hp} {θ : List Addr}
mutual
theorem rep_nD : ∀ (k : NestedKey) (v : V), Rep K F θ (nD k) v → NK F k v
  | .none, v, r => by unfold nD Rep at r; exact r
  | .num i, v, r => by unfold nD Rep at r; exact r
  | .text x, v, r => by unfold nD Rep at r; rw [mkS_of] at r; exact r
  | .tup ks, v, r => by
    unfold nD Rep at r
    obtain ⟨p, vs, e, h1, h2⟩ := r
    exact ⟨p, vs, e, h1, reps_nD ks vs h2⟩
theorem reps_nD : ∀ (ks : List NestedKey) (vs : List V), Reps K F θ (nDs ks) vs → NKs F ks vs
  | [], vs, r => by unfold nDs Reps at r; exact r
  | k :: ks, vs, r => by
    unfold nDs Reps at r
    obtain ⟨v, t, e, h1, h2⟩ := r
    exact ⟨v, t, e, rep_nD k v h1, reps_nD ks t h2⟩
end
mutual
theorem nD_rep : ∀ (k : NestedKey) (v : V), NK F k v → Rep K F θ (nD k) v
  | .none, v, r => by unfold nD Rep; exact r
  | .num i, v, r => by unfold nD Rep; exact r
  | .text x, v, r => by unfold nD Rep; rw [mkS_of]; exact r
  | .tup ks, v, ⟨p, vs, e, h1, h2⟩ => by unfold nD Rep; exact ⟨p, vs, e, h1, nDs_reps ks vs h2⟩
theorem nDs_reps : ∀ (ks : List NestedKey) (vs : List V), NKs F ks vs → Reps K F θ (nDs ks) vs
  | [], vs, r => by unfold nDs Reps; exact r
  | k :: ks, vs, ⟨v, t, e, h1, h2⟩ => by unfold nDs Reps; exact ⟨v, t, e, nD_rep k v h1, nDs_reps ks t h2⟩
end
theorem nks_len : ∀ {ks : List NestedKey} {vs : List V}, NKs F ks vs → ks.length = vs.length
  | [], vs, h => by cases (show vs = [] from h); rfl
  | k :: ks, vs, ⟨v, t, e, _, h⟩ => by rw [e, List.length_cons, List.length_cons, nks_len h]
theorem nks_app : ∀ {ks : List NestedKey} {vs : List V} {k : NestedKey} {v : V}, NKs F ks vs → NK F k v → NKs F (ks ++ [k]) (vs ++ [v])
  | [], vs, k, v, h, q => by cases (show vs = [] from h); exact ⟨v, [], rfl, q, rfl⟩
  | c :: ks, vs, k, v, ⟨u, t, e, h1, h2⟩, q => by rw [e]; exact ⟨u, t ++ [v], rfl, h1, nks_app h2 q⟩
theorem kn_of : ∀ {kk : List NestedKey} {bs : List Addr} {ws : List V}, NKs F kk (bs.map V.ref) → Kn F (nents kk bs ws)
  | [], _, _, _ => fun x hx => by cases hx
  | k :: kk, [], _, ⟨v, r, e, _⟩ => by cases e
  | k :: kk, b :: bs, [], _ => fun x hx => by cases hx
  | k :: kk, b :: bs, w :: ws, ⟨v, r, e, h1, h2⟩ => fun x hx => by
    injection e with e1 e2
    subst e1 e2
    rcases List.mem_cons.mp (show x ∈ (k, b, w) :: nents kk bs ws from hx) with rfl | hx
    · exact h1
    · exact kn_of h2 x hx
theorem Kn.sub {H : Hp} (s : Sub F H) {xs : List NEnt} (k : Kn F xs) : Kn H xs := fun x hx => NK.mono s _ _ (k x hx)

/-! ### tables -/
def lookN (k : NestedKey) : List NestedKey → List D → Option D
  | c :: kk, v :: vs => if c = k then some v else lookN k kk vs
  | _, _ => none
def setNv (k : NestedKey) (v : D) : List NestedKey → List D → List D
  | c :: kk, u :: vs => (if c = k then v else u) :: setNv k v kk vs
  | _, _ => []
def putNk (k : NestedKey) (kk : List NestedKey) : List NestedKey := if k ∈ kk then kk else kk ++ [k]
def putNv (k : NestedKey) (v : D) (kk : List NestedKey) (vs : List D) : List D := if k ∈ kk then setNv k v kk vs else vs ++ [v]
theorem look_ent (k : NestedKey) : ∀ {kk : List NestedKey} {bs : List Addr} {vs : List D} {ws : List V}, Reps K F θ vs ws → kk.length = ws.length → kk.length = bs.length →
    (∀ v, lookN k kk vs = some v → ∃ w, valN (nents kk bs ws) k = some w ∧ Rep K F θ v w) ∧ (lookN k kk vs = none → valN (nents kk bs ws) k = none)
  | [], bs, vs, ws, r, h1, h2 => ⟨fun v h => by simp [lookN] at h, fun _ => rfl⟩
  | c :: kk, [], vs, ws, r, h1, h2 => by cases h2
  | c :: kk, b :: bs, vs, [], r, h1, h2 => by cases h1
  | c :: kk, b :: bs, [], w :: ws, r, h1, h2 => by have := r.length; cases this
  | c :: kk, b :: bs, v :: vs, w :: ws, r, h1, h2 => by
    unfold Reps at r
    obtain ⟨w', ws', e, r1, r2⟩ := r
    injection e with e1 e2
    subst e1 e2
    obtain ⟨i1, i2⟩ := look_ent k (bs := bs) r2 (by simpa using h1) (by simpa using h2)
    show (∀ u, (if c = k then some v else lookN k kk vs) = some u → ∃ z, valN ((c, b, w) :: nents kk bs ws) k = some z ∧ _) ∧ ((if c = k then some v else lookN k kk vs) = none → valN ((c, b, w) :: nents kk bs ws) k = none)
    unfold valN at i1 i2 ⊢
    rw [List.find?_cons]
    by_cases h : c = k
    · rw [if_pos h, decide_eq_true (p := ((c, b, w) : NEnt).1 = k) h]
      refine ⟨fun u e => ⟨w, rfl, ?_⟩, fun e => nomatch e⟩
      injection e with e
      subst e
      exact r1
    · rw [if_neg h, decide_eq_false (p := ((c, b, w) : NEnt).1 = k) h]
      exact ⟨i1, i2⟩
theorem any_ent (k : NestedKey) : ∀ {kk : List NestedKey} {bs : List Addr} {ws : List V}, kk.length = ws.length → kk.length = bs.length → ((nents kk bs ws).any fun x => decide (x.1 = k)) = decide (k ∈ kk)
  | [], bs, ws, h1, h2 => by simp [nents]
  | c :: kk, [], ws, h1, h2 => by cases h2
  | c :: kk, b :: bs, [], h1, h2 => by cases h1
  | c :: kk, b :: bs, w :: ws, h1, h2 => by
    show (decide (c = k) || (nents kk bs ws).any fun x => decide (x.1 = k)) = _
    rw [any_ent k (by simpa using h1) (by simpa using h2)]
    simp only [List.mem_cons, Bool.decide_or]
    congr 1
    exact decide_eq_decide.mpr ⟨Eq.symm, Eq.symm⟩
theorem set_ent (k : NestedKey) {v : D} {w : V} (rv : Rep K F θ v w) : ∀ {kk : List NestedKey} {bs : List Addr} {vs : List D} {ws : List V}, Reps K F θ vs ws → kk.length = ws.length → kk.length = bs.length →
    ∃ ws', ((nents kk bs ws).map fun x => if x.1 = k then (x.1, x.2.1, w) else x) = nents kk bs ws' ∧ kk.length = ws'.length ∧ Reps K F θ (setNv k v kk vs) ws'
  | [], bs, vs, ws, r, h1, h2 => ⟨[], rfl, rfl, by unfold setNv; exact Reps.nil⟩
  | c :: kk, [], vs, ws, r, h1, h2 => by cases h2
  | c :: kk, b :: bs, vs, [], r, h1, h2 => by cases h1
  | c :: kk, b :: bs, [], w :: ws, r, h1, h2 => by have := r.length; cases this
  | c :: kk, b :: bs, u :: vs, z :: ws, r, h1, h2 => by
    unfold Reps at r
    obtain ⟨w', ws', e, r1, r2⟩ := r
    injection e with e1 e2
    subst e1 e2
    obtain ⟨ws', q1, q2, q3⟩ := set_ent k rv (bs := bs) r2 (by simpa using h1) (by simpa using h2)
    show ∃ ws', (if c = k then (c, b, w) else (c, b, z)) :: ((nents kk bs ws).map fun x => if x.1 = k then (x.1, x.2.1, w) else x) = _ ∧ _ ∧ Reps K F θ ((if c = k then v else u) :: setNv k v kk vs) ws'
    rw [q1]
    by_cases h : c = k
    · rw [if_pos h, if_pos h]
      exact ⟨w :: ws', rfl, by simp [q2], Reps.cons rv q3⟩
    · rw [if_neg h, if_neg h]
      exact ⟨z :: ws', rfl, by simp [q2], Reps.cons r1 q3⟩
theorem put_ent (k : NestedKey) {b : Addr} {v : D} {w : V} (rv : Rep K F θ v w) (hk : NK F k (.ref b)) {kk : List NestedKey} {bs : List Addr} {vs : List D} {ws : List V} (r : Reps K F θ vs ws) (h1 : kk.length = ws.length) (nk : NKs F kk (bs.map V.ref)) :
    ∃ bs' ws', putN (nents kk bs ws) k b w = nents (putNk k kk) bs' ws' ∧ (putNk k kk).length = ws'.length ∧ Reps K F θ (putNv k v kk vs) ws' ∧ NKs F (putNk k kk) (bs'.map V.ref) := by
  have h2 : kk.length = bs.length := by rw [nks_len nk, List.length_map]
  unfold putN putNk putNv
  rw [any_ent k h1 h2]
  by_cases h : k ∈ kk
  · rw [if_pos (decide_eq_true h), if_pos h, if_pos h]
    obtain ⟨ws', q1, q2, q3⟩ := set_ent k rv r h1 h2
    exact ⟨bs, ws', q1, q2, q3, nk⟩
  · rw [if_neg (by rw [decide_eq_false h]; exact Bool.false_ne_true), if_neg h, if_neg h]
    refine ⟨bs ++ [b], ws ++ [w], ?_, by simp [h1], r.append (Reps.cons rv Reps.nil), ?_⟩
    · unfold nents
      rw [List.zip_append (by rw [← h2, h1]), List.zip_append (by rw [List.length_zip, ← h2, ← h1, Nat.min_self])]
      rfl
    · rw [List.map_append]
      exact nks_app nk hk
end
/-! ### read -/
def dcnOf (w : World) (μ : Mu) (x : D) (kk : List NestedKey) (vs : List D) : Prop := x = .dcn w kk vs ∨ ∃ n, x = .cell n ∧ (μ[n]? = some (.dcn w kk vs) ∨ ∃ ob u, μ[n]? = some (.dcm ob u w kk vs))
section
variable {K : PySem.W.Frag} {g : Wd} {μ : Mu} {H : Hp} {w : World}
theorem dcn_rd {d : D} {v : V} {kk : List NestedKey} {vs : List D} (a : At K g μ H) (r : Rep K g.F g.th d v) (h : dcnOf w μ d kk vs) :
    ∃ p ws bs, v = .ref p ∧ Reps K g.F g.th vs ws ∧ kk.length = ws.length ∧ NKs g.F kk (bs.map V.ref) ∧ Rd H p (NkO w p (nents kk bs ws)) := by
  rcases h with rfl | ⟨n, rfl, hn | ⟨ob, u, hn⟩⟩
  · unfold Rep at r
    obtain ⟨p, ws, bs, e, r1, r2, r3, ob, r4⟩ := r
    exact ⟨p, ws, bs, e, r1, r2, r3, .inr ⟨ob, a.sub _ _ r4⟩⟩
  · obtain ⟨p, ev, hp, hF, ws, bs, r1, r2, r3, r4⟩ := a.cellAt hn (by simp) r
    exact ⟨p, ws, bs, ev, r2, r3, r4, .inl r1⟩
  · obtain ⟨p, ev, hp, hF, r1, ws, bs, r2, r3, r4, r5⟩ := a.cellAt hn (by simp) r
    exact ⟨p, ws, bs, ev, r2, r3, r4, .inr ⟨ob, by rw [r1, r5]⟩⟩
theorem dcn_get {d : D} {v b : V} {ks kk : List NestedKey} {vs : List D} (a : At K g μ H) (r : Rep K g.F g.th d v) (ry : Rep K g.F g.th (.tup (nDs ks)) b) (h : dcnOf w μ d kk vs) (dp : NestedKey.depthAll ks ≤ 7) :
    ∃ p o, v = .ref p ∧ NGet w H p b o ∧ (∀ u, lookN (.tup ks) kk vs = some u → ∃ w, o = some w ∧ Rep K g.F g.th u w) ∧ (lookN (.tup ks) kk vs = none → o = none) := by
  obtain ⟨p, ws, bs, e, r1, r2, r3, r4⟩ := dcn_rd a r h
  have nk := rep_nD (.tup ks) b (by unfold nD; exact ry)
  obtain ⟨c, us, rfl, _⟩ := id nk
  obtain ⟨l1, l2⟩ := look_ent (.tup ks) (bs := bs) r1 r2 (by rw [nks_len r3, List.length_map])
  exact ⟨p, _, e, ⟨_, .tup ks, c, r4, (kn_of r3).sub a.sub, rfl, NK.mono a.sub _ _ nk, by show NestedKey.depthAll ks + 1 ≤ 8; omega, rfl⟩, l1, l2⟩
theorem dcn_put {n : Nat} {u : D} {v b c : V} {ks kk : List NestedKey} {vs : List D} (a : At K g μ H) (hn : μ[n]? = some (.dcn w kk vs)) (r : Rep K g.F g.th (.cell n) v) (ry : Rep K g.F g.th (.tup (nDs ks)) b) (ru : Rep K g.F g.th u c)
    (dp : NestedKey.depthAll ks ≤ 7) (hl : kk.length < sizeLine) :
    ∃ p H', v = .ref p ∧ NPut w H p b c H' ∧ At K g (μ.set n (.dcn w (putNk (.tup ks) kk) (putNv (.tup ks) u kk vs))) H' ∧ Ext g H g H' := by
  obtain ⟨p, ev, hp, hF, ws, bs, r1, r2, r3, r4⟩ := a.cellAt hn (by simp) r
  have nk := rep_nD (.tup ks) b (by unfold nD; exact ry)
  obtain ⟨d, us, rfl, _⟩ := id nk
  obtain ⟨bs', ws', q1, q2, q3, q4⟩ := put_ent (.tup ks) ru nk r2 r3 r4
  have hlb : kk.length = bs.length := by rw [nks_len r4, List.length_map]
  obtain ⟨a1, e1⟩ := a.setC (ho := NkO w p (nents (putNk (.tup ks) kk) bs' ws')) hn (by simp) hp (o' := .dcn w (putNk (.tup ks) kk) (putNv (.tup ks) u kk vs)) ⟨ws', bs', upd_same, q3, q2, q4⟩
  refine ⟨p, _, ev, ⟨_, .tup ks, d, r1, (kn_of r4).sub a.sub, rfl, NK.mono a.sub _ _ nk, by show NestedKey.depthAll ks + 1 ≤ 8; omega, ?_, by rw [q1]⟩, a1, e1⟩
  unfold nents
  rw [List.length_zip, List.length_zip, ← hlb, ← r3]
  omega
theorem At.newN (a : At K g μ H) {p : Addr} (hp : H p = none) (w : World) : ∃ g', g'.F = g.F ∧ At K g' (μ ++ [.dcn w [] []]) (upd H p (NkO w p [])) ∧ Ext g H g' (upd H p (NkO w p [])) ∧ Rep K g'.F g'.th (.cell μ.length) (.ref p) :=
  ⟨⟨g.F, g.th ++ [p]⟩, rfl, a.newC hp ⟨[], [], upd_same, Reps.nil, rfl, rfl⟩⟩
end
/-! ### the rules -/
section
variable {X : Cx} {W : WX} {e a b : Expr} {A B : TD} {pos : Pos}
/-- d[y] -/
def dIxN (w : World) : DOp := fun x y μ Q => ∃ kk vs ks u, dcnOf w μ x kk vs ∧ y = .tup (nDs ks) ∧ NestedKey.depthAll ks ≤ 7 ∧ lookN (.tup ks) kk vs = some u ∧ Q u μ
theorem we_ixN (hu : X.A.units + 16 < cLine) (ha : WX0 X W a A) (hb : WX0 X W b B) (hs : NoSl b := by exact fun _ _ => rfl) : WX0 X W (.Subscript a b pos) (dOp (dIxN X.w) A B) := by
  refine PE.imp (pe_getN hu ha hb hs) (up_op (r := fun x y H Q => ∃ p v, x = .ref p ∧ NGet X.w H p y (some v) ∧ Q v H) ?_)
  rintro g μ H x y v w Q' Q a0 rx ry ⟨kk, vs, ks, u, h1, rfl, h2, h3, q⟩ k
  obtain ⟨p, o, rfl, hg, l1, l2⟩ := dcn_get a0 rx ry h1 h2
  obtain ⟨z, rfl, rz⟩ := l1 u h3
  exact ⟨p, z, rfl, hg, k.here a0 rz q⟩
/-- y in d -/
def dInN (w : World) (neg : Bool) : DOp := fun y x μ Q => ∃ kk vs ks, dcnOf w μ x kk vs ∧ y = .tup (nDs ks) ∧ NestedKey.depthAll ks ≤ 7 ∧ Q (.bl (if neg then !(lookN (.tup ks) kk vs).isSome else (lookN (.tup ks) kk vs).isSome)) μ
theorem cd_notInN (hu : X.A.units + 16 < cLine) : CmpD X .NotIn (dInN X.w true) := by
  refine ⟨fun y x H Q => ∃ p o, x = .ref p ∧ NGet X.w H p y o ∧ Q (.bl (!o.isSome)) H, ?_, ?_⟩
  · intro pins s σ H x y v u Q I rx ry h
    obtain ⟨p, o, rfl, hg, q⟩ := h
    obtain rfl : u = .ref p := ry
    exact n_notIn hu I hg rx fun s3 I3 => ⟨.bl (!o.isSome), H, I3, rfl, q⟩
  · rintro g μ H x y v w Q' Q a0 rx ry ⟨kk, vs, ks, h1, rfl, h2, q⟩ k
    obtain ⟨p, o, rfl, hg, l1, l2⟩ := dcn_get a0 ry rx h1 h2
    refine ⟨p, o, rfl, hg, ?_⟩
    rw [dct_some l1 l2]
    exact k.here a0 rep_blI q
/-- d[y] = v -/
def dSetN (w : World) : DSet := fun o y v μ Q => ∃ n kk vs ks, o = .cell n ∧ μ[n]? = some (.dcn w kk vs) ∧ y = .tup (nDs ks) ∧ NestedKey.depthAll ks ≤ 7 ∧ kk.length < sizeLine ∧ Q (μ.set n (.dcn w (putNk (.tup ks) kk) (putNv (.tup ks) v kk vs)))
theorem sd_dcn {X : Cx} (hu : X.A.units + 16 < cLine) : SetD X (dSetN X.w) := by
  refine ⟨fun o y v H Q => ∃ p H', o = .ref p ∧ NPut X.w H p y v H' ∧ Q H', ?_, ?_⟩
  · intro pins s σ H o i v ov iv u Q I ro ri rv h
    obtain ⟨p, H', rfl, hg, q⟩ := h
    obtain rfl : ov = .ref p := ro
    exact n_put hu I hg ri rv fun s4 I4 => ⟨H', I4, q⟩
  · rintro g μ H o i v a b c Q' Q a0 ro ri rv ⟨n, kk, vs, ks, rfl, hn, rfl, dp, hl, q⟩ kq
    obtain ⟨p, H', rfl, hg, a1, e1⟩ := dcn_put a0 hn ro ri rv dp hl
    exact ⟨p, H', rfl, hg, kq _ _ _ a1 e1 q⟩
end
end SW

end

section
set_option Elab.async false
set_option linter.all false
set_option maxRecDepth 100000
/-! Such dicts made: {k: v}, dict(pairs). -/
namespace SW
open PySem L2 PyProof.Rows

theorem u16 {n : Nat} (h : n + 64 < cLine) : n + 16 < cLine := by omega
/-! ### {k: v, ..} -/
def dDispN (w : World) (ds : List (TD × TD)) : TD := fun δ μ Q E => dPairs ds δ (μ ++ [.dcn w [] []]) (fun ps μ2 => ∃ kk : List (List NestedKey × D), ps = kk.map (fun p => (.tup (nDs p.1), p.2)) ∧ (∀ p ∈ kk, NestedKey.depthAll p.1 ≤ 7) ∧ μ2[μ.length]? = some (.dcn w [] []) ∧ ps.length ≤ 15 ∧
  Q (.cell μ.length) (μ2.set μ.length (.dcn w (kk.foldl (fun a p => putNk (.tup p.1) a) []) (kk.foldl (fun (a : List NestedKey × List D) p => (putNk (.tup p.1) a.1, putNv (.tup p.1) p.2 a.1 a.2)) ([], [])).2))) E
def StoresN (w : World) (p : Addr) : List (V × V) → Hp → (Hp → Prop) → Prop
  | [], H, Q => Q H
  | kv :: r, H, Q => ∃ H', NPut w H p kv.1 kv.2 H' ∧ StoresN w p r H' Q
section
variable {X : Cx} {pins : List (Addr × Obj)} {σ : L2.St} {A : Around} {E : Value → Shared → Prop}
theorem n_storeAll {p : Addr} (hu : A.units + 16 < cLine) : ∀ {ps : List (V × V)} {vs : List (Value × Value)} {H : Hp} {s : Shared} {Q' : Hp → Prop} {Q : PUnit → Shared → Prop}, VV ps vs → Inv X pins σ H s → StoresN X.w p ps H Q' → (∀ H' s', Inv X pins σ H' s' → Q' H' → Q PUnit.unit s') →
    wpAny (model X.prog X.w) A (storeAll p vs) Q E s
  | _, _, H, s, Q', Q, .nil, I, h, k => by
    unfold storeAll
    rw [List.forIn_nil]
    exact wpAny_pure (k H s I h)
  | _, _, H, s, Q', Q, .cons hp t, I, ⟨H', hg, h⟩, k => by
    unfold storeAll
    rw [List.forIn_cons]
    refine wpAny_bind (wpAny_bind (n_dictSet hu I hg hp.1 hp.2 fun s' I' => wpAny_pure ?_))
    exact n_storeAll hu t I' h k
end
theorem pe_dispN {X : Cx} {pos : Pos} {keys : List (Option Expr)} {values : List Expr} {trs : List (TE × TE)} (hu : X.A.units + 16 < cLine) (h : PPs X pos keys values trs) (hall : keys.all (·.isSome) = true) (hl : keys.length = values.length) (h0 : keys ≠ [])
    (h15 : keys.length ≤ 15) : PE X (.Dict keys values pos) (fun σ H Q => ∀ p, H p = none → tPairs trs σ (upd H p (NkO X.w p [])) fun ps H2 => StoresN X.w p ps H2 fun H3 => Q (.ref p) H3) := by
  refine ⟨fun pins s σ H Q I q => ?_⟩
  have hn := I.hok.fresh (Nat.le_refl s.heap.objs.size)
  have I1 := I.laid (a := s.heap.objs.size) (o := NkO X.w s.heap.objs.size []) (h' := s.heap.push { cls := .type "dict", data := .dict #[] }) (t' := s.toks) (fun _ _ q => Heap.get?_push_of_some _ q) (Nat.le_refl _) (nk_empty s.heap I.big)
  refine wpAny_Dict_any hall hl h0 h15 (thn (h.run pins _ σ _ _ I1 (q _ hn)) fun ws s2 ⟨ps, H2, I2, rel, h2⟩ => ?_)
  exact n_storeAll hu rel I2 h2 fun H3 s3 I3 q3 => ⟨.ref s.heap.objs.size, H3, I3, rfl, q3⟩
theorem foldN_fst : ∀ (kk : List (List NestedKey × D)) (a : List NestedKey) (b : List D), (kk.foldl (fun (a : List NestedKey × List D) p => (putNk (.tup p.1) a.1, putNv (.tup p.1) p.2 a.1 a.2)) (a, b)).1 = kk.foldl (fun a p => putNk (.tup p.1) a) a
  | [], _, _ => rfl
  | p :: kk, a, b => foldN_fst kk _ _
theorem putNk_len (k : NestedKey) (kk : List NestedKey) : (putNk k kk).length ≤ kk.length + 1 := by
  unfold putNk
  split <;> simp
theorem stores_putN {K : PySem.W.Frag} {w : World} {k : Nat} {p : Addr} {Q : Hp → Prop} : ∀ {ps : List (List NestedKey × D)} {vs : List (V × V)} {g : Wd} {μ : Mu} {H : Hp} {ks : List NestedKey} {us : List D}, At K g μ H → Rp2 K g.F g.th (ps.map fun p => (.tup (nDs p.1), p.2)) vs → Rep K g.F g.th (.cell k) (.ref p) → μ[k]? = some (.dcn w ks us) →
    (∀ q ∈ ps, NestedKey.depthAll q.1 ≤ 7) → ks.length + ps.length ≤ 15 →
    (∀ H', At K g (μ.set k (.dcn w (ps.foldl (fun a p => putNk (.tup p.1) a) ks) (ps.foldl (fun (a : List NestedKey × List D) p => (putNk (.tup p.1) a.1, putNv (.tup p.1) p.2 a.1 a.2)) (ks, us)).2)) H' → Ext g H g H' → Q H') → StoresN w p vs H Q
  | [], vs, g, μ, H, ks, us, a, r, rc, hk, hy, hl, kq => by
    cases r
    refine kq H ?_ (Ext.refl _ _)
    have e : μ.set k (.dcn w ks us) = μ := by
      apply List.ext_getElem?
      intro j
      by_cases q : k = j
      · subst q
        rw [List.getElem?_set_self (List.getElem?_eq_some_iff.mp hk).1, hk]
      · rw [List.getElem?_set_ne q]
    show At K g (μ.set k (.dcn w ks us)) H
    rw [e]
    exact a
  | q :: ps, vs, g, μ, H, ks, us, a, ⟨v, r', e, r1, r2, r3⟩, rc, hk, hy, hl, kq => by
    subst e
    rw [List.length_cons] at hl
    obtain ⟨p', H', e1, hg, a1, x1⟩ := dcn_put a hk rc r1 r2 (hy q (by simp)) (by have := sizeLine_eq; omega)
    obtain rfl : p = p' := by injection e1
    have lt := (List.getElem?_eq_some_iff.mp hk).1
    have hlen := putNk_len (.tup q.1) ks
    refine ⟨H', hg, stores_putN (ps := ps) a1 r3 rc (List.getElem?_set_self lt) (fun z hz => hy z (by simp [hz])) (by omega) fun H2 a2 x2 => ?_⟩
    refine kq H2 ?_ (x1.trans x2)
    rw [List.set_set] at a2
    exact a2
theorem we_dispN {X : Cx} {W : WX} {pos : Pos} {keys : List (Option Expr)} {values : List Expr} {ds : List (TD × TD)} (hu : X.A.units + 16 < cLine) (h : PPs X pos keys values (ds.map fun p => (up X.K W p.1, up X.K W p.2))) (hall : keys.all (·.isSome) = true := by rfl) (hl : keys.length = values.length := by rfl) (h0 : keys ≠ [] := by simp)
    (h15 : keys.length ≤ 15 := by decide) : WX0 X W (.Dict keys values pos) (dDispN X.w ds) := by
  refine PE.imp (pe_dispN hu h hall hl h0 h15) ?_
  rintro σ H Q ⟨g, μ, δ, Q', E', a0, sl, h, k, kx⟩ p hp
  obtain ⟨g', eF, a1, e1, r1⟩ := a0.newN hp X.w
  refine up_pairs g' _ δ _ E' a1 (sl.ext e1) h (fun g2 H2 μ2 ps vs a2 e2 r2 ⟨kk, q0, q1, q2, q3, q⟩ => ?_) fun g3 H3 μ3 C δ3 a3 e3 s3 q3 => kx g3 H3 μ3 C δ3 a3 (e1.trans e3) s3 q3
  subst q0
  refine stores_putN a2 r2 (r1.ext e2) q2 q1 (by simpa using q3) fun H3 a3 e3 => ?_
  exact k g2 H3 _ _ _ a3 (e1.trans (e2.trans e3)) ((r1.ext e2).ext e3) q

/-! ### dict(pairs) -/
def mergeN (xs : List NEnt) : List NEnt → List NEnt
  | [] => xs
  | y :: ys => mergeN (putN xs y.1 y.2.1 y.2.2) ys
theorem NR.merge {more : List NEnt} {ms : List (NestedKey × Addr × Value)} (r : NR more ms) : ∀ {xs : List NEnt} {ys : List (NestedKey × Addr × Value)}, NR xs ys → NR (mergeN xs more) (storedAllH ys ms) := by
  induction r with
  | nil => exact fun q => q
  | @cons x y xs' ys' q t ih =>
    intro xs ys rr
    show NR (mergeN (putN xs x.1 x.2.1 x.2.2) xs') (storedAllH (storedH ys y.1 y.2.1 y.2.2) ys')
    rw [← q.1, ← q.2.1]
    exact ih (rr.put _ _ q.2.2)
theorem mergeN_len : ∀ (more xs : List NEnt), (mergeN xs more).length ≤ xs.length + more.length
  | [], xs => Nat.le_refl _
  | y :: ys, xs => by
    have h1 := mergeN_len ys (putN xs y.1 y.2.1 y.2.2)
    have h2 := putN_len xs y.1 y.2.1 y.2.2
    show (mergeN (putN xs y.1 y.2.1 y.2.2) ys).length ≤ _
    rw [List.length_cons]
    omega
theorem mergeN_all {p : NestedKey → Addr → Prop} : ∀ {more xs : List NEnt}, (∀ x ∈ xs, p x.1 x.2.1) → (∀ x ∈ more, p x.1 x.2.1) → ∀ x ∈ mergeN xs more, p x.1 x.2.1
  | [], xs, h, _ => h
  | y :: ys, xs, h, h2 => mergeN_all (more := ys) (putN_all h (h2 y List.mem_cons_self)) fun x hx => h2 x (List.mem_cons_of_mem _ hx)
section
variable {X : Cx} {pins : List (Addr × Obj)} {σ : L2.St} {H : Hp} {s : Shared}
abbrev PT2 (H : Hp) : List Addr → List NEnt → Prop := Paired fun q x => H q = some (.tup [.ref x.2.1, x.2.2])
theorem pt2_get {as : List Addr} {ents : List NEnt} {ys : List (NestedKey × Addr × Value)} (I : Inv X pins σ H s) (h : PT2 H as ents) : ∃ ys, NR ents ys ∧ ys.length = as.length ∧
    ∀ (j : Nat) (y : NestedKey × Addr × Value), ys[j]? = some y → ∃ a, as[j]? = some a ∧ s.heap.IsTuple a #[.ref y.2.1, y.2.2] := by
  induction h with
  | nil => exact ⟨[], .nil, rfl, fun j y e => by simp at e⟩
  | @cons a x as ents q t ih =>
    obtain ⟨ys, h1, h2, h3⟩ := ih
    obtain ⟨_, its, rv, ob, hg, hc, n, hd⟩ := (show ObjOk X.prog X.w H s.heap a (.tup [.ref x.2.1, x.2.2]) from I.hok a _ q)
    obtain ⟨u1, u2, rfl, r1, r2⟩ := vals2 rv
    obtain rfl : u1 = .ref x.2.1 := r1
    refine ⟨(x.1, x.2.1, u2) :: ys, .cons ⟨rfl, rfl, r2⟩ h1, by simp [h2], fun j y e => ?_⟩
    cases j with
    | zero =>
      simp only [List.getElem?_cons_zero, Option.some.injEq] at e
      subst e
      exact ⟨a, rfl, ob, hg, hc, n, hd⟩
    | succ j =>
      rw [List.getElem?_cons_succ] at e ⊢
      exact h3 j y e
theorem call_dictN (hc : X.calm = true) (hu : X.A.units + 16 < cLine) : CallR X (.type "dict") (fun xs H Q => ∃ (a : Addr) (as : List Addr) (ents : List NEnt), xs = [.ref a] ∧ SqL X.K H a (as.map V.ref) ∧ PT2 H as ents ∧ Kn H ents ∧ (∀ x ∈ ents, x.1.depth ≤ 8) ∧
    ∀ p, H p = none → Q (.ref p) (upd H p (NkO X.w p (mergeN [] ents)))) := by
  intro pins s σ H xs us Q I r ⟨a, as, ents, ex, hq, hp, kn, dp, q⟩
  subst ex
  obtain ⟨u, rfl, rx⟩ := vals1 r
  obtain rfl : u = .ref a := rx
  obtain ⟨its, rv, pl, hz⟩ := I.list hq
  have ei := refs_at rv
  subst ei
  rw [List.length_map] at hz
  obtain ⟨ys, nr, hl, hys⟩ := pt2_get (ys := []) I hp
  have his : ∀ y ∈ ys, (nestedKind X.prog X.w).is s.heap y.1 y.2.1 := nr.all (p := fun k b => (nestedKind X.prog X.w).is s.heap k b) fun x hx => ⟨nk_is I.hok _ _ _ (kn x hx) rfl, dp x hx⟩
  refine call_dict_pairsH (knd := nestedKind X.prog X.w) (ps := ys) (PairArg.list a (as.map Value.ref).toArray (fun j => as.getD j 0) (ys.map fun y => (.ref y.2.1, y.2.2))) (I.ok.hd hc) (by show X.A.units + 1 + 1 + 8 < cLine; omega) ⟨pl, by simp [hl], fun j k v e => ?_⟩ ⟨by simp, fun i k v e => ?_⟩
    (fun h' k x hx => nestedKind_stays.stays (fun b o _ _ e _ => k b o (Nat.ne_of_lt (Heap.lt_size e)) (fun z => nomatch z) e) (his x hx)) (by rw [List.length_map, hl]; exact hz) fun h' tk hd k => ?_
  · rw [List.getElem?_map] at e
    obtain ⟨y, hy, e2⟩ := Option.map_eq_some_iff.mp e
    injection e2 with e3 e4
    subst e3 e4
    obtain ⟨b, hb, ht⟩ := hys j y hy
    have eb : as.getD j 0 = b := by rw [List.getD_eq_getElem?_getD, hb]; rfl
    dsimp only
    rw [eb]
    refine ⟨?_, .inl ht⟩
    show (as.map Value.ref).toArray[j]? = _
    rw [List.getElem?_toArray, List.getElem?_map, hb]
    rfl
  · have e : (ys.map fun y => (Value.ref y.2.1, y.2.2))[i]? = some (k, v) := e
    rw [List.getElem?_map] at e
    obtain ⟨y, hy, e2⟩ := Option.map_eq_some_iff.mp e
    injection e2 with e3 e4
    subst e3 e4
    exact ⟨y.1, y.2.1, hy, rfl⟩
  · have hm : (s.heap.objs.size == sysModules) = false := beq_eq_false_iff_ne.mpr (Nat.ne_of_gt I.big)
    have le : ents.length = ys.length := Paired.length nr
    have hlen : (mergeN [] ents).length ≤ sizeLine := by
      have := mergeN_len ents []
      rw [List.length_nil] at this
      omega
    exact ⟨.ref s.heap.objs.size, _, I.laid (t' := tk) (fun b o e => k b o (fun z => nomatch z) e) (Nat.le_refl _) (nk_close hlen hm (mergeN_all (p := fun k _ => k.depth ≤ 8) (fun _ z => nomatch z) dp) (nr.merge .nil) hd), rfl, q _ (I.hok.fresh (Nat.le_refl _))⟩
end
section
variable {K : PySem.W.Frag} {F : Hp} {θ : List Addr}
theorem pairsN_rd {H : Hp} (s : Sub F H) : ∀ {ps : List (List NestedKey × D)} {vs : List V}, Reps K F θ (ps.map fun p => .tup [.tup (nDs p.1), p.2]) vs → (∀ p ∈ ps, NestedKey.depthAll p.1 ≤ 7) →
    ∃ (as : List Addr) (ents : List NEnt), vs = as.map V.ref ∧ PT2 H as ents ∧ Kn F ents ∧ (∀ x ∈ ents, x.1.depth ≤ 8) ∧ ents.map (·.1) = ps.map (fun p => .tup p.1) ∧ Reps K F θ (ps.map (·.2)) (ents.map (·.2.2))
  | [], vs, r, _ => by
    unfold List.map Reps at r
    subst r
    exact ⟨[], [], rfl, .nil, (fun _ z => nomatch z), (fun _ z => nomatch z), rfl, Reps.nil⟩
  | p :: ps, vs, r, h => by
    rw [List.map_cons] at r
    unfold Reps at r
    obtain ⟨v, t, rfl, r1, r2⟩ := r
    obtain ⟨as, ents, rfl, h1, h2, h3, h4, h5⟩ := pairsN_rd s r2 fun q hq => h q (List.mem_cons_of_mem _ hq)
    unfold Rep at r1
    obtain ⟨q, ws, rfl, hF, rw'⟩ := r1
    obtain ⟨u, w, rfl, ru, rw2⟩ := reps2 rw'
    have nk := rep_nD (.tup p.1) u (by unfold nD; exact ru)
    obtain ⟨b, us, rfl, _⟩ := id nk
    have dp := h p List.mem_cons_self
    refine ⟨q :: as, (.tup p.1, b, w) :: ents, rfl, .cons (s _ _ hF) h1, ?_, ?_, ?_, Reps.cons rw2 h5⟩
    · intro x hx
      rcases List.mem_cons.mp hx with rfl | hx
      · exact nk
      · exact h2 x hx
    · intro x hx
      rcases List.mem_cons.mp hx with rfl | hx
      · show NestedKey.depthAll p.1 + 1 ≤ 8
        omega
      · exact h3 x hx
    · rw [List.map_cons, List.map_cons, h4]
theorem mergeN_ent : ∀ {ps : List (List NestedKey × D)} {ents : List NEnt} {kk : List NestedKey} {bs : List Addr} {us : List D} {ws : List V}, ents.map (·.1) = ps.map (fun p => .tup p.1) → Kn F ents → Reps K F θ (ps.map (·.2)) (ents.map (·.2.2)) → kk.length = ws.length → Reps K F θ us ws → NKs F kk (bs.map V.ref) →
    ∃ (bs' : List Addr) (ws' : List V), mergeN (nents kk bs ws) ents = nents (ps.foldl (fun a p => putNk (.tup p.1) a) kk) bs' ws' ∧ (ps.foldl (fun a p => putNk (.tup p.1) a) kk).length = ws'.length ∧
      Reps K F θ (ps.foldl (fun (a : List NestedKey × List D) p => (putNk (.tup p.1) a.1, putNv (.tup p.1) p.2 a.1 a.2)) (kk, us)).2 ws' ∧ NKs F (ps.foldl (fun a p => putNk (.tup p.1) a) kk) (bs'.map V.ref)
  | [], ents, kk, bs, us, ws, h1, _, _, hl, r, nk => by
    obtain rfl : ents = [] := List.map_eq_nil_iff.mp h1
    exact ⟨bs, ws, rfl, hl, r, nk⟩
  | p :: ps, [], kk, bs, us, ws, h1, _, _, hl, r, nk => by simp at h1
  | p :: ps, x :: ents, kk, bs, us, ws, h1, kn, h2, hl, r, nk => by
    rw [List.map_cons, List.map_cons] at h1 h2
    injection h1 with e1 e2
    unfold Reps at h2
    obtain ⟨v, t, e, r1, r2⟩ := h2
    injection e with e3 e4
    subst e3 e4
    have hx := kn x List.mem_cons_self
    rw [e1] at hx
    obtain ⟨bs', ws', q1, q2, q3, q4⟩ := put_ent (.tup p.1) r1 hx r hl nk
    obtain ⟨bs2, ws2, z1, z2, z3, z4⟩ := mergeN_ent (us := putNv (.tup p.1) p.2 kk us) e2 (fun y hy => kn y (List.mem_cons_of_mem _ hy)) r2 q2 q3 q4
    refine ⟨bs2, ws2, ?_, z2, z3, z4⟩
    show mergeN (putN (nents kk bs ws) x.1 x.2.1 x.2.2) ents = _
    rw [e1, q1]
    exact z1
end
def dDictN (w : World) : DUn := fun x μ Q => ∃ ps : List (List NestedKey × D), rdL μ x = some (ps.map fun p => .tup [.tup (nDs p.1), p.2]) ∧ (∀ p ∈ ps, NestedKey.depthAll p.1 ≤ 7) ∧
  Q (.cell μ.length) (μ ++ [.dcn w (ps.foldl (fun a p => putNk (.tup p.1) a) []) (ps.foldl (fun (a : List NestedKey × List D) p => (putNk (.tup p.1) a.1, putNv (.tup p.1) p.2 a.1 a.2)) ([], [])).2])
theorem ld_dictN {X : Cx} (hu : X.A.units + 16 < cLine) (hc : X.calm = true := by rfl) : CalD X (.type "dict") (ca1 (dDictN X.w)) := by
  refine ⟨_, call_dictN hc hu, ?_⟩
  rintro g μ H xs as Q' Q a0 rs ⟨x, rfl, ps, hx, hk, q⟩ k
  obtain ⟨v, rfl, rv⟩ := reps1 rs
  obtain ⟨p, vs, rfl, h1, rr⟩ := rdL_rd a0 rv hx
  obtain ⟨bs, ents, rfl, z1, z2, z3, z4, z5⟩ := pairsN_rd a0.sub rr hk
  refine ⟨p, bs, ents, rfl, h1, z1, z2.sub a0.sub, z3, fun n hn => ?_⟩
  obtain ⟨cs, ws, m1, m2, m3, m4⟩ := mergeN_ent (kk := []) (bs := []) (us := []) (ws := []) z4 z2 z5 rfl Reps.nil rfl
  rw [show mergeN [] ents = nents _ cs ws from m1]
  have r : RepO X.K g.F (g.th ++ [n]) (upd H n (NkO X.w n (nents (ps.foldl (fun a p => putNk (.tup p.1) a) []) cs ws))) n (.dcn X.w (ps.foldl (fun a p => putNk (.tup p.1) a) []) (ps.foldl (fun (a : List NestedKey × List D) p => (putNk (.tup p.1) a.1, putNv (.tup p.1) p.2 a.1 a.2)) ([], [])).2) := by
    refine ⟨ws, cs, upd_same, Reps.mono (fun _ _ e => e) (fun k p e => ?_) _ _ m3, m2, m4⟩
    rw [List.getElem?_append_left (List.getElem?_eq_some_iff.mp e).1]
    exact e
  obtain ⟨a1, e1, r1⟩ := a0.newC hn r
  exact k _ _ _ _ _ a1 e1 r1 q

/-! ### the rules, the world by its name -/
section
variable {X : Cx} {W : WX} {w : World} {a b : Expr} {A B : TD} {pos : Pos}
theorem we_ixW (hw : X.w = w) (hu : X.A.units + 16 < cLine) (ha : WX0 X W a A) (hb : WX0 X W b B) (hs : NoSl b := by exact fun _ _ => rfl) : WX0 X W (.Subscript a b pos) (dOp (dIxN w) A B) := by subst hw; exact we_ixN hu ha hb hs
theorem cd_notInW (hw : X.w = w) (hu : X.A.units + 16 < cLine) : CmpD X .NotIn (dInN w true) := by subst hw; exact cd_notInN hu
theorem sd_W (hw : X.w = w) (hu : X.A.units + 16 < cLine) : SetD X (dSetN w) := by subst hw; exact sd_dcn hu
theorem we_dispW {keys : List (Option Expr)} {values : List Expr} {ds : List (TD × TD)} (hw : X.w = w) (hu : X.A.units + 16 < cLine) (h : PPs X pos keys values (ds.map fun p => (up X.K W p.1, up X.K W p.2))) (hall : keys.all (·.isSome) = true := by rfl) (hl : keys.length = values.length := by rfl) (h0 : keys ≠ [] := by simp)
    (h15 : keys.length ≤ 15 := by decide) : WX0 X W (.Dict keys values pos) (dDispN w ds) := by subst hw; exact we_dispN hu h hall hl h0 h15
theorem ld_dictW (hw : X.w = w) (hu : X.A.units + 16 < cLine) (hc : X.calm = true := by rfl) : CalD X (.type "dict") (ca1 (dDictN w)) := by subst hw; exact ld_dictN hu hc
end
/-! ### steps -/
section
variable {w : World} {μ : Mu} {Q : DQ} {n : Nat} {kk ks : List NestedKey} {vs : List D} {x y u : D}
theorem dcn_c (h : μ[n]? = some (.dcn w kk vs)) : dcnOf w μ (.cell n) kk vs := .inr ⟨n, rfl, .inl h⟩
theorem dcn_f : dcnOf w μ (.dcn w kk vs) kk vs := .inl rfl
theorem st_ixN (ks : List NestedKey) (h1 : dcnOf w μ x kk vs) (e : y = .tup (nDs ks)) (h2 : NestedKey.depthAll ks ≤ 7) (h3 : lookN (.tup ks) kk vs = some u) (q : Q u μ) : dIxN w x y μ Q := ⟨kk, vs, ks, u, h1, e, h2, h3, q⟩
theorem st_ninN (ks : List NestedKey) (h1 : dcnOf w μ x kk vs) (e : y = .tup (nDs ks)) (h2 : NestedKey.depthAll ks ≤ 7) (q : Q (.bl (!(lookN (.tup ks) kk vs).isSome)) μ) : dInN w true y x μ Q := ⟨kk, vs, ks, h1, e, h2, q⟩
theorem st_setN {K : Mu → Prop} (ks : List NestedKey) (h1 : μ[n]? = some (.dcn w kk vs)) (e : y = .tup (nDs ks)) (h2 : NestedKey.depthAll ks ≤ 7) (h3 : kk.length < sizeLine) (q : K (μ.set n (.dcn w (putNk (.tup ks) kk) (putNv (.tup ks) u kk vs)))) : dSetN w (.cell n) y u μ K := ⟨n, kk, vs, ks, rfl, h1, e, h2, h3, q⟩
theorem st_dispN {δ : DS} {E : DE} {ds : List (TD × TD)} (h : dPairs ds δ (μ ++ [.dcn w [] []]) (fun ps μ2 => ∃ kk : List (List NestedKey × D), ps = kk.map (fun p => (.tup (nDs p.1), p.2)) ∧ (∀ p ∈ kk, NestedKey.depthAll p.1 ≤ 7) ∧ μ2[μ.length]? = some (.dcn w [] []) ∧ ps.length ≤ 15 ∧
  Q (.cell μ.length) (μ2.set μ.length (.dcn w (kk.foldl (fun a p => putNk (.tup p.1) a) []) (kk.foldl (fun (a : List NestedKey × List D) p => (putNk (.tup p.1) a.1, putNv (.tup p.1) p.2 a.1 a.2)) ([], [])).2))) E) : dDispN w ds δ μ Q E := h
theorem st_dictN (ps : List (List NestedKey × D)) (h : rdL μ x = some (ps.map fun p => .tup [.tup (nDs p.1), p.2])) (h2 : ∀ p ∈ ps, NestedKey.depthAll p.1 ≤ 7)
    (q : Q (.cell μ.length) (μ ++ [.dcn w (ps.foldl (fun a p => putNk (.tup p.1) a) []) (ps.foldl (fun (a : List NestedKey × List D) p => (putNk (.tup p.1) a.1, putNv (.tup p.1) p.2 a.1 a.2)) ([], [])).2])) : dDictN w x μ Q := ⟨ps, h, h2, q⟩
end
end SW

end

section
set_option Elab.async false
set_option linter.all false
set_option maxRecDepth 100000
/-! A dict of lists, changed no more: the lists first, then the dict. -/
namespace SW
open PySem L2 PyProof.Rows
def dFrzM (w : World) (A : TD) : TD := fun δ μ Q E => A δ μ (fun x μ1 => ∃ (n : Nat) (kk : List NestedKey) (ks : List Nat) (rows : List (List D)), x = .cell n ∧ μ1[n]? = some (.dcn w kk (ks.map .cell)) ∧ ks.Nodup ∧ n ∉ ks ∧ ks.length = rows.length ∧
  (∀ (i k : Nat) r, ks[i]? = some k → rows[i]? = some r → μ1[k]? = some (.lst r)) ∧ Q (.dcn w kk (rows.map .lst)) ((deadAll μ1 ks).set n .dead)) E
theorem we_frzM {X : Cx} {W : WX} {e : Expr} {A : TD} (w : World) (h : WX0 X W e A) : WX0 X W e (dFrzM w A) := by
  refine PE.imp (pe_gl h) ?_
  rintro σ H Q ⟨g, μ, δ, Q', E', at0, sl, h, k, kx⟩
  refine ⟨g, μ, δ, _, E', at0, sl, h, fun g1 H1 μ1 x v a1 e1 r1 ⟨n, kk, ks, rows, hx, hn, nd, hm, hl, hr, q1⟩ => ?_, kx⟩
  subst hx
  obtain ⟨p, ev, hp, hF, ws, bs, hH, rw', hlk, nk⟩ := a1.cellAt hn (by simp) r1
  subst ev
  obtain ⟨g2, a2, e2, r2⟩ := frz_list ks rows ws g1 μ1 a1 rw' nd hl hr
  have hn2 : (deadAll μ1 ks)[n]? = some (.dcn w kk (ks.map .cell)) := by rw [deadAll_other ks μ1 n hm]; exact hn
  refine .inr ⟨p, _, hH, trivial, fun od => ?_⟩
  obtain ⟨a3, e3⟩ := a2.frzL (ho := .frz od (NkO w p (nents kk bs ws))) hn2 (by simp) (e2.ix _ _ hp)
  refine k _ _ _ _ _ a3 (e1.trans (e2.trans e3)) ?_ q1
  unfold Rep
  exact ⟨p, ws, bs, rfl, r2.ext e3, hlk, NKs.mono e3.F _ _ (NKs.mono e2.F _ _ nk), od, upd_same⟩
theorem st_frzM {w : World} {A : TD} {δ : DS} {μ : Mu} {Q : DQ} {E : DE} (h : A δ μ (fun x μ1 => ∃ (n : Nat) (kk : List NestedKey) (ks : List Nat) (rows : List (List D)), x = .cell n ∧ μ1[n]? = some (.dcn w kk (ks.map .cell)) ∧ ks.Nodup ∧ n ∉ ks ∧ ks.length = rows.length ∧
  (∀ (i k : Nat) r, ks[i]? = some k → rows[i]? = some r → μ1[k]? = some (.lst r)) ∧ Q (.dcn w kk (rows.map .lst)) ((deadAll μ1 ks).set n .dead)) E) : dFrzM w A δ μ Q E := h
theorem st_frzN {A : TD} {δ : DS} {μ : Mu} {Q : DQ} {E : DE} (h : A δ μ (fun x μ1 => ∃ n w kk vs, x = .cell n ∧ μ1[n]? = some (.dcn w kk vs) ∧ Q (.dcn w kk vs) (μ1.set n .dead)) E) : dFrzN A δ μ Q E := h
theorem st_frzN1 {w : World} {n : Nat} {kk : List NestedKey} {vs : List D} {μ : Mu} {P : Nat → World → List NestedKey → List D → Prop} (h : μ[n]? = some (.dcn w kk vs)) (q : P n w kk vs) : ∃ n' w' kk' vs', D.cell n = .cell n' ∧ μ[n']? = some (.dcn w' kk' vs') ∧ P n' w' kk' vs' := ⟨n, w, kk, vs, rfl, h, q⟩
end SW

end

section
set_option Elab.async false
set_option linter.all false
set_option maxRecDepth 100000
set_option maxHeartbeats 3200000
/-! Sets of numbers and texts: which keys stand in one, entry by entry; how it is made of what is walked. -/
namespace SW
open PySem PySem.Spec L2 PyProof.Rows

/-! ### entries and keys -/
theorem paired_of_perm {α β : Type} {R : α → β → Prop} {l m : List α} (p : l.Perm m) : ∀ {ys : List β}, Paired R m ys → ∃ zs, Paired R l zs ∧ zs.Perm ys := by
  induction p with
  | nil => exact fun h => ⟨_, h, .refl _⟩
  | cons x p ih =>
    intro ys h
    cases h with
    | cons r h =>
      obtain ⟨zs, h1, h2⟩ := ih h
      exact ⟨_, .cons r h1, h2.cons _⟩
  | swap x y l =>
    intro ys h
    cases h with
    | cons r h =>
      cases h with
      | cons r2 h => exact ⟨_, .cons r2 (.cons r h), .swap _ _ _⟩
  | trans p q ih1 ih2 =>
    intro ys h
    obtain ⟨zs, a, b⟩ := ih2 h
    obtain ⟨us, c, d⟩ := ih1 a
    exact ⟨us, c, d.trans b⟩
/-- an entry that stands for a key -/
def Ent (P : Program) (w : World) (e : Int × Value) (k : Key) : Prop := RelV (kV k) e.2 ∧ e.1 = (mixKind P w).hash k
/-- entries that stand for keys, in any order -/
def Ents (P : Program) (w : World) (l : List (Int × Value)) (ks : List Key) : Prop := ∃ js, Paired (Ent P w) l js ∧ js.Perm ks
section
variable {P : Program} {w : World} {l m : List (Int × Value)} {ks : List Key} {k : Key} {v : Value}
theorem Ents.reorder (h : Ents P w l ks) (p : m.Perm l) : Ents P w m ks :=
  let ⟨_, h1, h2⟩ := h
  let ⟨zs, h3, h4⟩ := paired_of_perm p h1
  ⟨zs, h3, h4.trans h2⟩
theorem Ents.more (h : Ents P w l ks) (r : RelV (kV k) v) : Ents P w (l ++ [((mixKind P w).hash k, v)]) (ks ++ [k]) :=
  let ⟨js, h1, h2⟩ := h
  ⟨js ++ [k], h1.snoc ⟨r, rfl⟩, h2.append_right [k]⟩
theorem Ents.length (h : Ents P w l ks) : l.length = ks.length := let ⟨_, h1, h2⟩ := h; h1.length.trans h2.length_eq
theorem Ents.scan (h : Ents P w l ks) : ElemsOf (mixKind P w) l := by
  obtain ⟨js, h1, h2⟩ := h
  clear h2
  induction h1 with
  | nil => exact fun _ z => nomatch z
  | cons r _ ih =>
    intro x hx
    cases hx with
    | head => exact ⟨⟨_, kV_is r.1, r.2⟩, key_scan r.1⟩
    | tail _ hx => exact ih x hx
theorem Ents.has (h : Ents P w l ks) : (∃ e ∈ l, (mixKind P w).is k e.2 = true) ↔ k ∈ ks := by
  obtain ⟨js, h1, h2⟩ := h
  rw [← h2.mem_iff]
  clear h2
  induction h1 with
  | nil => simp
  | @cons e j es js r _ ih =>
    rw [List.mem_cons, ← ih]
    constructor
    · rintro ⟨x, hx, q⟩
      cases hx with
      | head => exact .inl ((mixKind P w).inj e.2 j k (kV_is r.1) q).symm
      | tail _ hx => exact .inr ⟨x, hx, q⟩
    · rintro (rfl | ⟨x, hx, q⟩)
      · exact ⟨e, .head _, kV_is r.1⟩
      · exact ⟨x, .tail _ hx, q⟩
end
/-! ### a set at a place -/
/-- a table in order -/
structure TabOk (w : World) (t : SetTable) (n : Nat) : Prop where
  fits : t.fits n = true
  ris : Ris t.place.toList
  led : w.params.followText "set-order" = true ∨ t.led = true
section
variable {w : World} {t : SetTable} {n : Nat}
theorem TabOk.off (h : TabOk w t n) : TabOk w { t with plain := false } n := ⟨SetTable.fits_plain_off h.fits, h.ris, h.led⟩
theorem TabOk.lay (h : TabOk w t n) (es : Array (Int × Value)) (i : Int) (v : Value) : TabOk w (layNew t es i v).2.1 (layNew t es i v).1.size :=
  ⟨layNew_fits t es i v, layNew_ris t es i v h.ris, by rw [layNew_led]; exact h.led⟩
theorem TabOk.relay (h : TabOk w t n) (es : Array (Int × Value)) (m : Nat) : TabOk w (relayAll t es m).2.1 (relayAll t es m).1.size :=
  ⟨relayAll_fits t es m, relayAll_ris t es m, by rw [relayAll_led]; exact h.led⟩
end
/-- at a stands a set that has just the keys ks -/
def SetHas (P : Program) (w : World) (h : Heap) (a : Addr) (ks : List Key) : Prop :=
  ∃ o es ep t, (h.get? a = some o ∧ o.ExactSet ∧ o.data = .set es ep t) ∧ Ents P w es.toList ks ∧ ks.Nodup ∧ ks.length < scanBound ∧ TabOk w t es.size
theorem SetHas.keep {P : Program} {w : World} {h h' : Heap} {a : Addr} {ks : List Key} (R : SetHas P w h a ks) (k : ∀ o, h.get? a = some o → h'.get? a = some o) : SetHas P w h' a ks :=
  let ⟨o, es, ep, t, ⟨ho, r⟩, q⟩ := R
  ⟨o, es, ep, t, ⟨k o ho, r⟩, q⟩
open Classical in
/-- a key more -/
noncomputable def addK (ks : List Key) (k : Key) : List Key := if k ∈ ks then ks else ks ++ [k]
noncomputable def uniqK (ks : List Key) : List Key := ks.foldl addK []
theorem addK_mem {ks : List Key} {k j : Key} : j ∈ addK ks k ↔ j ∈ ks ∨ j = k := by
  unfold addK
  split
  · exact ⟨.inl, fun h => h.elim id fun e => by rw [e]; assumption⟩
  · rw [List.mem_append, List.mem_singleton]
theorem addK_len (ks : List Key) (k : Key) : (addK ks k).length ≤ ks.length + 1 := by
  unfold addK
  split
  · omega
  · rw [List.length_append]; exact Nat.le_refl _
theorem uniqK_snoc (ks : List Key) (k : Key) : uniqK (ks ++ [k]) = addK (uniqK ks) k := by unfold uniqK; rw [List.foldl_append]; rfl
theorem uniqK_len (ks : List Key) : (uniqK ks).length ≤ ks.length := by
  have : ∀ ks acc : List Key, (ks.foldl addK acc).length ≤ acc.length + ks.length := fun ks => by
    induction ks with
    | nil => exact fun acc => Nat.le_refl _
    | cons k ks ih =>
      intro acc
      have h1 := ih (addK acc k)
      have h2 := addK_len acc k
      rw [List.foldl_cons, List.length_cons]
      omega
  have := this ks []
  rw [List.length_nil, Nat.zero_add] at this
  exact this
theorem uniqK_mem {ks : List Key} {k : Key} : k ∈ uniqK ks ↔ k ∈ ks := by
  have : ∀ ks acc : List Key, k ∈ ks.foldl addK acc ↔ k ∈ acc ∨ k ∈ ks := fun ks => by
    induction ks with
    | nil => exact fun acc => by simp
    | cons j ks ih =>
      intro acc
      rw [List.foldl_cons, ih, addK_mem, List.mem_cons, or_assoc]
  exact (this ks []).trans (by simp)
/-! ### one key more -/
section
variable {P : Program} {w : World} {A : Around} {E : Value → Shared → Prop} {s : Shared} {a : Addr} {ks : List Key} {k : Key} {v : Value}
theorem gave_way {g : Bool → Sem Unit} (b : Bool) {s : Shared} {Q : Unit → Shared → Prop} (q : Q () s) (h0 : g false = pure () := by rfl) (h1 : ∃ r, g true = rule r := by exact ⟨_, rfl⟩) : wpAny (model P w) A (g b) Q E s := by
  obtain ⟨r, h1⟩ := h1
  cases b
  · rw [h0]; exact wpAny_pure q
  · rw [h1]; exact wpAny_rule q
theorem by_value {α : Type} {c : Prop} [Decidable c] {F : Bool → Sem α} {Q : α → Shared → Prop} (sc : v.scannable = true) (q : ∀ b, wpAny (model P w) A (F b) Q E s) : wpAny (model P w) A (if c then hashByValue 8 v >>= F else pure true >>= F) Q E s := by
  by_cases h : c
  · rw [if_pos h, hashByValue_scannable 8 sc]
    exact wpAny_bind (wpAny_pure (q _))
  · rw [if_neg h]
    exact wpAny_bind (wpAny_pure (q true))
/-- entries are written -/
theorem set_write {o : Obj} {es es' : Array (Int × Value)} {ep : Nat} {t t' : SetTable} {Q : Unit → Shared → Prop} (g : s.heap.get? a = some o ∧ o.ExactSet ∧ o.data = .set es ep t) (he : Ents P w es'.toList ks) (hb : ks.length < scanBound)
    (q : ∀ h' o', Heap.SameBut a s.heap h' → (h'.get? a = some o' ∧ o'.ExactSet ∧ o'.data = .set es' (ep + 1) t') → Q () { s with heap := h' }) : wpAny (model P w) A (storeSet a es' t') Q E s :=
  wpAny_storeSet_of g.1 g.2.2 (q _ _ (Heap.SameBut.update s.heap a _) ⟨store_at g.1 g.2.2, g.2.1, rfl⟩) (fits_of_scanBound (by rw [← Array.length_toList, he.length]; exact hb))
theorem set_addHashed {Q : Bool → Shared → Prop} (rv : RelV (kV k) v) (R : SetHas P w s.heap a ks) (room : ks.length + 1 < scanBound)
    (q : ∀ b h', Heap.SameBut a s.heap h' → SetHas P w h' a (addK ks k) → Q b { s with heap := h' }) : wpAny (model P w) A (setAddHashed a v ((mixKind P w).hash k)) Q E s := by
  obtain ⟨o, es, ep, t, g, he, nd, hb, ht⟩ := id R
  have sc := key_scan rv
  have eb : es.size < scanBound := by rw [← Array.length_toList, he.length]; exact hb
  unfold setAddHashed setAddHashedIn
  refine wpAny_holding (wpAny_bind (wpAny_setState_of g.1 g.2.2 ht.fits ?_))
  dsimp only
  rw [byScan_of sc eb he.scan, if_pos rfl]
  unfold setAddByScan
  refine wpAny_bind (wpAny_bind (wpAny_rule (wpAny_bind (wpAny_setScan_of (kV_is rv) g.1 g.2.2 ht.fits he.scan ?_))))
  by_cases hk : k ∈ ks
  · obtain ⟨e, h1, h2⟩ := he.has.mpr hk
    obtain ⟨j, hj⟩ := Option.isSome_iff_exists.mp (List.findIdx?_isSome ▸ List.any_eq_true.mpr ⟨e, h1, h2⟩ : (es.toList.findIdx? fun e => (mixKind P w).is k e.2).isSome = true)
    rw [hj]
    have e1 : addK ks k = ks := if_pos hk
    exact wpAny_pure (wpAny_pure (q _ _ (Heap.SameBut.refl a s.heap) (by rw [e1]; exact R)))
  · have hj : es.toList.findIdx? (fun e => (mixKind P w).is k e.2) = none := List.findIdx?_eq_none_iff.mpr fun e h1 => by
      cases h2 : (mixKind P w).is k e.2
      · rfl
      · exact absurd (he.has.mp ⟨e, h1, h2⟩) hk
    rw [hj]
    dsimp only
    have p1 := layNew_perm t es ((mixKind P w).hash k) v
    have t1 := ht.lay es ((mixKind P w).hash k) v
    generalize layNew t es ((mixKind P w).hash k) v = Z at p1 t1 ⊢
    obtain ⟨es1, tb, dm, gv⟩ := Z
    dsimp only at p1 t1 ⊢
    have e1 : Ents P w es1.toList (ks ++ [k]) := (he.more rv).reorder (by rw [← Array.toList_push]; exact p1)
    have n1 : (ks ++ [k]).Nodup := List.nodup_append.mpr ⟨nd, List.pairwise_singleton _ _, fun x hx y hy z => hk (by rw [← List.mem_singleton.mp hy, ← z]; exact hx)⟩
    have b1 : (ks ++ [k]).length < scanBound := by rw [List.length_append]; exact room
    have last : ∀ h', Heap.SameBut a s.heap h' → SetHas P w h' a (ks ++ [k]) → Q true { s with heap := h' } := fun h' sb r => q _ _ sb (by rw [show addK ks k = ks ++ [k] from if_neg hk]; exact r)
    refine wpAny_bind (gave_way gv (by_value sc fun b => ?_))
    have t2 : TabOk w (if b = true then tb else { tb with plain := false }) es1.size := by
      split
      · exact t1
      · exact t1.off
    generalize (if b = true then tb else { tb with plain := false }) = tc at t2 ⊢
    refine wpAny_bind (set_write g e1 b1 fun h1 o1 sb1 g1 => ?_)
    split
    · have p3 := relayAll_perm tc es1 (SetTable.grown es1.size)
      have t3 := t2.relay es1 (SetTable.grown es1.size)
      generalize relayAll tc es1 (SetTable.grown es1.size) = Z at p3 t3 ⊢
      obtain ⟨es3, td, gw⟩ := Z
      dsimp only at p3 t3 ⊢
      refine wpAny_bind (gave_way gw (wpAny_bind (set_write (s := { s with heap := h1 }) g1 (e1.reorder p3) b1 fun h2 o2 sb2 g2 => ?_)))
      exact wpAny_pure (wpAny_pure (last _ (sb1.trans sb2) ⟨_, _, _, _, g2, e1.reorder p3, n1, b1, t3⟩))
    · exact wpAny_pure (wpAny_pure (last _ sb1 ⟨_, _, _, _, g1, e1, n1, b1, t2⟩))
end
/-! ### what is walked goes in, key by key -/
section
variable {P : Program} {w : World} {A : Around} {E : Value → Shared → Prop}
abbrev sameG : Array GenState → Array GenState → Prop := fun a b => b = a
theorem set_loop {I : Addr} {fp wr : List Addr} {n : Nat} {Pv : Nat → Value → Prop} {St : Nat → Shared → Prop} {R : Result → Shared → Prop} (W : WalksS P w A.in1 I fp wr sameG n Pv St) {S : Addr} (hS : S ∉ fp)
    {ks : List Key} (hn : n = ks.length) (few : ks.length < scanBound) (val : ∀ i v, Pv i v → ∃ k, ks[i]? = some k ∧ RelV (kV k) v) {h0 : Heap} (fr : ∀ b ∈ S :: wr, h0.get? b = none) :
    ∀ (todo done : List Key) (s : Shared), ks = done ++ todo → St done.length s → (∀ b o, h0.get? b = some o → s.heap.get? b = some o) → SetHas P w s.heap S (uniqK done) →
      (∀ s', Moved (S :: wr) sameG s s' → SetHas P w s'.heap S (uniqK ks) → (∀ b o, h0.get? b = some o → s'.heap.get? b = some o) → R (.ok (.ret .none)) s') →
      codeAny (model P w) A (.builtin "set.update.loop" ⟨[.ref S, .ref I], []⟩) R s := by
  have far : ∀ b o, h0.get? b = some o → b ∉ S :: wr := fun b o e z => by rw [fr b z] at e; cases e
  have Sw : S ∉ wr := fun z => hS (W.sub _ z)
  have wide : ∀ {s s' : Shared}, Moved wr sameG s s' → Moved (S :: wr) sameG s s' := fun m => m.mono fun b hb => List.mem_cons_of_mem _ hb
  intro todo
  induction todo <;> intro done s hk hst keep R0 fin <;> refine codeAny_builtin F.entry_set_update_loop ?_ <;> rw [Around.under_plainId F.plain_set_update_loop _]
  case nil =>
    rw [List.append_nil] at hk
    subst hk
    refine wpAny_bind (W.done s _ _ (by rw [hn]; exact hst) fun s' m => ?_)
    exact wpAny_pure (fin s' (wide m) (R0.keep fun o => m.heap S o Sw) fun b o e => m.heap b o (fun z => far b o e (.tail _ z)) (keep b o e))
  case cons k todo ih =>
    have lt : done.length < n := by rw [hn, hk, List.length_append, List.length_cons]; omega
    refine wpAny_bind (W.item done.length s _ _ lt hst fun v s' hv hst' m => ?_)
    obtain ⟨j, hj, rv⟩ := val _ v hv
    obtain rfl : k = j := by
      rw [hk, List.getElem?_append_right (Nat.le_refl _), Nat.sub_self] at hj
      exact Option.some.inj hj
    have room : (uniqK done).length + 1 < scanBound := by
      have := uniqK_len done
      rw [hk, List.length_append, List.length_cons] at few
      omega
    refine wpAny_bind (wpAny_holding ?_)
    unfold setAdd
    refine wpAny_holding (wpAny_bind ((mixKind P w).pyHash (kV_is rv) ?_))
    refine set_addHashed (s := { s' with toks := s'.toks + 1 }) rv (R0.keep fun o => m.heap S o Sw) room fun b h' sb R1 => ?_
    have kept : ∀ b o, b ≠ S → s'.heap.get? b = some o → h'.get? b = some o := fun b o hb e => (sb.2 b hb).trans e
    refine wpAny_pure ⟨plainId_quiet F.plain_set_update_loop _, ih (done ++ [k]) _ (by rw [hk, List.append_assoc]; rfl) ?_ (fun b o e => ?_) (by rw [uniqK_snoc]; exact R1) fun s2 m2 R2 k2 => fin s2 ?_ R2 k2⟩
    · rw [List.length_append]
      exact W.frame _ s' _ _ hst' (Nat.le_succ _) fun b hb o e => kept b o (fun z => hS (z ▸ hb)) e
    · have q := far b o e
      exact kept b o (fun z => q (z ▸ .head _)) (m.heap b o (fun z => q (.tail _ z)) (keep b o e))
    · exact Moved.trans W.gtrans ((wide m).then_heap (Nat.le_succ _) fun b o hb e => kept b o (fun z => hb (z ▸ .head _)) e) m2
end
/-! ### set(x) of what can be walked -/
/-- the set as it is made -/
abbrev bareSet (w : World) : Obj := { cls := .type "set", dict := none, data := .set #[] 0 (.fresh 0 0 (!w.params.followText "set-order")) }
theorem bare_has (P : Program) (w : World) (h : Heap) : SetHas P w (h.push (bareSet w)) h.objs.size (uniqK []) := by
  refine ⟨_, #[], 0, _, ⟨Heap.get?_push_size _ rfl, ⟨rfl, rfl, rfl⟩, rfl⟩, ⟨[], .nil, .refl _⟩, List.Pairwise.nil, by decide, rfl, List.Pairwise.nil, ?_⟩
  show _ ∨ (!w.params.followText "set-order") = true
  cases w.params.followText "set-order" <;> simp
/-- x, walked anew in any later heap, tells what stands for the keys -/
def Walked (P : Program) (w : World) (s : Shared) (x : Value) (ks : List Key) : Prop := ∀ (A : Around) (E Q : Value → Shared → Prop) (h : Heap), s.heap.objs.size < h.objs.size → (∀ b o, s.heap.get? b = some o → h.get? b = some o) →
  (∀ (o : Obj) (fp : List Addr) (n : Nat) (Pv : Nat → Value → Prop) (St : Nat → Heap → Prop), (∀ A' : Around, A'.handled = none → Walks P w A' h.objs.size fp [h.objs.size] n Pv St) → s.heap.objs.size ∉ fp → n = ks.length →
    (∀ i v, Pv i v → ∃ k, ks[i]? = some k ∧ RelV (kV k) v) → St 0 (h.push o) → Q (.ref h.objs.size) { s with heap := h.push o }) → wpAny (model P w) A (pyIter x) Q E { s with heap := h }
section
variable {P : Program} {w : World} {A : Around} {E : Value → Shared → Prop} {s : Shared}
theorem no_obj {h : Heap} {b : Addr} (hb : h.objs.size ≤ b) : h.get? b = none := by
  cases q : h.get? b with
  | none => rfl
  | some o => exact absurd (Nat.lt_of_lt_of_le (Heap.lt_size q) hb) (Nat.lt_irrefl _)
set_option maxHeartbeats 6400000 in
theorem set_call {x : Value} {ty : String} {ks : List Key} {Q : Value → Shared → Prop} (hh : A.handled = none) (few : ks.length < scanBound) (tx : ∀ h, (∀ b o, s.heap.get? b = some o → h.get? b = some o) → Shared.TypeIs { s with heap := h } x ty)
    (n1 : isSubtype (.type ty) (.type "set") = pure false) (n2 : isSubtype (.type ty) (.type "frozenset") = pure false) (n3 : (Value.type ty == Value.type "dict") = false) (it : Walked P w s x ks)
    (q : ∀ (h : Heap) (tk : Nat), SetHas P w h s.heap.objs.size (uniqK ks) → (∀ b o, s.heap.get? b = some o → h.get? b = some o) → Q (.ref s.heap.objs.size) { s with heap := h, toks := tk }) :
    wpAny (model P w) A (call (.type "set") [x]) Q E s := by
  have pushed : ∀ b o, s.heap.get? b = some o → (s.heap.push (bareSet w)).get? b = some o := fun b o e => Heap.get?_push_of_some _ e
  obtain ⟨_, _, i0⟩ := F.called_set.mro
  have i1 := F.called_set.made
  have i2 := F.called_set.sub
  have i3 := F.called_set.notType
  have i4 := F.called_set.canCreate
  have i5 := F.typeCall_set_1 x
  refine wpAny_call (codeAny_of_tree (wpAny_pure ⟨Code.quiet_builtin _ (by decide +kernel), codeAny_builtin F.entry_type_call ?_⟩))
  rw [Around.under_plain (weight_type_call_type "set" [x] []) rfl]
  repeat (any_goals (first | assumption | wp_step))
  refine codeAny_mono (code_set_led1 x (E := E) (Q₁ := fun r s1 => r = .ref s.heap.objs.size ∧ s1 = { s with heap := s.heap.push (bareSet w) }) ⟨rfl, rfl⟩) fun r s1 hr => ?_
  rcases r with e | r
  · exact hr
  cases r <;> first | exact hr.elim | skip
  obtain ⟨rfl, rfl⟩ := hr
  have tS : Shared.TypeIs { s with heap := s.heap.push (bareSet w) } (.ref s.heap.objs.size) "set" := ⟨_, Heap.get?_push_size _ rfl, rfl⟩
  have i6 := F.called_set.init.lookup
  have i7 := F.called_set.init.bind (.ref s.heap.objs.size)
  repeat (any_goals (first | assumption | wp_step))
  refine codeAny_mono (codeAny_call_builtin (R := wants (fun r s2 => r = .none ∧ ∃ h tk, s2 = { s with heap := h, toks := tk } ∧ SetHas P w h s.heap.objs.size (uniqK ks) ∧ ∀ b o, s.heap.get? b = some o → h.get? b = some o) E)
    F.called_set.init.plain F.entry_set_init (check_set_init_1 tS ?_)) fun r s2 hr => ?_
  · have tX := tx _ pushed
    unfold Builtin.«set.__init__» noKeywords Builtin.Frozenset.updateFrom
    generalize hw : pyIter = walk
    wp_walk
    subst hw
    refine it _ _ _ _ (by rw [Heap.size_push]; exact Nat.lt_succ_self _) pushed fun o fp n Pv St W hS hn val st0 => wpAny_bind (wpAny_runValue ?_)
    refine set_loop ((W _ (by simp [hh])).toS) hS hn few val (h0 := s.heap) (fun b hb => no_obj ?_) ks [] _ rfl st0 (fun b o e => Heap.get?_push_of_some _ (pushed b o e)) ((bare_has P w s.heap).keep fun o e => Heap.get?_push_of_some _ e) fun s2 m R2 k2 => ?_
    · rcases List.mem_cons.mp hb with rfl | hb
      · exact Nat.le_refl _
      · rw [List.mem_singleton.mp hb, Heap.size_push]
        exact Nat.le_succ _
    · have m1 := m.gens
      have m2 := m.drawn
      have m3 := m.os
      cases s2
      subst m1 m2 m3
      exact wpAny_pure (wpAny_pure ⟨rfl, _, _, rfl, R2, k2⟩)
  · rcases r with e | r
    · exact hr
    cases r <;> first | exact hr.elim | skip
    obtain ⟨rfl, h2, tk, rfl, R2, k2⟩ := hr
    repeat (any_goals (first | assumption | wp_step))
    exact q _ _ R2 k2
theorem set_list {l : Addr} {items : Array Value} {ks : List Key} {Q : Value → Shared → Prop} (hh : A.handled = none) (hl : s.heap.IsList l items) (hv : Vals (ks.map kV) items.toList) (few : ks.length < scanBound)
    (q : ∀ (h : Heap) (tk : Nat), SetHas P w h s.heap.objs.size (uniqK ks) → (∀ b o, s.heap.get? b = some o → h.get? b = some o) → Q (.ref s.heap.objs.size) { s with heap := h, toks := tk }) :
    wpAny (model P w) A (call (.type "set") [.ref l]) Q E s := by
  have sz : items.size = ks.length := by rw [← Array.length_toList, ← hv.length, List.length_map]
  have lt : l < s.heap.objs.size := let ⟨o, ho, _⟩ := hl; Heap.lt_size ho
  refine set_call (ty := "list") hh few (fun h k => (hl.at fun o e => k l o e).typeIs) F.sub_list_set F.sub_list_frozenset (by decide) ?_ q
  intro A E Q h hs k fin
  have hl2 : h.IsList l items := hl.at fun o e => k l o e
  refine wpAny_pyIter_list hl2 (fin _ [h.objs.size, l] items.size _ _ (fun A' ha => Walks.list ha _ l (Nat.ne_of_lt (Nat.lt_trans lt hs)) items) ?_ sz ?_ ⟨⟨_, Heap.get?_push_size _ rfl, rfl, rfl⟩, hl2.push _⟩)
  · intro z
    rcases List.mem_cons.mp z with z | z
    · exact absurd z (Nat.ne_of_lt hs)
    · exact absurd (List.mem_singleton.mp z) (Nat.ne_of_gt lt)
  · intro i v e
    have hi : i < ks.length := by rw [← sz]; exact (Array.getElem?_eq_some_iff.mp e).1
    obtain ⟨u, hu, ru⟩ := hv.get (i := i) (x := kV ks[i]) (by rw [List.getElem?_map, List.getElem?_eq_getElem hi]; rfl)
    rw [Array.getElem?_toList, e] at hu
    cases hu
    exact ⟨_, List.getElem?_eq_getElem hi, ru⟩
theorem set_text {z : Str} {tz : Tok} {Q : Value → Shared → Prop} (hh : A.handled = none) (few : z.cps.size < scanBound)
    (q : ∀ (h : Heap) (tk : Nat), SetHas P w h s.heap.objs.size (uniqK (z.cps.toList.map fun c => Sum.inr ⟨#[c]⟩)) → (∀ b o, s.heap.get? b = some o → h.get? b = some o) → Q (.ref s.heap.objs.size) { s with heap := h, toks := tk }) :
    wpAny (model P w) A (call (.type "set") [.str z tz]) Q E s := by
  have sz : z.cps.size = (z.cps.toList.map fun c => (Sum.inr ⟨#[c]⟩ : Key)).length := by rw [List.length_map, Array.length_toList]
  refine set_call (ty := "str") hh (by rw [← sz]; exact few) (fun h k => typeIs_str _ z tz) F.sub_str_set F.sub_str_frozenset (by decide) ?_ q
  intro A E Q h hs k fin
  refine wpAny_pyIter_str fun o St W st0 => fin o _ _ _ St (fun A' ha => W A' ha) (fun y => absurd (List.mem_singleton.mp y) (Nat.ne_of_lt hs)) sz ?_ st0
  rintro i v ⟨c, u, hc, rfl⟩
  exact ⟨.inr ⟨#[c]⟩, by rw [List.getElem?_map, Array.getElem?_toList, hc]; rfl, ⟨u, rfl⟩⟩
end
end SW

end

section
set_option Elab.async false
set_option linter.all false
set_option maxRecDepth 100000
set_option maxHeartbeats 3200000
/-! sorted(set(x)) -/
namespace SW
open PySem PySem.Spec L2 PyProof.Rows
/-! ### what is drawn from a set, put in order -/
/-- values that stand for keys, in any order -/
def KeysOf (vs : List Value) (ks : List Key) : Prop := ∃ js, Paired (fun v k => RelV (kV k) v) vs js ∧ js.Perm ks
theorem ents_vals {P : Program} {w : World} {l : List (Int × Value)} {ks : List Key} {vs : List Value} (h : Ents P w l ks) (p : vs.Perm (l.map (·.2))) : KeysOf vs ks := by
  obtain ⟨js, h1, h2⟩ := h
  have : Paired (fun v k => RelV (kV k) v) (l.map (·.2)) js := by
    clear h2 p
    induction h1 with
    | nil => exact .nil
    | cons r _ ih => exact .cons r.1 ih
  obtain ⟨zs, h3, h4⟩ := paired_of_perm p this
  exact ⟨zs, h3, h4.trans h2⟩
theorem keyed_ints {vs : List Value} {js : List Key} (h : Paired (fun v k => RelV (kV k) v) vs js) (hk : ∀ k ∈ js, ∃ i, k = .inl i) : ∃ ns : List Int, js = ns.map .inl ∧ IntsAre vs ns := by
  induction h with
  | nil => exact ⟨[], rfl, .nil⟩
  | cons r _ ih =>
    obtain ⟨i, rfl⟩ := hk _ (.head _)
    obtain ⟨t, rfl⟩ := r
    obtain ⟨ns, rfl, h⟩ := ih fun k z => hk k (.tail _ z)
    exact ⟨i :: ns, rfl, .cons i t h⟩
theorem keyed_strs {vs : List Value} {js : List Key} (h : Paired (fun v k => RelV (kV k) v) vs js) (hk : ∀ k ∈ js, ∃ i, k = .inr i) : ∃ xs : List Str, js = xs.map .inr ∧ StrsAre vs xs := by
  induction h with
  | nil => exact ⟨[], rfl, .nil⟩
  | cons r _ ih =>
    obtain ⟨x, rfl⟩ := hk _ (.head _)
    obtain ⟨t, rfl⟩ := r
    obtain ⟨xs, rfl, h⟩ := ih fun k z => hk k (.tail _ z)
    exact ⟨x :: xs, rfl, .cons x t h⟩
/-- a list that is sorted comes out good -/
def Sorts (P : Program) (w : World) (ks : List Key) (Good : Array Value → Prop) : Prop := ∀ (A : Around) (E : Value → Shared → Prop) (s : Shared) (p : Addr) (vs : List Value) (F : PySem.Fin → Shared → Prop), s.heap.get? p = some (seqObj "list" vs.toArray 0) → KeysOf vs ks → vs.length ≤ sizeLine →
  (∀ out, Good out → F (.done (.ret .none)) { s with heap := sortedHeap s.heap p vs out }) → wpAny (model P w) A (Builtin.«list.sort» ⟨[.ref p], []⟩) F E s
def GoodI (ks : List Key) (out : Array Value) : Prop := ∃ ns : List Int, IntsAre out.toList ns ∧ ns.Pairwise (· < ·) ∧ (∀ k, k ∈ ns ↔ .inl k ∈ ks) ∧ ns.length = ks.length
def GoodS (ks : List Key) (out : Array Value) : Prop := ∃ xs : List Str, StrsAre out.toList xs ∧ (sortedS xs = true ∧ xs.Nodup) ∧ (∀ k, k ∈ xs ↔ .inr k ∈ ks) ∧ xs.length = ks.length
section
variable {P : Program} {w : World} {ks : List Key}
theorem sorts_ints (nd : ks.Nodup) (hk : ∀ k ∈ ks, ∃ i, k = .inl i) : Sorts P w ks (GoodI ks) := by
  intro A E s p vs F hp ⟨js, h1, h2⟩ hz fin
  obtain ⟨ns, rfl, hI⟩ := keyed_ints h1 fun k z => hk k (h2.mem_iff.mp z)
  have ndI : ns.Nodup := List.Pairwise.of_map _ (fun _ _ h e => h (congrArg _ e)) (h2.nodup_iff.mpr nd)
  refine list_sort_treeAny hp hI hz fun out ms a1 a2 a3 => fin out ⟨ms, a1, lt_of_le_nodup ms a3 (a2.nodup_iff.mpr ndI), fun k => ?_, ?_⟩
  · rw [a2.mem_iff, ← h2.mem_iff]
    simp
  · rw [a2.length_eq, ← h2.length_eq, List.length_map]
theorem sorts_strs (nd : ks.Nodup) (hk : ∀ k ∈ ks, ∃ i, k = .inr i) : Sorts P w ks (GoodS ks) := by
  intro A E s p vs F hp ⟨js, h1, h2⟩ hz fin
  obtain ⟨xs, rfl, hI⟩ := keyed_strs h1 fun k z => hk k (h2.mem_iff.mp z)
  have ndI : xs.Nodup := List.Pairwise.of_map _ (fun _ _ h e => h (congrArg _ e)) (h2.nodup_iff.mpr nd)
  refine list_sort_treeKAny strKind_oneLt hp hI.keysOf (fun v1 v2 rest e => keyKind_strs (by rw [← e]; exact hI)) hz fun st hp2 hs => ?_
  obtain ⟨ms, a1, a2, a3⟩ := sorted_out_str hI hp2 hs
  refine fin _ ⟨ms, a1, ⟨a3, a2.nodup_iff.mpr ndI⟩, fun k => ?_, ?_⟩
  · rw [a2.mem_iff, ← h2.mem_iff]
    simp
  · rw [a2.length_eq, ← h2.length_eq, List.length_map]
variable {A : Around} {E : Value → Shared → Prop} {s : Shared} {a : Addr}
theorem sorted_set_of {Good : Array Value → Prop} {Q : Value → Shared → Prop} (R : SetHas P w s.heap a ks) (hh : A.handled = none) (so : Sorts P w ks Good)
    (q : ∀ s2 p out c, (∀ b o, s.heap.get? b = some o → s2.heap.get? b = some o) → s2.gens = s.gens ∧ s2.os = s.os → s.heap.objs.size ≤ p → s2.heap.get? p = some (seqObj "list" out c) → Good out → Q (.ref p) s2) :
    wpAny (model P w) A (call (.builtin "sorted") [.ref a]) Q E s := by
  obtain ⟨o, es, ep, t, g, he, _, hb, ht⟩ := R
  have eb : es.size = ks.length := by rw [← Array.length_toList, he.length]
  refine Calls.call_function_entry kind_sorted plain_sorted entry_sorted (args_sorted1 _) ?_
  unfold Builtin.«sorted»
  refine wpAny_bind (m := checkCount "sorted" 1 1 _) (wpAny_pure (wpAny_bind (collect_set (A := A.in1) hh ⟨o, g.1, g.2.1.1, g.2.2⟩ ht.fits (by rw [eb]; exact hb) ht.ris ht.led fun s1 vs k1 hz g1 o1 pm => ?_)))
  have kv := ents_vals he pm
  have vz : vs.length ≤ sizeLine := by
    rw [pm.length_eq, List.length_map, Array.length_toList, eb]
    exact Nat.le_trans (Nat.le_of_lt hb) (by decide)
  refine wpAny_bind (wpAny_newList ?_ vz)
  have at1 : (s1.heap.push (seqObj "list" vs.toArray 0)).get? s1.heap.objs.size = some (seqObj "list" vs.toArray 0) := Heap.get?_push_size _ rfl
  refine wpAny_bind (wpAny_holding (wpAny_call_entry slot_list_sort ⟨_, at1, rfl⟩ entry_list_sort (so _ _ _ _ vs _ at1 kv vz fun out good => ⟨_, rfl, ?_⟩) (args_list_sort _)))
  obtain ⟨c, hc⟩ := sortedHeap_at (vs := vs) (out := out) at1
  refine wpAny_pure ⟨_, rfl, q _ s1.heap.objs.size out c (fun b u e => ?_) ⟨g1, o1⟩ hz hc good⟩
  have lt := Heap.lt_size (k1 b u e)
  exact (sortedHeap_old (Nat.ne_of_lt lt) (by rw [size_push']; exact Nat.lt_succ_of_lt lt)).trans (Heap.get?_push_of_some _ (k1 b u e))
end
/-! ### the layer -/
def SetHO (P : Program) (w : World) (a : Addr) (ks : List Key) : HO := .ext fun h => SetHas P w h a ks
section
variable {X : Cx}
theorem setHO_ok {P : Program} {w : World} {H : Hp} {h : Heap} {a : Addr} {ks : List Key} (R : SetHas P w h a ks) : ObjOk P w H h a (SetHO P w a ks) :=
  ⟨R, let ⟨o, _, _, _, g, _⟩ := R; ⟨o, g.1⟩, fun _ _ p k => p.keep k⟩
/-- set(x) of a list of numbers and texts, or of a text -/
def rSetM (K : PySem.W.Frag) (P : Program) (w : World) : List V → Hp → VK → Prop := fun xs H Q => ∃ ks : List Key, ks.length < scanBound ∧ ((∃ l, xs = [V.ref l] ∧ SqL K H l (ks.map kV)) ∨ ∃ z : Str, xs = [.str z] ∧ ks = z.cps.toList.map fun c => Sum.inr ⟨#[c]⟩) ∧
  ∀ a, H a = none → Q (.ref a) (upd H a (SetHO P w a (uniqK ks)))
theorem cr_setM (hc : X.calm = true) : CallR X (.type "set") (rSetM X.K X.prog X.w) := by
  intro pins s σ H xs us Q I r h
  obtain ⟨ks, few, h, q⟩ := h
  have none : H s.heap.objs.size = none := I.hok.fresh (Nat.le_refl _)
  have told : ∀ (h : Heap) (tk : Nat), SetHas X.prog X.w h s.heap.objs.size (uniqK ks) → (∀ b o, s.heap.get? b = some o → h.get? b = some o) → ∃ v H', Inv X pins σ H' { s with heap := h, toks := tk } ∧ RelV v (.ref s.heap.objs.size) ∧ Q v H' :=
    fun h tk R k => ⟨.ref s.heap.objs.size, upd H s.heap.objs.size (SetHO X.prog X.w s.heap.objs.size (uniqK ks)), I.laid (t' := tk) k (Nat.le_refl _) (setHO_ok R), rfl, q _ none⟩
  rcases h with ⟨l, rfl, hl⟩ | ⟨z, rfl, rfl⟩
  · rw [Vals.ref1 r]
    obtain ⟨its, rv, pl, hz⟩ := I.list hl
    exact set_list (P := X.prog) (w := X.w) (I.ok.hd hc) pl.isList (by simpa using rv) few fun h tk R k => told h tk R k
  · obtain ⟨u, rfl, rx⟩ := vals1 r
    obtain ⟨t, rfl⟩ : ∃ t, u = .str z t := rx
    exact set_text (P := X.prog) (w := X.w) (I.ok.hd hc) (by rw [List.length_map, Array.length_toList] at few; exact few) fun h tk R k => told h tk R k
def rSortedM (P : Program) (w : World) : List V → Hp → VK → Prop := fun xs H Q => ∃ (a : Addr) (ks : List Key), xs = [V.ref a] ∧ H a = some (SetHO P w a ks) ∧
  (((∀ k ∈ ks, ∃ i, k = .inl i) ∧ ∀ (ns : List Int) (p : Addr), ns.Pairwise (· < ·) → (∀ k, k ∈ ns ↔ .inl k ∈ ks) → H p = none → Q (.ref p) (upd H p (.lst (ns.map V.int)))) ∨
   ((∀ k ∈ ks, ∃ i, k = .inr i) ∧ ∀ (ns : List Str) (p : Addr), sortedS ns = true → ns.Nodup → (∀ k, k ∈ ns ↔ .inr k ∈ ks) → H p = none → Q (.ref p) (upd H p (.lst (ns.map V.str)))))
/-- a list more, wherever it was made -/
theorem told_list {pins : List (Addr × Obj)} {σ : L2.St} {H : Hp} {s s2 : Shared} {Q : VK} {p : Addr} {out : Array Value} {c : Nat} {xs : List V} (I : Inv X pins σ H s) (k : ∀ b o, s.heap.get? b = some o → s2.heap.get? b = some o) (g : s2.gens = s.gens ∧ s2.os = s.os)
    (hp : s.heap.objs.size ≤ p) (at_ : s2.heap.get? p = some (seqObj "list" out c)) (rv : Vals xs out.toList) (lz : xs.length ≤ sizeLine) (q : H p = none → Q (.ref p) (upd H p (.lst xs))) : ∃ v H', Inv X pins σ H' s2 ∧ RelV v (.ref p) ∧ Q v H' := by
  have free : H p = none := I.hok.fresh hp
  refine ⟨.ref p, _, ?_, rfl, q free⟩
  obtain ⟨g1, g2⟩ := g
  have bare := I.bare
  rw [← g1] at bare
  cases s2
  subst g2
  exact I.call (ch := []) (Un.laid k hp free) (I.hok.laid k hp ⟨lz, out.toList, c, rv, at_⟩) bare fun _ z => nomatch z
theorem cr_sortedM (hc : X.calm = true) : CallR X (.builtin "sorted") (rSortedM X.prog X.w) := by
  intro pins s σ H xs us Q I r h
  obtain ⟨a, ks, rfl, ha, h⟩ := h
  rw [Vals.ref1 r]
  have R : SetHas X.prog X.w s.heap a ks := (I.hok a _ ha).1
  obtain ⟨_, _, _, _, _, _, nd, hb, _⟩ := id R
  have lz : ∀ {n : Nat}, n = ks.length → n ≤ sizeLine := fun e => by rw [e]; exact Nat.le_trans (Nat.le_of_lt hb) (by decide)
  rcases h with ⟨hk, q⟩ | ⟨hk, q⟩
  · refine sorted_set_of R (I.ok.hd hc) (sorts_ints nd hk) fun s2 p out c k g hp at_ ⟨ns, h1, h2, h3, h4⟩ => ?_
    exact told_list I k g hp at_ (vals_of_ints h1) (lz (by rw [List.length_map]; exact h4)) (q ns p h2 h3)
  · refine sorted_set_of R (I.ok.hd hc) (sorts_strs nd hk) fun s2 p out c k g hp at_ ⟨ns, h1, h2, h3, h4⟩ => ?_
    exact told_list I k g hp at_ (vals_of_strs h1) (lz (by rw [List.length_map]; exact h4)) (q ns p h2.1 h2.2 h3)
end
/-! ### over data: sorted(set(x)) -/
def dSortSet (o : List D → Mu → DQ → Prop) : DUn := fun x μ Q =>
  (∃ ns : List Int, rdL μ x = some (ns.map .int) ∧ ns.length < 4096 ∧ ∀ ms : List Int, ms.Pairwise (· < ·) → (∀ m, m ∈ ms ↔ m ∈ ns) → o (ms.map .int) μ Q) ∨
  (∃ ss : List (List Nat), ss.length < 4096 ∧ (rdL μ x = some (ss.map .str) ∨ ∃ s, x = .str s ∧ ss = s.map fun c => [c]) ∧ ∀ ts : List (List Nat), ts.Pairwise (· < ·) → (∀ t, t ∈ ts ↔ t ∈ ss) → o (ts.map .str) μ Q)
theorem reps_strs {K : PySem.W.Frag} {F : Hp} {θ : List Addr} : ∀ {ns : List (List Nat)} {vs : List V}, Reps K F θ (ns.map .str) vs → vs = (ns.map mkS).map V.str
  | [], vs, r => by unfold List.map Reps at r; exact r
  | n :: ns, vs, r => by
    rw [List.map_cons] at r
    unfold Reps at r
    obtain ⟨v, q, rfl, r1, r2⟩ := r
    rw [reps_strs r2, rep_str r1]
    rfl
theorem strs_reps {K : PySem.W.Frag} {F : Hp} {θ : List Addr} : ∀ ns : List (List Nat), Reps K F θ (ns.map .str) ((ns.map mkS).map V.str)
  | [] => Reps.nil
  | n :: ns => Reps.cons rep_strI (strs_reps ns)
theorem ints_reps {K : PySem.W.Frag} {F : Hp} {θ : List Addr} : ∀ ns : List Int, Reps K F θ (ns.map .int) (ns.map V.int)
  | [] => Reps.nil
  | n :: ns => Reps.cons rep_intI (ints_reps ns)
theorem str_mk (x : Str) : ∃ l, x = mkS l := ⟨x.cps.toList, (mkS_of x).symm⟩
theorem strs_mk : ∀ ys : List Str, ∃ ts : List (List Nat), ys = ts.map mkS
  | [] => ⟨[], rfl⟩
  | y :: ys => by
    obtain ⟨t, rfl⟩ := str_mk y
    obtain ⟨ts, rfl⟩ := strs_mk ys
    exact ⟨t :: ts, rfl⟩
theorem rising_lt : ∀ (p : List Nat) (ts : List (List Nat)), risingS (mkS p) (ts.map mkS) = true → (p :: ts).Nodup → (p :: ts).Pairwise (· < ·)
  | p, [], _, _ => List.pairwise_singleton _ _
  | p, t :: ts, h, nd => by
    have h : (!ltCps (mkS t).cps.toList (mkS p).cps.toList && risingS (mkS t) (ts.map mkS)) = true := h
    rw [Bool.and_eq_true] at h
    have e : ∀ l : List Nat, (mkS l).cps.toList = l := fun l => List.toList_toArray ..
    rw [e, e, ltCps_eq] at h
    have hle : ¬ t < p := by simpa using h.1
    obtain ⟨n1, n2⟩ := List.nodup_cons.mp nd
    have hne : p ≠ t := fun z => n1 (z ▸ List.mem_cons_self)
    have hlt : p < t := by
      rcases List.le_total p t with g | g
      · exact Std.lt_of_le_of_ne g hne
      · exact absurd (Std.lt_of_le_of_ne g (Ne.symm hne)) hle
    have ih := rising_lt t ts h.2 n2
    refine List.pairwise_cons.mpr ⟨fun y hy => ?_, ih⟩
    rcases List.mem_cons.mp hy with rfl | hy
    · exact hlt
    · exact List.lt_trans hlt ((List.pairwise_cons.mp ih).1 y hy)
theorem sorted_lt {ts : List (List Nat)} (h : sortedS (ts.map mkS) = true) (nd : (ts.map mkS).Nodup) : ts.Pairwise (· < ·) := by
  have nd' : ts.Nodup := List.Pairwise.of_map _ (fun _ _ hne e => hne (congrArg _ e)) nd
  cases ts with
  | nil => exact List.Pairwise.nil
  | cons t ts => exact rising_lt t ts h nd'
section
variable {X : Cx} {W : WX} {e : Expr} {A : TD} {p p2 pos pos2 : Pos}
theorem we_sortSet {o : List D → Mu → DQ → Prop} (ho : OutOk X.K o) (hm : X.mg "sorted" = none) (hm2 : X.mg "set" = none) (he : WX0 X W e A) (hc : X.calm = true := by rfl) (hg : Gl X "sorted" := by rfl) (hg2 : Gl X "set" := by rfl)
    (hs : starEach [e] X.env = (false, eval e X.env) :: starEach [] X.env := by rfl) (hs2 : starEach [.Call (.Name "set" p2) [e] [] pos2] X.env = (false, eval (.Call (.Name "set" p2) [e] [] pos2) X.env) :: starEach [] X.env := by rfl) :
    WX0 X W (.Call (.Name "sorted" p) [.Call (.Name "set" p2) [e] [] pos2] [] pos) (dUn (dSortSet o) A) := by
  refine PE.imp (pe_callB (cr_sortedM hc) hg hm (by decide +kernel) (pa_cons (pe_callTy (cr_setM hc) hg2 hm2 (by decide +kernel) (pa_cons he pa_nil hs) (by decide) (by decide) hs rfl) pa_nil hs2) (by decide) (by decide) hs2 rfl) ?_
  rintro σ H Q ⟨g, μ, δ, Q', E', a0, sl, h, kq, kx⟩
  refine ⟨g, μ, δ, _, E', a0, sl, h, fun g1 H1 μ1 d v a1 e1 r1 q => ?_, kx⟩
  have kk : Kt X.K g1 H1 Q' Q := fun g4 H4 μ4 d w a4 e4 r4 q4 => kq g4 H4 μ4 d w a4 (e1.trans e4) r4 q4
  have after : ∀ (p : Addr) (ob : HO), H1 p = none → At X.K g1 μ1 (upd H1 p ob) ∧ Ext g1 H1 g1 (upd H1 p ob) := fun p ob hp => by
    have hF : g1.F p = none := Same.free a1.sub hp
    have hth : p ∉ g1.th := fun hm => by
      obtain ⟨o, ho⟩ := a1.al _ hm
      rw [hp] at ho; cases ho
    exact ⟨a1.out hF hth (plain_none hp), (Ext.refl g1 H1).out hp⟩
  have last : ∀ (p : Addr) (ob : HO), H1 p = none → ∀ (xs : List D) (vs : List V), Reps X.K g1.F g1.th xs vs → o xs μ1 Q' → ∀ q : Addr, (upd H1 p ob) q = none → Q (.ref q) (upd (upd H1 p ob) q (.lst vs)) := fun p ob hp xs vs rr q q1 hq => by
    obtain ⟨a2, e2⟩ := after p ob hp
    exact ho g1 μ1 (upd H1 p ob) q1 xs vs Q' Q a2 hq rr q fun g4 H4 μ4 d w a4 e4 r4 q4 => kk g4 H4 μ4 d w a4 (e2.trans e4) r4 q4
  rcases q with ⟨ns, hx, hl, q⟩ | ⟨ss, hl, hx, q⟩
  · obtain ⟨l, vs, rfl, hsq, rs⟩ := rdL_rd a1 r1 hx
    have ev := ints_rd rs
    subst ev
    refine ⟨ns.map Sum.inl, by rw [List.length_map]; exact hl, .inl ⟨l, rfl, by rw [List.map_map]; exact hsq⟩, fun p hp => ?_⟩
    refine ⟨p, _, rfl, upd_same, .inl ⟨fun k hk => ?_, fun ms q1 hp1 hm1 hq1 => ?_⟩⟩
    · obtain ⟨i, _, rfl⟩ := List.mem_map.mp (uniqK_mem.mp hk)
      exact ⟨i, rfl⟩
    · have hm1 := fun k => (hm1 k).trans uniqK_mem
      exact last p _ hp _ _ (ints_reps ms) (q ms hp1 fun m => by rw [hm1 m, List.mem_map]; exact ⟨fun ⟨x, hx, e⟩ => by cases e; exact hx, fun hx => ⟨m, hx, rfl⟩⟩) q1 hq1
  · have key : ∀ k, k ∈ ss.map (fun t => (Sum.inr (mkS t) : Key)) ↔ ∃ t ∈ ss, k = .inr (mkS t) := fun k => by
      rw [List.mem_map]
      exact ⟨fun ⟨t, ht, e⟩ => ⟨t, ht, e.symm⟩, fun ⟨t, ht, e⟩ => ⟨t, ht, e.symm⟩⟩
    refine ⟨ss.map fun t => Sum.inr (mkS t), by rw [List.length_map]; exact hl, ?_, fun p hp => ?_⟩
    · rcases hx with hx | ⟨s, rfl, rfl⟩
      · obtain ⟨l, vs, rfl, hsq, rs⟩ := rdL_rd a1 r1 hx
        have ev := reps_strs rs
        subst ev
        refine .inl ⟨l, rfl, ?_⟩
        rw [List.map_map] at hsq ⊢
        exact hsq
      · obtain rfl := rep_str r1
        refine .inr ⟨mkS s, rfl, ?_⟩
        rw [List.map_map, show (mkS s).cps.toList = s from List.toList_toArray ..]
        rfl
    · refine ⟨p, _, rfl, upd_same, .inr ⟨fun k hk => ?_, fun ys q1 hs1 nd1 hm1 hq1 => ?_⟩⟩
      · obtain ⟨t, _, rfl⟩ := (key k).mp (uniqK_mem.mp hk)
        exact ⟨_, rfl⟩
      · have hm1 := fun k => (hm1 k).trans uniqK_mem
        obtain ⟨ts, rfl⟩ := strs_mk ys
        refine last p _ hp _ _ (strs_reps ts) (q ts (sorted_lt hs1 nd1) fun t => ?_) q1 hq1
        have := hm1 (mkS t)
        rw [key] at this
        constructor
        · intro ht
          obtain ⟨u, hu, e⟩ := this.mp (List.mem_map.mpr ⟨t, ht, rfl⟩)
          have e2 : t = u := mkS_inj.mp (Sum.inr.inj e)
          rw [e2]; exact hu
        · intro ht
          obtain ⟨u, hu, e⟩ := List.mem_map.mp (this.mpr ⟨t, ht, rfl⟩)
          rw [← mkS_inj.mp e]; exact hu
end
end SW

end

section
set_option Elab.async false
set_option linter.all false
set_option maxRecDepth 100000
namespace SW
open PySem L2 PySem.Spec PyProof.Rows
/-! ### sorted(x), a list of whole numbers or of texts -/
def dSorted (o : List D → Mu → DQ → Prop) : DUn := fun x μ Q =>
  (∃ ns : List Int, rdL μ x = some (ns.map .int) ∧ ∀ ms : List Int, ms.Perm ns → ms.Pairwise (· ≤ ·) → o (ms.map .int) μ Q) ∨
  (∃ ss : List (List Nat), rdL μ x = some (ss.map .str) ∧ ss.length < 64 ∧ ∀ ts : List (List Nat), ts.Perm ss → ts.Pairwise (· ≤ ·) → o (ts.map .str) μ Q)
theorem rising_le : ∀ (p : List Nat) (ts : List (List Nat)), risingS (mkS p) (ts.map mkS) = true → (p :: ts).Pairwise (· ≤ ·)
  | p, [], _ => List.pairwise_singleton _ _
  | p, t :: ts, h => by
    have h : (!ltCps (mkS t).cps.toList (mkS p).cps.toList && risingS (mkS t) (ts.map mkS)) = true := h
    rw [Bool.and_eq_true] at h
    have e : ∀ l : List Nat, (mkS l).cps.toList = l := fun l => List.toList_toArray ..
    rw [e, e, ltCps_eq] at h
    have hle : ¬ t < p := by simpa using h.1
    have ih := rising_le t ts h.2
    refine List.pairwise_cons.mpr ⟨fun y hy => ?_, ih⟩
    rcases List.mem_cons.mp hy with rfl | hy
    · exact hle
    · exact List.le_trans hle ((List.pairwise_cons.mp ih).1 y hy)
theorem sorted_le {ts : List (List Nat)} (h : sortedS (ts.map mkS) = true) : ts.Pairwise (· ≤ ·) := by
  cases ts with
  | nil => exact List.Pairwise.nil
  | cons t ts => exact rising_le t ts h
theorem ld_sorted {X : Cx} {o : List D → Mu → DQ → Prop} (ho : OutOk X.K o) : CalD X (.builtin "sorted") (ca1 (dSorted o)) := by
  refine ⟨_, CallR.or cr_sortedI cr_sortedS, ?_⟩
  rintro g μ H xs as Q' Q a0 rs ⟨x, rfl, q⟩ k
  obtain ⟨v, rfl, rv⟩ := reps1 rs
  rcases q with ⟨ns, hx, q⟩ | ⟨ss, hx, hl, q⟩
  · obtain ⟨p, vs, rfl, h1, rr⟩ := rdL_rd a0 rv hx
    have e := ints_rd rr
    subst e
    exact .inl ⟨p, ns, rfl, h1, fun ms p' h2 h3 hp => ho g μ H p' _ _ Q' Q a0 hp (ints_reps ms) (q ms h2 h3) k⟩
  · obtain ⟨p, vs, rfl, h1, rr⟩ := rdL_rd a0 rv hx
    have e := reps_strs rr
    subst e
    refine .inr ⟨p, ss.map mkS, rfl, h1, by rw [List.length_map]; exact hl, fun ys p' h2 h3 hp => ?_⟩
    obtain ⟨ts, rfl⟩ := strs_mk ys
    have hperm : ts.Perm ss := by
      have := h2.map (fun x : Str => x.cps.toList)
      rw [List.map_map, List.map_map] at this
      have e : ∀ l : List (List Nat), l.map ((fun x : Str => x.cps.toList) ∘ mkS) = l := fun l => by
        rw [List.map_congr_left (g := id) (fun a _ => by show (mkS a).cps.toList = a; simp [mkS]), List.map_id]
      rw [e, e] at this
      exact this
    exact ho g μ H p' _ _ Q' Q a0 hp (strs_reps ts) (q ts hperm (sorted_le h3)) k
theorem st_sortedS {ss : List (List Nat)} {x : D} {μ : Mu} {Q : DQ} (hx : rdL μ x = some (ss.map .str)) (hl : ss.length < 64) (q : ∀ ts : List (List Nat), ts.Perm ss → ts.Pairwise (· ≤ ·) → Q (.lst (ts.map .str)) μ) : dSorted outF x μ Q := .inr ⟨ss, hx, hl, q⟩
/-! ### products of great numbers -/
def dMulB : DOp := dInt2 IntMulOk (fun i j => i * j)
theorem op_mulB {X : Cx} : OpR X (binaryOp .Mult) (rI IntMulOk fun i j => .int (i * j)) := opI fun _ _ _ _ _ _ _ hc q => mul_int q hc
theorem bd_mulB {X : Cx} : BinD X .Mult dMulB := ⟨_, op_mulB, lop_int⟩
theorem st_mulB {i j : Int} {μ : Mu} {Q : DQ} (h : IntMulOk i j) (q : Q (.int (i * j)) μ) : dMulB (.int i) (.int j) μ Q := ⟨i, j, rfl, rfl, h, q⟩
/-! ### the pot -/
def PotB (o : MO) : Prop := ∃ a b c : Int, o = .lst [.int a, .int b, .int c]
theorem PotB.noC {o : MO} (h : PotB o) : noCO o = true := by obtain ⟨a, b, c, rfl⟩ := h; rfl
theorem PotB.live {o : MO} (h : PotB o) : o ≠ .dead := by obtain ⟨a, b, c, rfl⟩ := h; exact fun z => nomatch z
theorem PotB.noL {o : MO} (h : PotB o) : noLO o = true := by obtain ⟨a, b, c, rfl⟩ := h; rfl
end SW

end

section
set_option Elab.async false
set_option linter.all false
set_option maxRecDepth 100000
/-! an object of an own class: its attributes, its methods, how it is made -/
namespace SW
open PySem PySem.Spec L2 PyProof.Rows

/-! ### fields -/
def putD (x : Str) (y : D) : List (Str × D) → List (Str × D)
  | [] => [(x, y)]
  | (z, d) :: r => if z = x then (z, y) :: r else (z, d) :: putD x y r
/-- e.x -/
def dFld (C : Addr) (x : Str) (A : TD) : TD := fun δ μ Q E => A δ μ (fun d μ1 => ∃ k fs v, d = .cell k ∧ μ1[k]? = some (.ins C fs) ∧ fs.lookup x = some v ∧ Q v μ1) E
/-- o.x = e -/
def dSetF (C : Addr) (x : Str) (A B : TD) : TDS := fun D δ μ => B δ μ (fun y μ1 => A δ μ1 (fun d μ2 => ∃ k fs, d = .cell k ∧ μ2[k]? = some (.ins C fs) ∧ fs.length < 1000 ∧ D.nx δ (μ2.set k (.ins C (putD x y fs)))) D.ex) D.ex
section
variable {X : Cx} {W : WX} {e o : Expr} {es : List Expr} {A B : TD} {C : Addr} {x : Str} {pos pos' : Pos}
end

/-! ### methods -/
/-- a method's text -/
structure GMeth (K : PySem.W.Frag) (C : Addr) (m qual : Str) (st : Stmt) (ps : List Str) : Prop where
  ex : ∃ f fd, Fun K m qual st f fd ∧ Meth K C m f ∧ Binds K fd ps []
/-- a method's promise -/
structure Md (P : Program) (w : World) (K : PySem.W.Frag) (mg : Str → Option Value) (base : Heap) (C : Addr) (m : Str) (k : Nat) (S : DSp) : Prop where
  ex : ∃ f fd ps, FnOk P w K mg base (L2.CX P w) k f fd ps (upF K S) ∧ Meth K C m f ∧ Binds K fd ps []
/-- a def whose name in the text is another one -/
structure GFunQ (K : PySem.W.Frag) (mg : Str → Option Value) (x nm : Str) (st : Stmt) (ps : List Str) : Prop where
  ex : ∃ f fd, Fun K nm nm st f fd ∧ mg x = some (.ref f) ∧ Binds K fd ps []
section
variable {X : Cx} {CX : CXT} {k : Nat} {f C : Addr} {fd : FuncData} {ps : List Str} {sp : Sp} {E : L2.St → XK} {m : Str} {pos apos : Pos} {e o : Expr} {es : List Expr} {ta : TE} {t : TA} {pl : Sem Bool}
end
/-- o.m(..) -/
def dMeth (c : CForm) (C : Addr) (m : Str) (S : DSp) (A : TD) (B : TDA) : TD := fun δ μ Q E => A δ μ (fun d μ1 => ∃ k fs, d = .cell k ∧ μ1[k]? = some (.ins C fs) ∧ fs.lookup m = none ∧
  B δ μ1 (fun ds μ2 => c S (d :: ds) μ2 Q (fun C μ3 => E C δ μ3)) E) E
section
variable {X : Cx} {W : WX} {e o : Expr} {es : List Expr} {A : TD} {B : TDA} {S : DSp} {C : Addr} {m : Str} {pos apos : Pos} {k : Nat} {pl : Sem Bool}
end
end SW

end

section
set_option Elab.async false
set_option linter.all false
set_option maxRecDepth 100000
/-! objects made; the Keeper: its object and its list of rows, calls that are handed one -/
namespace SW
open PySem PySem.Spec L2 PyProof.Rows

/-- a class of which objects are made -/
structure ClsM (K : PySem.W.Frag) (mg : Str → Option Value) (x : Str) (C : Addr) : Prop where
  cl : Cls K C
  mks : PySem.W.makesIn K C = true
  kp : PySem.W.keepIn K (.ref C) = true
  g : mg x = some (.ref C)
section
variable {X : Cx} {CX : CXT} {k : Nat} {f C : Addr} {fd : FuncData} {ps : List Str} {sp : Sp} {E : L2.St → XK} {x : Str} {p pos : Pos}
end
def dMk (C : Addr) (S : DSp) : TD := fun δ μ Q E => S [.cell 0] [.ins C []] (fun d μ2 => d = .non ∧ Q (.cell μ.length) (putB (rn [μ.length] (μ.length + 1)) [μ.length] (μ ++ [.ins C []]) μ2)) (fun D μ2 => E D δ (putB (rn [μ.length] (μ.length + 1)) [μ.length] (μ ++ [.ins C []]) μ2))
/-! ### the keeper -/
def KeepAt (μ : Mu) (C : Addr) (k j : Nat) (rows : List (List Nat)) : Prop := j ≠ k ∧ μ[k]? = some (.ins C [("rows", .cell j)]) ∧ μ[j]? = some (.lst (rows.map .str))
theorem putB_get {ks : List Nat} {μ os : Mu} (nd : ks.Nodup) (hl : ks.length ≤ os.length) (hk : ∀ k ∈ ks, k < μ.length) {i : Nat} {o : MO} (h : os[i]? = some o) : (putB (rn ks μ.length) ks μ os)[rn ks μ.length i]? = some (renO (rn ks μ.length) o) := by
  by_cases hi : i < ks.length
  · have e := List.getElem?_eq_getElem hi
    rw [rn_lt e, putB_old _ ks μ os i _ nd hl e (hk _ (List.getElem_mem hi)), h]
    rfl
  · rw [rn_ge (by omega), putB_new _ ks μ os _ hl, show ks.length + (i - ks.length) = i by omega, h]
    rfl
theorem strs_noC (rows : List (List Nat)) : noCs (rows.map .str) = true := noCs_map _ (fun _ => rfl) rows
theorem renO_rows (f : Nat → Nat) (rows : List (List Nat)) : renO f (.lst (rows.map .str)) = .lst (rows.map .str) := renO_noC f _ (strs_noC rows)
theorem KeepAt.len {μ : Mu} {C : Addr} {k j : Nat} {rows : List (List Nat)} (h : KeepAt μ C k j rows) : k < μ.length ∧ j < μ.length := ⟨(List.getElem?_eq_some_iff.mp h.2.1).1, (List.getElem?_eq_some_iff.mp h.2.2).1⟩
theorem rn_inj {ks : List Nat} {n : Nat} (nd : ks.Nodup) (hk : ∀ k ∈ ks, k < n) {i j : Nat} (h : rn ks n i = rn ks n j) : i = j := by
  by_cases hi : i < ks.length
  · have ei := List.getElem?_eq_getElem hi
    by_cases hj : j < ks.length
    · have ej := List.getElem?_eq_getElem hj
      rw [rn_lt ei, rn_lt ej] at h
      exact (List.getElem_inj nd).mp h
    · rw [rn_lt ei, rn_ge (by omega)] at h
      have := hk _ (List.getElem_mem hi)
      omega
  · by_cases hj : j < ks.length
    · have ej := List.getElem?_eq_getElem hj
      rw [rn_lt ej, rn_ge (by omega)] at h
      have := hk _ (List.getElem_mem hj)
      omega
    · rw [rn_ge (by omega), rn_ge (by omega)] at h
      omega
theorem KeepAt.put {C : Addr} {ks : List Nat} {μ os : Mu} (nd : ks.Nodup) (hl : ks.length ≤ os.length) (hk : ∀ k ∈ ks, k < μ.length) {i j : Nat} {rows : List (List Nat)} (h : KeepAt os C i j rows) :
    KeepAt (putB (rn ks μ.length) ks μ os) C (rn ks μ.length i) (rn ks μ.length j) rows := by
  refine ⟨fun z => h.1 (rn_inj nd hk z), ?_, ?_⟩
  · rw [putB_get nd hl hk h.2.1]; rfl
  · rw [putB_get nd hl hk h.2.2, renO_rows]
/-- its two cells, alone -/
def K0 (C : Addr) (rows : List (List Nat)) : Mu := [.ins C [("rows", .cell 1)], .lst (rows.map .str)]
theorem k0_at (C : Addr) (rows : List (List Nat)) : KeepAt (K0 C rows) C 0 1 rows := ⟨by decide, rfl, rfl⟩
theorem KeepAt.assign {μ : Mu} {C : Addr} {k j m : Nat} {rows xs : List (List Nat)} (h : KeepAt μ C k j rows) (n : m ≠ k) (e : μ[m]? = some (.lst (xs.map .str))) : KeepAt (μ.set k (.ins C [("rows", .cell m)])) C k m xs :=
  ⟨n, List.getElem?_set_self h.len.1, by rw [List.getElem?_set_ne (fun z => n z.symm)]; exact e⟩
theorem KeepAt.rows {μ : Mu} {C : Addr} {k j : Nat} {rows xs : List (List Nat)} (h : KeepAt μ C k j rows) : KeepAt (μ.set j (.lst (xs.map .str))) C k j xs :=
  ⟨h.1, by rw [List.getElem?_set_ne h.1]; exact h.2.1, List.getElem?_set_self h.len.2⟩
theorem KeepAt.off {μ : Mu} {C : Addr} {k j i : Nat} {o : MO} {rows : List (List Nat)} (h : KeepAt μ C k j rows) (n1 : i ≠ k) (n2 : i ≠ j) : KeepAt (μ.set i o) C k j rows :=
  ⟨h.1, by rw [List.getElem?_set_ne n1]; exact h.2.1, by rw [List.getElem?_set_ne n2]; exact h.2.2⟩
theorem KeepAt.more {μ : Mu} {C : Addr} {k j : Nat} {os : Mu} {rows : List (List Nat)} (h : KeepAt μ C k j rows) : KeepAt (μ ++ os) C k j rows :=
  ⟨h.1, by rw [List.getElem?_append_left h.len.1]; exact h.2.1, by rw [List.getElem?_append_left h.len.2]; exact h.2.2⟩
/-! ### steps -/
section
variable {C : Addr} {x : Str} {A B : TD} {T : TDA} {δ : DS} {μ : Mu} {Q : DQ} {E : DE} {Z : DEnds} {k j : Nat} {rows : List (List Nat)}
theorem st_fld (h : A δ μ (fun d μ1 => ∃ k fs v, d = .cell k ∧ μ1[k]? = some (.ins C fs) ∧ fs.lookup x = some v ∧ Q v μ1) E) : dFld C x A δ μ Q E := h
theorem st_fldK {P : SW.D → Prop} (h : KeepAt μ C k j rows) (q : P (.cell j)) : ∃ k' fs v, SW.D.cell k = .cell k' ∧ μ[k']? = some (.ins C fs) ∧ fs.lookup ("rows" : Str) = some v ∧ P v :=
  ⟨_, _, _, rfl, h.2.1, by simp [List.lookup], q⟩
theorem st_setF (h : B δ μ (fun y μ1 => A δ μ1 (fun d μ2 => ∃ k fs, d = .cell k ∧ μ2[k]? = some (.ins C fs) ∧ fs.length < 1000 ∧ Z.nx δ (μ2.set k (.ins C (putD x y fs)))) Z.ex) Z.ex) : dSetF C x A B Z δ μ := h
theorem st_setFK {P : Nat → List (Str × SW.D) → Prop} (h : KeepAt μ C k j rows) (q : P k [("rows", .cell j)]) : ∃ k' fs, SW.D.cell k = .cell k' ∧ μ[k']? = some (.ins C fs) ∧ fs.length < 1000 ∧ P k' fs :=
  ⟨_, _, rfl, h.2.1, by simp, q⟩
theorem st_meth {c : CForm} {m : Str} {S : DSp} (h : A δ μ (fun d μ1 => ∃ k fs, d = .cell k ∧ μ1[k]? = some (.ins C fs) ∧ fs.lookup m = none ∧ T δ μ1 (fun ds μ2 => c S (d :: ds) μ2 Q (fun C μ3 => E C δ μ3)) E) E) : dMeth c C m S A T δ μ Q E := h
theorem st_methK {m : Str} {P : Prop} (h : KeepAt μ C k j rows) (n : (m == ("rows" : Str)) = false) (q : P) : ∃ k' fs, SW.D.cell k = .cell k' ∧ μ[k']? = some (.ins C fs) ∧ fs.lookup m = none ∧ P :=
  ⟨_, _, rfl, h.2.1, by simp only [List.lookup, n], q⟩
theorem st_cutCF {xs : List SW.D} {lo hi : Option Int} (hk : μ[k]? = some (.lst xs)) (q : Q (.lst (cutL xs lo hi)) μ) : dCut outF (.cell k) lo hi μ Q := ⟨_, rdL_cell hk, q⟩
theorem st_addCF {o : List SW.D → Mu → DQ → Prop} {xs ys : List SW.D} (hk : μ[k]? = some (.lst xs)) (h1 : xs.length + ys.length ≤ sizeLine) (q : o (xs ++ ys) μ Q) : dAdd o (.cell k) (.lst ys) μ Q := ⟨xs, ys, lstOf_cell hk, rfl, h1, q⟩
theorem st_listaCF {o : List SW.D → Mu → DQ → Prop} {xs : List SW.D} (hk : μ[k]? = some (.lst xs)) (q : o xs μ Q) : dListA o (.cell k) μ Q := ⟨_, rdL_cell hk, q⟩
end
end SW

end

section
set_option Elab.async false
set_option linter.all false
set_option maxRecDepth 100000
namespace SW
open PySem L2

/-! ### standings: the mathematics -/
def fs : List Nat → List Nat → Nat → Option (List Nat)
  | _, [], _ => some []
  | [], _ :: _, _ => none
  | r :: rs, c :: cs, p => if r = c then (fs rs cs (p + 1)).map (p :: ·) else fs rs (c :: cs) (p + 1)
/-- what first_standing tells -/
def firstOf (a b : List Nat) : Option (List Nat) := fs a b 0
/-! ### how many standings -/
def stepW (sign : Nat) : List Nat → List Int → Int → List Int
  | c :: r, w :: ws, acc => (acc + w * (if c = sign then 1 else 0)) :: stepW sign r ws (acc + w * (if c = sign then 1 else 0))
  | _, _, _ => []
def nextW (row : List Nat) (sign : Nat) (ways : List Int) : List Int := 0 :: stepW sign row ways 0
def hmsW (row other : List Nat) : List Int := other.foldl (fun w s => nextW row s w) (List.replicate (row.length + 1) 1)
def hms (row other : List Nat) : Int := (hmsW row other).getLastD 0
/-- in how many ways the second stands in the first, both read from their ends -/
def em : List Nat → List Nat → Int
  | _, [] => 1
  | [], _ :: _ => 0
  | r :: rs, c :: cs => em rs (c :: cs) + (if r = c then em rs cs else 0)
/-! ### a sign put in at a place -/
structure PutIn (a : List Nat) (k : Int) (x : Nat) (m : List Nat) : Prop where
  l1 : (cutL a none (some k)).length ≤ a.length
  l2 : (cutL a none (some k) ++ [x]).length ≤ a.length + 1
  l3 : (cutL a (some k) none).length ≤ a.length
  len : m.length = a.length + 1
  row : isRow a = true → isRow m = true
  sub : a.Sublist m
  hms : ∀ b, hms a b ≤ hms m b
end SW

end

section
set_option Elab.async false
set_option linter.all false
set_option maxRecDepth 100000
namespace SW
open PySem L2
/-! ### a table in cells -/
/-! ### shortest weaves of two: how many signs -/
def scs : List Nat → List Nat → Nat
  | [], b => b.length
  | a, [] => a.length
  | x :: a, y :: b => if x = y then 1 + scs a b else 1 + min (scs a (y :: b)) (scs (x :: a) b)
termination_by a b => a.length + b.length
theorem drop_get {a : List Nat} {i x : Nat} (h : a[i]? = some x) : a.drop i = x :: a.drop (i + 1) := by
  obtain ⟨h1, h2⟩ := List.getElem?_eq_some_iff.mp h
  rw [List.drop_eq_getElem_cons h1, h2]
end SW

end

section
set_option Elab.async false
set_option linter.all false
set_option maxRecDepth 100000
namespace SW
open PySem L2
/-! ### the first shortest weave of two -/
def wv : List Nat → List Nat → List Nat
  | [], b => b
  | a, [] => a
  | x :: a, y :: b => if x = y then x :: wv a b else
    if x < y then (if scs a (y :: b) ≤ scs (x :: a) b then x :: wv a (y :: b) else y :: wv (x :: a) b)
    else (if scs (x :: a) b ≤ scs a (y :: b) then y :: wv (x :: a) b else x :: wv a (y :: b))
termination_by a b => a.length + b.length
/-- behind a sign -/
def av (a : List Nat) (s : Nat) : List Nat := if a.take 1 = [s] then a.drop 1 else a
def adv (a : List Nat) (i s : Nat) : Nat := i + (if (a.drop i).take 1 = [s] then 1 else 0)
theorem drop_adv (a : List Nat) (i s : Nat) : a.drop (adv a i s) = av (a.drop i) s := by
  unfold adv av
  split
  · rw [List.drop_drop]
  · rfl
theorem adv_le {a : List Nat} {i s : Nat} (h : i ≤ a.length) : adv a i s ≤ a.length := by
  unfold adv
  split
  · rename_i e
    have := congrArg List.length e
    rw [List.length_take, List.length_drop] at this
    simp at this
    omega
  · exact h
theorem av_nil (s : Nat) : av [] s = [] := rfl
theorem av_hit (s : Nat) (a : List Nat) : av (s :: a) s = a := by simp [av]
theorem av_miss {x s : Nat} (h : x ≠ s) (a : List Nat) : av (x :: a) s = x :: a := by simp [av, h]
theorem cut_one (a : List Nat) (i : Nat) : cutL a (some (i : Int)) (some ((i : Int) + 1)) = (a.drop i).take 1 := by
  rw [cutL_mid a (by omega) (by omega)]
  congr 1
  omega
theorem adv_eq (a : List Nat) (i c : Nat) : (i : Int) + (if decide ((a.drop i).take 1 = [c]) = true then 1 else 0) = ((adv a i c : Nat) : Int) := by
  unfold adv
  by_cases h : (a.drop i).take 1 = [c] <;> simp [h]
end SW

end

section
set_option Elab.async false
set_option linter.all false
set_option maxRecDepth 100000
namespace SW
open PySem L2
theorem sub_av {a s : List Nat} {c : Nat} (h : a.Sublist (c :: s)) : (av a c).Sublist s := by
  cases a with
  | nil => rw [av_nil]; exact List.nil_sublist _
  | cons x a =>
    by_cases e : x = c
    · subst e
      rw [av_hit]
      exact List.cons_sublist_cons.mp h
    · rw [av_miss e]
      cases h with
      | cons _ h => exact h
      | cons_cons _ h => exact absurd rfl e
/-- how many signs both have in common at the most -/
def lcs (a b : List Nat) : Int := (a.length : Int) + b.length - scs a b
/-! ### the law's way to see whether a row holds another -/
/-! ### all rows of so many signs -/
theorem ones_of {ts : List (List Nat)} {s : List Nat} (hp : ts.Pairwise (· < ·)) (hm : ∀ t, t ∈ ts ↔ t ∈ s.map fun c => [c]) : ∃ ls : List Nat, ts = ls.map (fun c => [c]) ∧ ls.Nodup ∧ ∀ c, c ∈ ls ↔ c ∈ s := by
  obtain ⟨ls, e⟩ : ∃ ls : List Nat, ts = ls.map (fun c => [c]) := by
    have : ∀ ts : List (List Nat), (∀ t ∈ ts, ∃ c, t = [c]) → ∃ ls : List Nat, ts = ls.map (fun c => [c]) := fun ts => by
      induction ts with
      | nil => exact fun _ => ⟨[], rfl⟩
      | cons t ts ih =>
        intro h
        obtain ⟨c, rfl⟩ := h t List.mem_cons_self
        obtain ⟨ls, rfl⟩ := ih fun u hu => h u (List.mem_cons_of_mem _ hu)
        exact ⟨c :: ls, rfl⟩
    refine this ts fun t ht => ?_
    obtain ⟨c, _, rfl⟩ := List.mem_map.mp ((hm t).mp ht)
    exact ⟨c, rfl⟩
  subst e
  have inj : ∀ c : Nat, [c] ∈ ls.map (fun c => [c]) ↔ c ∈ ls := fun c => by
    rw [List.mem_map]
    exact ⟨fun ⟨d, hd, e⟩ => by cases e; exact hd, fun h => ⟨c, h, rfl⟩⟩
  have inj2 : ∀ c : Nat, [c] ∈ s.map (fun c => [c]) ↔ c ∈ s := fun c => by
    rw [List.mem_map]
    exact ⟨fun ⟨d, hd, e⟩ => by cases e; exact hd, fun h => ⟨c, h, rfl⟩⟩
  refine ⟨ls, rfl, ?_, fun c => ?_⟩
  · have nd : (ls.map fun c => [c]).Nodup := hp.imp fun {x y} (h : x < y) => fun e => by subst e; exact List.lt_irrefl x h
    exact List.Pairwise.of_map _ (fun _ _ hne e => hne (congrArg (fun c => [c]) e)) nd
  · rw [← inj, hm, inj2]
end SW

end

section
set_option Elab.async false
set_option linter.all false
set_option maxRecDepth 100000
namespace SW
open PySem L2
/-! ### longest common rows -/
theorem rise_ones {ls : List Nat} (h : (ls.map fun c => [c]).Pairwise (· < ·)) : ls.Pairwise (· < ·) := by
  refine (List.pairwise_map.mp h).imp fun {x y} (g : [x] < [y]) => ?_
  rcases List.cons_lt_cons_iff.mp g with g | ⟨_, g⟩
  · exact g
  · exact absurd g (List.lt_irrefl [])
end SW

end

section
set_option Elab.async false
set_option linter.all false
set_option maxRecDepth 100000
namespace SW
open PySem L2

/-! ### how far one comes with a row -/
/-- a row that holds the rows -/
def HoldsAll (w : List Nat) (rows : List (List Nat)) : Prop := ∀ r ∈ rows, r.Sublist w
def come : List Nat → List Nat → Nat
  | [], _ => 0
  | _ :: _, [] => 0
  | x :: u, y :: r => if y = x then 1 + come u r else come u (y :: r)
/-- without a sign -/
def without (w : List Nat) (p : Nat) : List Nat := w.take p ++ w.drop (p + 1)
instance (w : List Nat) (rows : List (List Nat)) : Decidable (HoldsAll w rows) := by unfold HoldsAll; exact inferInstance
/-! ### the first place of a sign -/
end SW

end

section
set_option Elab.async false
set_option linter.all false
set_option maxRecDepth 100000
namespace SW
open PySem L2

/-! ### the shortest rows that hold all of some -/
def stepR (T : List (List Nat)) (c : Nat) : List (List Nat) := T.map fun r => av r c
def heads (T : List (List Nat)) : List Nat := T.flatMap (·.take 1)
def remR (T : List (List Nat)) : Nat := (T.map List.length).sum
theorem heads_cons (r : List Nat) (T : List (List Nat)) : heads (r :: T) = r.take 1 ++ heads T := by simp [heads]
theorem mem_heads {c : Nat} : ∀ {T : List (List Nat)}, c ∈ heads T ↔ ∃ t, (c :: t) ∈ T
  | [] => by simp [heads]
  | r :: T => by
    rw [heads_cons, List.mem_append, mem_heads]
    cases r with
    | nil => simp
    | cons x r =>
      have e : c ∈ (x :: r).take 1 ↔ c = x := by simp
      rw [e]
      simp only [List.mem_cons]
      constructor
      · rintro (rfl | ⟨t, h⟩)
        · exact ⟨r, .inl rfl⟩
        · exact ⟨t, .inr h⟩
      · rintro ⟨t, h | h⟩
        · injection h with h1 h2
          exact .inl h1
        · exact .inr ⟨t, h⟩
theorem av_le (a : List Nat) (c : Nat) : (av a c).length ≤ a.length := by
  unfold av
  split
  · rw [List.length_drop]; omega
  · exact Nat.le_refl _
theorem rem_le (c : Nat) : ∀ T : List (List Nat), remR (stepR T c) ≤ remR T
  | [] => Nat.le_refl _
  | r :: T => by
    have ih := rem_le c T
    have h := av_le r c
    show (av r c).length + remR (stepR T c) ≤ r.length + remR T
    omega
theorem rem_step {c : Nat} : ∀ {T : List (List Nat)}, c ∈ heads T → remR (stepR T c) < remR T
  | [], h => by simp [heads] at h
  | r :: T, h => by
    show (av r c).length + remR (stepR T c) < r.length + remR T
    have h1 := rem_le c T
    have h2 := av_le r c
    rw [heads_cons, List.mem_append] at h
    rcases h with h | h
    · cases r with
      | nil => simp at h
      | cons x r =>
        simp at h
        subst h
        rw [av_hit, List.length_cons]
        omega
    · have := rem_step h
      omega
theorem step_same {c : Nat} : ∀ {T : List (List Nat)}, c ∉ heads T → stepR T c = T
  | [], _ => rfl
  | r :: T, h => by
    rw [heads_cons, List.mem_append, not_or] at h
    show av r c :: stepR T c = r :: T
    rw [step_same h.2]
    cases r with
    | nil => rfl
    | cons x r =>
      have : x ≠ c := fun e => h.1 (by simp [e])
      rw [av_miss this]
theorem holds_cons {c : Nat} {w : List Nat} {T : List (List Nat)} : HoldsAll (c :: w) T ↔ HoldsAll w (stepR T c) := by
  constructor
  · intro h r hr
    obtain ⟨t, ht, rfl⟩ := List.mem_map.mp hr
    exact sub_av (h t ht)
  · intro h r hr
    have := h _ (List.mem_map.mpr ⟨r, hr, rfl⟩)
    cases r with
    | nil => exact List.nil_sublist _
    | cons x r =>
      by_cases e : x = c
      · subst e
        rw [av_hit] at this
        exact this.cons_cons x
      · rw [av_miss e] at this
        exact this.cons c
theorem holds_nil {T : List (List Nat)} : HoldsAll [] T ↔ heads T = [] := by
  constructor
  · intro h
    rw [List.eq_nil_iff_forall_not_mem]
    intro c hc
    obtain ⟨t, ht⟩ := mem_heads.mp hc
    have := h _ ht
    cases this
  · intro h r hr
    cases r with
    | nil => exact List.nil_sublist _
    | cons x r =>
      have : x ∈ heads T := mem_heads.mpr ⟨r, hr⟩
      rw [h] at this
      cases this
def lwF : Nat → List (List Nat) → Nat
  | 0, _ => 0
  | n + 1, T => match heads T with
    | [] => 0
    | c :: cs => 1 + cs.foldl (fun m d => min m (lwF n (stepR T d))) (lwF n (stepR T c))
theorem fold_min {α : Type} (f : α → Nat) : ∀ (cs : List α) (m : Nat), (cs.foldl (fun m d => min m (f d)) m = m ∨ ∃ d ∈ cs, cs.foldl (fun m d => min m (f d)) m = f d) ∧ cs.foldl (fun m d => min m (f d)) m ≤ m ∧ ∀ d ∈ cs, cs.foldl (fun m d => min m (f d)) m ≤ f d
  | [], m => ⟨.inl rfl, Nat.le_refl _, fun _ h => nomatch h⟩
  | c :: cs, m => by
    obtain ⟨h1, h2, h3⟩ := fold_min f cs (min m (f c))
    rw [List.foldl_cons]
    refine ⟨?_, by omega, fun d hd => ?_⟩
    · rcases h1 with h1 | ⟨d, hd, h1⟩
      · by_cases h : m ≤ f c
        · exact .inl (by omega)
        · exact .inr ⟨c, by simp, by omega⟩
      · exact .inr ⟨d, by simp [hd], h1⟩
    · rcases List.mem_cons.mp hd with rfl | hd
      · omega
      · exact h3 d hd
theorem lwF_ok : ∀ (n : Nat) (T : List (List Nat)), remR T ≤ n → (∀ w, HoldsAll w T → lwF n T ≤ w.length) ∧ ∃ w, HoldsAll w T ∧ w.length = lwF n T := by
  intro n
  induction n with
  | zero =>
    intro T hT
    refine ⟨fun _ _ => Nat.zero_le _, [], holds_nil.mpr ?_, rfl⟩
    rw [List.eq_nil_iff_forall_not_mem]
    intro c hc
    have := rem_step hc
    omega
  | succ n ih =>
    intro T hT
    cases e : heads T with
    | nil =>
      have h0 : lwF (n + 1) T = 0 := by unfold lwF; rw [e]
      rw [h0]
      exact ⟨fun _ _ => Nat.zero_le _, [], holds_nil.mpr e, rfl⟩
    | cons c cs =>
      have h0 : lwF (n + 1) T = 1 + cs.foldl (fun m d => min m (lwF n (stepR T d))) (lwF n (stepR T c)) := by rw [lwF, e]
      obtain ⟨f1, f2, f3⟩ := fold_min (fun d => lwF n (stepR T d)) cs (lwF n (stepR T c))
      have ihs : ∀ d ∈ heads T, _ := fun d hd => ih (stepR T d) (by have := rem_step hd; omega)
      constructor
      · intro w
        induction w with
        | nil =>
          intro h
          rw [holds_nil.mp h] at e
          cases e
        | cons d w iw =>
          intro h
          by_cases hd : d ∈ heads T
          · have h1 := (ihs d hd).1 w (holds_cons.mp h)
            have h2 : cs.foldl (fun m d => min m (lwF n (stepR T d))) (lwF n (stepR T c)) ≤ lwF n (stepR T d) := by
              rw [e] at hd
              rcases List.mem_cons.mp hd with rfl | hd
              · exact f2
              · exact f3 d hd
            rw [h0, List.length_cons]
            omega
          · have := iw (by rw [← step_same hd]; exact holds_cons.mp h)
            rw [List.length_cons]
            omega
      · have : ∃ d ∈ heads T, cs.foldl (fun m d => min m (lwF n (stepR T d))) (lwF n (stepR T c)) = lwF n (stepR T d) := by
          rcases f1 with f1 | ⟨d, hd, f1⟩
          · exact ⟨c, by rw [e]; simp, f1⟩
          · exact ⟨d, by rw [e]; simp [hd], f1⟩
        obtain ⟨d, hd, e2⟩ := this
        obtain ⟨w, hw, hl⟩ := (ihs d hd).2
        exact ⟨d :: w, holds_cons.mpr hw, by rw [h0, e2, List.length_cons, hl]; omega⟩
def lw (T : List (List Nat)) : Nat := lwF (remR T) T
theorem lw_min {T : List (List Nat)} {w : List Nat} (h : HoldsAll w T) : lw T ≤ w.length := (lwF_ok _ T (Nat.le_refl _)).1 w h
theorem lw_ex (T : List (List Nat)) : ∃ w, HoldsAll w T ∧ w.length = lw T := (lwF_ok _ T (Nat.le_refl _)).2
theorem lw_le_rem (T : List (List Nat)) : lw T ≤ remR T := by
  have : HoldsAll T.flatten T := fun r hr => by
    obtain ⟨a, b, rfl⟩ := List.append_of_mem hr
    simp only [List.flatten_append, List.flatten_cons]
    exact (List.sublist_append_left r b.flatten).trans (List.sublist_append_right _ _)
  have h := lw_min this
  rw [List.length_flatten] at h
  exact h
theorem lw_nil {T : List (List Nat)} : lw T = 0 ↔ heads T = [] := by
  constructor
  · intro h
    obtain ⟨w, hw, e⟩ := lw_ex T
    rw [h] at e
    rw [List.eq_nil_of_length_eq_zero e] at hw
    exact holds_nil.mp hw
  · intro h
    have := lw_min (holds_nil.mpr h)
    simpa using this
theorem lw_step (T : List (List Nat)) (c : Nat) : lw T ≤ 1 + lw (stepR T c) := by
  obtain ⟨w, hw, e⟩ := lw_ex (stepR T c)
  have := lw_min (holds_cons.mpr hw)
  rw [List.length_cons] at this
  omega
theorem holds_head {T : List (List Nat)} {c : Nat} {w : List Nat} (h : HoldsAll (c :: w) T) (hl : (c :: w).length = lw T) : c ∈ heads T ∧ lw T = 1 + lw (stepR T c) ∧ HoldsAll w (stepR T c) ∧ w.length = lw (stepR T c) := by
  have h2 := holds_cons.mp h
  have h3 := lw_min h2
  have h4 := lw_step T c
  rw [List.length_cons] at hl
  refine ⟨?_, by omega, h2, by omega⟩
  by_cases hc : c ∈ heads T
  · exact hc
  · rw [step_same hc] at h3
    omega
theorem lw_best {T : List (List Nat)} (h : heads T ≠ []) : ∃ c ∈ heads T, lw T = 1 + lw (stepR T c) := by
  obtain ⟨w, hw, e⟩ := lw_ex T
  cases w with
  | nil => exact absurd (holds_nil.mp hw) h
  | cons c w =>
    obtain ⟨h1, h2, _⟩ := holds_head hw e
    exact ⟨c, h1, h2⟩
/-- what min over the signs tells -/
theorem lw_of_min {T : List (List Nat)} {m : Nat} {sg : List Nat} (hs : ∀ c, c ∈ sg ↔ c ∈ heads T) (h1 : ∃ c ∈ sg, m = lw (stepR T c)) (h2 : ∀ c ∈ sg, m ≤ lw (stepR T c)) : lw T = 1 + m := by
  obtain ⟨c, hc, rfl⟩ := h1
  have hne : heads T ≠ [] := fun e => by
    have := (hs c).mp hc
    rw [e] at this
    cases this
  obtain ⟨d, hd, e⟩ := lw_best hne
  have := h2 d ((hs d).mpr hd)
  have := lw_step T c
  omega

/-! ### the first of them -/
def IsFw (T : List (List Nat)) (w : List Nat) : Prop := HoldsAll w T ∧ w.length = lw T ∧ ∀ v, HoldsAll v T → v.length = lw T → w ≤ v
theorem fw_uniq {T : List (List Nat)} {a b : List Nat} (h : IsFw T a) (g : IsFw T b) : a = b := List.le_antisymm (h.2.2 b g.1 g.2.1) (g.2.2 a h.1 h.2.1)
theorem least_mem {p : Nat → Prop} : ∀ (n : Nat) (l : List Nat), l.length ≤ n → (∃ c ∈ l, p c) → ∃ c ∈ l, p c ∧ ∀ d ∈ l, p d → c ≤ d := by
  intro n
  induction n with
  | zero =>
    intro l hl ⟨c, hc, _⟩
    rw [List.eq_nil_of_length_eq_zero (by omega : l.length = 0)] at hc
    cases hc
  | succ n ih =>
    intro l hl ⟨c, hc, pc⟩
    cases l with
    | nil => cases hc
    | cons x l =>
      by_cases hx : p x
      · by_cases hr : ∃ c ∈ l, p c
        · obtain ⟨d, hd, pd, hle⟩ := ih l (by simpa using hl) hr
          by_cases e : x ≤ d
          · refine ⟨x, by simp, hx, fun y hy py => ?_⟩
            rcases List.mem_cons.mp hy with rfl | hy
            · exact Nat.le_refl _
            · exact Nat.le_trans e (hle y hy py)
          · refine ⟨d, by simp [hd], pd, fun y hy py => ?_⟩
            rcases List.mem_cons.mp hy with rfl | hy
            · omega
            · exact hle y hy py
        · refine ⟨x, by simp, hx, fun y hy py => ?_⟩
          rcases List.mem_cons.mp hy with rfl | hy
          · exact Nat.le_refl _
          · exact absurd ⟨y, hy, py⟩ hr
      · have hr : ∃ c ∈ l, p c := by
          rcases List.mem_cons.mp hc with rfl | hc
          · exact absurd pc hx
          · exact ⟨c, hc, pc⟩
        obtain ⟨d, hd, pd, hle⟩ := ih l (by simpa using hl) hr
        refine ⟨d, by simp [hd], pd, fun y hy py => ?_⟩
        rcases List.mem_cons.mp hy with rfl | hy
        · exact absurd py hx
        · exact hle y hy py
theorem cons_le_of {c d : Nat} {a b : List Nat} (h : c < d ∨ (c = d ∧ a ≤ b)) : c :: a ≤ d :: b := by
  rcases h with h | ⟨rfl, h⟩
  · exact List.le_of_lt (List.Lex.rel h)
  · intro z
    rcases List.cons_lt_cons_iff.mp z with z | ⟨_, z⟩
    · omega
    · exact h z
theorem isFw_cons {T : List (List Nat)} {c : Nat} {w : List Nat} (hc : lw T = 1 + lw (stepR T c)) (hm : ∀ d ∈ heads T, lw T = 1 + lw (stepR T d) → c ≤ d) (h : IsFw (stepR T c) w) : IsFw T (c :: w) := by
  refine ⟨holds_cons.mpr h.1, by rw [List.length_cons, h.2.1]; omega, fun v hv hl => ?_⟩
  cases v with
  | nil =>
    rw [List.length_nil] at hl
    omega
  | cons d v =>
    obtain ⟨h1, h2, h3, h4⟩ := holds_head hv hl
    have := hm d h1 h2
    refine cons_le_of ?_
    by_cases e : c = d
    · subst e
      exact .inr ⟨rfl, h.2.2 v h3 h4⟩
    · exact .inl (by omega)
theorem isFw_nil {T : List (List Nat)} (h : heads T = []) : IsFw T [] := ⟨holds_nil.mpr h, (lw_nil.mpr h).symm, fun v _ _ => List.nil_le v⟩
theorem fw_ex : ∀ (n : Nat) (T : List (List Nat)), lw T ≤ n → ∃ w, IsFw T w := by
  intro n
  induction n with
  | zero => exact fun T h => ⟨[], isFw_nil (lw_nil.mp (by omega))⟩
  | succ n ih =>
    intro T h
    by_cases e : heads T = []
    · exact ⟨[], isFw_nil e⟩
    · obtain ⟨c, hc, e2, hm⟩ := least_mem (p := fun c => lw T = 1 + lw (stepR T c)) _ (heads T) (Nat.le_refl _) (lw_best e)
      obtain ⟨w, hw⟩ := ih (stepR T c) (by omega)
      exact ⟨c :: w, isFw_cons e2 hm hw⟩
noncomputable def fw (T : List (List Nat)) : List Nat := Classical.choose (fw_ex _ T (Nat.le_refl _))
theorem fw_is (T : List (List Nat)) : IsFw T (fw T) := Classical.choose_spec (fw_ex _ T (Nat.le_refl _))
theorem fw_len (T : List (List Nat)) : (fw T).length = lw T := (fw_is T).2.1
theorem fw_holds (T : List (List Nat)) : HoldsAll (fw T) T := (fw_is T).1
theorem fw_first {T : List (List Nat)} {v : List Nat} (h : HoldsAll v T) (hl : v.length = lw T) : fw T ≤ v := (fw_is T).2.2 v h hl
theorem fw_eq {T : List (List Nat)} {w : List Nat} (h : IsFw T w) : fw T = w := fw_uniq (fw_is T) h
theorem fw_nil {T : List (List Nat)} (h : heads T = []) : fw T = [] := fw_eq (isFw_nil h)
theorem fw_cons {T : List (List Nat)} {c : Nat} (hc : lw T = 1 + lw (stepR T c)) (hm : ∀ d ∈ heads T, lw T = 1 + lw (stepR T d) → c ≤ d) : fw T = c :: fw (stepR T c) := fw_eq (isFw_cons hc hm (fw_is _))
theorem fw_mem {T : List (List Nat)} : ∀ (n : Nat) (T : List (List Nat)), lw T ≤ n → ∀ c ∈ fw T, ∃ r ∈ T, c ∈ r := by
  intro n
  induction n with
  | zero =>
    intro T h c hc
    rw [fw_nil (lw_nil.mp (by omega))] at hc
    cases hc
  | succ n ih =>
    intro T h c hc
    by_cases e : heads T = []
    · rw [fw_nil e] at hc
      cases hc
    · obtain ⟨d, hd, e2, hm⟩ := least_mem (p := fun c => lw T = 1 + lw (stepR T c)) _ (heads T) (Nat.le_refl _) (lw_best e)
      rw [fw_cons e2 hm] at hc
      rcases List.mem_cons.mp hc with rfl | hc
      · obtain ⟨t, ht⟩ := mem_heads.mp hd
        exact ⟨_, ht, by simp⟩
      · obtain ⟨r, hr, hcr⟩ := ih (stepR T d) (by omega) c hc
        obtain ⟨t, ht, rfl⟩ := List.mem_map.mp hr
        refine ⟨t, ht, ?_⟩
        unfold av at hcr
        split at hcr
        · exact List.mem_of_mem_drop hcr
        · exact hcr
theorem fw_row {T : List (List Nat)} (h : ∀ r ∈ T, isRow r = true) : isRow (fw T) = true := isRow_of fun c hc => by
  obtain ⟨r, hr, hcr⟩ := fw_mem (T := T) _ T (Nat.le_refl _) c hc
  exact isRow_mem (h r hr) hcr

/-! ### what tells them -/
end SW

end

section
set_option Elab.async false
set_option linter.all false
set_option maxRecDepth 100000
namespace SW
open PySem L2

/-! ### spots -/
def leS (a b : List Nat) : Prop := a.length = b.length ∧ ∀ (i x y : Nat), a[i]? = some x → b[i]? = some y → x ≤ y
theorem leS_refl (a : List Nat) : leS a a := ⟨rfl, fun i x y h1 h2 => by rw [h1] at h2; cases h2; exact Nat.le_refl _⟩
theorem leS_snoc {a b : List Nat} {x y : Nat} (h : leS (a ++ [x]) (b ++ [y])) : leS a b ∧ x ≤ y := by
  have hl : a.length = b.length := by have := h.1; simpa using this
  refine ⟨⟨hl, fun i u v h1 h2 => ?_⟩, ?_⟩
  · exact h.2 i u v (by rw [List.getElem?_append_left (List.getElem?_eq_some_iff.mp h1).1]; exact h1) (by rw [List.getElem?_append_left (List.getElem?_eq_some_iff.mp h2).1]; exact h2)
  · exact h.2 a.length x y (by rw [List.getElem?_append_right (Nat.le_refl _), Nat.sub_self]; rfl) (by rw [hl, List.getElem?_append_right (Nat.le_refl _), Nat.sub_self]; rfl)
/-- a row's places, from its end -/
def downTo (n : Nat) : List Nat := (List.range (n + 1)).reverse
theorem mem_downTo {n d : Nat} : d ∈ downTo n ↔ d ≤ n := by unfold downTo; rw [List.mem_reverse, List.mem_range]; omega
theorem downTo_len (n : Nat) : (downTo n).length = n + 1 := by simp [downTo]
theorem downTo_pw (n : Nat) : (downTo n).Pairwise (fun a b => b < a) := by
  unfold downTo
  rw [List.pairwise_reverse]
  exact List.pairwise_lt_range
def addRow (L : List (List Nat)) (r : List Nat) : List (List Nat) := L.flatMap fun s => (downTo r.length).map fun d => s ++ [d]
def allS (rows : List (List Nat)) : List (List Nat) := rows.foldl addRow [[]]
theorem allS_snoc (rows : List (List Nat)) (r : List Nat) : allS (rows ++ [r]) = addRow (allS rows) r := by unfold allS; rw [List.foldl_append]; rfl
def sizeR (rows : List (List Nat)) : Nat := rows.foldl (fun n r => n * (r.length + 1)) 1
theorem sizeR_snoc (rows : List (List Nat)) (r : List Nat) : sizeR (rows ++ [r]) = sizeR rows * (r.length + 1) := by unfold sizeR; rw [List.foldl_append]; rfl
theorem addRow_len (r : List Nat) : ∀ L : List (List Nat), (addRow L r).length = L.length * (r.length + 1)
  | [] => by simp [addRow]
  | s :: L => by
    have ih := addRow_len r L
    unfold addRow at ih ⊢
    rw [List.flatMap_cons, List.length_append, ih, List.length_map, downTo_len, List.length_cons, Nat.add_mul]
    omega
theorem snoc_ind {α : Type} {p : List α → Prop} (h0 : p []) (h1 : ∀ l a, p l → p (l ++ [a])) (l : List α) : p l := by
  have : ∀ l : List α, p l.reverse := by
    intro l
    induction l with
    | nil => exact h0
    | cons a l ih => rw [List.reverse_cons]; exact h1 _ _ ih
  have h := this l.reverse
  rw [List.reverse_reverse] at h
  exact h
theorem allS_len (rows : List (List Nat)) : (allS rows).length = sizeR rows := by
  induction rows using snoc_ind with
  | h0 => rfl
  | h1 l a ih => rw [allS_snoc, addRow_len, sizeR_snoc, ih]
theorem sizeR_take_le (rows : List (List Nat)) (i : Nat) : sizeR (rows.take i) ≤ sizeR rows := by
  have : ∀ (b a : List (List Nat)), sizeR a ≤ sizeR (a ++ b) := by
    intro b
    induction b with
    | nil => intro a; rw [List.append_nil]; exact Nat.le_refl _
    | cons r b ih =>
      intro a
      have := ih (a ++ [r])
      rw [List.append_assoc] at this
      refine Nat.le_trans ?_ this
      rw [sizeR_snoc]
      exact Nat.le_mul_of_pos_right _ (by omega)
  have h := this (rows.drop i) (rows.take i)
  rwa [List.take_append_drop] at h
theorem allS_pw (rows : List (List Nat)) : (allS rows).Pairwise (fun a b => ¬ leS a b) := by
  induction rows using snoc_ind with
  | h0 => exact List.pairwise_singleton _ _
  | h1 l a ih =>
    rw [allS_snoc]
    unfold addRow
    rw [List.pairwise_flatMap]
    refine ⟨fun s _ => ?_, ih.imp fun {p q} h => ?_⟩
    · rw [List.pairwise_map]
      exact (downTo_pw _).imp fun {x y} hlt h => by have := (leS_snoc h).2; omega
    · intro x hx y hy z
      obtain ⟨d, _, rfl⟩ := List.mem_map.mp hx
      obtain ⟨e, _, rfl⟩ := List.mem_map.mp hy
      exact h (leS_snoc z).1
def spotOk (rows : List (List Nat)) (s : List Nat) : Prop := s.length = rows.length ∧ ∀ (i : Nat) (r : List Nat) (d : Nat), rows[i]? = some r → s[i]? = some d → d ≤ r.length
theorem spotOk_snoc {rows : List (List Nat)} {r : List Nat} {s : List Nat} : spotOk (rows ++ [r]) s ↔ ∃ p d, s = p ++ [d] ∧ spotOk rows p ∧ d ≤ r.length := by
  constructor
  · rintro ⟨h1, h2⟩
    rw [List.length_append, List.length_singleton] at h1
    have hne : s ≠ [] := fun e => by rw [e] at h1; simp at h1
    refine ⟨s.dropLast, s.getLast hne, (List.dropLast_concat_getLast hne).symm, ⟨by rw [List.length_dropLast]; omega, fun i r' d e1 e2 => ?_⟩, ?_⟩
    · have hi := (List.getElem?_eq_some_iff.mp e1).1
      refine h2 i r' d (by rw [List.getElem?_append_left hi]; exact e1) ?_
      rw [← List.dropLast_concat_getLast hne, List.getElem?_append_left (List.getElem?_eq_some_iff.mp e2).1]
      exact e2
    · refine h2 rows.length r _ (by rw [List.getElem?_append_right (Nat.le_refl _), Nat.sub_self]; rfl) ?_
      have := List.getLast?_eq_some_getLast hne
      rw [List.getLast?_eq_getElem?] at this
      rw [← this]
      congr 1
      omega
  · rintro ⟨p, d, rfl, ⟨h1, h2⟩, h3⟩
    refine ⟨by simp [h1], fun i r' d' e1 e2 => ?_⟩
    by_cases hi : i < rows.length
    · rw [List.getElem?_append_left hi] at e1
      rw [List.getElem?_append_left (by omega)] at e2
      exact h2 i r' d' e1 e2
    · have hi2 := (List.getElem?_eq_some_iff.mp e1).1
      rw [List.length_append, List.length_singleton] at hi2
      have : i = rows.length := by omega
      subst this
      rw [List.getElem?_append_right (Nat.le_refl _), Nat.sub_self] at e1
      rw [← h1, List.getElem?_append_right (Nat.le_refl _), Nat.sub_self] at e2
      simp at e1 e2
      subst e1 e2
      exact h3
theorem mem_allS {rows : List (List Nat)} : ∀ {s : List Nat}, s ∈ allS rows ↔ spotOk rows s := by
  induction rows using snoc_ind with
  | h0 =>
    intro s
    show s ∈ [[]] ↔ _
    rw [List.mem_singleton]
    constructor
    · rintro rfl
      exact ⟨rfl, fun i r d e => by simp at e⟩
    · intro h
      exact List.eq_nil_of_length_eq_zero h.1
  | h1 l a ih =>
    intro s
    rw [allS_snoc, spotOk_snoc]
    unfold addRow
    rw [List.mem_flatMap]
    constructor
    · rintro ⟨p, hp, hs⟩
      obtain ⟨d, hd, rfl⟩ := List.mem_map.mp hs
      exact ⟨p, d, rfl, ih.mp hp, mem_downTo.mp hd⟩
    · rintro ⟨p, d, rfl, hp, hd⟩
      exact ⟨p, ih.mpr hp, List.mem_map.mpr ⟨d, mem_downTo.mpr hd, rfl⟩⟩
theorem allS_early {rows : List (List Nat)} {i : Nat} {s t : List Nat} (h : (allS rows)[i]? = some s) (ht : spotOk rows t) (hle : leS s t) (hne : s ≠ t) : t ∈ (allS rows).take i := by
  obtain ⟨hi, e⟩ := List.getElem?_eq_some_iff.mp h
  obtain ⟨j, hj, e2⟩ := List.getElem_of_mem (mem_allS.mpr ht)
  have hji : j < i := by
    rcases Nat.lt_trichotomy j i with z | z | z
    · exact z
    · subst z
      exact absurd (e.symm.trans e2) hne
    · have := List.pairwise_iff_getElem.mp (allS_pw rows) i j hi hj z
      rw [e, e2] at this
      exact absurd hle this
  exact List.mem_iff_getElem.mpr ⟨j, by rw [List.length_take]; omega, by rw [List.getElem_take]; exact e2⟩
theorem allS_new {rows : List (List Nat)} {i : Nat} {s : List Nat} (h : (allS rows)[i]? = some s) : s ∉ (allS rows).take i := by
  intro hm
  obtain ⟨hi, e⟩ := List.getElem?_eq_some_iff.mp h
  obtain ⟨j, hj, e2⟩ := List.getElem_of_mem hm
  rw [List.length_take] at hj
  rw [List.getElem_take] at e2
  have := List.pairwise_iff_getElem.mp (allS_pw rows) j i (by omega) hi (by omega)
  rw [e, e2] at this
  exact this (leS_refl s)
def dropS (rows : List (List Nat)) (s : List Nat) : List (List Nat) := List.zipWith (fun r d => r.drop d) rows s
def spotB (rows : List (List Nat)) (s : List Nat) (c : Nat) : List Nat := List.zipWith (fun r d => adv r d c) rows s
theorem dropS_spotB (rows : List (List Nat)) (s : List Nat) (c : Nat) : dropS rows (spotB rows s c) = stepR (dropS rows s) c := by
  unfold dropS spotB stepR
  induction rows generalizing s with
  | nil => rfl
  | cons r rows ih =>
    cases s with
    | nil => rfl
    | cons d s =>
      rw [List.zipWith_cons_cons, List.zipWith_cons_cons, List.zipWith_cons_cons, List.map_cons, ih, drop_adv]
theorem spotB_get {rows : List (List Nat)} {s : List Nat} {c i y : Nat} (h : (spotB rows s c)[i]? = some y) : ∃ r d, rows[i]? = some r ∧ s[i]? = some d ∧ y = adv r d c := by
  unfold spotB at h
  rw [List.getElem?_zipWith] at h
  cases e1 : rows[i]? with
  | none => simp [e1] at h
  | some r =>
    cases e2 : s[i]? with
    | none => simp [e1, e2] at h
    | some d =>
      simp [e1, e2] at h
      exact ⟨r, d, rfl, rfl, h.symm⟩
theorem spotB_len {rows : List (List Nat)} {s : List Nat} {c : Nat} (h : s.length = rows.length) : (spotB rows s c).length = rows.length := by unfold spotB; rw [List.length_zipWith]; omega
theorem spotB_ok {rows : List (List Nat)} {s : List Nat} (c : Nat) (h : spotOk rows s) : spotOk rows (spotB rows s c) := by
  refine ⟨spotB_len h.1, fun i r d e1 e2 => ?_⟩
  obtain ⟨r', d', f1, f2, rfl⟩ := spotB_get e2
  rw [e1] at f1
  cases f1
  exact adv_le (h.2 i r d' e1 f2)
theorem spotB_le {rows : List (List Nat)} {s : List Nat} (c : Nat) (h : spotOk rows s) : leS s (spotB rows s c) := by
  refine ⟨by rw [spotB_len h.1]; exact h.1, fun i x y e1 e2 => ?_⟩
  obtain ⟨r', d', f1, f2, rfl⟩ := spotB_get e2
  rw [e1] at f2
  cases f2
  unfold adv
  omega
theorem spotB_ne {rows : List (List Nat)} {s : List Nat} {c : Nat} (hc : c ∈ heads (dropS rows s)) : s ≠ spotB rows s c := fun e => by
  have h := rem_step hc
  rw [← dropS_spotB, ← e] at h
  omega
def zeroS (rows : List (List Nat)) : List Nat := rows.map fun _ => 0
theorem dropS_zero (rows : List (List Nat)) : dropS rows (zeroS rows) = rows := by
  unfold dropS zeroS
  induction rows with
  | nil => rfl
  | cons r rows ih => rw [List.map_cons, List.zipWith_cons_cons, ih]; rfl
theorem zeroS_ok (rows : List (List Nat)) : spotOk rows (zeroS rows) := ⟨by simp [zeroS], fun i r d e1 e2 => by
  unfold zeroS at e2
  rw [List.getElem?_map, e1] at e2
  simp at e2
  omega⟩
/-! ### spots as keys -/
def spD (s : List Nat) : D := .tup (natsD s)
theorem keqs_nats : ∀ a b : List Nat, keqs (natsD a) (natsD b) = decide (a = b)
  | [], [] => rfl
  | [], _ :: _ => by simp [natsD, keqs]
  | _ :: _, [] => by simp [natsD, keqs]
  | x :: a, y :: b => by
    show (keq1 (.int (x : Int)) (.int (y : Int)) && keqs (natsD a) (natsD b)) = _
    rw [keqs_nats a b]
    show (decide ((x : Int) = (y : Int)) && _) = _
    by_cases h : x = y
    · by_cases h2 : a = b <;> simp [h, h2]
    · have : ¬ ((x : Int) = (y : Int)) := by omega
      simp [h, this]
theorem keq_sp (a b : List Nat) : keq (spD a) (spD b) = decide (a = b) := keqs_nats a b
theorem isKD_sp (s : List Nat) : isKD true (spD s) = true := by
  show (true && (natsD s).all isK1) = true
  rw [Bool.true_and, List.all_eq_true]
  intro d hd
  unfold natsD at hd
  obtain ⟨n, _, rfl⟩ := List.mem_map.mp hd
  rfl
section
variable {α : Type} [DecidableEq α] {f : α → D} (hf : ∀ a b, keq (f a) (f b) = decide (a = b))
include hf
theorem look_map (g : α → D) (x : α) : ∀ l : List α, lookD (f x) (l.map f) (l.map g) = if x ∈ l then some (g x) else none
  | [] => rfl
  | y :: l => by
    show (if keq (f y) (f x) then some (g y) else lookD (f x) (l.map f) (l.map g)) = _
    rw [hf, look_map g x l]
    by_cases h : y = x
    · subst h
      simp
    · have : ¬ x = y := fun e => h e.symm
      simp [h, this]
theorem has_map (x : α) (l : List α) : hasD (f x) (l.map f) = decide (x ∈ l) := by
  unfold hasD
  rw [List.any_map]
  induction l with
  | nil => rfl
  | cons y l ih =>
    rw [List.any_cons, ih]
    show (keq (f y) (f x) || _) = _
    rw [hf]
    by_cases h : y = x
    · subst h; simp
    · have : ¬ x = y := fun e => h e.symm
      simp [h, this]
theorem put_new {x : α} {l : List α} (g : α → D) (h : x ∉ l) : putKs (f x) (l.map f) = (l ++ [x]).map f ∧ putVs (f x) (g x) (l.map f) (l.map g) = (l ++ [x]).map g := by
  unfold putKs putVs
  rw [has_map hf, decide_eq_false h]
  simp
end
theorem noCs_natsD (l : List Nat) : noCs (natsD l) = true := by unfold natsD; exact noCs_map _ (fun _ => rfl) _
theorem noC_sp (s : List Nat) : noC (spD s) = true := by unfold spD noC; exact noCs_natsD s
theorem noCs_sp (l : List (List Nat)) : noCs (l.map spD) = true := noCs_map _ noC_sp _
theorem rangeD_down (n : Nat) : rangeD (n : Int) (-1) (n + 1) = natsD (downTo n) := by
  unfold rangeD natsD downTo
  apply List.ext_getElem?
  intro i
  rw [List.getElem?_map, List.getElem?_map]
  by_cases h : i < n + 1
  · rw [List.getElem?_range h, List.getElem?_reverse (by rw [List.length_range]; exact h), List.length_range, List.getElem?_range (by omega)]
    simp only [Option.map_some]
    congr 2
    omega
  · rw [List.getElem?_eq_none (by rw [List.length_range]; omega), List.getElem?_eq_none (by rw [List.length_reverse, List.length_range]; omega)]
    rfl
theorem sp_snoc (s : List Nat) (d : Nat) : D.tup (natsD s ++ [.int (d : Int)]) = spD (s ++ [d]) := by simp [spD, natsD]
theorem addRow_snoc (L : List (List Nat)) (s r : List Nat) : addRow (L ++ [s]) r = addRow L r ++ (downTo r.length).map (fun d => s ++ [d]) := by unfold addRow; simp

/-! ### comprehensions over data told by a list -/
theorem lc_of {α : Type} {l : List α} (g : α → D) {G : TGD} {T : TDT} {A : TD} {δ : DS} {vs : List Nat} {μ : Mu} {fin : List D → Mu → DQ → Prop} {Q : DQ} (p : α → Bool) (f : α → D) (hz : l.length ≤ sizeLine)
    (h : ∀ (j : Nat) c, l[j]? = some c → ∀ (KA : D → Mu → Prop) (KF : Mu → Prop), (p c = true → KA (f c) μ) → (p c = false → KF μ) →
      G (g c) (wipeD δ vs) μ (fun δ2 μ2 => T δ2 μ2 (fun b μ3 => (b = true → A δ2 μ3 KA E0D) ∧ (b = false → KF μ3)) E0D))
    (q : fin ((l.filter p).map f) μ Q) :
    ∃ I : Nat → List D → Mu → Prop, I 0 [] μ ∧ (∀ j d acc μ, (l.map g)[j]? = some d → I j acc μ → G d (wipeD δ vs) μ (fun δ2 μ2 => T δ2 μ2 (fun b μ3 => (b = true → A δ2 μ3 (fun y μ4 => acc.length < sizeLine ∧ I (j + 1) (acc ++ [y]) μ4) E0D) ∧ (b = false → I (j + 1) acc μ3)) E0D)) ∧
      ∀ acc μ, I (l.map g).length acc μ → fin acc μ Q := by
  refine ⟨fun i acc μ' => μ' = μ ∧ acc = ((l.take i).filter p).map f, ⟨rfl, by simp⟩, ?_, ?_⟩
  · rintro i d acc μ' hd ⟨rfl, rfl⟩
    rw [List.getElem?_map] at hd
    obtain ⟨c, hc, rfl⟩ := Option.map_eq_some_iff.mp hd
    have hi := (List.getElem?_eq_some_iff.mp hc).1
    have et : l.take (i + 1) = l.take i ++ [c] := by rw [List.take_add_one, hc]; rfl
    refine h i c hc _ _ (fun hp => ⟨?_, rfl, ?_⟩) (fun hp => ⟨rfl, ?_⟩)
    · refine Nat.lt_of_le_of_lt (m := i) ?_ (Nat.lt_of_lt_of_le hi hz)
      rw [List.length_map]
      refine Nat.le_trans (List.length_filter_le _ _) ?_
      rw [List.length_take]
      exact Nat.min_le_left _ _
    · rw [et, List.filter_append, List.map_append]
      simp [hp]
    · rw [et, List.filter_append, List.map_append]
      simp [hp]
  · rintro acc μ' ⟨rfl, rfl⟩
    rw [List.length_map, List.take_length]
    exact q
theorem lc_ofM {α : Type} {l : List α} (g : α → D) {G : TGD} {A : TD} {δ : DS} {vs : List Nat} {μ : Mu} {fin : List D → Mu → DQ → Prop} {Q : DQ} (f : α → D) (hz : l.length ≤ sizeLine)
    (h : ∀ (j : Nat) c, l[j]? = some c → ∀ (KA : D → Mu → Prop), KA (f c) μ → G (g c) (wipeD δ vs) μ (fun δ2 μ2 => A δ2 μ2 KA E0D))
    (hG : ∀ d δ μ K K', (∀ δ2 μ2, K δ2 μ2 → K' δ2 μ2) → G d δ μ K → G d δ μ K')
    (q : fin (l.map f) μ Q) :
    ∃ I : Nat → List D → Mu → Prop, I 0 [] μ ∧ (∀ j d acc μ, (l.map g)[j]? = some d → I j acc μ → G d (wipeD δ vs) μ (fun δ2 μ2 => dYes δ2 μ2 (fun b μ3 => (b = true → A δ2 μ3 (fun y μ4 => acc.length < sizeLine ∧ I (j + 1) (acc ++ [y]) μ4) E0D) ∧ (b = false → I (j + 1) acc μ3)) E0D)) ∧
      ∀ acc μ, I (l.map g).length acc μ → fin acc μ Q := by
  refine lc_of g (fun _ => true) f hz (fun i d hd KA KF h1 _ => ?_) (by
    have e : l.filter (fun _ => true) = l := List.filter_eq_self.mpr fun _ _ => rfl
    rw [e]
    exact q)
  exact hG _ _ _ _ _ (fun δ2 μ2 hk => ⟨fun _ => hk, fun z => Bool.noConfusion z⟩) (h i d hd KA (h1 rfl))
theorem pairZ_strs (rows : List (List Nat)) (s : List Nat) : pairZ (rows.map .str) (natsD s) = (rows.zip s).map fun q => .tup [.str q.1, .int (q.2 : Int)] := by
  unfold pairZ
  apply List.ext_getElem?
  intro i
  rw [List.getElem?_map, List.getElem?_map, List.length_map, natsD_len]
  by_cases h : i < min rows.length s.length
  · have h1 : i < rows.length := by omega
    have h2 : i < s.length := by omega
    rw [List.getElem?_range h, (List.getElem?_zip_eq_some (z := (rows[i], s[i]))).mpr ⟨List.getElem?_eq_getElem h1, List.getElem?_eq_getElem h2⟩]
    simp only [Option.map_some]
    rw [List.getD_eq_getElem?_getD, List.getD_eq_getElem?_getD, List.getElem?_map, List.getElem?_eq_getElem h1, natsD_at (List.getElem?_eq_getElem h2)]
    rfl
  · rw [List.getElem?_eq_none (by rw [List.length_range]; omega), List.getElem?_eq_none (by rw [List.length_zip]; omega)]
    rfl
theorem zip_heads (rows : List (List Nat)) (s : List Nat) (h : s.length = rows.length) : ((rows.zip s).filter fun q => decide (q.2 < q.1.length)).map (fun q => q.1.getD q.2 0) = heads (dropS rows s) := by
  induction rows generalizing s with
  | nil => rfl
  | cons r rows ih =>
    cases s with
    | nil => simp at h
    | cons d s =>
      have ih := ih s (by simpa using h)
      show _ = heads (r.drop d :: dropS rows s)
      rw [heads_cons, ← ih, List.zip_cons_cons, List.filter_cons]
      by_cases hd : d < r.length
      · have e : (r.drop d).take 1 = [r.getD d 0] := by
          rw [drop_get (List.getElem?_eq_getElem hd), List.getD_eq_getElem?_getD, List.getElem?_eq_getElem hd]
          rfl
        rw [e]
        simp [hd]
      · have e : (r.drop d).take 1 = [] := by rw [List.drop_eq_nil_of_le (by omega)]; rfl
        rw [e]
        simp [hd]
theorem zip_mem {rows : List (List Nat)} {s : List Nat} {j : Nat} {q : List Nat × Nat} (hs : spotOk rows s) (h : (rows.zip s)[j]? = some q) : rows[j]? = some q.1 ∧ s[j]? = some q.2 ∧ q.2 ≤ q.1.length := by
  obtain ⟨h1, h2⟩ := List.getElem?_zip_eq_some.mp h
  exact ⟨h1, h2, hs.2 _ _ _ h1 h2⟩
theorem zip_spotB (rows : List (List Nat)) (s : List Nat) (c : Nat) : (rows.zip s).map (fun q => D.int ((adv q.1 q.2 c : Nat) : Int)) = natsD (spotB rows s c) := by
  unfold spotB natsD
  rw [List.map_zipWith, List.zip_eq_zipWith, List.map_zipWith]
theorem nodup_few : ∀ {l m : List Nat}, l.Nodup → (∀ c ∈ l, c ∈ m) → l.length ≤ m.length
  | [], m, _, _ => Nat.zero_le _
  | x :: l, m, h, hs => by
    obtain ⟨h1, h2⟩ := List.nodup_cons.mp h
    obtain ⟨a, b, rfl⟩ := List.append_of_mem (hs x (by simp))
    have := nodup_few (m := a ++ b) h2 fun c hc => by
      have := hs c (by simp [hc])
      rw [List.mem_append, List.mem_cons] at this
      rcases this with z | rfl | z
      · exact List.mem_append_left _ z
      · exact absurd hc h1
      · exact List.mem_append_right _ z
    simp at this ⊢
    omega
theorem heads_len : ∀ T : List (List Nat), (heads T).length ≤ T.length
  | [] => Nat.le_refl _
  | r :: T => by
    have := heads_len T
    rw [heads_cons, List.length_append, List.length_take, List.length_cons]
    omega
theorem dropS_len {rows : List (List Nat)} {s : List Nat} : (dropS rows s).length ≤ rows.length := by unfold dropS; rw [List.length_zipWith]; omega
theorem heads_few {rows : List (List Nat)} {s sg : List Nat} (h : sg.Pairwise (· < ·)) (hm : ∀ c, c ∈ sg ↔ c ∈ heads (dropS rows s)) : sg.length ≤ rows.length := by
  have h1 := nodup_few (l := sg) (m := heads (dropS rows s)) (h.imp fun h e => by omega) fun c hc => (hm c).mp hc
  have h2 := heads_len (dropS rows s)
  have h3 := dropS_len (rows := rows) (s := s)
  omega
/-! ### the told paper -/
def papD (rows : List (List Nat)) : D := .dct true ((allS rows).map spD) ((allS rows).map fun s => .int (lw (dropS rows s)))
theorem noC_pap (rows : List (List Nat)) : noC (papD rows) = true := by unfold papD noC; exact noCs_map _ (fun _ => rfl) _
theorem pap_look {rows : List (List Nat)} {s : List Nat} (h : spotOk rows s) : lookD (spD s) ((allS rows).map spD) ((allS rows).map fun s => .int (lw (dropS rows s))) = some (.int (lw (dropS rows s))) := by
  rw [look_map keq_sp, if_pos (mem_allS.mpr h)]
theorem st_pap {rows : List (List Nat)} {s : List Nat} {μ : Mu} {Q : DQ} (h : spotOk rows s) (q : Q (.int (lw (dropS rows s))) μ) : dIxD (papD rows) (spD s) μ Q := st_ixD rfl (isKD_sp s) (pap_look h) q
theorem lw_step_le {T : List (List Nat)} {c : Nat} : lw (stepR T c) < lw T ↔ lw T = 1 + lw (stepR T c) := by
  have := lw_step T c
  omega
theorem lw_remS (rows : List (List Nat)) (s : List Nat) : remR (dropS rows s) ≤ remR rows := by
  unfold dropS
  induction rows generalizing s with
  | nil => exact Nat.le_refl _
  | cons r rows ih =>
    cases s with
    | nil => exact Nat.zero_le _
    | cons d s =>
      have := ih s
      show (r.drop d).length + remR (List.zipWith _ rows s) ≤ r.length + remR rows
      rw [List.length_drop]
      omega
theorem rem_rows {rows : List (List Nat)} {m : Nat} (h : Rows rows m) : remR rows ≤ rows.length * m := by
  unfold remR
  induction rows with
  | nil => simp
  | cons r rows ih =>
    have h1 := (h r List.mem_cons_self).2
    have h2 := ih fun x hx => h x (List.mem_cons_of_mem _ hx)
    rw [List.map_cons, List.sum_cons, List.length_cons, Nat.add_mul]
    omega
/-- the signs are gone along: the first that keeps -/
theorem keep_first {T : List (List Nat)} {sg : List Nat} {i c : Nat} (hsg : sg.Pairwise (· < ·)) (hm : ∀ c, c ∈ sg ↔ c ∈ heads T) (hc : sg[i]? = some c) (hk : lw (stepR T c) < lw T) (hno : ∀ j d, j < i → sg[j]? = some d → ¬ lw (stepR T d) < lw T) :
    fw T = c :: fw (stepR T c) := by
  refine fw_cons (lw_step_le.mp hk) fun d hd e => ?_
  have hd := (hm d).mpr hd
  obtain ⟨j, hj⟩ := List.getElem?_of_mem hd
  rcases Nat.lt_trichotomy j i with z | z | z
  · exact absurd (lw_step_le.mpr e) (hno j d z hj)
  · subst z
    rw [hc] at hj
    cases hj
    exact Nat.le_refl _
  · obtain ⟨h1, e1⟩ := List.getElem?_eq_some_iff.mp hc
    obtain ⟨h2, e2⟩ := List.getElem?_eq_some_iff.mp hj
    have := List.pairwise_iff_getElem.mp hsg i j h1 h2 z
    omega
theorem st_mul0 {rows : List (List Nat)} {μ : Mu} {Q : DQ} (h : (rows.map D.str).length ≤ 1000) (q : Q (spD (zeroS rows)) μ) : dMulT (.tup [.int 0]) (.int ((rows.map D.str).length : Nat)) μ Q := by
  refine st_mulT h ?_
  have e : D.tup (List.replicate (rows.map D.str).length (.int 0)) = spD (zeroS rows) := by
    unfold spD natsD zeroS
    rw [List.length_map, List.map_map, ← List.map_const']
    rfl
  rw [e]
  exact q
end SW

end

section
set_option Elab.async false
set_option linter.all false
set_option maxRecDepth 100000
namespace SW
open PySem L2

/-! ### layer by layer -/
def ledS (rows : List (List Nat)) (s : List Nat) (w : List Nat) : List Nat := w.foldl (spotB rows) s
def okS (rows : List (List Nat)) : List Nat → List Nat → Prop
  | _, [] => True
  | s, c :: w => c ∈ heads (dropS rows s) ∧ okS rows (spotB rows s c) w
theorem ledS_snoc (rows : List (List Nat)) (s w : List Nat) (c : Nat) : ledS rows s (w ++ [c]) = spotB rows (ledS rows s w) c := by unfold ledS; rw [List.foldl_append]; rfl
theorem okS_snoc {rows : List (List Nat)} {c : Nat} : ∀ {w s : List Nat}, okS rows s (w ++ [c]) ↔ okS rows s w ∧ c ∈ heads (dropS rows (ledS rows s w))
  | [], s => by
    show (c ∈ heads (dropS rows s) ∧ True) ↔ (True ∧ c ∈ heads (dropS rows s))
    exact ⟨fun h => ⟨trivial, h.1⟩, fun h => ⟨h.2, trivial⟩⟩
  | d :: w, s => by
    show (d ∈ heads (dropS rows s) ∧ okS rows (spotB rows s d) (w ++ [c])) ↔ ((d ∈ heads (dropS rows s) ∧ okS rows (spotB rows s d) w) ∧ c ∈ heads (dropS rows (ledS rows (spotB rows s d) w)))
    rw [okS_snoc]
    exact ⟨fun h => ⟨⟨h.1, h.2.1⟩, h.2.2⟩, fun h => ⟨h.1.1, h.1.2, h.2⟩⟩
theorem ledS_ok {rows : List (List Nat)} : ∀ (w : List Nat) {s : List Nat}, spotOk rows s → spotOk rows (ledS rows s w)
  | [], _, h => h
  | c :: w, _, h => ledS_ok w (spotB_ok c h)
theorem holds_led {rows : List (List Nat)} : ∀ (w s : List Nat), HoldsAll w (dropS rows s) ↔ heads (dropS rows (ledS rows s w)) = []
  | [], s => holds_nil
  | c :: w, s => by
    rw [holds_cons, ← dropS_spotB]
    exact holds_led w (spotB rows s c)
theorem okS_short {rows : List (List Nat)} : ∀ (w s : List Nat), HoldsAll w (dropS rows s) → w.length = lw (dropS rows s) → okS rows s w
  | [], _, _, _ => trivial
  | c :: w, s, h, e => by
    obtain ⟨h1, h2, h3, h4⟩ := holds_head h e
    rw [← dropS_spotB] at h3 h4
    exact ⟨h1, okS_short w _ h3 h4⟩
def endS (rows : List (List Nat)) : List Nat := rows.map List.length
theorem heads_nil_all {T : List (List Nat)} (h : heads T = []) : ∀ r ∈ T, r = [] := fun r hr => by
  cases r with
  | nil => rfl
  | cons x r =>
    have : x ∈ heads T := mem_heads.mpr ⟨r, hr⟩
    rw [h] at this
    cases this
theorem endS_of {rows : List (List Nat)} : ∀ {s : List Nat}, spotOk rows s → heads (dropS rows s) = [] → s = endS rows := by
  intro s hs h
  apply List.ext_getElem?
  intro i
  unfold endS
  rw [List.getElem?_map]
  by_cases hi : i < rows.length
  · have hi2 : i < s.length := by rw [hs.1]; exact hi
    have e1 := List.getElem?_eq_getElem hi
    have e2 := List.getElem?_eq_getElem hi2
    have hm : rows[i].drop s[i] ∈ dropS rows s := by
      unfold dropS
      refine List.mem_of_getElem? (i := i) ?_
      rw [List.getElem?_zipWith, e1, e2]
    have h0 := heads_nil_all h _ hm
    have h1 := hs.2 i _ _ e1 e2
    have h2 := congrArg List.length h0
    rw [List.length_drop, List.length_nil] at h2
    rw [e1, e2]
    simp only [Option.map_some]
    congr 1
    omega
  · rw [List.getElem?_eq_none (by rw [hs.1]; omega), List.getElem?_eq_none (by omega)]
    rfl
theorem heads_end {rows : List (List Nat)} : heads (dropS rows (endS rows)) = [] := by
  unfold dropS endS heads
  induction rows with
  | nil => rfl
  | cons r rows ih =>
    rw [List.map_cons, List.zipWith_cons_cons, List.flatMap_cons, ih]
    simp
structure Lay (rows : List (List Nat)) (s0 : List Nat) (l layer : List (List Nat)) (f : List Nat → List Nat) (i : Nat) : Prop where
  ok : ∀ s ∈ l, okS rows s0 (f s) ∧ ledS rows s0 (f s) = s ∧ (f s).length ≤ i
  best : ∀ s ∈ l, ∀ w, okS rows s0 w → ledS rows s0 w = s → (f s).length ≤ w.length ∧ (w.length = (f s).length → f s ≤ w)
  all : ∀ w, okS rows s0 w → w.length ≤ i → ledS rows s0 w ∈ l
  lay : ∀ s, s ∈ layer ↔ s ∈ l ∧ (f s).length = i
  ord : layer.Pairwise (fun a b => f a < f b)
theorem Lay.zero (rows : List (List Nat)) (s0 : List Nat) : Lay rows s0 [s0] [s0] (fun _ => []) 0 where
  ok := fun s h => by
    rw [List.mem_singleton] at h
    subst h
    exact ⟨trivial, rfl, Nat.le_refl _⟩
  best := fun s h w _ _ => ⟨Nat.zero_le _, fun _ => List.nil_le w⟩
  all := fun w _ h => by
    rw [List.eq_nil_of_length_eq_zero (by omega : w.length = 0)]
    exact List.mem_singleton.mpr rfl
  lay := fun s => by simp
  ord := List.pairwise_singleton _ _
structure LayI (rows : List (List Nat)) (l0 found : List (List Nat)) (f : List Nat → List Nat) (Pr : List Nat → Nat → Prop) : Prop where
  inl : ∀ h c, Pr h c → h ∈ l0
  done : ∀ h c, Pr h c → spotB rows h c ∈ l0 ++ found
  new : ∀ s ∈ found, s ∉ l0 ∧ ∃ h c, Pr h c ∧ spotB rows h c = s ∧ f s = f h ++ [c]
  least : ∀ h c, Pr h c → spotB rows h c ∈ found → f (spotB rows h c) ≤ f h ++ [c]
  ord : found.Pairwise (fun a b => f a < f b)
def updF (f : List Nat → List Nat) (s v : List Nat) : List Nat → List Nat := fun x => if x = s then v else f x
theorem updF_same (f : List Nat → List Nat) (s v : List Nat) : updF f s v s = v := by simp [updF]
theorem updF_ne {f : List Nat → List Nat} {s v x : List Nat} (h : x ≠ s) : updF f s v x = f x := by simp [updF, h]
theorem LayI.mono {rows l0 found : List (List Nat)} {f : List Nat → List Nat} {Pr Pr' : List Nat → Nat → Prop} (I : LayI rows l0 found f Pr) (h : ∀ a c, Pr a c ↔ Pr' a c) : LayI rows l0 found f Pr' :=
  ⟨fun a c p => I.inl a c ((h a c).mpr p), fun a c p => I.done a c ((h a c).mpr p), fun s hs => let ⟨h1, a, c, p, e1, e2⟩ := I.new s hs; ⟨h1, a, c, (h a c).mp p, e1, e2⟩, fun a c p => I.least a c ((h a c).mpr p), I.ord⟩
theorem LayI.start {rows l0 : List (List Nat)} {f : List Nat → List Nat} : LayI rows l0 [] f (fun _ _ => False) :=
  ⟨fun _ _ h => False.elim h, fun _ _ h => False.elim h, (fun _ h => nomatch h), fun _ _ h => False.elim h, List.Pairwise.nil⟩
theorem LayI.old {rows l0 found : List (List Nat)} {f : List Nat → List Nat} {Pr : List Nat → Nat → Prop} {h : List Nat} {c : Nat} (I : LayI rows l0 found f Pr) (hh : h ∈ l0) (hlt : ∀ a d, Pr a d → f a ++ [d] < f h ++ [c]) (hm : spotB rows h c ∈ l0 ++ found) :
    LayI rows l0 found f (fun a d => Pr a d ∨ (a = h ∧ d = c)) := by
  refine ⟨fun a d p => by rcases p with p | ⟨rfl, rfl⟩; exact I.inl a d p; exact hh, fun a d p => by rcases p with p | ⟨rfl, rfl⟩; exact I.done a d p; exact hm, fun s hs => ?_, fun a d p hf => ?_, I.ord⟩
  · obtain ⟨h1, a, d, p, e1, e2⟩ := I.new s hs
    exact ⟨h1, a, d, .inl p, e1, e2⟩
  · rcases p with p | ⟨rfl, rfl⟩
    · exact I.least a d p hf
    · obtain ⟨_, a', d', p', e1, e2⟩ := I.new _ hf
      rw [e2]
      exact List.le_of_lt (hlt a' d' p')
theorem LayI.add {rows l0 found : List (List Nat)} {f : List Nat → List Nat} {Pr : List Nat → Nat → Prop} {h : List Nat} {c : Nat} (I : LayI rows l0 found f Pr) (hh : h ∈ l0) (hlt : ∀ a d, Pr a d → f a ++ [d] < f h ++ [c]) (hm : spotB rows h c ∉ l0 ++ found) :
    LayI rows l0 (found ++ [spotB rows h c]) (updF f (spotB rows h c) (f h ++ [c])) (fun a d => Pr a d ∨ (a = h ∧ d = c)) := by
  have n0 : ∀ s ∈ l0, s ≠ spotB rows h c := fun s hs e => hm (List.mem_append_left _ (e ▸ hs))
  have n1 : ∀ s ∈ found, s ≠ spotB rows h c := fun s hs e => hm (List.mem_append_right _ (e ▸ hs))
  refine ⟨fun a d p => by rcases p with p | ⟨rfl, rfl⟩; exact I.inl a d p; exact hh, fun a d p => ?_, fun s hs => ?_, fun a d p hf => ?_, ?_⟩
  · rw [← List.append_assoc]
    rcases p with p | ⟨rfl, rfl⟩
    · exact List.mem_append_left _ (I.done a d p)
    · exact List.mem_append_right _ (List.mem_singleton.mpr rfl)
  · rcases List.mem_append.mp hs with hs | hs
    · obtain ⟨h1, a, d, p, e1, e2⟩ := I.new s hs
      exact ⟨h1, a, d, .inl p, e1, by rw [updF_ne (n1 s hs), updF_ne (n0 a (I.inl a d p))]; exact e2⟩
    · rw [List.mem_singleton] at hs
      subst hs
      exact ⟨fun z => hm (List.mem_append_left _ z), h, c, .inr ⟨rfl, rfl⟩, rfl, by rw [updF_same, updF_ne (n0 h hh)]⟩
  · rcases p with p | ⟨rfl, rfl⟩
    · have hd := I.done a d p
      rw [updF_ne (n0 a (I.inl a d p))]
      have hne : spotB rows a d ≠ spotB rows h c := fun e => hm (e ▸ hd)
      rw [updF_ne hne]
      rcases List.mem_append.mp hf with hf | hf
      · exact I.least a d p hf
      · exact absurd (List.mem_singleton.mp hf) hne
    · rw [updF_same, updF_ne (n0 a hh)]
      exact List.le_refl _
  · rw [List.pairwise_append]
    refine ⟨?_, List.pairwise_singleton _ _, fun a ha b hb => ?_⟩
    · refine List.Pairwise.imp_of_mem (fun {a b} ha hb hab => ?_) I.ord
      rw [updF_ne (n1 a ha), updF_ne (n1 b hb)]
      exact hab
    · rw [List.mem_singleton] at hb
      subst hb
      rw [updF_same, updF_ne (n1 a ha)]
      obtain ⟨_, a', d', p', e1, e2⟩ := I.new a ha
      rw [e2]
      exact hlt a' d' p'
theorem snoc_le {a b : List Nat} {c : Nat} (h : a ≤ b) (hl : a.length = b.length) : a ++ [c] ≤ b ++ [c] := by
  induction a generalizing b with
  | nil =>
    cases b with
    | nil => exact List.le_refl _
    | cons _ _ => simp at hl
  | cons x a ih =>
    cases b with
    | nil => simp at hl
    | cons y b =>
      rw [List.cons_append, List.cons_append]
      by_cases e : x = y
      · subst e
        refine cons_le_of (.inr ⟨rfl, ih (fun z => h (List.cons_lt_cons_iff.mpr (.inr ⟨rfl, z⟩))) (by simpa using hl)⟩)
      · refine cons_le_of (.inl ?_)
        rcases Nat.lt_trichotomy x y with z | z | z
        · exact z
        · exact absurd z e
        · exact absurd (List.cons_lt_cons_iff.mpr (.inl z)) h
theorem Lay.next {rows : List (List Nat)} {s0 : List Nat} {l layer found : List (List Nat)} {f g : List Nat → List Nat} {i : Nat} (L : Lay rows s0 l layer f i) (hg : ∀ s ∈ l, g s = f s)
    (I : LayI rows l found g (fun h c => h ∈ layer ∧ c ∈ heads (dropS rows h))) : Lay rows s0 (l ++ found) found g (i + 1) := by
  have inL : ∀ h, h ∈ layer → h ∈ l ∧ (f h).length = i := fun h hh => (L.lay h).mp hh
  have nw : ∀ s ∈ found, s ∉ l ∧ okS rows s0 (g s) ∧ ledS rows s0 (g s) = s ∧ (g s).length = i + 1 := fun s hs => by
    obtain ⟨h1, h, c, ⟨p1, p2⟩, e1, e2⟩ := I.new s hs
    obtain ⟨q1, q2⟩ := inL h p1
    obtain ⟨o1, o2, _⟩ := L.ok h q1
    rw [hg h q1] at e2
    rw [e2, okS_snoc, ledS_snoc, o2]
    exact ⟨h1, ⟨o1, p2⟩, e1, by simp [q2]⟩
  have cand : ∀ w, okS rows s0 w → w.length = i + 1 → ledS rows s0 w ∈ l ∨ (ledS rows s0 w ∈ found ∧ g (ledS rows s0 w) ≤ w) := fun w hw hl => by
    have hne : w ≠ [] := fun e => by rw [e] at hl; simp at hl
    obtain ⟨u, c, rfl⟩ : ∃ u c, w = u ++ [c] := ⟨w.dropLast, w.getLast hne, (List.dropLast_concat_getLast hne).symm⟩
    rw [List.length_append, List.length_singleton] at hl
    obtain ⟨hu, hc⟩ := okS_snoc.mp hw
    have hin := L.all u hu (by omega)
    obtain ⟨b1, b2⟩ := L.best _ hin u hu rfl
    obtain ⟨o1, o2, o3⟩ := L.ok _ hin
    rw [ledS_snoc]
    by_cases e : (f (ledS rows s0 u)).length = i
    · have hlay := (L.lay _).mpr ⟨hin, e⟩
      rcases List.mem_append.mp (I.done _ c ⟨hlay, hc⟩) with z | z
      · exact .inl z
      · refine .inr ⟨z, List.le_trans (I.least _ c ⟨hlay, hc⟩ z) ?_⟩
        rw [hg _ hin]
        exact snoc_le (b2 (by omega)) (by omega)
    · refine .inl ?_
      have := L.all (f (ledS rows s0 u) ++ [c]) (okS_snoc.mpr ⟨o1, by rw [o2]; exact hc⟩) (by rw [List.length_append, List.length_singleton]; omega)
      rw [ledS_snoc, o2] at this
      exact this
  refine ⟨fun s hs => ?_, fun s hs w hw e => ?_, fun w hw hl => ?_, fun s => ?_, I.ord⟩
  · rcases List.mem_append.mp hs with hs | hs
    · rw [hg s hs]
      obtain ⟨a, b, c⟩ := L.ok s hs
      exact ⟨a, b, by omega⟩
    · obtain ⟨_, a, b, c⟩ := nw s hs
      exact ⟨a, b, by omega⟩
  · rcases List.mem_append.mp hs with hs | hs
    · rw [hg s hs]
      exact L.best s hs w hw e
    · obtain ⟨n1, _, _, n4⟩ := nw s hs
      rw [n4]
      have hge : i + 1 ≤ w.length := by
        rcases Nat.lt_or_ge w.length (i + 1) with z | z
        · have := L.all w hw (by omega)
          rw [e] at this
          exact absurd this n1
        · exact z
      refine ⟨hge, fun hl => ?_⟩
      rcases cand w hw hl with z | ⟨_, z⟩
      · rw [e] at z
        exact absurd z n1
      · rw [e] at z
        exact z
  · by_cases h : w.length ≤ i
    · exact List.mem_append_left _ (L.all w hw h)
    · rcases cand w hw (by omega) with z | ⟨z, _⟩
      · exact List.mem_append_left _ z
      · exact List.mem_append_right _ z
  · constructor
    · intro hs
      exact ⟨List.mem_append_right _ hs, (nw s hs).2.2.2⟩
    · rintro ⟨hs, hl⟩
      rcases List.mem_append.mp hs with hs | hs
      · rw [hg s hs] at hl
        have := (L.ok s hs).2.2
        omega
      · exact hs
theorem Lay.text {rows : List (List Nat)} {s0 : List Nat} {l layer : List (List Nat)} {f : List Nat → List Nat} {i : Nat} (L : Lay rows s0 l layer f i) (hs : spotOk rows s0) (h : endS rows ∈ l) : f (endS rows) = fw (dropS rows s0) := by
  obtain ⟨o1, o2, _⟩ := L.ok _ h
  have hh : HoldsAll (f (endS rows)) (dropS rows s0) := (holds_led _ _).mpr (by rw [o2]; exact heads_end)
  have h1 := fw_holds (dropS rows s0)
  obtain ⟨b1, b2⟩ := L.best _ h _ (okS_short _ _ h1 (fw_len _)) (endS_of (ledS_ok _ hs) ((holds_led _ _).mp h1))
  have hm := lw_min hh
  rw [fw_len] at b1 b2
  have e : (f (endS rows)).length = lw (dropS rows s0) := by omega
  exact List.le_antisymm (b2 e.symm) (fw_first hh e)
theorem Lay.sp {rows : List (List Nat)} {s0 : List Nat} {l layer : List (List Nat)} {f : List Nat → List Nat} {i : Nat} (L : Lay rows s0 l layer f i) (hs : spotOk rows s0) : ∀ s ∈ l, spotOk rows s := fun s h => by
  have := ledS_ok (f s) hs
  rw [(L.ok s h).2.1] at this
  exact this
theorem LayI.sp {rows l found : List (List Nat)} {f : List Nat → List Nat} {Pr : List Nat → Nat → Prop} (I : LayI rows l found f Pr) (hl : ∀ s ∈ l, spotOk rows s) : ∀ s ∈ l ++ found, spotOk rows s := fun s h => by
  rcases List.mem_append.mp h with h | h
  · exact hl s h
  · obtain ⟨_, a, c, p, rfl, _⟩ := I.new s h
    exact spotB_ok c (hl a (I.inl a c p))
theorem LayI.nodup {rows l found : List (List Nat)} {f : List Nat → List Nat} {Pr : List Nat → Nat → Prop} (I : LayI rows l found f Pr) (hl : l.Nodup) : (l ++ found).Nodup := by
  refine List.nodup_append.mpr ⟨hl, I.ord.imp fun h e => ?_, fun a ha b hb e => ?_⟩
  · subst e
    exact absurd h (List.lt_irrefl _)
  · subst e
    exact (I.new a hb).1 ha
theorem nodup_fewL : ∀ {l m : List (List Nat)}, l.Nodup → (∀ c ∈ l, c ∈ m) → l.length ≤ m.length
  | [], m, _, _ => Nat.zero_le _
  | x :: l, m, h, hs => by
    obtain ⟨h1, h2⟩ := List.nodup_cons.mp h
    obtain ⟨a, b, rfl⟩ := List.append_of_mem (hs x (by simp))
    have := nodup_fewL (m := a ++ b) h2 fun c hc => by
      have := hs c (by simp [hc])
      rw [List.mem_append, List.mem_cons] at this
      rcases this with z | rfl | z
      · exact List.mem_append_left _ z
      · exact absurd hc h1
      · exact List.mem_append_right _ z
    simp at this ⊢
    omega
theorem LayI.size {rows l found : List (List Nat)} {f : List Nat → List Nat} {Pr : List Nat → Nat → Prop} (I : LayI rows l found f Pr) (hl : l.Nodup) (hs : ∀ s ∈ l, spotOk rows s) : (l ++ found).length ≤ sizeR rows := by
  have := nodup_fewL (m := allS rows) (I.nodup hl) fun s h => mem_allS.mpr (I.sp hs s h)
  rwa [allS_len] at this
/-- the signs of the spots gone along so far -/
def PrT (rows layer : List (List Nat)) (t : Nat) : List Nat → Nat → Prop := fun h c => (∃ j, j < t ∧ layer[j]? = some h) ∧ c ∈ heads (dropS rows h)
def PrU (rows layer : List (List Nat)) (t : Nat) (here sg : List Nat) (u : Nat) : List Nat → Nat → Prop := fun h c => PrT rows layer t h c ∨ (h = here ∧ ∃ v, v < u ∧ sg[v]? = some c)
end SW

end

section
set_option Elab.async false
set_option linter.all false
set_option maxRecDepth 100000
namespace SW
open PySem L2

/-! ### all shortest rows, in order -/
def sgn (T : List (List Nat)) : List Nat := (List.range 128).filter fun c => decide (c ∈ heads T)
def allF : Nat → List (List Nat) → List (List Nat)
  | 0, _ => [[]]
  | n + 1, T => (sgn T).flatMap fun c => if lw (stepR T c) = n then (allF n (stepR T c)).map (c :: ·) else []
def allW (T : List (List Nat)) : List (List Nat) := allF (lw T) T
def cw (T : List (List Nat)) : Nat := (allW T).length
end SW

end

section
set_option Elab.async false
set_option linter.all false
set_option maxRecDepth 100000
namespace SW
open PySem L2

/-! ### whose signs -/
def usT (rows : List (List Nat)) (w : List Nat) (i p : Nat) : List Nat := (List.range i).filter fun k => decide (p ∈ (firstOf w (rows.getD k [])).getD [])
end SW

end

section
set_option Elab.async false
set_option linter.all false
set_option maxRecDepth 100000
namespace SW
open PySem L2

end SW

end

section
set_option Elab.async false
set_option linter.all false
set_option maxRecDepth 100000
namespace SW
open PySem L2

/-! ### how far a row has come with pieces -/
def partF (s t : List Nat) : Nat → Nat
  | 0 => 0
  | k + 1 => if t.take (k + 1) <:+ s then k + 1 else partF s t k
def partE (s t : List Nat) : Nat := partF s t (min s.length (t.length - 1))
theorem partF_spec (s t : List Nat) : ∀ n, partF s t n ≤ n ∧ t.take (partF s t n) <:+ s ∧ ∀ k, k ≤ n → t.take k <:+ s → k ≤ partF s t n
  | 0 => ⟨Nat.le_refl _, by show t.take 0 <:+ s; rw [List.take_zero]; exact List.nil_suffix, fun k hk _ => hk⟩
  | n + 1 => by
    obtain ⟨h1, h2, h3⟩ := partF_spec s t n
    unfold partF
    by_cases h : t.take (n + 1) <:+ s
    · rw [if_pos h]
      exact ⟨Nat.le_refl _, h, fun k hk _ => hk⟩
    · rw [if_neg h]
      refine ⟨by omega, h2, fun k hk hs => ?_⟩
      by_cases e : k = n + 1
      · subst e; exact absurd hs h
      · exact h3 k (by omega) hs
theorem partE_spec (s : List Nat) {t : List Nat} (ht : t ≠ []) : partE s t < t.length ∧ t.take (partE s t) <:+ s ∧ ∀ k, k < t.length → t.take k <:+ s → k ≤ partE s t := by
  have hl : 0 < t.length := List.length_pos_iff.mpr ht
  obtain ⟨h1, h2, h3⟩ := partF_spec s t (min s.length (t.length - 1))
  refine ⟨by show partF s t _ < _; omega, h2, fun k hk hs => ?_⟩
  refine h3 k ?_ hs
  have := hs.length_le
  rw [List.length_take] at this
  omega
theorem partE_eq {s t : List Nat} {p : Nat} (hp : p < t.length) (h1 : t.take p <:+ s) (h2 : ∀ k, k < t.length → t.take k <:+ s → k ≤ p) : partE s t = p := by
  have ht : t ≠ [] := fun e => by rw [e] at hp; simp at hp
  obtain ⟨a, b, c⟩ := partE_spec s ht
  have := c p hp h1
  have := h2 _ a b
  omega
theorem take_snoc {t : List Nat} {k : Nat} (h : k < t.length) : t.take (k + 1) = t.take k ++ [t[k]] := by rw [List.take_succ, List.getElem?_eq_getElem h]; rfl
theorem part_snoc {r t : List Nat} (c : Nat) (ht : t ≠ []) : partE (r ++ [c]) t = partE (t.take (partE r t) ++ [c]) t := by
  obtain ⟨a, b, m⟩ := partE_spec r ht
  have key : ∀ k, k < t.length → (t.take k <:+ r ++ [c] ↔ t.take k <:+ t.take (partE r t) ++ [c]) := fun k hk => by
    cases k with
    | zero => rw [List.take_zero]; exact ⟨fun _ => List.nil_suffix, fun _ => List.nil_suffix⟩
    | succ k =>
      rw [take_snoc (by omega), List.suffix_concat_iff, List.suffix_concat_iff]
      have h0 : ¬ t.take k ++ [t[k]] = [] := fun z => by
        have := congrArg List.length z
        rw [List.length_append] at this
        simp at this
      constructor
      · rintro (h | ⟨u, e, hu⟩)
        · exact absurd h h0
        · have e2 := List.append_inj' e rfl
          refine .inr ⟨u, e, ?_⟩
          rw [← e2.1] at hu ⊢
          have := m k (by omega) hu
          exact List.suffix_of_suffix_length_le hu b (by rw [List.length_take, List.length_take]; omega)
      · rintro (h | ⟨u, e, hu⟩)
        · exact absurd h h0
        · exact .inr ⟨u, e, hu.trans b⟩
  obtain ⟨a2, b2, m2⟩ := partE_spec (t.take (partE r t) ++ [c]) ht
  exact partE_eq a2 ((key _ a2).mpr b2) fun k hk hs => m2 k hk ((key k hk).mp hs)
theorem part_hit {r t : List Nat} {c : Nat} (ht : t ≠ []) : t <:+ r ++ [c] ↔ t.take (partE r t) ++ [c] = t := by
  obtain ⟨a, b, m⟩ := partE_spec r ht
  constructor
  · intro h
    rcases List.suffix_concat_iff.mp h with h | ⟨u, e, hu⟩
    · exact absurd h ht
    · have hl : t.length = u.length + 1 := by rw [e]; simp
      have e2 : u = t.take (t.length - 1) := by rw [hl, e]; simp
      have := m (t.length - 1) (by omega) (by rw [← e2]; exact hu)
      have e3 : partE r t = t.length - 1 := by omega
      rw [e3, ← e2]
      exact e.symm
  · intro h
    rw [← h]
    obtain ⟨v, hv⟩ := b
    refine ⟨v, ?_⟩
    conv => rhs; rw [← hv]
    rw [← List.append_assoc]
theorem atP_app {s t : List Nat} {c v : Nat} (h : v + t.length ≤ s.length) : atP (s ++ [c]) t v ↔ atP s t v := by
  unfold atP
  rw [List.drop_append_of_le_length (by omega), List.take_append_of_le_length (by rw [List.length_drop]; omega), List.length_append]
  simp only [List.length_singleton]
  constructor
  · exact fun z => ⟨h, z.2⟩
  · exact fun z => ⟨by omega, z.2⟩
theorem atP_last {s t : List Nat} {c v : Nat} (ht : t ≠ []) (h : v + t.length = s.length + 1) : atP (s ++ [c]) t v ↔ t = s.drop v ++ [c] := by
  have hl : 0 < t.length := List.length_pos_iff.mpr ht
  unfold atP
  have e : ((s ++ [c]).drop v).take t.length = s.drop v ++ [c] := by
    rw [List.drop_append_of_le_length (by omega)]
    refine List.take_of_length_le ?_
    rw [List.length_append, List.length_drop, List.length_singleton]
    omega
  rw [e, List.length_append, List.length_singleton]
  constructor
  · exact fun z => z.2.symm
  · exact fun z => ⟨by omega, z.symm⟩
theorem fbeg_uniq {s t : List Nat} {n k : Nat} (h : fbeg s t n = some k) : ∀ v, n ≤ v → v < k → ¬ atP s t v := by
  unfold fbeg at h
  rw [List.find?_eq_some_iff_getElem] at h
  obtain ⟨_, i, hi, e, hno⟩ := h
  rw [List.getElem_range] at e
  subst e
  intro v hv hvi z
  have := hno v hvi
  rw [List.getElem_range] at this
  simp [hv, z] at this
theorem fbeg_no {s t : List Nat} {n : Nat} (h : fbeg s t n = none) : ∀ v, n ≤ v → ¬ atP s t v := fun v hv z => by
  unfold fbeg at h
  have := List.find?_eq_none.mp h v (by rw [List.mem_range]; have := z.1; omega)
  simp [hv, z] at this
theorem fbeg_app {s t : List Nat} {n k : Nat} (c : Nat) (h : fbeg s t n = some k) : fbeg (s ++ [c]) t n = some k := by
  obtain ⟨h1, h2⟩ := fbeg_at h
  refine fbeg_some h1 ((atP_app h2.1).mpr h2) fun v hv hvk z => fbeg_uniq h v hv hvk ((atP_app ?_).mp z)
  have := h2.1
  omega
theorem fbeg_hit {s t : List Nat} {n c : Nat} (ht : t ≠ []) (hn : n ≤ s.length) (h : fbeg s t n = none) (hh : t <:+ s.drop n ++ [c]) : fbeg (s ++ [c]) t n = some (s.length + 1 - t.length) := by
  have hl : 0 < t.length := List.length_pos_iff.mpr ht
  obtain ⟨u, hu⟩ := hh
  have hlen := congrArg List.length hu
  rw [List.length_append, List.length_append, List.length_drop, List.length_singleton] at hlen
  have hat : atP (s ++ [c]) t (s.length + 1 - t.length) := by
    refine (atP_last ht (by omega)).mpr ?_
    have e1 : s.drop n ++ [c] = (s ++ [c]).drop n := by rw [List.drop_append_of_le_length hn]
    have e2 : t = (s.drop n ++ [c]).drop u.length := by rw [← hu, List.drop_left]
    rw [e1, List.drop_drop] at e2
    rw [e2]
    rw [List.drop_append_of_le_length (by omega)]
    congr 2
    rw [← List.drop_append_of_le_length (l₂ := [c]) (by omega), ← e2]
    omega
  refine fbeg_some (by omega) hat fun v hv hvk z => ?_
  exact fbeg_no h v hv ((atP_app (by omega)).mp z)
theorem fbeg_miss {s t : List Nat} {n c : Nat} (ht : t ≠ []) (hn : n ≤ s.length) (h : fbeg s t n = none) (hh : ¬ t <:+ s.drop n ++ [c]) : fbeg (s ++ [c]) t n = none := by
  have hl : 0 < t.length := List.length_pos_iff.mpr ht
  refine fbeg_none fun v hv z => ?_
  have hz := z.1
  rw [List.length_append, List.length_singleton] at hz
  by_cases e : v + t.length ≤ s.length
  · exact fbeg_no h v hv ((atP_app e).mp z)
  · have e2 := (atP_last ht (by omega)).mp z
    refine hh ⟨(s.drop n).take (v - n), ?_⟩
    rw [e2, ← List.append_assoc]
    congr 1
    have e3 : s.drop v = (s.drop n).drop (v - n) := by rw [List.drop_drop]; congr 1; omega
    rw [e3, List.take_append_drop]
theorem begF_end {s : List Nat} : ∀ {ts : List (List Nat)}, (∀ t ∈ ts, t ≠ []) → ∀ {n : Nat}, s.length ≤ n → begF s ts n = ([], n)
  | [], _, _, _ => rfl
  | t :: ts, h, n, hn => begF_none (fbeg_none fun v hv z => by
      have h1 := z.1
      have h2 := List.length_pos_iff.mpr (h t (by simp))
      omega)
theorem begF_snoc {s : List Nat} (c : Nat) : ∀ {ts : List (List Nat)}, (∀ t ∈ ts, t ≠ []) → ∀ {n : Nat}, n ≤ s.length → begF (s ++ [c]) ts n =
    if (begF s ts n).1.length = ts.length then begF s ts n else
      if ts.getD (begF s ts n).1.length [] <:+ s.drop (begF s ts n).2 ++ [c] then ((begF s ts n).1 ++ [s.length + 1 - (ts.getD (begF s ts n).1.length []).length], s.length + 1) else begF s ts n
  | [], _, n, hn => rfl
  | t :: ts, h, n, hn => by
    have ht := h t (by simp)
    have hts : ∀ t ∈ ts, t ≠ [] := fun u hu => h u (by simp [hu])
    cases e : fbeg s t n with
    | none =>
      rw [begF_none e, if_neg (by simp)]
      show begF (s ++ [c]) (t :: ts) n = if t <:+ s.drop n ++ [c] then ([s.length + 1 - t.length], s.length + 1) else ([], n)
      by_cases hh : t <:+ s.drop n ++ [c]
      · rw [if_pos hh, begF_some (fbeg_hit ht hn e hh)]
        have hle := hh.length_le
        rw [List.length_append, List.length_drop, List.length_singleton] at hle
        rw [show s.length + 1 - t.length + t.length = s.length + 1 by omega, begF_end hts (by simp)]
      · rw [if_neg hh, begF_none (fbeg_miss ht hn e hh)]
    | some k =>
      have hk := (fbeg_at e).2.1
      have ih := begF_snoc c hts hk
      rw [begF_some e, begF_some (fbeg_app c e), ih]
      simp only [List.length_cons, Nat.add_right_cancel_iff, List.getD_cons_succ]
      split
      · rfl
      · split <;> rfl
def far (s : List Nat) (ps : List (List Nat)) : Nat × Nat := if (begF s ps 0).1.length = ps.length then (ps.length, 0) else ((begF s ps 0).1.length, partE (s.drop (begF s ps 0).2) (ps.getD (begF s ps 0).1.length []))
def stepFar (ps : List (List Nat)) (f : Nat × Nat) (c : Nat) : Nat × Nat := if f.1 = ps.length then f else
  if (ps.getD f.1 []).take f.2 ++ [c] = ps.getD f.1 [] then (f.1 + 1, 0) else (f.1, partE ((ps.getD f.1 []).take f.2 ++ [c]) (ps.getD f.1 []))
theorem part_nil {t : List Nat} : partE [] t = 0 := by
  unfold partE
  rw [show min ([] : List Nat).length (t.length - 1) = 0 by simp]
  rfl
theorem far_snoc {s : List Nat} {ps : List (List Nat)} (c : Nat) (h : ∀ t ∈ ps, t ≠ []) : far (s ++ [c]) ps = stepFar ps (far s ps) c := by
  obtain ⟨b1, b2, b3, _⟩ := begF_le (s := s) (ts := ps) (n := 0) (Nat.zero_le _)
  have bs := begF_snoc (s := s) c h (n := 0) (Nat.zero_le _)
  unfold far
  by_cases e : (begF s ps 0).1.length = ps.length
  · rw [if_pos e] at bs
    rw [bs, if_pos e, if_pos e]
    unfold stepFar
    rw [if_pos rfl]
  · rw [if_neg e] at bs
    have hlt : (begF s ps 0).1.length < ps.length := by omega
    have hne : ps.getD (begF s ps 0).1.length [] ≠ [] := by
      rw [List.getD_eq_getElem?_getD, List.getElem?_eq_getElem hlt]
      exact h _ (List.getElem_mem hlt)
    rw [if_neg e]
    unfold stepFar
    simp only
    rw [if_neg e]
    by_cases hh : ps.getD (begF s ps 0).1.length [] <:+ s.drop (begF s ps 0).2 ++ [c]
    · rw [if_pos hh] at bs
      rw [if_pos ((part_hit hne).mp hh), bs]
      simp only [List.length_append, List.length_singleton]
      have ed : (s ++ [c]).drop (s.length + 1) = [] := by simp
      rw [ed, part_nil]
      split
      · rename_i e2
        rw [← e2]
      · rfl
    · rw [if_neg hh] at bs
      rw [if_neg fun z => hh ((part_hit hne).mpr z), bs, if_neg e, List.drop_append_of_le_length b2, part_snoc c hne]
def farD (s : List Nat) (ps : List (List Nat)) : D := .tup [.int ((far s ps).1 : Int), .int ((far s ps).2 : Int)]
end SW

end

section
set_option Elab.async false
set_option linter.all false
set_option maxRecDepth 100000
namespace SW
open PySem L2
def GW (r : List Nat) : Prop := 32 ∉ r ∧ 45 ∉ r ∧ 61 ∉ r
end SW

end

section
set_option Elab.async false
set_option linter.all false
set_option maxRecDepth 100000
namespace SW
open PySem L2
end SW

end

section
set_option Elab.async false
set_option linter.all false
set_option maxRecDepth 100000
namespace SW
open PySem L2
/-! ### whose sign is next, counted as one goes -/
end SW

end

section
set_option Elab.async false
set_option linter.all false
set_option maxRecDepth 100000
namespace SW
open PySem L2
/-! ### rows of pieces, written as words -/
def Pcs (ps : List (List Nat)) : Prop := (∀ p ∈ ps, isRow p = true ∧ p ≠ []) ∧ ps.flatten.length ≤ 40
theorem Pcs.nil : Pcs [] := ⟨(fun _ h => nomatch h), Nat.zero_le _⟩
theorem Pcs.len {ps : List (List Nat)} (h : Pcs ps) : ps.length ≤ 40 := by
  have h2 := h.2
  have : ∀ qs : List (List Nat), (∀ p ∈ qs, p ≠ []) → qs.length ≤ qs.flatten.length := by
    intro qs
    induction qs with
    | nil => intro _; exact Nat.le_refl _
    | cons q qs ih =>
      intro hq
      have h1 := ih fun p hp => hq p (List.mem_cons_of_mem _ hp)
      have h3 := List.length_pos_iff.mpr (hq q (by simp))
      rw [List.flatten_cons, List.length_append, List.length_cons]
      omega
  exact Nat.le_trans (this ps fun p hp => (h.1 p hp).2) h2
theorem Pcs.mem {ps : List (List Nat)} (h : Pcs ps) {p : List Nat} (hp : p ∈ ps) : isRow p = true ∧ p ≠ [] ∧ p.length ≤ 40 := by
  refine ⟨(h.1 p hp).1, (h.1 p hp).2, ?_⟩
  have h2 := h.2
  obtain ⟨a, b, rfl⟩ := List.append_of_mem hp
  rw [List.flatten_append, List.length_append, List.flatten_cons, List.length_append] at h2
  omega
theorem Pcs.chs {ps : List (List Nat)} (h : Pcs ps) : ∀ p ∈ ps, Chs p := fun p hp => Chs.row (h.mem hp).1
abbrev pcD (ps : List (List Nat)) : D := .lst (ps.map .str)
abbrev PcL (L : List (List (List Nat))) : Prop := ∀ ps ∈ L, Pcs ps
theorem noC_pcs (L : List (List (List Nat))) : noCs (L.map pcD) = true := noCs_map _ (fun ps => by show noCs (ps.map .str) = true; exact noCs_strs) _
theorem okD_pc {n : Nat} {ps : List (List Nat)} (hn : 1 ≤ n) (h : Pcs ps) : okD n (pcD ps) := okD_lst hn fun d hd => by
  obtain ⟨p, hp, rfl⟩ := List.mem_map.mp hd
  exact okD_str (h.chs p hp)
def pw (ps : List (List Nat)) : List Nat := joinL [43] ps
theorem pw_mem : ∀ {ps : List (List Nat)} {c : Nat}, c ∈ pw ps → c = 43 ∨ ∃ p ∈ ps, c ∈ p
  | [], c, h => by cases h
  | [x], c, h => .inr ⟨x, List.mem_cons_self, h⟩
  | x :: y :: r, c, h => by
    have h : c ∈ x ++ [43] ++ pw (y :: r) := h
    rcases List.mem_append.mp h with h | h
    · rcases List.mem_append.mp h with h | h
      · exact .inr ⟨x, List.mem_cons_self, h⟩
      · exact .inl (List.mem_singleton.mp h)
    · exact (pw_mem h).imp_right fun ⟨p, hp, hc⟩ => ⟨p, List.mem_cons_of_mem _ hp, hc⟩
theorem Pcs.gw {ps : List (List Nat)} (h : Pcs ps) : GW (pw ps) := by
  have no : ∀ c, c ≠ 43 → isL c = false → c ∉ pw ps := fun c h1 h2 h3 => by
    rcases pw_mem h3 with e | ⟨p, hp, hc⟩
    · exact h1 e
    · have := isRow_mem (h.mem hp).1 hc
      rw [h2] at this; cases this
  exact ⟨no _ (by decide) (by decide), no _ (by decide) (by decide), no _ (by decide) (by decide)⟩
theorem PcL.gw {L : List (List (List Nat))} (h : PcL L) : ∀ r ∈ L.map pw, GW r := fun r hr => by
  obtain ⟨ps, hp, rfl⟩ := List.mem_map.mp hr
  exact (h ps hp).gw
/-! ### a list of lists that change: the inner ones first, then the list of them -/
def GL (L : List (List (List Nat))) (p : Nat) : List D := (L.getD p []).map .str
end SW

end

section
set_option Elab.async false
set_option linter.all false
set_option maxRecDepth 100000
/-! what a Keeper holds, and the deeds done at one -/
namespace SW
open PySem L2

/-- rows that a Keeper may hold -/
structure Kok (rows : List (List Nat)) : Prop where
  r : Rows rows 40
  n : rows.length ≤ 4
  z : sizeR rows ≤ 4096
/-- rows of which a Keeper may tell, longer ones too -/
structure KokW (rows : List (List Nat)) : Prop where
  r : Rows rows 400
  n : rows.length ≤ 4
  z : sizeR rows ≤ 4096
theorem Kok.w {rows : List (List Nat)} (h : Kok rows) : KokW rows := ⟨h.r.mono (by decide), h.n, h.z⟩
theorem KokW.all {rows : List (List Nat)} (h : KokW rows) : rows.length ≤ 8 ∧ 400 ≤ 1000 ∧ sizeR rows ≤ 4096 := ⟨by have := h.n; omega, by decide, h.z⟩
theorem Kok.nil : Kok [] := ⟨Rows.nil, by decide, by decide⟩
inductive Deed where
  | no
  | put (r : List Nat)
  | grow (n : Nat) (c : Nat)
  | cut (n : Nat)
def Deed.d : Deed → D
  | .no => .non
  | .put r => .tup [.str ("put" : Str).cps.toList, .str r]
  | .grow n c => .tup [.str ("grow" : Str).cps.toList, .int n, .str [c]]
  | .cut n => .tup [.str ("cut" : Str).cps.toList, .int n]
/-- the rows behind it -/
def Deed.ok (rows behind : List (List Nat)) : Deed → Prop
  | .no => behind = rows
  | .put r => isRow r = true ∧ behind = rows ++ [r]
  | .grow n c => ∃ r, rows[n]? = some r ∧ isL c = true ∧ behind = rows.set n (r ++ [c])
  | .cut n => ∃ r, rows[n]? = some r ∧ r ≠ [] ∧ behind = rows.set n r.dropLast
/-- what the Keeper tells of it -/
def Deed.told (rows behind : List (List Nat)) : Deed → D
  | .put _ => .int rows.length
  | _ => .int (lw behind)
theorem Deed.noC (a : Deed) : noC a.d = true := by cases a <;> rfl
theorem set_cut {rows : List (List Nat)} {n : Nat} {r : List Nat} (h : n < rows.length) : rows.take n ++ [r] ++ rows.drop (n + 1) = rows.set n r := by
  apply List.ext_getElem?
  intro i
  rcases Nat.lt_trichotomy i n with e | e | e
  · rw [List.getElem?_append_left (by simp; omega), List.getElem?_append_left (by simp; omega), List.getElem?_take, if_pos e, List.getElem?_set_ne (by omega)]
  · subst e
    rw [List.getElem?_append_left (by simp; omega), List.getElem?_append_right (by simp; omega), List.getElem?_set_self h, List.length_take, Nat.min_eq_left (by omega), Nat.sub_self]
    rfl
  · rw [List.getElem?_append_right (by simp; omega), List.getElem?_drop, List.getElem?_set_ne (by omega)]
    congr 1
    simp
    omega
theorem Kok.take {rows : List (List Nat)} (h : Kok rows) (i : Nat) : Kok (rows.take i) := ⟨h.r.sub fun r hr => List.mem_of_mem_take hr, by rw [List.length_take]; have := h.n; omega, Nat.le_trans (sizeR_take_le rows i) h.z⟩
/-- a row's begin, behind the rows ahead of it -/
theorem Kok.part {rows : List (List Nat)} (h : Kok rows) {i : Nat} {r : List Nat} (e : rows[i]? = some r) (t : Nat) : Kok (rows.take i ++ [r.take t]) := by
  have hi := (List.getElem?_eq_some_iff.mp e).1
  have h1 := h.take (i + 1)
  have e1 : rows.take (i + 1) = rows.take i ++ [r] := by
    rw [List.take_add_one, e]; rfl
  rw [e1] at h1
  refine ⟨fun x hx => ?_, by have := h1.n; simpa using this, Nat.le_trans ?_ h1.z⟩
  · rcases List.mem_append.mp hx with hx | hx
    · exact h1.r x (List.mem_append_left _ hx)
    · rw [List.mem_singleton.mp hx]
      obtain ⟨a, b⟩ := h1.r r (List.mem_append_right _ List.mem_cons_self)
      refine ⟨?_, by rw [List.length_take]; omega⟩
      unfold isRow at a ⊢
      rw [List.all_eq_true] at a ⊢
      exact fun y hy => a y (List.mem_of_mem_take hy)
  · rw [sizeR_snoc, sizeR_snoc]
    exact Nat.mul_le_mul_left _ (by rw [List.length_take]; omega)
theorem Kok.all {rows : List (List Nat)} (h : Kok rows) : rows.length ≤ 8 ∧ 40 ≤ 1000 ∧ sizeR rows ≤ 4096 := ⟨by have := h.n; omega, by decide, h.z⟩
theorem sizeK_fold : ∀ (l : List (List Nat)) (n : Nat), l.foldl (fun n r => n * (r.length + 1)) n = n * sizeR l
  | [], n => by simp [sizeR]
  | r :: l, n => by
    unfold sizeR
    rw [List.foldl_cons, List.foldl_cons, sizeK_fold l, sizeK_fold l (1 * (r.length + 1)), Nat.one_mul, Nat.mul_assoc]
theorem sizeK_app (a b : List (List Nat)) : sizeR (a ++ b) = sizeR a * sizeR b := by
  unfold sizeR
  rw [List.foldl_append, sizeK_fold b]
  rfl
/-- a row in the place of one that is no shorter -/
theorem Kok.less {rows : List (List Nat)} (h : Kok rows) {n : Nat} {s x : List Nat} (e : rows[n]? = some s) (hx : isRow x = true) (hl : x.length ≤ s.length) : Kok (rows.set n x) := by
  have hn := (List.getElem?_eq_some_iff.mp e).1
  have hs := h.r s (List.mem_of_getElem? e)
  refine ⟨fun y hy => ?_, by rw [List.length_set]; exact h.n, Nat.le_trans ?_ h.z⟩
  · rcases List.mem_or_eq_of_mem_set hy with hy | rfl
    · exact h.r y hy
    · exact ⟨hx, by have := hs.2; omega⟩
  · have e2 : rows.set n s = rows := by
      apply List.ext_getElem?
      intro i
      by_cases q : n = i
      · subst q; rw [List.getElem?_set_self hn, e]
      · rw [List.getElem?_set_ne q]
    have e3 : sizeR rows = sizeR (rows.take n ++ [s] ++ rows.drop (n + 1)) := by rw [set_cut hn, e2]
    rw [e3, ← set_cut hn, sizeK_app (rows.take n ++ [x]), sizeK_app (rows.take n ++ [s]), sizeR_snoc, sizeR_snoc]
    exact Nat.mul_le_mul_right _ (Nat.mul_le_mul_left _ (by omega))
theorem st_ixU0 {a : D} {r : List D} {μ : Mu} {Q : DQ} (q : Q a μ) : dIx (.tup (a :: r)) (.int 0) μ Q := st_ixL rfl rfl (atI_of (j := 0) rfl rfl) q
theorem st_ixU1 {a b : D} {r : List D} {μ : Mu} {Q : DQ} (q : Q b μ) : dIx (.tup (a :: b :: r)) (.int 1) μ Q := st_ixL rfl rfl (atI_of (j := 1) rfl rfl) q
theorem st_ixU2 {a b c : D} {r : List D} {μ : Mu} {Q : DQ} (q : Q c μ) : dIx (.tup (a :: b :: c :: r)) (.int 2) μ Q := st_ixL rfl rfl (atI_of (j := 2) rfl rfl) q
/-! ### a well ahead of it -/
end SW

end

section
set_option Elab.async false
set_option linter.all false
set_option maxRecDepth 100000
/-! a sign more, a row that the shortest holds: what changes -/
namespace SW
open PySem L2

end SW

end

section
set_option Elab.async false
set_option linter.all false
set_option maxRecDepth 100000
/-! Going along in a graph, layer by layer: each signs leads from each state to another. -/
namespace SW
open PySem L2
def okG (A : List Nat) (w : List Nat) : Prop := ∀ c ∈ w, c ∈ A
def ledG {S : Type} (step : S → Nat → S) (s : S) (w : List Nat) : S := w.foldl step s
theorem ledG_snoc {S : Type} (step : S → Nat → S) (s : S) (w : List Nat) (c : Nat) : ledG step s (w ++ [c]) = step (ledG step s w) c := by unfold ledG; rw [List.foldl_append]; rfl
theorem ledG_app {S : Type} (step : S → Nat → S) (s : S) (u v : List Nat) : ledG step s (u ++ v) = ledG step (ledG step s u) v := List.foldl_append
theorem okG_snoc {A : List Nat} {c : Nat} {w : List Nat} : okG A (w ++ [c]) ↔ okG A w ∧ c ∈ A :=
  ⟨fun h => ⟨fun x hx => h x (List.mem_append_left _ hx), h c (List.mem_append_right _ (List.mem_singleton.mpr rfl))⟩, fun h x hx => (List.mem_append.mp hx).elim (h.1 x) fun z => (List.mem_singleton.mp z) ▸ h.2⟩
structure GLay {S : Type} (step : S → Nat → S) (A : List Nat) (s0 : S) (l layer : List S) (f : S → List Nat) (i : Nat) : Prop where
  ok : ∀ s ∈ l, okG A (f s) ∧ ledG step s0 (f s) = s ∧ (f s).length ≤ i
  best : ∀ s ∈ l, ∀ w, okG A w → ledG step s0 w = s → (f s).length ≤ w.length ∧ (w.length = (f s).length → f s ≤ w)
  all : ∀ w, okG A w → w.length ≤ i → ledG step s0 w ∈ l
  lay : ∀ s, s ∈ layer ↔ s ∈ l ∧ (f s).length = i
  ord : layer.Pairwise (fun a b => f a < f b)
theorem GLay.zero {S : Type} (step : S → Nat → S) (A : List Nat) (s0 : S) : GLay step A s0 [s0] [s0] (fun _ => []) 0 where
  ok := fun s h => by
    rw [List.mem_singleton] at h
    subst h
    exact ⟨(fun _ z => nomatch z), rfl, Nat.le_refl _⟩
  best := fun s h w _ _ => ⟨Nat.zero_le _, fun _ => List.nil_le w⟩
  all := fun w _ h => by
    rw [List.eq_nil_of_length_eq_zero (by omega : w.length = 0)]
    exact List.mem_singleton.mpr rfl
  lay := fun s => by simp
  ord := List.pairwise_singleton _ _
structure GLayI {S : Type} (step : S → Nat → S) (l0 found : List S) (f : S → List Nat) (Pr : S → Nat → Prop) : Prop where
  inl : ∀ h c, Pr h c → h ∈ l0
  done : ∀ h c, Pr h c → step h c ∈ l0 ++ found
  new : ∀ s ∈ found, s ∉ l0 ∧ ∃ h c, Pr h c ∧ step h c = s ∧ f s = f h ++ [c]
  least : ∀ h c, Pr h c → step h c ∈ found → f (step h c) ≤ f h ++ [c]
  ord : found.Pairwise (fun a b => f a < f b)
def gUpd {S : Type} [DecidableEq S] (f : S → List Nat) (s : S) (v : List Nat) : S → List Nat := fun x => if x = s then v else f x
theorem gUpd_same {S : Type} [DecidableEq S] (f : S → List Nat) (s : S) (v : List Nat) : gUpd f s v s = v := by simp [gUpd]
theorem gUpd_ne {S : Type} [DecidableEq S] {f : S → List Nat} {s x : S} {v : List Nat} (h : x ≠ s) : gUpd f s v x = f x := by simp [gUpd, h]
theorem GLayI.mono {S : Type} {step : S → Nat → S} {l0 found : List S} {f : S → List Nat} {Pr Pr' : S → Nat → Prop} (I : GLayI step l0 found f Pr) (h : ∀ a c, Pr a c ↔ Pr' a c) : GLayI step l0 found f Pr' :=
  ⟨fun a c p => I.inl a c ((h a c).mpr p), fun a c p => I.done a c ((h a c).mpr p), fun s hs => let ⟨h1, a, c, p, e1, e2⟩ := I.new s hs; ⟨h1, a, c, (h a c).mp p, e1, e2⟩, fun a c p => I.least a c ((h a c).mpr p), I.ord⟩
theorem GLayI.start {S : Type} {step : S → Nat → S} {l0 : List S} {f : S → List Nat} : GLayI step l0 [] f (fun _ _ => False) :=
  ⟨fun _ _ h => False.elim h, fun _ _ h => False.elim h, (fun _ h => nomatch h), fun _ _ h => False.elim h, List.Pairwise.nil⟩
theorem GLayI.old {S : Type} [DecidableEq S] {step : S → Nat → S} {l0 found : List S} {f : S → List Nat} {Pr : S → Nat → Prop} {h : S} {c : Nat} (I : GLayI step l0 found f Pr) (hh : h ∈ l0) (hlt : ∀ a d, Pr a d → f a ++ [d] < f h ++ [c]) (hm : step h c ∈ l0 ++ found) :
    GLayI step l0 found f (fun a d => Pr a d ∨ (a = h ∧ d = c)) := by
  refine ⟨fun a d p => by rcases p with p | ⟨rfl, rfl⟩; exact I.inl a d p; exact hh, fun a d p => by rcases p with p | ⟨rfl, rfl⟩; exact I.done a d p; exact hm, fun s hs => ?_, fun a d p hf => ?_, I.ord⟩
  · obtain ⟨h1, a, d, p, e1, e2⟩ := I.new s hs
    exact ⟨h1, a, d, .inl p, e1, e2⟩
  · rcases p with p | ⟨rfl, rfl⟩
    · exact I.least a d p hf
    · obtain ⟨_, a', d', p', e1, e2⟩ := I.new _ hf
      rw [e2]
      exact List.le_of_lt (hlt a' d' p')
theorem GLayI.add {S : Type} [DecidableEq S] {step : S → Nat → S} {l0 found : List S} {f : S → List Nat} {Pr : S → Nat → Prop} {h : S} {c : Nat} (I : GLayI step l0 found f Pr) (hh : h ∈ l0) (hlt : ∀ a d, Pr a d → f a ++ [d] < f h ++ [c]) (hm : step h c ∉ l0 ++ found) :
    GLayI step l0 (found ++ [step h c]) (gUpd f (step h c) (f h ++ [c])) (fun a d => Pr a d ∨ (a = h ∧ d = c)) := by
  have n0 : ∀ s ∈ l0, s ≠ step h c := fun s hs e => hm (List.mem_append_left _ (e ▸ hs))
  have n1 : ∀ s ∈ found, s ≠ step h c := fun s hs e => hm (List.mem_append_right _ (e ▸ hs))
  refine ⟨fun a d p => by rcases p with p | ⟨rfl, rfl⟩; exact I.inl a d p; exact hh, fun a d p => ?_, fun s hs => ?_, fun a d p hf => ?_, ?_⟩
  · rw [← List.append_assoc]
    rcases p with p | ⟨rfl, rfl⟩
    · exact List.mem_append_left _ (I.done a d p)
    · exact List.mem_append_right _ (List.mem_singleton.mpr rfl)
  · rcases List.mem_append.mp hs with hs | hs
    · obtain ⟨h1, a, d, p, e1, e2⟩ := I.new s hs
      exact ⟨h1, a, d, .inl p, e1, by rw [gUpd_ne (n1 s hs), gUpd_ne (n0 a (I.inl a d p))]; exact e2⟩
    · rw [List.mem_singleton] at hs
      subst hs
      exact ⟨fun z => hm (List.mem_append_left _ z), h, c, .inr ⟨rfl, rfl⟩, rfl, by rw [gUpd_same, gUpd_ne (n0 h hh)]⟩
  · rcases p with p | ⟨rfl, rfl⟩
    · have hd := I.done a d p
      rw [gUpd_ne (n0 a (I.inl a d p))]
      have hne : step a d ≠ step h c := fun e => hm (e ▸ hd)
      rw [gUpd_ne hne]
      rcases List.mem_append.mp hf with hf | hf
      · exact I.least a d p hf
      · exact absurd (List.mem_singleton.mp hf) hne
    · rw [gUpd_same, gUpd_ne (n0 a hh)]
      exact List.le_refl _
  · rw [List.pairwise_append]
    refine ⟨?_, List.pairwise_singleton _ _, fun a ha b hb => ?_⟩
    · refine List.Pairwise.imp_of_mem (fun {a b} ha hb hab => ?_) I.ord
      rw [gUpd_ne (n1 a ha), gUpd_ne (n1 b hb)]
      exact hab
    · rw [List.mem_singleton] at hb
      subst hb
      rw [gUpd_same, gUpd_ne (n1 a ha)]
      obtain ⟨_, a', d', p', e1, e2⟩ := I.new a ha
      rw [e2]
      exact hlt a' d' p'
theorem GLay.next {S : Type} {step : S → Nat → S} {A : List Nat} {s0 : S} {l layer found : List S} {f g : S → List Nat} {i : Nat} (L : GLay step A s0 l layer f i) (hg : ∀ s ∈ l, g s = f s)
    (I : GLayI step l found g (fun h c => h ∈ layer ∧ c ∈ A)) : GLay step A s0 (l ++ found) found g (i + 1) := by
  have inL : ∀ h, h ∈ layer → h ∈ l ∧ (f h).length = i := fun h hh => (L.lay h).mp hh
  have nw : ∀ s ∈ found, s ∉ l ∧ okG A (g s) ∧ ledG step s0 (g s) = s ∧ (g s).length = i + 1 := fun s hs => by
    obtain ⟨h1, h, c, ⟨p1, p2⟩, e1, e2⟩ := I.new s hs
    obtain ⟨q1, q2⟩ := inL h p1
    obtain ⟨o1, o2, _⟩ := L.ok h q1
    rw [hg h q1] at e2
    rw [e2, okG_snoc, ledG_snoc, o2]
    exact ⟨h1, ⟨o1, p2⟩, e1, by simp [q2]⟩
  have cand : ∀ w, okG A w → w.length = i + 1 → ledG step s0 w ∈ l ∨ (ledG step s0 w ∈ found ∧ g (ledG step s0 w) ≤ w) := fun w hw hl => by
    have hne : w ≠ [] := fun e => by rw [e] at hl; simp at hl
    obtain ⟨u, c, rfl⟩ : ∃ u c, w = u ++ [c] := ⟨w.dropLast, w.getLast hne, (List.dropLast_concat_getLast hne).symm⟩
    rw [List.length_append, List.length_singleton] at hl
    obtain ⟨hu, hc⟩ := okG_snoc.mp hw
    have hin := L.all u hu (by omega)
    obtain ⟨b1, b2⟩ := L.best _ hin u hu rfl
    obtain ⟨o1, o2, o3⟩ := L.ok _ hin
    rw [ledG_snoc]
    by_cases e : (f (ledG step s0 u)).length = i
    · have hlay := (L.lay _).mpr ⟨hin, e⟩
      rcases List.mem_append.mp (I.done _ c ⟨hlay, hc⟩) with z | z
      · exact .inl z
      · refine .inr ⟨z, List.le_trans (I.least _ c ⟨hlay, hc⟩ z) ?_⟩
        rw [hg _ hin]
        exact snoc_le (b2 (by omega)) (by omega)
    · refine .inl ?_
      have := L.all (f (ledG step s0 u) ++ [c]) (okG_snoc.mpr ⟨o1, hc⟩) (by rw [List.length_append, List.length_singleton]; omega)
      rw [ledG_snoc, o2] at this
      exact this
  refine ⟨fun s hs => ?_, fun s hs w hw e => ?_, fun w hw hl => ?_, fun s => ?_, I.ord⟩
  · rcases List.mem_append.mp hs with hs | hs
    · rw [hg s hs]
      obtain ⟨a, b, c⟩ := L.ok s hs
      exact ⟨a, b, by omega⟩
    · obtain ⟨_, a, b, c⟩ := nw s hs
      exact ⟨a, b, by omega⟩
  · rcases List.mem_append.mp hs with hs | hs
    · rw [hg s hs]
      exact L.best s hs w hw e
    · obtain ⟨n1, _, _, n4⟩ := nw s hs
      rw [n4]
      have hge : i + 1 ≤ w.length := by
        rcases Nat.lt_or_ge w.length (i + 1) with z | z
        · have := L.all w hw (by omega)
          rw [e] at this
          exact absurd this n1
        · exact z
      refine ⟨hge, fun hl => ?_⟩
      rcases cand w hw hl with z | ⟨_, z⟩
      · rw [e] at z
        exact absurd z n1
      · rw [e] at z
        exact z
  · by_cases h : w.length ≤ i
    · exact List.mem_append_left _ (L.all w hw h)
    · rcases cand w hw (by omega) with z | ⟨z, _⟩
      · exact List.mem_append_left _ z
      · exact List.mem_append_right _ z
  · constructor
    · intro hs
      exact ⟨List.mem_append_right _ hs, (nw s hs).2.2.2⟩
    · rintro ⟨hs, hl⟩
      rcases List.mem_append.mp hs with hs | hs
      · rw [hg s hs] at hl
        have := (L.ok s hs).2.2
        omega
      · exact hs
theorem GLayI.nodup {S : Type} {step : S → Nat → S} {l found : List S} {f : S → List Nat} {Pr : S → Nat → Prop} (I : GLayI step l found f Pr) (hl : l.Nodup) : (l ++ found).Nodup := by
  refine List.nodup_append.mpr ⟨hl, I.ord.imp fun h e => ?_, fun a ha b hb e => ?_⟩
  · subst e
    exact absurd h (List.lt_irrefl _)
  · subst e
    exact (I.new a hb).1 ha
/-! ### how far it is, and the first shortest way -/
theorem exists_least {p : Nat → Prop} (h : ∃ n, p n) : ∃ n, p n ∧ ∀ m, p m → n ≤ m := by
  obtain ⟨n, hn⟩ := h
  induction n using Nat.strongRecOn with
  | _ n ih =>
    by_cases q : ∃ m, m < n ∧ p m
    · obtain ⟨m, hm, pm⟩ := q
      exact ih m hm pm
    · exact ⟨n, hn, fun m pm => Nat.le_of_not_lt fun z => q ⟨m, z, pm⟩⟩
section
variable {S : Type} (step : S → Nat → S) (A : List Nat) (last : S)
def Leads (s : S) (t : List Nat) : Prop := okG A t ∧ ledG step s t = last
def Can (s : S) : Prop := ∃ t, Leads step A last s t
open Classical in
/-- how many signs are wanted at the least -/
noncomputable def dG (s : S) : Nat := if h : Can step A last s then Classical.choose (exists_least (p := fun n => ∃ t, Leads step A last s t ∧ t.length = n) (let ⟨t, ht⟩ := h; ⟨_, t, ht, rfl⟩)) else 0
variable {step A last}
theorem dG_spec {s : S} (h : Can step A last s) : (∃ t, Leads step A last s t ∧ t.length = dG step A last s) ∧ ∀ t, Leads step A last s t → dG step A last s ≤ t.length := by
  unfold dG
  rw [dif_pos h]
  obtain ⟨h1, h2⟩ := Classical.choose_spec (exists_least (p := fun n => ∃ t, Leads step A last s t ∧ t.length = n) (let ⟨t, ht⟩ := h; ⟨_, t, ht, rfl⟩))
  exact ⟨h1, fun t ht => h2 _ ⟨t, ht, rfl⟩⟩
theorem Leads.cons {s : S} {c : Nat} {t : List Nat} (hc : c ∈ A) (h : Leads step A last (step s c) t) : Leads step A last s (c :: t) :=
  ⟨fun x hx => (List.mem_cons.mp hx).elim (fun e => e ▸ hc) (h.1 x), h.2⟩
theorem Leads.tail {s : S} {c : Nat} {t : List Nat} (h : Leads step A last s (c :: t)) : c ∈ A ∧ Leads step A last (step s c) t :=
  ⟨h.1 c List.mem_cons_self, fun x hx => h.1 x (List.mem_cons_of_mem _ hx), h.2⟩
theorem Can.back {s : S} {c : Nat} (hc : c ∈ A) (h : Can step A last (step s c)) : Can step A last s := let ⟨t, ht⟩ := h; ⟨c :: t, ht.cons hc⟩
theorem can_last : Can step A last last := ⟨[], (fun _ z => nomatch z), rfl⟩
theorem dG_last : dG step A last last = 0 := Nat.le_zero.mp ((dG_spec can_last).2 [] ⟨(fun _ z => nomatch z), rfl⟩)
theorem dG_zero {s : S} (h : Can step A last s) : dG step A last s = 0 ↔ s = last := by
  constructor
  · intro e
    obtain ⟨⟨t, ht, hl⟩, _⟩ := dG_spec h
    rw [e] at hl
    obtain rfl := List.eq_nil_of_length_eq_zero hl
    exact ht.2
  · rintro rfl
    exact dG_last
theorem dG_step {s : S} {c : Nat} (hc : c ∈ A) (h : Can step A last (step s c)) : dG step A last s ≤ dG step A last (step s c) + 1 := by
  obtain ⟨⟨t, ht, hl⟩, _⟩ := dG_spec h
  have := (dG_spec (h.back hc)).2 (c :: t) (ht.cons hc)
  rw [List.length_cons] at this
  omega
theorem dG_best {s : S} (h : Can step A last s) (hz : dG step A last s ≠ 0) : ∃ c ∈ A, Can step A last (step s c) ∧ dG step A last s = dG step A last (step s c) + 1 := by
  obtain ⟨⟨t, ht, hl⟩, _⟩ := dG_spec h
  cases t with
  | nil => exact absurd hl.symm hz
  | cons c t =>
    obtain ⟨hc, h2⟩ := ht.tail
    have h3 : Can step A last (step s c) := ⟨t, h2⟩
    have h4 := (dG_spec h3).2 t h2
    have h5 := dG_step hc h3
    rw [List.length_cons] at hl
    exact ⟨c, hc, h3, by omega⟩
variable (step A last)
/-- the first sign behind which less is wanted -/
noncomputable def goodG (s : S) : List Nat := A.filter fun c => decide (dG step A last (step s c) < dG step A last s)
noncomputable def bG : Nat → S → List Nat
  | 0, _ => []
  | n + 1, s => match goodG step A last s with
    | c :: _ => c :: bG n (step s c)
    | [] => []
variable {step A last}
/-- all that can be come to has a way to the end -/
def AllCan (step : S → Nat → S) (A : List Nat) (last : S) (P : S → Prop) : Prop := (∀ s, P s → Can step A last s) ∧ ∀ s, P s → ∀ c ∈ A, P (step s c)
theorem good_ne {P : S → Prop} (hP : AllCan step A last P) {s : S} (hs : P s) (hz : dG step A last s ≠ 0) : ∃ c r, goodG step A last s = c :: r ∧ c ∈ A ∧ dG step A last s = dG step A last (step s c) + 1 := by
  obtain ⟨c, hc, _, e⟩ := dG_best (hP.1 s hs) hz
  cases h : goodG step A last s with
  | nil =>
    have : c ∈ goodG step A last s := List.mem_filter.mpr ⟨hc, decide_eq_true (by omega)⟩
    rw [h] at this
    cases this
  | cons d r =>
    have hd : d ∈ goodG step A last s := by rw [h]; exact List.mem_cons_self
    obtain ⟨h1, h2⟩ := List.mem_filter.mp hd
    have h3 := dG_step h1 (hP.1 _ (hP.2 s hs d h1))
    have h4 := of_decide_eq_true h2
    exact ⟨d, r, rfl, h1, by omega⟩
theorem bG_leads {P : S → Prop} (hP : AllCan step A last P) : ∀ (n : Nat) (s : S), P s → dG step A last s = n → Leads step A last s (bG step A last n s) ∧ (bG step A last n s).length = n
  | 0, s, hs, e => ⟨⟨(fun _ z => nomatch z), (dG_zero (hP.1 s hs)).mp e⟩, rfl⟩
  | n + 1, s, hs, e => by
    obtain ⟨c, r, h1, h2, h3⟩ := good_ne hP hs (by omega)
    obtain ⟨i1, i2⟩ := bG_leads hP n (step s c) (hP.2 s hs c h2) (by omega)
    unfold bG
    rw [h1]
    exact ⟨i1.cons h2, by rw [List.length_cons, i2]⟩
theorem bG_first {P : S → Prop} (hP : AllCan step A last P) (hA : A.Pairwise (· < ·)) : ∀ (n : Nat) (s : S) (t : List Nat), P s → dG step A last s = n → Leads step A last s t → t.length = n → bG step A last n s ≤ t
  | 0, s, t, hs, e, ht, hl => List.nil_le t
  | n + 1, s, [], hs, e, ht, hl => by cases hl
  | n + 1, s, d :: t, hs, e, ht, hl => by
    obtain ⟨c, r, h1, h2, h3⟩ := good_ne hP hs (by omega)
    obtain ⟨q1, q2⟩ := ht.tail
    have hpd := hP.2 s hs d q1
    have hl2 : t.length = n := by simpa using hl
    have h4 := (dG_spec (hP.1 _ hpd)).2 t q2
    have hd : d ∈ goodG step A last s := List.mem_filter.mpr ⟨q1, decide_eq_true (by omega)⟩
    unfold bG
    rw [h1] at hd ⊢
    have sorted : (c :: r).Pairwise (· < ·) := by rw [← h1]; exact List.Pairwise.filter _ hA
    rcases List.mem_cons.mp hd with rfl | hd
    · exact cons_le_of (.inr ⟨rfl, bG_first hP hA n _ t hpd (by have := dG_step q1 (hP.1 _ hpd); omega) q2 hl2⟩)
    · exact cons_le_of (.inl ((List.pairwise_cons.mp sorted).1 d hd))
/-! ### from the end on: who comes next -/
/-- the line so far: those before the place at have all behind them in it -/
structure Line (step : S → Nat → S) (A : List Nat) (last : S) (P : S → Prop) (l : List S) (n : Nat) : Prop where
  nd : l.Nodup
  ok : ∀ s ∈ l, P s
  fst : l[0]? = some last
  ord : l.Pairwise (fun a b => dG step A last a ≤ dG step A last b)
  pre : ∀ (i : Nat) x, i < n → l[i]? = some x → ∀ s, P s → (∃ c ∈ A, step s c = x) → s ∈ l
  top : ∀ x, l[n]? = some x → ∀ s ∈ l, dG step A last s ≤ dG step A last x + 1
theorem Line.start {P : S → Prop} (hl : P last) : Line step A last P [last] 0 := by
  refine ⟨List.pairwise_singleton _ _, fun s hs => ?_, rfl, List.pairwise_singleton _ _, fun i _ hi => (Nat.not_lt_zero i hi).elim, fun x hx s hs => ?_⟩
  · rw [List.mem_singleton.mp hs]; exact hl
  · rw [List.mem_singleton.mp hs, dG_last]; exact Nat.zero_le _
theorem Line.before {P : S → Prop} {l : List S} {n : Nat} (L : Line step A last P l n) {x y : S} {i : Nat} (hx : l[n]? = some x) (hy : l[i]? = some y) (h : dG step A last y < dG step A last x) : i < n := by
  rcases Nat.lt_or_ge i n with z | z
  · exact z
  · obtain ⟨h1, e1⟩ := List.getElem?_eq_some_iff.mp hx
    obtain ⟨h2, e2⟩ := List.getElem?_eq_some_iff.mp hy
    rcases Nat.lt_or_ge n i with q | q
    · have := List.pairwise_iff_getElem.mp L.ord n i h1 h2 q
      rw [e1, e2] at this
      omega
    · have : i = n := by omega
      subst this
      rw [hx] at hy
      cases hy
      omega
/-- all that are no farther than the one at the place stand in the line -/
theorem Line.near {P : S → Prop} (hP : AllCan step A last P) {l : List S} {n : Nat} (L : Line step A last P l n) {x : S} (hx : l[n]? = some x) : ∀ (k : Nat) (s : S), P s → dG step A last s = k → k ≤ dG step A last x → s ∈ l
  | 0, s, hs, e, _ => by
    rw [(dG_zero (hP.1 s hs)).mp e]
    exact List.mem_of_getElem? L.fst
  | k + 1, s, hs, e, hk => by
    obtain ⟨c, hc, _, e2⟩ := dG_best (hP.1 s hs) (by omega)
    have hp := hP.2 s hs c hc
    obtain ⟨i, hi⟩ := List.getElem?_of_mem (L.near hP hx k (step s c) hp (by omega) (by omega))
    exact L.pre i _ (L.before hx hi (by omega)) hi s hs ⟨c, hc, rfl⟩
/-- a new one is one sign farther -/
theorem Line.new {P : S → Prop} (hP : AllCan step A last P) {l : List S} {n : Nat} (L : Line step A last P l n) {x s : S} {c : Nat} (hx : l[n]? = some x) (hs : P s) (hc : c ∈ A) (e : step s c = x) (hn : s ∉ l) : dG step A last s = dG step A last x + 1 := by
  have h1 := dG_step hc (hP.1 _ (hP.2 s hs c hc))
  rw [e] at h1
  rcases Nat.lt_or_ge (dG step A last x) (dG step A last s) with z | z
  · omega
  · exact absurd (L.near hP hx _ s hs rfl z) hn
theorem Line.push {P : S → Prop} (hP : AllCan step A last P) {l : List S} {n : Nat} (L : Line step A last P l n) {x s : S} {c : Nat} (hx : l[n]? = some x) (hs : P s) (hc : c ∈ A) (e : step s c = x) (hn : s ∉ l) : Line step A last P (l ++ [s]) n := by
  have hd := L.new hP hx hs hc e hn
  have hlt := (List.getElem?_eq_some_iff.mp hx).1
  refine ⟨List.nodup_append.mpr ⟨L.nd, List.pairwise_singleton _ _, fun a ha b hb q => ?_⟩, fun y hy => ?_, ?_, ?_, fun i y hi hy z hz q => ?_, fun y hy z hz => ?_⟩
  · rw [List.mem_singleton.mp hb] at q
    exact hn (q ▸ ha)
  · rcases List.mem_append.mp hy with hy | hy
    · exact L.ok y hy
    · rw [List.mem_singleton.mp hy]; exact hs
  · rw [List.getElem?_append_left (by omega)]
    exact L.fst
  · rw [List.pairwise_append]
    refine ⟨L.ord, List.pairwise_singleton _ _, fun a ha b hb => ?_⟩
    rw [List.mem_singleton.mp hb, hd]
    exact L.top x hx a ha
  · rw [List.getElem?_append_left (by omega)] at hy
    exact List.mem_append_left _ (L.pre i y hi hy z hz q)
  · rw [List.getElem?_append_left (by omega), hx] at hy
    cases hy
    rcases List.mem_append.mp hz with hz | hz
    · exact L.top x hx z hz
    · rw [List.mem_singleton.mp hz]; omega
theorem Line.next {P : S → Prop} {l : List S} {n : Nat} (L : Line step A last P l n) {x : S} (hx : l[n]? = some x) (h : ∀ s, P s → (∃ c ∈ A, step s c = x) → s ∈ l) : Line step A last P l (n + 1) := by
  obtain ⟨h1, e1⟩ := List.getElem?_eq_some_iff.mp hx
  refine ⟨L.nd, L.ok, L.fst, L.ord, fun i y hi hy s hs q => ?_, fun y hy s hs => ?_⟩
  · rcases Nat.lt_or_ge i n with z | z
    · exact L.pre i y z hy s hs q
    · have : i = n := by omega
      subst this
      rw [hx] at hy
      cases hy
      exact h s hs q
  · obtain ⟨h2, e2⟩ := List.getElem?_eq_some_iff.mp hy
    have := List.pairwise_iff_getElem.mp L.ord n (n + 1) h1 h2 (by omega)
    rw [e1, e2] at this
    have := L.top x hx s hs
    omega
/-- at the end all stand in it -/
theorem Line.all {P : S → Prop} (hP : AllCan step A last P) {l : List S} {n : Nat} (L : Line step A last P l n) (hn : l.length ≤ n) : ∀ (k : Nat) (s : S), P s → dG step A last s = k → s ∈ l
  | 0, s, hs, e => by
    rw [(dG_zero (hP.1 s hs)).mp e]
    exact List.mem_of_getElem? L.fst
  | k + 1, s, hs, e => by
    obtain ⟨c, hc, _, e2⟩ := dG_best (hP.1 s hs) (by omega)
    obtain ⟨i, hi⟩ := List.getElem?_of_mem (L.all hP hn k (step s c) (hP.2 s hs c hc) (by omega))
    have := (List.getElem?_eq_some_iff.mp hi).1
    exact L.pre i _ (by omega) hi s hs ⟨c, hc, rfl⟩
end
end SW

end

section
set_option Elab.async false
set_option linter.all false
set_option maxRecDepth 100000
/-! Rows of pieces, each unbroken: stands, what a sign does, that all is come to from anywhere. -/
namespace SW
open PySem L2

/-! ### stands as data and as keys -/
abbrev Stand := List (Nat × Nat)
def oneD (f : Nat × Nat) : D := .tup [.int f.1, .int f.2]
def stD (s : Stand) : D := .tup (s.map oneD)
def oneK (f : Nat × Nat) : NestedKey := .tup [.num f.1, .num f.2]
def stK (s : Stand) : List NestedKey := s.map oneK
abbrev kS (s : Stand) : NestedKey := .tup (stK s)
theorem nD_one (f : Nat × Nat) : nD (oneK f) = oneD f := rfl
theorem nDs_st : ∀ s : Stand, nDs (stK s) = s.map oneD
  | [] => rfl
  | f :: s => by
    show nD (oneK f) :: nDs (stK s) = _
    rw [nD_one, nDs_st s]
    rfl
theorem stD_eq (s : Stand) : stD s = .tup (nDs (stK s)) := by rw [nDs_st]; rfl
theorem depth_st : ∀ s : Stand, NestedKey.depthAll (stK s) ≤ 7
  | [] => by decide
  | f :: s => by
    have := depth_st s
    show max (oneK f).depth (NestedKey.depthAll (stK s)) ≤ 7
    have : (oneK f).depth = 1 := rfl
    omega
theorem oneK_inj {f g : Nat × Nat} (h : oneK f = oneK g) : f = g := by
  obtain ⟨a, b⟩ := f
  obtain ⟨c, d⟩ := g
  unfold oneK at h
  injection h with h
  injection h with h1 h2
  injection h1 with h1
  injection h2 with h2 _
  injection h2 with h2
  simp only [Prod.mk.injEq]
  dsimp only at h1 h2
  omega
theorem stK_inj : ∀ {s t : Stand}, stK s = stK t → s = t
  | [], [], _ => rfl
  | [], _ :: _, h => by cases h
  | _ :: _, [], h => by cases h
  | f :: s, g :: t, h => by
    have h : oneK f :: stK s = oneK g :: stK t := h
    injection h with h1 h2
    rw [oneK_inj h1, stK_inj h2]
theorem kS_inj {s t : Stand} (h : kS s = kS t) : s = t := by injection h with h; exact stK_inj h
theorem noC_one (f : Nat × Nat) : noC (oneD f) = true := rfl
theorem noC_st (s : Stand) : noC (stD s) = true := by unfold stD noC; exact noCs_map _ noC_one _
theorem noCs_st (l : List Stand) : noCs (l.map stD) = true := noCs_map _ noC_st _
/-! ### tables by stands -/
theorem lookN_in {β : Type} {K : β → NestedKey} (hK : ∀ a b, K a = K b → a = b) (g : β → D) {x : β} : ∀ {l : List β}, x ∈ l → lookN (K x) (l.map K) (l.map g) = some (g x)
  | [], h => nomatch h
  | y :: l, h => by
    show (if K y = K x then some (g y) else lookN (K x) (l.map K) (l.map g)) = _
    by_cases e : K y = K x
    · rw [if_pos e, hK _ _ e]
    · rw [if_neg e]
      rcases List.mem_cons.mp h with rfl | h
      · exact absurd rfl e
      · exact lookN_in hK g h
theorem lookN_out {β : Type} {K : β → NestedKey} (hK : ∀ a b, K a = K b → a = b) (g : β → D) {x : β} : ∀ {l : List β}, x ∉ l → lookN (K x) (l.map K) (l.map g) = none
  | [], _ => rfl
  | y :: l, h => by
    show (if K y = K x then some (g y) else lookN (K x) (l.map K) (l.map g)) = _
    rw [if_neg (fun e => h (by rw [hK _ _ e]; exact List.mem_cons_self))]
    exact lookN_out hK g fun z => h (List.mem_cons_of_mem _ z)
theorem mem_mapK {β : Type} {K : β → NestedKey} (hK : ∀ a b, K a = K b → a = b) {x : β} {l : List β} : K x ∈ l.map K ↔ x ∈ l := by
  rw [List.mem_map]
  constructor
  · rintro ⟨y, hy, e⟩
    rw [← hK _ _ e]; exact hy
  · exact fun h => ⟨x, h, rfl⟩
theorem putN_new {β : Type} {K : β → NestedKey} (hK : ∀ a b, K a = K b → a = b) (g : β → D) {x : β} {l : List β} (h : x ∉ l) : putNk (K x) (l.map K) = (l ++ [x]).map K ∧ putNv (K x) (g x) (l.map K) (l.map g) = (l ++ [x]).map g := by
  have : K x ∉ l.map K := fun z => h ((mem_mapK hK).mp z)
  unfold putNk putNv
  rw [if_neg this, if_neg this]
  simp
theorem foldN_map {β : Type} {K : β → List NestedKey} (hK : ∀ a b, NestedKey.tup (K a) = .tup (K b) → a = b) (g : β → D) : ∀ (l m : List β), (m ++ l).Nodup →
    (l.map fun x => (K x, g x)).foldl (fun (a : List NestedKey × List D) p => (putNk (.tup p.1) a.1, putNv (.tup p.1) p.2 a.1 a.2)) (m.map (fun x => .tup (K x)), m.map g) = ((m ++ l).map (fun x => .tup (K x)), (m ++ l).map g)
  | [], m, _ => by rw [List.append_nil]; rfl
  | x :: l, m, h => by
    have hx : x ∉ m := fun z => (List.nodup_append.mp h).2.2 x z x List.mem_cons_self rfl
    obtain ⟨h1, h2⟩ := putN_new (K := fun x => NestedKey.tup (K x)) hK g hx
    rw [List.map_cons, List.foldl_cons]
    dsimp only
    rw [h1, h2]
    have := foldN_map hK g l (m ++ [x]) (by rw [List.append_assoc]; exact h)
    rw [this, List.append_assoc]
    rfl
theorem foldN_mapK {β : Type} {K : β → List NestedKey} (hK : ∀ a b, NestedKey.tup (K a) = .tup (K b) → a = b) (g : β → D) {l : List β} (h : l.Nodup) :
    (l.map fun x => (K x, g x)).foldl (fun a p => putNk (.tup p.1) a) [] = l.map (fun x => .tup (K x)) := by
  have := foldN_map hK g l [] h
  rw [← foldN_fst _ [] []]
  show (List.foldl _ (([] : List β).map (fun x => NestedKey.tup (K x)), ([] : List β).map g) _).1 = _
  rw [this]
  rfl
/-- what stands at a key behind a put -/
theorem lookN_put (k c : NestedKey) (v : D) : ∀ {kk : List NestedKey} {vs : List D}, kk.length = vs.length → lookN c (putNk k kk) (putNv k v kk vs) = if c = k then some v else lookN c kk vs := by
  intro kk vs hl
  unfold putNk putNv
  by_cases h : k ∈ kk
  · rw [if_pos h, if_pos h]
    induction kk generalizing vs with
    | nil => cases h
    | cons a kk ih =>
      cases vs with
      | nil => cases hl
      | cons u vs =>
        show (if a = c then some (if a = k then v else u) else lookN c kk (setNv k v kk vs)) = if c = k then some v else if a = c then some u else lookN c kk vs
        by_cases e : a = c
        · subst e
          rw [if_pos rfl, if_pos rfl]
          by_cases e2 : a = k
          · rw [if_pos e2, if_pos e2]
          · rw [if_neg e2, if_neg e2]
        · rw [if_neg e, if_neg e]
          rcases List.mem_cons.mp h with rfl | h
          · by_cases e2 : k ∈ kk
            · exact ih (by simpa using hl) e2
            · rw [if_neg (fun z => e z.symm)]
              clear ih h
              have hl' : kk.length = vs.length := by simpa using hl
              clear hl
              induction kk generalizing vs with
              | nil => cases vs <;> rfl
              | cons b kk ih2 =>
                cases vs with
                | nil => cases hl'
                | cons z vs =>
                  show (if b = c then some (if b = k then v else z) else lookN c kk (setNv k v kk vs)) = if b = c then some z else lookN c kk vs
                  rw [if_neg (fun q : b = k => e2 (by rw [q]; exact List.mem_cons_self)), ih2 _ (fun q => e2 (List.mem_cons_of_mem _ q)) (by simpa using hl')]
          · exact ih (by simpa using hl) h
  · rw [if_neg h, if_neg h]
    induction kk generalizing vs with
    | nil =>
      obtain rfl : vs = [] := List.eq_nil_of_length_eq_zero hl.symm
      show (if k = c then some v else none) = if c = k then some v else none
      by_cases e : c = k
      · rw [if_pos e, if_pos e.symm]
      · rw [if_neg e, if_neg (fun z => e z.symm)]
    | cons a kk ih =>
      cases vs with
      | nil => cases hl
      | cons u vs =>
        show (if a = c then some u else lookN c (kk ++ [k]) (vs ++ [v])) = if c = k then some v else if a = c then some u else lookN c kk vs
        rw [ih (by simpa using hl) fun z => h (List.mem_cons_of_mem _ z)]
        by_cases e : a = c
        · subst e
          rw [if_pos rfl, if_pos rfl, if_neg (fun z => h (by rw [← z]; exact List.mem_cons_self))]
        · rw [if_neg e, if_neg e]
theorem putNv_len (k : NestedKey) (v : D) : ∀ {kk : List NestedKey} {vs : List D}, kk.length = vs.length → (putNk k kk).length = (putNv k v kk vs).length := by
  intro kk vs hl
  unfold putNk putNv
  by_cases h : k ∈ kk
  · rw [if_pos h, if_pos h]
    clear h
    induction kk generalizing vs with
    | nil => rfl
    | cons a kk ih =>
      cases vs with
      | nil => cases hl
      | cons u vs => show _ = (setNv k v kk vs).length + 1; rw [← ih (by simpa using hl)]; rfl
  · rw [if_neg h, if_neg h]
    simp [hl]

/-! ### stands of a row of pieces -/
def okOne (ps : List (List Nat)) (f : Nat × Nat) : Prop := (f.1 < ps.length ∧ f.2 < (ps.getD f.1 []).length) ∨ f = (ps.length, 0)
def ones (ps : List (List Nat)) : List (Nat × Nat) := (List.range ps.length).flatMap (fun d => (List.range (ps.getD d []).length).map fun k => (d, k)) ++ [(ps.length, 0)]
theorem mem_ones {ps : List (List Nat)} {f : Nat × Nat} : f ∈ ones ps ↔ okOne ps f := by
  unfold ones okOne
  rw [List.mem_append, List.mem_flatMap, List.mem_singleton]
  constructor
  · rintro (⟨d, hd, h⟩ | h)
    · obtain ⟨k, hk, rfl⟩ := List.mem_map.mp h
      exact .inl ⟨List.mem_range.mp hd, List.mem_range.mp hk⟩
    · exact .inr h
  · rintro (⟨h1, h2⟩ | h)
    · exact .inl ⟨f.1, List.mem_range.mpr h1, List.mem_map.mpr ⟨f.2, List.mem_range.mpr h2, rfl⟩⟩
    · exact .inr h
theorem ones_nodup (ps : List (List Nat)) : (ones ps).Nodup := by
  unfold ones
  refine List.nodup_append.mpr ⟨?_, List.pairwise_singleton _ _, fun a ha b hb e => ?_⟩
  · refine List.pairwise_flatMap.mpr ⟨fun d _ => ?_, ?_⟩
    · refine List.Pairwise.map _ (fun a b h => ?_) (List.nodup_range)
      exact fun e => h (by injection e)
    · refine List.Pairwise.imp (fun {a b} h x hx y hy e => ?_) (List.nodup_range (n := ps.length))
      obtain ⟨_, _, rfl⟩ := List.mem_map.mp hx
      obtain ⟨_, _, rfl⟩ := List.mem_map.mp hy
      injection e with e _
      exact h e
  · rw [List.mem_singleton.mp hb] at e
    obtain ⟨d, hd, h⟩ := List.mem_flatMap.mp ha
    obtain ⟨k, _, rfl⟩ := List.mem_map.mp h
    injection e with e _
    have := List.mem_range.mp hd
    omega
theorem ones_first {ps : List (List Nat)} (h : ∀ t ∈ ps, t ≠ []) : (ones ps)[0]? = some (0, 0) := by
  cases ps with
  | nil => rfl
  | cons t ps =>
    have ht := h t List.mem_cons_self
    unfold ones
    cases t with
    | nil => exact absurd rfl ht
    | cons c t =>
      rw [List.length_cons, List.range_succ_eq_map, List.flatMap_cons]
      show ((List.map (fun k => (0, k)) (List.range (t.length + 1)) ++ _) ++ _)[0]? = _
      rw [List.range_succ_eq_map]
      rfl
theorem stepFar_ok {ps : List (List Nat)} (h : ∀ t ∈ ps, t ≠ []) {f : Nat × Nat} (hf : okOne ps f) (c : Nat) : okOne ps (stepFar ps f c) := by
  unfold stepFar
  by_cases e : f.1 = ps.length
  · rw [if_pos e]; exact hf
  · rw [if_neg e]
    rcases hf with ⟨h1, h2⟩ | h1
    · have hm : ps.getD f.1 [] ∈ ps := by rw [List.getD_eq_getElem?_getD, List.getElem?_eq_getElem h1]; exact List.getElem_mem h1
      split
      · by_cases q : f.1 + 1 = ps.length
        · exact .inr (by rw [q])
        · have h3 : f.1 + 1 < ps.length := by omega
          refine .inl ⟨h3, ?_⟩
          refine List.length_pos_iff.mpr (h _ ?_)
          show ps.getD (f.1 + 1) [] ∈ ps
          rw [List.getD_eq_getElem?_getD, List.getElem?_eq_getElem h3]
          exact List.getElem_mem h3
      · exact .inl ⟨h1, (partE_spec _ (h _ hm)).1⟩
    · exact absurd (by rw [h1]) e
/-- a proper beginning of a piece -/
theorem part_take {t : List Nat} {k : Nat} (h : k < t.length) : partE (t.take k) t = k := by
  refine partE_eq h (List.suffix_refl _) fun j hj hs => ?_
  have := hs.length_le
  rw [List.length_take, List.length_take] at this
  omega
/-- the next sign of the piece -/
theorem stepFar_on {ps : List (List Nat)} {d k c : Nat} (hd : d < ps.length) (hk : (ps.getD d [])[k]? = some c) : stepFar ps (d, k) c = if k + 1 = (ps.getD d []).length then (d + 1, 0) else (d, k + 1) := by
  obtain ⟨h1, h2⟩ := List.getElem?_eq_some_iff.mp hk
  have e : (ps.getD d []).take k ++ [c] = (ps.getD d []).take (k + 1) := by rw [List.take_succ, hk]; rfl
  unfold stepFar
  dsimp only
  rw [if_neg (by omega : ¬ d = ps.length), e]
  by_cases q : k + 1 = (ps.getD d []).length
  · rw [if_pos q, if_pos (by rw [q, List.take_length])]
  · rw [if_neg q, if_neg (fun z => q (by have := congrArg List.length z; rw [List.length_take] at this; omega)), part_take (by omega)]
/-! ### stands of a list of rows of pieces -/
abbrev PL := List (List (List Nat))
def NeL (L : PL) : Prop := ∀ ps ∈ L, ∀ t ∈ ps, t ≠ []
def okSt (L : PL) (s : Stand) : Prop := s.length = L.length ∧ ∀ x ∈ L.zip s, okOne x.1 x.2
def stepA (L : PL) (s : Stand) (c : Nat) : Stand := List.zipWith (fun ps f => stepFar ps f c) L s
def firstA (L : PL) : Stand := L.map fun _ => (0, 0)
def lastA (L : PL) : Stand := L.map fun ps => (ps.length, 0)
def allA (L : PL) : List Stand := L.foldl (fun acc ps => acc.flatMap fun s => (ones ps).map fun f => s ++ [f]) [[]]
theorem allA_snoc (L : PL) (ps : List (List Nat)) : allA (L ++ [ps]) = (allA L).flatMap fun s => (ones ps).map fun f => s ++ [f] := by
  unfold allA
  rw [List.foldl_append]
  rfl
theorem okSt_snoc {L : PL} {ps : List (List Nat)} {s : Stand} : okSt (L ++ [ps]) s ↔ ∃ t f, s = t ++ [f] ∧ okSt L t ∧ okOne ps f := by
  constructor
  · rintro ⟨h1, h2⟩
    rw [List.length_append, List.length_singleton] at h1
    have hne : s ≠ [] := fun e => by rw [e] at h1; simp at h1
    have es : s = s.dropLast ++ [s.getLast hne] := (List.dropLast_concat_getLast hne).symm
    have hl : s.dropLast.length = L.length := by rw [List.length_dropLast]; omega
    rw [es, List.zip_append hl.symm] at h2
    exact ⟨_, _, es, ⟨hl, fun x hx => h2 x (List.mem_append_left _ hx)⟩, h2 (ps, s.getLast hne) (List.mem_append_right _ (by simp))⟩
  · rintro ⟨t, f, rfl, ⟨h1, h2⟩, h3⟩
    refine ⟨by simp [h1], fun x hx => ?_⟩
    rw [List.zip_append h1.symm] at hx
    rcases List.mem_append.mp hx with hx | hx
    · exact h2 x hx
    · simp only [List.zip_cons_cons, List.zip_nil_right, List.mem_singleton] at hx
      subst hx
      exact h3
theorem mem_allA {L : PL} : ∀ {s : Stand}, s ∈ allA L ↔ okSt L s := by
  refine snoc_ind (p := fun L => ∀ {s : Stand}, s ∈ allA L ↔ okSt L s) (fun {s} => ?_) (fun L ps ih {s} => ?_) L
  · show s ∈ [[]] ↔ _
    rw [List.mem_singleton]
    constructor
    · rintro rfl
      exact ⟨rfl, fun x hx => nomatch hx⟩
    · rintro ⟨h, _⟩
      exact List.eq_nil_of_length_eq_zero h
  · rw [allA_snoc, List.mem_flatMap, okSt_snoc]
    constructor
    · rintro ⟨t, ht, h⟩
      obtain ⟨f, hf, rfl⟩ := List.mem_map.mp h
      exact ⟨t, f, rfl, ih.mp ht, mem_ones.mp hf⟩
    · rintro ⟨t, f, rfl, ht, hf⟩
      exact ⟨t, ih.mpr ht, List.mem_map.mpr ⟨f, mem_ones.mpr hf, rfl⟩⟩
theorem allA_nodup (L : PL) : (allA L).Nodup := by
  refine snoc_ind (p := fun L => (allA L).Nodup) (List.pairwise_singleton _ _) (fun L ps ih => ?_) L
  rw [allA_snoc]
  refine List.pairwise_flatMap.mpr ⟨fun s _ => ?_, ?_⟩
  · refine List.Pairwise.map _ (fun a b h e => ?_) (ones_nodup ps)
    have e2 := List.append_inj_right e rfl
    injection e2 with e2 _
    exact h e2
  · refine List.Pairwise.imp (fun {a b} h x hx y hy e => ?_) ih
    obtain ⟨_, _, rfl⟩ := List.mem_map.mp hx
    obtain ⟨_, _, rfl⟩ := List.mem_map.mp hy
    exact h (List.append_inj_left' e rfl)
def sizeA (L : PL) : Nat := (allA L).length
theorem flatMap_const {α β : Type} (f : α → List β) (n : Nat) : ∀ l : List α, (∀ a ∈ l, (f a).length = n) → (l.flatMap f).length = l.length * n
  | [], _ => by simp
  | a :: l, h => by
    rw [List.flatMap_cons, List.length_append, h a List.mem_cons_self, flatMap_const f n l fun b hb => h b (List.mem_cons_of_mem _ hb), List.length_cons, Nat.succ_mul]
    omega
theorem sizeA_snoc (L : PL) (ps : List (List Nat)) : sizeA (L ++ [ps]) = sizeA L * (ones ps).length := by
  unfold sizeA
  rw [allA_snoc]
  exact flatMap_const _ _ _ fun s _ => List.length_map _
theorem ones_len (ps : List (List Nat)) : (ones ps).length = ps.flatten.length + 1 := by
  unfold ones
  rw [List.length_append, List.length_singleton]
  congr 1
  have : ∀ (qs : List (List Nat)) (g : Nat → Nat), ((List.range qs.length).flatMap fun d => (List.range (qs.getD d []).length).map fun k => (g d, k)).length = qs.flatten.length := by
    intro qs
    induction qs with
    | nil => intro g; rfl
    | cons t qs ih =>
      intro g
      rw [List.length_cons, List.range_succ_eq_map, List.flatMap_cons, List.length_append, List.flatten_cons, List.length_append, ← ih (fun d => g (d + 1)), List.flatMap_map]
      congr 1
      simp
  exact this ps id
theorem sizeA_pos (L : PL) : 0 < sizeA L := by
  refine snoc_ind (p := fun L => 0 < sizeA L) (by decide) (fun L ps ih => ?_) L
  rw [sizeA_snoc, ones_len]
  exact Nat.mul_pos ih (Nat.succ_pos _)
theorem okSt_cons {L : PL} {ps : List (List Nat)} {f : Nat × Nat} {s : Stand} : okSt (ps :: L) (f :: s) ↔ okOne ps f ∧ okSt L s := by
  unfold okSt
  rw [List.zip_cons_cons, List.length_cons, List.length_cons]
  constructor
  · rintro ⟨h1, h2⟩
    exact ⟨h2 (ps, f) List.mem_cons_self, by omega, fun x hx => h2 x (List.mem_cons_of_mem _ hx)⟩
  · rintro ⟨h1, h2, h3⟩
    refine ⟨by omega, fun x hx => ?_⟩
    rcases List.mem_cons.mp hx with rfl | hx
    · exact h1
    · exact h3 x hx
theorem okSt_nil {s : Stand} : okSt [] s ↔ s = [] := ⟨fun h => List.eq_nil_of_length_eq_zero h.1, fun h => by subst h; exact ⟨rfl, fun x hx => nomatch hx⟩⟩
theorem NeL.tail {ps : List (List Nat)} {L : PL} (h : NeL (ps :: L)) : NeL L := fun qs hq => h qs (List.mem_cons_of_mem _ hq)
theorem stepA_ok : ∀ {L : PL} {s : Stand}, NeL L → okSt L s → ∀ c, okSt L (stepA L s c)
  | [], s, _, h, c => by rw [okSt_nil] at h; subst h; exact okSt_nil.mpr rfl
  | ps :: L, [], _, h, c => by have := h.1; cases this
  | ps :: L, f :: s, hn, h, c => by
    obtain ⟨h1, h2⟩ := okSt_cons.mp h
    exact okSt_cons.mpr ⟨stepFar_ok (hn ps List.mem_cons_self) h1 c, stepA_ok hn.tail h2 c⟩
theorem firstA_ok : ∀ {L : PL}, NeL L → okSt L (firstA L)
  | [], _ => okSt_nil.mpr rfl
  | ps :: L, h => okSt_cons.mpr ⟨mem_ones.mp (List.mem_of_getElem? (ones_first (h ps List.mem_cons_self))), firstA_ok h.tail⟩
theorem lastA_ok : ∀ (L : PL), okSt L (lastA L)
  | [] => okSt_nil.mpr rfl
  | ps :: L => okSt_cons.mpr ⟨.inr rfl, lastA_ok L⟩
/-! ### to the end -/
def AL : List Nat := ("abcdefghijklmnopqrstuvwxyz" : Str).cps.toList
theorem AL_sorted : AL.Pairwise (· < ·) := by
  unfold AL
  rw [signs_eq]
  exact List.Pairwise.map _ (fun a b h => by omega) List.pairwise_lt_range
theorem AL_len : AL.length = 26 := by decide +kernel
theorem mem_AL {c : Nat} : c ∈ AL ↔ isL c = true := mem_signs
def RowL (L : PL) : Prop := ∀ ps ∈ L, ∀ t ∈ ps, isRow t = true ∧ t ≠ []
theorem RowL.ne {L : PL} (h : RowL L) : NeL L := fun ps hp t ht => (h ps hp t ht).2
theorem led_one {ps : List (List Nat)} (h : ∀ t ∈ ps, isRow t = true ∧ t ≠ []) : ∀ (n : Nat) (f : Nat × Nat), okOne ps f → (ps.drop f.1).flatten.length - f.2 ≤ n → ∃ t, okG AL t ∧ t.foldl (stepFar ps) f = (ps.length, 0)
  | n, f, hf, hn => by
    rcases hf with ⟨h1, h2⟩ | h1
    · obtain ⟨d, k⟩ := f
      dsimp only at h1 h2 hn
      have hm : ps.getD d [] ∈ ps := by rw [List.getD_eq_getElem?_getD, List.getElem?_eq_getElem h1]; exact List.getElem_mem h1
      have hg : ps[d]? = some (ps.getD d []) := by rw [List.getD_eq_getElem?_getD, List.getElem?_eq_getElem h1]; rfl
      have ed : ps.drop d = ps.getD d [] :: ps.drop (d + 1) := drop_getG hg
      have hk : (ps.getD d [])[k]? = some ((ps.getD d [])[k]) := List.getElem?_eq_getElem h2
      have hon := stepFar_on h1 hk
      have hc : (ps.getD d [])[k] ∈ AL := mem_AL.mpr (isRow_mem (h _ hm).1 (List.getElem_mem h2))
      have hok := stepFar_ok (fun t ht => (h t ht).2) (f := (d, k)) (.inl ⟨h1, h2⟩) ((ps.getD d [])[k])
      rw [ed, List.flatten_cons, List.length_append] at hn
      cases n with
      | zero => omega
      | succ n =>
        obtain ⟨t, ht, e⟩ := led_one h n (stepFar ps (d, k) (ps.getD d [])[k]) hok (by
          rw [hon]
          split
          · dsimp only; omega
          · dsimp only; rw [ed, List.flatten_cons, List.length_append]; omega)
        exact ⟨(ps.getD d [])[k] :: t, fun x hx => (List.mem_cons.mp hx).elim (fun q => q ▸ hc) (ht x), e⟩
    · exact ⟨[], (fun _ z => nomatch z), h1⟩
theorem foldl_last {ps : List (List Nat)} : ∀ t : List Nat, t.foldl (stepFar ps) (ps.length, 0) = (ps.length, 0)
  | [] => rfl
  | c :: t => by
    have : stepFar ps (ps.length, 0) c = (ps.length, 0) := by unfold stepFar; rw [if_pos rfl]
    rw [List.foldl_cons, this]
    exact foldl_last t
theorem ledG_cons {L : PL} {ps : List (List Nat)} : ∀ (t : List Nat) (f : Nat × Nat) (s : Stand), ledG (stepA (ps :: L)) (f :: s) t = t.foldl (stepFar ps) f :: ledG (stepA L) s t
  | [], f, s => rfl
  | c :: t, f, s => ledG_cons t _ _
theorem led_ok {L : PL} (h : NeL L) : ∀ (t : List Nat) {s : Stand}, okSt L s → okSt L (ledG (stepA L) s t)
  | [], _, hs => hs
  | c :: t, _, hs => led_ok h t (stepA_ok h hs c)
theorem can_A : ∀ {L : PL}, RowL L → ∀ s, okSt L s → Can (stepA L) AL (lastA L) s
  | [], _, s, h => by rw [okSt_nil] at h; subst h; exact ⟨[], (fun _ z => nomatch z), rfl⟩
  | ps :: L, hr, [], h => by have := h.1; cases this
  | ps :: L, hr, f :: s, h => by
    obtain ⟨h1, h2⟩ := okSt_cons.mp h
    have hr' : RowL L := fun qs hq => hr qs (List.mem_cons_of_mem _ hq)
    obtain ⟨t, ht, e⟩ := led_one (hr ps List.mem_cons_self) _ f h1 (Nat.le_refl _)
    obtain ⟨u, hu, e2⟩ := can_A hr' (ledG (stepA L) s t) (led_ok hr'.ne t h2)
    refine ⟨t ++ u, fun x hx => (List.mem_append.mp hx).elim (ht x) (hu x), ?_⟩
    rw [ledG_app, ledG_cons, ledG_cons, e, foldl_last, e2]
    rfl
theorem allcan_A {L : PL} (h : RowL L) : AllCan (stepA L) AL (lastA L) (okSt L) := ⟨can_A h, fun s hs c _ => stepA_ok h.ne hs c⟩
/-- how many signs are wanted from a stand on -/
noncomputable abbrev dU (L : PL) (s : Stand) : Nat := dG (stepA L) AL (lastA L) s
/-- the first shortest row from a stand on -/
noncomputable abbrev bU (L : PL) (s : Stand) : List Nat := bG (stepA L) AL (lastA L) (dU L s) s
/-! ### signs that no piece has lead nowhere -/
def signsOf (L : PL) : List Nat := (L.map List.flatten).flatten
end SW

end

section
set_option Elab.async false
set_option linter.all false
set_option maxRecDepth 100000
/-! Where each stand is led from; tables by one stand and a sign; the paper of all stands. -/
namespace SW
open PySem L2
theorem few_sub {α : Type} [DecidableEq α] : ∀ {l m : List α}, l.Nodup → (∀ c ∈ l, c ∈ m) → l.length ≤ m.length
  | [], _, _, _ => Nat.zero_le _
  | x :: l, m, nd, h => by
    obtain ⟨a, b⟩ := List.nodup_cons.mp nd
    have hx := h x List.mem_cons_self
    have h2 := few_sub (m := m.erase x) b fun y hy => (List.mem_erase_of_ne (fun e => a (by rw [← e]; exact hy))).mpr (h y (List.mem_cons_of_mem _ hy))
    have h3 := List.length_pos_of_mem hx
    rw [List.length_erase_of_mem hx] at h2
    rw [List.length_cons]
    omega
/-! ### stands side by side -/
theorem deqs_by {α : Type} [DecidableEq α] {f : α → D} (h : ∀ a b, deq (f a) (f b) = decide (a = b)) : ∀ xs ys : List α, PyData.eqvAll (toPys (xs.map f)) (toPys (ys.map f)) = decide (xs = ys)
  | [], [] => by simp [toPys, PyData.eqvAll]
  | [], y :: ys => by simp [toPys, PyData.eqvAll]
  | x :: xs, [] => by simp [toPys, PyData.eqvAll]
  | x :: xs, y :: ys => by
    have ih := deqs_by h xs ys
    have hd := h x y
    unfold deq at hd
    simp only [List.map_cons, toPys, PyData.eqvAll, ih, hd]
    by_cases e : x = y <;> simp [e]
theorem deq_one (f g : Nat × Nat) : deq (oneD f) (oneD g) = decide (f = g) := by
  have h := deqs_ints (xs := [(f.1 : Int), (f.2 : Int)]) (ys := [(g.1 : Int), (g.2 : Int)])
  unfold deq oneD
  simp only [toPy, PyData.eqv]
  refine h.trans (decide_eq_decide.mpr ?_)
  obtain ⟨a, b⟩ := f
  obtain ⟨c, d⟩ := g
  simp only [List.cons.injEq, Prod.mk.injEq, and_true]
  omega
theorem deq_st (s t : Stand) : deq (stD s) (stD t) = decide (s = t) := by
  unfold deq stD
  simp only [toPy, PyData.eqv]
  exact deqs_by deq_one s t
theorem okD_one {n : Nat} (hn : 1 ≤ n) (f : Nat × Nat) : okD n (oneD f) := okD_tup hn fun d hd => by
  rcases List.mem_cons.mp hd with rfl | hd
  · exact okD_int
  · rw [List.mem_singleton.mp hd]; exact okD_int
theorem okD_st (s : Stand) : okD 60 (stD s) := okD_tup (by decide) fun d hd => by
  obtain ⟨f, _, rfl⟩ := List.mem_map.mp hd
  exact okD_one (by decide) f
theorem st_neSt {s t : Stand} {μ : Mu} {Q : DQ} (q : Q (.bl (!decide (s = t))) μ) : dNe (stD s) (stD t) μ Q := st_neD rfl (okD_st s) (okD_st t) (by rw [show deq (dr μ (stD s)) (dr μ (stD t)) = decide (s = t) from deq_st s t]; exact q)
/-! ### the place of a thing in a list -/
def plc {α : Type} [DecidableEq α] (x : α) : List α → Nat
  | [] => 0
  | y :: l => if y = x then 0 else plc x l + 1
theorem plc_get {α : Type} [DecidableEq α] : ∀ {l : List α} {i : Nat} {x : α}, l.Nodup → l[i]? = some x → plc x l = i
  | [], _, _, _, h => by simp at h
  | y :: l, 0, x, _, h => by
    have e : y = x := by simpa using h
    unfold plc
    rw [if_pos e]
  | y :: l, i + 1, x, nd, h => by
    have h : l[i]? = some x := by simpa using h
    obtain ⟨a, b⟩ := List.nodup_cons.mp nd
    unfold plc
    rw [if_neg (fun e : y = x => a (by rw [e]; exact List.mem_of_getElem? h)), plc_get b h]
theorem plc_map {α : Type} [DecidableEq α] {l : List α} (nd : l.Nodup) : l.map (fun x => plc x l) = List.range l.length := by
  refine List.ext_getElem? fun i => ?_
  rw [List.getElem?_map]
  by_cases h : i < l.length
  · rw [List.getElem?_range h, List.getElem?_eq_getElem h, Option.map_some, plc_get nd (List.getElem?_eq_getElem h)]
  · rw [List.getElem?_eq_none (by omega), List.getElem?_eq_none (by rw [List.length_range]; omega)]
    rfl
theorem nd_set {α β : Type} [DecidableEq α] {l : List α} (nd : l.Nodup) {k : Nat} {x : α} {v : β} (F : α → β) (hk : l[k]? = some x) : (l.map F).set k v = l.map fun y => if y = x then v else F y := by
  refine List.ext_getElem? fun i => ?_
  obtain ⟨h1, h2⟩ := List.getElem?_eq_some_iff.mp hk
  by_cases e : k = i
  · subst e
    rw [List.getElem?_set_self (by rw [List.length_map]; exact h1), List.getElem?_map, hk, Option.map_some, if_pos rfl]
  · rw [List.getElem?_set_ne e, List.getElem?_map, List.getElem?_map]
    cases hi : l[i]? with
    | none => rfl
    | some y =>
      rw [Option.map_some, Option.map_some, if_neg]
      intro q
      subst q
      exact e ((plc_get nd hk).symm.trans (plc_get nd hi))
/-! ### those from which a sign leads to another -/
def behP (L : PL) (s : Stand) (sg : List Nat) (x : Stand) : List Stand := (sg.filter fun c => decide (stepA L s c = x ∧ x ≠ s)).map fun _ => s
def behT (L : PL) (l : List Stand) (x : Stand) : List Stand := l.flatMap fun s => behP L s AL x
abbrev behL (L : PL) (x : Stand) : List Stand := behT L (allA L) x
theorem behP_snoc (L : PL) (s : Stand) (sg : List Nat) (c : Nat) (x : Stand) : behP L s (sg ++ [c]) x = behP L s sg x ++ (if stepA L s c = x ∧ x ≠ s then [s] else []) := by
  unfold behP
  rw [List.filter_append, List.map_append]
  congr 1
  by_cases h : stepA L s c = x ∧ x ≠ s
  · rw [if_pos h, List.filter_cons, if_pos (decide_eq_true h)]; rfl
  · rw [if_neg h, List.filter_cons, if_neg (by rw [decide_eq_false h]; exact Bool.false_ne_true)]; rfl
theorem behT_snoc (L : PL) (l : List Stand) (s x : Stand) : behT L (l ++ [s]) x = behT L l x ++ behP L s AL x := by
  unfold behT
  rw [List.flatMap_append, List.flatMap_singleton]
theorem behP_len (L : PL) (s : Stand) (sg : List Nat) (x : Stand) : (behP L s sg x).length ≤ sg.length := by
  unfold behP
  rw [List.length_map]
  exact List.length_filter_le _ _
theorem behT_len (L : PL) (l : List Stand) (x : Stand) : (behT L l x).length ≤ l.length * 26 := by
  induction l with
  | nil => simp [behT]
  | cons s l ih =>
    have := behP_len L s AL x
    rw [AL_len] at this
    unfold behT at ih ⊢
    rw [List.flatMap_cons, List.length_append, List.length_cons]
    omega
theorem mem_beh {L : PL} {x s : Stand} : s ∈ behL L x ↔ okSt L s ∧ s ≠ x ∧ ∃ c ∈ AL, stepA L s c = x := by
  unfold behL behT behP
  rw [List.mem_flatMap]
  constructor
  · rintro ⟨t, ht, h⟩
    obtain ⟨c, hc, rfl⟩ := List.mem_map.mp h
    obtain ⟨h1, h2⟩ := List.mem_filter.mp hc
    obtain ⟨h3, h4⟩ := of_decide_eq_true h2
    exact ⟨mem_allA.mp ht, fun e => h4 e.symm, c, h1, h3⟩
  · rintro ⟨h1, h2, c, hc, h3⟩
    exact ⟨s, mem_allA.mpr h1, List.mem_map.mpr ⟨c, List.mem_filter.mpr ⟨hc, decide_eq_true ⟨h3, fun e => h2 e.symm⟩⟩, rfl⟩⟩
/-- the lists so far, as cells -/
def ledM (w : World) (l : List Stand) (F : Stand → List Stand) : Mu := l.map (fun x => MO.lst ((F x).map stD)) ++ [MO.dcn w (l.map kS) ((List.range l.length).map .cell)]
theorem ledM_last {w : World} {l : List Stand} {F : Stand → List Stand} : (ledM w l F)[l.length]? = some (MO.dcn w (l.map kS) ((List.range l.length).map .cell)) := by
  unfold ledM
  rw [List.getElem?_append_right (by rw [List.length_map]; exact Nat.le_refl _), List.length_map, Nat.sub_self]
  rfl
theorem ledM_get {w : World} {l : List Stand} {F : Stand → List Stand} {k : Nat} {x : Stand} (h : l[k]? = some x) : (ledM w l F)[k]? = some (MO.lst ((F x).map stD)) := by
  have := (List.getElem?_eq_some_iff.mp h).1
  unfold ledM
  rw [List.getElem?_append_left (by rw [List.length_map]; exact this), List.getElem?_map, h]
  rfl
theorem ledM_set {w : World} {l : List Stand} {F : Stand → List Stand} {k : Nat} {x : Stand} {v : List Stand} (nd : l.Nodup) (h : l[k]? = some x) : (ledM w l F).set k (MO.lst (v.map stD)) = ledM w l fun y => if y = x then v else F y := by
  have := (List.getElem?_eq_some_iff.mp h).1
  unfold ledM
  rw [List.set_append_left _ _ (by rw [List.length_map]; exact this), nd_set nd _ h]
  congr 1
  refine List.map_congr_left fun y _ => ?_
  dsimp only
  by_cases e : y = x
  · rw [if_pos e, if_pos e]
  · rw [if_neg e, if_neg e]
theorem led_look {l : List Stand} (nd : l.Nodup) {k : Nat} {x : Stand} (h : l[k]? = some x) : lookN (kS x) (l.map kS) ((List.range l.length).map D.cell) = some (.cell k) := by
  have e : (List.range l.length).map D.cell = l.map fun y => D.cell (plc y l) := by rw [← plc_map nd, List.map_map]; rfl
  rw [e, lookN_in (K := kS) (fun _ _ h => kS_inj h) (fun y => D.cell (plc y l)) (List.mem_of_getElem? h), plc_get nd h]
theorem GLayI.ok {L : PL} {l found : List Stand} {f : Stand → List Nat} {Pr : Stand → Nat → Prop} (I : GLayI (stepA L) l found f Pr) (hn : NeL L) (hs : ∀ s ∈ l, okSt L s) : ∀ s ∈ l ++ found, okSt L s := fun s h => by
  rcases List.mem_append.mp h with h | h
  · exact hs s h
  · obtain ⟨_, a, c, p, e, _⟩ := I.new s h
    rw [← e]
    exact stepA_ok hn (hs a (I.inl a c p)) c
/-! ### the paper -/
/-- all stands, each once -/
def PapL (L : PL) (l : List Stand) : Prop := l.Nodup ∧ ∀ s, s ∈ l ↔ okSt L s
noncomputable def papU (L : PL) (l : List Stand) : List D := l.map fun s => .int (dU L s : Nat)
theorem PapL.len {L : PL} {l : List Stand} (h : PapL L l) : l.length ≤ sizeA L := few_sub h.1 fun s hs => mem_allA.mpr ((h.2 s).mp hs)
theorem PapL.look {L : PL} {l : List Stand} (h : PapL L l) {s : Stand} (hs : okSt L s) : lookN (kS s) (l.map kS) (papU L l) = some (.int (dU L s : Nat)) :=
  lookN_in (K := kS) (fun _ _ h => kS_inj h) (fun s => .int (dU L s : Nat)) ((h.2 s).mpr hs)
theorem PcL.rowL {L : PL} (h : PcL L) : RowL L := fun ps hp t ht => (h ps hp).1 t ht
abbrev LineU (L : PL) (l : List Stand) (n : Nat) : Prop := Line (stepA L) AL (lastA L) (okSt L) l n
theorem LineU.len {L : PL} {l : List Stand} {n : Nat} (h : LineU L l n) : l.length ≤ sizeA L := few_sub h.nd fun s hs => mem_allA.mpr (h.ok s hs)
theorem LineU.pap {L : PL} (hr : RowL L) {l : List Stand} {n : Nat} (h : LineU L l n) (hn : l.length ≤ n) : PapL L l := ⟨h.nd, fun s => ⟨h.ok s, fun hs => h.all (allcan_A hr) hn _ s hs rfl⟩⟩
theorem dU_le {L : PL} (hr : RowL L) {s : Stand} (hs : okSt L s) : dU L s ≤ sizeA L := by
  have key : ∀ (n : Nat) (s : Stand), okSt L s → dU L s = n → ∃ l : List Stand, l.Nodup ∧ (∀ t ∈ l, okSt L t ∧ dU L t ≤ n) ∧ l.length = n + 1 := fun n => by
    induction n with
    | zero => exact fun s hs e => ⟨[s], List.pairwise_singleton _ _, fun t ht => by rw [List.mem_singleton.mp ht]; exact ⟨hs, by omega⟩, rfl⟩
    | succ n ih =>
      intro s hs e
      obtain ⟨c, hc, _, e2⟩ := dG_best (can_A hr s hs) (by show dU L s ≠ 0; omega)
      have e2 : dU L s = dU L (stepA L s c) + 1 := e2
      obtain ⟨l, h1, h2, h3⟩ := ih (stepA L s c) (stepA_ok hr.ne hs c) (by omega)
      refine ⟨s :: l, List.nodup_cons.mpr ⟨fun z => ?_, h1⟩, fun t ht => ?_, by rw [List.length_cons, h3]⟩
      · have := (h2 s z).2
        omega
      · rcases List.mem_cons.mp ht with rfl | ht
        · exact ⟨hs, by omega⟩
        · exact ⟨(h2 t ht).1, by have := (h2 t ht).2; omega⟩
  obtain ⟨l, h1, h2, h3⟩ := key _ s hs rfl
  have := few_sub (m := allA L) h1 fun t ht => mem_allA.mpr (h2 t ht).1
  unfold sizeA
  omega
/-! ### tables by one stand and a sign -/
def kFS (f : Nat × Nat) (c : Nat) : List NestedKey := [oneK f, .text (mkS [c])]
theorem kFS_inj {f g : Nat × Nat} {c d : Nat} (h : NestedKey.tup (kFS f c) = .tup (kFS g d)) : f = g ∧ c = d := by
  unfold kFS at h
  injection h with h
  injection h with h1 h2
  injection h2 with h2 _
  injection h2 with h2
  have := congrArg (fun x : Str => x.cps.toList) h2
  have h3 : [c] = [d] := this
  injection h3 with h3 _
  exact ⟨oneK_inj h1, h3⟩
theorem noCs_setNv (k : NestedKey) {v : D} (hv : noC v = true) : ∀ (kk : List NestedKey) (vs : List D), noCs vs = true → noCs (setNv k v kk vs) = true
  | [], [], _ => rfl
  | [], _ :: _, h => by unfold setNv; first | exact h | rfl
  | _ :: _, [], h => by unfold setNv; first | exact h | rfl
  | a :: kk, u :: vs, h => by
    have h : (noC u && noCs vs) = true := h
    rw [Bool.and_eq_true] at h
    show (noC (if a = k then v else u) && noCs (setNv k v kk vs)) = true
    rw [noCs_setNv k hv kk vs h.2, Bool.and_true]
    split
    · exact hv
    · exact h.1
theorem noCs_putNv (k : NestedKey) {v : D} (hv : noC v = true) {kk : List NestedKey} {vs : List D} (h : noCs vs = true) : noCs (putNv k v kk vs) = true := by
  unfold putNv
  split
  · exact noCs_setNv k hv kk vs h
  · exact noCs_app h (by show (noC v && true) = true; rw [hv]; rfl)
/-- a table under way -/
structure TabI (ps : List (List Nat)) (P : Nat × Nat → Nat → Prop) (kk : List NestedKey) (vs : List D) (n : Nat) : Prop where
  len : kk.length = vs.length
  nc : noCs vs = true
  le : kk.length ≤ n
  at_ : ∀ f c, P f c → lookN (.tup (kFS f c)) kk vs = some (oneD (stepFar ps f c))
theorem TabI.nil (ps : List (List Nat)) : TabI ps (fun _ _ => False) [] [] 0 := ⟨rfl, rfl, Nat.le_refl _, fun _ _ h => h.elim⟩
theorem TabI.put {ps : List (List Nat)} {P : Nat × Nat → Nat → Prop} {kk : List NestedKey} {vs : List D} {n : Nat} (h : TabI ps P kk vs n) (f : Nat × Nat) (c : Nat) :
    TabI ps (fun g d => P g d ∨ (g = f ∧ d = c)) (putNk (.tup (kFS f c)) kk) (putNv (.tup (kFS f c)) (oneD (stepFar ps f c)) kk vs) (n + 1) := by
  refine ⟨putNv_len _ _ h.len, noCs_putNv _ rfl h.nc, Nat.le_trans (putNk_len _ _) (Nat.succ_le_succ h.le), fun g d q => ?_⟩
  rw [lookN_put _ _ _ h.len]
  by_cases e : NestedKey.tup (kFS g d) = .tup (kFS f c)
  · obtain ⟨rfl, rfl⟩ := kFS_inj e
    rw [if_pos rfl]
  · rw [if_neg e]
    rcases q with q | ⟨rfl, rfl⟩
    · exact h.at_ g d q
    · exact absurd rfl e
theorem TabI.mono {ps : List (List Nat)} {P P' : Nat × Nat → Nat → Prop} {kk : List NestedKey} {vs : List D} {n m : Nat} (h : TabI ps P kk vs n) (hm : n ≤ m) (hp : ∀ f c, P' f c → P f c) : TabI ps P' kk vs m := ⟨h.len, h.nc, Nat.le_trans h.le hm, fun f c q => h.at_ f c (hp f c q)⟩
end SW

end

section
set_option Elab.async false
set_option linter.all false
set_option maxRecDepth 100000
/-! A text that has the pieces one behind the other; what the shortest one has to do with it. -/
namespace SW
open PySem L2
def HasP : List (List Nat) → List Nat → Prop
  | [], _ => True
  | t :: ts, s => ∃ a b, s = a ++ t ++ b ∧ HasP ts b
theorem HasP.more {a : List Nat} : ∀ {ts : List (List Nat)} {b : List Nat}, HasP ts b → HasP ts (a ++ b)
  | [], _, _ => trivial
  | t :: ts, b, ⟨c, d, e, h⟩ => ⟨a ++ c, d, by rw [e]; simp, h⟩
theorem HasP.behind {b : List Nat} : ∀ {ts : List (List Nat)} {a : List Nat}, HasP ts a → HasP ts (a ++ b)
  | [], _, _ => trivial
  | t :: ts, a, ⟨c, d, e, h⟩ => ⟨c, d ++ b, by rw [e]; simp, h.behind⟩
theorem HasP.sub : ∀ {ts : List (List Nat)} {s : List Nat}, HasP ts s → ts.flatten.Sublist s
  | [], s, _ => List.nil_sublist s
  | t :: ts, s, ⟨a, b, e, h⟩ => by
    rw [e, List.flatten_cons, List.append_assoc]
    exact ((List.Sublist.refl t).append h.sub).trans (List.sublist_append_right a _)
theorem HasP.ones : ∀ {r s : List Nat}, r.Sublist s → HasP (r.map fun c => [c]) s
  | [], _, _ => trivial
  | c :: r, _, .cons x h => by
    have := HasP.ones h
    exact HasP.more (a := [x]) this
  | c :: r, _, .cons₂ _ h => ⟨[], _, rfl, HasP.ones h⟩
theorem ones_flat (r : List Nat) : (r.map fun c => [c]).flatten = r := by
  induction r with
  | nil => rfl
  | cons c r ih => rw [List.map_cons, List.flatten_cons, ih]; rfl
theorem HasP.ones_iff {r s : List Nat} : HasP (r.map fun c => [c]) s ↔ r.Sublist s := ⟨fun h => by have := h.sub; rwa [ones_flat] at this, HasP.ones⟩
theorem HasP.join {x y : List Nat} {p2 : List (List Nat)} : ∀ {p1 : List (List Nat)} {s : List Nat}, HasP (p1 ++ (x ++ y) :: p2) s → HasP (p1 ++ x :: y :: p2) s
  | [], s, ⟨a, b, e, h⟩ => ⟨a, y ++ b, by rw [e]; simp, [], b, rfl, h⟩
  | t :: p1, s, ⟨a, b, e, h⟩ => ⟨a, b, e, HasP.join h⟩
theorem HasP.flat : ∀ (ts : List (List Nat)) (b : List Nat), HasP ts (ts.flatten ++ b)
  | [], _ => trivial
  | t :: ts, b => ⟨[], ts.flatten ++ b, by rw [List.flatten_cons]; simp, HasP.flat ts b⟩
theorem atP_iff {s t : List Nat} {v : Nat} : atP s t v ↔ ∃ a b, s = a ++ t ++ b ∧ a.length = v := by
  unfold atP
  constructor
  · rintro ⟨h1, h2⟩
    refine ⟨s.take v, s.drop (v + t.length), ?_, by rw [List.length_take]; omega⟩
    have e1 := List.take_append_drop v s
    have e2 := List.take_append_drop t.length (s.drop v)
    rw [h2, List.drop_drop] at e2
    rw [List.append_assoc, e2, e1]
  · rintro ⟨a, b, rfl, rfl⟩
    refine ⟨by simp, ?_⟩
    rw [List.append_assoc, List.drop_left, List.take_left]
/-- the first places are as good as any -/
theorem begF_has {s : List Nat} : ∀ {ts : List (List Nat)} {n : Nat}, n ≤ s.length → ((begF s ts n).1.length = ts.length ↔ HasP ts (s.drop n))
  | [], n, _ => ⟨fun _ => trivial, fun _ => rfl⟩
  | t :: ts, n, hn => by
    cases h : fbeg s t n with
    | none =>
      rw [begF_none h]
      constructor
      · intro z
        cases z
      · rintro ⟨a, b, e, _⟩
        exfalso
        refine fbeg_no h (n + a.length) (Nat.le_add_right _ _) (atP_iff.mpr ⟨s.take n ++ a, b, ?_, ?_⟩)
        · have := List.take_append_drop n s
          rw [e] at this
          exact this.symm.trans (by simp only [List.append_assoc])
        · rw [List.length_append, List.length_take]
          omega
    | some k =>
      rw [begF_some h]
      obtain ⟨h1, h2⟩ := fbeg_at h
      have h3 := h2.1
      have ih := begF_has (ts := ts) (n := k + t.length) h3
      rw [List.length_cons, List.length_cons, Nat.succ_inj, ih]
      constructor
      · intro q
        obtain ⟨a, b, e, ha⟩ := atP_iff.mp h2
        refine ⟨a.drop n, b, ?_, ?_⟩
        · rw [e, List.append_assoc, List.drop_append_of_le_length (by omega), List.append_assoc]
        · have : s.drop (k + t.length) = b := by
            rw [e, ← ha, ← List.length_append]
            exact List.drop_left
          rw [this] at q
          exact q
      · rintro ⟨a, b, e, q⟩
        have hk : k ≤ n + a.length := by
          rcases Nat.lt_or_ge (n + a.length) k with z | z
          · exfalso
            refine fbeg_uniq h (n + a.length) (Nat.le_add_right _ _) z (atP_iff.mpr ⟨s.take n ++ a, b, ?_, ?_⟩)
            · have := List.take_append_drop n s
              rw [e] at this
              exact this.symm.trans (by simp only [List.append_assoc])
            · rw [List.length_append, List.length_take]
              omega
          · exact z
        have eb : b = s.drop (n + a.length + t.length) := by
          have := congrArg (List.drop (a.length + t.length)) e
          rw [List.drop_drop, ← List.length_append, List.drop_left] at this
          rw [← this]
          congr 1
          rw [List.length_append]
          omega
        have ed : s.drop (k + t.length) = (s.drop (k + t.length)).take (n + a.length - k) ++ b := by
          rw [eb]
          have := (List.take_append_drop (n + a.length - k) (s.drop (k + t.length))).symm
          rw [List.drop_drop] at this
          rw [show n + a.length + t.length = k + t.length + (n + a.length - k) by omega]
          exact this
        rw [ed]
        exact q.more
theorem far_has {s : List Nat} {ps : List (List Nat)} : far s ps = (ps.length, 0) ↔ HasP ps s := by
  have := begF_has (s := s) (ts := ps) (Nat.zero_le _)
  rw [List.drop_zero] at this
  rw [← this]
  unfold far
  constructor
  · intro h
    by_cases e : (begF s ps 0).1.length = ps.length
    · exact e
    · rw [if_neg e] at h
      injection h with h _
  · intro h
    rw [if_pos h]
theorem stepA_map (g : List (List Nat) → Nat × Nat) (c : Nat) : ∀ L : PL, stepA L (L.map g) c = L.map fun ps => stepFar ps (g ps) c
  | [] => rfl
  | ps :: L => by
    show stepFar ps (g ps) c :: stepA L (L.map g) c = _
    rw [stepA_map g c L]
    rfl
/-- a text leads from the first stand to where it comes -/
theorem led_far {L : PL} (hn : NeL L) (t : List Nat) : ledG (stepA L) (firstA L) t = L.map fun ps => far t ps := by
  refine snoc_ind (p := fun t => ledG (stepA L) (firstA L) t = L.map fun ps => far t ps) ?_ (fun t c ih => ?_) t
  · show firstA L = _
    unfold firstA
    refine List.map_congr_left fun ps hp => ?_
    unfold far
    rw [begF_end (hn ps hp) (Nat.zero_le 0)]
    by_cases e : ([] : List Nat).length = ps.length
    · rw [if_pos e, ← e]; rfl
    · rw [if_neg e]
      show _ = (0, partE [] _)
      rw [part_nil]
  · rw [ledG_snoc, ih, stepA_map]
    refine List.map_congr_left fun ps hp => ?_
    rw [far_snoc c (hn ps hp)]
/-- all rows of pieces -/
def HasA (L : PL) (t : List Nat) : Prop := ∀ ps ∈ L, HasP ps t
theorem leads_has {L : PL} (hn : NeL L) {t : List Nat} : ledG (stepA L) (firstA L) t = lastA L ↔ HasA L t := by
  rw [led_far hn]
  unfold lastA HasA
  constructor
  · intro h ps hp
    obtain ⟨i, hi⟩ := List.getElem?_of_mem hp
    have := congrArg (fun l => l[i]?) h
    simp only [List.getElem?_map, hi, Option.map_some, Option.some.injEq] at this
    exact far_has.mp this
  · intro h
    exact List.map_congr_left fun ps hp => far_has.mpr (h ps hp)
/-- the first shortest row that has all -/
structure BestP (L : PL) (t : List Nat) : Prop where
  al : okG AL t
  has : HasA L t
  min : ∀ u, okG AL u → HasA L u → t.length ≤ u.length ∧ (u.length = t.length → t ≤ u)
theorem BestP.uniq {L : PL} {t u : List Nat} (h : BestP L t) (g : BestP L u) : t = u := by
  obtain ⟨a1, a2⟩ := h.min u g.al g.has
  obtain ⟨b1, b2⟩ := g.min t h.al h.has
  exact List.le_antisymm (a2 (by omega)) (b2 (by omega))
theorem bU_best {L : PL} (hr : RowL L) : BestP L (bU L (firstA L)) ∧ (bU L (firstA L)).length = dU L (firstA L) := by
  have hP := allcan_A hr
  have h0 := firstA_ok hr.ne
  obtain ⟨h1, h2⟩ := bG_leads hP _ (firstA L) h0 rfl
  refine ⟨⟨h1.1, (leads_has hr.ne).mp h1.2, fun u hu hh => ?_⟩, h2⟩
  have hl : Leads (stepA L) AL (lastA L) (firstA L) u := ⟨hu, (leads_has hr.ne).mpr hh⟩
  have h3 := (dG_spec (hP.1 _ h0)).2 u hl
  refine ⟨by rw [show (bU L (firstA L)).length = dU L (firstA L) from h2]; exact h3, fun e => ?_⟩
  exact bG_first hP AL_sorted _ _ u h0 rfl hl (by rw [e]; exact h2)
theorem okG_flat {L : PL} (hr : RowL L) : okG AL (L.map List.flatten).flatten := fun c hc => by
  obtain ⟨x, hx, hc⟩ := List.mem_flatten.mp hc
  obtain ⟨ps, hp, rfl⟩ := List.mem_map.mp hx
  obtain ⟨t, ht, hc⟩ := List.mem_flatten.mp hc
  exact mem_AL.mpr (isRow_mem (hr ps hp t ht).1 hc)
theorem hasA_flat : ∀ L : PL, HasA L (L.map List.flatten).flatten
  | [], _, h => nomatch h
  | ps :: L, qs, h => by
    rw [List.map_cons, List.flatten_cons]
    rcases List.mem_cons.mp h with rfl | h
    · exact HasP.flat _ _
    · exact (hasA_flat L qs h).more
theorem bU_le {L : PL} (hr : RowL L) : (bU L (firstA L)).length ≤ (L.map List.flatten).flatten.length := ((bU_best hr).1.min _ (okG_flat hr) (hasA_flat L)).1
end SW

end

section
set_option Elab.async false
set_option linter.all false
set_option maxRecDepth 100000
/-! Rows of pieces beside rows; joined, turned about, told twice. -/
namespace SW
open PySem L2
/-- how many stands, by the pieces' signs alone -/
def pz : PL → Nat
  | [] => 1
  | ps :: L => (ps.flatten.length + 1) * pz L
theorem pz_app : ∀ a b : PL, pz (a ++ b) = pz a * pz b
  | [], b => by show pz b = 1 * pz b; omega
  | ps :: a, b => by show _ * pz (a ++ b) = _ * pz a * pz b; rw [pz_app a b, Nat.mul_assoc]
theorem sizeA_pz (L : PL) : sizeA L = pz L := by
  refine snoc_ind (p := fun L => sizeA L = pz L) rfl (fun L ps ih => ?_) L
  rw [sizeA_snoc, ih, pz_app, ones_len]
  show _ = pz L * ((ps.flatten.length + 1) * 1)
  rw [Nat.mul_one]
theorem pz_map {f : List (List Nat) → List (List Nat)} : ∀ {L : PL}, (∀ ps ∈ L, (f ps).flatten.length = ps.flatten.length) → pz (L.map f) = pz L
  | [], _ => rfl
  | ps :: L, h => by
    show ((f ps).flatten.length + 1) * pz (L.map f) = _
    rw [h ps List.mem_cons_self, pz_map fun q hq => h q (List.mem_cons_of_mem _ hq)]
    rfl
theorem pz_rev : ∀ L : PL, pz L.reverse = pz L
  | [] => rfl
  | ps :: L => by
    rw [List.reverse_cons, pz_app, pz_rev L]
    show pz L * ((ps.flatten.length + 1) * 1) = (ps.flatten.length + 1) * pz L
    rw [Nat.mul_one, Nat.mul_comm]
theorem sizeR_pz (L : PL) : sizeR (L.map List.flatten) = pz L := by
  have key : ∀ (L : PL) (n : Nat), (L.map List.flatten).foldl (fun n r => n * (r.length + 1)) n = n * pz L := fun L => by
    induction L with
    | nil => intro n; show n = n * 1; omega
    | cons ps L ih =>
      intro n
      show (L.map List.flatten).foldl _ (n * (ps.flatten.length + 1)) = n * ((ps.flatten.length + 1) * pz L)
      rw [ih, Nat.mul_assoc]
  have := key L 1
  unfold sizeR
  rw [this, Nat.one_mul]
theorem okG_isRow {t : List Nat} (h : okG AL t) : isRow t = true := isRow_of fun c hc => mem_AL.mp (h c hc)
theorem isRow_okG {t : List Nat} (h : isRow t = true) : okG AL t := fun c hc => mem_AL.mpr (isRow_mem h hc)
theorem HasA.rows {L : PL} {t : List Nat} (h : HasA L t) : HoldsAll t (L.map List.flatten) := fun r hr => by
  obtain ⟨ps, hp, rfl⟩ := List.mem_map.mp hr
  exact (h ps hp).sub
/-- signs one by one -/
def singL (L : PL) : PL := L.map fun ps => ps.flatten.map fun c => [c]
theorem singL_has {L : PL} {t : List Nat} : HasA (singL L) t ↔ HoldsAll t (L.map List.flatten) := by
  unfold HasA singL HoldsAll
  constructor
  · intro h r hr
    obtain ⟨ps, hp, rfl⟩ := List.mem_map.mp hr
    exact HasP.ones_iff.mp (h _ (List.mem_map.mpr ⟨ps, hp, rfl⟩))
  · intro h qs hq
    obtain ⟨ps, hp, rfl⟩ := List.mem_map.mp hq
    exact HasP.ones_iff.mpr (h _ (List.mem_map.mpr ⟨ps, hp, rfl⟩))
theorem singL_pc {L : PL} (h : PcL L) : PcL (singL L) := fun qs hq => by
  obtain ⟨ps, hp, rfl⟩ := List.mem_map.mp hq
  refine ⟨fun p hp' => ?_, by rw [ones_flat]; exact (h ps hp).2⟩
  obtain ⟨c, hc, rfl⟩ := List.mem_map.mp hp'
  obtain ⟨t, ht, hc⟩ := List.mem_flatten.mp hc
  refine ⟨isRow_of fun x hx => ?_, by simp⟩
  rw [List.mem_singleton.mp hx]
  exact isRow_mem ((h ps hp).1 t ht).1 hc
theorem singL_size (L : PL) : sizeA (singL L) = sizeA L := by
  rw [sizeA_pz, sizeA_pz]
  exact pz_map fun ps _ => by rw [ones_flat]
theorem rowsP {L : PL} (h : PcL L) : Rows (L.map List.flatten) 40 := fun r hr => by
  obtain ⟨ps, hp, rfl⟩ := List.mem_map.mp hr
  refine ⟨isRow_of fun c hc => ?_, (h ps hp).2⟩
  obtain ⟨t, ht, hc⟩ := List.mem_flatten.mp hc
  exact isRow_mem ((h ps hp).1 t ht).1 hc
theorem sing_fw {L : PL} (h : PcL L) : bU (singL L) (firstA (singL L)) = fw (L.map List.flatten) := by
  refine (bU_best (singL_pc h).rowL).1.uniq ⟨isRow_okG (fw_row fun r hr => (rowsP h r hr).1), singL_has.mpr (fw_holds _), fun u _ hu => ?_⟩
  have := singL_has.mp hu
  exact ⟨by rw [fw_len]; exact lw_min this, fun e => fw_first this (by rw [e, fw_len])⟩
theorem lw_bU {L : PL} (h : PcL L) : lw (L.map List.flatten) ≤ (bU L (firstA L)).length := lw_min (bU_best h.rowL).1.has.rows
/-- the lists otherwise: what has the one has the other -/
theorem bU_ge {L J : PL} (hL : PcL L) (hJ : PcL J) (h : ∀ t, HasA J t → HasA L t) : (bU L (firstA L)).length ≤ dU J (firstA J) := by
  have b := bU_best hJ.rowL
  rw [← b.2]
  exact ((bU_best hL.rowL).1.min _ b.1.al (h _ b.1.has)).1
theorem bU_same {L J : PL} (hL : PcL L) (hJ : PcL J) (h : ∀ t, HasA J t ↔ HasA L t) : bU J (firstA J) = bU L (firstA L) := by
  refine (bU_best hJ.rowL).1.uniq ?_
  have b := (bU_best hL.rowL).1
  exact ⟨b.al, (h _).mpr b.has, fun u hu hh => b.min u hu ((h u).mp hh)⟩
theorem bU_none {L : PL} (h : PcL L) {t : List Nat} (ht : isRow t = true) (hl : t.length < (bU L (firstA L)).length) : ¬ HasA L t := fun z => by
  have := ((bU_best h.rowL).1.min t (isRow_okG ht) z).1
  omega
/-- one row of pieces alone: all of them one behind the other -/
theorem bU_one {ps : List (List Nat)} (h : PcL [ps]) : (bU [ps] (firstA [ps])).length = ps.flatten.length := by
  have b := (bU_best h.rowL).1
  have h1 := (b.has ps List.mem_cons_self).sub.length_le
  have h2 := bU_le h.rowL
  simp at h2
  simp only [List.length_flatten] at *
  omega
/-- two neighbours joined -/
inductive JoinP : List (List Nat) → List (List Nat) → Prop
  | same (ps) : JoinP ps ps
  | two (a x y b) : JoinP (a ++ (x ++ y) :: b) (a ++ x :: y :: b)
theorem JoinP.has {qs ps : List (List Nat)} (j : JoinP qs ps) {t : List Nat} (h : HasP qs t) : HasP ps t := by
  cases j with
  | same => exact h
  | two a x y b => exact h.join
theorem JoinP.flat {qs ps : List (List Nat)} (j : JoinP qs ps) : qs.flatten = ps.flatten := by
  cases j with
  | same => rfl
  | two a x y b => simp
theorem JoinP.pc {qs ps : List (List Nat)} (j : JoinP qs ps) (h : Pcs ps) : Pcs qs := by
  refine ⟨?_, by rw [j.flat]; exact h.2⟩
  cases j with
  | same => exact h.1
  | two a x y b =>
    intro p hp
    have hx := h.1 x (by simp)
    have hy := h.1 y (by simp)
    rcases List.mem_append.mp hp with hp | hp
    · exact h.1 p (by simp [hp])
    · rcases List.mem_cons.mp hp with rfl | hp
      · refine ⟨isRow_of fun c hc => ?_, by simp [hx.2]⟩
        rcases List.mem_append.mp hc with hc | hc
        · exact isRow_mem hx.1 hc
        · exact isRow_mem hy.1 hc
      · exact h.1 p (by simp [hp])
/-- a list of joined rows -/
inductive JoinL : PL → PL → Prop
  | nil : JoinL [] []
  | cons {q p J L} : JoinP q p → JoinL J L → JoinL (q :: J) (p :: L)
theorem JoinL.snoc {J L : PL} {q p : List (List Nat)} (j : JoinL J L) (h : JoinP q p) : JoinL (J ++ [q]) (L ++ [p]) := by
  induction j with
  | nil => exact .cons h .nil
  | cons a _ ih => exact .cons a ih
theorem JoinL.pz {J L : PL} (j : JoinL J L) : SW.pz J = SW.pz L := by
  induction j with
  | nil => rfl
  | cons a _ ih => show (_ + 1) * _ = (_ + 1) * _; rw [ih, a.flat]
theorem JoinL.len {J L : PL} (j : JoinL J L) : J.length = L.length := by
  induction j with
  | nil => rfl
  | cons a _ ih => rw [List.length_cons, List.length_cons, ih]
theorem JoinL.pc {J L : PL} (j : JoinL J L) (h : PcL L) : PcL J := by
  induction j with
  | nil => exact h
  | cons a _ ih =>
    intro q hq
    rcases List.mem_cons.mp hq with rfl | hq
    · exact a.pc (h _ List.mem_cons_self)
    · exact ih (fun p hp => h p (List.mem_cons_of_mem _ hp)) q hq
theorem JoinL.has {J L : PL} (j : JoinL J L) {t : List Nat} (h : HasA J t) : HasA L t := by
  induction j with
  | nil => exact h
  | cons a _ ih =>
    intro p hp
    rcases List.mem_cons.mp hp with rfl | hp
    · exact a.has (h _ List.mem_cons_self)
    · exact ih (fun q hq => h q (List.mem_cons_of_mem _ hq)) p hp
theorem begF_at {s : List Nat} : ∀ {ts : List (List Nat)} {n i k : Nat} {t : List Nat}, (begF s ts n).1[i]? = some k → ts[i]? = some t → atP s t k
  | [], _, _, _, _, _, h => by simp at h
  | u :: ts, n, i, k, t, h1, h2 => by
    cases h : fbeg s u n with
    | none =>
      rw [begF_none h] at h1
      simp at h1
    | some j =>
      rw [begF_some h] at h1
      cases i with
      | zero =>
        have e1 : j = k := by simpa using h1
        have e2 : u = t := by simpa using h2
        rw [← e1, ← e2]
        exact (fbeg_at h).2
      | succ i =>
        rw [List.getElem?_cons_succ] at h1 h2
        exact begF_at h1 h2
end SW

end
set_option Elab.async false
set_option linter.all false
set_option maxRecDepth 100000
set_option maxHeartbeats 4000000
set_option pp.deepTerms false
set_option pp.maxSteps 1500
namespace SW
open PySem L2
local macro_rules | `(tactic| decreasing_trivial_pre_omega) => `(tactic| first | with_reducible assumption | with_reducible exact ln0 | with_reducible exact ln1 | with_reducible exact ln2 | with_reducible exact ln3 | with_reducible exact ln4 | with_reducible exact ln5 | ((with_reducible refine sz ?_); (try simp only [List.length_append, List.length_cons, List.length_nil, List.length_map, List.length_reverse, List.length_range, natsD_len]); omega) | ((with_reducible refine szl ?_); (try simp only [List.length_append, List.length_cons, List.length_nil, List.length_map, List.length_reverse, List.length_range, natsD_len]); omega))
set_option hygiene false in
local macro_rules | `(tactic| fail) => `(tactic| array_get_dec)
set_option hygiene false in
local macro_rules | `(tactic| array_get_dec) => `(tactic| (with_reducible apply st_retN))
set_option hygiene false in
local macro_rules | `(tactic| array_get_dec) => `(tactic| (with_reducible apply st_brk))
set_option hygiene false in
local macro_rules | `(tactic| array_get_dec) => `(tactic| (with_reducible apply st_cnt))
set_option hygiene false in
local macro_rules | `(tactic| array_get_dec) => `(tactic| (with_reducible apply st_par))
set_option hygiene false in
local macro_rules | `(tactic| array_get_dec) => `(tactic| (with_reducible apply st_raise))
set_option hygiene false in
local macro_rules | `(tactic| array_get_dec) => `(tactic| (with_reducible apply st_un))
set_option hygiene false in
local macro_rules | `(tactic| array_get_dec) => `(tactic| (with_reducible apply st_orV))
set_option hygiene false in
local macro_rules | `(tactic| array_get_dec) => `(tactic| (with_reducible apply st_notV))
set_option hygiene false in
local macro_rules | `(tactic| array_get_dec) => `(tactic| (with_reducible apply st_if))
set_option hygiene false in
local macro_rules | `(tactic| array_get_dec) => `(tactic| (with_reducible apply st_chain))
set_option hygiene false in
local macro_rules | `(tactic| array_get_dec) => `(tactic| (with_reducible apply st_isN))
set_option hygiene false in
local macro_rules | `(tactic| array_get_dec) => `(tactic| (with_reducible apply st_notN))
set_option hygiene false in
local macro_rules | `(tactic| array_get_dec) => `(tactic| (with_reducible apply st_rng2))
set_option hygiene false in
local macro_rules | `(tactic| array_get_dec) => `(tactic| (with_reducible apply st_rng3))
set_option hygiene false in
local macro_rules | `(tactic| array_get_dec) => `(tactic| (with_reducible apply st_rev))
set_option hygiene false in
local macro_rules | `(tactic| array_get_dec) => `(tactic| (with_reducible apply st_geS))
set_option hygiene false in
local macro_rules | `(tactic| array_get_dec) => `(tactic| (with_reducible apply st_ge))
set_option hygiene false in
local macro_rules | `(tactic| array_get_dec) => `(tactic| (with_reducible apply st_ninS))
set_option hygiene false in
local macro_rules | `(tactic| array_get_dec) => `(tactic| (with_reducible apply st_inS))
set_option hygiene false in
local macro_rules | `(tactic| array_get_dec) => `(tactic| (with_reducible apply st_is))
set_option hygiene false in
local macro_rules | `(tactic| array_get_dec) => `(tactic| (with_reducible apply st_neg))
set_option hygiene false in
local macro_rules | `(tactic| array_get_dec) => `(tactic| (with_reducible apply st_max2))
set_option hygiene false in
local macro_rules | `(tactic| array_get_dec) => `(tactic| (with_reducible apply st_find2))
set_option hygiene false in
local macro_rules | `(tactic| array_get_dec) => `(tactic| (with_reducible apply st_rfind3))
set_option hygiene false in
local macro_rules | `(tactic| array_get_dec) => `(tactic| first | ((with_reducible apply st_revCF); (first | exact rfl | exact get_c1 | exact get_c2 | exact get_new | exact get_new1 | exact get_new2 | assumption | (simp only [List.append_assoc, List.cons_append, List.nil_append, List.length_append, List.length_cons, List.length_nil, Nat.add_assoc, set_at0, set_at1, set_at2, set_at3]; first | exact get_at0 | exact get_at1 | exact get_at2 | exact get_at3))) | fail_if_success skip)
set_option hygiene false in
local macro_rules | `(tactic| array_get_dec) => `(tactic| first | ((with_reducible apply st_revCC); (first | exact rfl | exact get_c1 | exact get_c2 | exact get_new | exact get_new1 | exact get_new2 | assumption | (simp only [List.append_assoc, List.cons_append, List.nil_append, List.length_append, List.length_cons, List.length_nil, Nat.add_assoc, set_at0, set_at1, set_at2, set_at3]; first | exact get_at0 | exact get_at1 | exact get_at2 | exact get_at3))) | fail_if_success skip)
set_option hygiene false in
local macro_rules | `(tactic| array_get_dec) => `(tactic| first | (((with_reducible apply st_revS)) <;> try decreasing_trivial_pre_omega) | fail_if_success skip)
set_option hygiene false in
local macro_rules | `(tactic| array_get_dec) => `(tactic| (with_reducible apply st_revLC))
set_option hygiene false in
local macro_rules | `(tactic| array_get_dec) => `(tactic| (with_reducible apply st_revL))
set_option hygiene false in
local macro_rules | `(tactic| array_get_dec) => `(tactic| (with_reducible apply st_outC))
set_option hygiene false in
local macro_rules | `(tactic| array_get_dec) => `(tactic| (with_reducible apply st_finC))
set_option hygiene false in
local macro_rules | `(tactic| array_get_dec) => `(tactic| (with_reducible apply st_frzG))
set_option hygiene false in
local macro_rules | `(tactic| array_get_dec) => `(tactic| (with_reducible apply st_addA))
set_option hygiene false in
local macro_rules | `(tactic| array_get_dec) => `(tactic| (with_reducible apply st_lcC))
set_option hygiene false in
local macro_rules | `(tactic| array_get_dec) => `(tactic| (with_reducible apply st_forC))
set_option hygiene false in
local macro_rules | `(tactic| array_get_dec) => `(tactic| (with_reducible apply st_iterC))
set_option hygiene false in
local macro_rules | `(tactic| array_get_dec) => `(tactic| (with_reducible apply st_callGF))
set_option hygiene false in
local macro_rules | `(tactic| array_get_dec) => `(tactic| (with_reducible apply st_frzD))
set_option hygiene false in
local macro_rules | `(tactic| array_get_dec) => `(tactic| (with_reducible apply st_callT))
set_option hygiene false in
local macro_rules | `(tactic| array_get_dec) => `(tactic| (with_reducible apply st_plus))
set_option hygiene false in
local macro_rules | `(tactic| array_get_dec) => `(tactic| (with_reducible apply st_count))
set_option hygiene false in
local macro_rules | `(tactic| array_get_dec) => `(tactic| (with_reducible apply st_newD))
set_option hygiene false in
local macro_rules | `(tactic| array_get_dec) => `(tactic| (with_reducible apply st_disp))
set_option hygiene false in
local macro_rules | `(tactic| array_get_dec) => `(tactic| (with_reducible apply st_tupOfL))
set_option hygiene false in
local macro_rules | `(tactic| array_get_dec) => `(tactic| (with_reducible apply st_keysIt))
set_option hygiene false in
local macro_rules | `(tactic| array_get_dec) => `(tactic| (with_reducible apply st_get2))
set_option hygiene false in
local macro_rules | `(tactic| array_get_dec) => `(tactic| (with_reducible apply st_ends))
set_option hygiene false in
local macro_rules | `(tactic| array_get_dec) => `(tactic| (with_reducible apply st_orT))
set_option hygiene false in
local macro_rules | `(tactic| array_get_dec) => `(tactic| (with_reducible apply st_enumC))
set_option hygiene false in
local macro_rules | `(tactic| array_get_dec) => `(tactic| (with_reducible apply st_eqN))
set_option hygiene false in
local macro_rules | `(tactic| array_get_dec) => `(tactic| (with_reducible apply st_try))
set_option hygiene false in
local macro_rules | `(tactic| array_get_dec) => `(tactic| (with_reducible apply st_pick0))
set_option hygiene false in
local macro_rules | `(tactic| array_get_dec) => `(tactic| (with_reducible apply st_dictEnum))
set_option hygiene false in
local macro_rules | `(tactic| array_get_dec) => `(tactic| first | (((with_reducible apply st_setD); (first | exact rfl | exact get_c1 | exact get_c2 | exact get_new | exact get_new1 | exact get_new2 | assumption | (simp only [List.append_assoc, List.cons_append, List.nil_append, List.length_append, List.length_cons, List.length_nil, Nat.add_assoc, set_at0, set_at1, set_at2, set_at3]; first | exact get_at0 | exact get_at1 | exact get_at2 | exact get_at3)); (first | exact rfl | assumption | exact isKD_nats _)) <;> try decreasing_trivial_pre_omega) | fail_if_success skip)
set_option hygiene false in
local macro_rules | `(tactic| array_get_dec) => `(tactic| first | (((with_reducible apply st_stepDm)) <;> try decreasing_trivial_pre_omega) | fail_if_success skip)
set_option hygiene false in
local macro_rules | `(tactic| array_get_dec) => `(tactic| first | (((with_reducible apply st_stepD1)) <;> try decreasing_trivial_pre_omega) | fail_if_success skip)
set_option hygiene false in
local macro_rules | `(tactic| array_get_dec) => `(tactic| first | ((with_reducible apply st_isEv); (first | assumption | decide +kernel)) | fail_if_success skip)
set_option hygiene false in
local macro_rules | `(tactic| array_get_dec) => `(tactic| first | ((with_reducible apply st_isE); (first | assumption | decide +kernel); (first | assumption | decide +kernel)) | fail_if_success skip)
set_option hygiene false in
local macro_rules | `(tactic| array_get_dec) => `(tactic| first | ((with_reducible apply st_repr); (first | assumption | exact rp_str (by assumption) (by omega))) | fail_if_success skip)
set_option hygiene false in
local macro_rules | `(tactic| array_get_dec) => `(tactic| first | ((with_reducible apply st_frzV); (exact rfl); (first | exact rfl | exact get_c1 | exact get_c2 | exact get_new | exact get_new1 | exact get_new2 | assumption | (simp only [List.append_assoc, List.cons_append, List.nil_append, List.length_append, List.length_cons, List.length_nil, Nat.add_assoc, set_at0, set_at1, set_at2, set_at3]; first | exact get_at0 | exact get_at1 | exact get_at2 | exact get_at3)); (first | (simp only [List.set_cons_succ, List.set_cons_zero]; done) | (simp only [List.set_cons_succ, List.set_cons_zero]; exact rfl) | exact rfl)) | fail_if_success skip)
set_option hygiene false in
local macro_rules | `(tactic| array_get_dec) => `(tactic| first | ((with_reducible apply st_ex); (first | exact rfl | (refine noCM1 ?_; first | assumption | (first | (apply Well.noC; assumption) | (apply WellC.noC; assumption) | (apply PotB.noC; assumption) | (apply WellE.noC; assumption))) | (simp only [noCM, noCO, noCs, noC, List.take, List.length, Bool.true_and, Bool.and_true, noCs_ints, noCs_strs, natsD_noC, *]; done))) | fail_if_success skip)
set_option hygiene false in
local macro_rules | `(tactic| array_get_dec) => `(tactic| first | ((with_reducible apply st_callN); (first | exact rfl | assumption | exact natsD_noC _ | exact noCs_chars _ | exact noCs_sp _ | exact noC_sp _ | ((simp only [noCs, noC, Bool.true_and, Bool.and_true, noCs_ints, noCs_strs, natsD_noC, *]) <;> first | exact noC_sp _ | exact noC_pap _ | ((rw [noC_pap, noC_sp]); exact rfl) | skip))) | fail_if_success skip)
set_option hygiene false in
local macro_rules | `(tactic| array_get_dec) => `(tactic| first | ((with_reducible apply st_callA); (first | exact rfl | assumption | exact natsD_noC _ | exact noCs_chars _ | exact noCs_sp _ | exact noC_sp _ | ((simp only [noCs, noC, Bool.true_and, Bool.and_true, noCs_ints, noCs_strs, natsD_noC, *]) <;> first | exact noC_sp _ | exact noC_pap _ | ((rw [noC_pap, noC_sp]); exact rfl) | skip))) | fail_if_success skip)
set_option hygiene false in
local macro_rules | `(tactic| array_get_dec) => `(tactic| first | ((with_reducible apply st_callG); (first | exact rfl | assumption | exact natsD_noC _ | exact noCs_chars _ | exact noCs_sp _ | exact noC_sp _ | ((simp only [noCs, noC, Bool.true_and, Bool.and_true, noCs_ints, noCs_strs, natsD_noC, *]) <;> first | exact noC_sp _ | exact noC_pap _ | ((rw [noC_pap, noC_sp]); exact rfl) | skip))) | fail_if_success skip)
set_option hygiene false in
local macro_rules | `(tactic| array_get_dec) => `(tactic| first | ((with_reducible apply st_strI); (exact log2_small (by omega))) | fail_if_success skip)
set_option hygiene false in
local macro_rules | `(tactic| array_get_dec) => `(tactic| first | ((with_reducible apply st_insert); (first | exact rfl | exact get_c1 | exact get_c2 | exact get_new | exact get_new1 | exact get_new2 | assumption | (simp only [List.append_assoc, List.cons_append, List.nil_append, List.length_append, List.length_cons, List.length_nil, Nat.add_assoc, set_at0, set_at1, set_at2, set_at3]; first | exact get_at0 | exact get_at1 | exact get_at2 | exact get_at3)); (decreasing_trivial_pre_omega); (omega)) | fail_if_success skip)
set_option hygiene false in
local macro_rules | `(tactic| array_get_dec) => `(tactic| first | ((with_reducible apply st_ixD); (first | exact rfl | assumption | exact dct_c (by assumption)); (first | exact rfl | assumption | exact isKD_nats _); (first | assumption | fail)) | fail_if_success skip)
set_option hygiene false in
local macro_rules | `(tactic| array_get_dec) => `(tactic| first | ((with_reducible apply st_ninD); (first | exact rfl | assumption | exact dct_c (by assumption)); (first | exact rfl | assumption | exact isKD_nats _)) | fail_if_success skip)
set_option hygiene false in
local macro_rules | `(tactic| array_get_dec) => `(tactic| first | ((with_reducible apply st_inD); (first | exact rfl | assumption | exact dct_c (by assumption)); (first | exact rfl | assumption | exact isKD_nats _)) | fail_if_success skip)
set_option hygiene false in
local macro_rules | `(tactic| array_get_dec) => `(tactic| first | ((with_reducible apply st_lenD); (first | exact rfl | assumption | exact dct_c (by assumption))) | fail_if_success skip)
set_option hygiene false in
local macro_rules | `(tactic| array_get_dec) => `(tactic| first | ((with_reducible apply st_mulT); (omega)) | fail_if_success skip)
set_option hygiene false in
local macro_rules | `(tactic| array_get_dec) => `(tactic| first | ((with_reducible apply st_mul0); (omega)) | fail_if_success skip)
set_option hygiene false in
local macro_rules | `(tactic| array_get_dec) => `(tactic| first | ((with_reducible apply st_pop); (first | exact rfl | exact get_c1 | exact get_c2 | exact get_new | exact get_new1 | exact get_new2 | assumption | (simp only [List.append_assoc, List.cons_append, List.nil_append, List.length_append, List.length_cons, List.length_nil, Nat.add_assoc, set_at0, set_at1, set_at2, set_at3]; first | exact get_at0 | exact get_at1 | exact get_at2 | exact get_at3)); (first | exact rfl | assumption)) | fail_if_success skip)
set_option hygiene false in
local macro_rules | `(tactic| array_get_dec) => `(tactic| first | ((with_reducible apply st_callBP); (first | exact rfl | assumption | exact natsD_noC _ | exact noCs_chars _ | exact noCs_sp _ | exact noC_sp _ | ((simp only [noCs, noC, Bool.true_and, Bool.and_true, noCs_ints, noCs_strs, natsD_noC, *]) <;> first | exact noC_sp _ | exact noC_pap _ | ((rw [noC_pap, noC_sp]); exact rfl) | skip))) | fail_if_success skip)
set_option hygiene false in
local macro_rules | `(tactic| array_get_dec) => `(tactic| first | ((with_reducible apply st_callBC); (first | exact rfl | exact get_c1 | exact get_c2 | exact get_new | exact get_new1 | exact get_new2 | assumption | (simp only [List.append_assoc, List.cons_append, List.nil_append, List.length_append, List.length_cons, List.length_nil, Nat.add_assoc, set_at0, set_at1, set_at2, set_at3]; first | exact get_at0 | exact get_at1 | exact get_at2 | exact get_at3)); (first | exact rfl | assumption | exact natsD_noC _ | exact noCs_chars _ | exact noCs_sp _ | exact noC_sp _ | ((simp only [noCs, noC, Bool.true_and, Bool.and_true, noCs_ints, noCs_strs, natsD_noC, *]) <;> first | exact noC_sp _ | exact noC_pap _ | ((rw [noC_pap, noC_sp]); exact rfl) | skip)); (first | exact rfl | assumption | (first | (apply Well.noC; assumption) | (apply WellC.noC; assumption) | (apply PotB.noC; assumption) | (apply WellE.noC; assumption)) | (simp [noCO, noCs_ints, noCs_strs, natsD_noC, *]; done) | (simp only [noCO, noCs, noC, Bool.true_and, Bool.and_true, noCs_ints, noCs_strs, natsD_noC, *])); (first | assumption | (first | (apply Well.live; assumption) | (apply WellC.live; assumption) | (apply PotB.live; assumption) | (apply WellE.live; assumption)) | (intro z; cases z))) | fail_if_success skip)
set_option hygiene false in
local macro_rules | `(tactic| array_get_dec) => `(tactic| first | ((with_reducible apply st_isNon); (exact rfl)) | fail_if_success skip)
set_option hygiene false in
local macro_rules | `(tactic| array_get_dec) => `(tactic| first | ((with_reducible apply st_notNon); (exact rfl)) | fail_if_success skip)
set_option hygiene false in
local macro_rules | `(tactic| fail) => `(tactic| first | (((with_reducible apply st_listaS)) <;> try decreasing_trivial_pre_omega) | fail_if_success skip)
set_option hygiene false in
local macro_rules | `(tactic| fail) => `(tactic| (with_reducible apply st_listaT))
set_option hygiene false in
local macro_rules | `(tactic| fail) => `(tactic| (with_reducible apply st_listaL))
set_option hygiene false in
local macro_rules | `(tactic| fail) => `(tactic| (with_reducible apply st_intB))
set_option hygiene false in
local macro_rules | `(tactic| fail) => `(tactic| (with_reducible apply st_intI))
set_option hygiene false in
local macro_rules | `(tactic| fail) => `(tactic| (with_reducible apply st_leS))
set_option hygiene false in
local macro_rules | `(tactic| fail) => `(tactic| (with_reducible apply st_le))
set_option hygiene false in
local macro_rules | `(tactic| fail) => `(tactic| (with_reducible apply st_ltS))
set_option hygiene false in
local macro_rules | `(tactic| fail) => `(tactic| (with_reducible apply st_lt))
set_option hygiene false in
local macro_rules | `(tactic| fail) => `(tactic| first | ((with_reducible apply st_aug); (exact rfl)) | fail_if_success skip)
set_option hygiene false in
local macro_rules | `(tactic| fail) => `(tactic| first | ((with_reducible apply st_setL); (first | exact rfl | exact get_c1 | exact get_c2 | exact get_new | exact get_new1 | exact get_new2 | assumption | (simp only [List.append_assoc, List.cons_append, List.nil_append, List.length_append, List.length_cons, List.length_nil, Nat.add_assoc, set_at0, set_at1, set_at2, set_at3]; first | exact get_at0 | exact get_at1 | exact get_at2 | exact get_at3)); (exact rfl)) | fail_if_success skip)
set_option hygiene false in
local macro_rules | `(tactic| fail) => `(tactic| first | ((with_reducible apply st_isi); (exact rfl); (first | exact kit_int_int | exact kit_int_bool | exact kit_str rfl | decide +kernel)) | fail_if_success skip)
set_option hygiene false in
local macro_rules | `(tactic| fail) => `(tactic| first | ((with_reducible apply st_isiC); (first | exact rfl | exact get_c1 | exact get_c2 | exact get_new | exact get_new1 | exact get_new2 | assumption | (simp only [List.append_assoc, List.cons_append, List.nil_append, List.length_append, List.length_cons, List.length_nil, Nat.add_assoc, set_at0, set_at1, set_at2, set_at3]; first | exact get_at0 | exact get_at1 | exact get_at2 | exact get_at3)); (first | exact kit_list_list | decide +kernel)) | fail_if_success skip)
set_option hygiene false in
local macro_rules | `(tactic| fail) => `(tactic| first | ((with_reducible apply st_ne); (exact rfl)) | fail_if_success skip)
set_option hygiene false in
local macro_rules | `(tactic| fail) => `(tactic| first | (((with_reducible apply st_extend); (first | exact rfl | exact get_c1 | exact get_c2 | exact get_new | exact get_new1 | exact get_new2 | assumption | (simp only [List.append_assoc, List.cons_append, List.nil_append, List.length_append, List.length_cons, List.length_nil, Nat.add_assoc, set_at0, set_at1, set_at2, set_at3]; first | exact get_at0 | exact get_at1 | exact get_at2 | exact get_at3))) <;> try decreasing_trivial_pre_omega) | fail_if_success skip)
set_option hygiene false in
local macro_rules | `(tactic| fail) => `(tactic| (with_reducible apply st_neN))
set_option hygiene false in
local macro_rules | `(tactic| fail) => `(tactic| (with_reducible apply st_pairs1))
set_option hygiene false in
local macro_rules | `(tactic| fail) => `(tactic| (with_reducible apply st_pairs0))
set_option hygiene false in
local macro_rules | `(tactic| fail) => `(tactic| (with_reducible apply st_zip))
set_option hygiene false in
local macro_rules | `(tactic| fail) => `(tactic| (with_reducible apply st_andV))
set_option hygiene false in
local macro_rules | `(tactic| fail) => `(tactic| (with_reducible apply st_and))
set_option hygiene false in
local macro_rules | `(tactic| fail) => `(tactic| first | (((with_reducible apply st_cutS)) <;> try decreasing_trivial_pre_omega) | fail_if_success skip)
set_option hygiene false in
local macro_rules | `(tactic| fail) => `(tactic| (with_reducible apply st_cutR))
set_option hygiene false in
local macro_rules | `(tactic| fail) => `(tactic| (with_reducible apply st_cutL))
set_option hygiene false in
local macro_rules | `(tactic| fail) => `(tactic| (with_reducible apply st_gtS))
set_option hygiene false in
local macro_rules | `(tactic| fail) => `(tactic| (with_reducible apply st_gt))
set_option hygiene false in
local macro_rules | `(tactic| fail) => `(tactic| first | (((with_reducible apply st_addLC)) <;> try decreasing_trivial_pre_omega) | fail_if_success skip)
set_option hygiene false in
local macro_rules | `(tactic| fail) => `(tactic| first | (((with_reducible apply st_addL)) <;> try decreasing_trivial_pre_omega) | fail_if_success skip)
set_option hygiene false in
local macro_rules | `(tactic| fail) => `(tactic| first | (((with_reducible apply st_addT)) <;> try decreasing_trivial_pre_omega) | fail_if_success skip)
set_option hygiene false in
local macro_rules | `(tactic| fail) => `(tactic| first | (((with_reducible apply st_addS)) <;> try decreasing_trivial_pre_omega) | fail_if_success skip)
set_option hygiene false in
local macro_rules | `(tactic| fail) => `(tactic| (with_reducible apply st_addI))
set_option hygiene false in
local macro_rules | `(tactic| fail) => `(tactic| first | ((with_reducible apply st_addLS); (exact Nat.le_of_ble_eq_true rfl); (omega)) | fail_if_success skip)
set_option hygiene false in
local macro_rules | `(tactic| fail) => `(tactic| first | ((with_reducible apply st_addL0); (omega)) | fail_if_success skip)
set_option hygiene false in
local macro_rules | `(tactic| fail) => `(tactic| first | ((with_reducible apply st_fdv); (first | exact ⟨by decide, by decide⟩ | exact ⟨by omega, by omega⟩)) | fail_if_success skip)
set_option hygiene false in
local macro_rules | `(tactic| fail) => `(tactic| first | (((with_reducible apply st_tupA)) <;> try decreasing_trivial_pre_omega) | fail_if_success skip)
set_option hygiene false in
local macro_rules | `(tactic| fail) => `(tactic| (with_reducible apply st_tupAL))
set_option hygiene false in
local macro_rules | `(tactic| fail) => `(tactic| (with_reducible apply st_outF))
set_option hygiene false in
local macro_rules | `(tactic| fail) => `(tactic| (with_reducible apply st_enum))
set_option hygiene false in
local macro_rules | `(tactic| fail) => `(tactic| first | ((with_reducible apply st_pairL); (first | (simp only [List.set_cons_succ, List.set_cons_zero]; done) | (simp only [List.set_cons_succ, List.set_cons_zero]; exact rfl) | exact rfl)) | fail_if_success skip)
set_option hygiene false in
local macro_rules | `(tactic| fail) => `(tactic| first | ((with_reducible apply st_pair); (first | (simp only [List.set_cons_succ, List.set_cons_zero]; done) | (simp only [List.set_cons_succ, List.set_cons_zero]; exact rfl) | exact rfl)) | fail_if_success skip)
set_option hygiene false in
local macro_rules | `(tactic| fail) => `(tactic| first | ((with_reducible apply st_pow); (exact ⟨by decide, by decide, by decide⟩)) | fail_if_success skip)
set_option hygiene false in
local macro_rules | `(tactic| fail) => `(tactic| (with_reducible apply st_frz))
set_option hygiene false in
local macro_rules | `(tactic| fail) => `(tactic| (with_reducible apply st_min2))
set_option hygiene false in
local macro_rules | `(tactic| fail) => `(tactic| first | ((with_reducible apply st_ixC); (first | exact rfl | exact get_c1 | exact get_c2 | exact get_new | exact get_new1 | exact get_new2 | assumption | (simp only [List.append_assoc, List.cons_append, List.nil_append, List.length_append, List.length_cons, List.length_nil, Nat.add_assoc, set_at0, set_at1, set_at2, set_at3]; first | exact get_at0 | exact get_at1 | exact get_at2 | exact get_at3)); (exact rfl)) | fail_if_success skip)
set_option hygiene false in
local macro_rules | `(tactic| fail) => `(tactic| first | ((with_reducible apply st_mod); (first | decide | omega)) | fail_if_success skip)
set_option hygiene false in
local macro_rules | `(tactic| fail) => `(tactic| (with_reducible apply st_gsub))
set_option hygiene false in
local macro_rules | `(tactic| fail) => `(tactic| (with_reducible apply st_noP))
set_option hygiene false in
local macro_rules | `(tactic| fail) => `(tactic| (with_reducible apply st_or))
set_option hygiene false in
local macro_rules | `(tactic| fail) => `(tactic| first | ((with_reducible apply st_lenC); (first | exact rfl | exact get_c1 | exact get_c2 | exact get_new | exact get_new1 | exact get_new2 | assumption | (simp only [List.append_assoc, List.cons_append, List.nil_append, List.length_append, List.length_cons, List.length_nil, Nat.add_assoc, set_at0, set_at1, set_at2, set_at3]; first | exact get_at0 | exact get_at1 | exact get_at2 | exact get_at3))) | fail_if_success skip)
set_option hygiene false in
local macro_rules | `(tactic| fail) => `(tactic| first | (((with_reducible apply st_lenS)) <;> try decreasing_trivial_pre_omega) | fail_if_success skip)
set_option hygiene false in
local macro_rules | `(tactic| fail) => `(tactic| (with_reducible apply st_lenScr))
set_option hygiene false in
local macro_rules | `(tactic| fail) => `(tactic| (with_reducible apply st_lenT))
set_option hygiene false in
local macro_rules | `(tactic| fail) => `(tactic| (with_reducible apply st_lenL))
set_option hygiene false in
local macro_rules | `(tactic| fail) => `(tactic| first | ((with_reducible apply st_b) <;> intro hb <;> (first | (exfalso; first | exact hb rfl | (cases hb; done) | contradiction | omega) | skip)) | fail_if_success skip)
set_option hygiene false in
local macro_rules | `(tactic| fail) => `(tactic| first | ((with_reducible apply st_ndec) <;> intro hb <;> (first | (exfalso; first | exact hb rfl | (cases hb; done) | contradiction | omega) | skip)) | fail_if_success skip)
set_option hygiene false in
local macro_rules | `(tactic| fail) => `(tactic| first | ((with_reducible apply st_dec) <;> intro hb <;> (first | (exfalso; first | exact hb rfl | (cases hb; done) | contradiction | omega) | skip)) | fail_if_success skip)
set_option hygiene false in
local macro_rules | `(tactic| fail) => `(tactic| first | ((with_reducible apply st_ncs); (first | exact rfl | assumption | exact natsD_noC _ | exact noCs_chars _ | exact noCs_sp _ | exact noC_sp _ | ((simp only [noCs, noC, Bool.true_and, Bool.and_true, noCs_ints, noCs_strs, natsD_noC, *]) <;> first | exact noC_sp _ | exact noC_pap _ | ((rw [noC_pap, noC_sp]); exact rfl) | skip))) | fail_if_success skip)
set_option hygiene false in
local macro_rules | `(tactic| fail) => `(tactic| first | ((with_reducible apply st_gzC); (first | exact rfl | assumption | (first | (apply Well.noC; assumption) | (apply WellC.noC; assumption) | (apply PotB.noC; assumption) | (apply WellE.noC; assumption)) | (simp [noCO, noCs_ints, noCs_strs, natsD_noC, *]; done) | (simp only [noCO, noCs, noC, Bool.true_and, Bool.and_true, noCs_ints, noCs_strs, natsD_noC, *]))) | fail_if_success skip)
set_option hygiene false in
local macro_rules | `(tactic| fail) => `(tactic| first | ((with_reducible apply st_gfL); (first | exact rfl | assumption | exact natsD_noC _ | exact noCs_chars _ | exact noCs_sp _ | exact noC_sp _ | ((simp only [noCs, noC, Bool.true_and, Bool.and_true, noCs_ints, noCs_strs, natsD_noC, *]) <;> first | exact noC_sp _ | exact noC_pap _ | ((rw [noC_pap, noC_sp]); exact rfl) | skip))) | fail_if_success skip)
set_option hygiene false in
local macro_rules | `(tactic| fail) => `(tactic| first | ((with_reducible apply st_gzP); (first | exact rfl | assumption | exact natsD_noC _ | exact noCs_chars _ | exact noCs_sp _ | exact noC_sp _ | ((simp only [noCs, noC, Bool.true_and, Bool.and_true, noCs_ints, noCs_strs, natsD_noC, *]) <;> first | exact noC_sp _ | exact noC_pap _ | ((rw [noC_pap, noC_sp]); exact rfl) | skip))) | fail_if_success skip)
set_option hygiene false in
local macro_rules | `(tactic| fail) => `(tactic| first | ((with_reducible apply st_bz); (first | exact rfl | assumption | exact natsD_noC _ | exact noCs_chars _ | exact noCs_sp _ | exact noC_sp _ | ((simp only [noCs, noC, Bool.true_and, Bool.and_true, noCs_ints, noCs_strs, natsD_noC, *]) <;> first | exact noC_sp _ | exact noC_pap _ | ((rw [noC_pap, noC_sp]); exact rfl) | skip))) | fail_if_success skip)
set_option hygiene false in
local macro_rules | `(tactic| fail) => `(tactic| first | ((with_reducible apply st_iterC'); (first | exact rfl | exact get_c1 | exact get_c2 | exact get_new | exact get_new1 | exact get_new2 | assumption | (simp only [List.append_assoc, List.cons_append, List.nil_append, List.length_append, List.length_cons, List.length_nil, Nat.add_assoc, set_at0, set_at1, set_at2, set_at3]; first | exact get_at0 | exact get_at1 | exact get_at2 | exact get_at3))) | fail_if_success skip)
set_option hygiene false in
local macro_rules | `(tactic| fail) => `(tactic| first | ((with_reducible apply st_isKC); (first | exact rfl | exact get_c1 | exact get_c2 | exact get_new | exact get_new1 | exact get_new2 | assumption | (simp only [List.append_assoc, List.cons_append, List.nil_append, List.length_append, List.length_cons, List.length_nil, Nat.add_assoc, set_at0, set_at1, set_at2, set_at3]; first | exact get_at0 | exact get_at1 | exact get_at2 | exact get_at3))) | fail_if_success skip)
set_option hygiene false in
local macro_rules | `(tactic| fail) => `(tactic| first | ((with_reducible apply st_plE); (exact rfl)) | fail_if_success skip)
set_option hygiene false in
local macro_rules | `(tactic| fail) => `(tactic| first | ((with_reducible apply st_pl); (first | exact rfl | (simp only [noL]; done)); (first | exact rfl | exact noL1 (noLs_nats _) | exact noL1 (noLs_strs _))) | fail_if_success skip)
set_option hygiene false in
local macro_rules | `(tactic| fail) => `(tactic| first | ((with_reducible apply st_callT2); (first | exact rfl | exact get_c1 | exact get_c2 | exact get_new | exact get_new1 | exact get_new2 | assumption | (simp only [List.append_assoc, List.cons_append, List.nil_append, List.length_append, List.length_cons, List.length_nil, Nat.add_assoc, set_at0, set_at1, set_at2, set_at3]; first | exact get_at0 | exact get_at1 | exact get_at2 | exact get_at3)); (first | exact rfl | assumption | exact natsD_noC _ | exact noCs_chars _ | exact noCs_sp _ | exact noC_sp _ | ((simp only [noCs, noC, Bool.true_and, Bool.and_true, noCs_ints, noCs_strs, natsD_noC, *]) <;> first | exact noC_sp _ | exact noC_pap _ | ((rw [noC_pap, noC_sp]); exact rfl) | skip)); (first | exact rfl | assumption | exact natsD_noC _ | exact noCs_chars _ | exact noCs_sp _ | exact noC_sp _ | ((simp only [noCs, noC, Bool.true_and, Bool.and_true, noCs_ints, noCs_strs, natsD_noC, *]) <;> first | exact noC_sp _ | exact noC_pap _ | ((rw [noC_pap, noC_sp]); exact rfl) | skip))) | fail_if_success skip)
set_option hygiene false in
local macro_rules | `(tactic| fail) => `(tactic| first | ((with_reducible apply st_callT1); (first | exact rfl | exact get_c1 | exact get_c2 | exact get_new | exact get_new1 | exact get_new2 | assumption | (simp only [List.append_assoc, List.cons_append, List.nil_append, List.length_append, List.length_cons, List.length_nil, Nat.add_assoc, set_at0, set_at1, set_at2, set_at3]; first | exact get_at0 | exact get_at1 | exact get_at2 | exact get_at3)); (first | exact rfl | assumption | exact natsD_noC _ | exact noCs_chars _ | exact noCs_sp _ | exact noC_sp _ | ((simp only [noCs, noC, Bool.true_and, Bool.and_true, noCs_ints, noCs_strs, natsD_noC, *]) <;> first | exact noC_sp _ | exact noC_pap _ | ((rw [noC_pap, noC_sp]); exact rfl) | skip))) | fail_if_success skip)
set_option hygiene false in
local macro_rules | `(tactic| fail) => `(tactic| first | ((with_reducible apply st_frzD2); (first | exact rfl | exact get_c1 | exact get_c2 | exact get_new | exact get_new1 | exact get_new2 | assumption | (simp only [List.append_assoc, List.cons_append, List.nil_append, List.length_append, List.length_cons, List.length_nil, Nat.add_assoc, set_at0, set_at1, set_at2, set_at3]; first | exact get_at0 | exact get_at1 | exact get_at2 | exact get_at3))) | fail_if_success skip)
set_option hygiene false in
local macro_rules | `(tactic| fail) => `(tactic| first | ((with_reducible apply st_frzDct); (first | exact rfl | exact get_c1 | exact get_c2 | exact get_new | exact get_new1 | exact get_new2 | assumption | (simp only [List.append_assoc, List.cons_append, List.nil_append, List.length_append, List.length_cons, List.length_nil, Nat.add_assoc, set_at0, set_at1, set_at2, set_at3]; first | exact get_at0 | exact get_at1 | exact get_at2 | exact get_at3))) | fail_if_success skip)
set_option hygiene false in
local macro_rules | `(tactic| fail) => `(tactic| first | ((with_reducible apply st_frzL); (first | exact rfl | exact get_c1 | exact get_c2 | exact get_new | exact get_new1 | exact get_new2 | assumption | (simp only [List.append_assoc, List.cons_append, List.nil_append, List.length_append, List.length_cons, List.length_nil, Nat.add_assoc, set_at0, set_at1, set_at2, set_at3]; first | exact get_at0 | exact get_at1 | exact get_at2 | exact get_at3))) | fail_if_success skip)
set_option hygiene false in
local macro_rules | `(tactic| fail) => `(tactic| first | ((with_reducible apply st_zip'); (exact rfl); (exact rfl)) | fail_if_success skip)
set_option hygiene false in
local macro_rules | `(tactic| fail) => `(tactic| first | ((with_reducible apply st_enum'); (exact rfl); (exact rfl)) | fail_if_success skip)
set_option hygiene false in
local macro_rules | `(tactic| fail) => `(tactic| first | ((with_reducible apply st_rng2'); (omega)) | fail_if_success skip)
set_option hygiene false in
local macro_rules | `(tactic| fail) => `(tactic| first | ((with_reducible apply st_rng1'); (omega)) | fail_if_success skip)
set_option hygiene false in
local macro_rules | `(tactic| fail) => `(tactic| first | ((with_reducible apply st_items); (exact rfl)) | fail_if_success skip)
set_option hygiene false in
local macro_rules | `(tactic| fail) => `(tactic| first | ((with_reducible apply st_nonD); (exact rfl)) | fail_if_success skip)
set_option hygiene false in
local macro_rules | `(tactic| fail) => `(tactic| first | ((with_reducible apply st_nz); (first | exact rfl | assumption | (first | (apply Well.noC; assumption) | (apply WellC.noC; assumption) | (apply PotB.noC; assumption) | (apply WellE.noC; assumption)) | (simp [noCO, noCs_ints, noCs_strs, natsD_noC, *]; done) | (simp only [noCO, noCs, noC, Bool.true_and, Bool.and_true, noCs_ints, noCs_strs, natsD_noC, *]))) | fail_if_success skip)
set_option hygiene false in
local macro_rules | `(tactic| fail) => `(tactic| first | ((with_reducible apply st_wz); (first | exact rfl | assumption | exact natsD_noC _ | exact noCs_chars _ | exact noCs_sp _ | exact noC_sp _ | ((simp only [noCs, noC, Bool.true_and, Bool.and_true, noCs_ints, noCs_strs, natsD_noC, *]) <;> first | exact noC_sp _ | exact noC_pap _ | ((rw [noC_pap, noC_sp]); exact rfl) | skip)); (first | exact rfl | assumption | (first | (apply Well.noC; assumption) | (apply WellC.noC; assumption) | (apply PotB.noC; assumption) | (apply WellE.noC; assumption)) | (simp [noCO, noCs_ints, noCs_strs, natsD_noC, *]; done) | (simp only [noCO, noCs, noC, Bool.true_and, Bool.and_true, noCs_ints, noCs_strs, natsD_noC, *]))) | fail_if_success skip)
set_option hygiene false in
local macro_rules | `(tactic| fail) => `(tactic| (with_reducible apply st_ez))
set_option hygiene false in
local macro_rules | `(tactic| fail) => `(tactic| first | ((with_reducible apply st_pz); (first | exact rfl | assumption | exact natsD_noC _ | exact noCs_chars _ | exact noCs_sp _ | exact noC_sp _ | ((simp only [noCs, noC, Bool.true_and, Bool.and_true, noCs_ints, noCs_strs, natsD_noC, *]) <;> first | exact noC_sp _ | exact noC_pap _ | ((rw [noC_pap, noC_sp]); exact rfl) | skip))) | fail_if_success skip)
set_option hygiene false in
local macro_rules | `(tactic| fail) => `(tactic| first | ((with_reducible apply st_getD2); (first | exact rfl | assumption | exact dct_c (by assumption)); (first | exact rfl | assumption | exact isKD_nats _)) | fail_if_success skip)
set_option hygiene false in
local macro_rules | `(tactic| fail) => `(tactic| first | ((with_reducible apply st_getD1); (first | exact rfl | assumption | exact dct_c (by assumption))) | fail_if_success skip)
set_option hygiene false in
local macro_rules | `(tactic| fail) => `(tactic| (with_reducible apply st_isDct))
set_option hygiene false in
local macro_rules | `(tactic| fail) => `(tactic| first | ((with_reducible apply st_enumC'); (first | exact rfl | exact get_c1 | exact get_c2 | exact get_new | exact get_new1 | exact get_new2 | assumption | (simp only [List.append_assoc, List.cons_append, List.nil_append, List.length_append, List.length_cons, List.length_nil, Nat.add_assoc, set_at0, set_at1, set_at2, set_at3]; first | exact get_at0 | exact get_at1 | exact get_at2 | exact get_at3)); (first | assumption | exact rfl)) | fail_if_success skip)
set_option hygiene false in
local macro_rules | `(tactic| fail) => `(tactic| first | (((with_reducible apply st_sz)) <;> try decreasing_trivial_pre_omega) | fail_if_success skip)
set_option hygiene false in
local macro_rules | `(tactic| fail) => `(tactic| (with_reducible apply st_nF))
set_option hygiene false in
local macro_rules | `(tactic| fail) => `(tactic| (with_reducible apply st_nT))
set_option hygiene false in
local macro_rules | `(tactic| fail) => `(tactic| (with_reducible apply st_F))
set_option hygiene false in
local macro_rules | `(tactic| fail) => `(tactic| (with_reducible apply st_T))
set_option hygiene false in
local macro_rules | `(tactic| fail) => `(tactic| (with_reducible apply st_part'))
set_option hygiene false in
local macro_rules | `(tactic| fail) => `(tactic| (with_reducible apply st_isKL))
set_option hygiene false in
local macro_rules | `(tactic| fail) => `(tactic| (with_reducible apply st_isKS))
set_option hygiene false in
local macro_rules | `(tactic| fail) => `(tactic| (with_reducible apply st_rev'))
set_option hygiene false in
local macro_rules | `(tactic| fail) => `(tactic| (with_reducible apply st_tt))
set_option hygiene false in
local macro_rules | `(tactic| fail) => `(tactic| (with_reducible apply st_test'))
set_option hygiene false in
local macro_rules | `(tactic| fail) => `(tactic| (with_reducible apply st_par'))
set_option hygiene false in
local macro_rules | `(tactic| fail) => `(tactic| first | ((with_reducible apply st_mulI); (first | exact .inl ⟨by omega, by omega⟩ | exact .inr ⟨by omega, by omega⟩)) | fail_if_success skip)
set_option hygiene false in
local macro_rules | `(tactic| fail) => `(tactic| first | (((with_reducible apply st_append); (first | exact rfl | exact get_c1 | exact get_c2 | exact get_new | exact get_new1 | exact get_new2 | assumption | (simp only [List.append_assoc, List.cons_append, List.nil_append, List.length_append, List.length_cons, List.length_nil, Nat.add_assoc, set_at0, set_at1, set_at2, set_at3]; first | exact get_at0 | exact get_at1 | exact get_at2 | exact get_at3))) <;> try decreasing_trivial_pre_omega) | fail_if_success skip)
set_option hygiene false in
local macro_rules | `(tactic| fail) => `(tactic| (with_reducible apply st_finF))
set_option hygiene false in
local macro_rules | `(tactic| fail) => `(tactic| (with_reducible apply st_sl))
set_option hygiene false in
local macro_rules | `(tactic| fail) => `(tactic| (with_reducible apply st_part))
set_option hygiene false in
local macro_rules | `(tactic| fail) => `(tactic| (with_reducible apply st_sub))
set_option hygiene false in
local macro_rules | `(tactic| fail) => `(tactic| (with_reducible apply st_rng1))
set_option hygiene false in
local macro_rules | `(tactic| fail) => `(tactic| (with_reducible apply st_not))
set_option hygiene false in
local macro_rules | `(tactic| fail) => `(tactic| first | ((with_reducible apply st_eq); (exact rfl)) | fail_if_success skip)
set_option hygiene false in
local macro_rules | `(tactic| fail) => `(tactic| (with_reducible apply st_lstC))
set_option hygiene false in
local macro_rules | `(tactic| fail) => `(tactic| (with_reducible apply st_drop))
set_option hygiene false in
local macro_rules | `(tactic| fail) => `(tactic| (with_reducible apply st_yes))
set_option hygiene false in
local macro_rules | `(tactic| fail) => `(tactic| first | ((with_reducible apply st_rtK); (exact Nat.zero_le _); (exact rfl); ((intro z; cases z)); (first | exact rfl | assumption | (first | (apply Well.noC; assumption) | (apply WellC.noC; assumption) | (apply PotB.noC; assumption) | (apply WellE.noC; assumption)) | (simp [noCO, noCs_ints, noCs_strs, natsD_noC, *]; done) | (simp only [noCO, noCs, noC, Bool.true_and, Bool.and_true, noCs_ints, noCs_strs, natsD_noC, *])); (first | exact rfl | (refine noCM1 ?_; first | assumption | (first | (apply Well.noC; assumption) | (apply WellC.noC; assumption) | (apply PotB.noC; assumption) | (apply WellE.noC; assumption))) | (simp only [noCM, noCO, noCs, noC, List.take, List.length, Bool.true_and, Bool.and_true, noCs_ints, noCs_strs, natsD_noC, *]; done))) | fail_if_success skip)
set_option hygiene false in
local macro_rules | `(tactic| fail) => `(tactic| first | ((with_reducible apply st_rtC); (exact rfl)) | fail_if_success skip)
set_option hygiene false in
local macro_rules | `(tactic| fail) => `(tactic| first | ((with_reducible apply st_rt); (first | exact rfl | assumption | exact natsD_noC _ | exact noCs_chars _ | exact noCs_sp _ | exact noC_sp _ | ((simp only [noCs, noC, Bool.true_and, Bool.and_true, noCs_ints, noCs_strs, natsD_noC, *]) <;> first | exact noC_sp _ | exact noC_pap _ | ((rw [noC_pap, noC_sp]); exact rfl) | skip)); (first | exact rfl | (refine noCM1 ?_; first | assumption | (first | (apply Well.noC; assumption) | (apply WellC.noC; assumption) | (apply PotB.noC; assumption) | (apply WellE.noC; assumption))) | (simp only [noCM, noCO, noCs, noC, List.take, List.length, Bool.true_and, Bool.and_true, noCs_ints, noCs_strs, natsD_noC, *]; done))) | fail_if_success skip)
set_option hygiene false in
local macro_rules | `(tactic| fail) => `(tactic| first | ((with_reducible apply st_callW); (first | exact rfl | exact get_c1 | exact get_c2 | exact get_new | exact get_new1 | exact get_new2 | assumption | (simp only [List.append_assoc, List.cons_append, List.nil_append, List.length_append, List.length_cons, List.length_nil, Nat.add_assoc, set_at0, set_at1, set_at2, set_at3]; first | exact get_at0 | exact get_at1 | exact get_at2 | exact get_at3)); (first | exact rfl | assumption | exact natsD_noC _ | exact noCs_chars _ | exact noCs_sp _ | exact noC_sp _ | ((simp only [noCs, noC, Bool.true_and, Bool.and_true, noCs_ints, noCs_strs, natsD_noC, *]) <;> first | exact noC_sp _ | exact noC_pap _ | ((rw [noC_pap, noC_sp]); exact rfl) | skip)); (first | exact rfl | assumption | (first | (apply Well.noC; assumption) | (apply WellC.noC; assumption) | (apply PotB.noC; assumption) | (apply WellE.noC; assumption))); (first | assumption | (first | (apply Well.live; assumption) | (apply WellC.live; assumption) | (apply PotB.live; assumption) | (apply WellE.live; assumption)) | (intro z; cases z))) | fail_if_success skip)
set_option hygiene false in
local macro_rules | `(tactic| fail) => `(tactic| (with_reducible apply st_bm))
set_option hygiene false in
local macro_rules | `(tactic| fail) => `(tactic| (with_reducible apply st_for))
set_option hygiene false in
local macro_rules | `(tactic| fail) => `(tactic| (with_reducible apply st_ifS))
set_option hygiene false in
local macro_rules | `(tactic| fail) => `(tactic| (with_reducible apply st_next))
set_option hygiene false in
local macro_rules | `(tactic| fail) => `(tactic| (with_reducible apply st_lc))
set_option hygiene false in
local macro_rules | `(tactic| fail) => `(tactic| (with_reducible apply st_lst))
set_option hygiene false in
local macro_rules | `(tactic| fail) => `(tactic| (with_reducible apply st_tup))
set_option hygiene false in
local macro_rules | `(tactic| fail) => `(tactic| (with_reducible apply st_iter))
set_option hygiene false in
local macro_rules | `(tactic| fail) => `(tactic| first | ((with_reducible apply st_callP); (first | exact rfl | assumption | exact natsD_noC _ | exact noCs_chars _ | exact noCs_sp _ | exact noC_sp _ | ((simp only [noCs, noC, Bool.true_and, Bool.and_true, noCs_ints, noCs_strs, natsD_noC, *]) <;> first | exact noC_sp _ | exact noC_pap _ | ((rw [noC_pap, noC_sp]); exact rfl) | skip))) | fail_if_success skip)
set_option hygiene false in
local macro_rules | `(tactic| fail) => `(tactic| (with_reducible apply st_test))
set_option hygiene false in
local macro_rules | `(tactic| fail) => `(tactic| (with_reducible apply st_ca1))
set_option hygiene false in
local macro_rules | `(tactic| fail) => `(tactic| (with_reducible apply st_ret))
set_option hygiene false in
local macro_rules | `(tactic| fail) => `(tactic| (with_reducible apply st_call))
set_option hygiene false in
local macro_rules | `(tactic| fail) => `(tactic| (with_reducible apply st_cb))
set_option hygiene false in
local macro_rules | `(tactic| fail) => `(tactic| (with_reducible apply st_asg))
set_option hygiene false in
local macro_rules | `(tactic| fail) => `(tactic| (with_reducible apply st_seq))
set_option hygiene false in
local macro_rules | `(tactic| fail) => `(tactic| first | ((with_reducible apply st_name); (first | (simp only [List.set_cons_succ, List.set_cons_zero]; done) | (simp only [List.set_cons_succ, List.set_cons_zero]; exact rfl) | exact rfl)) | fail_if_success skip)
set_option hygiene false in
local macro_rules | `(tactic| fail) => `(tactic| (with_reducible apply st_op))
set_option hygiene false in
local macro_rules | `(tactic| fail) => `(tactic| (with_reducible apply st_c))
set_option hygiene false in
local macro_rules | `(tactic| fail) => `(tactic| (with_reducible apply st_nil))
set_option hygiene false in
local macro_rules | `(tactic| fail) => `(tactic| (with_reducible apply st_cons))
set_option hygiene false in
local macro_rules | `(tactic| fail) => `(tactic| first | ((with_reducible apply st_var); (exact rfl)) | fail_if_success skip)
def topS (i : Nat) : Stmt := PySem.Challenge.pw_shortweave_k45_whole_pieces_and_rows.main.body.getD i (.Pass ⟨0, 0, 0, 0⟩)
structure Txt (K : PySem.W.Frag) (mg : Str → Option Value) (C : Str → Addr) : Prop where
  f_is_row : GFun K mg "is_row" (topS 8) ["thing"]
  f_need_row : GFun K mg "need_row" (topS 9) ["thing"]
  f_is_pieces : GFun K mg "is_pieces" (topS 12) ["thing"]
  f_need_pieces : GFun K mg "need_pieces" (topS 13) ["thing"]
  f_begins_as_far : GFun K mg "begins_as_far" (topS 14) ["row", "pieces"]
  f_part_at_end : GFun K mg "part_at_end" (topS 15) ["text", "piece"]
  f_begins_of : GFun K mg "begins_of" (topS 16) ["row", "pieces"]
  f_how_far : GFun K mg "how_far" (topS 17) ["row", "pieces"]
  f_stands_of : GFun K mg "stands_of" (topS 22) ["pieces"]
  f_need_lists : GFun K mg "need_lists" (topS 23) ["lists"]
  f_one_behind : GFun K mg "one_behind" (topS 24) ["pieces", "stand", "sign"]
  f_all_behind : GFun K mg "all_behind" (topS 25) ["lists", "stand", "sign"]
  f_all_stands : GFun K mg "all_stands" (topS 26) ["lists"]
  f_first_stand : GFun K mg "first_stand" (topS 27) ["lists"]
  f_last_stand : GFun K mg "last_stand" (topS 28) ["lists"]
  f_led_from : GFun K mg "led_from" (topS 29) ["lists"]
  f_unbroken_paper : GFun K mg "unbroken_paper" (topS 30) ["lists"]
  f_least_unbroken : GFun K mg "least_unbroken" (topS 31) ["lists"]
  f_weave_unbroken : GFun K mg "weave_unbroken" (topS 32) ["lists"]
  f_need_rows : GFun K mg "need_rows" (topS 36) ["rows"]
  f_size_of : GFun K mg "size_of" (topS 37) ["rows"]
  f_need_size : GFun K mg "need_size" (topS 38) ["rows"]
  f_all_spots : GFun K mg "all_spots" (topS 39) ["rows"]
  f_next_signs : GFun K mg "next_signs" (topS 40) ["rows", "spot"]
  f_spot_behind : GFun K mg "spot_behind" (topS 41) ["rows", "spot", "sign"]
  f_paper_of : GFun K mg "paper_of" (topS 42) ["rows"]
  f_first_spot : GFun K mg "first_spot" (topS 44) ["rows"]
  f_sign_that_keeps : GFun K mg "sign_that_keeps" (topS 45) ["rows", "paper", "spot"]
  f_weave_on : GFun K mg "weave_on" (topS 46) ["rows", "paper", "spot"]
  f_least_of : GFun K mg "least_of" (topS 47) ["rows"]
  f_weave_of : GFun K mg "weave_of" (topS 48) ["rows"]
  f__law_mixed : GFun K mg "_law_mixed" (topS 50) ["_law_cell", "_law_k"]
  f__law_pot : GFun K mg "_law_pot" (topS 51) ["_law_cell"]
  f__law_take : GFun K mg "_law_take" (topS 52) ["_law_pot_here", "_law_many"]
  f__law_some_letters : GFun K mg "_law_some_letters" (topS 53) ["_law_pot_here"]
  f__law_text : GFun K mg "_law_text" (topS 54) ["_law_pot_here", "_law_letters", "_law_many"]
  f__law_pieces : GFun K mg "_law_pieces" (topS 55) ["_law_pot_here", "_law_letters", "_law_most"]
  f__law_lists : GFun K mg "_law_lists" (topS 56) ["_law_pot_here", "_law_size"]
  f__law_held_right : GFun K mg "_law_held_right" (topS 57) ["_law_lists_here", "_law_weave"]
  f__law_joined : GFun K mg "_law_joined" (topS 58) ["_law_pot_here", "_law_pieces_here"]
  f__law_tiny_right : GFun K mg "_law_tiny_right" (topS 59) ["_law_lists_here", "_law_weave"]
  f_law : GFun K mg "law" (topS 60) ["_law_script"]
  n_dict : mg "dict" = none
  n_enumerate : mg "enumerate" = none
  n_int : mg "int" = none
  n_isinstance : mg "isinstance" = none
  n_len : mg "len" = none
  n_list : mg "list" = none
  n_min : mg "min" = none
  n_range : mg "range" = none
  n_set : mg "set" = none
  n_sorted : mg "sorted" = none
  n_str : mg "str" = none
  n_sum : mg "sum" = none
  n_tuple : mg "tuple" = none
  n_zip : mg "zip" = none
  g_SIGNS : ∃ t, mg "SIGNS" = some (.str "abcdefghijklmnopqrstuvwxyz" t)
  g_MOST_SIGNS : ∃ t, mg "MOST_SIGNS" = some (.int 40 t)
  g_LETTERS : ∃ t, mg "LETTERS" = some (.str "abcdefghijklmnopqrstuvwxyz" t)
  g_MOST_LISTS : ∃ t, mg "MOST_LISTS" = some (.int 3 t)
  g_MOST_STANDS : ∃ t, mg "MOST_STANDS" = some (.int 1000 t)
  g_MOST_ROWS : ∃ t, mg "MOST_ROWS" = some (.int 8 t)
  g_MOST_SIZE : ∃ t, mg "MOST_SIZE" = some (.int 4096 t)
  x_WeaveError : ExcF K mg "WeaveError" (C "WeaveError")
  x_NoRow : ExcF K mg "NoRow" (C "NoRow")
  x_NoRows : ExcF K mg "NoRows" (C "NoRows")
  x_NoPieces : ExcF K mg "NoPieces" (C "NoPieces")
  x_TooMany : ExcF K mg "TooMany" (C "TooMany")
abbrev N_is_row : List Str := ["thing", "sign"]
theorem sc_is_row : FnScope N_is_row ["thing"] (defScope (topS 8)) := ⟨rfl, rfl, rfl, by decide +kernel, rfl, by decide +kernel, by decide +kernel⟩
def S_is_row (_ : Str → Addr) : DSp := fun ds μ Q _ => ∃ d, ds = [d] ∧ μ = [] ∧ kindOk d ∧ Q (.bl (isRowD d)) []
theorem u_is_row {C : Str → Addr} {d : D} {Q : DQ} {E : FE} (hk : kindOk d) (q : Q (.bl (isRowD d)) []) : S_is_row C [d] [] Q E := ⟨d, rfl, rfl, hk, q⟩
set_option hygiene false in
local macro_rules | `(tactic| array_get_dec) => `(tactic| ((with_reducible apply u_is_row); (assumption)))
theorem ok_is_row {P : Program} {w : World} {K : PySem.W.Frag} {mg : Str → Option Value} {base : Heap} {C : Str → Addr} (SB : SmB K mg base) (T : Txt K mg C) : Fd P w K mg base "is_row" 1 (S_is_row C) := by
  refine fd_mk T.f_is_row sc_is_row ?len (fun f cdv A outer s H E hr tk po => ⟨_, (ws_one (ws_ret (we_and (we_callB ld_isi rfl T.n_isinstance (by decide +kernel) (wa_cons (we_var 0) (wa_cons (we_bty (n := "str") T.n_str (by decide +kernel)) wa_nil))) (we_and1 (we_cmp (cd_eq hr.units) (we_lc finF_ok [("sign", 1)] sc_is_row.nd (wi_any (we_var 0)) (blkOk_by (own := [("sign", 1)]) (N := N_is_row) (sc := defScope (topS 8)) (by decide +kernel))
  (fun _ _ _ _ _ => (wg_name 1 sc_is_row.nd)) (fun _ _ _ _ _ => (wts_one (wt_cmp cd_notIn (we_var 1) (we_globS rfl T.g_SIGNS)))) (fun _ _ _ _ _ => (we_var 1))) (we_lst wa_nil)))))), ?body⟩)
  case' body => clear tk po hr E H s outer A cdv f
  case len => rintro _ _ _ _ ⟨_, rfl, _⟩; rfl
  case body =>
    rintro ds μ Q E' ⟨d, rfl, rfl, ⟨⟨t, ht⟩, hs⟩, q⟩
    refine ⟨_, rfl, _, _, t, _, rfl, ht, kit_str ht, _, rfl, fun hb => ?_, fun hb => ?_⟩
    · cases d <;> first | (exact Bool.noConfusion hb) | skip
      rename_i s
      refine ⟨_, rfl, _, rfl, lc_pure (fun d => match d with | .str [c] => !isL c | _ => false) id (by rw [chars_length]; exact sz5 (hs s rfl).1) ?_ ?_⟩
      · intro i d hd KA KF h1 h2
        obtain ⟨c, hc, rfl⟩ := chars_get hd
        refine ⟨_, rfl, c, rfl, _, rfl, fun hb => ⟨_, rfl, h1 ?_⟩, fun hb => h2 ?_⟩
        · show (!isL c) = true
          have : ¬ (c ∈ ("abcdefghijklmnopqrstuvwxyz" : Str).cps.toList) := by simpa using hb
          rw [mem_signs] at this
          simpa using this
        · show (!isL c) = false
          have : c ∈ ("abcdefghijklmnopqrstuvwxyz" : Str).cps.toList := by simpa using hb
          rw [mem_signs] at this
          simpa using this
      · refine ⟨Nat.zero_le _, okD_lst (by decide) fun d hd => ?_, okD_lst (by decide) (by simp), ?_⟩
        · obtain ⟨d', hd', rfl⟩ := List.mem_map.mp hd
          obtain ⟨c, hc, rfl⟩ := List.mem_map.mp (List.mem_filter.mp hd').1
          exact okD_str fun c' hc' => (hs s rfl).2 c' (by simp at hc'; subst hc'; exact hc)
        · refine .inl ⟨rfl, rfl, ?_⟩
          have e : deq (dr [] (.lst (((chars s).filter (fun d => match d with | .str [c] => !isL c | _ => false)).map id))) (dr [] (.lst [])) = isRow s := by
            show deq (.lst _) (.lst []) = _
            rw [deq_nil, List.map_id]
            unfold isRow chars
            apply Bool.eq_iff_iff.mpr
            simp only [decide_eq_true_eq, List.filter_eq_nil_iff, List.mem_map, List.all_eq_true]
            constructor
            · intro h c hc
              have := h (.str [c]) ⟨c, hc, rfl⟩
              simpa using this
            · rintro h d ⟨c, hc, rfl⟩
              simpa using h c hc
          rw [e]
          exact q
    · have e : isRowD d = false := by cases d <;> first | rfl | (exact Bool.noConfusion hb)
      rw [e] at q
      exact .inl ⟨rfl, rfl, q⟩

abbrev N_need_row : List Str := ["thing"]
theorem sc_need_row : FnScope N_need_row ["thing"] (defScope (topS 9)) := ⟨rfl, rfl, rfl, by decide +kernel, rfl, by decide +kernel, by decide +kernel⟩
def S_need_row (C : Str → Addr) : DSp := fun ds μ Q E => ∃ d, ds = [d] ∧ μ = [] ∧ kindOk d ∧ noC d = true ∧ (isRowD d = true → Q .non []) ∧ (isRowD d = false → E (.ref (C "NoRow")) [])
theorem u_need_row {C : Str → Addr} {d : D} {Q : DQ} {E : FE} (hk : kindOk d) (hn : noC d = true) (h1 : isRowD d = true → Q .non []) (h2 : isRowD d = false → E (.ref (C "NoRow")) []) : S_need_row C [d] [] Q E := ⟨d, rfl, rfl, hk, hn, h1, h2⟩
set_option hygiene false in
local macro_rules | `(tactic| array_get_dec) => `(tactic| ((with_reducible apply u_need_row); (assumption); (assumption)) <;> intro hr)
theorem ok_need_row {P : Program} {w : World} {K : PySem.W.Frag} {mg : Str → Option Value} {base : Heap} {C : Str → Addr} (SB : SmB K mg base) (T : Txt K mg C) : Fd P w K mg base "need_row" 2 (S_need_row C) := by
  have D_is_row := ok_is_row (P := P) (w := w) (base := base) SB T
  refine fd_mk T.f_need_row sc_need_row ?len (fun f cdv A outer s H E hr tk po => ⟨_, (ws_one (ws_if (wt_not (wt_val (we_call callP_ok D_is_row (hr.mono (by decide)) tk (wa_cons (we_var 0) wa_nil))))
  (ws_one (ws_raise T.x_NoRow tk))
  ws_nil)), ?body⟩)
  case' body => clear tk po hr E H s outer A cdv f
  case len => rintro _ _ _ _ ⟨_, rfl, _⟩; rfl
  case body =>
    rintro ds μ Q E' ⟨d, rfl, rfl, hk, hn, q1, q2⟩
    refine ⟨_, rfl, by simp [noCs, hn], _, rfl, rfl, hk, rfl, rfl, _, rfl, fun hb => ?_, fun hb => ?_⟩
    · exact .inl ⟨rfl, q2 (by simpa using hb)⟩
    · exact .inl ⟨rfl, rfl, q1 (by simpa using hb)⟩

abbrev N_is_pieces : List Str := ["thing", "piece"]
theorem sc_is_pieces : FnScope N_is_pieces ["thing"] (defScope (topS 12)) := ⟨rfl, rfl, rfl, by decide +kernel, rfl, by decide +kernel, by decide +kernel⟩
def isPcD : D → Bool
  | .str s => isRow s && !decide (s = [])
  | _ => false
def isPcsD : D → Bool
  | .lst xs => xs.all isPcD && decide ((xs.map fun d => match d with | .str s => s.length | _ => 0).sum ≤ 40)
  | _ => false
def S_is_pieces (_ : Str → Addr) : DSp := fun ds μ Q _ => ∃ d, ds = [d] ∧ μ = [] ∧ listOk d ∧ Q (.bl (isPcsD d)) []
theorem u_is_pieces {C : Str → Addr} {d : D} {Q : DQ} {E : FE} (h : listOk d) (q : Q (.bl (isPcsD d)) []) : S_is_pieces C [d] [] Q E := ⟨d, rfl, rfl, h, q⟩
set_option hygiene false in
local macro_rules | `(tactic| array_get_dec) => `(tactic| ((with_reducible apply u_is_pieces); (assumption)))
theorem pcsD_strs {xs : List D} (h : xs.all isPcD = true) : ∃ ps : List (List Nat), xs = ps.map .str ∧ ∀ p ∈ ps, isRow p = true ∧ p ≠ [] := by
  induction xs with
  | nil => exact ⟨[], rfl, fun _ h => nomatch h⟩
  | cons x xs ih =>
    rw [List.all_cons, Bool.and_eq_true] at h
    obtain ⟨ps, rfl, hp⟩ := ih h.2
    cases x with
    | str s =>
      have h1 : (isRow s && !decide (s = [])) = true := h.1
      rw [Bool.and_eq_true] at h1
      refine ⟨s :: ps, rfl, fun p hm => ?_⟩
      rcases List.mem_cons.mp hm with rfl | hm
      · exact ⟨h1.1, by simpa using h1.2⟩
      · exact hp p hm
    | _ => cases h.1
theorem Pcs.is {ps : List (List Nat)} (h : Pcs ps) : isPcsD (.lst (ps.map .str)) = true := by
  show ((ps.map D.str).all isPcD && decide (((ps.map D.str).map fun d => match d with | .str s => s.length | _ => 0).sum ≤ 40)) = true
  rw [Bool.and_eq_true, List.map_map]
  refine ⟨List.all_eq_true.mpr fun d hd => ?_, decide_eq_true ?_⟩
  · obtain ⟨p, hp, rfl⟩ := List.mem_map.mp hd
    have := h.1 p hp
    show (isRow p && !decide (p = [])) = true
    simp [this.1, this.2]
  · have := h.2
    rw [List.length_flatten] at this
    exact this
theorem Pcs.rows {ps : List (List Nat)} (h : Pcs ps) : Rows ps 40 := fun p hp => ⟨(h.mem hp).1, (h.mem hp).2.2⟩
theorem Pcs.listOk {ps : List (List Nat)} (h : Pcs ps) : listOk (.lst (ps.map .str)) := rows_listOk h.rows (by have := h.len; omega) (by decide)
theorem Pcs.lok {ps : List (List Nat)} (h : Pcs ps) : SW.listOk (pcD ps) := h.listOk
theorem isPcs_strs {d : D} (h : isPcsD d = true) : ∃ ps, d = .lst (ps.map .str) ∧ Pcs ps := by
  cases d with
  | lst xs =>
    have h : (xs.all isPcD && decide ((xs.map fun d => match d with | .str s => s.length | _ => 0).sum ≤ 40)) = true := h
    rw [Bool.and_eq_true] at h
    obtain ⟨ps, rfl, hp⟩ := pcsD_strs h.1
    refine ⟨ps, rfl, hp, ?_⟩
    have := of_decide_eq_true h.2
    rw [List.map_map] at this
    rw [List.length_flatten]
    exact this
  | _ => cases h
theorem ok_is_pieces {P : Program} {w : World} {K : PySem.W.Frag} {mg : Str → Option Value} {base : Heap} {C : Str → Addr} (SB : SmB K mg base) (T : Txt K mg C) : Fd P w K mg base "is_pieces" 2 (S_is_pieces C) := by
  have D_is_row := ok_is_row (P := P) (w := w) (base := base) SB T
  refine fd_mk T.f_is_pieces sc_is_pieces ?len (fun f cdv A outer s H E hr tk po => ⟨_, (ws_cons (ws_if (wt_not (wt_val (we_callB ld_isi rfl T.n_isinstance (by decide +kernel) (wa_cons (we_var 0) (wa_cons (we_bty (n := "list") T.n_list (by decide +kernel)) wa_nil)))))
  (ws_one (ws_ret we_bl))
  ws_nil)
  (ws_cons (ws_if (wt_cmp (cd_ne hr.units) (we_lc finF_ok [("piece", 1)] sc_is_pieces.nd (wi_any (we_var 0)) (blkOk_by (own := [("piece", 1)]) (N := N_is_pieces) (sc := defScope (topS 12)) (by decide +kernel))
  (fun _ _ _ _ _ => (wg_name 1 sc_is_pieces.nd)) (fun _ _ _ _ _ => (wts_one (wt_bool (ww_or (wt_not (wt_val (we_call callP_ok D_is_row (hr.mono (by decide)) takesB (wa_cons (we_var 1) wa_nil)))) (ww_or1 (wt_cmp (cd_eq hr.units) (we_var 1) we_str)))))) (fun _ _ _ _ _ => (we_var 1))) (we_lst wa_nil))
  (ws_one (ws_ret we_bl))
  ws_nil)
  (ws_one (ws_ret (we_cmp cd_le (we_callB ld_sum rfl T.n_sum (by decide +kernel) (wa_cons (we_lc finF_ok [("piece", 1)] sc_is_pieces.nd (wi_any (we_var 0)) (blkOk_by (own := [("piece", 1)]) (N := N_is_pieces) (sc := defScope (topS 12)) (by decide +kernel))
  (fun _ _ _ _ _ => (wg_name 1 sc_is_pieces.nd)) (fun _ _ _ _ _ => wts_nil) (fun _ _ _ _ _ => (we_callB ld_len rfl T.n_len (by decide +kernel) (wa_cons (we_var 1) wa_nil)))) wa_nil)) (we_globI rfl T.g_MOST_SIGNS)))))), ?body⟩)
  case' body => clear tk po hr E H s outer A cdv f
  case len => rintro _ _ _ _ ⟨_, rfl, _⟩; rfl
  case body =>
    rintro ds μ Q E' ⟨d, rfl, rfl, ⟨⟨⟨t, ht⟩, hs⟩, hn, hx⟩, q⟩
    repeat' fail
    refine st_isi ht (kit_list ht) ?_
    cases d with
    | lst xs =>
      obtain ⟨hl, hx⟩ := hx xs rfl
      repeat' fail
      refine lc_pure (fun d => !isPcD d) id (by exact sz5 hl) ?_ ?_
      · intro i d hd KA KF h1 h2
        obtain ⟨hk, _, hn'⟩ := hx d (List.mem_of_getElem? hd)
        repeat' fail
        · refine h1 ?_
          have hb : (!isRowD d) = true := by assumption
          cases d with
          | str s =>
            have hb : (!isRow s) = true := hb
            have : isRow s = false := by simpa using hb
            show (!(isRow s && _)) = true
            rw [this]
            rfl
          | _ => rfl
        · obtain ⟨s, rfl, hs'⟩ := rowD_str (show isRowD d = true by simpa using ‹(!isRowD d) = false›)
          repeat' fail
          · refine h1 ?_
            show (!(isRow s && !decide (s = []))) = true
            have : s = [] := by assumption
            simp [this]
          · refine h2 ?_
            show (!(isRow s && !decide (s = []))) = false
            have : ¬ s = [] := by assumption
            simp [this, hs']
      · rw [List.map_id]
        refine st_finF ?_
        repeat' fail
        refine st_neNil (fun d hd => (hx d (List.mem_filter.mp hd).1).2.1) ?_
        repeat' fail
        · have hne : ¬ xs.filter (fun d => !isPcD d) = [] := by assumption
          have hf : isPcsD (.lst xs) = false := by
            show (xs.all isPcD && _) = false
            rw [Bool.and_eq_false_iff]
            refine .inl (Bool.eq_false_iff.mpr fun ha => hne (List.filter_eq_nil_iff.mpr fun d hd => ?_))
            simp [List.all_eq_true.mp ha d hd]
          rw [hf] at q
          exact q
        · have he : xs.filter (fun d => !isPcD d) = [] := by assumption
          have ha : xs.all isPcD = true := List.all_eq_true.mpr fun d hd => by
            have := List.filter_eq_nil_iff.mp he d hd
            simpa using this
          obtain ⟨ps, rfl, hp⟩ := pcsD_strs ha
          rw [List.length_map] at hl
          refine lc_strs (l := ps) (fun p => .int (p.length : Int)) (sz (by omega)) ?_ ?_
          · intro j p hj KA hk
            have hsz := ((hx (.str p) (List.mem_map.mpr ⟨p, List.mem_of_getElem? hj, rfl⟩)).1.2 p rfl).1
            repeat' fail
            try exact hk
          refine st_finF ?_
          rw [show (ps.map fun p => D.int (p.length : Int)) = (ps.map fun p => (p.length : Int)).map D.int by rw [List.map_map]; rfl]
          repeat' fail
          refine st_sum rfl ?_
          repeat' fail
          have es : ∀ qs : List (List Nat), (qs.map fun p => (p.length : Int)).sum = (((qs.map List.length).sum : Nat) : Int) := by
            intro qs
            induction qs with
            | nil => rfl
            | cons q qs ih => rw [List.map_cons, List.sum_cons, ih, List.map_cons, List.sum_cons]; omega
          have ev : isPcsD (.lst (ps.map .str)) = decide ((ps.map fun p => (p.length : Int)).sum ≤ 40) := by
            show ((ps.map D.str).all isPcD && decide (((ps.map D.str).map fun d => match d with | .str s => s.length | _ => 0).sum ≤ 40)) = _
            rw [ha, Bool.true_and, List.map_map, es]
            refine decide_eq_decide.mpr ?_
            show (ps.map List.length).sum ≤ 40 ↔ _
            omega
          rw [← ev]
          exact q
    | _ =>
      repeat' fail
      exact q

abbrev N_need_pieces : List Str := ["thing"]
theorem sc_need_pieces : FnScope N_need_pieces ["thing"] (defScope (topS 13)) := ⟨rfl, rfl, rfl, by decide +kernel, rfl, by decide +kernel, by decide +kernel⟩
def S_need_pieces (C : Str → Addr) : DSp := fun ds μ Q E => ∃ d, ds = [d] ∧ μ = [] ∧ listOk d ∧ (isPcsD d = true → Q .non []) ∧ (isPcsD d = false → E (.ref (C "NoPieces")) [])
theorem u_need_pieces {C : Str → Addr} {ps : List (List Nat)} {Q : DQ} {E : FE} (h : Pcs ps) (q : Q .non []) : S_need_pieces C [.lst (ps.map .str)] [] Q E := ⟨_, rfl, rfl, h.listOk, fun _ => q, fun z => by rw [h.is] at z; cases z⟩
set_option hygiene false in
local macro_rules | `(tactic| array_get_dec) => `(tactic| ((with_reducible apply u_need_pieces); (assumption)))
theorem u_need_piecesL {C : Str → Addr} {d : D} {Q : DQ} {E : FE} (h : listOk d) (q1 : isPcsD d = true → Q .non []) (q2 : isPcsD d = false → E (.ref (C "NoPieces")) []) : S_need_pieces C [d] [] Q E := ⟨_, rfl, rfl, h, q1, q2⟩
set_option hygiene false in
local macro_rules | `(tactic| array_get_dec) => `(tactic| ((with_reducible apply u_need_piecesL); (assumption)) <;> intro hr2)
theorem ok_need_pieces {P : Program} {w : World} {K : PySem.W.Frag} {mg : Str → Option Value} {base : Heap} {C : Str → Addr} (SB : SmB K mg base) (T : Txt K mg C) : Fd P w K mg base "need_pieces" 3 (S_need_pieces C) := by
  have D_is_pieces := ok_is_pieces (P := P) (w := w) (base := base) SB T
  refine fd_mk T.f_need_pieces sc_need_pieces ?len (fun f cdv A outer s H E hr tk po => ⟨_, (ws_one (ws_if (wt_not (wt_val (we_call callP_ok D_is_pieces (hr.mono (by decide)) tk (wa_cons (we_var 0) wa_nil))))
  (ws_one (ws_raise T.x_NoPieces tk))
  ws_nil)), ?body⟩)
  case' body => clear tk po hr E H s outer A cdv f
  case len => rintro _ _ _ _ ⟨_, rfl, _⟩; rfl
  case body =>
    rintro ds μ Q E' ⟨d, rfl, rfl, hd, q1, q2⟩
    have nd := hd.2.1
    repeat' fail
    · exact q2 (by simp_all)
    · exact q1 (by simp_all)

abbrev N_begins_as_far : List Str := ["row", "pieces", "found", "at", "piece", "begin"]
theorem sc_begins_as_far : FnScope N_begins_as_far ["row", "pieces"] (defScope (topS 14)) := ⟨rfl, rfl, rfl, by decide +kernel, rfl, by decide +kernel, by decide +kernel⟩
def S_begins_as_far (C : Str → Addr) : DSp := fun ds μ Q E => ∃ s ps, ds = [.str s, .lst (ps.map .str)] ∧ μ = [] ∧ s.length ≤ 1000 ∧ Pcs ps ∧ Q (.tup [.cell 0, .int ((begF s ps 0).2 : Int)]) [.lst (natsD (begF s ps 0).1)]
theorem u_begins_as_far {C : Str → Addr} {s : List Nat} {ps : List (List Nat)} {Q : DQ} {E : FE} (hs : s.length ≤ 1000) (h : Pcs ps) (q : Q (.tup [.cell 0, .int ((begF s ps 0).2 : Int)]) [.lst (natsD (begF s ps 0).1)]) : S_begins_as_far C [.str s, .lst (ps.map .str)] [] Q E := ⟨_, _, rfl, rfl, hs, h, q⟩
set_option hygiene false in
local macro_rules | `(tactic| array_get_dec) => `(tactic| ((with_reducible apply u_begins_as_far); (omega); (assumption)))
theorem ok_begins_as_far {P : Program} {w : World} {K : PySem.W.Frag} {mg : Str → Option Value} {base : Heap} {C : Str → Addr} (SB : SmB K mg base) (T : Txt K mg C) : Fd P w K mg base "begins_as_far" 1 (S_begins_as_far C) := by
  refine fd_mk T.f_begins_as_far sc_begins_as_far ?len (fun f cdv A outer s H E hr tk po => ⟨_, (ws_cons (ws_set 2 sc_begins_as_far.nd (we_lstC wa_nil))
  (ws_cons (ws_set 3 sc_begins_as_far.nd we_int)
  (ws_cons (ws_for po (wi_any (we_var 1)) (wg_name 4 sc_begins_as_far.nd)
  (ws_cons (ws_set 5 sc_begins_as_far.nd (we_bm .str md_find2 PySem.F.plainAttrs_str PySem.F.slot_str_find PySem.F.type_str_find (we_var 0) (wa_cons (we_var 4) (wa_cons (we_var 3) wa_nil))))
  (ws_cons (ws_if (wt_cmp cd_lt (we_var 5) we_int)
  (ws_one (ws_ret (we_tup (wa_cons (we_var 2) (wa_cons (we_var 3) wa_nil)))))
  ws_nil)
  (ws_cons (ws_drop (we_bm .lst md_append PySem.F.plainAttrs_list PySem.F.slot_list_append PySem.F.type_list_append (we_var 2) (wa_cons (we_var 5) wa_nil)))
  (ws_one (ws_set 3 sc_begins_as_far.nd (we_bin (bd_add outF_ok) (we_var 5) (we_callB ld_len rfl T.n_len (by decide +kernel) (wa_cons (we_var 4) wa_nil)))))))))
  (ws_one (ws_ret (we_tup (wa_cons (we_var 2) (wa_cons (we_var 3) wa_nil)))))))), ?body⟩)
  case' body => clear tk po hr E H s outer A cdv f
  case len => rintro _ _ _ _ ⟨_, _, rfl, _⟩; rfl
  case body =>
    rintro ds μ Q E' ⟨s, ps, rfl, rfl, hs, hp, q⟩
    repeat' fail
    refine ⟨fun i (δ : DS) (μ : Mu) => ∃ (L : List Nat) (n : Nat) (d4 d5 : Option D), δ = [some (.str s), some (.lst (ps.map .str)), some (.cell 0), some (.int (n : Int)), d4, d5] ∧ μ = [.lst (natsD L)] ∧ n ≤ s.length ∧ L.length ≤ i ∧ begF s ps 0 = (L ++ (begF s (ps.drop i) n).1, (begF s (ps.drop i) n).2), ⟨[], 0, _, _, rfl, rfl, Nat.zero_le _, Nat.zero_le _, rfl⟩, ?_, ?_⟩
    · rintro i d δ μ hd ⟨L, n, d4, d5, rfl, rfl, hn, hL, e⟩
      rw [List.getElem?_map] at hd
      obtain ⟨t, ht, rfl⟩ := Option.map_eq_some_iff.mp hd
      have hil := (List.getElem?_eq_some_iff.mp ht).1
      have hpl := hp.len
      have htl := (hp.mem (List.mem_of_getElem? ht)).2.2
      have hzz : (natsD L).length < sizeLine := by rw [natsD_len]; exact szl (by omega)
      rw [drop_getG ht] at e
      rcases find_piece s t n with ⟨f1, f2⟩ | ⟨k, f1, f2, f3, f4⟩
      · rw [begF_none f2] at e
        have e2 : begF s ps 0 = (L, n) := by rw [e]; show (L ++ [], n) = _; rw [List.append_nil]
        rw [e2] at q
        repeat' fail
        exact st_rtA q
      · rw [begF_some f2] at e
        repeat' fail
        refine ⟨L ++ [k], k + t.length, some (.str t), some (.int (k : Int)), ?_, ?_, f4.1, by simp; omega, ?_⟩
        · rw [f1]; rfl
        · rw [f1]; simp [natsD]
        · rw [e]; simp
    · rintro δ μ ⟨L, n, d4, d5, rfl, rfl, hn, hL, e⟩
      rw [List.length_map, List.drop_length] at e
      have e2 : begF s ps 0 = (L, n) := by rw [e]; show (L ++ [], n) = _; rw [List.append_nil]
      rw [e2] at q
      dsimp only
      repeat' fail
      exact st_rtA q

abbrev N_part_at_end : List Str := ["text", "piece", "part"]
theorem sc_part_at_end : FnScope N_part_at_end ["text", "piece"] (defScope (topS 15)) := ⟨rfl, rfl, rfl, by decide +kernel, rfl, by decide +kernel, by decide +kernel⟩
def S_part_at_end (_ : Str → Addr) : DSp := fun ds μ Q _ => ∃ s t, ds = [.str s, .str t] ∧ μ = [] ∧ s.length ≤ 1000 ∧ t ≠ [] ∧ t.length ≤ 1000 ∧ Q (.int (partE s t : Int)) []
theorem u_part_at_end {C : Str → Addr} {s t : List Nat} {Q : DQ} {E : FE} (h : s.length ≤ 1000 ∧ t.length ≤ 1000) (ht : t ≠ []) (q : Q (.int (partE s t : Int)) []) : S_part_at_end C [.str s, .str t] [] Q E := ⟨_, _, rfl, rfl, h.1, ht, h.2, q⟩
set_option hygiene false in
local macro_rules | `(tactic| array_get_dec) => `(tactic| ((with_reducible apply u_part_at_end); (omega); (assumption)))
theorem ok_part_at_end {P : Program} {w : World} {K : PySem.W.Frag} {mg : Str → Option Value} {base : Heap} {C : Str → Addr} (SB : SmB K mg base) (T : Txt K mg C) : Fd P w K mg base "part_at_end" 1 (S_part_at_end C) := by
  refine fd_mk T.f_part_at_end sc_part_at_end ?len (fun f cdv A outer s H E hr tk po => ⟨_, (ws_cons (ws_set 2 sc_part_at_end.nd (we_callB ld_min2 rfl T.n_min (by decide +kernel) (wa_cons (we_callB ld_len rfl T.n_len (by decide +kernel) (wa_cons (we_var 0) wa_nil)) (wa_cons (we_bin bd_sub (we_callB ld_len rfl T.n_len (by decide +kernel) (wa_cons (we_var 1) wa_nil)) we_int) wa_nil))))
  (ws_cons (ws_while po (wt_not (wt_val (we_bm .str md_endswith PySem.F.plainAttrs_str PySem.F.slot_str_endswith PySem.F.type_str_endswith (we_var 0) (wa_cons (we_cut outF_ok (we_var 1) wp_none (wp_some (we_var 2))) wa_nil))))
  (ws_one (ws_aug 2 sc_part_at_end.nd ad_sub we_int)))
  (ws_one (ws_ret (we_var 2))))), ?body⟩)
  case' body => clear tk po hr E H s outer A cdv f
  case len => rintro _ _ _ _ ⟨_, _, rfl, _⟩; rfl
  case body =>
    rintro ds μ Q E' ⟨s, t, rfl, rfl, hs, ht, hl, q⟩
    have tl0 : 0 < t.length := List.length_pos_iff.mpr ht
    repeat' fail
    obtain ⟨m, hm⟩ : ∃ m : Nat, (if (t.length : Int) - 1 < (s.length : Int) then (t.length : Int) - 1 else (s.length : Int)) = (m : Int) ∧ m = min s.length (t.length - 1) := ⟨min s.length (t.length - 1), by split <;> omega, rfl⟩
    rw [hm.1]
    refine ⟨fun n (δ : DS) (μ : Mu) => ∃ k : Nat, δ = [some (.str s), some (.str t), some (.int (k : Int))] ∧ μ = [] ∧ partF s t k = partE s t ∧ n = k, ⟨_, m, rfl, rfl, by rw [hm.2]; rfl, rfl⟩, ?_⟩
    rintro k δ μ ⟨_, rfl, rfl, e, rfl⟩
    have ec := cutL_to t (m := (k : Int)) (by omega)
    rw [Int.toNat_natCast] at ec
    repeat' fail
    all_goals rw [ec] at hb
    · cases k with
      | zero => exact absurd (by rw [List.take_zero]; exact List.nil_suffix) hb
      | succ k =>
        have e2 : partF s t (k + 1) = partF s t k := if_neg hb
        refine ⟨k, by omega, k, ?_, rfl, by rw [← e2]; exact e, rfl⟩
        rw [show ((k + 1 : Nat) : Int) - 1 = (k : Int) by omega]
        rfl
    · have e2 : partF s t k = k := by
        cases k with
        | zero => rfl
        | succ k => exact if_pos hb
      rw [← e, e2] at q
      exact q

abbrev N_begins_of : List Str := ["row", "pieces", "found", "at"]
theorem sc_begins_of : FnScope N_begins_of ["row", "pieces"] (defScope (topS 16)) := ⟨rfl, rfl, rfl, by decide +kernel, rfl, by decide +kernel, by decide +kernel⟩
def optP (s : List Nat) (ps : List (List Nat)) : Option (List Nat) := if (begF s ps 0).1.length = ps.length then some (begF s ps 0).1 else none
def optB (r : Option (List Nat)) (Q : DQ) : Prop := match r with
  | none => Q .non []
  | some l => Q (.cell 0) [.lst (natsD l)]
theorem optB_non {P : DQ} (h : P .non []) : optB none P := h
theorem optB_som {P : DQ} {l : List Nat} (h : P (.cell 0) [.lst (natsD l)]) : optB (some l) P := h
theorem optB_eqN {r : Option (List Nat)} {P : DQ} (e : r = none) (h : P .non []) : optB r P := by subst e; exact h
theorem optB_eqS {r : Option (List Nat)} {P : DQ} {l : List Nat} (e : r = some l) (h : P (.cell 0) [.lst (natsD l)]) : optB r P := by subst e; exact h
def S_begins_of (C : Str → Addr) : DSp := fun ds μ Q E => ∃ x d, ds = [x, d] ∧ μ = [] ∧ kindOk x ∧ noC x = true ∧ listOk d ∧ (∀ s ps, x = .str s → isRow s = true → d = .lst (ps.map .str) → Pcs ps → s.length ≤ 1000 ∧ optB (optP s ps) Q) ∧ (isRowD x = false → E (.ref (C "NoRow")) []) ∧ (isRowD x = true → isPcsD d = false → E (.ref (C "NoPieces")) [])
theorem u_begins_of {C : Str → Addr} {s : List Nat} {ps : List (List Nat)} {Q : DQ} {E : FE} (rs : isRow s = true) (hs : s.length ≤ 1000) (h : Pcs ps) (q : optB (optP s ps) Q) : S_begins_of C [.str s, .lst (ps.map .str)] [] Q E :=
  ⟨_, _, rfl, rfl, kind_row rs (by omega), rfl, h.listOk, fun s' ps' e1 _ e2 _ => by
    cases e1
    injection e2 with e2
    cases strs_inj e2
    exact ⟨hs, q⟩, fun z => absurd (show isRow s = false from z) (by rw [rs]; exact fun z => nomatch z), fun _ z => absurd z (by rw [h.is]; exact fun z => nomatch z)⟩
set_option hygiene false in
local macro_rules | `(tactic| array_get_dec) => `(tactic| ((with_reducible apply u_begins_of); (assumption); (omega); (assumption)))
set_option hygiene false in
local macro_rules | `(tactic| array_get_dec) => `(tactic| first | ((with_reducible apply optB_eqS); (assumption)) | fail_if_success skip)
set_option hygiene false in
local macro_rules | `(tactic| array_get_dec) => `(tactic| first | ((with_reducible apply optB_eqN); (assumption)) | fail_if_success skip)
set_option hygiene false in
local macro_rules | `(tactic| array_get_dec) => `(tactic| (with_reducible apply optB_som))
set_option hygiene false in
local macro_rules | `(tactic| array_get_dec) => `(tactic| (with_reducible apply optB_non))
theorem ok_begins_of {P : Program} {w : World} {K : PySem.W.Frag} {mg : Str → Option Value} {base : Heap} {C : Str → Addr} (SB : SmB K mg base) (T : Txt K mg C) : Fd P w K mg base "begins_of" 4 (S_begins_of C) := by
  have D_need_row := ok_need_row (P := P) (w := w) (base := base) SB T
  have D_need_pieces := ok_need_pieces (P := P) (w := w) (base := base) SB T
  have D_begins_as_far := ok_begins_as_far (P := P) (w := w) (base := base) SB T
  refine fd_mk T.f_begins_of sc_begins_of ?len (fun f cdv A outer s H E hr tk po => ⟨_, (ws_cons (ws_drop (we_call callP_ok D_need_row (hr.mono (by decide)) tk (wa_cons (we_var 0) wa_nil)))
  (ws_cons (ws_drop (we_call callP_ok D_need_pieces (hr.mono (by decide)) tk (wa_cons (we_var 1) wa_nil)))
  (ws_cons (ws_asg (we_call callA_ok D_begins_as_far (hr.mono (by decide)) tk (wa_cons (we_var 0) (wa_cons (we_var 1) wa_nil))) (wg_tup (n := 2) (wgs_cons (wg_name 2 sc_begins_of.nd) (wgs_cons (wg_name 3 sc_begins_of.nd) wgs_nil))))
  (ws_one (ws_ret (we_if (wt_cmp (cd_eq hr.units) (we_callB ld_len rfl T.n_len (by decide +kernel) (wa_cons (we_var 2) wa_nil)) (we_callB ld_len rfl T.n_len (by decide +kernel) (wa_cons (we_var 1) wa_nil))) (we_var 2) we_non)))))), ?body⟩)
  case' body => clear tk po hr E H s outer A cdv f
  case len => rintro _ _ _ _ ⟨_, _, rfl, _⟩; rfl
  case body =>
    rintro ds μ Q E' ⟨x, d, rfl, rfl, hk, nx, hd, q1, q2, q3⟩
    have nd := hd.2.1
    repeat' fail
    any_goals (exact q2 (by assumption))
    any_goals (exact q3 (by assumption) (by assumption))
    obtain ⟨s, rfl, rs⟩ := rowD_str hr
    obtain ⟨ps, rfl, hp⟩ := isPcs_strs hr2
    obtain ⟨hs, q⟩ := q1 s ps rfl rs rfl hp
    repeat' fail
    rw [ren_pair, List.map_cons, List.map_nil, renO_nats]
    repeat' fail
    all_goals rw [natsD_len, List.length_map] at hb
    · have e : optP s ps = some (begF s ps 0).1 := if_pos (by omega)
      rw [e] at q
      exact q
    · have e : optP s ps = none := if_neg (by omega)
      rw [e] at q
      exact q

abbrev N_how_far : List Str := ["row", "pieces", "found", "at"]
theorem sc_how_far : FnScope N_how_far ["row", "pieces"] (defScope (topS 17)) := ⟨rfl, rfl, rfl, by decide +kernel, rfl, by decide +kernel, by decide +kernel⟩
def S_how_far (C : Str → Addr) : DSp := fun ds μ Q E => ∃ x d, ds = [x, d] ∧ μ = [] ∧ kindOk x ∧ noC x = true ∧ listOk d ∧ (∀ s ps, x = .str s → isRow s = true → d = .lst (ps.map .str) → Pcs ps → s.length ≤ 1000 ∧ Q (farD s ps) []) ∧ (isRowD x = false → E (.ref (C "NoRow")) []) ∧ (isRowD x = true → isPcsD d = false → E (.ref (C "NoPieces")) [])
theorem u_how_far {C : Str → Addr} {s : List Nat} {ps : List (List Nat)} {Q : DQ} {E : FE} (rs : isRow s = true) (hs : s.length ≤ 1000) (h : Pcs ps) (q : Q (farD s ps) []) : S_how_far C [.str s, .lst (ps.map .str)] [] Q E :=
  ⟨_, _, rfl, rfl, kind_row rs (by omega), rfl, h.listOk, fun s' ps' e1 _ e2 _ => by
    cases e1
    injection e2 with e2
    cases strs_inj e2
    exact ⟨hs, q⟩, fun z => absurd (show isRow s = false from z) (by rw [rs]; exact fun z => nomatch z), fun _ z => absurd z (by rw [h.is]; exact fun z => nomatch z)⟩
set_option hygiene false in
local macro_rules | `(tactic| array_get_dec) => `(tactic| ((with_reducible apply u_how_far); (assumption); (omega); (assumption)))
theorem ok_how_far {P : Program} {w : World} {K : PySem.W.Frag} {mg : Str → Option Value} {base : Heap} {C : Str → Addr} (SB : SmB K mg base) (T : Txt K mg C) : Fd P w K mg base "how_far" 4 (S_how_far C) := by
  have D_need_row := ok_need_row (P := P) (w := w) (base := base) SB T
  have D_need_pieces := ok_need_pieces (P := P) (w := w) (base := base) SB T
  have D_begins_as_far := ok_begins_as_far (P := P) (w := w) (base := base) SB T
  have D_part_at_end := ok_part_at_end (P := P) (w := w) (base := base) SB T
  refine fd_mk T.f_how_far sc_how_far ?len (fun f cdv A outer s H E hr tk po => ⟨_, (ws_cons (ws_drop (we_call callP_ok D_need_row (hr.mono (by decide)) tk (wa_cons (we_var 0) wa_nil)))
  (ws_cons (ws_drop (we_call callP_ok D_need_pieces (hr.mono (by decide)) tk (wa_cons (we_var 1) wa_nil)))
  (ws_cons (ws_asg (we_call callA_ok D_begins_as_far (hr.mono (by decide)) tk (wa_cons (we_var 0) (wa_cons (we_var 1) wa_nil))) (wg_tup (n := 2) (wgs_cons (wg_name 2 sc_how_far.nd) (wgs_cons (wg_name 3 sc_how_far.nd) wgs_nil))))
  (ws_cons (ws_if (wt_cmp (cd_eq hr.units) (we_callB ld_len rfl T.n_len (by decide +kernel) (wa_cons (we_var 2) wa_nil)) (we_callB ld_len rfl T.n_len (by decide +kernel) (wa_cons (we_var 1) wa_nil)))
  (ws_one (ws_ret (we_tup (wa_cons (we_callB ld_len rfl T.n_len (by decide +kernel) (wa_cons (we_var 2) wa_nil)) (wa_cons we_int wa_nil)))))
  ws_nil)
  (ws_one (ws_ret (we_tup (wa_cons (we_callB ld_len rfl T.n_len (by decide +kernel) (wa_cons (we_var 2) wa_nil)) (wa_cons (we_call callP_ok D_part_at_end (hr.mono (by decide)) tk (wa_cons (we_cut outF_ok (we_var 0) (wp_some (we_var 3)) wp_none) (wa_cons (we_ix id_ix (we_var 1) (we_callB ld_len rfl T.n_len (by decide +kernel) (wa_cons (we_var 2) wa_nil))) wa_nil))) wa_nil))))))))), ?body⟩)
  case' body => clear tk po hr E H s outer A cdv f
  case len => rintro _ _ _ _ ⟨_, _, rfl, _⟩; rfl
  case body =>
    rintro ds μ Q E' ⟨x, d, rfl, rfl, hk, nx, hd, q1, q2, q3⟩
    have nd := hd.2.1
    repeat' fail
    any_goals (exact q2 (by assumption))
    any_goals (exact q3 (by assumption) (by assumption))
    obtain ⟨s, rfl, rs⟩ := rowD_str hr
    obtain ⟨ps, rfl, hp⟩ := isPcs_strs hr2
    obtain ⟨hs, q⟩ := q1 s ps rfl rs rfl hp
    have hpl := hp.len
    have lps : (ps.map D.str).length ≤ 40 := by rw [List.length_map]; exact hpl
    obtain ⟨b1, b2, b3, _⟩ := begF_le (s := s) (ts := ps) (n := 0) (Nat.zero_le _)
    have c1 := cutL_from s (m := ((begF s ps 0).2 : Int)) (by omega)
    rw [Int.toNat_natCast] at c1
    have c2 := cutL_len s (some ((begF s ps 0).2 : Int)) none
    repeat' fail
    rw [ren_pair, List.map_cons, List.map_nil, renO_nats]
    repeat' fail
    all_goals rw [natsD_len, List.length_map] at hb
    · have e : far s ps = (ps.length, 0) := if_pos (by omega)
      unfold farD at q
      rw [e] at q
      rw [natsD_len, show (begF s ps 0).1.length = ps.length by omega]
      exact q
    · have e : far s ps = ((begF s ps 0).1.length, partE (s.drop (begF s ps 0).2) (ps.getD (begF s ps 0).1.length [])) := if_neg (by omega)
      unfold farD at q
      rw [e] at q
      have hlt : (begF s ps 0).1.length < ps.length := by omega
      have hg := List.getElem?_eq_getElem hlt
      have hgd : ps.getD (begF s ps 0).1.length [] = ps[(begF s ps 0).1.length] := by rw [List.getD_eq_getElem?_getD, hg]; rfl
      obtain ⟨rt, nt, lt⟩ := hp.mem (List.getElem_mem hlt)
      refine st_ixL (d := .str ps[(begF s ps 0).1.length]) rfl rfl (atI_of (j := (begF s ps 0).1.length) (by rw [natsD_len]) (by rw [List.getElem?_map, hg]; rfl)) ?_
      rw [c1]
      have c3 : (s.drop (begF s ps 0).2).length ≤ 1000 := by rw [List.length_drop]; omega
      repeat' fail
      rw [hgd] at q
      rw [natsD_len]
      exact q

abbrev N_stands_of : List Str := ["pieces", "found", "done", "piece", "part"]
theorem sc_stands_of : FnScope N_stands_of ["pieces"] (defScope (topS 22)) := ⟨rfl, rfl, rfl, by decide +kernel, rfl, by decide +kernel, by decide +kernel⟩
def S_stands_of (_ : Str → Addr) : DSp := fun ds μ Q _ => ∃ ps : List (List Nat), ds = [pcD ps] ∧ μ = [] ∧ Pcs ps ∧ Q (.lst ((ones ps).map oneD)) []
theorem u_stands_of {C : Str → Addr} {ps : List (List Nat)} {Q : DQ} {E : FE} (h : Pcs ps) (q : Q (.lst ((ones ps).map oneD)) []) : S_stands_of C [.lst (ps.map .str)] [] Q E := ⟨ps, rfl, rfl, h, q⟩
set_option hygiene false in
local macro_rules | `(tactic| array_get_dec) => `(tactic| ((with_reducible apply u_stands_of); (assumption)))
theorem flat_le {α β : Type} {f : α → List β} {n : Nat} : ∀ {l : List α}, (∀ a ∈ l, (f a).length ≤ n) → (l.flatMap f).length ≤ l.length * n
  | [], _ => by simp
  | a :: l, h => by
    have h1 := h a List.mem_cons_self
    have h2 := flat_le (l := l) fun b hb => h b (List.mem_cons_of_mem _ hb)
    rw [List.flatMap_cons, List.length_append, List.length_cons, Nat.succ_mul]
    omega
theorem ok_stands_of {P : Program} {w : World} {K : PySem.W.Frag} {mg : Str → Option Value} {base : Heap} {C : Str → Addr} (SB : SmB K mg base) (T : Txt K mg C) : Fd P w K mg base "stands_of" 1 (S_stands_of C) := by
  refine fd_mk T.f_stands_of sc_stands_of ?len (fun f cdv A outer s H E hr tk po => ⟨_, (ws_cons (ws_set 1 sc_stands_of.nd (we_lstC wa_nil))
  (ws_cons (ws_for po (wi_enum T.n_enumerate (wa_cons (we_var 0) wa_nil)) (wg_tup (n := 2) (wgs_cons (wg_name 2 sc_stands_of.nd) (wgs_cons (wg_name 3 sc_stands_of.nd) wgs_nil)))
  (ws_one (ws_drop (we_bm .lst md_extend PySem.F.plainAttrs_list PySem.F.slot_list_extend PySem.F.type_list_extend (we_var 1) (wa_cons (we_lc finF_ok [("part", 4)] sc_stands_of.nd (wi_rng1 T.n_range (wa_cons (we_callB ld_len rfl T.n_len (by decide +kernel) (wa_cons (we_var 3) wa_nil)) wa_nil)) (blkOk_by (own := [("part", 4)]) (N := N_stands_of) (sc := defScope (topS 22)) (by decide +kernel))
  (fun _ _ _ _ _ => (wg_name 4 sc_stands_of.nd)) (fun _ _ _ _ _ => wts_nil) (fun _ _ _ _ _ => (we_tup (wa_cons (we_var 2) (wa_cons (we_var 4) wa_nil))))) wa_nil)))))
  (ws_one (ws_ret (we_bin (bd_add outF_ok) (we_var 1) (we_lst (wa_cons (we_tup (wa_cons (we_callB ld_len rfl T.n_len (by decide +kernel) (wa_cons (we_var 0) wa_nil)) (wa_cons we_int wa_nil))) wa_nil))))))), ?body⟩)
  case' body => clear tk po hr E H s outer A cdv f
  case len => rintro _ _ _ _ ⟨_, rfl, _⟩; rfl
  case body =>
    rintro ds μ Q E' ⟨ps, rfl, rfl, hp, q⟩
    have hpl := hp.len
    have lps : (ps.map D.str).length ≤ 40 := by rw [List.length_map]; exact hpl
    repeat' fail
    refine ⟨fun i (δ : DS) (μ : Mu) => ∃ d2 d3 d4, δ = [some (.lst (ps.map .str)), some (.cell 0), d2, d3, d4] ∧ μ = [.lst (((List.range i).flatMap fun d => (List.range (ps.getD d []).length).map fun k => (d, k)).map oneD)], ⟨_, _, _, rfl, rfl⟩, ?_, ?_⟩
    · rintro i d δ μ hd ⟨d2, d3, d4, rfl, rfl⟩
      obtain ⟨x, hx, rfl⟩ := pairI_get hd
      rw [List.getElem?_map] at hx
      obtain ⟨t, ht, rfl⟩ := Option.map_eq_some_iff.mp hx
      obtain ⟨_, _, lt⟩ := hp.mem (List.mem_of_getElem? ht)
      have hi := (List.getElem?_eq_some_iff.mp ht).1
      have eg : ps.getD i [] = t := by rw [List.getD_eq_getElem?_getD, ht]; rfl
      have lf : (((List.range i).flatMap fun d => (List.range (ps.getD d []).length).map fun k => (d, k)).map oneD).length ≤ 1600 := by
        have := flat_le (f := fun d => (List.range (ps.getD d []).length).map fun k => (d, k)) (n := 40) (l := List.range i) fun d hd => by
          rw [List.length_map, List.length_range]
          have hdl : d < ps.length := by have := List.mem_range.mp hd; omega
          have : ps.getD d [] ∈ ps := by rw [List.getD_eq_getElem?_getD, List.getElem?_eq_getElem hdl]; exact List.getElem_mem hdl
          exact (hp.mem this).2.2
        rw [List.length_range] at this
        rw [List.length_map]
        omega
      repeat' fail
      rw [show (t.length : Int).toNat = t.length by omega, rangeD_nats]
      refine lc_nats (fun k => oneD (i, k)) (sz (by rw [List.length_range]; omega)) ?_ ?_
      · intro j k hj KA hk
        repeat' fail
        exact hk
      refine st_finF ?_
      have l2 : ((List.range t.length).map fun k => oneD (i, k)).length ≤ 40 := by rw [List.length_map, List.length_range]; exact lt
      have l3 := sz (n := (((List.range i).flatMap fun d => (List.range (ps.getD d []).length).map fun k => (d, k)).map oneD).length + ((List.range t.length).map fun k => oneD (i, k)).length) (by omega)
      repeat' fail
      refine ⟨_, _, _, rfl, ?_⟩
      rw [List.range_succ, List.flatMap_append, List.map_append]
      simp only [List.set_cons_zero, List.flatMap_cons, List.flatMap_nil, List.append_nil, eg, List.map_map]
      rfl
    · rintro δ μ ⟨d2, d3, d4, rfl, rfl⟩
      have lz : ((ones ps).map oneD).length ≤ 41 := by
        rw [List.length_map, ones_len]
        have := hp.2
        omega
      have e : ((List.range (pairI (ps.map D.str)).length).flatMap fun d => (List.range (ps.getD d []).length).map fun k => (d, k)).map oneD ++ [.tup [.int ((ps.map D.str).length : Nat), .int 0]] = (ones ps).map oneD := by
        unfold ones
        rw [List.map_append, pairI_length, List.length_map]
        rfl
      repeat' fail
      refine st_addCO rfl (sz ?_) ?_
      · rw [← List.length_append, e]; omega
      rw [e]
      have nc := noCs_map oneD noC_one (ones ps)
      repeat' fail
      exact q

abbrev N_need_lists : List Str := ["lists", "size", "pieces"]
theorem sc_need_lists : FnScope N_need_lists ["lists"] (defScope (topS 23)) := ⟨rfl, rfl, rfl, by decide +kernel, rfl, by decide +kernel, by decide +kernel⟩
def S_need_lists (_ : Str → Addr) : DSp := fun ds μ Q _ => ∃ L : PL, ds = [.lst (L.map pcD)] ∧ μ = [] ∧ PcL L ∧ L.length ≤ 3 ∧ sizeA L ≤ 1000 ∧ Q .non []
theorem u_need_lists {C : Str → Addr} {L : PL} {Q : DQ} {E : FE} (h : PcL L) (hl : L.length ≤ 3 ∧ sizeA L ≤ 1000) (q : Q .non []) : S_need_lists C [.lst (L.map pcD)] [] Q E := ⟨L, rfl, rfl, h, hl.1, hl.2, q⟩
set_option hygiene false in
local macro_rules | `(tactic| array_get_dec) => `(tactic| ((with_reducible apply u_need_lists); (assumption); (omega)))
theorem sizeA_take {L : PL} {i : Nat} {ps : List (List Nat)} (h : L[i]? = some ps) : sizeA (L.take (i + 1)) = sizeA (L.take i) * (ones ps).length := by
  rw [show L.take (i + 1) = L.take i ++ [ps] by rw [List.take_add_one, h]; rfl, sizeA_snoc]
theorem sizeA_le : ∀ (j : Nat) (L : PL) (i : Nat), i + j = L.length → sizeA (L.take i) ≤ sizeA L
  | 0, L, i, h => by rw [List.take_of_length_le (by omega)]; exact Nat.le_refl _
  | j + 1, L, i, h => by
    have := sizeA_le j L (i + 1) (by omega)
    rw [sizeA_take (List.getElem?_eq_getElem (show i < L.length by omega)), ones_len] at this
    have h2 : sizeA (L.take i) ≤ sizeA (L.take i) * ((L[i]).flatten.length + 1) := Nat.le_mul_of_pos_right _ (Nat.succ_pos _)
    omega
theorem ok_need_lists {P : Program} {w : World} {K : PySem.W.Frag} {mg : Str → Option Value} {base : Heap} {C : Str → Addr} (SB : SmB K mg base) (T : Txt K mg C) : Fd P w K mg base "need_lists" 3 (S_need_lists C) := by
  have D_stands_of := ok_stands_of (P := P) (w := w) (base := base) SB T
  have D_is_pieces := ok_is_pieces (P := P) (w := w) (base := base) SB T
  refine fd_mk T.f_need_lists sc_need_lists ?len (fun f cdv A outer s H E hr tk po => ⟨_, (ws_cons (ws_if (wt_bool (ww_or (wt_not (wt_val (we_callB ld_isi rfl T.n_isinstance (by decide +kernel) (wa_cons (we_var 0) (wa_cons (we_bty (n := "list") T.n_list (by decide +kernel)) wa_nil))))) (ww_or1 (wt_cmp cd_gt (we_callB ld_len rfl T.n_len (by decide +kernel) (wa_cons (we_var 0) wa_nil)) (we_globI rfl T.g_MOST_LISTS)))))
  (ws_one (ws_raise T.x_NoPieces tk))
  ws_nil)
  (ws_cons (ws_if (wt_cmp (cd_neN hr.units) (we_lc finF_ok [("pieces", 2)] sc_need_lists.nd (wi_any (we_var 0)) (blkOk_by (own := [("pieces", 2)]) (N := N_need_lists) (sc := defScope (topS 23)) (by decide +kernel))
  (fun _ _ _ _ _ => (wg_name 2 sc_need_lists.nd)) (fun _ _ _ _ _ => (wts_one (wt_not (wt_val (we_call callP_ok D_is_pieces (hr.mono (by decide)) takesB (wa_cons (we_var 2) wa_nil)))))) (fun _ _ _ _ _ => (we_var 2))) (we_lst wa_nil))
  (ws_one (ws_raise T.x_NoPieces tk))
  ws_nil)
  (ws_cons (ws_set 1 sc_need_lists.nd we_int)
  (ws_cons (ws_for po (wi_any (we_var 0)) (wg_name 2 sc_need_lists.nd)
  (ws_one (ws_set 1 sc_need_lists.nd (we_bin (bd_mul outF_ok) (we_var 1) (we_callB ld_len rfl T.n_len (by decide +kernel) (wa_cons (we_call callP_ok D_stands_of (hr.mono (by decide)) tk (wa_cons (we_var 2) wa_nil)) wa_nil))))))
  (ws_one (ws_if (wt_cmp cd_gt (we_var 1) (we_globI rfl T.g_MOST_STANDS))
  (ws_one (ws_raise T.x_TooMany tk))
  ws_nil)))))), ?body⟩)
  case' body => clear tk po hr E H s outer A cdv f
  case len => rintro _ _ _ _ ⟨_, rfl, _⟩; rfl
  case body =>
    rintro ds μ Q E' ⟨L, rfl, rfl, hp, hl, hz, q⟩
    have ll : (L.map pcD).length ≤ 3 := by rw [List.length_map]; exact hl
    repeat' fail
    refine lc_of pcD (fun _ => false) pcD (sz (by omega)) ?_ ?_
    · intro j ps hj KA KF g1 g2
      have h1 := hp ps (List.mem_of_getElem? hj)
      have h2 := h1.lok
      have h3 := h1.is
      repeat' fail
      all_goals first | exact g2 rfl | (exfalso; simp_all)
    rw [show L.filter (fun _ => false) = [] by simp]
    repeat' fail
    refine ⟨fun i (δ : DS) (μ : Mu) => ∃ d2, δ = [some (.lst (L.map pcD)), some (.int (sizeA (L.take i) : Nat)), d2] ∧ μ = [], ⟨_, rfl, rfl⟩, ?_, ?_⟩
    · rintro i d δ μ hd ⟨d2, rfl, rfl⟩
      rw [List.getElem?_map] at hd
      obtain ⟨ps, hi, rfl⟩ := Option.map_eq_some_iff.mp hd
      have h1 := hp ps (List.mem_of_getElem? hi)
      have hlt := (List.getElem?_eq_some_iff.mp hi).1
      have b1 := sizeA_le _ L i (show i + (L.length - i) = L.length by omega)
      have b2 := h1.2
      have b3 := ones_len ps
      have b4 : ((ones ps).map oneD).length ≤ 41 := by rw [List.length_map]; omega
      have b5 := noCs_map oneD noC_one (ones ps)
      have e : ((sizeA (L.take i) : Nat) : Int) * (((ones ps).map oneD).length : Nat) = ((sizeA (L.take (i + 1)) : Nat) : Int) := by rw [sizeA_take hi, List.length_map]; exact (Int.natCast_mul _ _).symm
      repeat' fail
      exact ⟨_, by rw [← e], rfl⟩
    · rintro δ μ ⟨d2, rfl, rfl⟩
      have e : L.take (L.map pcD).length = L := by rw [List.length_map, List.take_length]
      rw [e]
      repeat' fail
      exact q

abbrev N_one_behind : List Str := ["pieces", "stand", "sign", "done", "part", "text"]
theorem sc_one_behind : FnScope N_one_behind ["pieces", "stand", "sign"] (defScope (topS 24)) := ⟨rfl, rfl, rfl, by decide +kernel, rfl, by decide +kernel, by decide +kernel⟩
def S_one_behind (_ : Str → Addr) : DSp := fun ds μ Q _ => ∃ (ps : List (List Nat)) (f : Nat × Nat) (c : Nat), ds = [pcD ps, oneD f, .str [c]] ∧ μ = [] ∧ Pcs ps ∧ okOne ps f ∧ Q (oneD (stepFar ps f c)) []
theorem u_one_behind {C : Str → Addr} {ps : List (List Nat)} {f : Nat × Nat} {c : Nat} {Q : DQ} {E : FE} (h : Pcs ps) (hf : okOne ps f) (q : Q (oneD (stepFar ps f c)) []) : S_one_behind C [.lst (ps.map .str), oneD f, .str [c]] [] Q E := ⟨ps, f, c, rfl, rfl, h, hf, q⟩
set_option hygiene false in
local macro_rules | `(tactic| array_get_dec) => `(tactic| ((with_reducible apply u_one_behind); (assumption); (assumption)))
theorem ok_one_behind {P : Program} {w : World} {K : PySem.W.Frag} {mg : Str → Option Value} {base : Heap} {C : Str → Addr} (SB : SmB K mg base) (T : Txt K mg C) : Fd P w K mg base "one_behind" 2 (S_one_behind C) := by
  have D_part_at_end := ok_part_at_end (P := P) (w := w) (base := base) SB T
  refine fd_mk T.f_one_behind sc_one_behind ?len (fun f cdv A outer s H E hr tk po => ⟨_, (ws_cons (ws_asg (we_var 1) (wg_tup (n := 2) (wgs_cons (wg_name 3 sc_one_behind.nd) (wgs_cons (wg_name 4 sc_one_behind.nd) wgs_nil))))
  (ws_cons (ws_if (wt_cmp (cd_eq hr.units) (we_var 3) (we_callB ld_len rfl T.n_len (by decide +kernel) (wa_cons (we_var 0) wa_nil)))
  (ws_one (ws_ret (we_var 1)))
  ws_nil)
  (ws_cons (ws_set 5 sc_one_behind.nd (we_bin (bd_add outF_ok) (we_cut outF_ok (we_ix id_ix (we_var 0) (we_var 3)) wp_none (wp_some (we_var 4))) (we_var 2)))
  (ws_cons (ws_if (wt_cmp (cd_eq hr.units) (we_var 5) (we_ix id_ix (we_var 0) (we_var 3)))
  (ws_one (ws_ret (we_tup (wa_cons (we_bin (bd_add outF_ok) (we_var 3) we_int) (wa_cons we_int wa_nil)))))
  ws_nil)
  (ws_one (ws_ret (we_tup (wa_cons (we_var 3) (wa_cons (we_call callP_ok D_part_at_end (hr.mono (by decide)) tk (wa_cons (we_var 5) (wa_cons (we_ix id_ix (we_var 0) (we_var 3)) wa_nil))) wa_nil))))))))), ?body⟩)
  case' body => clear tk po hr E H s outer A cdv f
  case len => rintro _ _ _ _ ⟨_, _, _, rfl, _⟩; rfl
  case body =>
    rintro ds μ Q E' ⟨ps, ⟨d, p⟩, c, rfl, rfl, hp, hf, q⟩
    have hpl := hp.len
    have lps : (ps.map D.str).length = ps.length := List.length_map _
    unfold oneD
    repeat' fail
    · have e : stepFar ps (d, p) c = (d, p) := by unfold stepFar; rw [if_pos (by dsimp only; omega)]
      rw [e] at q
      exact q
    obtain ⟨h1, h2⟩ : d < ps.length ∧ p < (ps.getD d []).length := by
      rcases hf with h | h
      · exact h
      · injection h with h _
        exact absurd (by rw [h, lps]) hb
    have hg : ps[d]? = some (ps.getD d []) := by rw [List.getD_eq_getElem?_getD, List.getElem?_eq_getElem h1]; rfl
    have ha : (ps.map D.str)[d]? = some (.str (ps.getD d [])) := by rw [List.getElem?_map, hg]; rfl
    obtain ⟨ht, hne, hl⟩ := hp.mem (List.mem_of_getElem? hg)
    have hc : cutL (ps.getD d []) none (some (p : Int)) = (ps.getD d []).take p := by rw [cutL_to _ (by omega)]; rfl
    refine st_ixL (d := .str (ps.getD d [])) rfl rfl (atI_of (j := d) rfl ha) ?_
    have l1 : (cutL (ps.getD d []) none (some (p : Int))).length + [c].length ≤ sizeLine := by rw [hc, List.length_take]; exact sz (by simp only [List.length_singleton]; omega)
    repeat' fail
    refine st_ixL (d := .str (ps.getD d [])) rfl rfl (atI_of (j := d) rfl ha) ?_
    rw [hc]
    have l2 : ((ps.getD d []).take p ++ [c]).length ≤ 1000 := by rw [List.length_append, List.length_take, List.length_singleton]; omega
    by_cases e : (ps.getD d []).take p ++ [c] = ps.getD d []
    · have es : stepFar ps (d, p) c = (d + 1, 0) := by unfold stepFar; dsimp only; rw [if_neg (by omega), if_pos e]
      rw [es] at q
      rw [e]
      repeat' fail
      exact q
    · have es : stepFar ps (d, p) c = (d, partE ((ps.getD d []).take p ++ [c]) (ps.getD d [])) := by unfold stepFar; dsimp only; rw [if_neg (by omega), if_neg e]
      rw [es] at q
      repeat' fail
      refine st_ixL (d := .str (ps.getD d [])) rfl rfl (atI_of (j := d) rfl ha) ?_
      have l3 : (ps.getD d []).length ≤ 1000 := by omega
      repeat' fail
      exact q

abbrev N_all_behind : List Str := ["lists", "stand", "sign", "pieces", "one"]
theorem sc_all_behind : FnScope N_all_behind ["lists", "stand", "sign"] (defScope (topS 25)) := ⟨rfl, rfl, rfl, by decide +kernel, rfl, by decide +kernel, by decide +kernel⟩
def S_all_behind (_ : Str → Addr) : DSp := fun ds μ Q _ => ∃ (L : PL) (s : Stand) (c : Nat), ds = [.lst (L.map pcD), stD s, .str [c]] ∧ μ = [] ∧ PcL L ∧ L.length ≤ 3 ∧ okSt L s ∧ Q (stD (stepA L s c)) []
theorem u_all_behind {C : Str → Addr} {L : PL} {s : Stand} {c : Nat} {Q : DQ} {E : FE} (h : PcL L) (hl : L.length ≤ 3) (hs : okSt L s) (q : Q (stD (stepA L s c)) []) : S_all_behind C [.lst (L.map pcD), stD s, .str [c]] [] Q E := ⟨L, s, c, rfl, rfl, h, hl, hs, q⟩
set_option hygiene false in
local macro_rules | `(tactic| array_get_dec) => `(tactic| ((with_reducible apply u_all_behind); (assumption); (assumption); (assumption)))
theorem pairZ_map {α β : Type} (f : α → D) (g : β → D) (a : List α) (b : List β) (h : a.length = b.length) : pairZ (a.map f) (b.map g) = (a.zip b).map fun x => .tup [f x.1, g x.2] := by
  unfold pairZ
  rw [List.length_map, List.length_map, ← h, Nat.min_self]
  apply List.ext_getElem?
  intro i
  rw [List.getElem?_map, List.getElem?_map]
  by_cases hi : i < a.length
  · have hb : i < b.length := by omega
    rw [List.getElem?_range hi, (List.getElem?_zip_eq_some (z := (a[i], b[i]))).mpr ⟨List.getElem?_eq_getElem hi, List.getElem?_eq_getElem hb⟩]
    simp only [Option.map_some]
    rw [List.getD_eq_getElem?_getD, List.getD_eq_getElem?_getD, List.getElem?_map, List.getElem?_map, List.getElem?_eq_getElem hi, List.getElem?_eq_getElem hb]
    rfl
  · rw [List.getElem?_eq_none (by rw [List.length_range]; omega), List.getElem?_eq_none (by rw [List.length_zip]; omega)]
    rfl
theorem zip_step (c : Nat) : ∀ (L : PL) (s : Stand), (L.zip s).map (fun x => oneD (stepFar x.1 x.2 c)) = (stepA L s c).map oneD
  | [], _ => rfl
  | _ :: _, [] => rfl
  | ps :: L, f :: s => by
    show oneD (stepFar ps f c) :: (L.zip s).map _ = oneD (stepFar ps f c) :: (stepA L s c).map oneD
    rw [zip_step c L s]
theorem stepA_len {L : PL} {s : Stand} (h : s.length = L.length) (c : Nat) : (stepA L s c).length = L.length := by unfold stepA; rw [List.length_zipWith, h, Nat.min_self]
theorem ok_all_behind {P : Program} {w : World} {K : PySem.W.Frag} {mg : Str → Option Value} {base : Heap} {C : Str → Addr} (SB : SmB K mg base) (T : Txt K mg C) : Fd P w K mg base "all_behind" 3 (S_all_behind C) := by
  have D_one_behind := ok_one_behind (P := P) (w := w) (base := base) SB T
  refine fd_mk T.f_all_behind sc_all_behind ?len (fun f cdv A outer s H E hr tk po => ⟨_, (ws_one (ws_ret (we_callTy ld_tupA rfl T.n_tuple (by decide +kernel) (wa_cons (we_lc finF_ok [("pieces", 3), ("one", 4)] sc_all_behind.nd (wi_zip T.n_zip (wa_cons (we_var 0) (wa_cons (we_var 1) wa_nil))) (blkOk_by (own := [("pieces", 3), ("one", 4)]) (N := N_all_behind) (sc := defScope (topS 25)) (by decide +kernel))
  (fun _ _ _ _ _ => (wg_tup (n := 2) (wgs_cons (wg_name 3 sc_all_behind.nd) (wgs_cons (wg_name 4 sc_all_behind.nd) wgs_nil)))) (fun _ _ _ _ _ => wts_nil) (fun _ _ _ _ _ => (we_call callP_ok D_one_behind (hr.mono (by decide)) takesB (wa_cons (we_var 3) (wa_cons (we_var 4) (wa_cons (we_var 2) wa_nil)))))) wa_nil)))), ?body⟩)
  case' body => clear tk po hr E H s outer A cdv f
  case len => rintro _ _ _ _ ⟨_, _, _, rfl, _⟩; rfl
  case body =>
    rintro ds μ Q E' ⟨L, s, c, rfl, rfl, hp, hl, hs, q⟩
    have nL := noC_pcs L
    unfold stD at q ⊢
    repeat' fail
    rw [pairZ_map pcD oneD L s hs.1.symm]
    refine lc_of (fun x : List (List Nat) × (Nat × Nat) => .tup [pcD x.1, oneD x.2]) (fun _ => true) (fun x => oneD (stepFar x.1 x.2 c)) (sz (by rw [List.length_zip]; omega)) ?_ ?_
    · rintro j ⟨ps, f⟩ hj KA KF g1 g2
      have hm := List.mem_of_getElem? hj
      have h1 : Pcs ps := hp ps (List.of_mem_zip hm).1
      have h2 : okOne ps f := hs.2 _ hm
      have h3 := noC_one f
      repeat' fail
      exact g1 rfl
    rw [show List.filter (fun _ => true) (L.zip s) = L.zip s from List.filter_eq_self.mpr fun _ _ => rfl, zip_step]
    have nc := noCs_map oneD noC_one (stepA L s c)
    have ls : ((stepA L s c).map oneD).length ≤ 3 := by rw [List.length_map, stepA_len hs.1]; exact hl
    repeat' fail
    exact q

abbrev N_all_stands : List Str := ["lists", "found", "pieces", "longer", "stand", "one"]
theorem sc_all_stands : FnScope N_all_stands ["lists"] (defScope (topS 26)) := ⟨rfl, rfl, rfl, by decide +kernel, rfl, by decide +kernel, by decide +kernel⟩
def S_all_stands (_ : Str → Addr) : DSp := fun ds μ Q _ => ∃ L : PL, ds = [.lst (L.map pcD)] ∧ μ = [] ∧ PcL L ∧ L.length ≤ 3 ∧ sizeA L ≤ 1000 ∧ Q (.lst ((allA L).map stD)) []
theorem u_all_stands {C : Str → Addr} {L : PL} {Q : DQ} {E : FE} (h : PcL L) (hl : L.length ≤ 3 ∧ sizeA L ≤ 1000) (q : Q (.lst ((allA L).map stD)) []) : S_all_stands C [.lst (L.map pcD)] [] Q E := ⟨L, rfl, rfl, h, hl.1, hl.2, q⟩
set_option hygiene false in
local macro_rules | `(tactic| array_get_dec) => `(tactic| ((with_reducible apply u_all_stands); (assumption); (omega)))
theorem ok_all_stands {P : Program} {w : World} {K : PySem.W.Frag} {mg : Str → Option Value} {base : Heap} {C : Str → Addr} (SB : SmB K mg base) (T : Txt K mg C) : Fd P w K mg base "all_stands" 2 (S_all_stands C) := by
  have D_stands_of := ok_stands_of (P := P) (w := w) (base := base) SB T
  refine fd_mk T.f_all_stands sc_all_stands ?len (fun f cdv A outer s H E hr tk po => ⟨_, (ws_cons (ws_set 1 sc_all_stands.nd (we_lst (wa_cons (we_tup wa_nil) wa_nil)))
  (ws_cons (ws_for po (wi_any (we_var 0)) (wg_name 2 sc_all_stands.nd)
  (ws_cons (ws_set 3 sc_all_stands.nd (we_lstC wa_nil))
  (ws_cons (ws_for po (wi_any (we_var 1)) (wg_name 4 sc_all_stands.nd)
  (ws_one (ws_drop (we_bm .lst md_extend PySem.F.plainAttrs_list PySem.F.slot_list_extend PySem.F.type_list_extend (we_var 3) (wa_cons (we_lc finF_ok [("one", 5)] sc_all_stands.nd (wi_any (we_call callP_ok D_stands_of (hr.mono (by decide)) tk (wa_cons (we_var 2) wa_nil))) (blkOk_by (own := [("one", 5)]) (N := N_all_stands) (sc := defScope (topS 26)) (by decide +kernel))
  (fun _ _ _ _ _ => (wg_name 5 sc_all_stands.nd)) (fun _ _ _ _ _ => wts_nil) (fun _ _ _ _ _ => (we_bin (bd_add outF_ok) (we_var 4) (we_tup (wa_cons (we_var 5) wa_nil))))) wa_nil)))))
  (ws_one (ws_set 1 sc_all_stands.nd (we_frz (we_var 3)))))))
  (ws_one (ws_ret (we_var 1))))), ?body⟩)
  case' body => clear tk po hr E H s outer A cdv f
  case len => rintro _ _ _ _ ⟨_, rfl, _⟩; rfl
  case body =>
    rintro ds μ Q E' ⟨L, rfl, rfl, hp, hl, hz, q⟩
    repeat' fail
    refine ⟨fun i (δ : DS) (μ : Mu) => ∃ d2 d3 d4 d5, δ = [some (.lst (L.map pcD)), some (.lst ((allA (L.take i)).map stD)), d2, d3, d4, d5] ∧ noCM μ = true, ⟨_, _, _, _, rfl, rfl⟩, ?_, ?_⟩
    · rintro i d δ μ hd ⟨d2, d3, d4, d5, rfl, hμ⟩
      rw [List.getElem?_map] at hd
      obtain ⟨ps, hi, rfl⟩ := Option.map_eq_some_iff.mp hd
      have h1 := hp ps (List.mem_of_getElem? hi)
      have hlt := (List.getElem?_eq_some_iff.mp hi).1
      have nc := noCs_map oneD noC_one (ones ps)
      have lo : (ones ps).length ≤ 41 := by rw [ones_len]; have := h1.2; omega
      have es : L.take (i + 1) = L.take i ++ [ps] := by rw [List.take_add_one, hi]; rfl
      have hsz : (allA (L.take i)).length * (ones ps).length ≤ 1000 := by
        have := sizeA_le _ L (i + 1) (show i + 1 + (L.length - (i + 1)) = L.length by omega)
        rw [es, sizeA_snoc] at this
        unfold sizeA at this hz
        omega
      repeat' fail
      refine ⟨fun t (δ : DS) (μ' : Mu) => ∃ d4 d5, δ = [some (.lst (L.map pcD)), some (.lst ((allA (L.take i)).map stD)), some (pcD ps), some (.cell μ.length), d4, d5] ∧ μ' = μ ++ [.lst ((((allA (L.take i)).take t).flatMap fun s => (ones ps).map fun f => s ++ [f]).map stD)], ⟨_, _, rfl, rfl⟩, ?_, ?_⟩
      · rintro t d δ μ' hd ⟨d4, d5, rfl, rfl⟩
        rw [List.getElem?_map] at hd
        obtain ⟨s, hs, rfl⟩ := Option.map_eq_some_iff.mp hd
        have hsl := (mem_allA.mp (List.mem_of_getElem? hs)).1
        rw [List.length_take] at hsl
        repeat' fail
        have l1 : (s.map oneD).length ≤ 3 := by rw [List.length_map]; omega
        have lfm : (((allA (L.take i)).take t).flatMap fun s => (ones ps).map fun f => s ++ [f]).length ≤ 1000 := by
          rw [flatMap_const _ (ones ps).length _ fun s _ => List.length_map _, List.length_take]
          exact Nat.le_trans (Nat.mul_le_mul_right _ (Nat.min_le_right _ _)) hsz
        refine lc_of oneD (fun _ => true) (fun f => stD (s ++ [f])) (sz (by omega)) ?_ ?_
        · intro j f hj KA KF g1 g2
          have g1 := g1 rfl
          unfold stD at g1 ⊢
          rw [List.map_append] at g1
          repeat' fail
          exact g1
        rw [show List.filter (fun _ => true) (ones ps) = ones ps from List.filter_eq_self.mpr fun _ _ => rfl]
        refine st_finF ?_
        have l2 := sz (n := ((((allA (L.take i)).take t).flatMap fun s => (ones ps).map fun f => s ++ [f]).map stD).length + ((ones ps).map fun f => stD (s ++ [f])).length) (by rw [List.length_map, List.length_map]; omega)
        repeat' fail
        refine ⟨_, _, rfl, ?_⟩
        rw [List.take_add_one, hs, List.flatMap_append, List.map_append]
        simp [List.map_map, Function.comp_def]
      · rintro δ μ' ⟨d4, d5, rfl, rfl⟩
        rw [List.length_map, List.take_length]
        rw [← allA_snoc, ← es]
        have nB := noCs_st (allA (L.take (i + 1)))
        repeat' fail
        exact ⟨_, _, _, _, rfl, by rw [List.set_append_right _ _ (Nat.le_refl _), Nat.sub_self]; exact noCM_app hμ rfl⟩
    · rintro δ μ ⟨d2, d3, d4, d5, rfl, hμ⟩
      rw [List.length_map, List.take_length]
      have nA := noCs_st (allA L)
      repeat' fail
      exact q

abbrev N_first_stand : List Str := ["lists", "pieces"]
theorem sc_first_stand : FnScope N_first_stand ["lists"] (defScope (topS 27)) := ⟨rfl, rfl, rfl, by decide +kernel, rfl, by decide +kernel, by decide +kernel⟩
def S_first_stand (_ : Str → Addr) : DSp := fun ds μ Q _ => ∃ L : PL, ds = [.lst (L.map pcD)] ∧ μ = [] ∧ PcL L ∧ L.length ≤ 3 ∧ Q (stD (firstA L)) []
theorem u_first_stand {C : Str → Addr} {L : PL} {Q : DQ} {E : FE} (h : PcL L) (hl : L.length ≤ 3) (q : Q (stD (firstA L)) []) : S_first_stand C [.lst (L.map pcD)] [] Q E := ⟨L, rfl, rfl, h, hl, q⟩
set_option hygiene false in
local macro_rules | `(tactic| array_get_dec) => `(tactic| ((with_reducible apply u_first_stand); (assumption); (assumption)))
theorem ok_first_stand {P : Program} {w : World} {K : PySem.W.Frag} {mg : Str → Option Value} {base : Heap} {C : Str → Addr} (SB : SmB K mg base) (T : Txt K mg C) : Fd P w K mg base "first_stand" 2 (S_first_stand C) := by
  have D_stands_of := ok_stands_of (P := P) (w := w) (base := base) SB T
  refine fd_mk T.f_first_stand sc_first_stand ?len (fun f cdv A outer s H E hr tk po => ⟨_, (ws_one (ws_ret (we_callTy ld_tupA rfl T.n_tuple (by decide +kernel) (wa_cons (we_lc finF_ok [("pieces", 1)] sc_first_stand.nd (wi_any (we_var 0)) (blkOk_by (own := [("pieces", 1)]) (N := N_first_stand) (sc := defScope (topS 27)) (by decide +kernel))
  (fun _ _ _ _ _ => (wg_name 1 sc_first_stand.nd)) (fun _ _ _ _ _ => wts_nil) (fun _ _ _ _ _ => (we_ix id_ix (we_call callP_ok D_stands_of (hr.mono (by decide)) takesB (wa_cons (we_var 1) wa_nil)) we_int))) wa_nil)))), ?body⟩)
  case' body => clear tk po hr E H s outer A cdv f
  case len => rintro _ _ _ _ ⟨_, rfl, _⟩; rfl
  case body =>
    rintro ds μ Q E' ⟨L, rfl, rfl, hp, hl, q⟩
    repeat' fail
    refine lc_of pcD (fun _ => true) (fun ps => oneD (0, 0)) (sz (by omega)) ?_ ?_
    · intro j ps hj KA KF g1 g2
      have h1 := hp ps (List.mem_of_getElem? hj)
      have nc := noCs_map oneD noC_one (ones ps)
      have h2 : ((ones ps).map oneD)[0]? = some (oneD (0, 0)) := by rw [List.getElem?_map, ones_first fun t ht => (h1.1 t ht).2]; rfl
      repeat' fail
      refine st_ixL (d := oneD (0, 0)) rfl rfl (atI_of (j := 0) rfl h2) ?_
      repeat' fail
      exact g1 rfl
    rw [show List.filter (fun _ => true) L = L from List.filter_eq_self.mpr fun _ _ => rfl]
    have e : (L.map fun ps => oneD (0, 0)) = (firstA L).map oneD := by unfold firstA; rw [List.map_map]; rfl
    rw [e]
    have nc := noCs_map oneD noC_one (firstA L)
    have ls : ((firstA L).map oneD).length ≤ 3 := by unfold firstA; rw [List.length_map, List.length_map]; exact hl
    repeat' fail
    exact q

abbrev N_last_stand : List Str := ["lists", "pieces"]
theorem sc_last_stand : FnScope N_last_stand ["lists"] (defScope (topS 28)) := ⟨rfl, rfl, rfl, by decide +kernel, rfl, by decide +kernel, by decide +kernel⟩
def S_last_stand (_ : Str → Addr) : DSp := fun ds μ Q _ => ∃ L : PL, ds = [.lst (L.map pcD)] ∧ μ = [] ∧ PcL L ∧ L.length ≤ 3 ∧ Q (stD (lastA L)) []
theorem u_last_stand {C : Str → Addr} {L : PL} {Q : DQ} {E : FE} (h : PcL L) (hl : L.length ≤ 3) (q : Q (stD (lastA L)) []) : S_last_stand C [.lst (L.map pcD)] [] Q E := ⟨L, rfl, rfl, h, hl, q⟩
set_option hygiene false in
local macro_rules | `(tactic| array_get_dec) => `(tactic| ((with_reducible apply u_last_stand); (assumption); (assumption)))
theorem ok_last_stand {P : Program} {w : World} {K : PySem.W.Frag} {mg : Str → Option Value} {base : Heap} {C : Str → Addr} (SB : SmB K mg base) (T : Txt K mg C) : Fd P w K mg base "last_stand" 1 (S_last_stand C) := by
  refine fd_mk T.f_last_stand sc_last_stand ?len (fun f cdv A outer s H E hr tk po => ⟨_, (ws_one (ws_ret (we_callTy ld_tupA rfl T.n_tuple (by decide +kernel) (wa_cons (we_lc finF_ok [("pieces", 1)] sc_last_stand.nd (wi_any (we_var 0)) (blkOk_by (own := [("pieces", 1)]) (N := N_last_stand) (sc := defScope (topS 28)) (by decide +kernel))
  (fun _ _ _ _ _ => (wg_name 1 sc_last_stand.nd)) (fun _ _ _ _ _ => wts_nil) (fun _ _ _ _ _ => (we_tup (wa_cons (we_callB ld_len rfl T.n_len (by decide +kernel) (wa_cons (we_var 1) wa_nil)) (wa_cons we_int wa_nil))))) wa_nil)))), ?body⟩)
  case' body => clear tk po hr E H s outer A cdv f
  case len => rintro _ _ _ _ ⟨_, rfl, _⟩; rfl
  case body =>
    rintro ds μ Q E' ⟨L, rfl, rfl, hp, hl, q⟩
    repeat' fail
    refine lc_of pcD (fun _ => true) (fun ps => oneD (ps.length, 0)) (sz (by omega)) ?_ ?_
    · intro j ps hj KA KF g1 g2
      have lp : (ps.map D.str).length = ps.length := List.length_map _
      have g1 := g1 rfl
      unfold oneD at g1
      dsimp only at g1
      rw [← lp] at g1
      repeat' fail
      exact g1
    rw [show List.filter (fun _ => true) L = L from List.filter_eq_self.mpr fun _ _ => rfl]
    have e : (L.map fun ps => oneD (ps.length, 0)) = (lastA L).map oneD := by unfold lastA; rw [List.map_map]; rfl
    rw [e]
    have nc := noCs_map oneD noC_one (lastA L)
    have ls : ((lastA L).map oneD).length ≤ 3 := by unfold lastA; rw [List.length_map, List.length_map]; exact hl
    repeat' fail
    exact q

abbrev N_led_from : List Str := ["lists", "found", "stand", "sign", "there"]
theorem sc_led_from : FnScope N_led_from ["lists"] (defScope (topS 29)) := ⟨rfl, rfl, rfl, by decide +kernel, rfl, by decide +kernel, by decide +kernel⟩
def S_led_from (w : World) (_ : Str → Addr) : DSp := fun ds μ Q _ => ∃ L : PL, ds = [.lst (L.map pcD)] ∧ μ = [] ∧ PcL L ∧ L.length ≤ 3 ∧ sizeA L ≤ 1000 ∧ Q (.dcn w ((allA L).map kS) (((allA L).map fun x => (behL L x).map stD).map .lst)) []
theorem u_led_from {w : World} {C : Str → Addr} {L : PL} {Q : DQ} {E : FE} (h : PcL L) (hl : L.length ≤ 3 ∧ sizeA L ≤ 1000) (q : Q (.dcn w ((allA L).map kS) (((allA L).map fun x => (behL L x).map stD).map .lst)) []) : S_led_from w C [.lst (L.map pcD)] [] Q E := ⟨L, rfl, rfl, h, hl.1, hl.2, q⟩
set_option hygiene false in
local macro_rules | `(tactic| array_get_dec) => `(tactic| ((with_reducible apply u_led_from); (assumption); (omega)))
theorem ok_led_from {P : Program} {w : World} {K : PySem.W.Frag} {mg : Str → Option Value} {base : Heap} {C : Str → Addr} (SB : SmB K mg base) (T : Txt K mg C) : Fd P w K mg base "led_from" 4 (S_led_from w C) := by
  have D_all_stands := ok_all_stands (P := P) (w := w) (base := base) SB T
  have D_all_behind := ok_all_behind (P := P) (w := w) (base := base) SB T
  refine fd_mk T.f_led_from sc_led_from ?len (fun f cdv A outer s H E hr tk po => ⟨_, (ws_cons (ws_set 1 sc_led_from.nd (we_callTy (ld_dictW (w := w) rfl (u16 hr.units)) rfl T.n_dict (by decide +kernel) (wa_cons (we_lc finF_ok [("stand", 2)] sc_led_from.nd (wi_any (we_call callP_ok D_all_stands (hr.mono (by decide)) tk (wa_cons (we_var 0) wa_nil))) (blkOk_by (own := [("stand", 2)]) (N := N_led_from) (sc := defScope (topS 29)) (by decide +kernel))
  (fun _ _ _ _ _ => (wg_name 2 sc_led_from.nd)) (fun _ _ _ _ _ => wts_nil) (fun _ _ _ _ _ => (we_tup (wa_cons (we_var 2) (wa_cons (we_lstC wa_nil) wa_nil))))) wa_nil)))
  (ws_cons (ws_for po (wi_any (we_call callP_ok D_all_stands (hr.mono (by decide)) tk (wa_cons (we_var 0) wa_nil))) (wg_name 2 sc_led_from.nd)
  (ws_one (ws_for po (wi_any (we_globS rfl T.g_LETTERS)) (wg_name 3 sc_led_from.nd)
  (ws_cons (ws_set 4 sc_led_from.nd (we_call callP_ok D_all_behind (hr.mono (by decide)) tk (wa_cons (we_var 0) (wa_cons (we_var 2) (wa_cons (we_var 3) wa_nil)))))
  (ws_one (ws_if (wt_cmp (cd_ne hr.units) (we_var 4) (we_var 2))
  (ws_one (ws_drop (we_bm .lst md_append PySem.F.plainAttrs_list PySem.F.slot_list_append PySem.F.type_list_append (we_ixW (w := w) rfl (u16 hr.units) (we_var 1) (we_var 4)) (wa_cons (we_var 2) wa_nil))))
  ws_nil))))))
  (ws_one (ws_ret (we_frzM w (we_var 1)))))), ?body⟩)
  case' body => clear tk po hr E H s outer A cdv f
  case len => rintro _ _ _ _ ⟨_, rfl, _⟩; rfl
  case body =>
    rintro ds μ Q E' ⟨L, rfl, rfl, hp, hl, hz, q⟩
    have nd := allA_nodup L
    have nL := noC_pcs L
    have nS := noCs_st (allA L)
    have hzl : (allA L).length ≤ 1000 := hz
    repeat' fail
    refine ⟨fun i acc (μ : Mu) => acc = ((allA L).take i).map (fun s => D.tup [stD s, .cell (plc s (allA L))]) ∧ μ = List.replicate i (MO.lst []), ⟨rfl, rfl⟩, ?_, ?_⟩
    · rintro i d acc μ hd ⟨rfl, rfl⟩
      rw [List.getElem?_map] at hd
      obtain ⟨s, hs, rfl⟩ := Option.map_eq_some_iff.mp hd
      have hi := (List.getElem?_eq_some_iff.mp hs).1
      repeat' fail
      refine ⟨by rw [List.length_map, List.length_take]; exact szl (by omega), ?_, ?_⟩
      · rw [List.take_add_one, hs, List.map_append, List.length_replicate]
        show _ = _ ++ [D.tup [stD s, .cell (plc s (allA L))]]
        rw [plc_get nd hs]
      · rw [List.replicate_succ']
    · rintro acc μ ⟨rfl, rfl⟩
      rw [List.length_map, List.take_length]
      refine st_finF ?_
      repeat' fail
      refine st_dictN ((allA L).map fun s => (stK s, .cell (plc s (allA L)))) ?_ ?_ ?_
      · show some _ = some _
        rw [List.map_map]
        congr 1
        refine List.map_congr_left fun s _ => ?_
        rw [stD_eq]
        rfl
      · intro p hp
        obtain ⟨s, _, rfl⟩ := List.mem_map.mp hp
        exact depth_st s
      have e1 := foldN_mapK (K := stK) (fun _ _ h => kS_inj h) (fun s => D.cell (plc s (allA L))) nd
      have e2 := foldN_map (K := stK) (fun _ _ h => kS_inj h) (fun s => D.cell (plc s (allA L))) (allA L) [] (by simpa using nd)
      rw [e1]
      have e3 : ((allA L).map fun s => (stK s, D.cell (plc s (allA L)))).foldl (fun (a : List NestedKey × List D) p => (putNk (.tup p.1) a.1, putNv (.tup p.1) p.2 a.1 a.2)) ([], []) = ((allA L).map kS, (List.range (allA L).length).map .cell) := by
        refine e2.trans ?_
        rw [← plc_map nd, List.map_map]
        rfl
      rw [e3]
      have e4 : List.replicate (allA L).length (MO.lst []) ++ [MO.dcn w ((allA L).map fun x => NestedKey.tup (stK x)) ((allA L).map kS, (List.range (allA L).length).map D.cell).2] = ledM w (allA L) fun x => behT L ((allA L).take 0) x := by
        unfold ledM
        congr 1
        refine (List.eq_replicate_iff.mpr ⟨by rw [List.length_map], fun b hb => ?_⟩).symm
        obtain ⟨x, _, rfl⟩ := List.mem_map.mp hb
        rfl
      rw [e4, List.length_replicate]
      repeat' fail
      refine ⟨fun i (δ : DS) (μ : Mu) => ∃ (d2 d3 d4 : Option D), δ = [some (.lst (L.map pcD)), some (.cell (allA L).length), d2, d3, d4] ∧ μ = ledM w (allA L) (fun x => behT L ((allA L).take i) x), ⟨_, _, _, rfl, rfl⟩, ?_, ?_⟩
      · rintro i d δ μ hd ⟨d2, d3, d4, rfl, rfl⟩
        rw [List.getElem?_map] at hd
        obtain ⟨s, hs, rfl⟩ := Option.map_eq_some_iff.mp hd
        have hok := mem_allA.mp (List.mem_of_getElem? hs)
        have hi := (List.getElem?_eq_some_iff.mp hs).1
        repeat' fail
        refine ⟨fun j (δ : DS) (μ : Mu) => ∃ (d3 d4 : Option D), δ = [some (.lst (L.map pcD)), some (.cell (allA L).length), some (stD s), d3, d4] ∧ μ = ledM w (allA L) (fun x => behT L ((allA L).take i) x ++ behP L s (AL.take j) x), ⟨_, _, rfl, congrArg (ledM w (allA L)) (funext fun x => (List.append_nil _).symm)⟩, ?_, ?_⟩
        · rintro j d δ μ hd ⟨d3, d4, rfl, rfl⟩
          obtain ⟨c, hc, rfl⟩ := chars_get hd
          have hc : AL[j]? = some c := hc
          have hok2 := stepA_ok hp.rowL.ne hok c
          obtain ⟨k, hk⟩ := List.getElem?_of_mem (mem_allA.mpr hok2)
          have et : AL.take (j + 1) = AL.take j ++ [c] := by rw [List.take_add_one, hc]; rfl
          have nc := noC_st (stepA L s c)
          have ns := noC_st s
          have hkl := (List.getElem?_eq_some_iff.mp hk).1
          repeat' fail
          refine st_neSt ?_
          repeat' fail
          · have hne : ¬ stepA L s c = s := by simpa using hb
            refine st_ixN (stK (stepA L s c)) (dcn_c ledM_last) (stD_eq _) (depth_st _) (led_look nd hk) ?_
            have hcell := ledM_get (w := w) (F := fun x => behT L ((allA L).take i) x ++ behP L s (AL.take j) x) hk
            have lz : ((behT L ((allA L).take i) (stepA L s c) ++ behP L s (AL.take j) (stepA L s c)).map stD).length < sizeLine := by
              have h1 := behT_len L ((allA L).take i) (stepA L s c)
              have h2 := behP_len L s (AL.take j) (stepA L s c)
              rw [List.length_take] at h1 h2
              have h3 := AL_len
              rw [List.length_map, List.length_append]
              exact szl (by omega)
            repeat' fail
            refine ⟨_, _, rfl, ?_⟩
            rw [show (behT L ((allA L).take i) (stepA L s c) ++ behP L s (AL.take j) (stepA L s c)).map stD ++ [stD s] = (behT L ((allA L).take i) (stepA L s c) ++ behP L s (AL.take j) (stepA L s c) ++ [s]).map stD by rw [List.map_append (l₂ := [s])]; rfl, ledM_set nd hk]
            congr 1
            funext x
            rw [et, behP_snoc, ← List.append_assoc]
            by_cases e : x = stepA L s c
            · subst e
              rw [if_pos rfl, if_pos ⟨rfl, hne⟩]
            · rw [if_neg e, if_neg (fun z => e z.1.symm), List.append_nil]
          · have e : stepA L s c = s := by simpa using hb
            refine ⟨_, _, rfl, ?_⟩
            congr 1
            funext x
            rw [et, behP_snoc, if_neg (fun z : stepA L s c = x ∧ x ≠ s => z.2 (z.1.symm.trans e)), List.append_nil]
        · rintro δ μ ⟨d3, d4, rfl, rfl⟩
          rw [show (chars ("abcdefghijklmnopqrstuvwxyz" : Str).cps.toList).length = AL.length from chars_length AL, List.take_length]
          refine ⟨_, _, _, rfl, ?_⟩
          rw [List.take_add_one, hs]
          congr 1
          funext x
          exact (behT_snoc L _ s x).symm
      · rintro δ μ ⟨d2, d3, d4, rfl, rfl⟩
        rw [List.length_map, List.take_length]
        have nB : noCs (((allA L).map fun x => (behL L x).map stD).map D.lst) = true := by rw [List.map_map]; exact noCs_map (fun x => D.lst ((behL L x).map stD)) (fun x => (show noCs ((behL L x).map stD) = true from noCs_st _)) _
        repeat' fail
        refine st_frzM ?_
        repeat' fail
        refine ⟨(allA L).length, (allA L).map kS, List.range (allA L).length, (allA L).map (fun x => (behL L x).map stD), rfl, ledM_last, List.nodup_range, by simp, by simp, fun p k r e1 e2 => ?_, ?_⟩
        · have hp := (List.getElem?_eq_some_iff.mp e1).1
          rw [List.length_range] at hp
          rw [List.getElem?_range hp] at e1
          cases e1
          rw [List.getElem?_map] at e2
          obtain ⟨x, hx, rfl⟩ := Option.map_eq_some_iff.mp e2
          exact ledM_get hx
        · repeat' fail
          exact q

abbrev N_unbroken_paper : List Str := ["lists", "ahead", "line", "paper", "at", "stand"]
theorem sc_unbroken_paper : FnScope N_unbroken_paper ["lists"] (defScope (topS 30)) := ⟨rfl, rfl, rfl, by decide +kernel, rfl, by decide +kernel, by decide +kernel⟩
def S_unbroken_paper (w : World) (_ : Str → Addr) : DSp := fun ds μ Q _ => ∃ L : PL, ds = [.lst (L.map pcD)] ∧ μ = [] ∧ PcL L ∧ L.length ≤ 3 ∧ sizeA L ≤ 1000 ∧ ∀ l, PapL L l → Q (.dcn w (l.map kS) (papU L l)) []
theorem u_unbroken_paper {w : World} {C : Str → Addr} {L : PL} {Q : DQ} {E : FE} (h : PcL L) (hl : L.length ≤ 3 ∧ sizeA L ≤ 1000) (q : ∀ l, PapL L l → Q (.dcn w (l.map kS) (papU L l)) []) : S_unbroken_paper w C [.lst (L.map pcD)] [] Q E := ⟨L, rfl, rfl, h, hl.1, hl.2, q⟩
set_option hygiene false in
local macro_rules | `(tactic| array_get_dec) => `(tactic| ((with_reducible apply u_unbroken_paper); (assumption); (omega)))
theorem papU_noC (L : PL) (l : List Stand) : noCs (papU L l) = true := noCs_map _ (fun _ => rfl) _
theorem ok_unbroken_paper {P : Program} {w : World} {K : PySem.W.Frag} {mg : Str → Option Value} {base : Heap} {C : Str → Addr} (SB : SmB K mg base) (T : Txt K mg C) : Fd P w K mg base "unbroken_paper" 5 (S_unbroken_paper w C) := by
  have D_need_lists := ok_need_lists (P := P) (w := w) (base := base) SB T
  have D_led_from := ok_led_from (P := P) (w := w) (base := base) SB T
  have D_last_stand := ok_last_stand (P := P) (w := w) (base := base) SB T
  refine fd_mk T.f_unbroken_paper sc_unbroken_paper ?len (fun f cdv A outer s H E hr tk po => ⟨_, (ws_cons (ws_drop (we_call callP_ok D_need_lists (hr.mono (by decide)) tk (wa_cons (we_var 0) wa_nil)))
  (ws_cons (ws_set 1 sc_unbroken_paper.nd (we_call callP_ok D_led_from (hr.mono (by decide)) tk (wa_cons (we_var 0) wa_nil)))
  (ws_cons (ws_set 2 sc_unbroken_paper.nd (we_lstC (wa_cons (we_call callP_ok D_last_stand (hr.mono (by decide)) tk (wa_cons (we_var 0) wa_nil)) wa_nil)))
  (ws_cons (ws_set 3 sc_unbroken_paper.nd (we_dispW (w := w) rfl (u16 hr.units) (wps_cons (we_call callP_ok D_last_stand (hr.mono (by decide)) tk (wa_cons (we_var 0) wa_nil)) we_int wps_nil)))
  (ws_cons (ws_set 4 sc_unbroken_paper.nd we_int)
  (ws_cons (ws_while po (wt_cmp cd_lt (we_var 4) (we_callB ld_len rfl T.n_len (by decide +kernel) (wa_cons (we_var 2) wa_nil)))
  (ws_cons (ws_for po (wi_any (we_ixW (w := w) rfl (u16 hr.units) (we_var 1) (we_ix id_ix (we_var 2) (we_var 4)))) (wg_name 5 sc_unbroken_paper.nd)
  (ws_one (ws_if (wt_cmp (cd_notInW (w := w) rfl (u16 hr.units)) (we_var 5) (we_var 3))
  (ws_cons (ws_asg (we_bin (bd_add outF_ok) (we_ixW (w := w) rfl (u16 hr.units) (we_var 3) (we_ix id_ix (we_var 2) (we_var 4))) we_int) (wg_sub (sd_W (w := w) rfl (u16 hr.units)) (we_var 3) (we_var 5)))
  (ws_one (ws_drop (we_bm .lst md_append PySem.F.plainAttrs_list PySem.F.slot_list_append PySem.F.type_list_append (we_var 2) (wa_cons (we_var 5) wa_nil)))))
  ws_nil)))
  (ws_one (ws_aug 4 sc_unbroken_paper.nd ad_add we_int))))
  (ws_one (ws_ret (we_frzN (we_var 3)))))))))), ?body⟩)
  case' body => clear tk po hr E H s outer A cdv f
  case len => rintro _ _ _ _ ⟨_, rfl, _⟩; rfl
  case body =>
    rintro ds μ Q E' ⟨L, rfl, rfl, hp, hl, hz, q⟩
    have hr := hp.rowL
    have hP := allcan_A hr
    have nL := noC_pcs L
    have nZ := noC_st (lastA L)
    have nB : noCs (((allA L).map fun x => (behL L x).map stD).map D.lst) = true := by rw [List.map_map]; exact noCs_map (fun x => D.lst ((behL L x).map stD)) (fun x => (show noCs ((behL L x).map stD) = true from noCs_st _)) _
    repeat' fail
    refine st_dispN ?_
    repeat' fail
    refine ⟨[(stK (lastA L), D.int 0)], by rw [stD_eq]; rfl, fun p hp => by rw [List.mem_singleton] at hp; subst hp; exact depth_st _, rfl, by show 1 ≤ 15; decide, ?_⟩
    rw [show ([(stK (lastA L), D.int 0)].foldl (fun a p => putNk (.tup p.1) a) []) = [kS (lastA L)] from rfl, show ([(stK (lastA L), D.int 0)].foldl (fun (a : List NestedKey × List D) p => (putNk (.tup p.1) a.1, putNv (.tup p.1) p.2 a.1 a.2)) ([], [])).2 = [.int 0] from rfl]
    repeat' fail
    refine ⟨fun n (δ : DS) (μ : Mu) => ∃ (l : List Stand) (i : Nat) (d5 : Option D), δ = [some (.lst (L.map pcD)), some (.dcn w ((allA L).map kS) (((allA L).map fun x => (behL L x).map stD).map .lst)), some (.cell 0), some (.cell 1), some (.int (i : Nat)), d5] ∧ μ = [MO.lst (l.map stD), MO.dcn w (l.map kS) (papU L l)] ∧ LineU L l i ∧ n = sizeA L - i,
      ⟨_, [lastA L], 0, _, rfl, by unfold papU; rw [List.map_singleton, List.map_singleton, List.map_singleton]; rw [show dU L (lastA L) = 0 from dG_last]; rfl, Line.start (lastA_ok L), rfl⟩, ?_⟩
    rintro n δ μ ⟨l, i, d5, rfl, rfl, G, rfl⟩
    have hll := G.len
    repeat' fail
    · have hi : i < l.length := by rw [List.length_map] at hb; omega
      obtain ⟨x, hx⟩ : ∃ x, l[i]? = some x := ⟨_, List.getElem?_eq_getElem hi⟩
      have hxo := G.ok x (List.mem_of_getElem? hx)
      have eB : ((allA L).map fun x => (behL L x).map stD).map D.lst = (allA L).map fun x => D.lst ((behL L x).map stD) := by rw [List.map_map]; rfl
      have lk : lookN (.tup (stK x)) ((allA L).map kS) (((allA L).map fun x => (behL L x).map stD).map D.lst) = some (.lst ((behL L x).map stD)) := by
        rw [eB]
        exact lookN_in (K := kS) (fun _ _ h => kS_inj h) (fun x => D.lst ((behL L x).map stD)) (mem_allA.mpr hxo)
      refine st_ixL (d := stD x) rfl (seqOf_cell rfl) (atI_of (j := i) rfl (by rw [List.getElem?_map, hx]; rfl)) ?_
      refine st_ixN (stK x) dcn_f (stD_eq x) (depth_st x) lk ?_
      refine ⟨_, rfl, fun j (δ : DS) (μ : Mu) => ∃ (l' : List Stand) (d5 : Option D), δ = [some (.lst (L.map pcD)), some (.dcn w ((allA L).map kS) (((allA L).map fun x => (behL L x).map stD).map .lst)), some (.cell 0), some (.cell 1), some (.int (i : Nat)), d5] ∧ μ = [MO.lst (l'.map stD), MO.dcn w (l'.map kS) (papU L l')] ∧ LineU L l' i ∧ l'[i]? = some x ∧ ∀ s ∈ (behL L x).take j, s ∈ l',
        ⟨l, _, rfl, rfl, G, hx, fun s hs => by rw [List.take_zero] at hs; cases hs⟩, ?_, ?_⟩
      · rintro j d δ μ hd ⟨l', d5, rfl, rfl, G', hx', hin⟩
        rw [List.getElem?_map] at hd
        obtain ⟨s, hs, rfl⟩ := Option.map_eq_some_iff.mp hd
        obtain ⟨so, sne, c, hc, sc⟩ := mem_beh.mp (List.mem_of_getElem? hs)
        have hl' := G'.len
        have et : (behL L x).take (j + 1) = (behL L x).take j ++ [s] := by rw [List.take_add_one, hs]; rfl
        have lx : lookN (.tup (stK x)) (l'.map kS) (papU L l') = some (.int (dU L x : Nat)) := lookN_in (K := kS) (fun _ _ h => kS_inj h) (fun s => .int (dU L s : Nat)) (List.mem_of_getElem? hx')
        repeat' fail
        refine st_ninN (stK s) (dcn_c rfl) (stD_eq s) (depth_st s) ?_
        repeat' fail
        · have hn : s ∉ l' := fun z => by
            rw [show lookN (.tup (stK s)) (l'.map kS) (papU L l') = some (.int (dU L s : Nat)) from lookN_in (K := kS) (fun _ _ h => kS_inj h) (fun s => .int (dU L s : Nat)) z] at hb
            cases hb
          have hv : ((dU L x : Nat) : Int) + 1 = ((dU L s : Nat) : Int) := by
            have : dU L s = dU L x + 1 := G'.new hP hx' so hc sc hn
            omega
          obtain ⟨p1, p2⟩ := putN_new (K := kS) (fun _ _ h => kS_inj h) (fun s => D.int (dU L s : Nat)) hn
          repeat' fail
          refine st_ixL (d := stD x) rfl (seqOf_cell rfl) (atI_of (j := i) rfl (by rw [List.getElem?_map, hx']; rfl)) ?_
          refine st_ixN (stK x) (dcn_c rfl) (stD_eq x) (depth_st x) lx ?_
          repeat' fail
          rw [hv]
          refine st_setN (stK s) rfl (stD_eq s) (depth_st s) (by rw [List.length_map]; exact szl (by omega)) ?_
          rw [show putNk (.tup (stK s)) (l'.map kS) = _ from p1, show putNv (.tup (stK s)) (D.int (dU L s : Nat)) (l'.map kS) (papU L l') = _ from p2]
          have lz : (l'.map stD).length < sizeLine := by rw [List.length_map]; exact szl (by omega)
          repeat' fail
          refine ⟨l' ++ [s], _, rfl, by simp [papU], G'.push hP hx' so hc sc hn, ?_, fun t ht => ?_⟩
          · rw [List.getElem?_append_left (List.getElem?_eq_some_iff.mp hx').1]
            exact hx'
          · rw [et] at ht
            rcases List.mem_append.mp ht with ht | ht
            · exact List.mem_append_left _ (hin t ht)
            · exact List.mem_append_right _ ht
        · have hm : s ∈ l' := Classical.byContradiction fun z => by
            rw [show lookN (.tup (stK s)) (l'.map kS) (papU L l') = none from lookN_out (K := kS) (fun _ _ h => kS_inj h) (fun s => .int (dU L s : Nat)) z] at hb
            cases hb
          exact ⟨l', _, rfl, rfl, G', hx', fun t ht => by
            rw [et] at ht
            rcases List.mem_append.mp ht with ht | ht
            · exact hin t ht
            · rw [List.mem_singleton.mp ht]; exact hm⟩
      · rintro δ μ ⟨l', d5, rfl, rfl, G', hx', hin⟩
        rw [List.length_map, List.take_length] at hin
        have hl' := G'.len
        have hi' := (List.getElem?_eq_some_iff.mp hx').1
        dsimp only
        repeat' fail
        refine ⟨sizeA L - (i + 1), by omega, l', i + 1, _, rfl, rfl, G'.next hx' fun s so hc => ?_, rfl⟩
        by_cases e : s = x
        · rw [e]; exact List.mem_of_getElem? hx'
        · exact hin s (mem_beh.mpr ⟨so, e, hc⟩)
    · have hi : l.length ≤ i := by rw [List.length_map] at hb; omega
      have hP := G.pap hr hi
      have nP := papU_noC L l
      repeat' fail
      refine st_frzN ?_
      repeat' fail
      refine st_frzN1 rfl ?_
      repeat' fail
      exact q l hP

abbrev N_least_unbroken : List Str := ["lists"]
theorem sc_least_unbroken : FnScope N_least_unbroken ["lists"] (defScope (topS 31)) := ⟨rfl, rfl, rfl, by decide +kernel, rfl, by decide +kernel, by decide +kernel⟩
def S_least_unbroken (_ : Str → Addr) : DSp := fun ds μ Q _ => ∃ L : PL, ds = [.lst (L.map pcD)] ∧ μ = [] ∧ PcL L ∧ L.length ≤ 3 ∧ sizeA L ≤ 1000 ∧ Q (.int (dU L (firstA L) : Nat)) []
theorem u_least_unbroken {C : Str → Addr} {L : PL} {Q : DQ} {E : FE} (h : PcL L) (hl : L.length ≤ 3 ∧ sizeA L ≤ 1000) (q : Q (.int (dU L (firstA L) : Nat)) []) : S_least_unbroken C [.lst (L.map pcD)] [] Q E := ⟨L, rfl, rfl, h, hl.1, hl.2, q⟩
set_option hygiene false in
local macro_rules | `(tactic| array_get_dec) => `(tactic| ((with_reducible apply u_least_unbroken); (assumption); (omega)))
theorem ok_least_unbroken {P : Program} {w : World} {K : PySem.W.Frag} {mg : Str → Option Value} {base : Heap} {C : Str → Addr} (SB : SmB K mg base) (T : Txt K mg C) : Fd P w K mg base "least_unbroken" 6 (S_least_unbroken C) := by
  have D_unbroken_paper := ok_unbroken_paper (P := P) (w := w) (base := base) SB T
  have D_first_stand := ok_first_stand (P := P) (w := w) (base := base) SB T
  refine fd_mk T.f_least_unbroken sc_least_unbroken ?len (fun f cdv A outer s H E hr tk po => ⟨_, (ws_one (ws_ret (we_ixW (w := w) rfl (u16 hr.units) (we_call callP_ok D_unbroken_paper (hr.mono (by decide)) tk (wa_cons (we_var 0) wa_nil)) (we_call callP_ok D_first_stand (hr.mono (by decide)) tk (wa_cons (we_var 0) wa_nil))))), ?body⟩)
  case' body => clear tk po hr E H s outer A cdv f
  case len => rintro _ _ _ _ ⟨_, rfl, _⟩; rfl
  case body =>
    rintro ds μ Q E' ⟨L, rfl, rfl, hp, hl, hz, q⟩
    have h0 := firstA_ok hp.rowL.ne
    have nL := noC_pcs L
    have nZ := noC_st (firstA L)
    repeat' fail
    intro l hP
    have nP := papU_noC L l
    repeat' fail
    refine st_ixN (stK (firstA L)) dcn_f (stD_eq _) (depth_st _) (hP.look h0) ?_
    repeat' fail
    exact q

abbrev N_weave_unbroken : List Str := ["lists", "paper", "stand", "found", "good", "sign"]
theorem sc_weave_unbroken : FnScope N_weave_unbroken ["lists"] (defScope (topS 32)) := ⟨rfl, rfl, rfl, by decide +kernel, rfl, by decide +kernel, by decide +kernel⟩
def S_weave_unbroken (_ : Str → Addr) : DSp := fun ds μ Q _ => ∃ L : PL, ds = [.lst (L.map pcD)] ∧ μ = [] ∧ PcL L ∧ L.length ≤ 3 ∧ sizeA L ≤ 1000 ∧ Q (.str (bU L (firstA L))) []
theorem u_weave_unbroken {C : Str → Addr} {L : PL} {Q : DQ} {E : FE} (h : PcL L) (hl : L.length ≤ 3 ∧ sizeA L ≤ 1000) (q : Q (.str (bU L (firstA L))) []) : S_weave_unbroken C [.lst (L.map pcD)] [] Q E := ⟨L, rfl, rfl, h, hl.1, hl.2, q⟩
set_option hygiene false in
local macro_rules | `(tactic| array_get_dec) => `(tactic| ((with_reducible apply u_weave_unbroken); (assumption); (omega)))
theorem ok_weave_unbroken {P : Program} {w : World} {K : PySem.W.Frag} {mg : Str → Option Value} {base : Heap} {C : Str → Addr} (SB : SmB K mg base) (T : Txt K mg C) : Fd P w K mg base "weave_unbroken" 6 (S_weave_unbroken C) := by
  have D_unbroken_paper := ok_unbroken_paper (P := P) (w := w) (base := base) SB T
  have D_first_stand := ok_first_stand (P := P) (w := w) (base := base) SB T
  have D_all_behind := ok_all_behind (P := P) (w := w) (base := base) SB T
  refine fd_mk T.f_weave_unbroken sc_weave_unbroken ?len (fun f cdv A outer s H E hr tk po => ⟨_, (ws_cons (ws_set 1 sc_weave_unbroken.nd (we_call callP_ok D_unbroken_paper (hr.mono (by decide)) tk (wa_cons (we_var 0) wa_nil)))
  (ws_cons (ws_set 2 sc_weave_unbroken.nd (we_call callP_ok D_first_stand (hr.mono (by decide)) tk (wa_cons (we_var 0) wa_nil)))
  (ws_cons (ws_set 3 sc_weave_unbroken.nd we_str)
  (ws_cons (ws_while po (wt_cmp cd_gt (we_ixW (w := w) rfl (u16 hr.units) (we_var 1) (we_var 2)) we_int)
  (ws_cons (ws_setLc finF_ok 4 [("sign", 5)] sc_weave_unbroken.nd (wi_any (we_globS rfl T.g_LETTERS)) (blkOk_by (own := [("sign", 5)]) (N := N_weave_unbroken) (sc := defScope (topS 32)) (by decide +kernel))
  (fun _ _ _ _ _ => (wg_name 5 sc_weave_unbroken.nd)) (fun _ _ _ _ _ => (wts_one (wt_cmp cd_lt (we_ixW (w := w) rfl (u16 hr.units) (we_var 1) (we_call callP_ok D_all_behind (hr.mono (by decide)) takesB (wa_cons (we_var 0) (wa_cons (we_var 2) (wa_cons (we_var 5) wa_nil))))) (we_ixW (w := w) rfl (u16 hr.units) (we_var 1) (we_var 2))))) (fun _ _ _ _ _ => (we_var 5)) (sw_true rfl rfl rfl (by decide +kernel)))
  (ws_cons (ws_set 3 sc_weave_unbroken.nd (we_bin (bd_add outF_ok) (we_var 3) (we_ix id_ix (we_var 4) we_int)))
  (ws_one (ws_set 2 sc_weave_unbroken.nd (we_call callP_ok D_all_behind (hr.mono (by decide)) tk (wa_cons (we_var 0) (wa_cons (we_var 2) (wa_cons (we_ix id_ix (we_var 4) we_int) wa_nil)))))))))
  (ws_one (ws_ret (we_var 3))))))), ?body⟩)
  case' body => clear tk po hr E H s outer A cdv f
  case len => rintro _ _ _ _ ⟨_, rfl, _⟩; rfl
  case body =>
    rintro ds μ Q E' ⟨L, rfl, rfl, hp, hl, hz, q⟩
    have hr := hp.rowL
    have hP := allcan_A hr
    have h0 := firstA_ok hr.ne
    have nL := noC_pcs L
    have nZ := noC_st (firstA L)
    repeat' fail
    intro l hl2
    have nP := papU_noC L l
    repeat' fail
    refine ⟨fun n (δ : DS) (μ : Mu) => ∃ s f d4 d5, δ = [some (.lst (L.map pcD)), some (.dcn w (l.map kS) (papU L l)), some (stD s), some (.str f), d4, d5] ∧ μ = [] ∧ okSt L s ∧ f ++ bU L s = bU L (firstA L) ∧ n = dU L s, ⟨_, _, _, _, _, rfl, rfl, h0, rfl, rfl⟩, ?_⟩
    rintro n δ μ ⟨s, f, d4, d5, rfl, rfl, hs, e, rfl⟩
    have lb : (bU L (firstA L)).length ≤ 1000 := by
      have h1 : (bU L (firstA L)).length = dU L (firstA L) := (bG_leads hP _ (firstA L) h0 rfl).2
      have := dU_le hr h0
      omega
    have lf : f.length ≤ 1000 := by
      have e' := congrArg List.length e
      rw [List.length_append] at e'
      omega
    have nS := noC_st s
    repeat' fail
    refine st_ixN (stK s) dcn_f (stD_eq s) (depth_st s) (hl2.look hs) ?_
    repeat' fail
    · refine lc_fchars (l := AL) (fun c => decide (dU L (stepA L s c) < dU L s)) (fun c => .str [c]) (sz (by rw [AL_len]; omega)) ?_ ?_
      · intro j c hj KA KF g1 g2
        have hcs := stepA_ok hr.ne hs c
        have nc := noC_st (stepA L s c)
        repeat' fail
        refine st_ixN (stK (stepA L s c)) dcn_f (stD_eq _) (depth_st _) (hl2.look hcs) ?_
        repeat' fail
        refine st_ixN (stK s) dcn_f (stD_eq s) (depth_st s) (hl2.look hs) ?_
        repeat' fail
        · exact g1 (decide_eq_true (by omega))
        · exact g2 (decide_eq_false (by omega))
      obtain ⟨c, r, hg, hc, hd⟩ := good_ne hP hs (show dU L s ≠ 0 by omega)
      rw [show AL.filter (fun c => decide (dU L (stepA L s c) < dU L s)) = c :: r from hg]
      have hcs := stepA_ok hr.ne hs c
      have hd : dU L s = dU L (stepA L s c) + 1 := hd
      have eb : bU L s = c :: bU L (stepA L s c) := by
        show bG _ _ _ (dU L s) s = _
        rw [hd]
        simp only [bG, hg]
      refine st_finF ?_
      repeat' fail
      refine st_ixL (d := .str [c]) rfl rfl (atI_of (j := 0) rfl rfl) ?_
      repeat' fail
      refine st_ixL (d := .str [c]) rfl rfl (atI_of (j := 0) rfl rfl) ?_
      have nc := noC_st (stepA L s c)
      repeat' fail
      exact ⟨dU L (stepA L s c), by omega, stepA L s c, f ++ [c], _, _, rfl, rfl, hcs, by rw [List.append_assoc, ← e, eb]; rfl, rfl⟩
    · have h1 : dU L s = 0 := by omega
      have eb : bU L s = [] := by
        show bG _ _ _ (dU L s) s = _
        rw [h1]
        rfl
      rw [eb, List.append_nil] at e
      rw [e]
      exact q

abbrev N_need_rows : List Str := ["rows", "row"]
theorem sc_need_rows : FnScope N_need_rows ["rows"] (defScope (topS 36)) := ⟨rfl, rfl, rfl, by decide +kernel, rfl, by decide +kernel, by decide +kernel⟩
def isRowsD : D → Bool
  | .lst xs => decide (xs.length ≤ 8) && xs.all isRowD
  | _ => false
def S_need_rows (C : Str → Addr) : DSp := fun ds μ Q E => ∃ d, ds = [d] ∧ μ = [] ∧ listOk d ∧ (isRowsD d = true → Q .non []) ∧ (isRowsD d = false → E (.ref (C "NoRows")) [])
theorem rows_isRows {rows : List (List Nat)} {m : Nat} (h : Rows rows m) (hl : rows.length ≤ 8) : isRowsD (.lst (rows.map .str)) = true := by
  show (decide ((rows.map D.str).length ≤ 8) && (rows.map D.str).all isRowD) = true
  rw [List.length_map, Bool.and_eq_true]
  refine ⟨decide_eq_true hl, List.all_eq_true.mpr fun d hd => ?_⟩
  obtain ⟨r, hr, rfl⟩ := List.mem_map.mp hd
  exact (h r hr).1
theorem u_need_rows {C : Str → Addr} {rows : List (List Nat)} {m : Nat} {Q : DQ} {E : FE} (h : Rows rows m) (hl : rows.length ≤ 8 ∧ m ≤ 1000) (q : Q .non []) : S_need_rows C [.lst (rows.map .str)] [] Q E :=
  ⟨_, rfl, rfl, rows_listOk h (by omega) hl.2, fun _ => q, fun z => by rw [rows_isRows h hl.1] at z; cases z⟩
set_option hygiene false in
local macro_rules | `(tactic| array_get_dec) => `(tactic| ((with_reducible apply u_need_rows); (assumption); (omega)))
theorem u_need_rowsL {C : Str → Addr} {d : D} {Q : DQ} {E : FE} (h : listOk d) (q1 : isRowsD d = true → Q .non []) (q2 : isRowsD d = false → E (.ref (C "NoRows")) []) : S_need_rows C [d] [] Q E := ⟨d, rfl, rfl, h, q1, q2⟩
set_option hygiene false in
local macro_rules | `(tactic| array_get_dec) => `(tactic| ((with_reducible apply u_need_rowsL); (assumption)) <;> intro hr)
theorem rowsD_strs {d : D} (h : isRowsD d = true) : ∃ rows : List (List Nat), d = .lst (rows.map .str) ∧ rows.length ≤ 8 ∧ ∀ r ∈ rows, isRow r = true := by
  cases d with
  | lst xs =>
    have h : (decide (xs.length ≤ 8) && xs.all isRowD) = true := h
    rw [Bool.and_eq_true] at h
    have ex : ∀ xs : List D, xs.all isRowD = true → ∃ rows : List (List Nat), xs = rows.map .str ∧ ∀ r ∈ rows, isRow r = true := by
      intro xs
      induction xs with
      | nil => exact fun _ => ⟨[], rfl, fun _ h => nomatch h⟩
      | cons x xs ih =>
        intro h
        rw [List.all_cons, Bool.and_eq_true] at h
        obtain ⟨s, rfl, hs⟩ := rowD_str h.1
        obtain ⟨rows, rfl, hr⟩ := ih h.2
        exact ⟨s :: rows, rfl, fun r h => (List.mem_cons.mp h).elim (fun e => by rw [e]; exact hs) (hr r)⟩
    obtain ⟨rows, rfl, hr⟩ := ex xs h.2
    have h1 := of_decide_eq_true h.1
    rw [List.length_map] at h1
    exact ⟨rows, rfl, h1, hr⟩
  | _ => cases h
/-- what is asked of a def over rows: where they are rows their sizes, and what is wanted -/
def rowsDo (d : D) (m : Nat) (P : List (List Nat) → Prop) : Prop := ∀ rows : List (List Nat), d = .lst (rows.map .str) → rows.length ≤ 8 → (∀ r ∈ rows, isRow r = true) → Rows rows m ∧ P rows
theorem rowsDo_of {rows : List (List Nat)} {m : Nat} {P : List (List Nat) → Prop} (h : Rows rows m) (p : P rows) : rowsDo (.lst (rows.map .str)) m P := fun rows' e _ _ => by
  injection e with e
  cases strs_inj e
  exact ⟨h, p⟩
theorem ok_need_rows {P : Program} {w : World} {K : PySem.W.Frag} {mg : Str → Option Value} {base : Heap} {C : Str → Addr} (SB : SmB K mg base) (T : Txt K mg C) : Fd P w K mg base "need_rows" 2 (S_need_rows C) := by
  have D_is_row := ok_is_row (P := P) (w := w) (base := base) SB T
  refine fd_mk T.f_need_rows sc_need_rows ?len (fun f cdv A outer s H E hr tk po => ⟨_, (ws_one (ws_if (wt_bool (ww_or (wt_not (wt_val (we_callB ld_isi rfl T.n_isinstance (by decide +kernel) (wa_cons (we_var 0) (wa_cons (we_bty (n := "list") T.n_list (by decide +kernel)) wa_nil))))) (ww_or (wt_cmp cd_gt (we_callB ld_len rfl T.n_len (by decide +kernel) (wa_cons (we_var 0) wa_nil)) (we_globI rfl T.g_MOST_ROWS)) (ww_or1 (wt_cmp (cd_ne hr.units) (we_lc finF_ok [("row", 1)] sc_need_rows.nd (wi_any (we_var 0)) (blkOk_by (own := [("row", 1)]) (N := N_need_rows) (sc := defScope (topS 36)) (by decide +kernel))
  (fun _ _ _ _ _ => (wg_name 1 sc_need_rows.nd)) (fun _ _ _ _ _ => (wts_one (wt_not (wt_val (we_call callP_ok D_is_row (hr.mono (by decide)) takesB (wa_cons (we_var 1) wa_nil)))))) (fun _ _ _ _ _ => (we_var 1))) (we_lst wa_nil))))))
  (ws_one (ws_raise T.x_NoRows tk))
  ws_nil)), ?body⟩)
  case' body => clear tk po hr E H s outer A cdv f
  case len => rintro _ _ _ _ ⟨_, rfl, _⟩; rfl
  case body =>
    rintro ds μ Q E' ⟨d, rfl, rfl, ⟨⟨⟨t, ht⟩, _⟩, hn, hx⟩, q1, q2⟩
    repeat' fail
    refine st_isi ht (kit_list ht) ?_
    cases d with
    | lst xs =>
      obtain ⟨hl, hx⟩ := hx xs rfl
      repeat' fail
      · exact q2 (by simp [isRowsD]; omega)
      · refine lc_pure (fun d => !isRowD d) id (by exact sz5 hl) ?_ ?_
        · intro i d hd KA KF h1 h2
          obtain ⟨hk, _, hn'⟩ := hx d (List.mem_of_getElem? hd)
          repeat' fail
          · exact h1 (by assumption)
          · exact h2 (by assumption)
        · rw [List.map_id]
          refine st_finF ?_
          repeat' fail
          refine st_neNil (fun d hd => (hx d (List.mem_filter.mp hd).1).2.1) ?_
          repeat' fail
          · refine q2 ?_
            have hne : ¬ xs.filter (fun d => !isRowD d) = [] := by assumption
            show (_ && xs.all isRowD) = false
            rw [Bool.and_eq_false_iff]
            refine .inr (Bool.eq_false_iff.mpr fun ha => hne (List.filter_eq_nil_iff.mpr fun d hd => ?_))
            simp [List.all_eq_true.mp ha d hd]
          · refine q1 ?_
            have he : xs.filter (fun d => !isRowD d) = [] := by assumption
            show (decide (xs.length ≤ 8) && xs.all isRowD) = true
            rw [Bool.and_eq_true]
            refine ⟨decide_eq_true (by omega), List.all_eq_true.mpr fun d hd => ?_⟩
            have := List.filter_eq_nil_iff.mp he d hd
            simpa using this
    | _ =>
      repeat' fail
      exact q2 rfl

abbrev N_size_of : List Str := ["rows", "found", "row"]
theorem sc_size_of : FnScope N_size_of ["rows"] (defScope (topS 37)) := ⟨rfl, rfl, rfl, by decide +kernel, rfl, by decide +kernel, by decide +kernel⟩
def S_size_of (_ : Str → Addr) : DSp := fun ds μ Q _ => ∃ rows m, ds = [.lst (rows.map .str)] ∧ μ = [] ∧ Rows rows m ∧ m ≤ 1000 ∧ Q (.int (sizeR rows)) []
theorem u_size_of {C : Str → Addr} {rows : List (List Nat)} {m : Nat} {Q : DQ} {E : FE} (h : Rows rows m) (hm : m ≤ 1000) (q : Q (.int (sizeR rows)) []) : S_size_of C [.lst (rows.map .str)] [] Q E := ⟨_, _, rfl, rfl, h, hm, q⟩
set_option hygiene false in
local macro_rules | `(tactic| array_get_dec) => `(tactic| ((with_reducible apply u_size_of); (assumption); (omega)))
theorem ok_size_of {P : Program} {w : World} {K : PySem.W.Frag} {mg : Str → Option Value} {base : Heap} {C : Str → Addr} (SB : SmB K mg base) (T : Txt K mg C) : Fd P w K mg base "size_of" 1 (S_size_of C) := by
  refine fd_mk T.f_size_of sc_size_of ?len (fun f cdv A outer s H E hr tk po => ⟨_, (ws_cons (ws_set 1 sc_size_of.nd we_int)
  (ws_cons (ws_for po (wi_any (we_var 0)) (wg_name 2 sc_size_of.nd)
  (ws_one (ws_set 1 sc_size_of.nd (we_bin (bd_mul outF_ok) (we_var 1) (we_bin (bd_add outF_ok) (we_callB ld_len rfl T.n_len (by decide +kernel) (wa_cons (we_var 2) wa_nil)) we_int)))))
  (ws_one (ws_ret (we_var 1))))), ?body⟩)
  case' body => clear tk po hr E H s outer A cdv f
  case len => rintro _ _ _ _ ⟨_, _, rfl, _⟩; rfl
  case body =>
    rintro ds μ Q E' ⟨rows, m, rfl, rfl, hr, hm, q⟩
    repeat' fail
    refine ⟨fun i (δ : DS) (μ : Mu) => ∃ d2, δ = [some (.lst (rows.map .str)), some (.int (sizeR (rows.take i))), d2] ∧ μ = [], ⟨_, rfl, rfl⟩, ?_, ?_⟩
    · rintro i d δ μ hd ⟨d2, rfl, rfl⟩
      rw [List.getElem?_map] at hd
      obtain ⟨r, ho, rfl⟩ := Option.map_eq_some_iff.mp hd
      have := (hr.get ho).2
      repeat' fail
      refine ⟨some (.str r), ?_, rfl⟩
      rw [take_suc ho, sizeR_snoc]
      show _ = [_, some (D.int ((sizeR (rows.take i) * (r.length + 1) : Nat) : Int)), _]
      rw [Int.natCast_mul]
      rfl
    · rintro δ μ ⟨d2, rfl, rfl⟩
      rw [List.length_map, List.take_length]
      repeat' fail
      exact q

abbrev N_need_size : List Str := ["rows"]
theorem sc_need_size : FnScope N_need_size ["rows"] (defScope (topS 38)) := ⟨rfl, rfl, rfl, by decide +kernel, rfl, by decide +kernel, by decide +kernel⟩
def S_need_size (C : Str → Addr) : DSp := fun ds μ Q E => ∃ rows m, ds = [.lst (rows.map .str)] ∧ μ = [] ∧ Rows rows m ∧ m ≤ 1000 ∧ (sizeR rows ≤ 4096 → Q .non []) ∧ (4096 < sizeR rows → E (.ref (C "TooMany")) [])
theorem u_need_size {C : Str → Addr} {rows : List (List Nat)} {m : Nat} {Q : DQ} {E : FE} (h : Rows rows m) (hm : m ≤ 1000 ∧ sizeR rows ≤ 4096) (q : Q .non []) : S_need_size C [.lst (rows.map .str)] [] Q E := ⟨_, _, rfl, rfl, h, hm.1, fun _ => q, fun z => by omega⟩
theorem u_need_sizeL {C : Str → Addr} {rows : List (List Nat)} {m : Nat} {Q : DQ} {E : FE} (h : Rows rows m) (hm : m ≤ 1000) (q : sizeR rows ≤ 4096 → Q .non []) (qe : 4096 < sizeR rows → E (.ref (C "TooMany")) []) : S_need_size C [.lst (rows.map .str)] [] Q E := ⟨_, _, rfl, rfl, h, hm, q, qe⟩
set_option hygiene false in
local macro_rules | `(tactic| array_get_dec) => `(tactic| ((with_reducible apply u_need_sizeL); (assumption); (omega)) <;> intro hsz)
set_option hygiene false in
local macro_rules | `(tactic| array_get_dec) => `(tactic| ((with_reducible apply u_need_size); (assumption); (omega)))
theorem ok_need_size {P : Program} {w : World} {K : PySem.W.Frag} {mg : Str → Option Value} {base : Heap} {C : Str → Addr} (SB : SmB K mg base) (T : Txt K mg C) : Fd P w K mg base "need_size" 2 (S_need_size C) := by
  have D_size_of := ok_size_of (P := P) (w := w) (base := base) SB T
  refine fd_mk T.f_need_size sc_need_size ?len (fun f cdv A outer s H E hr tk po => ⟨_, (ws_one (ws_if (wt_cmp cd_gt (we_call callP_ok D_size_of (hr.mono (by decide)) tk (wa_cons (we_var 0) wa_nil)) (we_globI rfl T.g_MOST_SIZE))
  (ws_one (ws_raise T.x_TooMany tk))
  ws_nil)), ?body⟩)
  case' body => clear tk po hr E H s outer A cdv f
  case len => rintro _ _ _ _ ⟨_, _, rfl, _⟩; rfl
  case body =>
    rintro ds μ Q E' ⟨rows, m, rfl, rfl, hr, hm, q, qe⟩
    repeat' fail
    · exact qe (by omega)
    · exact q (by omega)

abbrev N_all_spots : List Str := ["rows", "found", "row", "longer", "spot", "done"]
theorem sc_all_spots : FnScope N_all_spots ["rows"] (defScope (topS 39)) := ⟨rfl, rfl, rfl, by decide +kernel, rfl, by decide +kernel, by decide +kernel⟩
def S_all_spots (_ : Str → Addr) : DSp := fun ds μ Q _ => ∃ rows m, ds = [.lst (rows.map .str)] ∧ μ = [] ∧ Rows rows m ∧ m ≤ 1000 ∧ sizeR rows ≤ 4096 ∧ rows.length ≤ 1000 ∧ Q (.lst ((allS rows).map spD)) []
theorem u_all_spots {C : Str → Addr} {rows : List (List Nat)} {m : Nat} {Q : DQ} {E : FE} (h : Rows rows m) (hm : m ≤ 1000 ∧ sizeR rows ≤ 4096 ∧ rows.length ≤ 1000) (q : Q (.lst ((allS rows).map spD)) []) : S_all_spots C [.lst (rows.map .str)] [] Q E := ⟨_, _, rfl, rfl, h, hm.1, hm.2.1, hm.2.2, q⟩
set_option hygiene false in
local macro_rules | `(tactic| array_get_dec) => `(tactic| ((with_reducible apply u_all_spots); (assumption); (omega)))
theorem ok_all_spots {P : Program} {w : World} {K : PySem.W.Frag} {mg : Str → Option Value} {base : Heap} {C : Str → Addr} (SB : SmB K mg base) (T : Txt K mg C) : Fd P w K mg base "all_spots" 1 (S_all_spots C) := by
  refine fd_mk T.f_all_spots sc_all_spots ?len (fun f cdv A outer s H E hr tk po => ⟨_, (ws_cons (ws_set 1 sc_all_spots.nd (we_lst (wa_cons (we_tup wa_nil) wa_nil)))
  (ws_cons (ws_for po (wi_any (we_var 0)) (wg_name 2 sc_all_spots.nd)
  (ws_cons (ws_set 3 sc_all_spots.nd (we_lstC wa_nil))
  (ws_cons (ws_for po (wi_any (we_var 1)) (wg_name 4 sc_all_spots.nd)
  (ws_one (ws_drop (we_bm .lst md_extend PySem.F.plainAttrs_list PySem.F.slot_list_extend PySem.F.type_list_extend (we_var 3) (wa_cons (we_lc finF_ok [("done", 5)] sc_all_spots.nd (wi_rng3 T.n_range (wa_cons (we_callB ld_len rfl T.n_len (by decide +kernel) (wa_cons (we_var 2) wa_nil)) (wa_cons (we_neg we_int) (wa_cons (we_neg we_int) wa_nil)))) (blkOk_by (own := [("done", 5)]) (N := N_all_spots) (sc := defScope (topS 39)) (by decide +kernel))
  (fun _ _ _ _ _ => (wg_name 5 sc_all_spots.nd)) (fun _ _ _ _ _ => wts_nil) (fun _ _ _ _ _ => (we_bin (bd_add outF_ok) (we_var 4) (we_tup (wa_cons (we_var 5) wa_nil))))) wa_nil)))))
  (ws_one (ws_set 1 sc_all_spots.nd (we_frz (we_var 3)))))))
  (ws_one (ws_ret (we_var 1))))), ?body⟩)
  case' body => clear tk po hr E H s outer A cdv f
  case len => rintro _ _ _ _ ⟨_, _, rfl, _⟩; rfl
  case body =>
    rintro ds μ Q E' ⟨rows, m, rfl, rfl, hr, hm, hz, hl8, q⟩
    repeat' fail
    refine ⟨fun i (δ : DS) (μ : Mu) => ∃ d2 d3 d4 d5, δ = [some (.lst (rows.map .str)), some (.lst ((allS (rows.take i)).map spD)), d2, d3, d4, d5] ∧ noCM μ = true, ⟨_, _, _, _, rfl, rfl⟩, ?_, ?_⟩
    · rintro i d δ μ hd ⟨d2, d3, d4, d5, rfl, hμ⟩
      rw [List.getElem?_map] at hd
      obtain ⟨r, ho, rfl⟩ := Option.map_eq_some_iff.mp hd
      have lr := (hr.get ho).2
      have hsz : sizeR (rows.take (i + 1)) ≤ 4096 := Nat.le_trans (sizeR_take_le rows _) hz
      rw [take_suc ho, sizeR_snoc] at hsz
      repeat' fail
      refine ⟨fun t (δ : DS) (μ' : Mu) => ∃ d4 d5, δ = [some (.lst (rows.map .str)), some (.lst ((allS (rows.take i)).map spD)), some (.str r), some (.cell μ.length), d4, d5] ∧ μ' = μ ++ [.lst ((addRow ((allS (rows.take i)).take t) r).map spD)], ⟨_, _, rfl, rfl⟩, ?_, ?_⟩
      · rintro t d δ μ' hd ⟨d4, d5, rfl, rfl⟩
        rw [List.getElem?_map] at hd
        obtain ⟨s, hs, rfl⟩ := Option.map_eq_some_iff.mp hd
        have hsl := (mem_allS.mp (List.mem_of_getElem? hs)).1
        have hil := (List.getElem?_eq_some_iff.mp ho).1
        rw [List.length_take] at hsl
        have hrl := hl8
        have ht := (List.getElem?_eq_some_iff.mp hs).1
        rw [allS_len] at ht
        repeat' fail
        refine st_rng3' (n := r.length + 1) (rgc_down (by omega) (by omega) (by decide) (by decide) (by omega) (by omega)) ?_
        rw [rangeD_down]
        refine lc_nats (fun d => spD (s ++ [d])) (sz (by rw [downTo_len]; omega)) ?_ ?_
        · intro j c hj KA hk
          have l1 : (natsD s).length ≤ 1000 := by unfold natsD; rw [List.length_map]; omega
          have hk : KA (.tup (natsD s ++ [.int (c : Int)])) (μ ++ [.lst ((addRow ((allS (rows.take i)).take t) r).map spD)]) := by rw [sp_snoc]; exact hk
          unfold spD
          repeat' fail
          try exact hk
        refine st_finF ?_
        have l2 : (addRow ((allS (rows.take i)).take t) r).length ≤ 4096 := by
          rw [addRow_len, List.length_take, allS_len]
          exact Nat.le_trans (Nat.mul_le_mul_right _ (Nat.min_le_right _ _)) hsz
        have l3 : (downTo r.length).length ≤ 1001 := by rw [downTo_len]; omega
        repeat' fail
        refine ⟨_, _, rfl, ?_⟩
        rw [take_suc hs, addRow_snoc, List.map_append, List.map_map]
        simp [Function.comp_def]
      · rintro δ μ' ⟨d4, d5, rfl, rfl⟩
        rw [List.length_map, List.take_length]
        repeat' fail
        show ∃ d2 d3 d4 d5 : Option D, _
        rw [take_suc ho, allS_snoc]
        refine ⟨_, _, _, _, rfl, ?_⟩
        simp only [set_at0]
        exact noCM_app hμ rfl
    · rintro δ μ ⟨d2, d3, d4, d5, rfl, hμ⟩
      rw [List.length_map, List.take_length]
      have hnc := noCs_sp (allS rows)
      repeat' fail
      exact q

abbrev N_next_signs : List Str := ["rows", "spot", "row", "done"]
theorem sc_next_signs : FnScope N_next_signs ["rows", "spot"] (defScope (topS 40)) := ⟨rfl, rfl, rfl, by decide +kernel, rfl, by decide +kernel, by decide +kernel⟩
def S_next_signs (_ : Str → Addr) : DSp := fun ds μ Q _ => ∃ rows m s, ds = [.lst (rows.map .str), spD s] ∧ μ = [] ∧ Rows rows m ∧ m ≤ 1000 ∧ rows.length ≤ 1000 ∧ spotOk rows s ∧
  ∀ sg : List Nat, sg.Pairwise (· < ·) → (∀ c, c ∈ sg ↔ c ∈ heads (dropS rows s)) → Q (.lst (chars sg)) []
theorem u_next_signs {C : Str → Addr} {rows : List (List Nat)} {m : Nat} {s : List Nat} {Q : DQ} {E : FE} (h : Rows rows m) (hs : spotOk rows s) (hm : m ≤ 1000 ∧ rows.length ≤ 1000) (q : ∀ sg : List Nat, sg.Pairwise (· < ·) → (∀ c, c ∈ sg ↔ c ∈ heads (dropS rows s)) → Q (.lst (chars sg)) []) :
    S_next_signs C [.lst (rows.map .str), spD s] [] Q E := ⟨_, _, _, rfl, rfl, h, hm.1, hm.2, hs, q⟩
set_option hygiene false in
local macro_rules | `(tactic| array_get_dec) => `(tactic| ((with_reducible apply u_next_signs); (assumption); (assumption); (omega)) <;> intro sg hsg hmem)
theorem ok_next_signs {P : Program} {w : World} {K : PySem.W.Frag} {mg : Str → Option Value} {base : Heap} {C : Str → Addr} (SB : SmB K mg base) (T : Txt K mg C) : Fd P w K mg base "next_signs" 1 (S_next_signs C) := by
  refine fd_mk T.f_next_signs sc_next_signs ?len (fun f cdv A outer s H E hr tk po => ⟨_, (ws_one (ws_ret (we_sortSet outF_ok T.n_sorted T.n_set (we_lc finF_ok [("row", 2), ("done", 3)] sc_next_signs.nd (wi_zip T.n_zip (wa_cons (we_var 0) (wa_cons (we_var 1) wa_nil))) (blkOk_by (own := [("row", 2), ("done", 3)]) (N := N_next_signs) (sc := defScope (topS 40)) (by decide +kernel))
  (fun _ _ _ _ _ => (wg_tup (n := 2) (wgs_cons (wg_name 2 sc_next_signs.nd) (wgs_cons (wg_name 3 sc_next_signs.nd) wgs_nil)))) (fun _ _ _ _ _ => (wts_one (wt_cmp cd_lt (we_var 3) (we_callB ld_len rfl T.n_len (by decide +kernel) (wa_cons (we_var 2) wa_nil))))) (fun _ _ _ _ _ => (we_ix id_ix (we_var 2) (we_var 3))))))), ?body⟩)
  case' body => clear tk po hr E H s outer A cdv f
  case len => rintro _ _ _ _ ⟨_, _, _, rfl, _⟩; rfl
  case body =>
    rintro ds μ Q E' ⟨rows, m, s, rfl, rfl, hr, hm, hl, hs, q⟩
    repeat' fail
    rw [pairZ_strs]
    have lz : (rows.zip s).length ≤ 1000 := by rw [List.length_zip]; omega
    refine lc_of (l := rows.zip s) (fun q => .tup [.str q.1, .int (q.2 : Int)]) (fun q => decide (q.2 < q.1.length)) (fun q => .str [q.1.getD q.2 0]) (sz (by omega)) ?_ ?_
    · intro j q hq KA KF ka kf
      obtain ⟨h1, h2, h3⟩ := zip_mem hs hq
      have := (hr.get h1).2
      repeat' fail
      · have hlt : q.2 < q.1.length := by omega
        refine st_ixS (sz (by omega)) (atI_of rfl (List.getElem?_eq_getElem hlt)) ?_
        repeat' fail
        have := ka (decide_eq_true hlt)
        rw [List.getD_eq_getElem?_getD, List.getElem?_eq_getElem hlt] at this
        exact this
      · exact kf (decide_eq_false (by omega))
    refine st_finF ?_
    refine .inr ⟨(heads (dropS rows s)).map fun c => [c], ?_, .inl ?_, fun ts hp hm => ?_⟩
    · rw [List.length_map, ← zip_heads rows s hs.1, List.length_map]
      exact Nat.lt_of_le_of_lt (List.length_filter_le _ _) (by omega)
    · rw [← zip_heads rows s hs.1]
      simp [rdL, Function.comp_def]
    · obtain ⟨ls, rfl, nd, hls⟩ := ones_of hp hm
      have := q ls (rise_ones hp) hls
      have hnc : noCs (chars ls) = true := noCs_map _ (fun _ => rfl) _
      rw [show (ls.map fun c => [c]).map D.str = chars ls by unfold chars; rw [List.map_map]; rfl]
      repeat' fail
      exact this

abbrev N_spot_behind : List Str := ["rows", "spot", "sign", "row", "done"]
theorem sc_spot_behind : FnScope N_spot_behind ["rows", "spot", "sign"] (defScope (topS 41)) := ⟨rfl, rfl, rfl, by decide +kernel, rfl, by decide +kernel, by decide +kernel⟩
def S_spot_behind (_ : Str → Addr) : DSp := fun ds μ Q _ => ∃ rows m s c, ds = [.lst (rows.map .str), spD s, .str [c]] ∧ μ = [] ∧ Rows rows m ∧ m ≤ 1000 ∧ rows.length ≤ 1000 ∧ spotOk rows s ∧ Q (spD (spotB rows s c)) []
theorem u_spot_behind {C : Str → Addr} {rows : List (List Nat)} {m : Nat} {s : List Nat} {c : Nat} {Q : DQ} {E : FE} (h : Rows rows m) (hs : spotOk rows s) (hm : m ≤ 1000 ∧ rows.length ≤ 1000) (q : Q (spD (spotB rows s c)) []) :
    S_spot_behind C [.lst (rows.map .str), spD s, .str [c]] [] Q E := ⟨_, _, _, _, rfl, rfl, h, hm.1, hm.2, hs, q⟩
set_option hygiene false in
local macro_rules | `(tactic| array_get_dec) => `(tactic| ((with_reducible apply u_spot_behind); (assumption); (assumption); (omega)))
theorem ok_spot_behind {P : Program} {w : World} {K : PySem.W.Frag} {mg : Str → Option Value} {base : Heap} {C : Str → Addr} (SB : SmB K mg base) (T : Txt K mg C) : Fd P w K mg base "spot_behind" 1 (S_spot_behind C) := by
  refine fd_mk T.f_spot_behind sc_spot_behind ?len (fun f cdv A outer s H E hr tk po => ⟨_, (ws_one (ws_ret (we_callTy ld_tupA rfl T.n_tuple (by decide +kernel) (wa_cons (we_lc finF_ok [("row", 3), ("done", 4)] sc_spot_behind.nd (wi_zip T.n_zip (wa_cons (we_var 0) (wa_cons (we_var 1) wa_nil))) (blkOk_by (own := [("row", 3), ("done", 4)]) (N := N_spot_behind) (sc := defScope (topS 41)) (by decide +kernel))
  (fun _ _ _ _ _ => (wg_tup (n := 2) (wgs_cons (wg_name 3 sc_spot_behind.nd) (wgs_cons (wg_name 4 sc_spot_behind.nd) wgs_nil)))) (fun _ _ _ _ _ => wts_nil) (fun _ _ _ _ _ => (we_bin (bd_add outF_ok) (we_var 4) (we_callTy ld_int rfl T.n_int (by decide +kernel) (wa_cons (we_cmp (cd_eq hr.units) (we_cut outF_ok (we_var 3) (wp_some (we_var 4)) (wp_some (we_bin (bd_add outF_ok) (we_var 4) we_int))) (we_var 2)) wa_nil))))) wa_nil)))), ?body⟩)
  case' body => clear tk po hr E H s outer A cdv f
  case len => rintro _ _ _ _ ⟨_, _, _, _, rfl, _⟩; rfl
  case body =>
    rintro ds μ Q E' ⟨rows, m, s, c, rfl, rfl, hr, hm, hl, hs, q⟩
    repeat' fail
    rw [pairZ_strs]
    have lz : (rows.zip s).length ≤ 1000 := by rw [List.length_zip]; omega
    refine lc_ofM (l := rows.zip s) (fun q => .tup [.str q.1, .int (q.2 : Int)]) (fun q => .int ((adv q.1 q.2 c : Nat) : Int)) (sz (by omega)) ?_ (gmono_pair _ _) ?_
    · intro j q hq KA hk
      obtain ⟨h1, h2, h3⟩ := zip_mem hs hq
      have := (hr.get h1).2
      repeat' fail
      rw [cut_one, adv_eq]
      exact hk
    refine st_finF ?_
    rw [zip_spotB]
    repeat' fail
    repeat' fail
    exact q

abbrev N_paper_of : List Str := ["rows", "found", "spot", "behind", "sign"]
theorem sc_paper_of : FnScope N_paper_of ["rows"] (defScope (topS 42)) := ⟨rfl, rfl, rfl, by decide +kernel, rfl, by decide +kernel, by decide +kernel⟩
def S_paper_of (C : Str → Addr) : DSp := fun ds μ Q E => ∃ d, ds = [d] ∧ μ = [] ∧ listOk d ∧ rowsDo d 1000 (fun rows => (sizeR rows ≤ 4096 → Q (papD rows) []) ∧ (4096 < sizeR rows → E (.ref (C "TooMany")) [])) ∧ (isRowsD d = false → E (.ref (C "NoRows")) [])
theorem u_paper_of {C : Str → Addr} {rows : List (List Nat)} {m : Nat} {Q : DQ} {E : FE} (h : Rows rows m) (hl : rows.length ≤ 8 ∧ m ≤ 1000 ∧ sizeR rows ≤ 4096) (q : Q (papD rows) []) : S_paper_of C [.lst (rows.map .str)] [] Q E :=
  ⟨_, rfl, rfl, rows_listOk h (by omega) hl.2.1, rowsDo_of (h.mono hl.2.1) ⟨fun _ => q, fun z => by omega⟩, fun z => by rw [rows_isRows h hl.1] at z; cases z⟩
set_option hygiene false in
local macro_rules | `(tactic| array_get_dec) => `(tactic| ((with_reducible apply u_paper_of); (assumption); (omega)))
theorem ok_paper_of {P : Program} {w : World} {K : PySem.W.Frag} {mg : Str → Option Value} {base : Heap} {C : Str → Addr} (SB : SmB K mg base) (T : Txt K mg C) : Fd P w K mg base "paper_of" 3 (S_paper_of C) := by
  have D_need_rows := ok_need_rows (P := P) (w := w) (base := base) SB T
  have D_need_size := ok_need_size (P := P) (w := w) (base := base) SB T
  have D_all_spots := ok_all_spots (P := P) (w := w) (base := base) SB T
  have D_spot_behind := ok_spot_behind (P := P) (w := w) (base := base) SB T
  have D_next_signs := ok_next_signs (P := P) (w := w) (base := base) SB T
  refine fd_mk T.f_paper_of sc_paper_of ?len (fun f cdv A outer s H E hr tk po => ⟨_, (ws_cons (ws_drop (we_call callP_ok D_need_rows (hr.mono (by decide)) tk (wa_cons (we_var 0) wa_nil)))
  (ws_cons (ws_drop (we_call callP_ok D_need_size (hr.mono (by decide)) tk (wa_cons (we_var 0) wa_nil)))
  (ws_cons (ws_set 1 sc_paper_of.nd (we_dnew true))
  (ws_cons (ws_for po (wi_any (we_call callP_ok D_all_spots (hr.mono (by decide)) tk (wa_cons (we_var 0) wa_nil))) (wg_name 2 sc_paper_of.nd)
  (ws_cons (ws_setLc finF_ok 3 [("sign", 4)] sc_paper_of.nd (wi_any (we_call callP_ok D_next_signs (hr.mono (by decide)) tk (wa_cons (we_var 0) (wa_cons (we_var 2) wa_nil)))) (blkOk_by (own := [("sign", 4)]) (N := N_paper_of) (sc := defScope (topS 42)) (by decide +kernel))
  (fun _ _ _ _ _ => (wg_name 4 sc_paper_of.nd)) (fun _ _ _ _ _ => wts_nil) (fun _ _ _ _ _ => (we_ixD (le_units hr.units) (we_var 1) (we_call callP_ok D_spot_behind (hr.mono (by decide)) takesB (wa_cons (we_var 0) (wa_cons (we_var 2) (wa_cons (we_var 4) wa_nil)))))) (sw_true rfl rfl rfl (by decide +kernel)))
  (ws_one (ws_asg (we_if (wt_cmp (cd_ne hr.units) (we_var 3) (we_lst wa_nil)) (we_bin (bd_add outF_ok) we_int (we_callB ld_minL rfl T.n_min (by decide +kernel) (wa_cons (we_var 3) wa_nil))) we_int) (wg_sub (sd_dct (le_units hr.units)) (we_var 1) (we_var 2))))))
  (ws_one (ws_ret (we_frz (we_var 1)))))))), ?body⟩)
  case' body => clear tk po hr E H s outer A cdv f
  case len => rintro _ _ _ _ ⟨_, rfl, _⟩; rfl
  case body =>
    rintro ds μ Q E' ⟨d, rfl, rfl, hd, q1, q2⟩
    have nd := hd.2.1
    repeat' fail
    · obtain ⟨rows, rfl, hl, hrr⟩ := rowsD_strs (by assumption)
      obtain ⟨hr, q, qe⟩ := q1 rows rfl hl hrr
      have hnc := noCs_sp (allS rows)
      repeat' fail
      · refine ⟨fun i (δ : DS) (μ : Mu) => ∃ d2 d3 d4, δ = [some (.lst (rows.map .str)), some (.cell 0), d2, d3, d4] ∧ μ = [.dct true (((allS rows).take i).map spD) (((allS rows).take i).map fun s => .int (lw (dropS rows s)))], ⟨_, _, _, rfl, rfl⟩, ?_, ?_⟩
        · rintro i d δ μ hd ⟨d2, d3, d4, rfl, rfl⟩
          rw [List.getElem?_map] at hd
          obtain ⟨s, hs, rfl⟩ := Option.map_eq_some_iff.mp hd
          have hok := mem_allS.mp (List.mem_of_getElem? hs)
          have hi := (List.getElem?_eq_some_iff.mp hs).1
          rw [allS_len] at hi
          have hns := noC_sp s
          repeat' fail
          refine lc_chars (l := sg) (fun c => .int (lw (stepR (dropS rows s) c))) (sz (by have := heads_few hsg hmem; omega)) ?_ ?_
          · intro j c hc KA hk
            have hin := (hmem c).mp (List.mem_of_getElem? hc)
            have hlook : lookD (spD (spotB rows s c)) (((allS rows).take i).map spD) (((allS rows).take i).map fun s => .int (lw (dropS rows s))) = some (.int (lw (stepR (dropS rows s) c))) := by
              rw [look_map keq_sp, if_pos (allS_early hs (spotB_ok c hok) (spotB_le c hok) (spotB_ne hin)), dropS_spotB]
            have hkd := isKD_sp (spotB rows s c)
            repeat' fail
            exact hk
          refine st_finF ?_
          have hkd := isKD_sp s
          repeat' fail
          have ln := allS_len rows
          refine st_neNil (fun d hd => ?_) ?_
          · obtain ⟨c, _, rfl⟩ := List.mem_map.mp hd
            trivial
          have hnew := put_new keq_sp (fun s => D.int (lw (dropS rows s) : Int)) (allS_new hs)
          rw [← take_suc hs] at hnew
          have lt : ((allS rows).take i).length ≤ 4096 := by rw [List.length_take]; omega
          repeat' fail
          · have hne : sg ≠ [] := fun z => by
              rw [z] at hb
              exact hb rfl
            refine ⟨_, _, sg.map (fun c => (lw (stepR (dropS rows s) c) : Int)), rfl, rfl, by rw [List.map_map]; rfl, by rw [List.length_map]; exact List.length_pos_iff.mpr hne, fun v h1 h2 => ?_⟩
            have e : 1 + v = (lw (dropS rows s) : Int) := by
              obtain ⟨c, hc, rfl⟩ := List.mem_map.mp h1
              have := lw_of_min (T := dropS rows s) (m := lw (stepR (dropS rows s) c)) hmem ⟨c, hc, rfl⟩ fun d hd => by
                have := h2 _ (List.mem_map.mpr ⟨d, hd, rfl⟩)
                omega
              omega
            repeat' fail
            rw [e]
            refine ⟨_, _, _, rfl, ?_⟩
            show [MO.dct true _ _] = _
            rw [hnew.1, hnew.2]
          · have he : sg = [] := List.map_eq_nil_iff.mp hb
            have e0 : lw (dropS rows s) = 0 := lw_nil.mpr (by
              rw [List.eq_nil_iff_forall_not_mem]
              intro c hc
              have := (hmem c).mpr hc
              rw [he] at this
              cases this)
            rw [e0] at hnew
            repeat' fail
            refine ⟨_, _, _, rfl, ?_⟩
            show [MO.dct true _ _] = _
            rw [hnew.1]
            exact congrArg (fun z => [MO.dct true _ z]) hnew.2
        · rintro δ μ ⟨d2, d3, d4, rfl, rfl⟩
          rw [List.length_map, List.take_length]
          repeat' fail
          have hv : noC (papD rows) = true := noC_pap rows
          repeat' fail
          exact q hsz
      · exact qe (by assumption)
    · exact q2 (by assumption)

abbrev N_first_spot : List Str := ["rows", "row"]
theorem sc_first_spot : FnScope N_first_spot ["rows"] (defScope (topS 44)) := ⟨rfl, rfl, rfl, by decide +kernel, rfl, by decide +kernel, by decide +kernel⟩
def S_first_spot (_ : Str → Addr) : DSp := fun ds μ Q _ => ∃ rows : List (List Nat), ds = [.lst (rows.map .str)] ∧ μ = [] ∧ rows.length ≤ 1000 ∧ Q (spD (zeroS rows)) []
theorem u_first_spot {C : Str → Addr} {rows : List (List Nat)} {Q : DQ} {E : FE} (h : rows.length ≤ 1000) (q : Q (spD (zeroS rows)) []) : S_first_spot C [.lst (rows.map .str)] [] Q E := ⟨_, rfl, rfl, h, q⟩
set_option hygiene false in
local macro_rules | `(tactic| array_get_dec) => `(tactic| ((with_reducible apply u_first_spot); (omega)))
theorem ok_first_spot {P : Program} {w : World} {K : PySem.W.Frag} {mg : Str → Option Value} {base : Heap} {C : Str → Addr} (SB : SmB K mg base) (T : Txt K mg C) : Fd P w K mg base "first_spot" 1 (S_first_spot C) := by
  refine fd_mk T.f_first_spot sc_first_spot ?len (fun f cdv A outer s H E hr tk po => ⟨_, (ws_one (ws_ret (we_callTy ld_tupA rfl T.n_tuple (by decide +kernel) (wa_cons (we_lc finF_ok [("row", 1)] sc_first_spot.nd (wi_any (we_var 0)) (blkOk_by (own := [("row", 1)]) (N := N_first_spot) (sc := defScope (topS 44)) (by decide +kernel))
  (fun _ _ _ _ _ => (wg_name 1 sc_first_spot.nd)) (fun _ _ _ _ _ => wts_nil) (fun _ _ _ _ _ => we_int)) wa_nil)))), ?body⟩)
  case' body => clear tk po hr E H s outer A cdv f
  case len => rintro _ _ _ _ ⟨_, rfl, _⟩; rfl
  case body =>
    rintro ds μ Q E' ⟨rows, rfl, rfl, hl, q⟩
    repeat' fail
    refine lc_strs (l := rows) (fun _ => .int 0) (sz (by omega)) ?_ ?_
    · intro j s hs KA hk
      repeat' fail
      try exact hk
    refine st_finF ?_
    have e : (rows.map fun _ => D.int 0) = natsD (zeroS rows) := by unfold natsD zeroS; rw [List.map_map]; rfl
    rw [e]
    repeat' fail
    exact q

abbrev N_sign_that_keeps : List Str := ["rows", "paper", "spot", "sign"]
theorem sc_sign_that_keeps : FnScope N_sign_that_keeps ["rows", "paper", "spot"] (defScope (topS 45)) := ⟨rfl, rfl, rfl, by decide +kernel, rfl, by decide +kernel, by decide +kernel⟩
def S_sign_that_keeps (_ : Str → Addr) : DSp := fun ds μ Q _ => ∃ rows m s, ds = [.lst (rows.map .str), papD rows, spD s] ∧ μ = [] ∧ Rows rows m ∧ m ≤ 1000 ∧ rows.length ≤ 1000 ∧ spotOk rows s ∧
  (∀ c, fw (dropS rows s) = c :: fw (dropS rows (spotB rows s c)) → Q (.str [c]) []) ∧ (heads (dropS rows s) = [] → Q .non [])
theorem u_sign_that_keeps {C : Str → Addr} {rows : List (List Nat)} {m : Nat} {s : List Nat} {Q : DQ} {E : FE} (h : Rows rows m) (hs : spotOk rows s) (hm : m ≤ 1000 ∧ rows.length ≤ 1000) (hn : heads (dropS rows s) ≠ []) (q : ∀ c, fw (dropS rows s) = c :: fw (dropS rows (spotB rows s c)) → Q (.str [c]) []) :
    S_sign_that_keeps C [.lst (rows.map .str), papD rows, spD s] [] Q E := ⟨_, _, _, rfl, rfl, h, hm.1, hm.2, hs, q, fun z => absurd z hn⟩
set_option hygiene false in
local macro_rules | `(tactic| array_get_dec) => `(tactic| ((with_reducible apply u_sign_that_keeps); (assumption); (assumption); (omega); (assumption)) <;> intro c hfw)
theorem ok_sign_that_keeps {P : Program} {w : World} {K : PySem.W.Frag} {mg : Str → Option Value} {base : Heap} {C : Str → Addr} (SB : SmB K mg base) (T : Txt K mg C) : Fd P w K mg base "sign_that_keeps" 2 (S_sign_that_keeps C) := by
  have D_next_signs := ok_next_signs (P := P) (w := w) (base := base) SB T
  have D_spot_behind := ok_spot_behind (P := P) (w := w) (base := base) SB T
  refine fd_mk T.f_sign_that_keeps sc_sign_that_keeps ?len (fun f cdv A outer s H E hr tk po => ⟨_, (ws_cons (ws_for po (wi_any (we_call callP_ok D_next_signs (hr.mono (by decide)) tk (wa_cons (we_var 0) (wa_cons (we_var 2) wa_nil)))) (wg_name 3 sc_sign_that_keeps.nd)
  (ws_one (ws_if (wt_cmp cd_lt (we_ixD (le_units hr.units) (we_var 1) (we_call callP_ok D_spot_behind (hr.mono (by decide)) tk (wa_cons (we_var 0) (wa_cons (we_var 2) (wa_cons (we_var 3) wa_nil))))) (we_ixD (le_units hr.units) (we_var 1) (we_var 2)))
  (ws_one (ws_ret (we_var 3)))
  ws_nil)))
  (ws_one (ws_ret we_non))), ?body⟩)
  case' body => clear tk po hr E H s outer A cdv f
  case len => rintro _ _ _ _ ⟨_, _, _, rfl, _⟩; rfl
  case body =>
    rintro ds μ Q E' ⟨rows, m, s, rfl, rfl, hr, hm, hl, hs, q, q0⟩
    have hv := noC_pap rows
    repeat' fail
    refine ⟨fun i (δ : DS) (μ : Mu) => ∃ d3, δ = [some (.lst (rows.map .str)), some (papD rows), some (spD s), d3] ∧ μ = [] ∧ ∀ j d, j < i → sg[j]? = some d → ¬ lw (stepR (dropS rows s) d) < lw (dropS rows s), ⟨none, rfl, rfl, fun j d h => by omega⟩, ?_, ?_⟩
    · rintro i d δ μ hd ⟨d3, rfl, rfl, hno⟩
      obtain ⟨c, hc, rfl⟩ := chars_get hd
      have hok := spotB_ok c hs
      repeat' fail
      refine st_pap hok ?_
      repeat' fail
      refine st_pap hs ?_
      repeat' fail
      · rw [dropS_spotB] at hb
        have := q c (by rw [dropS_spotB]; exact keep_first hsg hmem hc (by omega) hno)
        exact this
      · rw [dropS_spotB] at hb
        refine ⟨_, rfl, rfl, fun j d hj hjd => ?_⟩
        by_cases e : j = i
        · subst e
          rw [hc] at hjd
          cases hjd
          omega
        · exact hno j d (by omega) hjd
    · rintro δ μ ⟨d3, rfl, rfl, hno⟩
      rw [chars_length] at hno
      repeat' fail
      refine q0 ?_
      by_cases e : heads (dropS rows s) = []
      · exact e
      · obtain ⟨c, hc, e2⟩ := lw_best e
        obtain ⟨j, hj⟩ := List.getElem?_of_mem ((hmem c).mpr hc)
        exact absurd (lw_step_le.mpr e2) (hno j c (List.getElem?_eq_some_iff.mp hj).1 hj)

abbrev N_weave_on : List Str := ["rows", "paper", "spot", "found", "sign"]
theorem sc_weave_on : FnScope N_weave_on ["rows", "paper", "spot"] (defScope (topS 46)) := ⟨rfl, rfl, rfl, by decide +kernel, rfl, by decide +kernel, by decide +kernel⟩
def S_weave_on (_ : Str → Addr) : DSp := fun ds μ Q _ => ∃ rows m s, ds = [.lst (rows.map .str), papD rows, spD s] ∧ μ = [] ∧ Rows rows m ∧ m ≤ 1000 ∧ rows.length ≤ 8 ∧ spotOk rows s ∧ Q (.str (fw (dropS rows s))) []
theorem u_weave_on {C : Str → Addr} {rows : List (List Nat)} {m : Nat} {s : List Nat} {Q : DQ} {E : FE} (h : Rows rows m) (hs : spotOk rows s) (hm : m ≤ 1000 ∧ rows.length ≤ 8) (q : Q (.str (fw (dropS rows s))) []) :
    S_weave_on C [.lst (rows.map .str), papD rows, spD s] [] Q E := ⟨_, _, _, rfl, rfl, h, hm.1, hm.2, hs, q⟩
set_option hygiene false in
local macro_rules | `(tactic| array_get_dec) => `(tactic| ((with_reducible apply u_weave_on); (assumption); (assumption); (omega)))
theorem ok_weave_on {P : Program} {w : World} {K : PySem.W.Frag} {mg : Str → Option Value} {base : Heap} {C : Str → Addr} (SB : SmB K mg base) (T : Txt K mg C) : Fd P w K mg base "weave_on" 3 (S_weave_on C) := by
  have D_sign_that_keeps := ok_sign_that_keeps (P := P) (w := w) (base := base) SB T
  have D_spot_behind := ok_spot_behind (P := P) (w := w) (base := base) SB T
  refine fd_mk T.f_weave_on sc_weave_on ?len (fun f cdv A outer s H E hr tk po => ⟨_, (ws_cons (ws_set 3 sc_weave_on.nd we_str)
  (ws_cons (ws_while po (wt_cmp cd_gt (we_ixD (le_units hr.units) (we_var 1) (we_var 2)) we_int)
  (ws_cons (ws_set 4 sc_weave_on.nd (we_call callP_ok D_sign_that_keeps (hr.mono (by decide)) tk (wa_cons (we_var 0) (wa_cons (we_var 1) (wa_cons (we_var 2) wa_nil)))))
  (ws_cons (ws_set 2 sc_weave_on.nd (we_call callP_ok D_spot_behind (hr.mono (by decide)) tk (wa_cons (we_var 0) (wa_cons (we_var 2) (wa_cons (we_var 4) wa_nil)))))
  (ws_one (ws_set 3 sc_weave_on.nd (we_bin (bd_add outF_ok) (we_var 3) (we_var 4)))))))
  (ws_one (ws_ret (we_var 3))))), ?body⟩)
  case' body => clear tk po hr E H s outer A cdv f
  case len => rintro _ _ _ _ ⟨_, _, _, rfl, _⟩; rfl
  case body =>
    rintro ds μ Q E' ⟨rows, m, s0, rfl, rfl, hr, hm, hl, hs0, q⟩
    repeat' fail
    refine ⟨fun n (δ : DS) (μ : Mu) => ∃ s f d4, δ = [some (.lst (rows.map .str)), some (papD rows), some (spD s), some (.str f), d4] ∧ μ = [] ∧ spotOk rows s ∧ f ++ fw (dropS rows s) = fw (dropS rows s0) ∧ n = lw (dropS rows s), ⟨_, _, _, _, rfl, rfl, hs0, rfl, rfl⟩, ?_⟩
    rintro n δ μ ⟨s, f, d4, rfl, rfl, hs, e, rfl⟩
    have lf : f.length ≤ 8000 := by
      have e' := congrArg List.length e
      rw [List.length_append, fw_len, fw_len] at e'
      have h1 := lw_le_rem (dropS rows s0)
      have h2 := lw_remS rows s0
      have h3 := rem_rows (hr.mono hm)
      have h4 : rows.length * 1000 ≤ 8 * 1000 := Nat.mul_le_mul_right _ hl
      omega
    repeat' fail
    refine st_pap hs ?_
    repeat' fail
    · have hne : heads (dropS rows s) ≠ [] := fun z => by
        have := lw_nil.mpr z
        omega
      repeat' fail
      refine ⟨lw (dropS rows (spotB rows s c)), ?_, _, _, _, rfl, rfl, spotB_ok c hs, ?_, rfl⟩
      · have e' := congrArg List.length hfw
        rw [List.length_cons, fw_len, fw_len] at e'
        omega
      · rw [← e, hfw, List.append_assoc]
        rfl
    · have h0 : lw (dropS rows s) = 0 := by omega
      rw [fw_nil (lw_nil.mp h0), List.append_nil] at e
      rw [e]
      exact q

abbrev N_least_of : List Str := ["rows"]
theorem sc_least_of : FnScope N_least_of ["rows"] (defScope (topS 47)) := ⟨rfl, rfl, rfl, by decide +kernel, rfl, by decide +kernel, by decide +kernel⟩
def S_least_of (C : Str → Addr) : DSp := fun ds μ Q E => ∃ d, ds = [d] ∧ μ = [] ∧ listOk d ∧ rowsDo d 1000 (fun rows => (sizeR rows ≤ 4096 → Q (.int (lw rows)) []) ∧ (4096 < sizeR rows → E (.ref (C "TooMany")) [])) ∧ (isRowsD d = false → E (.ref (C "NoRows")) [])
theorem u_least_of {C : Str → Addr} {rows : List (List Nat)} {m : Nat} {Q : DQ} {E : FE} (h : Rows rows m) (hl : rows.length ≤ 8 ∧ m ≤ 1000 ∧ sizeR rows ≤ 4096) (q : Q (.int (lw rows)) []) : S_least_of C [.lst (rows.map .str)] [] Q E :=
  ⟨_, rfl, rfl, rows_listOk h (by omega) hl.2.1, rowsDo_of (h.mono hl.2.1) ⟨fun _ => q, fun z => by omega⟩, fun z => by rw [rows_isRows h hl.1] at z; cases z⟩
set_option hygiene false in
local macro_rules | `(tactic| array_get_dec) => `(tactic| ((with_reducible apply u_least_of); (assumption); (omega)))
theorem ok_least_of {P : Program} {w : World} {K : PySem.W.Frag} {mg : Str → Option Value} {base : Heap} {C : Str → Addr} (SB : SmB K mg base) (T : Txt K mg C) : Fd P w K mg base "least_of" 4 (S_least_of C) := by
  have D_need_rows := ok_need_rows (P := P) (w := w) (base := base) SB T
  have D_need_size := ok_need_size (P := P) (w := w) (base := base) SB T
  have D_paper_of := ok_paper_of (P := P) (w := w) (base := base) SB T
  have D_first_spot := ok_first_spot (P := P) (w := w) (base := base) SB T
  refine fd_mk T.f_least_of sc_least_of ?len (fun f cdv A outer s H E hr tk po => ⟨_, (ws_cons (ws_drop (we_call callP_ok D_need_rows (hr.mono (by decide)) tk (wa_cons (we_var 0) wa_nil)))
  (ws_cons (ws_drop (we_call callP_ok D_need_size (hr.mono (by decide)) tk (wa_cons (we_var 0) wa_nil)))
  (ws_one (ws_ret (we_ixD (le_units hr.units) (we_call callP_ok D_paper_of (hr.mono (by decide)) tk (wa_cons (we_var 0) wa_nil)) (we_call callP_ok D_first_spot (hr.mono (by decide)) tk (wa_cons (we_var 0) wa_nil))))))), ?body⟩)
  case' body => clear tk po hr E H s outer A cdv f
  case len => rintro _ _ _ _ ⟨_, rfl, _⟩; rfl
  case body =>
    rintro ds μ Q E' ⟨d, rfl, rfl, hd, q1, q2⟩
    have nd := hd.2.1
    repeat' fail
    · obtain ⟨rows, rfl, hl, hrr⟩ := rowsD_strs (by assumption)
      obtain ⟨hr, q, qe⟩ := q1 rows rfl hl hrr
      have hv := noC_pap rows
      repeat' fail
      · skip
        refine st_pap (zeroS_ok rows) ?_
        rw [dropS_zero]
        repeat' fail
        exact q hsz
      · exact qe (by assumption)
    · exact q2 (by assumption)

abbrev N_weave_of : List Str := ["rows"]
theorem sc_weave_of : FnScope N_weave_of ["rows"] (defScope (topS 48)) := ⟨rfl, rfl, rfl, by decide +kernel, rfl, by decide +kernel, by decide +kernel⟩
def S_weave_of (C : Str → Addr) : DSp := fun ds μ Q E => ∃ d, ds = [d] ∧ μ = [] ∧ listOk d ∧ rowsDo d 1000 (fun rows => (sizeR rows ≤ 4096 → Q (.str (fw rows)) []) ∧ (4096 < sizeR rows → E (.ref (C "TooMany")) [])) ∧ (isRowsD d = false → E (.ref (C "NoRows")) [])
theorem u_weave_of {C : Str → Addr} {rows : List (List Nat)} {m : Nat} {Q : DQ} {E : FE} (h : Rows rows m) (hl : rows.length ≤ 8 ∧ m ≤ 1000 ∧ sizeR rows ≤ 4096) (q : Q (.str (fw rows)) []) : S_weave_of C [.lst (rows.map .str)] [] Q E :=
  ⟨_, rfl, rfl, rows_listOk h (by omega) hl.2.1, rowsDo_of (h.mono hl.2.1) ⟨fun _ => q, fun z => by omega⟩, fun z => by rw [rows_isRows h hl.1] at z; cases z⟩
set_option hygiene false in
local macro_rules | `(tactic| array_get_dec) => `(tactic| ((with_reducible apply u_weave_of); (assumption); (omega)))
theorem ok_weave_of {P : Program} {w : World} {K : PySem.W.Frag} {mg : Str → Option Value} {base : Heap} {C : Str → Addr} (SB : SmB K mg base) (T : Txt K mg C) : Fd P w K mg base "weave_of" 4 (S_weave_of C) := by
  have D_need_rows := ok_need_rows (P := P) (w := w) (base := base) SB T
  have D_need_size := ok_need_size (P := P) (w := w) (base := base) SB T
  have D_weave_on := ok_weave_on (P := P) (w := w) (base := base) SB T
  have D_paper_of := ok_paper_of (P := P) (w := w) (base := base) SB T
  have D_first_spot := ok_first_spot (P := P) (w := w) (base := base) SB T
  refine fd_mk T.f_weave_of sc_weave_of ?len (fun f cdv A outer s H E hr tk po => ⟨_, (ws_cons (ws_drop (we_call callP_ok D_need_rows (hr.mono (by decide)) tk (wa_cons (we_var 0) wa_nil)))
  (ws_cons (ws_drop (we_call callP_ok D_need_size (hr.mono (by decide)) tk (wa_cons (we_var 0) wa_nil)))
  (ws_one (ws_ret (we_call callP_ok D_weave_on (hr.mono (by decide)) tk (wa_cons (we_var 0) (wa_cons (we_call callP_ok D_paper_of (hr.mono (by decide)) tk (wa_cons (we_var 0) wa_nil)) (wa_cons (we_call callP_ok D_first_spot (hr.mono (by decide)) tk (wa_cons (we_var 0) wa_nil)) wa_nil)))))))), ?body⟩)
  case' body => clear tk po hr E H s outer A cdv f
  case len => rintro _ _ _ _ ⟨_, rfl, _⟩; rfl
  case body =>
    rintro ds μ Q E' ⟨d, rfl, rfl, hd, q1, q2⟩
    have nd := hd.2.1
    repeat' fail
    · obtain ⟨rows, rfl, hl, hrr⟩ := rowsD_strs (by assumption)
      obtain ⟨hr, q, qe⟩ := q1 rows rfl hl hrr
      have hv := noC_pap rows
      have hz := zeroS_ok rows
      repeat' fail
      · skip
        rw [dropS_zero]
        repeat' fail
        exact q hsz
      · exact qe (by assumption)
    · exact q2 (by assumption)

abbrev N__law_mixed : List Str := ["_law_cell", "_law_k", "_law_number"]
theorem sc__law_mixed : FnScope N__law_mixed ["_law_cell", "_law_k"] (defScope (topS 50)) := ⟨rfl, rfl, rfl, by decide +kernel, rfl, by decide +kernel, by decide +kernel⟩
def S__law_mixed (_ : Str → Addr) : DSp := fun ds μ Q _ => ∃ c k : Int, ds = [.int c, .int k] ∧ μ = [] ∧ ∀ r : Int, 0 ≤ r → Q (.int r) []
theorem u__law_mixed {C : Str → Addr} {c k : Int} {Q : DQ} {E : FE} (q : ∀ r : Int, 0 ≤ r → Q (.int r) []) : S__law_mixed C [.int c, .int k] [] Q E := ⟨c, k, rfl, rfl, q⟩
set_option hygiene false in
local macro_rules | `(tactic| array_get_dec) => `(tactic| ((with_reducible apply u__law_mixed)) <;> intro mx mx0)
theorem ok__law_mixed {P : Program} {w : World} {K : PySem.W.Frag} {mg : Str → Option Value} {base : Heap} {C : Str → Addr} (SB : SmB K mg base) (T : Txt K mg C) : Fd P w K mg base "_law_mixed" 1 (S__law_mixed C) := by
  refine fd_mk T.f__law_mixed sc__law_mixed ?len (fun f cdv A outer s H E hr tk po => ⟨_, (ws_cons (ws_set 2 sc__law_mixed.nd (we_bin bd_mod (we_bin (bd_mul outF_ok) (we_bin (bd_add outF_ok) (we_bin (bd_add outF_ok) (we_bin bd_mod (we_var 0) we_int) (we_bin (bd_mul outF_ok) we_int (we_var 1))) we_int) we_int) we_int))
  (ws_cons (ws_set 2 sc__law_mixed.nd (we_bin bd_mod (we_bin (bd_mul outF_ok) (we_var 2) (we_var 2)) we_int))
  (ws_one (ws_ret (we_bin bd_fdv (we_bin bd_mod (we_bin (bd_mul outF_ok) (we_bin (bd_add outF_ok) (we_var 2) (we_bin (bd_mul outF_ok) we_int (we_bin (bd_add outF_ok) (we_var 1) we_int))) we_int) we_int) we_int))))), ?body⟩)
  case' body => clear tk po hr E H s outer A cdv f
  case len => rintro _ _ _ _ ⟨_, _, rfl, _⟩; rfl
  case body =>
    rintro ds μ Q E' ⟨c, k, rfl, rfl, q⟩
    have m1 : ∀ i j : Int, 0 < j → 0 ≤ Int.fmod i j ∧ Int.fmod i j < j := fun i j h => by
      rw [fmod_pos h]
      exact ⟨Int.emod_nonneg _ (by omega), Int.emod_lt_of_pos _ h⟩
    repeat' fail
    obtain ⟨a1, a2⟩ := m1 ((Int.fmod c 2147483647 + 7919 * k + 1) * 48271) 2147483647 (by decide)
    generalize Int.fmod ((Int.fmod c 2147483647 + 7919 * k + 1) * 48271) 2147483647 = n1 at a1 a2 ⊢
    repeat' fail
    refine q _ ?_
    rw [fdiv_pos (by decide)]
    have := (m1 ((Int.fmod (n1 * n1) 2147483629 + 40692 * (k + 3)) * 69621) 2147483579 (by decide)).1
    omega

abbrev N__law_pot : List Str := ["_law_cell"]
theorem sc__law_pot : FnScope N__law_pot ["_law_cell"] (defScope (topS 51)) := ⟨rfl, rfl, rfl, by decide +kernel, rfl, by decide +kernel, by decide +kernel⟩
def S__law_pot (_ : Str → Addr) : DSp := fun ds μ Q _ => ∃ c : Int, ds = [.int c] ∧ μ = [] ∧ ∀ o, PotB o → Q (.cell 0) [o]
theorem u__law_pot {C : Str → Addr} {c : Int} {Q : DQ} {E : FE} (q : ∀ o, PotB o → Q (.cell 0) [o]) : S__law_pot C [.int c] [] Q E := ⟨c, rfl, rfl, q⟩
set_option hygiene false in
local macro_rules | `(tactic| array_get_dec) => `(tactic| with_reducible apply u__law_pot)
theorem ok__law_pot {P : Program} {w : World} {K : PySem.W.Frag} {mg : Str → Option Value} {base : Heap} {C : Str → Addr} (SB : SmB K mg base) (T : Txt K mg C) : Fd P w K mg base "_law_pot" 1 (S__law_pot C) := by
  refine fd_mk T.f__law_pot sc__law_pot ?len (fun f cdv A outer s H E hr tk po => ⟨_, (ws_one (ws_ret (we_lstC (wa_cons (we_bin (bd_mul outF_ok) (we_bin bd_mod (we_var 0) (we_bin bd_mulB (we_bin bd_mulB (we_bin bd_mulB (we_bin bd_pow we_int we_int) (we_bin bd_pow we_int we_int)) (we_bin bd_pow we_int we_int)) (we_bin bd_pow we_int we_int))) (we_callTy ld_int rfl T.n_int (by decide +kernel) (wa_cons (we_cmp cd_ge (we_var 0) (we_bin bd_pow we_int we_int)) wa_nil))) (wa_cons (we_var 0) (wa_cons we_int wa_nil)))))), ?body⟩)
  case' body => clear tk po hr E H s outer A cdv f
  case len => rintro _ _ _ _ ⟨_, rfl, _⟩; rfl
  case body =>
    rintro ds μ Q E' ⟨c, rfl, rfl, q⟩
    repeat' fail
    refine st_mulB (by unfold PySem.IntMulOk; decide +kernel) ?_
    repeat' fail
    refine st_mulB (by unfold PySem.IntMulOk; decide +kernel) ?_
    repeat' fail
    refine st_mulB (by unfold PySem.IntMulOk; decide +kernel) ?_
    refine st_mod (by decide +kernel) ?_
    repeat' fail
    all_goals exact q _ ⟨_, _, _, rfl⟩

abbrev N__law_take : List Str := ["_law_pot_here", "_law_many", "_law_told"]
theorem sc__law_take : FnScope N__law_take ["_law_pot_here", "_law_many"] (defScope (topS 52)) := ⟨rfl, rfl, rfl, by decide +kernel, rfl, by decide +kernel, by decide +kernel⟩
def S__law_take (_ : Str → Addr) : DSp := fun ds μ Q _ => ∃ (o : MO) (many : Int), ds = [.cell 0, .int many] ∧ μ = [o] ∧ PotB o ∧ 0 < many ∧ many < 10000000 ∧ ∀ (r : Int) (o' : MO), 0 ≤ r → r < many → PotB o' → Q (.int r) [o']
theorem u__law_take {C : Str → Addr} {o : MO} {many : Int} {Q : DQ} {E : FE} (W : PotB o) (h : 0 < many ∧ many < 10000000) (q : ∀ (r : Int) (o' : MO), 0 ≤ r → r < many → PotB o' → Q (.int r) [o']) : S__law_take C [.cell 0, .int many] [o] Q E := ⟨o, many, rfl, rfl, W, h.1, h.2, q⟩
set_option hygiene false in
local macro_rules | `(tactic| array_get_dec) => `(tactic| ((with_reducible apply u__law_take); (assumption); (omega)))
theorem ok__law_take {P : Program} {w : World} {K : PySem.W.Frag} {mg : Str → Option Value} {base : Heap} {C : Str → Addr} (SB : SmB K mg base) (T : Txt K mg C) : Fd P w K mg base "_law_take" 2 (S__law_take C) := by
  have D__law_mixed := ok__law_mixed (P := P) (w := w) (base := base) SB T
  refine fd_mk T.f__law_take sc__law_take ?len (fun f cdv A outer s H E hr tk po => ⟨_, (ws_cons (ws_asg (we_bin (bd_add outF_ok) (we_ix id_ix (we_var 0) we_int) we_int) (wg_sub sd_lst (we_var 0) we_int))
  (ws_cons (ws_if (wt_cmp cd_gt (we_ix id_ix (we_var 0) we_int) we_int)
  (ws_cons (ws_set 2 sc__law_take.nd (we_bin bd_mod (we_ix id_ix (we_var 0) we_int) (we_var 1)))
  (ws_cons (ws_asg (we_bin bd_fdv (we_ix id_ix (we_var 0) we_int) (we_var 1)) (wg_sub sd_lst (we_var 0) we_int))
  (ws_one (ws_ret (we_var 2)))))
  ws_nil)
  (ws_one (ws_ret (we_bin bd_mod (we_call callP_ok D__law_mixed (hr.mono (by decide)) tk (wa_cons (we_ix id_ix (we_var 0) we_int) (wa_cons (we_ix id_ix (we_var 0) we_int) wa_nil))) (we_var 1)))))), ?body⟩)
  case' body => clear tk po hr E H s outer A cdv f
  case len => rintro _ _ _ _ ⟨_, _, rfl, _⟩; rfl
  case body =>
    rintro ds μ Q E' ⟨o, many, rfl, rfl, ⟨a, b, c, rfl⟩, m0, m1, q⟩
    have fm : ∀ i : Int, 0 ≤ Int.fmod i many ∧ Int.fmod i many < many := fun i => by
      rw [fmod_pos m0]
      exact ⟨Int.emod_nonneg _ (by omega), Int.emod_lt_of_pos _ m0⟩
    repeat' fail
    · exact q _ _ (fm _).1 (fm _).2 ⟨_, _, _, rfl⟩
    · exact q _ _ (fm _).1 (fm _).2 ⟨_, _, _, rfl⟩

abbrev N__law_some_letters : List Str := ["_law_pot_here", "_law_left", "_law_many", "_law_k"]
theorem sc__law_some_letters : FnScope N__law_some_letters ["_law_pot_here"] (defScope (topS 53)) := ⟨rfl, rfl, rfl, by decide +kernel, rfl, by decide +kernel, by decide +kernel⟩
def S__law_some_letters (_ : Str → Addr) : DSp := fun ds μ Q _ => ∃ (o : MO), ds = [.cell 0] ∧ μ = [o] ∧ PotB o ∧ ∀ (s : List Nat) (o' : MO), isRow s = true → s ≠ [] → s.length ≤ 26 → PotB o' → Q (.str s) [o']
theorem u__law_some_letters {C : Str → Addr} {o : MO} {Q : DQ} {E : FE} (W : PotB o) (q : ∀ (s : List Nat) (o' : MO), isRow s = true → s ≠ [] → s.length ≤ 26 → PotB o' → Q (.str s) [o']) : S__law_some_letters C [.cell 0] [o] Q E := ⟨o, rfl, rfl, W, q⟩
set_option hygiene false in
local macro_rules | `(tactic| array_get_dec) => `(tactic| ((with_reducible apply u__law_some_letters); (assumption)))
theorem ones_perm {ts : List (List Nat)} {cs : List Nat} (h : ts.Perm (cs.map fun c => [c])) : ∃ cs' : List Nat, ts = cs'.map (fun c => [c]) ∧ cs'.Perm cs := by
  refine ⟨ts.map fun t => t.headD 0, ?_, ?_⟩
  · rw [List.map_map]
    conv => lhs; rw [← List.map_id ts]
    refine List.map_congr_left fun t ht => ?_
    obtain ⟨c, _, rfl⟩ := List.mem_map.mp (h.mem_iff.mp ht)
    rfl
  · have := h.map (fun t => t.headD 0)
    rw [List.map_map] at this
    have e : (cs.map ((fun t : List Nat => t.headD 0) ∘ fun c => [c])) = cs := by
      conv => rhs; rw [← List.map_id cs]
      exact List.map_congr_left fun c _ => rfl
    rw [e] at this
    exact this
theorem ok__law_some_letters {P : Program} {w : World} {K : PySem.W.Frag} {mg : Str → Option Value} {base : Heap} {C : Str → Addr} (SB : SmB K mg base) (T : Txt K mg C) : Fd P w K mg base "_law_some_letters" 3 (S__law_some_letters C) := by
  have D__law_take := ok__law_take (P := P) (w := w) (base := base) SB T
  refine fd_mk T.f__law_some_letters sc__law_some_letters ?len (fun f cdv A outer s H E hr tk po => ⟨_, (ws_cons (ws_set 1 sc__law_some_letters.nd (we_callTy (ld_listA outC_ok) rfl T.n_list (by decide +kernel) (wa_cons we_str wa_nil)))
  (ws_cons (ws_set 2 sc__law_some_letters.nd (we_ix id_ix (we_lst (wa_cons we_int (wa_cons we_int (wa_cons we_int (wa_cons we_int (wa_cons we_int wa_nil)))))) (we_call callW_ok D__law_take (hr.mono (by decide)) tk (wa_cons (we_var 0) (wa_cons we_int wa_nil)))))
  (ws_one (ws_ret (we_bm .str md_join PySem.F.plainAttrs_str PySem.F.slot_str_join PySem.F.type_str_join we_str (wa_cons (we_callB (ld_sorted outF_ok) rfl T.n_sorted (by decide +kernel) (wa_cons (we_lc finF_ok [("_law_k", 3)] sc__law_some_letters.nd (wi_rng1 T.n_range (wa_cons (we_var 2) wa_nil)) (blkOk_by (own := [("_law_k", 3)]) (N := N__law_some_letters) (sc := defScope (topS 53)) (by decide +kernel))
  (fun _ _ _ _ _ => (wg_name 3 sc__law_some_letters.nd)) (fun _ _ _ _ _ => wts_nil) (fun _ _ _ _ _ => (we_bm .lst md_popAt PySem.F.plainAttrs_list PySem.F.slot_list_pop PySem.F.type_list_pop (we_var 1) (wa_cons (we_call callW_ok D__law_take (hr.mono (by decide)) takesB (wa_cons (we_var 0) (wa_cons (we_callB ld_len rfl T.n_len (by decide +kernel) (wa_cons (we_var 1) wa_nil)) wa_nil))) wa_nil)))) wa_nil)) wa_nil)))))), ?body⟩)
  case' body => clear tk po hr E H s outer A cdv f
  case len => rintro _ _ _ _ ⟨_, rfl, _⟩; rfl
  case body =>
    rintro ds μ Q E' ⟨o, rfl, rfl, ho, q⟩
    have hsz : ("abcdefghijklmnopqrstuvwxyz" : Str).cps.toList.length ≤ sizeLine := by rw [abc_len]; exact sz (by decide)
    repeat' fail
    intro r o1 r0 r1 h1
    obtain ⟨m, hm, m0, m1⟩ : ∃ b : Nat, atI [D.int 1, D.int 2, D.int 2, D.int 3, D.int 26] r = some (.int (b : Int)) ∧ 0 < b ∧ b ≤ 26 := by
      have : r = 0 ∨ r = 1 ∨ r = 2 ∨ r = 3 ∨ r = 4 := by omega
      rcases this with rfl | rfl | rfl | rfl | rfl
      · exact ⟨1, rfl, by decide⟩
      · exact ⟨2, rfl, by decide⟩
      · exact ⟨2, rfl, by decide⟩
      · exact ⟨3, rfl, by decide⟩
      · exact ⟨26, rfl, by decide⟩
    repeat' fail
    refine st_ixL rfl rfl hm ?_
    repeat' fail
    refine ⟨fun i acc (μ' : Mu) => ∃ (o2 : MO) (left cs : List Nat), μ' = [o2, .lst (chars left)] ∧ PotB o2 ∧ left.length + i = 26 ∧ isRow left = true ∧ acc = (cs.map fun c => [c]).map .str ∧ cs.length = i ∧ isRow cs = true, ⟨o1, _, [], rfl, h1, by rw [abc_len], abc_row, rfl, rfl, rfl⟩, ?_, ?_⟩
    · rintro i d acc μ' hd ⟨o2, left, cs, rfl, h2, hl, rl, rfl, hc, rc⟩
      obtain ⟨hi, rfl⟩ := rangeD_get hd
      have hcl := chars_length left
      have hz : ((cs.map fun c => [c]).map D.str).length < sizeLine := by rw [List.length_map, List.length_map]; exact szl (by omega)
      repeat' fail
      intro k o3 k0 k1 h3
      obtain ⟨c, hc', hm⟩ := chr_at (s := left) (m := left.length) k0 (by omega) (Nat.le_refl _)
      have hk : left[k.toNat]? = some c := by
        rw [show k = ((k.toNat : Nat) : Int) by omega] at hc'
        unfold atI at hc'
        rw [ixN_nat (by omega)] at hc'
        exact hc'
      have hk2 : (chars left)[k.toNat]? = some (.str [c]) := by unfold chars; rw [List.getElem?_map, hk]; rfl
      repeat' fail
      refine st_popAt rfl (by omega) hk2 ?_
      repeat' fail
      refine ⟨hz, o3, left.eraseIdx k.toNat, cs ++ [c], ?_, h3, ?_, isRow_sub rl fun _ hx => List.mem_of_mem_eraseIdx hx, by simp, by simp [hc], isRow_app rc (isRow_one (isRow_mem rl hm))⟩
      · rw [← chars_erase]
        rfl
      · rw [List.length_eraseIdx, if_pos (get_lt hk)]
        omega
    · rintro acc μ' ⟨o2, left, cs, rfl, h2, hl, rl, rfl, hc, rc⟩
      rw [rangeD_length] at hc
      repeat' fail
      refine st_sortedS (ss := cs.map fun c => [c]) rfl (by rw [List.length_map]; omega) fun ts hp _ => ?_
      obtain ⟨cs', rfl, hp'⟩ := ones_perm hp
      have hl' := hp'.length_eq
      repeat' fail
      refine join_chars (by omega) ?_
      repeat' fail
      refine q _ _ (isRow_sub rc fun x hx => hp'.mem_iff.mp hx) ?_ (by omega) h2
      rintro rfl
      simp at hl'
      omega

abbrev N__law_text : List Str := ["_law_pot_here", "_law_letters", "_law_many", "_law_k"]
theorem sc__law_text : FnScope N__law_text ["_law_pot_here", "_law_letters", "_law_many"] (defScope (topS 54)) := ⟨rfl, rfl, rfl, by decide +kernel, rfl, by decide +kernel, by decide +kernel⟩
def S__law_text (_ : Str → Addr) : DSp := fun ds μ Q _ => ∃ (o : MO) (ls : List Nat) (most : Int), ds = [.cell 0, .str ls, .int most] ∧ μ = [o] ∧ PotB o ∧ isRow ls = true ∧ ls ≠ [] ∧ ls.length ≤ 26 ∧ 0 ≤ most ∧ most ≤ 1000 ∧ ∀ (s : List Nat) (o' : MO), isRow s = true → (s.length : Int) = most → PotB o' → Q (.str s) [o']
theorem u__law_text {C : Str → Addr} {o : MO} {ls : List Nat} {most : Int} {Q : DQ} {E : FE} (W : PotB o) (h1 : isRow ls = true) (h2 : ls ≠ []) (h3 : ls.length ≤ 26 ∧ 0 ≤ most ∧ most ≤ 1000) (q : ∀ (s : List Nat) (o' : MO), isRow s = true → (s.length : Int) = most → PotB o' → Q (.str s) [o']) : S__law_text C [.cell 0, .str ls, .int most] [o] Q E := ⟨o, ls, most, rfl, rfl, W, h1, h2, h3.1, h3.2.1, h3.2.2, q⟩
set_option hygiene false in
local macro_rules | `(tactic| array_get_dec) => `(tactic| ((with_reducible apply u__law_text); (assumption); (assumption); (assumption); (omega)))
theorem ok__law_text {P : Program} {w : World} {K : PySem.W.Frag} {mg : Str → Option Value} {base : Heap} {C : Str → Addr} (SB : SmB K mg base) (T : Txt K mg C) : Fd P w K mg base "_law_text" 3 (S__law_text C) := by
  have D__law_take := ok__law_take (P := P) (w := w) (base := base) SB T
  refine fd_mk T.f__law_text sc__law_text ?len (fun f cdv A outer s H E hr tk po => ⟨_, (ws_one (ws_ret (we_bm .str md_join PySem.F.plainAttrs_str PySem.F.slot_str_join PySem.F.type_str_join we_str (wa_cons (we_lc finF_ok [("_law_k", 3)] sc__law_text.nd (wi_rng1 T.n_range (wa_cons (we_var 2) wa_nil)) (blkOk_by (own := [("_law_k", 3)]) (N := N__law_text) (sc := defScope (topS 54)) (by decide +kernel))
  (fun _ _ _ _ _ => (wg_name 3 sc__law_text.nd)) (fun _ _ _ _ _ => wts_nil) (fun _ _ _ _ _ => (we_ix id_ix (we_var 1) (we_call callW_ok D__law_take (hr.mono (by decide)) takesB (wa_cons (we_var 0) (wa_cons (we_callB ld_len rfl T.n_len (by decide +kernel) (wa_cons (we_var 1) wa_nil)) wa_nil)))))) wa_nil)))), ?body⟩)
  case' body => clear tk po hr E H s outer A cdv f
  case len => rintro _ _ _ _ ⟨_, _, _, rfl, _⟩; rfl
  case body =>
    rintro ds μ Q E' ⟨o, ls, most, rfl, rfl, ho, rl, ne, ll, m0, m1, q⟩
    have hl0 : 0 < ls.length := List.length_pos_iff.mpr ne
    repeat' fail
    refine ⟨fun j acc (μ' : Mu) => ∃ (o4 : MO) (cs : List Nat), μ' = [o4] ∧ PotB o4 ∧ acc = (cs.map fun c => [c]).map .str ∧ cs.length = j ∧ isRow cs = true, ⟨o, [], rfl, ho, rfl, rfl, rfl⟩, ?_, ?_⟩
    · rintro j d acc μ' hd ⟨o4, cs, rfl, h4, rfl, hc, rc⟩
      obtain ⟨hj, rfl⟩ := rangeD_get hd
      have hz : ((cs.map fun c => [c]).map D.str).length < sizeLine := by rw [List.length_map, List.length_map]; exact szl (by omega)
      repeat' fail
      intro k o5 k0 k1 h5
      obtain ⟨c, hc', hm⟩ := chr_at (s := ls) (m := ls.length) k0 (by omega) (Nat.le_refl _)
      repeat' fail
      refine st_ixS (sz (by omega)) hc' ?_
      exact ⟨hz, o5, cs ++ [c], rfl, h5, by simp, by simp [hc], isRow_app rc (isRow_one (isRow_mem rl hm))⟩
    · rintro acc μ' ⟨o4, cs, rfl, h4, rfl, hc, rc⟩
      rw [rangeD_length] at hc
      repeat' fail
      refine join_chars (by omega) ?_
      repeat' fail
      exact q _ _ rc (by omega) h4

abbrev N__law_pieces : List Str := ["_law_pot_here", "_law_letters", "_law_most", "_law_left", "_law_found", "_law_k", "_law_many"]
theorem sc__law_pieces : FnScope N__law_pieces ["_law_pot_here", "_law_letters", "_law_most"] (defScope (topS 55)) := ⟨rfl, rfl, rfl, by decide +kernel, rfl, by decide +kernel, by decide +kernel⟩
def S__law_pieces (_ : Str → Addr) : DSp := fun ds μ Q _ => ∃ (o : MO) (ls : List Nat) (most : Int), ds = [.cell 0, .str ls, .int most] ∧ μ = [o] ∧ PotB o ∧ isRow ls = true ∧ ls ≠ [] ∧ ls.length ≤ 26 ∧ 0 ≤ most ∧ most ≤ 40 ∧ ∀ (ps : List (List Nat)) (o' : MO), Pcs ps → (ps.flatten.length : Int) ≤ most → PotB o' → Q (.lst (ps.map .str)) [o']
theorem u__law_pieces {C : Str → Addr} {o : MO} {ls : List Nat} {most : Int} {Q : DQ} {E : FE} (W : PotB o) (h1 : isRow ls = true) (h2 : ls ≠ []) (h3 : ls.length ≤ 26 ∧ 0 ≤ most ∧ most ≤ 40) (q : ∀ (ps : List (List Nat)) (o' : MO), Pcs ps → (ps.flatten.length : Int) ≤ most → PotB o' → Q (.lst (ps.map .str)) [o']) : S__law_pieces C [.cell 0, .str ls, .int most] [o] Q E := ⟨o, ls, most, rfl, rfl, W, h1, h2, h3.1, h3.2.1, h3.2.2, q⟩
set_option hygiene false in
local macro_rules | `(tactic| array_get_dec) => `(tactic| ((with_reducible apply u__law_pieces); (assumption); (assumption); (assumption); (omega)))
theorem ok__law_pieces {P : Program} {w : World} {K : PySem.W.Frag} {mg : Str → Option Value} {base : Heap} {C : Str → Addr} (SB : SmB K mg base) (T : Txt K mg C) : Fd P w K mg base "_law_pieces" 4 (S__law_pieces C) := by
  have D__law_take := ok__law_take (P := P) (w := w) (base := base) SB T
  have D__law_text := ok__law_text (P := P) (w := w) (base := base) SB T
  refine fd_mk T.f__law_pieces sc__law_pieces ?len (fun f cdv A outer s H E hr tk po => ⟨_, (ws_cons (ws_set 3 sc__law_pieces.nd (we_var 2))
  (ws_cons (ws_set 4 sc__law_pieces.nd (we_lstC wa_nil))
  (ws_cons (ws_for po (wi_rng1 T.n_range (wa_cons (we_ix id_ix (we_lst (wa_cons we_int (wa_cons we_int (wa_cons we_int (wa_cons (we_call callW_ok D__law_take (hr.mono (by decide)) tk (wa_cons (we_var 0) (wa_cons we_int wa_nil))) wa_nil))))) (we_call callW_ok D__law_take (hr.mono (by decide)) tk (wa_cons (we_var 0) (wa_cons we_int wa_nil)))) wa_nil)) (wg_name 5 sc__law_pieces.nd)
  (ws_cons (ws_set 6 sc__law_pieces.nd (we_callB ld_min2 rfl T.n_min (by decide +kernel) (wa_cons (we_var 3) (wa_cons (we_bin (bd_add outF_ok) we_int (we_call callW_ok D__law_take (hr.mono (by decide)) tk (wa_cons (we_var 0) (wa_cons (we_ix id_ix (we_lst (wa_cons we_int (wa_cons we_int (wa_cons we_int (wa_cons we_int wa_nil))))) (we_call callW_ok D__law_take (hr.mono (by decide)) tk (wa_cons (we_var 0) (wa_cons we_int wa_nil)))) wa_nil)))) wa_nil))))
  (ws_cons (ws_if (wt_cmp cd_gt (we_var 6) we_int)
  (ws_one (ws_drop (we_bm .lst md_append PySem.F.plainAttrs_list PySem.F.slot_list_append PySem.F.type_list_append (we_var 4) (wa_cons (we_call callW_ok D__law_text (hr.mono (by decide)) tk (wa_cons (we_var 0) (wa_cons (we_var 1) (wa_cons (we_var 6) wa_nil)))) wa_nil))))
  ws_nil)
  (ws_one (ws_set 3 sc__law_pieces.nd (we_bin bd_sub (we_var 3) (we_var 6)))))))
  (ws_one (ws_ret (we_frz (we_var 4))))))), ?body⟩)
  case' body => clear tk po hr E H s outer A cdv f
  case len => rintro _ _ _ _ ⟨_, _, _, rfl, _⟩; rfl
  case body =>
    rintro ds μ Q E' ⟨o, ls, most, rfl, rfl, ho, rl, ne, ll, m0, m1, q⟩
    have hl0 : 0 < ls.length := List.length_pos_iff.mpr ne
    repeat' fail
    intro a o1 a0 a1 h1
    repeat' fail
    intro b o2 b0 b1 h2
    obtain ⟨m, hm, hm1⟩ : ∃ m : Nat, atI [D.int 1, D.int 2, D.int 3, D.int a] b = some (.int (m : Int)) ∧ m ≤ 40 := by
      have : b = 0 ∨ b = 1 ∨ b = 2 ∨ b = 3 := by omega
      rcases this with rfl | rfl | rfl | rfl
      · exact ⟨1, rfl, by decide⟩
      · exact ⟨2, rfl, by decide⟩
      · exact ⟨3, rfl, by decide⟩
      · exact ⟨a.toNat, by rw [Int.toNat_of_nonneg a0]; rfl, by omega⟩
    repeat' fail
    refine st_ixL rfl rfl hm ?_
    repeat' fail
    refine ⟨fun i (δ : DS) (μ : Mu) => ∃ (o3 : MO) (left : Int) (ps : List (List Nat)) (d5 d6 : Option D), δ = [some (.cell 0), some (.str ls), some (.int most), some (.int left), some (.cell 1), d5, d6] ∧ μ = [o3, .lst (ps.map .str)] ∧ PotB o3 ∧ (∀ p ∈ ps, isRow p = true ∧ p ≠ []) ∧ 0 ≤ left ∧ (ps.flatten.length : Int) + left ≤ most ∧ ps.length ≤ i, ⟨o2, most, [], _, _, rfl, rfl, h2, (fun _ h => nomatch h), m0, by simp, Nat.zero_le _⟩, ?_, ?_⟩
    · rintro i d δ μ hd ⟨o3, left, ps, d5, d6, rfl, rfl, h3, hp, l0, l1, l2⟩
      obtain ⟨hi, rfl⟩ := rangeD_get hd
      have hzz : (ps.map D.str).length < sizeLine := by rw [List.length_map]; exact szl (by omega)
      repeat' fail
      intro c o4 c0 c1 h4
      obtain ⟨z, hz, z0, z1⟩ : ∃ z : Nat, atI [D.int 1, D.int 3, D.int 12, D.int 40] c = some (.int (z : Int)) ∧ 1 ≤ z ∧ z ≤ 40 := by
        have : c = 0 ∨ c = 1 ∨ c = 2 ∨ c = 3 := by omega
        rcases this with rfl | rfl | rfl | rfl
        · exact ⟨1, rfl, by decide⟩
        · exact ⟨3, rfl, by decide⟩
        · exact ⟨12, rfl, by decide⟩
        · exact ⟨40, rfl, by decide⟩
      repeat' fail
      refine st_ixL rfl rfl hz ?_
      repeat' fail
      intro e o5 e0 e1 h5
      repeat' fail
      obtain ⟨many, em, em1, em2⟩ : ∃ many : Int, (if 1 + e < left then 1 + e else left) = many ∧ many ≤ left ∧ 0 ≤ many := ⟨_, rfl, by split <;> omega, by split <;> omega⟩
      rw [em]
      repeat' fail
      · intro w o6 rw' lw' h6
        repeat' fail
        refine ⟨o6, left - many, ps ++ [w], _, _, rfl, by simp, h6, fun p hm => ?_, by omega, ?_, by simp; omega⟩
        · rcases List.mem_append.mp hm with hm | hm
          · exact hp p hm
          · rw [List.mem_singleton] at hm
            subst hm
            exact ⟨rw', fun z => by rw [z] at lw'; simp at lw'; omega⟩
        · rw [List.flatten_append, List.length_append, List.flatten_cons, List.flatten_nil, List.append_nil]
          omega
      · refine ⟨o5, _, ps, _, _, rfl, rfl, h5, hp, ?_, ?_, ?_⟩ <;> omega
    · rintro δ μ ⟨o3, left, ps, d5, d6, rfl, rfl, h3, hp, l0, l1, l2⟩
      repeat' fail
      exact q _ _ ⟨hp, by omega⟩ (by omega) h3

abbrev N__law_lists : List Str := ["_law_pot_here", "_law_size", "_law_letters", "_law_found", "_law_k", "_law_most", "_law_pieces_here", "_law_piece"]
theorem sc__law_lists : FnScope N__law_lists ["_law_pot_here", "_law_size"] (defScope (topS 56)) := ⟨rfl, rfl, rfl, by decide +kernel, rfl, by decide +kernel, by decide +kernel⟩
def S__law_lists (_ : Str → Addr) : DSp := fun ds μ Q _ => ∃ (o : MO) (z : Int), ds = [.cell 0, .int z] ∧ μ = [o] ∧ PotB o ∧ 1 ≤ z ∧ z ≤ 1000 ∧ ∀ (L : PL) (o' : MO), PcL L → L.length ≤ 3 → sizeA L ≤ 1000 → (sizeA L : Int) ≤ z → PotB o' → Q (.lst (L.map pcD)) [o']
theorem u__law_lists {C : Str → Addr} {o : MO} {z : Int} {Q : DQ} {E : FE} (W : PotB o) (hz : 1 ≤ z ∧ z ≤ 1000) (q : ∀ (L : PL) (o' : MO), PcL L → L.length ≤ 3 → sizeA L ≤ 1000 → (sizeA L : Int) ≤ z → PotB o' → Q (.lst (L.map pcD)) [o']) : S__law_lists C [.cell 0, .int z] [o] Q E := ⟨o, z, rfl, rfl, W, hz.1, hz.2, q⟩
set_option hygiene false in
local macro_rules | `(tactic| array_get_dec) => `(tactic| ((with_reducible apply u__law_lists); (assumption); (omega)))
theorem ok__law_lists {P : Program} {w : World} {K : PySem.W.Frag} {mg : Str → Option Value} {base : Heap} {C : Str → Addr} (SB : SmB K mg base) (T : Txt K mg C) : Fd P w K mg base "_law_lists" 5 (S__law_lists C) := by
  have D__law_some_letters := ok__law_some_letters (P := P) (w := w) (base := base) SB T
  have D__law_pieces := ok__law_pieces (P := P) (w := w) (base := base) SB T
  have D__law_take := ok__law_take (P := P) (w := w) (base := base) SB T
  refine fd_mk T.f__law_lists sc__law_lists ?len (fun f cdv A outer s H E hr tk po => ⟨_, (ws_cons (ws_set 2 sc__law_lists.nd (we_call callW_ok D__law_some_letters (hr.mono (by decide)) tk (wa_cons (we_var 0) wa_nil)))
  (ws_cons (ws_set 3 sc__law_lists.nd (we_lstC wa_nil))
  (ws_cons (ws_for po (wi_rng1 T.n_range (wa_cons (we_ix id_ix (we_lst (wa_cons (we_call callW_ok D__law_take (hr.mono (by decide)) tk (wa_cons (we_var 0) (wa_cons we_int wa_nil))) (wa_cons we_int (wa_cons we_int (wa_cons we_int wa_nil))))) (we_call callW_ok D__law_take (hr.mono (by decide)) tk (wa_cons (we_var 0) (wa_cons we_int wa_nil)))) wa_nil)) (wg_name 4 sc__law_lists.nd)
  (ws_cons (ws_set 5 sc__law_lists.nd (we_callB ld_min2 rfl T.n_min (by decide +kernel) (wa_cons we_int (wa_cons (we_bin bd_sub (we_var 1) we_int) wa_nil))))
  (ws_cons (ws_set 6 sc__law_lists.nd (we_call callW_ok D__law_pieces (hr.mono (by decide)) tk (wa_cons (we_var 0) (wa_cons (we_var 2) (wa_cons (we_ix id_ix (we_lst (wa_cons (we_var 5) (wa_cons (we_callB ld_min2 rfl T.n_min (by decide +kernel) (wa_cons (we_var 5) (wa_cons we_int wa_nil))) (wa_cons (we_callB ld_min2 rfl T.n_min (by decide +kernel) (wa_cons (we_var 5) (wa_cons we_int wa_nil))) wa_nil)))) (we_call callW_ok D__law_take (hr.mono (by decide)) tk (wa_cons (we_var 0) (wa_cons we_int wa_nil)))) wa_nil)))))
  (ws_cons (ws_set 1 sc__law_lists.nd (we_bin bd_fdv (we_var 1) (we_bin (bd_add outF_ok) we_int (we_callB ld_sum rfl T.n_sum (by decide +kernel) (wa_cons (we_lc finF_ok [("_law_piece", 7)] sc__law_lists.nd (wi_any (we_var 6)) (blkOk_by (own := [("_law_piece", 7)]) (N := N__law_lists) (sc := defScope (topS 56)) (by decide +kernel))
  (fun _ _ _ _ _ => (wg_name 7 sc__law_lists.nd)) (fun _ _ _ _ _ => wts_nil) (fun _ _ _ _ _ => (we_callB ld_len rfl T.n_len (by decide +kernel) (wa_cons (we_var 7) wa_nil)))) wa_nil)))))
  (ws_one (ws_drop (we_bm .lst md_append PySem.F.plainAttrs_list PySem.F.slot_list_append PySem.F.type_list_append (we_var 3) (wa_cons (we_var 6) wa_nil))))))))
  (ws_one (ws_ret (we_frz (we_var 3))))))), ?body⟩)
  case' body => clear tk po hr E H s outer A cdv f
  case len => rintro _ _ _ _ ⟨_, _, rfl, _⟩; rfl
  case body =>
    rintro ds μ Q E' ⟨o, z, rfl, rfl, ho, z1, z2, q⟩
    repeat' fail
    intro ls o1 rl ne ll h1
    repeat' fail
    intro a o2 a0 a1 h2
    repeat' fail
    intro b o3 b0 b1 h3
    obtain ⟨m, hm, hm1⟩ : ∃ m : Nat, atI [D.int a, D.int 2, D.int 1, D.int 3] b = some (.int (m : Int)) ∧ m ≤ 3 := by
      have : b = 0 ∨ b = 1 ∨ b = 2 ∨ b = 3 := by omega
      rcases this with rfl | rfl | rfl | rfl
      · exact ⟨a.toNat, by rw [Int.toNat_of_nonneg a0]; rfl, by omega⟩
      · exact ⟨2, rfl, by decide⟩
      · exact ⟨1, rfl, by decide⟩
      · exact ⟨3, rfl, by decide⟩
    repeat' fail
    refine st_ixL rfl rfl hm ?_
    repeat' fail
    refine ⟨fun i (δ : DS) (μ : Mu) => ∃ (o4 : MO) (S : Int) (L : PL) (d4 d5 d6 d7 : Option D), δ = [some (.cell 0), some (.int S), some (.str ls), some (.cell 1), d4, d5, d6, d7] ∧ μ = [o4, .lst (L.map pcD)] ∧ PotB o4 ∧ PcL L ∧ L.length = i ∧ 1 ≤ S ∧ (sizeA L : Int) * S ≤ z, ⟨o3, z, [], _, _, _, _, rfl, rfl, h3, (fun _ h => nomatch h), rfl, z1, by show ((1 : Nat) : Int) * z ≤ z; omega⟩, ?_, ?_⟩
    · rintro i d δ μ hd ⟨o4, S, L, d4, d5, d6, d7, rfl, rfl, h4, hp, hi, S1, hz⟩
      obtain ⟨hi2, rfl⟩ := rangeD_get hd
      have hSz : S ≤ z := by
        have := sizeA_pos L
        have h5 : (1 : Int) * S ≤ (sizeA L : Int) * S := Int.mul_le_mul_of_nonneg_right (by omega) (by omega)
        omega
      have hzz : (L.map pcD).length < sizeLine := by rw [List.length_map]; exact szl (by omega)
      repeat' fail
      obtain ⟨M, eM, M0, M1, M2⟩ : ∃ M : Int, (if S - 1 < 40 then S - 1 else 40) = M ∧ 0 ≤ M ∧ M ≤ 40 ∧ M ≤ S - 1 := ⟨_, rfl, by split <;> omega, by split <;> omega, by split <;> omega⟩
      rw [eM]
      intro r o5 r0 r1 h5
      obtain ⟨y, hy, y0, y1⟩ : ∃ y : Int, atI [D.int M, D.int (if 6 < M then 6 else M), D.int (if 3 < M then 3 else M)] r = some (.int y) ∧ 0 ≤ y ∧ y ≤ M := by
        have : r = 0 ∨ r = 1 ∨ r = 2 := by omega
        rcases this with rfl | rfl | rfl
        · exact ⟨M, rfl, M0, Int.le_refl _⟩
        · exact ⟨_, rfl, by split <;> omega, by split <;> omega⟩
        · exact ⟨_, rfl, by split <;> omega, by split <;> omega⟩
      repeat' fail
      refine st_ixL rfl rfl hy ?_
      repeat' fail
      intro ps o6 hps hfl h6
      have hpl := hps.len
      repeat' fail
      refine lc_strs (l := ps) (fun p => .int (p.length : Int)) (sz (by omega)) ?_ ?_
      · intro j p hj KA hk
        have := (hps.mem (List.mem_of_getElem? hj)).2.2
        repeat' fail
        try exact hk
      refine st_finF ?_
      rw [show (ps.map fun p => D.int (p.length : Int)) = (ps.map fun p => (p.length : Int)).map D.int by rw [List.map_map]; rfl]
      repeat' fail
      refine st_sum rfl ?_
      have es : ∀ qs : List (List Nat), (qs.map fun p => (p.length : Int)).sum = ((qs.flatten.length : Nat) : Int) := by
        intro qs
        induction qs with
        | nil => rfl
        | cons q qs ih => rw [List.map_cons, List.sum_cons, ih, List.flatten_cons, List.length_append]; omega
      rw [es]
      repeat' fail
      dsimp only
      have n1 : (0 : Int) < 1 + (ps.flatten.length : Int) := by omega
      refine ⟨o6, S.fdiv (1 + (ps.flatten.length : Int)), L ++ [ps], _, _, _, _, rfl, by simp, h6, fun q hq => ?_, by simp [hi], ?_, ?_⟩
      · rcases List.mem_append.mp hq with hq | hq
        · exact hp q hq
        · rw [List.mem_singleton.mp hq]; exact hps
      · rw [Int.fdiv_eq_ediv_of_nonneg _ (by omega)]
        exact (Int.le_ediv_iff_mul_le n1).mpr (by omega)
      · rw [Int.fdiv_eq_ediv_of_nonneg _ (by omega), sizeA_snoc, ones_len]
        have h7 := Int.ediv_mul_le S (b := 1 + (ps.flatten.length : Int)) (by omega)
        have h8 : (sizeA L : Int) * (S / (1 + (ps.flatten.length : Int)) * (1 + (ps.flatten.length : Int))) ≤ (sizeA L : Int) * S := Int.mul_le_mul_of_nonneg_left h7 (by omega)
        have e1 : ((ps.flatten.length + 1 : Nat) : Int) = 1 + (ps.flatten.length : Int) := by omega
        rw [Int.natCast_mul, e1, Int.mul_assoc, Int.mul_comm (1 + (ps.flatten.length : Int))]
        omega
    · rintro δ μ ⟨o4, S, L, d4, d5, d6, d7, rfl, rfl, h4, hp, hi, S1, hz⟩
      have nL := noC_pcs L
      have hl3 : L.length ≤ 3 := by
        rw [hi]
        unfold rangeD
        rw [List.length_map, List.length_range]
        omega
      have hsz : (sizeA L : Int) ≤ z := by
        have h5 : (sizeA L : Int) * 1 ≤ (sizeA L : Int) * S := Int.mul_le_mul_of_nonneg_left S1 (by omega)
        omega
      repeat' fail
      exact q L o4 hp hl3 (by omega) hsz h4

abbrev N__law_held_right : List Str := ["_law_lists_here", "_law_weave", "_law_pieces_here", "_law_begins", "_law_begin", "_law_piece"]
theorem sc__law_held_right : FnScope N__law_held_right ["_law_lists_here", "_law_weave"] (defScope (topS 57)) := ⟨rfl, rfl, rfl, by decide +kernel, rfl, by decide +kernel, by decide +kernel⟩
def S__law_held_right (_ : Str → Addr) : DSp := fun ds μ Q _ => ∃ (L : PL) (v : List Nat), ds = [.lst (L.map pcD), .str v] ∧ μ = [] ∧ PcL L ∧ L.length ≤ 3 ∧ isRow v = true ∧ v.length ≤ 1000 ∧ HasA L v ∧ v.length ≤ (L.map List.flatten).flatten.length ∧ Q (.bl true) []
theorem u__law_held_right {C : Str → Addr} {L : PL} {v : List Nat} {Q : DQ} {E : FE} (h : PcL L) (hl : L.length ≤ 3 ∧ v.length ≤ 1000 ∧ v.length ≤ (L.map List.flatten).flatten.length) (rv : isRow v = true) (hh : HasA L v) (q : Q (.bl true) []) : S__law_held_right C [.lst (L.map pcD), .str v] [] Q E := ⟨L, v, rfl, rfl, h, hl.1, rv, hl.2.1, hh, hl.2.2, q⟩
set_option hygiene false in
local macro_rules | `(tactic| array_get_dec) => `(tactic| ((with_reducible apply u__law_held_right); (assumption); (omega); (assumption); (assumption)))
theorem ok__law_held_right {P : Program} {w : World} {K : PySem.W.Frag} {mg : Str → Option Value} {base : Heap} {C : Str → Addr} (SB : SmB K mg base) (T : Txt K mg C) : Fd P w K mg base "_law_held_right" 5 (S__law_held_right C) := by
  have D_begins_of := ok_begins_of (P := P) (w := w) (base := base) SB T
  have D_how_far := ok_how_far (P := P) (w := w) (base := base) SB T
  refine fd_mk T.f__law_held_right sc__law_held_right ?len (fun f cdv A outer s H E hr tk po => ⟨_, (ws_cons (ws_for po (wi_any (we_var 0)) (wg_name 2 sc__law_held_right.nd)
  (ws_cons (ws_set 3 sc__law_held_right.nd (we_callGF D_begins_of (hr.mono (by decide)) tk (wa_cons (we_var 1) (wa_cons (we_var 2) wa_nil))))
  (ws_cons (ws_if (wt_bool (ww_or (wt_cmp cd_isN (we_var 3) we_non) (ww_or1 (wt_cmp (cd_ne hr.units) (we_call callP_ok D_how_far (hr.mono (by decide)) tk (wa_cons (we_var 1) (wa_cons (we_var 2) wa_nil))) (we_tup (wa_cons (we_callB ld_len rfl T.n_len (by decide +kernel) (wa_cons (we_var 2) wa_nil)) (wa_cons we_int wa_nil)))))))
  (ws_one (ws_ret we_bl))
  ws_nil)
  (ws_one (ws_for po (wi_zip T.n_zip (wa_cons (we_var 3) (wa_cons (we_var 2) wa_nil))) (wg_tup (n := 2) (wgs_cons (wg_name 4 sc__law_held_right.nd) (wgs_cons (wg_name 5 sc__law_held_right.nd) wgs_nil)))
  (ws_one (ws_if (wt_cmp (cd_ne hr.units) (we_cut outF_ok (we_var 1) (wp_some (we_var 4)) (wp_some (we_bin (bd_add outF_ok) (we_var 4) (we_callB ld_len rfl T.n_len (by decide +kernel) (wa_cons (we_var 5) wa_nil))))) (we_var 5))
  (ws_one (ws_ret we_bl))
  ws_nil)))))))
  (ws_one (ws_ret (we_cmp cd_le (we_callB ld_len rfl T.n_len (by decide +kernel) (wa_cons (we_var 1) wa_nil)) (we_callB ld_sum rfl T.n_sum (by decide +kernel) (wa_cons (we_lc finF_ok [("_law_pieces_here", 2)] sc__law_held_right.nd (wi_any (we_var 0)) (blkOk_by (own := [("_law_pieces_here", 2)]) (N := N__law_held_right) (sc := defScope (topS 57)) (by decide +kernel))
  (fun _ _ _ _ _ => (wg_name 2 sc__law_held_right.nd)) (fun _ _ _ _ _ => wts_nil) (fun _ _ _ _ _ => (we_callB ld_len rfl T.n_len (by decide +kernel) (wa_cons (we_bm .str md_join PySem.F.plainAttrs_str PySem.F.slot_str_join PySem.F.type_str_join we_str (wa_cons (we_var 2) wa_nil)) wa_nil)))) wa_nil)))))), ?body⟩)
  case' body => clear tk po hr E H s outer A cdv f
  case len => rintro _ _ _ _ ⟨_, _, rfl, _⟩; rfl
  case body =>
    rintro ds μ Q E' ⟨L, v, rfl, rfl, hp, hl, rv, lv, hh, hz, q⟩
    have nL := noC_pcs L
    repeat' fail
    refine ⟨fun i (δ : DS) (μ : Mu) => ∃ (d2 d3 d4 d5 : Option D), δ = [some (.lst (L.map pcD)), some (.str v), d2, d3, d4, d5] ∧ noCM μ = true, ⟨_, _, _, _, rfl, rfl⟩, ?_, ?_⟩
    · rintro i d δ μ hd ⟨d2, d3, d4, d5, rfl, hμ⟩
      rw [List.getElem?_map] at hd
      obtain ⟨ps, hi, rfl⟩ := Option.map_eq_some_iff.mp hd
      have hm := List.mem_of_getElem? hi
      have h1 := hp ps hm
      have hpl := h1.len
      have lps : (ps.map D.str).length ≤ 40 := by rw [List.length_map]; exact hpl
      have hhp := hh ps hm
      have hb9 := (begF_has (s := v) (ts := ps) (Nat.zero_le _)).mpr (by rw [List.drop_zero]; exact hhp)
      have eo : optP v ps = some (begF v ps 0).1 := by unfold optP; rw [if_pos hb9]
      have eF : farD v ps = oneD (ps.length, 0) := by unfold farD; rw [far_has.mpr hhp]; rfl
      repeat' fail
      rw [eF, List.length_map]
      refine st_neD rfl (okD_one (by decide) _) (okD_one (by decide) (ps.length, 0)) ?_
      have e9 : ∀ ν : Mu, deq (dr ν (oneD (ps.length, 0))) (dr ν (.tup [.int (ps.length : Nat), .int 0])) = true := fun ν => (deq_one (ps.length, 0) (ps.length, 0)).trans (decide_eq_true rfl)
      rw [e9]
      repeat' fail
      have ez := pairZ_map (fun k : Nat => D.int (k : Int)) D.str (begF v ps 0).1 ps hb9
      rw [show natsD (begF v ps 0).1 = (begF v ps 0).1.map fun k : Nat => D.int (k : Int) from rfl, ez]
      refine ⟨fun j (δ : DS) (μ : Mu) => ∃ (d4 d5 : Option D), δ = [some (.lst (L.map pcD)), some (.str v), some (pcD ps), some (.lst ((begF v ps 0).1.map fun k : Nat => D.int (k : Int))), d4, d5] ∧ noCM μ = true, ⟨_, _, rfl, noCM_app hμ rfl⟩, ?_, ?_⟩
      · rintro j d δ μ' hd ⟨d4, d5, rfl, hμ'⟩
        rw [List.getElem?_map] at hd
        obtain ⟨⟨k, t⟩, hk, rfl⟩ := Option.map_eq_some_iff.mp hd
        obtain ⟨g1, g2⟩ := List.getElem?_zip_eq_some.mp hk
        have hat := begF_at g1 g2
        obtain ⟨rt, ne, lt⟩ := h1.mem (List.mem_of_getElem? g2)
        have lt : t.length ≤ 40 := lt
        have ec : cutL v (some (k : Int)) (some ((k : Int) + (t.length : Nat))) = t := by
          rw [cutL_mid _ (by omega) (by omega), Int.toNat_natCast, show ((k : Int) + (t.length : Nat)).toNat - k = t.length by omega]
          exact hat.2
        repeat' fail
        dsimp only
        exact ⟨_, _, rfl, hμ'⟩
      · rintro δ μ' ⟨d4, d5, rfl, hμ'⟩
        dsimp only
        exact ⟨_, _, _, _, rfl, hμ'⟩
    · rintro δ μ ⟨d2, d3, d4, d5, rfl, hμ⟩
      repeat' fail
      refine lc_of pcD (fun _ => true) (fun ps => .int (ps.flatten.length : Int)) (sz (by omega)) ?_ ?_
      · intro j ps hj KA KF g1 g2
        have h1 := hp ps (List.mem_of_getElem? hj)
        repeat' fail
        refine ⟨_, _, _, ps, rfl, rfl, rfl, strsOf_strs ps, ?_, ?_⟩
        · have := h1.2
          rw [List.length_flatten] at this
          show _ + ps.length * 0 ≤ _
          exact sz (by omega)
        have e9 : joinL (Str.ofString "").cps.toList ps = ps.flatten := joinL_nil ps
        rw [e9]
        have lf : ps.flatten.length ≤ 40 := h1.2
        repeat' fail
        exact g1 rfl
      rw [show List.filter (fun _ => true) L = L from List.filter_eq_self.mpr fun _ _ => rfl]
      refine st_finF ?_
      rw [show (L.map fun ps => D.int (ps.flatten.length : Int)) = (L.map fun ps => (ps.flatten.length : Int)).map D.int by rw [List.map_map]; rfl]
      repeat' fail
      refine st_sum rfl ?_
      repeat' fail
      have es : ∀ L : PL, (L.map fun ps => (ps.flatten.length : Int)).sum = (((L.map List.flatten).flatten.length : Nat) : Int) := fun L => by
        induction L with
        | nil => rfl
        | cons ps L ih => rw [List.map_cons, List.sum_cons, ih, List.map_cons, List.flatten_cons, List.length_append]; omega
      rw [es, decide_eq_true (by omega)]
      repeat' fail
      exact q

abbrev N__law_joined : List Str := ["_law_pot_here", "_law_pieces_here", "_law_at", "_law_both"]
theorem sc__law_joined : FnScope N__law_joined ["_law_pot_here", "_law_pieces_here"] (defScope (topS 58)) := ⟨rfl, rfl, rfl, by decide +kernel, rfl, by decide +kernel, by decide +kernel⟩
def S__law_joined (_ : Str → Addr) : DSp := fun ds μ Q _ => ∃ (o : MO) (ps : List (List Nat)), ds = [.cell 0, pcD ps] ∧ μ = [o] ∧ PotB o ∧ Pcs ps ∧ ∀ (qs : List (List Nat)) (o' : MO), JoinP qs ps → Pcs qs → PotB o' → Q (pcD qs) [o']
theorem u__law_joined {C : Str → Addr} {o : MO} {ps : List (List Nat)} {Q : DQ} {E : FE} (W : PotB o) (h : Pcs ps) (q : ∀ (qs : List (List Nat)) (o' : MO), JoinP qs ps → Pcs qs → PotB o' → Q (pcD qs) [o']) : S__law_joined C [.cell 0, .lst (ps.map .str)] [o] Q E := ⟨o, ps, rfl, rfl, W, h, q⟩
set_option hygiene false in
local macro_rules | `(tactic| array_get_dec) => `(tactic| ((with_reducible apply u__law_joined); (assumption); (assumption)))
theorem ok__law_joined {P : Program} {w : World} {K : PySem.W.Frag} {mg : Str → Option Value} {base : Heap} {C : Str → Addr} (SB : SmB K mg base) (T : Txt K mg C) : Fd P w K mg base "_law_joined" 3 (S__law_joined C) := by
  have D__law_take := ok__law_take (P := P) (w := w) (base := base) SB T
  refine fd_mk T.f__law_joined sc__law_joined ?len (fun f cdv A outer s H E hr tk po => ⟨_, (ws_cons (ws_if (wt_cmp cd_lt (we_callB ld_len rfl T.n_len (by decide +kernel) (wa_cons (we_var 1) wa_nil)) we_int)
  (ws_one (ws_ret (we_callTy (ld_listA outF_ok) rfl T.n_list (by decide +kernel) (wa_cons (we_var 1) wa_nil))))
  ws_nil)
  (ws_cons (ws_set 2 sc__law_joined.nd (we_call callW_ok D__law_take (hr.mono (by decide)) tk (wa_cons (we_var 0) (wa_cons (we_bin bd_sub (we_callB ld_len rfl T.n_len (by decide +kernel) (wa_cons (we_var 1) wa_nil)) we_int) wa_nil))))
  (ws_cons (ws_set 3 sc__law_joined.nd (we_bin (bd_add outF_ok) (we_ix id_ix (we_var 1) (we_var 2)) (we_ix id_ix (we_var 1) (we_bin (bd_add outF_ok) (we_var 2) we_int))))
  (ws_one (ws_ret (we_bin (bd_add outF_ok) (we_bin (bd_add outF_ok) (we_cut outF_ok (we_var 1) wp_none (wp_some (we_var 2))) (we_lst (wa_cons (we_var 3) wa_nil))) (we_cut outF_ok (we_var 1) (wp_some (we_bin (bd_add outF_ok) (we_var 2) we_int)) wp_none))))))), ?body⟩)
  case' body => clear tk po hr E H s outer A cdv f
  case len => rintro _ _ _ _ ⟨_, _, rfl, _⟩; rfl
  case body =>
    rintro ds μ Q E' ⟨o, ps, rfl, rfl, ho, hp, q⟩
    have hpl := hp.len
    have lps : (ps.map D.str).length = ps.length := List.length_map _
    repeat' fail
    · exact q ps o (.same ps) hp ho
    intro r o1 r0 r1 h1
    obtain ⟨k, rfl⟩ : ∃ k : Nat, r = (k : Int) := ⟨r.toNat, by omega⟩
    have hk : k + 1 < ps.length := by omega
    have gx : ps[k]? = some (ps.getD k []) := by rw [List.getD_eq_getElem?_getD, List.getElem?_eq_getElem (by omega)]; rfl
    have gy : ps[k + 1]? = some (ps.getD (k + 1) []) := by rw [List.getD_eq_getElem?_getD, List.getElem?_eq_getElem hk]; rfl
    have hx := hp.mem (List.mem_of_getElem? gx)
    have hy := hp.mem (List.mem_of_getElem? gy)
    have es : ps = ps.take k ++ ps.getD k [] :: ps.getD (k + 1) [] :: ps.drop (k + 2) := by
      have e1 := (List.take_append_drop k ps).symm
      have e2 : ps.drop k = ps.getD k [] :: ps.drop (k + 1) := drop_getG gx
      have e3 : ps.drop (k + 1) = ps.getD (k + 1) [] :: ps.drop (k + 2) := drop_getG gy
      rw [e2, e3] at e1
      exact e1
    generalize ps.getD k [] = x at gx hx es
    generalize ps.getD (k + 1) [] = y at gy hy es
    have lx := hx.2.2
    have ly := hy.2.2
    have j : JoinP (ps.take k ++ (x ++ y) :: ps.drop (k + 2)) ps := by
      have := JoinP.two (ps.take k) x y (ps.drop (k + 2))
      rw [← es] at this
      exact this
    clear es
    have ec : cutL (ps.map D.str) none (some (k : Int)) = (ps.take k).map D.str := by rw [cutL_to _ (by omega), List.map_take]; rfl
    have ed : cutL (ps.map D.str) (some ((k : Int) + 2)) none = (ps.drop (k + 2)).map D.str := by rw [cutL_from _ (by omega), List.map_drop]; rfl
    repeat' fail
    refine st_ixL (d := .str x) rfl rfl (atI_of (j := k) rfl (by rw [List.getElem?_map, gx]; rfl)) ?_
    repeat' fail
    refine st_ixL (d := .str y) rfl rfl (atI_of (j := k + 1) rfl (by rw [List.getElem?_map, gy]; rfl)) ?_
    have l1 : (cutL (ps.map D.str) none (some (k : Int))).length ≤ 40 := by rw [ec, List.length_map, List.length_take]; omega
    have l2 : (cutL (ps.map D.str) (some ((k : Int) + 2)) none).length ≤ 40 := by rw [ed, List.length_map, List.length_drop]; omega
    repeat' fail
    rw [ec, ed]
    have e : (ps.take k).map D.str ++ [D.str (x ++ y)] ++ (ps.drop (k + 2)).map D.str = (ps.take k ++ (x ++ y) :: ps.drop (k + 2)).map D.str := by simp
    rw [e]
    repeat' fail
    exact q _ _ j (j.pc hp) h1

abbrev N__law_tiny_right : List Str := ["_law_lists_here", "_law_weave", "_law_letters", "_law_texts", "_law_k", "_law_text_here", "_law_lacking", "_law_longer", "_law_pieces_here", "_law_letter"]
theorem sc__law_tiny_right : FnScope N__law_tiny_right ["_law_lists_here", "_law_weave"] (defScope (topS 59)) := ⟨rfl, rfl, rfl, by decide +kernel, rfl, by decide +kernel, by decide +kernel⟩
def S__law_tiny_right (_ : Str → Addr) : DSp := fun ds μ Q _ => ∃ L : PL, ds = [.lst (L.map pcD), .str (bU L (firstA L))] ∧ μ = [] ∧ PcL L ∧ L.length ≤ 3 ∧ (bU L (firstA L)).length ≤ 1000 ∧ Q (.bl true) []
theorem u__law_tiny_right {C : Str → Addr} {L : PL} {Q : DQ} {E : FE} (h : PcL L) (hl : L.length ≤ 3 ∧ (bU L (firstA L)).length ≤ 1000) (q : Q (.bl true) []) : S__law_tiny_right C [.lst (L.map pcD), .str (bU L (firstA L))] [] Q E := ⟨L, rfl, rfl, h, hl.1, hl.2, q⟩
set_option hygiene false in
local macro_rules | `(tactic| array_get_dec) => `(tactic| ((with_reducible apply u__law_tiny_right); (assumption); (omega)))
theorem ok__law_tiny_right {P : Program} {w : World} {K : PySem.W.Frag} {mg : Str → Option Value} {base : Heap} {C : Str → Addr} (SB : SmB K mg base) (T : Txt K mg C) : Fd P w K mg base "_law_tiny_right" 5 (S__law_tiny_right C) := by
  have D_begins_of := ok_begins_of (P := P) (w := w) (base := base) SB T
  refine fd_mk T.f__law_tiny_right sc__law_tiny_right ?len (fun f cdv A outer s H E hr tk po => ⟨_, (ws_cons (ws_set 2 sc__law_tiny_right.nd (we_sortSet outF_ok T.n_sorted T.n_set (we_bm .str md_join PySem.F.plainAttrs_str PySem.F.slot_str_join PySem.F.type_str_join we_str (wa_cons (we_lc finF_ok [("_law_pieces_here", 8)] sc__law_tiny_right.nd (wi_any (we_var 0)) (blkOk_by (own := [("_law_pieces_here", 8)]) (N := N__law_tiny_right) (sc := defScope (topS 59)) (by decide +kernel))
  (fun _ _ _ _ _ => (wg_name 8 sc__law_tiny_right.nd)) (fun _ _ _ _ _ => wts_nil) (fun _ _ _ _ _ => (we_bm .str md_join PySem.F.plainAttrs_str PySem.F.slot_str_join PySem.F.type_str_join we_str (wa_cons (we_var 8) wa_nil)))) wa_nil))))
  (ws_cons (ws_set 3 sc__law_tiny_right.nd (we_lst (wa_cons we_str wa_nil)))
  (ws_cons (ws_for po (wi_rng1 T.n_range (wa_cons (we_callB ld_len rfl T.n_len (by decide +kernel) (wa_cons (we_var 1) wa_nil)) wa_nil)) (wg_name 4 sc__law_tiny_right.nd)
  (ws_cons (ws_for po (wi_any (we_var 3)) (wg_name 5 sc__law_tiny_right.nd)
  (ws_cons (ws_setLc finF_ok 6 [("_law_pieces_here", 8)] sc__law_tiny_right.nd (wi_any (we_var 0)) (blkOk_by (own := [("_law_pieces_here", 8)]) (N := N__law_tiny_right) (sc := defScope (topS 59)) (by decide +kernel))
  (fun _ _ _ _ _ => (wg_name 8 sc__law_tiny_right.nd)) (fun _ _ _ _ _ => (wts_one (wt_cmp cd_isN (we_callGF D_begins_of (hr.mono (by decide)) takesB (wa_cons (we_var 5) (wa_cons (we_var 8) wa_nil))) we_non))) (fun _ _ _ _ _ => (we_var 8)) (sw_true rfl rfl rfl (by decide +kernel)))
  (ws_one (ws_if (wt_cmp (cd_eq hr.units) (we_var 6) (we_lst wa_nil))
  (ws_one (ws_ret we_bl))
  ws_nil))))
  (ws_cons (ws_set 7 sc__law_tiny_right.nd (we_lstC wa_nil))
  (ws_cons (ws_for po (wi_any (we_var 3)) (wg_name 5 sc__law_tiny_right.nd)
  (ws_one (ws_drop (we_bm .lst md_extend PySem.F.plainAttrs_list PySem.F.slot_list_extend PySem.F.type_list_extend (we_var 7) (wa_cons (we_lc finF_ok [("_law_letter", 9)] sc__law_tiny_right.nd (wi_any (we_var 2)) (blkOk_by (own := [("_law_letter", 9)]) (N := N__law_tiny_right) (sc := defScope (topS 59)) (by decide +kernel))
  (fun _ _ _ _ _ => (wg_name 9 sc__law_tiny_right.nd)) (fun _ _ _ _ _ => wts_nil) (fun _ _ _ _ _ => (we_bin (bd_add outF_ok) (we_var 5) (we_var 9)))) wa_nil)))))
  (ws_cons (ws_set 3 sc__law_tiny_right.nd (we_frz (we_var 7)))
  (ws_one (ws_if (wt_cmp cd_gt (we_callB ld_len rfl T.n_len (by decide +kernel) (wa_cons (we_var 3) wa_nil)) we_int)
  (ws_one (ws_ret we_bl))
  ws_nil)))))))
  (ws_one (ws_ret we_bl))))), ?body⟩)
  case' body => clear tk po hr E H s outer A cdv f
  case len => rintro _ _ _ _ ⟨_, rfl, _⟩; rfl
  case body =>
    rintro ds μ Q E' ⟨L, rfl, rfl, hp, hl, hw, q⟩
    have nL := noC_pcs L
    repeat' fail
    refine lc_of pcD (fun _ => true) (fun ps => .str ps.flatten) (sz (by omega)) ?_ ?_
    · intro j ps hj KA KF g1 g2
      have h1 := hp ps (List.mem_of_getElem? hj)
      have h2 := h1.len
      repeat' fail
      refine ⟨_, _, _, ps, rfl, rfl, rfl, strsOf_strs ps, ?_, ?_⟩
      · have := h1.2
        rw [List.length_flatten] at this
        show _ + ps.length * 0 ≤ _
        exact sz (by omega)
      have g1 := g1 rfl
      rw [← joinL_nil ps] at g1
      exact g1
    rw [show List.filter (fun _ => true) L = L from List.filter_eq_self.mpr fun _ _ => rfl]
    refine st_finF ?_
    have e : (L.map fun ps => D.str ps.flatten) = (L.map List.flatten).map D.str := by rw [List.map_map]; rfl
    rw [e]
    have lf : ((L.map List.flatten).map List.length).sum ≤ 120 := by
      have : ∀ L : PL, PcL L → ((L.map List.flatten).map List.length).sum ≤ 40 * L.length := fun L => by
        induction L with
        | nil => intro _; simp
        | cons ps L ih =>
          intro hp
          have h1 := ih fun q hq => hp q (List.mem_cons_of_mem _ hq)
          have h2 := (hp ps List.mem_cons_self).2
          rw [List.map_cons, List.map_cons, List.sum_cons, List.length_cons]
          omega
      have := this L hp
      omega
    refine ⟨_, _, _, L.map List.flatten, rfl, rfl, rfl, strsOf_strs _, ?_, ?_⟩
    · show _ + (L.map List.flatten).length * 0 ≤ _
      exact sz (by omega)
    show dSortSet outF (.str (joinL [] (L.map List.flatten))) _ _
    rw [joinL_nil]
    refine .inr ⟨(signsOf L).map (fun c => [c]), by rw [List.length_map]; unfold signsOf; rw [List.length_flatten]; omega, .inr ⟨_, rfl, rfl⟩, fun ts hp2 hm => ?_⟩
    obtain ⟨ls, rfl, nd, hls⟩ := ones_of hp2 hm
    rw [show (ls.map fun c => [c]).map D.str = chars ls by unfold chars; rw [List.map_map]; rfl]
    have nls := noCs_chars ls
    have hA : ∀ c ∈ ls, c ∈ AL := fun c hc => okG_flat hp.rowL c ((hls c).mp hc)
    have lls : ls.length ≤ 26 := by
      have := few_sub nd hA
      rwa [AL_len] at this
    repeat' fail
    refine ⟨fun k (δ : DS) (μ : Mu) => ∃ (ts : List (List Nat)) (d4 d5 d6 d7 d8 d9 : Option D), δ = [some (.lst (L.map pcD)), some (.str (bU L (firstA L))), some (.lst (chars ls)), some (.lst (ts.map .str)), d4, d5, d6, d7, d8, d9] ∧ noCM μ = true ∧ ts.length ≤ 250 ∧ ∀ t ∈ ts, isRow t = true ∧ t.length = k, ⟨[[]], _, _, _, _, _, _, rfl, rfl, by decide, fun t ht => ?_⟩, ?_, ?_⟩
    · rw [List.mem_singleton.mp ht]
      exact ⟨rfl, rfl⟩
    · rintro k d δ μ hd ⟨ts, d4, d5, d6, d7, d8, d9, rfl, hμ, lt, ht⟩
      obtain ⟨hk, rfl⟩ := rangeD_get hd
      have hk : k < (bU L (firstA L)).length := by omega
      have hno : ∀ t ∈ ts, ¬ HasA L t := fun t h => bU_none hp (ht t h).1 (by rw [(ht t h).2]; omega)
      repeat' fail
      refine ⟨fun j (δ : DS) (μ : Mu) => ∃ (d5 d6 d7 d8 d9 : Option D), δ = [some (.lst (L.map pcD)), some (.str (bU L (firstA L))), some (.lst (chars ls)), some (.lst (ts.map .str)), some (.int (0 + (k : Int) * 1)), d5, d6, d7, d8, d9] ∧ noCM μ = true, ⟨_, _, _, _, _, rfl, hμ⟩, ?_, ?_⟩
      · rintro j d δ μ' hd ⟨d5, d6, d7, d8, d9, rfl, hμ'⟩
        rw [List.getElem?_map] at hd
        obtain ⟨t, hj, rfl⟩ := Option.map_eq_some_iff.mp hd
        have htm := List.mem_of_getElem? hj
        obtain ⟨rt, lt2⟩ := ht t htm
        have lt3 : t.length ≤ 1000 := by omega
        repeat' fail
        refine ⟨fun i acc (μ : Mu) => noCM μ = true ∧ acc = ((L.take i).filter fun ps => decide (optP t ps = none)).map pcD, ⟨hμ', rfl⟩, ?_, ?_⟩
        · rintro i d acc μ hd ⟨hμ, rfl⟩
          rw [List.getElem?_map] at hd
          obtain ⟨ps, hi, rfl⟩ := Option.map_eq_some_iff.mp hd
          have h1 := hp ps (List.mem_of_getElem? hi)
          have et : L.take (i + 1) = L.take i ++ [ps] := by rw [List.take_add_one, hi]; rfl
          have hil := (List.getElem?_eq_some_iff.mp hi).1
          have lz : (((L.take i).filter fun ps => decide (optP t ps = none)).map pcD).length < sizeLine := by
            rw [List.length_map]
            exact szl (Nat.lt_of_le_of_lt (List.length_filter_le _ _) (by rw [List.length_take]; omega))
          cases ho : optP t ps with
          | none =>
            repeat' fail
            refine ⟨lz, hμ, ?_⟩
            rw [et, List.filter_append, List.map_append, List.filter_cons, if_pos (decide_eq_true ho)]
            rfl
          | some l =>
            repeat' fail
            refine ⟨noCM_app hμ rfl, ?_⟩
            rw [et, List.filter_append, List.map_append, List.filter_cons, if_neg (by rw [ho]; simp)]
            simp
        · rintro acc μ ⟨hμ, rfl⟩
          rw [List.length_map, List.take_length]
          have hne : L.filter (fun ps => decide (optP t ps = none)) ≠ [] := fun z => by
            refine hno t htm fun ps hp' => ?_
            have := List.filter_eq_nil_iff.mp z ps hp'
            have := (begF_has (s := t) (ts := ps) (Nat.zero_le _)).mp (Classical.byContradiction fun q => this (decide_eq_true (by unfold optP; rw [if_neg q])))
            rwa [List.drop_zero] at this
          refine st_finF ?_
          repeat' fail
          refine st_eqNil (fun d hd => ?_) ?_
          · obtain ⟨ps, hp', rfl⟩ := List.mem_map.mp hd
            exact okD_pc (by decide) (hp ps (List.mem_filter.mp hp').1)
          rw [decide_eq_false (fun z => hne (List.map_eq_nil_iff.mp z))]
          repeat' fail
          dsimp only
          exact ⟨_, _, _, _, _, rfl, hμ⟩
      · rintro δ μ' ⟨d5, d6, d7, d8, d9, rfl, hμ'⟩
        dsimp only
        repeat' fail
        have lfl : ∀ us : List (List Nat), (us.flatMap fun t => ls.map fun c => t ++ [c]).length = us.length * ls.length := fun us => flatMap_const _ _ _ fun t _ => List.length_map _
        have lmul : ∀ us : List (List Nat), us.length ≤ 250 → (us.flatMap fun t => ls.map fun c => t ++ [c]).length ≤ 6500 := fun us hu => by
          rw [lfl]
          exact Nat.le_trans (Nat.mul_le_mul hu lls) (by decide)
        refine ⟨fun j (δ : DS) (μ : Mu) => ∃ (d5 d8 d9 : Option D), δ = [some (.lst (L.map pcD)), some (.str (bU L (firstA L))), some (.lst (chars ls)), some (.lst (ts.map .str)), some (.int (0 + (k : Int) * 1)), d5, d6, some (.cell μ'.length), d8, d9] ∧ μ = μ' ++ [.lst (((ts.take j).flatMap fun t => ls.map fun c => t ++ [c]).map .str)], ⟨_, _, _, rfl, rfl⟩, ?_, ?_⟩
        · rintro j d δ μ hd ⟨d5, d8, d9, rfl, rfl⟩
          rw [List.getElem?_map] at hd
          obtain ⟨t, hj, rfl⟩ := Option.map_eq_some_iff.mp hd
          obtain ⟨rt, lt2⟩ := ht t (List.mem_of_getElem? hj)
          have et : ts.take (j + 1) = ts.take j ++ [t] := by rw [List.take_add_one, hj]; rfl
          have l1 := lmul (ts.take j) (by rw [List.length_take]; omega)
          repeat' fail
          refine lc_chars (l := ls) (fun c => .str (t ++ [c])) (sz (by omega)) ?_ ?_
          · intro i c hi KA hk
            repeat' fail
            try exact hk
          refine st_finF ?_
          have l2 := sz (n := (((ts.take j).flatMap fun t => ls.map fun c => t ++ [c]).map D.str).length + (ls.map fun c => D.str (t ++ [c])).length) (by rw [List.length_map, List.length_map]; omega)
          repeat' fail
          refine ⟨_, _, _, rfl, ?_⟩
          rw [et, List.flatMap_append, List.map_append]
          simp only [List.set_append_right _ _ (Nat.le_refl _), Nat.sub_self, List.set_cons_zero, List.flatMap_cons, List.flatMap_nil, List.append_nil, List.map_map]
          rfl
        · rintro δ μ ⟨d5, d8, d9, rfl, rfl⟩
          rw [List.length_map, List.take_length]
          have l3 := lmul ts lt
          have l4 : ((ts.flatMap fun t => ls.map fun c => t ++ [c]).map D.str).length ≤ 6500 := by rw [List.length_map]; exact l3
          dsimp only
          repeat' fail
          · exact q
          refine ⟨ts.flatMap fun t => ls.map fun c => t ++ [c], _, _, _, _, _, _, rfl, ?_, ?_, fun u hu => ?_⟩
          · rw [List.set_append_right _ _ (Nat.le_refl _), Nat.sub_self]
            exact noCM_app hμ' rfl
          · rw [List.length_map] at hb
            omega
          · obtain ⟨t, ht', hu⟩ := List.mem_flatMap.mp hu
            obtain ⟨c, hc, rfl⟩ := List.mem_map.mp hu
            obtain ⟨rt, lt2⟩ := ht t ht'
            refine ⟨isRow_of fun x hx => ?_, by rw [List.length_append, lt2]; rfl⟩
            rcases List.mem_append.mp hx with hx | hx
            · exact isRow_mem rt hx
            · rw [List.mem_singleton.mp hx]
              exact mem_AL.mp (hA c hc)
    · rintro δ μ ⟨ts, d4, d5, d6, d7, d8, d9, rfl, hμ, lt, ht⟩
      repeat' fail
      exact q

abbrev N_law : List Str := ["_law_script", "_law_cell", "_law_pot_here", "_law_lists_here", "_law_weave", "_law_rows", "_law_singles", "_law_pieces_here", "_law_row"]
theorem sc_law : FnScope N_law ["_law_script"] (defScope (topS 60)) := ⟨rfl, rfl, rfl, by decide +kernel, rfl, by decide +kernel, by decide +kernel⟩
def S_law (_ : Str → Addr) : DSp := fun ds μ Q _ => ∃ ns : List Int, ds = [.scr (ns.map .int)] ∧ μ = [] ∧ Q (.bl true) []
theorem pcs_of {ps : List (List Nat)} (h1 : ∀ p ∈ ps, isRow p = true ∧ p ≠ []) (h2 : ps.flatten.length ≤ 40) : Pcs ps := ⟨h1, h2⟩
theorem small_two : ∀ a b : List Nat, a.length + b.length ≤ 1 → (a = [] ∧ b = []) ∨ (∃ x, a = [x] ∧ b = []) ∨ ∃ y, a = [] ∧ b = [y]
  | [], [], _ => .inl ⟨rfl, rfl⟩
  | [x], [], _ => .inr (.inl ⟨x, rfl, rfl⟩)
  | [], [y], _ => .inr (.inr ⟨y, rfl, rfl⟩)
  | x :: y :: a, b, h => by simp only [List.length_cons] at h; omega
  | [x], y :: b, h => by simp only [List.length_cons, List.length_nil] at h; omega
  | [], x :: y :: b, h => by simp only [List.length_cons, List.length_nil] at h; omega
theorem abab_pc : PcL [[[97, 98, 97]], [[98, 97, 98]]] := fun ps h => by
  rcases List.mem_cons.mp h with rfl | h
  · exact pcs_of (by decide +kernel) (by decide +kernel)
  · rw [List.mem_singleton.mp h]
    exact pcs_of (by decide +kernel) (by decide +kernel)
theorem abab_is : bU [[[97, 98, 97]], [[98, 97, 98]]] (firstA [[[97, 98, 97]], [[98, 97, 98]]]) = [97, 98, 97, 98] := by
  refine (bU_best abab_pc.rowL).1.uniq ⟨isRow_okG (by decide +kernel), fun ps h => ?_, fun u hu hh => ?_⟩
  · rcases List.mem_cons.mp h with rfl | h
    · exact ⟨[], [98], rfl, trivial⟩
    · rw [List.mem_singleton.mp h]
      exact ⟨[97], [], rfl, trivial⟩
  · obtain ⟨a, b, e1, _⟩ := hh [[97, 98, 97]] (by simp)
    obtain ⟨c, d, e2, _⟩ := hh [[98, 97, 98]] (by simp)
    by_cases hl : u.length ≤ 4
    · have l1 := congrArg List.length e1
      have l2 := congrArg List.length e2
      simp only [List.length_append, List.length_cons, List.length_nil] at l1 l2
      rcases small_two a b (by omega) with ⟨rfl, rfl⟩ | ⟨x, rfl, rfl⟩ | ⟨x, rfl, rfl⟩ <;> rcases small_two c d (by omega) with ⟨rfl, rfl⟩ | ⟨y, rfl, rfl⟩ | ⟨y, rfl, rfl⟩ <;> subst e1 <;> simp at e2
      all_goals (obtain ⟨rfl, rfl⟩ := e2; exact ⟨by decide, fun _ => by decide⟩)
    · exact ⟨by show 4 ≤ u.length; omega, fun e => by have e : u.length = 4 := e; omega⟩
theorem ok_law {P : Program} {w : World} {K : PySem.W.Frag} {mg : Str → Option Value} {base : Heap} {C : Str → Addr} {f0 : Addr} {fd0 : FuncData} (F0 : Fun K "law" "law" (topS 60) f0 fd0) (SB : SmB K mg base) (T : Txt K mg C) : FnOk P w K mg base (L2.CX P w) 7 f0 fd0 ["_law_script"] (upF K (S_law C)) := by
  have D__law_pot := ok__law_pot (P := P) (w := w) (base := base) SB T
  have D__law_lists := ok__law_lists (P := P) (w := w) (base := base) SB T
  have D_weave_unbroken := ok_weave_unbroken (P := P) (w := w) (base := base) SB T
  have D_least_unbroken := ok_least_unbroken (P := P) (w := w) (base := base) SB T
  have D__law_take := ok__law_take (P := P) (w := w) (base := base) SB T
  have D__law_held_right := ok__law_held_right (P := P) (w := w) (base := base) SB T
  have D_weave_of := ok_weave_of (P := P) (w := w) (base := base) SB T
  have D_least_of := ok_least_of (P := P) (w := w) (base := base) SB T
  have D__law_tiny_right := ok__law_tiny_right (P := P) (w := w) (base := base) SB T
  have D__law_joined := ok__law_joined (P := P) (w := w) (base := base) SB T
  refine fn_mk F0 sc_law ?len (fun f cdv A outer s H E hr tk po => ⟨_, (ws_cons (ws_for po (wi_any (we_bin (bd_add outF_ok) (we_cut outF_ok (we_var 0) wp_none (wp_some we_int)) (we_lst (wa_cons (we_callB ld_len rfl T.n_len (by decide +kernel) (wa_cons (we_var 0) wa_nil)) wa_nil)))) (wg_name 1 sc_law.nd)
  (ws_cons (ws_set 2 sc_law.nd (we_call callN_ok D__law_pot (hr.mono (by decide)) tk (wa_cons (we_var 1) wa_nil)))
  (ws_cons (ws_set 3 sc_law.nd (we_call callW_ok D__law_lists (hr.mono (by decide)) tk (wa_cons (we_var 2) (wa_cons (we_ix id_ix (we_lst (wa_cons we_int (wa_cons we_int wa_nil))) (we_call callW_ok D__law_take (hr.mono (by decide)) tk (wa_cons (we_var 2) (wa_cons we_int wa_nil)))) wa_nil))))
  (ws_cons (ws_set 4 sc_law.nd (we_call callP_ok D_weave_unbroken (hr.mono (by decide)) tk (wa_cons (we_var 3) wa_nil)))
  (ws_cons (ws_if (wt_bool (ww_or (wt_cmp (cd_ne hr.units) (we_call callP_ok D_least_unbroken (hr.mono (by decide)) tk (wa_cons (we_var 3) wa_nil)) (we_callB ld_len rfl T.n_len (by decide +kernel) (wa_cons (we_var 4) wa_nil))) (ww_or1 (wt_not (wt_val (we_call callP_ok D__law_held_right (hr.mono (by decide)) tk (wa_cons (we_var 3) (wa_cons (we_var 4) wa_nil))))))))
  (ws_one (ws_ret we_bl))
  ws_nil)
  (ws_cons (ws_setLc finF_ok 5 [("_law_pieces_here", 7)] sc_law.nd (wi_any (we_var 3)) (blkOk_by (own := [("_law_pieces_here", 7)]) (N := N_law) (sc := defScope (topS 60)) (by decide +kernel))
  (fun _ _ _ _ _ => (wg_name 7 sc_law.nd)) (fun _ _ _ _ _ => wts_nil) (fun _ _ _ _ _ => (we_bm .str md_join PySem.F.plainAttrs_str PySem.F.slot_str_join PySem.F.type_str_join we_str (wa_cons (we_var 7) wa_nil))) (sw_true rfl rfl rfl (by decide +kernel)))
  (ws_cons (ws_setLc finF_ok 6 [("_law_row", 8)] sc_law.nd (wi_any (we_var 5)) (blkOk_by (own := [("_law_row", 8)]) (N := N_law) (sc := defScope (topS 60)) (by decide +kernel))
  (fun _ _ _ _ _ => (wg_name 8 sc_law.nd)) (fun _ _ _ _ _ => wts_nil) (fun _ _ _ _ _ => (we_callTy (ld_listA outF_ok) rfl T.n_list (by decide +kernel) (wa_cons (we_var 8) wa_nil))) (sw_true rfl rfl rfl (by decide +kernel)))
  (ws_cons (ws_if (wt_bool (ww_or (wt_cmp (cd_ne hr.units) (we_call callP_ok D_weave_unbroken (hr.mono (by decide)) tk (wa_cons (we_var 6) wa_nil)) (we_call callP_ok D_weave_of (hr.mono (by decide)) tk (wa_cons (we_var 5) wa_nil))) (ww_or1 (wt_cmp cd_lt (we_callB ld_len rfl T.n_len (by decide +kernel) (wa_cons (we_var 4) wa_nil)) (we_call callP_ok D_least_of (hr.mono (by decide)) tk (wa_cons (we_var 5) wa_nil))))))
  (ws_one (ws_ret we_bl))
  ws_nil)
  (ws_cons (ws_if (wt_cmp cd_lt (we_call callP_ok D_least_unbroken (hr.mono (by decide)) tk (wa_cons (we_lc finF_ok [("_law_pieces_here", 7)] sc_law.nd (wi_any (we_var 3)) (blkOk_by (own := [("_law_pieces_here", 7)]) (N := N_law) (sc := defScope (topS 60)) (by decide +kernel))
  (fun _ _ _ _ _ => (wg_name 7 sc_law.nd)) (fun _ _ _ _ _ => wts_nil) (fun _ _ _ _ _ => (we_call callW_ok D__law_joined (hr.mono (by decide)) takesB (wa_cons (we_var 2) (wa_cons (we_var 7) wa_nil))))) wa_nil)) (we_callB ld_len rfl T.n_len (by decide +kernel) (wa_cons (we_var 4) wa_nil)))
  (ws_one (ws_ret we_bl))
  ws_nil)
  (ws_cons (ws_if (wt_bool (ww_or (wt_cmp (cd_ne hr.units) (we_call callP_ok D_weave_unbroken (hr.mono (by decide)) tk (wa_cons (we_rev outF_ok (we_var 3)) wa_nil)) (we_var 4)) (ww_or1 (wt_not (wt_val (we_call callP_ok D__law_tiny_right (hr.mono (by decide)) tk (wa_cons (we_var 3) (wa_cons (we_var 4) wa_nil))))))))
  (ws_one (ws_ret we_bl))
  ws_nil)
  (ws_one (ws_if (wt_bool (ww_and (wt_cmp (cd_eq hr.units) (we_callB ld_len rfl T.n_len (by decide +kernel) (wa_cons (we_var 3) wa_nil)) we_int) (ww_and1 (wt_cmp (cd_ne hr.units) (we_call callP_ok D_weave_unbroken (hr.mono (by decide)) tk (wa_cons (we_bin (bd_add outF_ok) (we_var 3) (we_bin (bd_mul outF_ok) (we_cut outF_ok (we_var 3) wp_none (wp_some we_int)) (we_callTy ld_int rfl T.n_int (by decide +kernel) (wa_cons (we_cmp cd_lt (we_callB ld_len rfl T.n_len (by decide +kernel) (wa_cons (we_var 4) wa_nil)) we_int) wa_nil)))) wa_nil)) (we_var 4)))))
  (ws_one (ws_ret we_bl))
  ws_nil))))))))))))
  (ws_one (ws_ret (we_and (we_cmp (cd_eq hr.units) (we_call callP_ok D_weave_unbroken (hr.mono (by decide)) tk (wa_cons (we_lst (wa_cons (we_lst (wa_cons we_str (wa_cons we_str wa_nil))) wa_nil)) wa_nil)) we_str) (we_and1 (we_cmp (cd_eq hr.units) (we_call callP_ok D_weave_unbroken (hr.mono (by decide)) tk (wa_cons (we_lst (wa_cons (we_lst (wa_cons we_str wa_nil)) (wa_cons (we_lst (wa_cons we_str wa_nil)) wa_nil))) wa_nil)) we_str)))))), ?body⟩)
  case' body => clear tk po hr E H s outer A cdv f
  case len => rintro _ _ _ _ ⟨_, rfl, _⟩; rfl
  case body =>
    rintro ds μ Q E' ⟨ns, rfl, rfl, q⟩
    have lcut : (cutL (ns.map D.int) none (some 3)).length ≤ 3 := by
      rw [cutL_to _ (by decide), List.length_take]
      omega
    repeat' fail
    refine ⟨fun i (δ : DS) (μ : Mu) => ∃ d1 d2 d3 d4 d5 d6 d7 d8, δ = [some (.scr (ns.map .int)), d1, d2, d3, d4, d5, d6, d7, d8], ⟨_, _, _, _, _, _, _, _, rfl⟩, ?_, ?_⟩
    · rintro i0 x δ μ hx ⟨d1, d2, d3, d4, d5, d6, d7, d8, rfl⟩
      obtain ⟨cell, rfl⟩ : ∃ c : Int, x = .int c := by
        have hm := List.mem_of_getElem? hx
        rcases List.mem_append.mp hm with hm | hm
        · obtain ⟨c, _, rfl⟩ := List.mem_map.mp (cutL_sub _ _ _ _ hm)
          exact ⟨c, rfl⟩
        · rw [List.mem_singleton] at hm
          exact ⟨_, hm⟩
      repeat' fail
      intro o0 h0
      repeat' fail
      intro r o1 r0 r1 h1
      obtain ⟨z, hz, z0, z1⟩ : ∃ z : Nat, atI [D.int 12, D.int 100] r = some (.int (z : Int)) ∧ 1 ≤ z ∧ z ≤ 100 := by
        have : r = 0 ∨ r = 1 := by omega
        rcases this with rfl | rfl
        · exact ⟨12, rfl, by decide⟩
        · exact ⟨100, rfl, by decide⟩
      repeat' fail
      refine st_ixL rfl rfl hz ?_
      repeat' fail
      intro L o5 hp hl hs hsz h5
      have nL := noC_pcs L
      have bb := bU_best hp.rowL
      have hfw := sing_fw hp
      have hlw := lw_bU hp
      have lb := bb.2
      have lb2 := bU_le hp.rowL
      have rb := okG_isRow bb.1.al
      have hb3 := bb.1.has
      have lb3 : (bU L (firstA L)).length ≤ 120 := by
        have : ∀ L : PL, PcL L → (L.map List.flatten).flatten.length ≤ 40 * L.length := fun L => by
          induction L with
          | nil => intro _; simp
          | cons ps L ih =>
            intro hp
            have h1 := ih fun q hq => hp q (List.mem_cons_of_mem _ hq)
            have h2 := (hp ps List.mem_cons_self).2
            rw [List.map_cons, List.flatten_cons, List.length_append, List.length_cons]
            omega
        have := this L hp
        omega
      repeat' fail
      refine lc_of pcD (fun _ => true) (fun ps => .str ps.flatten) (sz (by omega)) ?_ ?_
      · intro j ps hj KA KF g1 g2
        have h1 := hp ps (List.mem_of_getElem? hj)
        have h2 := h1.len
        repeat' fail
        refine ⟨_, _, _, ps, rfl, rfl, rfl, strsOf_strs ps, ?_, ?_⟩
        · have := h1.2
          rw [List.length_flatten] at this
          show _ + ps.length * 0 ≤ _
          exact sz (by omega)
        have g1 := g1 rfl
        rw [← joinL_nil ps] at g1
        exact g1
      rw [show List.filter (fun _ => true) L = L from List.filter_eq_self.mpr fun _ _ => rfl]
      refine st_finF ?_
      have e : (L.map fun ps => D.str ps.flatten) = (L.map List.flatten).map D.str := by rw [List.map_map]; rfl
      rw [e]
      have hR := rowsP hp
      have lR : (L.map List.flatten).length ≤ 3 := by rw [List.length_map]; exact hl
      have zR : sizeR (L.map List.flatten) ≤ 4096 := by rw [sizeR_pz, ← sizeA_pz]; omega
      have hS := singL_pc hp
      have zS : sizeA (singL L) ≤ 1000 := by rw [singL_size]; exact hs
      have lS : (singL L).length ≤ 3 := by unfold singL; rw [List.length_map]; exact hl
      have nS := noC_pcs (singL L)
      have eS : ((L.map List.flatten).map fun r => D.lst (chars r)) = (singL L).map pcD := by
        unfold singL
        rw [List.map_map, List.map_map]
        refine List.map_congr_left fun ps _ => ?_
        show D.lst (chars ps.flatten) = D.lst ((ps.flatten.map fun c => [c]).map D.str)
        rw [chars_eq]
      repeat' fail
      refine lc_strs (l := L.map List.flatten) (fun r => .lst (chars r)) (sz (by omega)) ?_ ?_
      · intro j r hj KA hk
        have := (hR r (List.mem_of_getElem? hj)).2
        repeat' fail
        try exact hk
      refine st_finF ?_
      rw [eS]
      repeat' fail
      refine ⟨fun j acc (μ' : Mu) => ∃ (o6 : MO) (J : PL), μ' = μ ++ [o6] ∧ PotB o6 ∧ acc = J.map pcD ∧ JoinL J (L.take j) ∧ PcL J, ⟨o5, [], by simp, h5, rfl, .nil, fun _ h => nomatch h⟩, ?_, ?_⟩
      · rintro j d acc μ' hd ⟨o6, J, rfl, h6, rfl, hJ, pJ⟩
        rw [List.getElem?_map] at hd
        obtain ⟨ps, hj, rfl⟩ := Option.map_eq_some_iff.mp hd
        have h1 := hp ps (List.mem_of_getElem? hj)
        have et : L.take (j + 1) = L.take j ++ [ps] := by rw [List.take_add_one, hj]; rfl
        have lJ : (J.map pcD).length < sizeLine := by rw [List.length_map, hJ.len, List.length_take]; exact szl (by omega)
        repeat' fail
        intro qs o7 jq pq h7
        repeat' fail
        exact ⟨lJ, o7, J ++ [qs], by simp, h7, by simp, by rw [et]; exact hJ.snoc jq, fun q hq => by
          rcases List.mem_append.mp hq with hq | hq
          · exact pJ q hq
          · rw [List.mem_singleton.mp hq]; exact pq⟩
      rintro acc μ' ⟨o6, J, rfl, h6, rfl, hJ, pJ⟩
      rw [List.length_map, List.take_length] at hJ
      have zJ : sizeA J ≤ 1000 := by rw [sizeA_pz, hJ.pz, ← sizeA_pz]; exact hs
      have lJ : J.length ≤ 3 := by rw [hJ.len]; exact hl
      have nJ := noC_pcs J
      have gJ := bU_ge hp pJ fun t h => hJ.has h
      have pV : PcL L.reverse := fun ps h => hp ps (List.mem_reverse.mp h)
      have zV : sizeA L.reverse ≤ 1000 := by rw [sizeA_pz, pz_rev, ← sizeA_pz]; exact hs
      have lV : L.reverse.length ≤ 3 := by rw [List.length_reverse]; exact hl
      have nV := noC_pcs L.reverse
      have eV : (L.map pcD).reverse = L.reverse.map pcD := by rw [List.map_reverse]
      have hV : bU L.reverse (firstA L.reverse) = bU L (firstA L) := bU_same hp pV fun t => ⟨fun h ps hm => h ps (List.mem_reverse.mpr hm), fun h ps hm => h ps (List.mem_reverse.mp hm)⟩
      refine st_finF ?_
      repeat' fail
      rw [eV]
      refine u_weave_unbroken pV ⟨lV, zV⟩ ?_
      rw [hV]
      repeat' fail
      · obtain ⟨ps, rfl⟩ : ∃ ps, L = [ps] := by
          rw [List.length_map] at hb
          match L, hb with
          | [ps], _ => exact ⟨ps, rfl⟩
          | [], h => simp at h
          | _ :: _ :: _, h => simp at h; omega
        have e1 : cutL ([ps].map pcD) none (some 1) = [pcD ps] := by rw [cutL_to _ (by decide)]; rfl
        rw [e1]
        have lo := bU_one hp
        have hz1 : sizeA [ps] = ps.flatten.length + 1 := by rw [sizeA_pz]; show (_ + 1) * 1 = _; omega
        by_cases q20 : ((bU [ps] (firstA [ps])).length : Int) < 20
        · rw [decide_eq_true q20]
          have p2 : PcL [ps, ps] := fun x h => hp x (by simpa using h)
          have z2 : sizeA [ps, ps] ≤ 1000 := by
            have : sizeA [ps, ps] = (ps.flatten.length + 1) * ((ps.flatten.length + 1) * 1) := sizeA_pz _
            rw [this, Nat.mul_one]
            have h1 : ps.flatten.length + 1 ≤ 20 := by omega
            exact Nat.le_trans (Nat.mul_le_mul h1 h1) (by decide)
          have n2 := noC_pcs [ps, ps]
          have h2 : bU [ps, ps] (firstA [ps, ps]) = bU [ps] (firstA [ps]) := bU_same hp p2 fun t => ⟨fun h x hx => h x (by simpa using hx), fun h x hx => h x (by simpa using hx)⟩
          rw [if_pos rfl]
          refine st_mulL ⟨by decide, by decide⟩ (Nat.le_of_ble_eq_true rfl) ?_
          show outF [pcD ps] _ _
          repeat' fail
          show S_weave_unbroken C [.lst (([ps, ps] : PL).map pcD)] [] _ _
          refine u_weave_unbroken p2 ⟨Nat.le_of_ble_eq_true rfl, z2⟩ ?_
          rw [h2]
          repeat' fail
          dsimp only
          · exact ⟨_, _, _, _, _, _, _, _, rfl⟩
          · exact n2
        · rw [decide_eq_false q20, if_neg (by decide)]
          refine st_mulL ⟨by decide, by decide⟩ (Nat.le_of_ble_eq_true rfl) ?_
          show outF [] _ _
          repeat' fail
          show S_weave_unbroken C [.lst (([ps] : PL).map pcD)] [] _ _
          refine u_weave_unbroken hp ⟨Nat.le_of_ble_eq_true rfl, hs⟩ ?_
          repeat' fail
          dsimp only
          · exact ⟨_, _, _, _, _, _, _, _, rfl⟩
          · exact nL
      · dsimp only
        exact ⟨_, _, _, _, _, _, _, _, rfl⟩
    · rintro δ μ ⟨d1, d2, d3, d4, d5, d6, d7, d8, rfl⟩
      have e0 : bU [[[97, 98], [98, 97]]] (firstA [[[97, 98], [98, 97]]]) = [97, 98, 98, 97] := by
        have hp : PcL [[[97, 98], [98, 97]]] := fun ps h => by rw [List.mem_singleton.mp h]; exact pcs_of (by decide +kernel) (by decide +kernel)
        have h1 := ((bU_best hp.rowL).1.has _ List.mem_cons_self).sub
        exact (h1.eq_of_length (bU_one hp).symm).symm
      repeat' fail
      show S_weave_unbroken C [.lst (([[[97, 98], [98, 97]]] : PL).map pcD)] [] _ _
      refine u_weave_unbroken (fun ps h => by rw [List.mem_singleton.mp h]; exact pcs_of (by decide +kernel) (by decide +kernel)) (by decide +kernel) ?_
      rw [e0]
      repeat' fail
      show S_weave_unbroken C [.lst (([[[97, 98, 97]], [[98, 97, 98]]] : PL).map pcD)] [] _ _
      refine u_weave_unbroken abab_pc (by decide +kernel) ?_
      rw [abab_is]
      repeat' fail
      rw [show decide ([97, 98, 97, 98] = (Str.ofString "abab").cps.toList) = true from by decide +kernel]
      exact q

theorem all_mk {P : Program} {w : World} {K : PySem.W.Frag} {h : Heap} {mg : Str → Option Value} {fa f0 f1 f2 f3 f4 f5 f6 f7 f8 f9 f10 f11 f12 f13 f14 f15 f16 f17 f18 f19 f20 f21 f22 f23 f24 f25 f26 f27 f28 f29 f30 f31 f32 f33 f34 f35 f36 f37 f38 f39 f40 f41 C0 C1 C2 C3 C4 : Addr} {od0 an0 od1 an1 od2 an2 od3 an3 od4 an4 od5 an5 od6 an6 od7 an7 od8 an8 od9 an9 od10 an10 od11 an11 od12 an12 od13 an13 od14 an14 od15 an15 od16 an16 od17 an17 od18 an18 od19 an19 od20 an20 od21 an21 od22 an22 od23 an23 od24 an24 od25 an25 od26 an26 od27 an27 od28 an28 od29 an29 od30 an30 od31 an31 od32 an32 od33 an33 od34 an34 od35 an35 od36 an36 od37 an37 od38 an38 od39 an39 od40 an40 od41 an41 : Option Addr} {sl0 sl1 sl2 sl3 sl4 sl5 sl6 sl7 sl8 sl9 sl10 sl11 sl12 sl13 sl14 sl15 sl16 sl17 sl18 sl19 sl20 sl21 sl22 sl23 sl24 sl25 sl26 sl27 sl28 sl29 sl30 sl31 sl32 sl33 sl34 sl35 sl36 sl37 sl38 sl39 sl40 sl41 : Array (Option Value)} {oc0 kV0 dc0 pm0 cd0 ct0 oc1 kV1 dc1 pm1 cd1 ct1 oc2 kV2 dc2 pm2 cd2 ct2 oc3 kV3 dc3 pm3 cd3 ct3 oc4 kV4 dc4 pm4 cd4 ct4 oc5 kV5 dc5 pm5 cd5 ct5 oc6 kV6 dc6 pm6 cd6 ct6 oc7 kV7 dc7 pm7 cd7 ct7 oc8 kV8 dc8 pm8 cd8 ct8 oc9 kV9 dc9 pm9 cd9 ct9 oc10 kV10 dc10 pm10 cd10 ct10 oc11 kV11 dc11 pm11 cd11 ct11 oc12 kV12 dc12 pm12 cd12 ct12 oc13 kV13 dc13 pm13 cd13 ct13 oc14 kV14 dc14 pm14 cd14 ct14 oc15 kV15 dc15 pm15 cd15 ct15 oc16 kV16 dc16 pm16 cd16 ct16 oc17 kV17 dc17 pm17 cd17 ct17 oc18 kV18 dc18 pm18 cd18 ct18 oc19 kV19 dc19 pm19 cd19 ct19 oc20 kV20 dc20 pm20 cd20 ct20 oc21 kV21 dc21 pm21 cd21 ct21 oc22 kV22 dc22 pm22 cd22 ct22 oc23 kV23 dc23 pm23 cd23 ct23 oc24 kV24 dc24 pm24 cd24 ct24 oc25 kV25 dc25 pm25 cd25 ct25 oc26 kV26 dc26 pm26 cd26 ct26 oc27 kV27 dc27 pm27 cd27 ct27 oc28 kV28 dc28 pm28 cd28 ct28 oc29 kV29 dc29 pm29 cd29 ct29 oc30 kV30 dc30 pm30 cd30 ct30 oc31 kV31 dc31 pm31 cd31 ct31 oc32 kV32 dc32 pm32 cd32 ct32 oc33 kV33 dc33 pm33 cd33 ct33 oc34 kV34 dc34 pm34 cd34 ct34 oc35 kV35 dc35 pm35 cd35 ct35 oc36 kV36 dc36 pm36 cd36 ct36 oc37 kV37 dc37 pm37 cd37 ct37 oc38 kV38 dc38 pm38 cd38 ct38 oc39 kV39 dc39 pm39 cd39 ct39 oc40 kV40 dc40 pm40 cd40 ct40 oc41 kV41 dc41 pm41 cd41 ct41 : Value} {gt0 gt1 gt2 gt3 gt4 gt5 gt6 : Tok} (X : K.In h) (G : h.Ns mainGlobals mg) (hfa : mg "law" = some (.ref fa))
    (a0 : PySem.W.nsIn K mainGlobals "is_row" = some (some (.ref f0)))
    (l0 : K.lookup f0 = some ⟨oc0, od0, .func (PySem.W.fnOf "is_row" "is_row" (defArgs (topS 8)) (defBody (topS 8)) (defScope (topS 8)) .none kV0 dc0 pm0 an0 cd0 ct0), sl0⟩)
    (c0 : PySem.W.codeIn K cd0 "is_row" = true)
    (k0 : PySem.W.keepIn K (.ref f0) = true)
    (a1 : PySem.W.nsIn K mainGlobals "need_row" = some (some (.ref f1)))
    (l1 : K.lookup f1 = some ⟨oc1, od1, .func (PySem.W.fnOf "need_row" "need_row" (defArgs (topS 9)) (defBody (topS 9)) (defScope (topS 9)) .none kV1 dc1 pm1 an1 cd1 ct1), sl1⟩)
    (c1 : PySem.W.codeIn K cd1 "need_row" = true)
    (k1 : PySem.W.keepIn K (.ref f1) = true)
    (a2 : PySem.W.nsIn K mainGlobals "is_pieces" = some (some (.ref f2)))
    (l2 : K.lookup f2 = some ⟨oc2, od2, .func (PySem.W.fnOf "is_pieces" "is_pieces" (defArgs (topS 12)) (defBody (topS 12)) (defScope (topS 12)) .none kV2 dc2 pm2 an2 cd2 ct2), sl2⟩)
    (c2 : PySem.W.codeIn K cd2 "is_pieces" = true)
    (k2 : PySem.W.keepIn K (.ref f2) = true)
    (a3 : PySem.W.nsIn K mainGlobals "need_pieces" = some (some (.ref f3)))
    (l3 : K.lookup f3 = some ⟨oc3, od3, .func (PySem.W.fnOf "need_pieces" "need_pieces" (defArgs (topS 13)) (defBody (topS 13)) (defScope (topS 13)) .none kV3 dc3 pm3 an3 cd3 ct3), sl3⟩)
    (c3 : PySem.W.codeIn K cd3 "need_pieces" = true)
    (k3 : PySem.W.keepIn K (.ref f3) = true)
    (a4 : PySem.W.nsIn K mainGlobals "begins_as_far" = some (some (.ref f4)))
    (l4 : K.lookup f4 = some ⟨oc4, od4, .func (PySem.W.fnOf "begins_as_far" "begins_as_far" (defArgs (topS 14)) (defBody (topS 14)) (defScope (topS 14)) .none kV4 dc4 pm4 an4 cd4 ct4), sl4⟩)
    (c4 : PySem.W.codeIn K cd4 "begins_as_far" = true)
    (k4 : PySem.W.keepIn K (.ref f4) = true)
    (a5 : PySem.W.nsIn K mainGlobals "part_at_end" = some (some (.ref f5)))
    (l5 : K.lookup f5 = some ⟨oc5, od5, .func (PySem.W.fnOf "part_at_end" "part_at_end" (defArgs (topS 15)) (defBody (topS 15)) (defScope (topS 15)) .none kV5 dc5 pm5 an5 cd5 ct5), sl5⟩)
    (c5 : PySem.W.codeIn K cd5 "part_at_end" = true)
    (k5 : PySem.W.keepIn K (.ref f5) = true)
    (a6 : PySem.W.nsIn K mainGlobals "begins_of" = some (some (.ref f6)))
    (l6 : K.lookup f6 = some ⟨oc6, od6, .func (PySem.W.fnOf "begins_of" "begins_of" (defArgs (topS 16)) (defBody (topS 16)) (defScope (topS 16)) .none kV6 dc6 pm6 an6 cd6 ct6), sl6⟩)
    (c6 : PySem.W.codeIn K cd6 "begins_of" = true)
    (k6 : PySem.W.keepIn K (.ref f6) = true)
    (a7 : PySem.W.nsIn K mainGlobals "how_far" = some (some (.ref f7)))
    (l7 : K.lookup f7 = some ⟨oc7, od7, .func (PySem.W.fnOf "how_far" "how_far" (defArgs (topS 17)) (defBody (topS 17)) (defScope (topS 17)) .none kV7 dc7 pm7 an7 cd7 ct7), sl7⟩)
    (c7 : PySem.W.codeIn K cd7 "how_far" = true)
    (k7 : PySem.W.keepIn K (.ref f7) = true)
    (a8 : PySem.W.nsIn K mainGlobals "stands_of" = some (some (.ref f8)))
    (l8 : K.lookup f8 = some ⟨oc8, od8, .func (PySem.W.fnOf "stands_of" "stands_of" (defArgs (topS 22)) (defBody (topS 22)) (defScope (topS 22)) .none kV8 dc8 pm8 an8 cd8 ct8), sl8⟩)
    (c8 : PySem.W.codeIn K cd8 "stands_of" = true)
    (k8 : PySem.W.keepIn K (.ref f8) = true)
    (a9 : PySem.W.nsIn K mainGlobals "need_lists" = some (some (.ref f9)))
    (l9 : K.lookup f9 = some ⟨oc9, od9, .func (PySem.W.fnOf "need_lists" "need_lists" (defArgs (topS 23)) (defBody (topS 23)) (defScope (topS 23)) .none kV9 dc9 pm9 an9 cd9 ct9), sl9⟩)
    (c9 : PySem.W.codeIn K cd9 "need_lists" = true)
    (k9 : PySem.W.keepIn K (.ref f9) = true)
    (a10 : PySem.W.nsIn K mainGlobals "one_behind" = some (some (.ref f10)))
    (l10 : K.lookup f10 = some ⟨oc10, od10, .func (PySem.W.fnOf "one_behind" "one_behind" (defArgs (topS 24)) (defBody (topS 24)) (defScope (topS 24)) .none kV10 dc10 pm10 an10 cd10 ct10), sl10⟩)
    (c10 : PySem.W.codeIn K cd10 "one_behind" = true)
    (k10 : PySem.W.keepIn K (.ref f10) = true)
    (a11 : PySem.W.nsIn K mainGlobals "all_behind" = some (some (.ref f11)))
    (l11 : K.lookup f11 = some ⟨oc11, od11, .func (PySem.W.fnOf "all_behind" "all_behind" (defArgs (topS 25)) (defBody (topS 25)) (defScope (topS 25)) .none kV11 dc11 pm11 an11 cd11 ct11), sl11⟩)
    (c11 : PySem.W.codeIn K cd11 "all_behind" = true)
    (k11 : PySem.W.keepIn K (.ref f11) = true)
    (a12 : PySem.W.nsIn K mainGlobals "all_stands" = some (some (.ref f12)))
    (l12 : K.lookup f12 = some ⟨oc12, od12, .func (PySem.W.fnOf "all_stands" "all_stands" (defArgs (topS 26)) (defBody (topS 26)) (defScope (topS 26)) .none kV12 dc12 pm12 an12 cd12 ct12), sl12⟩)
    (c12 : PySem.W.codeIn K cd12 "all_stands" = true)
    (k12 : PySem.W.keepIn K (.ref f12) = true)
    (a13 : PySem.W.nsIn K mainGlobals "first_stand" = some (some (.ref f13)))
    (l13 : K.lookup f13 = some ⟨oc13, od13, .func (PySem.W.fnOf "first_stand" "first_stand" (defArgs (topS 27)) (defBody (topS 27)) (defScope (topS 27)) .none kV13 dc13 pm13 an13 cd13 ct13), sl13⟩)
    (c13 : PySem.W.codeIn K cd13 "first_stand" = true)
    (k13 : PySem.W.keepIn K (.ref f13) = true)
    (a14 : PySem.W.nsIn K mainGlobals "last_stand" = some (some (.ref f14)))
    (l14 : K.lookup f14 = some ⟨oc14, od14, .func (PySem.W.fnOf "last_stand" "last_stand" (defArgs (topS 28)) (defBody (topS 28)) (defScope (topS 28)) .none kV14 dc14 pm14 an14 cd14 ct14), sl14⟩)
    (c14 : PySem.W.codeIn K cd14 "last_stand" = true)
    (k14 : PySem.W.keepIn K (.ref f14) = true)
    (a15 : PySem.W.nsIn K mainGlobals "led_from" = some (some (.ref f15)))
    (l15 : K.lookup f15 = some ⟨oc15, od15, .func (PySem.W.fnOf "led_from" "led_from" (defArgs (topS 29)) (defBody (topS 29)) (defScope (topS 29)) .none kV15 dc15 pm15 an15 cd15 ct15), sl15⟩)
    (c15 : PySem.W.codeIn K cd15 "led_from" = true)
    (k15 : PySem.W.keepIn K (.ref f15) = true)
    (a16 : PySem.W.nsIn K mainGlobals "unbroken_paper" = some (some (.ref f16)))
    (l16 : K.lookup f16 = some ⟨oc16, od16, .func (PySem.W.fnOf "unbroken_paper" "unbroken_paper" (defArgs (topS 30)) (defBody (topS 30)) (defScope (topS 30)) .none kV16 dc16 pm16 an16 cd16 ct16), sl16⟩)
    (c16 : PySem.W.codeIn K cd16 "unbroken_paper" = true)
    (k16 : PySem.W.keepIn K (.ref f16) = true)
    (a17 : PySem.W.nsIn K mainGlobals "least_unbroken" = some (some (.ref f17)))
    (l17 : K.lookup f17 = some ⟨oc17, od17, .func (PySem.W.fnOf "least_unbroken" "least_unbroken" (defArgs (topS 31)) (defBody (topS 31)) (defScope (topS 31)) .none kV17 dc17 pm17 an17 cd17 ct17), sl17⟩)
    (c17 : PySem.W.codeIn K cd17 "least_unbroken" = true)
    (k17 : PySem.W.keepIn K (.ref f17) = true)
    (a18 : PySem.W.nsIn K mainGlobals "weave_unbroken" = some (some (.ref f18)))
    (l18 : K.lookup f18 = some ⟨oc18, od18, .func (PySem.W.fnOf "weave_unbroken" "weave_unbroken" (defArgs (topS 32)) (defBody (topS 32)) (defScope (topS 32)) .none kV18 dc18 pm18 an18 cd18 ct18), sl18⟩)
    (c18 : PySem.W.codeIn K cd18 "weave_unbroken" = true)
    (k18 : PySem.W.keepIn K (.ref f18) = true)
    (a19 : PySem.W.nsIn K mainGlobals "need_rows" = some (some (.ref f19)))
    (l19 : K.lookup f19 = some ⟨oc19, od19, .func (PySem.W.fnOf "need_rows" "need_rows" (defArgs (topS 36)) (defBody (topS 36)) (defScope (topS 36)) .none kV19 dc19 pm19 an19 cd19 ct19), sl19⟩)
    (c19 : PySem.W.codeIn K cd19 "need_rows" = true)
    (k19 : PySem.W.keepIn K (.ref f19) = true)
    (a20 : PySem.W.nsIn K mainGlobals "size_of" = some (some (.ref f20)))
    (l20 : K.lookup f20 = some ⟨oc20, od20, .func (PySem.W.fnOf "size_of" "size_of" (defArgs (topS 37)) (defBody (topS 37)) (defScope (topS 37)) .none kV20 dc20 pm20 an20 cd20 ct20), sl20⟩)
    (c20 : PySem.W.codeIn K cd20 "size_of" = true)
    (k20 : PySem.W.keepIn K (.ref f20) = true)
    (a21 : PySem.W.nsIn K mainGlobals "need_size" = some (some (.ref f21)))
    (l21 : K.lookup f21 = some ⟨oc21, od21, .func (PySem.W.fnOf "need_size" "need_size" (defArgs (topS 38)) (defBody (topS 38)) (defScope (topS 38)) .none kV21 dc21 pm21 an21 cd21 ct21), sl21⟩)
    (c21 : PySem.W.codeIn K cd21 "need_size" = true)
    (k21 : PySem.W.keepIn K (.ref f21) = true)
    (a22 : PySem.W.nsIn K mainGlobals "all_spots" = some (some (.ref f22)))
    (l22 : K.lookup f22 = some ⟨oc22, od22, .func (PySem.W.fnOf "all_spots" "all_spots" (defArgs (topS 39)) (defBody (topS 39)) (defScope (topS 39)) .none kV22 dc22 pm22 an22 cd22 ct22), sl22⟩)
    (c22 : PySem.W.codeIn K cd22 "all_spots" = true)
    (k22 : PySem.W.keepIn K (.ref f22) = true)
    (a23 : PySem.W.nsIn K mainGlobals "next_signs" = some (some (.ref f23)))
    (l23 : K.lookup f23 = some ⟨oc23, od23, .func (PySem.W.fnOf "next_signs" "next_signs" (defArgs (topS 40)) (defBody (topS 40)) (defScope (topS 40)) .none kV23 dc23 pm23 an23 cd23 ct23), sl23⟩)
    (c23 : PySem.W.codeIn K cd23 "next_signs" = true)
    (k23 : PySem.W.keepIn K (.ref f23) = true)
    (a24 : PySem.W.nsIn K mainGlobals "spot_behind" = some (some (.ref f24)))
    (l24 : K.lookup f24 = some ⟨oc24, od24, .func (PySem.W.fnOf "spot_behind" "spot_behind" (defArgs (topS 41)) (defBody (topS 41)) (defScope (topS 41)) .none kV24 dc24 pm24 an24 cd24 ct24), sl24⟩)
    (c24 : PySem.W.codeIn K cd24 "spot_behind" = true)
    (k24 : PySem.W.keepIn K (.ref f24) = true)
    (a25 : PySem.W.nsIn K mainGlobals "paper_of" = some (some (.ref f25)))
    (l25 : K.lookup f25 = some ⟨oc25, od25, .func (PySem.W.fnOf "paper_of" "paper_of" (defArgs (topS 42)) (defBody (topS 42)) (defScope (topS 42)) .none kV25 dc25 pm25 an25 cd25 ct25), sl25⟩)
    (c25 : PySem.W.codeIn K cd25 "paper_of" = true)
    (k25 : PySem.W.keepIn K (.ref f25) = true)
    (a26 : PySem.W.nsIn K mainGlobals "first_spot" = some (some (.ref f26)))
    (l26 : K.lookup f26 = some ⟨oc26, od26, .func (PySem.W.fnOf "first_spot" "first_spot" (defArgs (topS 44)) (defBody (topS 44)) (defScope (topS 44)) .none kV26 dc26 pm26 an26 cd26 ct26), sl26⟩)
    (c26 : PySem.W.codeIn K cd26 "first_spot" = true)
    (k26 : PySem.W.keepIn K (.ref f26) = true)
    (a27 : PySem.W.nsIn K mainGlobals "sign_that_keeps" = some (some (.ref f27)))
    (l27 : K.lookup f27 = some ⟨oc27, od27, .func (PySem.W.fnOf "sign_that_keeps" "sign_that_keeps" (defArgs (topS 45)) (defBody (topS 45)) (defScope (topS 45)) .none kV27 dc27 pm27 an27 cd27 ct27), sl27⟩)
    (c27 : PySem.W.codeIn K cd27 "sign_that_keeps" = true)
    (k27 : PySem.W.keepIn K (.ref f27) = true)
    (a28 : PySem.W.nsIn K mainGlobals "weave_on" = some (some (.ref f28)))
    (l28 : K.lookup f28 = some ⟨oc28, od28, .func (PySem.W.fnOf "weave_on" "weave_on" (defArgs (topS 46)) (defBody (topS 46)) (defScope (topS 46)) .none kV28 dc28 pm28 an28 cd28 ct28), sl28⟩)
    (c28 : PySem.W.codeIn K cd28 "weave_on" = true)
    (k28 : PySem.W.keepIn K (.ref f28) = true)
    (a29 : PySem.W.nsIn K mainGlobals "least_of" = some (some (.ref f29)))
    (l29 : K.lookup f29 = some ⟨oc29, od29, .func (PySem.W.fnOf "least_of" "least_of" (defArgs (topS 47)) (defBody (topS 47)) (defScope (topS 47)) .none kV29 dc29 pm29 an29 cd29 ct29), sl29⟩)
    (c29 : PySem.W.codeIn K cd29 "least_of" = true)
    (k29 : PySem.W.keepIn K (.ref f29) = true)
    (a30 : PySem.W.nsIn K mainGlobals "weave_of" = some (some (.ref f30)))
    (l30 : K.lookup f30 = some ⟨oc30, od30, .func (PySem.W.fnOf "weave_of" "weave_of" (defArgs (topS 48)) (defBody (topS 48)) (defScope (topS 48)) .none kV30 dc30 pm30 an30 cd30 ct30), sl30⟩)
    (c30 : PySem.W.codeIn K cd30 "weave_of" = true)
    (k30 : PySem.W.keepIn K (.ref f30) = true)
    (a31 : PySem.W.nsIn K mainGlobals "_law_mixed" = some (some (.ref f31)))
    (l31 : K.lookup f31 = some ⟨oc31, od31, .func (PySem.W.fnOf "_law_mixed" "_law_mixed" (defArgs (topS 50)) (defBody (topS 50)) (defScope (topS 50)) .none kV31 dc31 pm31 an31 cd31 ct31), sl31⟩)
    (c31 : PySem.W.codeIn K cd31 "_law_mixed" = true)
    (k31 : PySem.W.keepIn K (.ref f31) = true)
    (a32 : PySem.W.nsIn K mainGlobals "_law_pot" = some (some (.ref f32)))
    (l32 : K.lookup f32 = some ⟨oc32, od32, .func (PySem.W.fnOf "_law_pot" "_law_pot" (defArgs (topS 51)) (defBody (topS 51)) (defScope (topS 51)) .none kV32 dc32 pm32 an32 cd32 ct32), sl32⟩)
    (c32 : PySem.W.codeIn K cd32 "_law_pot" = true)
    (k32 : PySem.W.keepIn K (.ref f32) = true)
    (a33 : PySem.W.nsIn K mainGlobals "_law_take" = some (some (.ref f33)))
    (l33 : K.lookup f33 = some ⟨oc33, od33, .func (PySem.W.fnOf "_law_take" "_law_take" (defArgs (topS 52)) (defBody (topS 52)) (defScope (topS 52)) .none kV33 dc33 pm33 an33 cd33 ct33), sl33⟩)
    (c33 : PySem.W.codeIn K cd33 "_law_take" = true)
    (k33 : PySem.W.keepIn K (.ref f33) = true)
    (a34 : PySem.W.nsIn K mainGlobals "_law_some_letters" = some (some (.ref f34)))
    (l34 : K.lookup f34 = some ⟨oc34, od34, .func (PySem.W.fnOf "_law_some_letters" "_law_some_letters" (defArgs (topS 53)) (defBody (topS 53)) (defScope (topS 53)) .none kV34 dc34 pm34 an34 cd34 ct34), sl34⟩)
    (c34 : PySem.W.codeIn K cd34 "_law_some_letters" = true)
    (k34 : PySem.W.keepIn K (.ref f34) = true)
    (a35 : PySem.W.nsIn K mainGlobals "_law_text" = some (some (.ref f35)))
    (l35 : K.lookup f35 = some ⟨oc35, od35, .func (PySem.W.fnOf "_law_text" "_law_text" (defArgs (topS 54)) (defBody (topS 54)) (defScope (topS 54)) .none kV35 dc35 pm35 an35 cd35 ct35), sl35⟩)
    (c35 : PySem.W.codeIn K cd35 "_law_text" = true)
    (k35 : PySem.W.keepIn K (.ref f35) = true)
    (a36 : PySem.W.nsIn K mainGlobals "_law_pieces" = some (some (.ref f36)))
    (l36 : K.lookup f36 = some ⟨oc36, od36, .func (PySem.W.fnOf "_law_pieces" "_law_pieces" (defArgs (topS 55)) (defBody (topS 55)) (defScope (topS 55)) .none kV36 dc36 pm36 an36 cd36 ct36), sl36⟩)
    (c36 : PySem.W.codeIn K cd36 "_law_pieces" = true)
    (k36 : PySem.W.keepIn K (.ref f36) = true)
    (a37 : PySem.W.nsIn K mainGlobals "_law_lists" = some (some (.ref f37)))
    (l37 : K.lookup f37 = some ⟨oc37, od37, .func (PySem.W.fnOf "_law_lists" "_law_lists" (defArgs (topS 56)) (defBody (topS 56)) (defScope (topS 56)) .none kV37 dc37 pm37 an37 cd37 ct37), sl37⟩)
    (c37 : PySem.W.codeIn K cd37 "_law_lists" = true)
    (k37 : PySem.W.keepIn K (.ref f37) = true)
    (a38 : PySem.W.nsIn K mainGlobals "_law_held_right" = some (some (.ref f38)))
    (l38 : K.lookup f38 = some ⟨oc38, od38, .func (PySem.W.fnOf "_law_held_right" "_law_held_right" (defArgs (topS 57)) (defBody (topS 57)) (defScope (topS 57)) .none kV38 dc38 pm38 an38 cd38 ct38), sl38⟩)
    (c38 : PySem.W.codeIn K cd38 "_law_held_right" = true)
    (k38 : PySem.W.keepIn K (.ref f38) = true)
    (a39 : PySem.W.nsIn K mainGlobals "_law_joined" = some (some (.ref f39)))
    (l39 : K.lookup f39 = some ⟨oc39, od39, .func (PySem.W.fnOf "_law_joined" "_law_joined" (defArgs (topS 58)) (defBody (topS 58)) (defScope (topS 58)) .none kV39 dc39 pm39 an39 cd39 ct39), sl39⟩)
    (c39 : PySem.W.codeIn K cd39 "_law_joined" = true)
    (k39 : PySem.W.keepIn K (.ref f39) = true)
    (a40 : PySem.W.nsIn K mainGlobals "_law_tiny_right" = some (some (.ref f40)))
    (l40 : K.lookup f40 = some ⟨oc40, od40, .func (PySem.W.fnOf "_law_tiny_right" "_law_tiny_right" (defArgs (topS 59)) (defBody (topS 59)) (defScope (topS 59)) .none kV40 dc40 pm40 an40 cd40 ct40), sl40⟩)
    (c40 : PySem.W.codeIn K cd40 "_law_tiny_right" = true)
    (k40 : PySem.W.keepIn K (.ref f40) = true)
    (a41 : PySem.W.nsIn K mainGlobals "law" = some (some (.ref f41)))
    (l41 : K.lookup f41 = some ⟨oc41, od41, .func (PySem.W.fnOf "law" "law" (defArgs (topS 60)) (defBody (topS 60)) (defScope (topS 60)) .none kV41 dc41 pm41 an41 cd41 ct41), sl41⟩)
    (c41 : PySem.W.codeIn K cd41 "law" = true)
    (k41 : PySem.W.keepIn K (.ref f41) = true)
    (xa0 : PySem.W.nsIn K mainGlobals "WeaveError" = some (some (.ref C0)))
    (xk0 : PySem.W.keepIn K (.ref C0) = true)
    (xq0 : PySem.W.excIn K C0 [.type "ValueError", .type "Exception", .type "BaseException", .type "object"] "ValueError.__new__" = true)
    (xb0 : PySem.W.subIn K (.ref C0) (.type "BaseException") = some true)
    (xt0 : PySem.W.typeIn K (.ref C0) = some (.type "type"))
    (xa1 : PySem.W.nsIn K mainGlobals "NoRow" = some (some (.ref C1)))
    (xk1 : PySem.W.keepIn K (.ref C1) = true)
    (xq1 : PySem.W.excIn K C1 [.type "ValueError", .type "Exception", .type "BaseException", .type "object"] "ValueError.__new__" = true)
    (xb1 : PySem.W.subIn K (.ref C1) (.type "BaseException") = some true)
    (xt1 : PySem.W.typeIn K (.ref C1) = some (.type "type"))
    (xa2 : PySem.W.nsIn K mainGlobals "NoRows" = some (some (.ref C2)))
    (xk2 : PySem.W.keepIn K (.ref C2) = true)
    (xq2 : PySem.W.excIn K C2 [.type "ValueError", .type "Exception", .type "BaseException", .type "object"] "ValueError.__new__" = true)
    (xb2 : PySem.W.subIn K (.ref C2) (.type "BaseException") = some true)
    (xt2 : PySem.W.typeIn K (.ref C2) = some (.type "type"))
    (xa3 : PySem.W.nsIn K mainGlobals "NoPieces" = some (some (.ref C3)))
    (xk3 : PySem.W.keepIn K (.ref C3) = true)
    (xq3 : PySem.W.excIn K C3 [.type "ValueError", .type "Exception", .type "BaseException", .type "object"] "ValueError.__new__" = true)
    (xb3 : PySem.W.subIn K (.ref C3) (.type "BaseException") = some true)
    (xt3 : PySem.W.typeIn K (.ref C3) = some (.type "type"))
    (xa4 : PySem.W.nsIn K mainGlobals "TooMany" = some (some (.ref C4)))
    (xk4 : PySem.W.keepIn K (.ref C4) = true)
    (xq4 : PySem.W.excIn K C4 [.type "ValueError", .type "Exception", .type "BaseException", .type "object"] "ValueError.__new__" = true)
    (xb4 : PySem.W.subIn K (.ref C4) (.type "BaseException") = some true)
    (xt4 : PySem.W.typeIn K (.ref C4) = some (.type "type"))
    (z0 : PySem.W.nsIn K mainGlobals "dict" = some none)
    (z1 : PySem.W.nsIn K mainGlobals "enumerate" = some none)
    (z2 : PySem.W.nsIn K mainGlobals "int" = some none)
    (z3 : PySem.W.nsIn K mainGlobals "isinstance" = some none)
    (z4 : PySem.W.nsIn K mainGlobals "len" = some none)
    (z5 : PySem.W.nsIn K mainGlobals "list" = some none)
    (z6 : PySem.W.nsIn K mainGlobals "min" = some none)
    (z7 : PySem.W.nsIn K mainGlobals "range" = some none)
    (z8 : PySem.W.nsIn K mainGlobals "set" = some none)
    (z9 : PySem.W.nsIn K mainGlobals "sorted" = some none)
    (z10 : PySem.W.nsIn K mainGlobals "str" = some none)
    (z11 : PySem.W.nsIn K mainGlobals "sum" = some none)
    (z12 : PySem.W.nsIn K mainGlobals "tuple" = some none)
    (z13 : PySem.W.nsIn K mainGlobals "zip" = some none)
    (vs0 : PySem.W.nsIn K mainGlobals "SIGNS" = some (some (.str "abcdefghijklmnopqrstuvwxyz" gt0)))
    (vs1 : PySem.W.nsIn K mainGlobals "MOST_SIGNS" = some (some (.int 40 gt1)))
    (vs2 : PySem.W.nsIn K mainGlobals "LETTERS" = some (some (.str "abcdefghijklmnopqrstuvwxyz" gt2)))
    (vs3 : PySem.W.nsIn K mainGlobals "MOST_LISTS" = some (some (.int 3 gt3)))
    (vs4 : PySem.W.nsIn K mainGlobals "MOST_STANDS" = some (some (.int 1000 gt4)))
    (vs5 : PySem.W.nsIn K mainGlobals "MOST_ROWS" = some (some (.int 8 gt5)))
    (vs6 : PySem.W.nsIn K mainGlobals "MOST_SIZE" = some (some (.int 4096 gt6)))
    : ∃ fd : FuncData, (∀ (s : Shared) (v : Value), BindsTo s fd ⟨[v], []⟩ [("_law_script", v)]) ∧ ∀ base : Heap, K.In base → base.Ns mainGlobals mg → SmB K mg base → SW.FnOk P w K mg base (L2.CX P w) 7 fa fd ["_law_script"] (upF K (S_law fun _ => 0)) := by
  have e := hfa.symm.trans (PySem.W.mg_of X G a41)
  cases e
  have T : Txt K mg (fun x => if x = "WeaveError" then C0 else if x = "NoRow" then C1 else if x = "NoRows" then C2 else if x = "NoPieces" then C3 else if x = "TooMany" then C4 else 0) := ⟨(gfun_mk X G a0 l0 c0 k0 fun _ _ _ _ _ _ us hl => match us, hl with | [_], _ => rfl),
    (gfun_mk X G a1 l1 c1 k1 fun _ _ _ _ _ _ us hl => match us, hl with | [_], _ => rfl),
    (gfun_mk X G a2 l2 c2 k2 fun _ _ _ _ _ _ us hl => match us, hl with | [_], _ => rfl),
    (gfun_mk X G a3 l3 c3 k3 fun _ _ _ _ _ _ us hl => match us, hl with | [_], _ => rfl),
    (gfun_mk X G a4 l4 c4 k4 fun _ _ _ _ _ _ us hl => match us, hl with | [_, _], _ => rfl),
    (gfun_mk X G a5 l5 c5 k5 fun _ _ _ _ _ _ us hl => match us, hl with | [_, _], _ => rfl),
    (gfun_mk X G a6 l6 c6 k6 fun _ _ _ _ _ _ us hl => match us, hl with | [_, _], _ => rfl),
    (gfun_mk X G a7 l7 c7 k7 fun _ _ _ _ _ _ us hl => match us, hl with | [_, _], _ => rfl),
    (gfun_mk X G a8 l8 c8 k8 fun _ _ _ _ _ _ us hl => match us, hl with | [_], _ => rfl),
    (gfun_mk X G a9 l9 c9 k9 fun _ _ _ _ _ _ us hl => match us, hl with | [_], _ => rfl),
    (gfun_mk X G a10 l10 c10 k10 fun _ _ _ _ _ _ us hl => match us, hl with | [_, _, _], _ => rfl),
    (gfun_mk X G a11 l11 c11 k11 fun _ _ _ _ _ _ us hl => match us, hl with | [_, _, _], _ => rfl),
    (gfun_mk X G a12 l12 c12 k12 fun _ _ _ _ _ _ us hl => match us, hl with | [_], _ => rfl),
    (gfun_mk X G a13 l13 c13 k13 fun _ _ _ _ _ _ us hl => match us, hl with | [_], _ => rfl),
    (gfun_mk X G a14 l14 c14 k14 fun _ _ _ _ _ _ us hl => match us, hl with | [_], _ => rfl),
    (gfun_mk X G a15 l15 c15 k15 fun _ _ _ _ _ _ us hl => match us, hl with | [_], _ => rfl),
    (gfun_mk X G a16 l16 c16 k16 fun _ _ _ _ _ _ us hl => match us, hl with | [_], _ => rfl),
    (gfun_mk X G a17 l17 c17 k17 fun _ _ _ _ _ _ us hl => match us, hl with | [_], _ => rfl),
    (gfun_mk X G a18 l18 c18 k18 fun _ _ _ _ _ _ us hl => match us, hl with | [_], _ => rfl),
    (gfun_mk X G a19 l19 c19 k19 fun _ _ _ _ _ _ us hl => match us, hl with | [_], _ => rfl),
    (gfun_mk X G a20 l20 c20 k20 fun _ _ _ _ _ _ us hl => match us, hl with | [_], _ => rfl),
    (gfun_mk X G a21 l21 c21 k21 fun _ _ _ _ _ _ us hl => match us, hl with | [_], _ => rfl),
    (gfun_mk X G a22 l22 c22 k22 fun _ _ _ _ _ _ us hl => match us, hl with | [_], _ => rfl),
    (gfun_mk X G a23 l23 c23 k23 fun _ _ _ _ _ _ us hl => match us, hl with | [_, _], _ => rfl),
    (gfun_mk X G a24 l24 c24 k24 fun _ _ _ _ _ _ us hl => match us, hl with | [_, _, _], _ => rfl),
    (gfun_mk X G a25 l25 c25 k25 fun _ _ _ _ _ _ us hl => match us, hl with | [_], _ => rfl),
    (gfun_mk X G a26 l26 c26 k26 fun _ _ _ _ _ _ us hl => match us, hl with | [_], _ => rfl),
    (gfun_mk X G a27 l27 c27 k27 fun _ _ _ _ _ _ us hl => match us, hl with | [_, _, _], _ => rfl),
    (gfun_mk X G a28 l28 c28 k28 fun _ _ _ _ _ _ us hl => match us, hl with | [_, _, _], _ => rfl),
    (gfun_mk X G a29 l29 c29 k29 fun _ _ _ _ _ _ us hl => match us, hl with | [_], _ => rfl),
    (gfun_mk X G a30 l30 c30 k30 fun _ _ _ _ _ _ us hl => match us, hl with | [_], _ => rfl),
    (gfun_mk X G a31 l31 c31 k31 fun _ _ _ _ _ _ us hl => match us, hl with | [_, _], _ => rfl),
    (gfun_mk X G a32 l32 c32 k32 fun _ _ _ _ _ _ us hl => match us, hl with | [_], _ => rfl),
    (gfun_mk X G a33 l33 c33 k33 fun _ _ _ _ _ _ us hl => match us, hl with | [_, _], _ => rfl),
    (gfun_mk X G a34 l34 c34 k34 fun _ _ _ _ _ _ us hl => match us, hl with | [_], _ => rfl),
    (gfun_mk X G a35 l35 c35 k35 fun _ _ _ _ _ _ us hl => match us, hl with | [_, _, _], _ => rfl),
    (gfun_mk X G a36 l36 c36 k36 fun _ _ _ _ _ _ us hl => match us, hl with | [_, _, _], _ => rfl),
    (gfun_mk X G a37 l37 c37 k37 fun _ _ _ _ _ _ us hl => match us, hl with | [_, _], _ => rfl),
    (gfun_mk X G a38 l38 c38 k38 fun _ _ _ _ _ _ us hl => match us, hl with | [_, _], _ => rfl),
    (gfun_mk X G a39 l39 c39 k39 fun _ _ _ _ _ _ us hl => match us, hl with | [_, _], _ => rfl),
    (gfun_mk X G a40 l40 c40 k40 fun _ _ _ _ _ _ us hl => match us, hl with | [_, _], _ => rfl),
    (gfun_mk X G a41 l41 c41 k41 fun _ _ _ _ _ _ us hl => match us, hl with | [_], _ => rfl),
    (PySem.W.mg_none_of X G z0),
    (PySem.W.mg_none_of X G z1),
    (PySem.W.mg_none_of X G z2),
    (PySem.W.mg_none_of X G z3),
    (PySem.W.mg_none_of X G z4),
    (PySem.W.mg_none_of X G z5),
    (PySem.W.mg_none_of X G z6),
    (PySem.W.mg_none_of X G z7),
    (PySem.W.mg_none_of X G z8),
    (PySem.W.mg_none_of X G z9),
    (PySem.W.mg_none_of X G z10),
    (PySem.W.mg_none_of X G z11),
    (PySem.W.mg_none_of X G z12),
    (PySem.W.mg_none_of X G z13),
    (⟨_, PySem.W.mg_of X G vs0⟩),
    (⟨_, PySem.W.mg_of X G vs1⟩),
    (⟨_, PySem.W.mg_of X G vs2⟩),
    (⟨_, PySem.W.mg_of X G vs3⟩),
    (⟨_, PySem.W.mg_of X G vs4⟩),
    (⟨_, PySem.W.mg_of X G vs5⟩),
    (⟨_, PySem.W.mg_of X G vs6⟩),
    (by rw [show (if ("WeaveError" : Str) = "WeaveError" then C0 else if ("WeaveError" : Str) = "NoRow" then C1 else if ("WeaveError" : Str) = "NoRows" then C2 else if ("WeaveError" : Str) = "NoPieces" then C3 else if ("WeaveError" : Str) = "TooMany" then C4 else 0 : Addr) = C0 from if_pos rfl]; exact excf_mk X G xa0 xk0 xq0 xb0 xt0),
    (by rw [show (if ("NoRow" : Str) = "WeaveError" then C0 else if ("NoRow" : Str) = "NoRow" then C1 else if ("NoRow" : Str) = "NoRows" then C2 else if ("NoRow" : Str) = "NoPieces" then C3 else if ("NoRow" : Str) = "TooMany" then C4 else 0 : Addr) = C1 from (if_neg (by decide +kernel)).trans (if_pos rfl)]; exact excf_mk X G xa1 xk1 xq1 xb1 xt1),
    (by rw [show (if ("NoRows" : Str) = "WeaveError" then C0 else if ("NoRows" : Str) = "NoRow" then C1 else if ("NoRows" : Str) = "NoRows" then C2 else if ("NoRows" : Str) = "NoPieces" then C3 else if ("NoRows" : Str) = "TooMany" then C4 else 0 : Addr) = C2 from (if_neg (by decide +kernel)).trans ((if_neg (by decide +kernel)).trans (if_pos rfl))]; exact excf_mk X G xa2 xk2 xq2 xb2 xt2),
    (by rw [show (if ("NoPieces" : Str) = "WeaveError" then C0 else if ("NoPieces" : Str) = "NoRow" then C1 else if ("NoPieces" : Str) = "NoRows" then C2 else if ("NoPieces" : Str) = "NoPieces" then C3 else if ("NoPieces" : Str) = "TooMany" then C4 else 0 : Addr) = C3 from (if_neg (by decide +kernel)).trans ((if_neg (by decide +kernel)).trans ((if_neg (by decide +kernel)).trans (if_pos rfl)))]; exact excf_mk X G xa3 xk3 xq3 xb3 xt3),
    (by rw [show (if ("TooMany" : Str) = "WeaveError" then C0 else if ("TooMany" : Str) = "NoRow" then C1 else if ("TooMany" : Str) = "NoRows" then C2 else if ("TooMany" : Str) = "NoPieces" then C3 else if ("TooMany" : Str) = "TooMany" then C4 else 0 : Addr) = C4 from (if_neg (by decide +kernel)).trans ((if_neg (by decide +kernel)).trans ((if_neg (by decide +kernel)).trans ((if_neg (by decide +kernel)).trans (if_pos rfl))))]; exact excf_mk X G xa4 xk4 xq4 xb4 xt4)⟩
  exact ⟨PySem.W.fnOf "law" "law" (defArgs (topS 60)) (defBody (topS 60)) (defScope (topS 60)) .none kV41 dc41 pm41 an41 cd41 ct41, fun s v => .of_eq rfl, fun base _ _ SB => by have r := ok_law (P := P) (w := w) (base := base) (fun_mk l41 c41 k41) SB T; exact r⟩
end SW
open PySem PySem.W PyProof.Rows
set_option maxRecDepth 100000 in
set_option maxHeartbeats 0 in
theorem PySem.Challenge.cw_shortweave_k45_whole_pieces_and_rows_holds : PySem.Challenge.rw_shortweave_k45_whole_pieces_and_rows.Holds := by
  w_on; o_law; k_head; (case hw => w_witness2)
  k_fill
  refine SW.walk_of (l := PySem.Challenge.rw_shortweave_k45_whole_pieces_and_rows) (n := 63) (k := 7) (x := "_law_script") (CX := fun w => L2.CX PySem.Challenge.rw_shortweave_k45_whole_pieces_and_rows.prog w) (sp := fun w => SW.upF _ (SW.S_law fun _ => 0)) rfl (by decide) rfl (by decide +kernel) ⟨⟨rfl, by decide, by decide⟩, rfl⟩ ?lam (fun w h Y => PySem.W.kIn_of Y) ?F (fun w H a ns hl hO hS => SW.sp_scr hO hS ⟨ns, rfl, rfl, rfl⟩) (fun w H s e s' h => SW.cx_out H s e s' h)
  case lam =>
    intro w c P hL
    refine' SW.lamC_no ?n hL
    (case n => k_is)
  case F =>
    intro w mg fa h KX G hmg
    refine' SW.all_mk KX G hmg ?a0 ?l0 ?c0 ?k0 ?a1 ?l1 ?c1 ?k1 ?a2 ?l2 ?c2 ?k2 ?a3 ?l3 ?c3 ?k3 ?a4 ?l4 ?c4 ?k4 ?a5 ?l5 ?c5 ?k5 ?a6 ?l6 ?c6 ?k6 ?a7 ?l7 ?c7 ?k7 ?a8 ?l8 ?c8 ?k8 ?a9 ?l9 ?c9 ?k9 ?a10 ?l10 ?c10 ?k10 ?a11 ?l11 ?c11 ?k11 ?a12 ?l12 ?c12 ?k12 ?a13 ?l13 ?c13 ?k13 ?a14 ?l14 ?c14 ?k14 ?a15 ?l15 ?c15 ?k15 ?a16 ?l16 ?c16 ?k16 ?a17 ?l17 ?c17 ?k17 ?a18 ?l18 ?c18 ?k18 ?a19 ?l19 ?c19 ?k19 ?a20 ?l20 ?c20 ?k20 ?a21 ?l21 ?c21 ?k21 ?a22 ?l22 ?c22 ?k22 ?a23 ?l23 ?c23 ?k23 ?a24 ?l24 ?c24 ?k24 ?a25 ?l25 ?c25 ?k25 ?a26 ?l26 ?c26 ?k26 ?a27 ?l27 ?c27 ?k27 ?a28 ?l28 ?c28 ?k28 ?a29 ?l29 ?c29 ?k29 ?a30 ?l30 ?c30 ?k30 ?a31 ?l31 ?c31 ?k31 ?a32 ?l32 ?c32 ?k32 ?a33 ?l33 ?c33 ?k33 ?a34 ?l34 ?c34 ?k34 ?a35 ?l35 ?c35 ?k35 ?a36 ?l36 ?c36 ?k36 ?a37 ?l37 ?c37 ?k37 ?a38 ?l38 ?c38 ?k38 ?a39 ?l39 ?c39 ?k39 ?a40 ?l40 ?c40 ?k40 ?a41 ?l41 ?c41 ?k41 ?xa0 ?xk0 ?xq0 ?xb0 ?xt0 ?xa1 ?xk1 ?xq1 ?xb1 ?xt1 ?xa2 ?xk2 ?xq2 ?xb2 ?xt2 ?xa3 ?xk3 ?xq3 ?xb3 ?xt3 ?xa4 ?xk4 ?xq4 ?xb4 ?xt4 ?z0 ?z1 ?z2 ?z3 ?z4 ?z5 ?z6 ?z7 ?z8 ?z9 ?z10 ?z11 ?z12 ?z13 ?vs0 ?vs1 ?vs2 ?vs3 ?vs4 ?vs5 ?vs6
    (case a0 => k_is); (case l0 => k_is); (case c0 => k_is); (case k0 => k_is); (case a1 => k_is); (case l1 => k_is)
    (case c1 => k_is); (case k1 => k_is); (case a2 => k_is); (case l2 => k_is); (case c2 => k_is); (case k2 => k_is)
    (case a3 => k_is); (case l3 => k_is); (case c3 => k_is); (case k3 => k_is); (case a4 => k_is); (case l4 => k_is)
    (case c4 => k_is); (case k4 => k_is); (case a5 => k_is); (case l5 => k_is); (case c5 => k_is); (case k5 => k_is)
    (case a6 => k_is); (case l6 => k_is); (case c6 => k_is); (case k6 => k_is); (case a7 => k_is); (case l7 => k_is)
    (case c7 => k_is); (case k7 => k_is); (case a8 => k_is); (case l8 => k_is); (case c8 => k_is); (case k8 => k_is)
    (case a9 => k_is); (case l9 => k_is); (case c9 => k_is); (case k9 => k_is); (case a10 => k_is); (case l10 => k_is)
    (case c10 => k_is); (case k10 => k_is); (case a11 => k_is); (case l11 => k_is); (case c11 => k_is); (case k11 => k_is)
    (case a12 => k_is); (case l12 => k_is); (case c12 => k_is); (case k12 => k_is); (case a13 => k_is); (case l13 => k_is)
    (case c13 => k_is); (case k13 => k_is); (case a14 => k_is); (case l14 => k_is); (case c14 => k_is); (case k14 => k_is)
    (case a15 => k_is); (case l15 => k_is); (case c15 => k_is); (case k15 => k_is); (case a16 => k_is); (case l16 => k_is)
    (case c16 => k_is); (case k16 => k_is); (case a17 => k_is); (case l17 => k_is); (case c17 => k_is); (case k17 => k_is)
    (case a18 => k_is); (case l18 => k_is); (case c18 => k_is); (case k18 => k_is); (case a19 => k_is); (case l19 => k_is)
    (case c19 => k_is); (case k19 => k_is); (case a20 => k_is); (case l20 => k_is); (case c20 => k_is); (case k20 => k_is)
    (case a21 => k_is); (case l21 => k_is); (case c21 => k_is); (case k21 => k_is); (case a22 => k_is); (case l22 => k_is)
    (case c22 => k_is); (case k22 => k_is); (case a23 => k_is); (case l23 => k_is); (case c23 => k_is); (case k23 => k_is)
    (case a24 => k_is); (case l24 => k_is); (case c24 => k_is); (case k24 => k_is); (case a25 => k_is); (case l25 => k_is)
    (case c25 => k_is); (case k25 => k_is); (case a26 => k_is); (case l26 => k_is); (case c26 => k_is); (case k26 => k_is)
    (case a27 => k_is); (case l27 => k_is); (case c27 => k_is); (case k27 => k_is); (case a28 => k_is); (case l28 => k_is)
    (case c28 => k_is); (case k28 => k_is); (case a29 => k_is); (case l29 => k_is); (case c29 => k_is); (case k29 => k_is)
    (case a30 => k_is); (case l30 => k_is); (case c30 => k_is); (case k30 => k_is); (case a31 => k_is); (case l31 => k_is)
    (case c31 => k_is); (case k31 => k_is); (case a32 => k_is); (case l32 => k_is); (case c32 => k_is); (case k32 => k_is)
    (case a33 => k_is); (case l33 => k_is); (case c33 => k_is); (case k33 => k_is); (case a34 => k_is); (case l34 => k_is)
    (case c34 => k_is); (case k34 => k_is); (case a35 => k_is); (case l35 => k_is); (case c35 => k_is); (case k35 => k_is)
    (case a36 => k_is); (case l36 => k_is); (case c36 => k_is); (case k36 => k_is); (case a37 => k_is); (case l37 => k_is)
    (case c37 => k_is); (case k37 => k_is); (case a38 => k_is); (case l38 => k_is); (case c38 => k_is); (case k38 => k_is)
    (case a39 => k_is); (case l39 => k_is); (case c39 => k_is); (case k39 => k_is); (case a40 => k_is); (case l40 => k_is)
    (case c40 => k_is); (case k40 => k_is); (case a41 => k_is); (case l41 => k_is); (case c41 => k_is); (case k41 => k_is)
    (case xa0 => k_is); (case xk0 => k_is); (case xq0 => k_exc); (case xb0 => k_is); (case xt0 => k_is); (case xa1 => k_is)
    (case xk1 => k_is); (case xq1 => k_exc); (case xb1 => k_is); (case xt1 => k_is); (case xa2 => k_is); (case xk2 => k_is)
    (case xq2 => k_exc); (case xb2 => k_is); (case xt2 => k_is); (case xa3 => k_is); (case xk3 => k_is); (case xq3 => k_exc)
    (case xb3 => k_is); (case xt3 => k_is); (case xa4 => k_is); (case xk4 => k_is); (case xq4 => k_exc); (case xb4 => k_is)
    (case xt4 => k_is); (case z0 => k_is); (case z1 => k_is); (case z2 => k_is); (case z3 => k_is); (case z4 => k_is)
    (case z5 => k_is); (case z6 => k_is); (case z7 => k_is); (case z8 => k_is); (case z9 => k_is); (case z10 => k_is)
    (case z11 => k_is); (case z12 => k_is); (case z13 => k_is); (case vs0 => k_is); (case vs1 => k_is); (case vs2 => k_is)
    (case vs3 => k_is); (case vs4 => k_is); (case vs5 => k_is); (case vs6 => k_is)
