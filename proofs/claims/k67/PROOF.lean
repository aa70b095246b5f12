import PyProof.Rows.All
import Wide.All
import OpenK.AllK
import Wide.FinOn
import PyProof.EqAt
import PyProof.EqKinds
import PyProof.TupleCall
import HandS.ForMost
import HandS.ForExc
import HandS.Defaults
import HandS.HeadHook1
import HandS.TupAny
import HandS.TupMul
import HandS.IsInst
import HandS.Wide
import HandS.TupLe
import HandS.CallSlots
import HandS.Flow
import HandS.HeadHook2
import PyProof.ReprRoads
import PyProof.P3Eq
import PyProof.P3In
import KE.KRevSl
import HandS.Style
import HandS.Head0
import HandS.Head1
import HandS.Head2
import HandS.HeadEnd
import PyProof.StrLawsRepr
import PyProof.FitsInt
import KE.GoesEnum
import HandS.ExcIs
import HandS.ExcValue
import HandS.ExcField
import HandS.ExcBuiltin
import HandS.Dict
import HandS.Iter
import HandS.SortRule
import HandS.HeadHook3
import HandS.FStr
import HandS.Text
import HandS.RaiseMore
import HandS.StrMore
import KE.KStateDown
import HandS.HeadHook4
import PySem.Challenge.RW_growblind_k67_policies_written_and_read
set_option Elab.async false
set_option linter.all false
set_option maxRecDepth 100000
set_option maxHeartbeats 4000000
/-! Calls of defs whose surroundings hold no guard (repr asks for that), and the law's own call. -/
namespace U
open PySem PySem.Spec L2
open PyProof.Rows hiding St

structure RG (k : Nat) (A : Around) : Prop where
  room : Room k A
  gd : A.guards = some []
theorem RG.mono {j k : Nat} {A : Around} (r : RG k A) (h : j ≤ k) : RG j A := ⟨r.room.mono h, r.gd⟩
theorem RG.deep {k : Nat} {A : Around} {env : Env} (r : RG (k + 1) A) : RG k (A.deeper env) := ⟨r.room.deeper env, r.gd⟩

structure FnG (P : Program) (w : World) (K : PySem.W.Frag) (mg : Str → Option Value) (base : Heap)
    (k : Nat) (f : Addr) (fd : FuncData) (ps : List Str) (sp : Sp) : Prop where
  len : ∀ vs H Q E, sp vs H Q E → vs.length = ps.length
  run : ∀ (A : Around) (outer : List Env) (s : Shared) (H : Hp) (args : Args)
    (us : List Value) (vs : List V) (Q : VK) (E : XK),
    RG k A → Env0 P w K mg base A outer s H → BindsTo s fd args (ps.zip us) →
    Vals vs us → sp vs H Q E →
    codeAny (model P w) A (.call (.ref f) args) (CR (L2.CX P w) outer P w H s Q E) s

section
variable {P : Program} {w : World} {K : PySem.W.Frag} {mg : Str → Option Value} {base : Heap}
theorem FnG.mono {j k : Nat} {f : Addr} {fd : FuncData} {ps : List Str} {sp : Sp}
    (F : FnG P w K mg base j f fd ps sp) (h : j ≤ k) : FnG P w K mg base k f fd ps sp :=
  ⟨F.len, fun A outer s H args us vs Q E hr => F.run A outer s H args us vs Q E (hr.mono h)⟩
theorem FnG.imp {k : Nat} {f : Addr} {fd : FuncData} {ps : List Str} {sp sp' : Sp}
    (F : FnG P w K mg base k f fd ps sp) (h : ∀ vs H Q E, sp' vs H Q E → sp vs H Q E) :
    FnG P w K mg base k f fd ps sp' :=
  ⟨fun vs H Q E q => F.len vs H Q E (h _ _ _ _ q),
   fun A outer s H args us vs Q E hr he hb hv hs => F.run A outer s H args us vs Q E hr he hb hv (h _ _ _ _ hs)⟩

/-- a def of the text by its body -/
theorem fnG_mk {x qual : Str} {params : Arguments} {body : List Stmt} {scope : Scope} {dvs : List V} {kws : List (Str × V)} {f : Addr} {fd : FuncData} {N ps : List Str} {k : Nat} {sp : Sp}
    (F : FunD K x qual params body scope dvs kws f fd) (S : FnScope N ps scope)
    (len : ∀ vs H Q E, sp vs H Q E → vs.length = ps.length)
    (hbody : ∀ (cdv : Value) (A : Around) (outer : List Env) (s : Shared) (H : Hp) (vs : List V) (Q : VK) (E : XK),
      RG k (A.deeper (envOfC qual scope s.heap.objs.size f cdv)) → sp vs H Q E →
      ∃ t, PSs (cxOf (L2.CX P w) P w K mg base N qual scope f cdv A outer s H E) body t ∧
        t { nx := fun _ H' => Q .non H', rt := Q } (start N vs) H) :
    FnG P w K mg base (k + 1) f fd ps sp := by
  obtain ⟨oc, od, dV, kV, doc, pm, an, cdv, ct, osl, rfl, lk, hcd, _, _⟩ := F.ex
  refine ⟨len, ?_⟩
  intro A outer s H args us vs Q E hr e0 hb r hsp
  have up : ∀ b o, base.get? b = some o → s.heap.get? b = some o := fun b o e => (e0.bs b o e).1
  have KX : K.In s.heap := e0.mod.kin.keeps up
  have lim := e0.mod.nolimit.keeps up
  refine codeAny_call_function hr.room.depth (KX _ _ lk) rfl S.co S.gen rfl (PySem.W.codeRec_of KX hcd)
    (hb _ _ _ _ (wpAny_newFunctionEnv_cells S.kind ?_ ?_))
  · rintro ⟨n, v⟩ hy
    have hn := (List.of_mem_zip hy).1
    cases S.par n hn with
    | inl q => exact Or.inl q
    | inr q => exact Or.inr ⟨q, PySem.W.cellsFrom_some _ _ _ (Or.inl q)⟩
  · rintro env rfl s1 x
    obtain ⟨t, ht, hq⟩ := hbody cdv A outer s H vs Q E hr.deep hsp
    have I := inv_start (CX := L2.CX P w) (E := E) S hr.room.hd e0 (len _ _ _ _ hsp) r x
    refine ⟨lim.keeps x.toInCall.keep, codeAny_func (wpAny_mono (ht.run [] s1 _ H _ I hq) ?_ (fun _ _ z => z))⟩
    intro fl s' hs
    cases fl with
    | brk => exact hs.elim fun _ z => z.elim fun _ z => z.2.elim
    | cont => exact hs.elim fun _ z => z.elim fun _ z => z.2.elim
    | ret u =>
      obtain ⟨v, _, H', J, rv, q⟩ := hs
      exact ⟨v, H', J.os, J.bare, J.base, J.hok, rv, q⟩
    | next =>
      obtain ⟨_, H', J, q⟩ := hs
      exact ⟨V.non, H', J.os, J.bare, J.base, J.hok, rfl, q⟩
end

section
variable {X : Cx} {k : Nat} {f C : Addr} {fd : FuncData} {ps : List Str} {sp : Sp} {E : St → XK}
/-- the callee runs -/
theorem run_fnG {pins : List (Addr × Obj)} {σ : St} {H : Hp} {s : Shared} {Q : VK} {vs : List V}
    {args : Args} {us' : List Value}
    (F : FnG X.prog X.w X.K X.mg X.base k f fd ps sp) (hr : RG k X.A)
    (hx : PassesAt (L2.CX X.prog X.w) X σ (E σ)) (I : Inv X pins σ H s)
    (hb : BindsTo s fd args (ps.zip us')) (r : Vals vs us') (h : sp vs H Q (E σ)) :
    wpAny (model X.prog X.w) X.A (PySem.call (.ref f) args.pos args.kw) (EP X pins σ Q) X.xe s := by
  refine wpAny_call (codeAny_mono (F.run X.A X.stack s H args us' vs Q (E σ) hr I.env0 hb r h) ?_)
  intro r s' hq
  match r, hq with
  | .error e, hq => exact hx pins H s e s' I hq
  | .ok (.ret u), hq => exact I.after hq
  | .ok .next, hq => exact False.elim hq
  | .ok .brk, hq => exact False.elim hq
  | .ok .cont, hq => exact False.elim hq
end
end U

set_option Elab.async false
set_option linter.all false
set_option maxRecDepth 100000
set_option maxHeartbeats 4000000
/-! The law's own call, from the promise of its def. -/
namespace U
open PySem PySem.Spec L2
open PyProof.Rows hiding St

theorem okM_tail {P : Program} {w : World} {H : Hp} {s₁ : Shared} {hO : Only H} (hok : HOk P w H s₁.heap)
    {u : Value} {s' : Shared} (ce : CE [] P w H s₁ (fun v _ => v = .bl true) u s') :
    u = .bool true ∧ OldK s₁.heap s'.heap ∧ s'.os = s₁.os ∧ AllBare s'.gens := by
  obtain ⟨v, H', os, bare, un, hok', rv, rfl⟩ := ce
  cases (show u = Value.bool true from rv)
  refine ⟨rfl, OldK.of_keep ?_, os, bare⟩
  intro b o e
  have nofr : ∀ c : Addr, ¬ c ∈ frs [] := fun c z => by cases z
  match q : H b with
  | none => exact un.keep b o e q (nofr b) (by intro z; cases z)
  | some u =>
    match hO b with
    | .inl z => rw [q] at z; cases z
    | .inr ⟨ob, xs, z⟩ =>
      have a1 := (hok b _ z).1
      have a2 := (hok' b _ (un.frzs b ob _ z)).1
      rw [e] at a1
      cases a1
      exact a2

/-- the law's call keeps what the statement asks -/
theorem law_run {P : Program} {w : World} {K : PySem.W.Frag} {mg mb : Str → Option Value} {k : Nat} {fa a : Addr}
    {fd : FuncData} {x : Str} {sp : Sp} {s₁ : Shared} {vs : List Value} {ns : List Int}
    (KX : K.In s₁.heap) (hns : s₁.heap.Ns mainGlobals mg) (hb : s₁.heap.Ns builtinsNs mb)
    (hbb : ∀ x : Str, x ≠ "__name__" → mb x = bootBuiltins x) (hlim : s₁.heap.NoLimit) (hg : s₁.gens = #[])
    (ha : s₁.heap.get? a = some { cls := .type "list", data := .seq vs.toArray })
    (hi : IntsAre vs ns) (hl : ns.length ≤ sizeLine) (hr : RG k callerA)
    (F : ∀ base : Heap, K.In base → base.Ns mainGlobals mg → FnG P w K mg base k fa fd [x] sp)
    (hbind : ∀ (s : Shared) (u : Value), BindsTo s fd ⟨[u], []⟩ [(x, u)])
    (hsp : ∀ H : Hp, Only H → SqL K H a (ns.map V.int) → sp [.ref a] H (fun v _ => v = .bl true) fun _ _ _ => False) :
    codeAny (model P w) callerA (.call (.ref fa) ⟨[.ref a], []⟩)
      (fun r s' => r = .ok (.ret (.bool true)) ∧ OldK s₁.heap s'.heap ∧ s'.os = s₁.os ∧ AllBare s'.gens) s₁ := by
  have rv := vals_ints hi
  have core : ∀ H : Hp, Only H → SqL K H a (ns.map V.int) → HOk P w H s₁.heap →
      (∀ b o, H b = some o → b = a ∧ K.lookup a = none) →
      codeAny (model P w) callerA (.call (.ref fa) ⟨[.ref a], []⟩)
        (fun r s' => r = .ok (.ret (.bool true)) ∧ OldK s₁.heap s'.heap ∧ s'.os = s₁.os ∧ AllBare s'.gens) s₁ := by
    intro H hO hS hok hA
    have free : ∀ b, b ≠ a → H b = none := fun b nb => by
      cases q : H b with
      | none => rfl
      | some o => exact absurd (hA b o q).1 nb
    have ns' : ∀ {b m}, s₁.heap.Ns b m → (hidT s₁.heap H).Ns b m := by
      rintro b m ⟨o, es, ep, e, d, r⟩
      refine ⟨o, es, ep, hidT_get e (free b ?_), d, r⟩
      rintro rfl
      rw [ha] at e
      cases e
      cases d
    have kb : K.In (hidT s₁.heap H) := by
      intro b o e
      refine hidT_get (KX b o e) ?_
      cases q : H b with
      | none => rfl
      | some u =>
        obtain ⟨rfl, z⟩ := hA b u q
        rw [z] at e
        cases e
    have lim' : (hidT s₁.heap H).NoLimit := by
      obtain ⟨mc, h1, h2⟩ := hlim
      exact ⟨mc, ns' h1, h2⟩
    have e0 : Env0 P w K mg (hidT s₁.heap H) callerA [] s₁ H :=
      { frames := rfl
        mod := ⟨kb, ns' hns, ⟨mb, ns' hb, hbb⟩, lim'⟩
        bs := fun b o e => of_hidT e
        bsz := Nat.le_of_eq (hidT_size _ _)
        funs := trivial
        frf := fun b z => by cases z
        hok := hok
        bare := .of_eq hg }
    have run := (F _ kb (ns' hns)).run callerA [] s₁ H ⟨[.ref a], []⟩ [.ref a] [.ref a] _ _ hr e0
      (hbind s₁ (.ref a)) (.cons rfl .nil) (hsp H hO hS)
    refine codeAny_mono run ?_
    intro r s' h
    match r, h with
    | .error e, h =>
      obtain ⟨_, _, _, _, _, _, _, _, _, _, _, _, z⟩ := h
      exact z.elim
    | .ok .next, h => exact False.elim h
    | .ok .brk, h => exact False.elim h
    | .ok .cont, h => exact False.elim h
    | .ok (.ret u), h =>
      obtain ⟨rfl, h2⟩ := okM_tail (hO := hO) hok h
      exact ⟨rfl, h2⟩
  have sz : ns.length = vs.length := hi.length.symm
  cases hk : K.lookup a with
  | some o =>
    have e := KX a o hk
    rw [ha] at e
    cases e
    refine core (fun _ => none) (fun _ => Or.inl rfl) (Or.inr ⟨_, vs.toArray, _, hk, rfl, rfl, rfl, ?_, ?_⟩)
      (fun b u z => nomatch z) (fun b u z => nomatch z)
    · rw [List.size_toArray, ← sz]
      exact hl
    · simpa using rv
  | none =>
    let H1 : Hp := upd (fun _ => none) a (.frz { cls := .type "list", data := .seq vs.toArray } (.lst (ns.map V.int)))
    have hH : ∀ b o, H1 b = some o → b = a := fun b o e => by
      by_cases q : b = a
      · exact q
      · rw [show H1 b = none from upd_ne q] at e
        cases e
    refine core H1 (fun b => ?_) (Or.inl (Or.inr ⟨_, upd_same⟩)) (fun b u z => ?_) fun b u z => ⟨hH b u z, hk⟩
    · by_cases q : b = a
      · rw [q]
        exact Or.inr ⟨_, _, upd_same⟩
      · exact Or.inl (upd_ne q)
    · obtain rfl := hH b u z
      rw [show H1 b = some _ from upd_same] at z
      cases z
      exact ⟨ha, by rw [List.length_map]; exact hl, vs, _, rv, ha⟩

/-- what the head leaves, by facts -/
theorem walkG {l : PySem.W.OpenLaw} {n k : Nat} {q : Program} {loose : List Str}
    {XP : (Str → Option Value) → Heap → Prop} {YP : World → Heap → Prop} {d : DefRec} {x : Str}
    (hn : l.most = some n) (hn2 : n ≤ sizeLine) (hdf : d.params.defaults = []) (hr : RG k callerA)
    (F : ∀ (w : World) (mg : Str → Option Value) (fa : Addr) (h : Heap), YP w h → h.Ns mainGlobals mg →
      mg d.name = some (.ref fa) →
      ∃ (K : PySem.W.Frag) (fd : FuncData) (sp : Sp), K.In h ∧
        (∀ (s : Shared) (u : Value), BindsTo s fd ⟨[u], []⟩ [(x, u)]) ∧
        (∀ (H : Hp) (a : Addr) (ns : List Int), ns.length ≤ n → Only H → SqL K H a (ns.map V.int) →
          sp [.ref a] H (fun v _ => v = .bl true) fun _ _ _ => False) ∧
        ∀ base : Heap, K.In base → base.Ns mainGlobals mg → FnG l.prog w K mg base k fa fd [x] sp) :
    PySem.W.WalkO q loose XP YP l.row.toRowW d [] (fun f vs => PySem.call f vs) := by
  refine Att.attach_call hn hdf ?_
  intro w s₀ s₁ mg mb fa o pm cd doc a vs ns G Y ho hd hcd hmg hobj hints hlen hg
  obtain ⟨K, fd, sp, KX, hb, hsp, hF⟩ := F w mg fa _ Y G.T.g hmg
  exact law_run KX G.T.g G.T.b G.T.builtins G.T.nolimit hg hobj hints (Nat.le_trans hlen hn2) hr hF hb
    (fun H hO hS => hsp H a ns hlen hO hS)
end U

set_option Elab.async false
set_option linter.all false
set_option maxRecDepth 100000
set_option maxHeartbeats 4000000
/-! Values as data, without addresses. -/
namespace U
open PySem PySem.Spec L2
open PyProof.Rows hiding St

/-- a class by its name: the module's own, a built-in one -/
inductive Cn where | own (x : Str) | blt (n : String)
deriving DecidableEq
def Cn.val (K : PySem.W.Frag) : Cn → Value
  | .own x => .ref (He.ga K x)
  | .blt n => .type n
/-- data; ref: an object that is known by its address alone; exc: a caught exception, its class and its fields; cls: a class of the module -/
inductive D where
  | non | bl (b : Bool) | int (i : Int) | str (x : Str) | lst (ds : List D) | tup (ds : List D)
  | dic (kvs : List (Key × D)) | ref (a : Addr) | ty (n : String) | exc (c : Cn) (fs : List (Str × D)) | cls (x : Str)
/-- an exception object of the class cls with the dict d, at a -/
def ExH (cls : Value) (d : Option Addr) (a : Addr) : HO := .ext fun h => ∃ (oe : Obj) (vs : Array Value), h.get? a = some oe ∧ Zc cls d oe ∧ oe.data = .fields vs
theorem exH_ok {P : Program} {w : World} {H : Hp} {h : Heap} {a : Addr} {cls : Value} {d : Option Addr} {oe : Obj} {vs : Array Value} (e : h.get? a = some oe) (z : Zc cls d oe) (dt : oe.data = .fields vs) : ObjOk P w H h a (ExH cls d a) :=
  ⟨⟨oe, vs, e, z, dt⟩, ⟨oe, e⟩, fun _ _ ⟨o, v, q, r⟩ k => ⟨o, v, k o q, r⟩⟩

abbrev Ad := Addr → Prop
/-- a tuple of the module's written part -/
def KT (K : PySem.W.Frag) (a : Addr) (xs : List V) : Prop :=
  ∃ (o : Obj) (its : Array Value) (n : Nat), K.lookup a = some o ∧ o.cls = .type "tuple" ∧ o.data = .seq its n ∧ its.size ≤ sizeLine ∧ Vals xs its.toList
def Lk (O : Ad) (H : Hp) (a : Addr) (xs : List V) : Prop := ¬ O a ∧ H a = some (.lst xs)
def Tk (K : PySem.W.Frag) (O : Ad) (H : Hp) (a : Addr) (xs : List V) : Prop := (¬ O a ∧ H a = some (.tup xs)) ∨ KT K a xs

mutual
/-- v stands for the data d; nothing of it may be written: no address of O is met -/
inductive Rp (K : PySem.W.Frag) (O : Ad) (H : Hp) : V → D → Prop
  | non : Rp K O H .non .non
  | bl (b : Bool) : Rp K O H (.bl b) (.bl b)
  | int (i : Int) : Rp K O H (.int i) (.int i)
  | str (x : Str) : Rp K O H (.str x) (.str x)
  | ty (n : String) : Rp K O H (.ty n) (.ty n)
  | ref (a : Addr) : Rp K O H (.ref a) (.ref a)
  | lst {a : Addr} {xs : List V} {ds : List D} : Lk O H a xs → RpA K O H xs ds → Rp K O H (.ref a) (.lst ds)
  | tup {a : Addr} {xs : List V} {ds : List D} : Tk K O H a xs → RpA K O H xs ds → Rp K O H (.ref a) (.tup ds)
  | dic {a : Addr} {o : Obj} {kvs : List (Key × V)} {es : List (Key × D)} : ¬ O a → H a = some (.frz o (.dK kvs)) → RpK K O H kvs es → Rp K O H (.ref a) (.dic es)
  | exc {a : Addr} {c : Cn} : ¬ O a → H a = some (ExH (c.val K) none a) → Rp K O H (.ref a) (.exc c [])
  | excf {a dx : Addr} {c : Cn} {vs : List (Str × V)} {fs : List (Str × D)} : ¬ O a → H a = some (ExH (c.val K) (some dx) a) → ¬ O dx → H dx = some (.xd vs) → RpF K O H vs fs → Rp K O H (.ref a) (.exc c fs)
  | cls (x : Str) : Rp K O H (.ref (He.ga K x)) (.cls x)
inductive RpA (K : PySem.W.Frag) (O : Ad) (H : Hp) : List V → List D → Prop
  | nil : RpA K O H [] []
  | cons {v : V} {vs : List V} {d : D} {ds : List D} : Rp K O H v d → RpA K O H vs ds → RpA K O H (v :: vs) (d :: ds)
inductive RpK (K : PySem.W.Frag) (O : Ad) (H : Hp) : List (Key × V) → List (Key × D) → Prop
  | nil : RpK K O H [] []
  | cons {k : Key} {v : V} {vs : List (Key × V)} {d : D} {ds : List (Key × D)} : Rp K O H v d → RpK K O H vs ds → RpK K O H ((k, v) :: vs) ((k, d) :: ds)
inductive RpF (K : PySem.W.Frag) (O : Ad) (H : Hp) : List (Str × V) → List (Str × D) → Prop
  | nil : RpF K O H [] []
  | cons {k : Str} {v : V} {vs : List (Str × V)} {d : D} {ds : List (Str × D)} : Rp K O H v d → RpF K O H vs ds → RpF K O H ((k, v) :: vs) ((k, d) :: ds)
end

section
variable {K : PySem.W.Frag} {O O' : Ad} {H H' : Hp}
/-- what data leans on stays -/
structure Keeps (O O' : Ad) (H H' : Hp) : Prop where
  hp : ∀ b o, H b = some o → ¬ O b → H' b = some o
  ow : ∀ b o, H b = some o → ¬ O b → ¬ O' b
theorem Lk.keep {a : Addr} {xs : List V} (k : Keeps O O' H H') (h : Lk O H a xs) : Lk O' H' a xs := ⟨k.ow _ _ h.2 h.1, k.hp _ _ h.2 h.1⟩
theorem Tk.keep {a : Addr} {xs : List V} (k : Keeps O O' H H') (h : Tk K O H a xs) : Tk K O' H' a xs := h.imp (fun h => ⟨k.ow _ _ h.2 h.1, k.hp _ _ h.2 h.1⟩) id
mutual
theorem Rp.keep (k : Keeps O O' H H') : ∀ {v : V} {d : D}, Rp K O H v d → Rp K O' H' v d
  | _, _, .non => .non
  | _, _, .bl b => .bl b
  | _, _, .int i => .int i
  | _, _, .str x => .str x
  | _, _, .ty n => .ty n
  | _, _, .ref a => .ref a
  | _, _, .lst h r => .lst (h.keep k) (RpA.keep k r)
  | _, _, .tup h r => .tup (h.keep k) (RpA.keep k r)
  | _, _, .dic n h r => .dic (k.ow _ _ h n) (k.hp _ _ h n) (RpK.keep k r)
  | _, _, .exc n h => .exc (k.ow _ _ h n) (k.hp _ _ h n)
  | _, _, .excf n h n2 h2 r => .excf (k.ow _ _ h n) (k.hp _ _ h n) (k.ow _ _ h2 n2) (k.hp _ _ h2 n2) (RpF.keep k r)
  | _, _, .cls x => .cls x
theorem RpA.keep (k : Keeps O O' H H') : ∀ {vs : List V} {ds : List D}, RpA K O H vs ds → RpA K O' H' vs ds
  | _, _, .nil => .nil
  | _, _, .cons h r => .cons (Rp.keep k h) (RpA.keep k r)
theorem RpK.keep (k : Keeps O O' H H') : ∀ {vs : List (Key × V)} {ds : List (Key × D)}, RpK K O H vs ds → RpK K O' H' vs ds
  | _, _, .nil => .nil
  | _, _, .cons h r => .cons (Rp.keep k h) (RpK.keep k r)
theorem RpF.keep (k : Keeps O O' H H') : ∀ {vs : List (Str × V)} {ds : List (Str × D)}, RpF K O H vs ds → RpF K O' H' vs ds
  | _, _, .nil => .nil
  | _, _, .cons h r => .cons (Rp.keep k h) (RpF.keep k r)
end
theorem Keeps.refl : Keeps O O H H := ⟨fun _ _ h _ => h, fun _ _ _ n => n⟩
theorem Keeps.trans {O2 : Ad} {H2 : Hp} (a : Keeps O O' H H') (b : Keeps O' O2 H' H2) : Keeps O O2 H H2 :=
  ⟨fun c o h n => b.hp c o (a.hp c o h n) (a.ow c o h n), fun c o h n => b.ow c o (a.hp c o h n) (a.ow c o h n)⟩
theorem Keeps.same (s : Same H H') : Keeps O O H H' := ⟨fun b o h _ => s b o h, fun _ _ _ n => n⟩
theorem Keeps.less (h : ∀ b, O' b → O b) : Keeps O O' H H := ⟨fun _ _ h _ => h, fun b _ _ n z => n (h b z)⟩
theorem Lk.sq {a : Addr} {xs : List V} (h : Lk O H a xs) : SqL K H a xs := .of h.2
theorem Tk.sq {a : Addr} {xs : List V} (h : Tk K O H a xs) : SqT K H a xs := h.imp (fun h => .inl h.2) id
theorem RpA.length {vs : List V} {ds : List D} (h : RpA K O H vs ds) : vs.length = ds.length := by
  induction ds generalizing vs with
  | nil => cases h; rfl
  | cons d ds ih => cases h with
    | cons a b => rw [List.length_cons, List.length_cons, ih b]
theorem RpA.get {vs : List V} {ds : List D} {i : Nat} {d : D} (h : RpA K O H vs ds) (e : ds[i]? = some d) : ∃ v, vs[i]? = some v ∧ Rp K O H v d := by
  induction ds generalizing vs i with
  | nil => simp at e
  | cons x ds ih => cases h with
    | cons a b => cases i with
      | zero =>
        cases (Option.some.inj e)
        exact ⟨_, rfl, a⟩
      | succ i =>
        obtain ⟨v, e1, r⟩ := ih b (by simpa using e)
        exact ⟨v, by simpa using e1, r⟩
theorem RpA.got {vs : List V} {ds : List D} {i : Nat} {v : V} (h : RpA K O H vs ds) (e : vs[i]? = some v) : ∃ d, ds[i]? = some d ∧ Rp K O H v d := by
  induction ds generalizing vs i with
  | nil => cases h; simp at e
  | cons x ds ih => cases h with
    | cons a b => cases i with
      | zero =>
        cases (Option.some.inj e)
        exact ⟨_, rfl, a⟩
      | succ i =>
        obtain ⟨d, e1, r⟩ := ih b (by simpa using e)
        exact ⟨d, by simpa using e1, r⟩
theorem RpA.append {vs ws : List V} {ds es : List D} (h : RpA K O H vs ds) (g : RpA K O H ws es) : RpA K O H (vs ++ ws) (ds ++ es) := by
  induction ds generalizing vs with
  | nil => cases h; exact g
  | cons d ds ih => cases h with
    | cons a b => exact .cons a (ih b)
theorem RpA.take {vs : List V} {ds : List D} (n : Nat) (h : RpA K O H vs ds) : RpA K O H (vs.take n) (ds.take n) := by
  induction ds generalizing vs n with
  | nil => cases h; rw [List.take_nil, List.take_nil]; exact .nil
  | cons d ds ih => cases h with
    | cons a b => cases n with
      | zero => exact .nil
      | succ n => exact .cons a (ih n b)
theorem RpA.drop {vs : List V} {ds : List D} (n : Nat) (h : RpA K O H vs ds) : RpA K O H (vs.drop n) (ds.drop n) := by
  induction ds generalizing vs n with
  | nil => cases h; rw [List.drop_nil, List.drop_nil]; exact .nil
  | cons d ds ih => cases h with
    | cons a b => cases n with
      | zero => exact .cons a b
      | succ n => exact ih n b
theorem RpA.set {vs : List V} {ds : List D} {v : V} {d : D} (j : Nat) (h : RpA K O H vs ds) (g : Rp K O H v d) : RpA K O H (vs.set j v) (ds.set j d) := by
  induction ds generalizing vs j with
  | nil => cases h; exact .nil
  | cons x ds ih => cases h with
    | cons a b => cases j with
      | zero => exact .cons g b
      | succ j => exact .cons a (ih j b)
theorem RpA.reverse {vs : List V} {ds : List D} (h : RpA K O H vs ds) : RpA K O H vs.reverse ds.reverse := by
  induction ds generalizing vs with
  | nil => cases h; exact .nil
  | cons d ds ih => cases h with
    | cons a b =>
      rw [List.reverse_cons, List.reverse_cons]
      exact (ih b).append (.cons a .nil)
theorem RpA.rep {vs : List V} {ds : List D} (h : RpA K O H vs ds) : ∀ n : Nat, RpA K O H (List.replicate n vs).flatten (List.replicate n ds).flatten
  | 0 => .nil
  | n + 1 => h.append (RpA.rep h n)
theorem RpA.one {v : V} {d : D} (h : Rp K O H v d) : RpA K O H [v] [d] := .cons h .nil
end

/-! ### the frame's slots as data -/
/-- what nobody else holds: a list, a dict -/
inductive OC where | l (ds : List D) | d (es : List (Key × D))
instance : Coe (List D) OC := ⟨OC.l⟩
/-- own a c: an object at a that nobody else holds -/
inductive Sl where | emp | dat (d : D) | own (a : Addr) (c : OC)
def OwnC (K : PySem.W.Frag) (O : Ad) (H : Hp) (a : Addr) : OC → Prop
  | .l ds => ∃ xs, H a = some (.lst xs) ∧ RpA K O H xs ds
  | .d es => ∃ kvs, H a = some (.dK kvs) ∧ RpK K O H kvs es
theorem OwnC.keep {K : PySem.W.Frag} {O O' : Ad} {H H' : Hp} {a : Addr} {c : OC} (k : Keeps O O' H H') (ha : ∀ o, H a = some o → H' a = some o) (h : OwnC K O H a c) : OwnC K O' H' a c := by
  cases c with
  | l ds => exact let ⟨xs, h1, h2⟩ := h; ⟨xs, ha _ h1, h2.keep k⟩
  | d es => exact let ⟨xs, h1, h2⟩ := h; ⟨xs, ha _ h1, RpK.keep k h2⟩
theorem OwnC.some {K : PySem.W.Frag} {O : Ad} {H : Hp} {a : Addr} {c : OC} (h : OwnC K O H a c) : ∃ o, H a = some o := by
  cases c with
  | l ds => exact let ⟨_, h1, _⟩ := h; ⟨_, h1⟩
  | d es => exact let ⟨_, h1, _⟩ := h; ⟨_, h1⟩
/-- the pen: its cells' address, the cells, a dict or a list -/
structure PenC where
  c : Addr
  ns : List Int
  dk : Bool
/-- the pen's address, and what it is -/
abbrev PenT := Option (Addr × PenC)
def penO (c : PenC) (t r : Int) : HO := if c.dk = true then .dK [(.inr "cells", .ref c.c), (.inr "next", .int t), (.inr "rest", .int r)] else .lst [.ref c.c, .int t, .int r]
def IsPen (pen : PenT) (b : Addr) : Prop := ∃ c, pen = some (b, c)
structure Ro where
  sl : List Sl
  pen : PenT
  fuel : Nat
abbrev Ro.f (ρ : Ro) (n : Nat) : Ro := { ρ with fuel := n }
abbrev Ro.put (ρ : Ro) (i : Nat) (s : Sl) : Ro := { ρ with sl := ρ.sl.set i s }
def OO (O0 : Ad) (ρ : Ro) : Ad := fun b => O0 b ∨ IsPen ρ.pen b ∨ ∃ (i : Nat) (c : OC), ρ.sl[i]? = some (.own b c)
/-- the pen: cells, the number of the next one, the rest of a great one; f draws are left -/
def Pen (O : Ad) (H : Hp) (pen : PenT) (f : Nat) : Prop := ∀ p c, pen = some (p, c) → ∃ (ns : List Int) (t r : Int),
  H p = some (penO c t r) ∧ H c.c = some (.lst (ns.map V.int)) ∧ ¬ O c.c ∧ (ns = c.ns ∧ ns.length ≤ 63) ∧ 0 ≤ t ∧ t + f ≤ 1048576 ∧ 0 ≤ r
/-- the frame: all but the pen -/
def Frm (pen : PenT) (H H' : Hp) : Prop := ∀ b o, H b = some o → ¬ IsPen pen b → H' b = some o
theorem Frm.refl {pen : PenT} {H : Hp} : Frm pen H H := fun _ _ h _ => h
theorem Frm.trans {pen : PenT} {H H1 H2 : Hp} (a : Frm pen H H1) (b : Frm pen H1 H2) : Frm pen H H2 := fun c o h n => b c o (a c o h n) n
theorem Frm.of {pen : PenT} {H H1 : Hp} (s : Same H H1) : Frm pen H H1 := fun c o h _ => s c o h

structure R (K : PySem.W.Frag) (O0 : Ad) (H0 : Hp) (σ : L2.St) (H : Hp) (ρ : Ro) : Prop where
  len : σ.length = ρ.sl.length
  dat : ∀ (i : Nat) d, ρ.sl[i]? = some (.dat d) → ∃ v, σ[i]? = some (some v) ∧ Rp K (OO O0 ρ) H v d
  own : ∀ (i : Nat) a (c : OC), ρ.sl[i]? = some (.own a c) → σ[i]? = some (some (.ref a)) ∧ ¬ O0 a ∧ H0 a = none ∧ ¬ IsPen ρ.pen a ∧ OwnC K (OO O0 ρ) H a c
  inj : ∀ (i j : Nat) a (ds es : OC), ρ.sl[i]? = some (.own a ds) → ρ.sl[j]? = some (.own a es) → i = j
  fr : Frm ρ.pen H0 H
  tr : ∀ b, OO O0 ρ b → H b ≠ none
  pen : Pen (OO O0 ρ) H ρ.pen ρ.fuel
section
variable {K : PySem.W.Frag} {O0 : Ad} {H0 H H' : Hp} {σ : L2.St} {ρ : Ro}
theorem OO.f (n : Nat) : OO O0 (ρ.f n) = OO O0 ρ := rfl
theorem R.fresh (r : R K O0 H0 σ H ρ) {p : Addr} (h : H p = none) : ¬ OO O0 ρ p := fun z => r.tr p z h
theorem Same.new {p : Addr} {o : HO} (h : H p = none) : Same H (upd H p o) := fun b u e => by
  rw [upd_ne (ne_of_none e h)]
  exact e
/-- behind something that changes nothing -/
theorem R.same (r : R K O0 H0 σ H ρ) (s : Same H H') : R K O0 H0 σ H' ρ where
  len := r.len
  dat := fun i d e => let ⟨v, h1, h2⟩ := r.dat i d e; ⟨v, h1, h2.keep (.same s)⟩
  own := fun i a ds e => let ⟨h1, h2, h3, h4, h5⟩ := r.own i a ds e; ⟨h1, h2, h3, h4, h5.keep (.same s) fun o q => s _ _ q⟩
  inj := r.inj
  fr := r.fr.trans (.of s)
  tr := fun b o z => by
    cases q : H b with
    | none => exact r.tr b o q
    | some u => rw [s b u q] at z; cases z
  pen := fun p c e => by
    obtain ⟨ns, t, r', h1, h2, h3⟩ := r.pen p c e
    exact ⟨ns, t, r', s _ _ h1, s _ _ h2, h3⟩
theorem Frm.keeps {pen : PenT} {O : Ad} (f : Frm pen H H') (ho : ∀ p, IsPen pen p → O p) : Keeps O O H H' := ⟨fun b o h n => f b o h fun z => n (ho b z), fun _ _ _ n => n⟩
theorem OO.pen (b : Addr) (h : IsPen ρ.pen b) : OO O0 ρ b := .inr (.inl h)
theorem Frm.keepsO (f : Frm ρ.pen H H') : Keeps (OO O0 ρ) (OO O0 ρ) H H' := f.keeps fun p h => OO.pen p h
theorem Frm.there {pen : PenT} {O : Ad} {n : Nat} (s : Frm pen H H') (hp : Pen O H' pen n) {b : Addr} (h : H b ≠ none) : H' b ≠ none := fun z => by
  by_cases e : IsPen pen b
  · obtain ⟨c, e⟩ := e
    obtain ⟨ns, t, r', h1, _⟩ := hp b c e
    rw [h1] at z; cases z
  · cases q : H b with
    | none => exact h q
    | some u => rw [s b u q e] at z; cases z
/-- behind a call -/
theorem R.call (r : R K O0 H0 σ H ρ) {n : Nat} (s : Frm ρ.pen H H') (hp : Pen (OO O0 ρ) H' ρ.pen n) : R K O0 H0 σ H' (ρ.f n) where
  len := r.len
  dat := fun i d e => let ⟨v, h1, h2⟩ := r.dat i d e; ⟨v, h1, h2.keep s.keepsO⟩
  own := fun i a ds e => let ⟨h1, h2, h3, h4, h5⟩ := r.own i a ds e; ⟨h1, h2, h3, h4, h5.keep s.keepsO fun o q => s _ _ q h4⟩
  inj := r.inj
  fr := r.fr.trans s
  tr := fun b o => s.there hp (r.tr b o)
  pen := hp
end

/-! ### readings -/
abbrev UE := Ro → (D → Nat → Prop) → Prop
abbrev UT := Ro → (Bool → Nat → Prop) → Prop
abbrev UA := Ro → (List D → Nat → Prop) → Prop
def lE (K : PySem.W.Frag) (O0 : Ad) (H0 : Hp) (u : UE) : TE := fun σ H Q => ∃ (ρ : Ro) (P : D → Nat → Prop), R K O0 H0 σ H ρ ∧ u ρ P ∧
  ∀ d n, P d n → ∀ v H', R K O0 H0 σ H' (ρ.f n) → Frm ρ.pen H H' → Rp K (OO O0 ρ) H' v d → Q v H'
def lT (K : PySem.W.Frag) (O0 : Ad) (H0 : Hp) (u : UT) : TT := fun σ H Q => ∃ (ρ : Ro) (P : Bool → Nat → Prop), R K O0 H0 σ H ρ ∧ u ρ P ∧
  ∀ b n, P b n → ∀ H', R K O0 H0 σ H' (ρ.f n) → Frm ρ.pen H H' → Q b H'
def lA (K : PySem.W.Frag) (O0 : Ad) (H0 : Hp) (u : UA) : TA := fun σ H Q => ∃ (ρ : Ro) (P : List D → Nat → Prop), R K O0 H0 σ H ρ ∧ u ρ P ∧
  ∀ ds n, P ds n → ∀ vs H', R K O0 H0 σ H' (ρ.f n) → Frm ρ.pen H H' → RpA K (OO O0 ρ) H' vs ds → Q vs H'
abbrev UPE (X : Cx) (O0 : Ad) (H0 : Hp) (e : Expr) (u : UE) : Prop := PE X e (lE X.K O0 H0 u)
abbrev UPT (X : Cx) (O0 : Ad) (H0 : Hp) (e : Expr) (u : UT) : Prop := PT X e (lT X.K O0 H0 u)
abbrev UPA (X : Cx) (O0 : Ad) (H0 : Hp) (es : List Expr) (u : UA) : Prop := PA X es (lA X.K O0 H0 u)
theorem PE.imp {X : Cx} {e : Expr} {t t' : TE} (h : PE X e t) (hi : ∀ σ H Q, t' σ H Q → t σ H Q) : PE X e t' := ⟨fun pins s σ H Q I q => h.run pins s σ H Q I (hi σ H Q q)⟩
theorem PT.imp {X : Cx} {e : Expr} {t t' : TT} (h : PT X e t) (hi : ∀ σ H Q, t' σ H Q → t σ H Q) : PT X e t' := ⟨fun pins s σ H Q I q => h.run pins s σ H Q I (hi σ H Q q)⟩
theorem PW.imp {X : Cx} {e : Expr} {t t' : TT} (h : PW X e t) (hi : ∀ σ H Q, t' σ H Q → t σ H Q) : PW X e t' := ⟨fun wh pins s σ H Q I q => h.run wh pins s σ H Q I (hi σ H Q q)⟩
theorem PA.imp {X : Cx} {e : List Expr} {t t' : TA} (h : PA X e t) (hi : ∀ σ H Q, t' σ H Q → t σ H Q) : PA X e t' := ⟨fun pos pins s σ H Q I q => h.run pos pins s σ H Q I (hi σ H Q q)⟩
theorem PS.imp {X : Cx} {e : Stmt} {t t' : TS} (h : PS X e t) (hi : ∀ σ H Q, t' Q σ H → t Q σ H) : PS X e t' := ⟨fun pins s σ H Q I q => h.run pins s σ H Q I (hi σ H Q q)⟩
theorem PSs.imp {X : Cx} {e : List Stmt} {t t' : TS} (h : PSs X e t) (hi : ∀ σ H Q, t' Q σ H → t Q σ H) : PSs X e t' := ⟨fun pins s σ H Q I q => h.run pins s σ H Q I (hi σ H Q q)⟩
end U

set_option Elab.async false
set_option linter.all false
set_option maxRecDepth 100000
set_option maxHeartbeats 4000000
/-! Operators over data. -/
namespace U
open PySem PySem.Spec L2
open PyProof.Rows hiding St

/-! ### == -/
mutual
def D.py : D → PyData
  | .non => .none
  | .bl b => .bool b
  | .int i => .int i
  | .str x => .str x
  | .lst ds => .list (D.pys ds)
  | .tup ds => .tuple (D.pys ds)
  | .dic kvs => .dict (D.pyk kvs)
  | .ref _ => .none
  | .ty _ => .none
  | .exc _ _ => .none
  | .cls _ => .none
def D.pys : List D → List PyData
  | [] => []
  | d :: ds => d.py :: D.pys ds
def D.pyk : List (Key × D) → List (PyData × PyData)
  | [] => []
  | (.inl i, d) :: r => (.int i, d.py) :: D.pyk r
  | (.inr x, d) :: r => (.str x, d.py) :: D.pyk r
end
mutual
/-- nested at most n deep, no dicts, no objects -/
def D.flat : Nat → D → Bool
  | _, .non => true
  | _, .bl _ => true
  | _, .int _ => true
  | _, .str x => PyData.strOk x
  | 0, .lst _ => false
  | 0, .tup _ => false
  | n + 1, .lst ds => D.flats n ds
  | n + 1, .tup ds => D.flats n ds
  | _, .dic _ => false
  | _, .ref _ => false
  | _, .ty _ => false
  | _, .exc _ _ => false
  | _, .cls _ => false
def D.flats : Nat → List D → Bool
  | _, [] => true
  | n, d :: ds => D.flat n d && D.flats n ds
end
mutual
theorem flat_le : ∀ (n m : Nat) (d : D), n ≤ m → D.flat n d = true → D.flat m d = true
  | n, m, .non, _, _ => by simp [D.flat]
  | n, m, .bl _, _, _ => by simp [D.flat]
  | n, m, .int _, _, _ => by simp [D.flat]
  | n, m, .str _, _, h => by simpa [D.flat] using h
  | n, m, .dic _, _, h => by simp [D.flat] at h
  | n, m, .ref _, _, h => by simp [D.flat] at h
  | n, m, .ty _, _, h => by simp [D.flat] at h
  | n, m, .exc _ _, _, h => by simp [D.flat] at h
  | n, m, .cls _, _, h => by simp [D.flat] at h
  | 0, m, .lst _, _, h => by simp [D.flat] at h
  | 0, m, .tup _, _, h => by simp [D.flat] at h
  | n + 1, 0, .lst _, h, _ => by omega
  | n + 1, 0, .tup _, h, _ => by omega
  | n + 1, m + 1, .lst ds, hn, h => by
    simp only [D.flat] at h ⊢
    exact flats_le n m ds (by omega) h
  | n + 1, m + 1, .tup ds, hn, h => by
    simp only [D.flat] at h ⊢
    exact flats_le n m ds (by omega) h
theorem flats_le : ∀ (n m : Nat) (ds : List D), n ≤ m → D.flats n ds = true → D.flats m ds = true
  | _, _, [], _, _ => by simp [D.flats]
  | n, m, d :: ds, hn, h => by
    simp only [D.flats, Bool.and_eq_true] at h ⊢
    exact ⟨flat_le n m d hn h.1, flats_le n m ds hn h.2⟩
end
mutual
/-- Python's == -/
def D.eqv : D → D → Bool
  | .non, .non => true
  | .bl a, .bl b => a == b
  | .bl a, .int j => (if a then 1 else 0) == j
  | .int i, .bl b => i == (if b then 1 else 0)
  | .int i, .int j => i == j
  | .str x, .str y => x == y
  | .lst xs, .lst ys => D.eqvs xs ys
  | .tup xs, .tup ys => D.eqvs xs ys
  | _, _ => false
def D.eqvs : List D → List D → Bool
  | [], [] => true
  | x :: xs, y :: ys => D.eqv x y && D.eqvs xs ys
  | [], _ :: _ => false
  | _ :: _, [] => false
end
mutual
theorem eqv_py : ∀ (n m : Nat) (x y : D), D.flat n x = true → D.flat m y = true → PyData.eqv x.py y.py = D.eqv x y
  | _, _, .dic _, _, h, _ => by simp [D.flat] at h
  | _, _, .ref _, _, h, _ => by simp [D.flat] at h
  | _, _, .ty _, _, h, _ => by simp [D.flat] at h
  | _, _, .exc _ _, _, h, _ => by simp [D.flat] at h
  | _, _, .cls _, _, h, _ => by simp [D.flat] at h
  | _, _, .non, y, _, h => by cases y <;> simp_all [D.py, D.eqv, PyData.eqv, D.flat]
  | _, _, .bl _, y, _, h => by cases y <;> simp_all [D.py, D.eqv, PyData.eqv, D.flat]
  | _, _, .int _, y, _, h => by cases y <;> simp_all [D.py, D.eqv, PyData.eqv, D.flat]
  | _, _, .str _, y, _, h => by cases y <;> simp_all [D.py, D.eqv, PyData.eqv, D.flat]
  | n + 1, m, .lst xs, y, h, g => by
    cases y with
    | lst ys =>
      cases m with
      | zero => simp [D.flat] at g
      | succ m =>
        simp only [D.py, D.eqv, PyData.eqv]
        exact eqvs_py n m xs ys (by simpa [D.flat] using h) (by simpa [D.flat] using g)
    | _ => simp_all [D.py, D.eqv, PyData.eqv, D.flat]
  | n + 1, m, .tup xs, y, h, g => by
    cases y with
    | tup ys =>
      cases m with
      | zero => simp [D.flat] at g
      | succ m =>
        simp only [D.py, D.eqv, PyData.eqv]
        exact eqvs_py n m xs ys (by simpa [D.flat] using h) (by simpa [D.flat] using g)
    | _ => simp_all [D.py, D.eqv, PyData.eqv, D.flat]
  | 0, _, .lst _, _, h, _ => by simp [D.flat] at h
  | 0, _, .tup _, _, h, _ => by simp [D.flat] at h
theorem eqvs_py : ∀ (n m : Nat) (xs ys : List D), D.flats n xs = true → D.flats m ys = true → PyData.eqvAll (D.pys xs) (D.pys ys) = D.eqvs xs ys
  | _, _, [], [], _, _ => by simp [D.pys, D.eqvs, PyData.eqvAll]
  | _, _, [], _ :: _, _, _ => by simp [D.pys, D.eqvs, PyData.eqvAll]
  | _, _, _ :: _, [], _, _ => by simp [D.pys, D.eqvs, PyData.eqvAll]
  | n, m, x :: xs, y :: ys, h, g => by
    simp only [D.flats, Bool.and_eq_true] at h g
    simp only [D.pys, D.eqvs, PyData.eqvAll]
    rw [eqv_py n m x y h.1 g.1, eqvs_py n m xs ys h.2 g.2]
end
mutual
theorem flat_lay : ∀ (n : Nat) (d : D), D.flat n d = true → d.py.canLay0 = true ∧ d.py.depth ≤ n + 1
  | n, .non, _ => by simp [D.py, PyData.canLay0, PyData.depth]
  | n, .bl _, _ => by simp [D.py, PyData.canLay0, PyData.depth]
  | n, .int _, _ => by simp [D.py, PyData.canLay0, PyData.depth]
  | n, .str _, h => by simpa [D.py, PyData.canLay0, PyData.depth, D.flat] using h
  | n, .dic _, h => by simp [D.flat] at h
  | n, .ref _, h => by simp [D.flat] at h
  | n, .ty _, h => by simp [D.flat] at h
  | n, .exc _ _, h => by simp [D.flat] at h
  | n, .cls _, h => by simp [D.flat] at h
  | 0, .lst _, h => by simp [D.flat] at h
  | 0, .tup _, h => by simp [D.flat] at h
  | n + 1, .lst ds, h => by
    obtain ⟨h1, h2⟩ := flats_lay n ds (by simpa [D.flat] using h)
    simp only [D.py, PyData.canLay0, PyData.depth]
    exact ⟨h1, by omega⟩
  | n + 1, .tup ds, h => by
    obtain ⟨h1, h2⟩ := flats_lay n ds (by simpa [D.flat] using h)
    simp only [D.py, PyData.canLay0, PyData.depth]
    exact ⟨h1, by omega⟩
theorem flats_lay : ∀ (n : Nat) (ds : List D), D.flats n ds = true → PyData.canLayAll0 (D.pys ds) = true ∧ PyData.depthAll (D.pys ds) ≤ n + 1
  | n, [], _ => by simp [D.pys, PyData.canLayAll0, PyData.depthAll]
  | n, d :: ds, h => by
    simp only [D.flats, Bool.and_eq_true] at h
    obtain ⟨a1, a2⟩ := flat_lay n d h.1
    obtain ⟨b1, b2⟩ := flats_lay n ds h.2
    simp only [D.pys, PyData.canLayAll0, PyData.depthAll, a1, b1, Bool.and_self, true_and]
    omega
end
theorem flat_shaped {n : Nat} {d : D} (h : D.flat n d = true) (hn : n ≤ 60) : SeqAt.shaped d.py = true := by
  obtain ⟨a, b⟩ := flat_lay n d h
  unfold SeqAt.shaped
  rw [a]
  exact decide_eq_true (by omega)
section
variable {K : PySem.W.Frag} {O : Ad} {H : Hp}
mutual
theorem Rp.dp : ∀ (n : Nat) (d : D) (v : V), D.flat n d = true → Rp K O H v d → Dp K H v d.py
  | _, .non, _, _, .non => by simp only [D.py]; exact .non
  | _, .bl _, _, _, .bl _ => by simp only [D.py]; exact .bl _
  | _, .int _, _, _, .int _ => by simp only [D.py]; exact .int _
  | _, .str _, _, _, .str _ => by simp only [D.py]; exact .str _
  | n + 1, .lst ds, _, h, .lst hl hr => by
    simp only [D.py]
    exact .lst hl.sq (RpA.dp n ds _ (by simpa [D.flat] using h) hr)
  | n + 1, .tup ds, _, h, .tup hl hr => by
    simp only [D.py]
    exact .tup hl.sq (RpA.dp n ds _ (by simpa [D.flat] using h) hr)
  | 0, .lst _, _, h, _ => by simp [D.flat] at h
  | 0, .tup _, _, h, _ => by simp [D.flat] at h
  | _, .dic _, _, h, _ => by simp [D.flat] at h
  | _, .ref _, _, h, _ => by simp [D.flat] at h
  | _, .ty _, _, h, _ => by simp [D.flat] at h
  | _, .exc _ _, _, h, _ => by simp [D.flat] at h
  | _, .cls _, _, h, _ => by simp [D.flat] at h
theorem RpA.dp : ∀ (n : Nat) (ds : List D) (vs : List V), D.flats n ds = true → RpA K O H vs ds → DpAll K H vs (D.pys ds)
  | _, [], _, _, .nil => by simp only [D.pys]; exact .nil
  | n, d :: ds, _, h, .cons a b => by
    simp only [D.flats, Bool.and_eq_true] at h
    simp only [D.pys]
    exact .cons (Rp.dp n d _ h.1 a) (RpA.dp n ds _ h.2 b)
end
end

/-! ### operators: what of two data -/
abbrev G2 := D → D → (D → Prop) → Prop
def lR2 (K : PySem.W.Frag) (g : G2) : R2 := fun x y H Q => ∃ (O : Ad) (dx dy : D) (P : D → Prop), (∀ b, O b → H b ≠ none) ∧ Rp K O H x dx ∧ Rp K O H y dy ∧ g dx dy P ∧
  ∀ d, P d → ∀ v H', Same H H' → Rp K O H' v d → Q v H'
theorem nofree {O : Ad} {H : Hp} (t : ∀ b, O b → H b ≠ none) {p : Addr} (h : H p = none) : ¬ O p := fun z => t p z h
def gAdd : G2
  | .int i, .int j, Q => Q (.int (i + j))
  | .str a, .str b, Q => a.length + b.length ≤ sizeLine ∧ Q (.str (a ++ b))
  | .lst a, .lst b, Q => a.length + b.length ≤ sizeLine ∧ Q (.lst (a ++ b))
  | .tup a, .tup b, Q => a.length + b.length ≤ sizeLine ∧ Q (.tup (a ++ b))
  | _, _, _ => False
def gSub : G2
  | .int i, .int j, Q => Q (.int (i - j))
  | _, _, _ => False
/-- the factors: one below 2 ^ 64, or both below 2 ^ 100000 -/
def MulOk (i j : Int) : Prop := (-(2 ^ 64) < i ∧ i < 2 ^ 64) ∨ (-(2 ^ 64) < j ∧ j < 2 ^ 64) ∨ (i.natAbs.log2 + j.natAbs.log2 < 1000000)
def gMul : G2
  | .int i, .int j, Q => MulOk i j ∧ Q (.int (i * j))
  | .lst a, .int k, Q => (-(2 ^ 63) ≤ k ∧ k < 2 ^ 63 ∧ a.length * k.toNat ≤ sizeLine) ∧ Q (.lst (List.replicate k.toNat a).flatten)
  | .tup a, .int k, Q => (a ≠ [] ∧ 2 ≤ k ∧ k ≤ 1000 ∧ a.length ≤ 1000) ∧ Q (.tup (List.replicate k.toNat a).flatten)
  | _, _, _ => False
def gDiv : G2
  | .int i, .int j, Q => (0 < j ∧ j.natAbs.log2 < 9000) ∧ Q (.int (i / j))
  | _, _, _ => False
def gMod : G2
  | .int i, .int j, Q => 0 < j ∧ Q (.int (i % j))
  | _, _, _ => False
def gPow : G2
  | .int i, .int j, Q => (0 ≤ j ∧ j ≤ 1000000 ∧ i.natAbs < 2 ^ 64) ∧ Q (.int (i ^ j.toNat))
  | _, _, _ => False
def gEq : G2
  | .str a, .str b, Q => Q (.bl (a == b))
  | x, y, Q => (D.flat 60 x = true ∧ D.flat 60 y = true) ∧ Q (.bl (D.eqv x y))
def gNe : G2
  | .str a, .str b, Q => Q (.bl (!(a == b)))
  | x, y, Q => (D.flat 60 x = true ∧ D.flat 60 y = true) ∧ Q (.bl (!D.eqv x y))
def gCmp (p : Int → Int → Bool) : G2
  | .int i, .int j, Q => Q (.bl (p i j))
  | _, _, _ => False
abbrev gLt : G2 := gCmp fun i j => decide (i < j)
abbrev gLe : G2 := gCmp fun i j => decide (i ≤ j)
abbrev gGt : G2 := gCmp fun i j => decide (j < i)
abbrev gGe : G2 := gCmp fun i j => decide (j ≤ i)
/-- is, of None and of truth values -/
def gIs : G2
  | x, .non, Q => Q (.bl (match x with | .non => true | _ => false))
  | .bl a, .bl b, Q => Q (.bl (a == b))
  | _, _, _ => False
def gIsNot : G2
  | x, .non, Q => Q (.bl (match x with | .non => false | _ => true))
  | .bl a, .bl b, Q => Q (.bl (!(a == b)))
  | _, _, _ => False

section
variable {X : Cx}
theorem op_addU : OpR X (binaryOp .Add) (lR2 X.K gAdd) := by
  intro pins s σ H x y v u Q I rx ry ⟨O, dx, dy, P, tr, hx, hy, hg, hP⟩
  cases dx <;> cases dy <;> try exact hg.elim
  · cases hx; cases hy
    exact op_add pins s σ H _ _ v u Q I rx ry ⟨_, _, rfl, rfl, hP _ hg _ _ (Same.refl _) (.int _)⟩
  · cases hx; cases hy
    exact op_add_str pins s σ H _ _ v u Q I rx ry ⟨_, _, rfl, rfl, hg.1, hP _ hg.2 _ _ (Same.refl _) (.str _)⟩
  · cases hx with
    | lst lx ax =>
      cases hy with
      | lst ly ay =>
        refine op_cat pins s σ H _ _ v u Q I rx ry ⟨_, _, _, _, rfl, rfl, lx.2, ly.2, ?_, fun p hp => ?_⟩
        · rw [ax.length, ay.length]; exact hg.1
        · have sm := fun o => Same.new (o := o) hp
          exact hP _ hg.2 _ _ (sm _) (.lst ⟨nofree tr hp, upd_same⟩ ((ax.append ay).keep (.same (sm _))))
  · cases hx with
    | tup lx ax =>
      cases hy with
      | tup ly ay =>
        refine op_catA pins s σ H _ _ v u Q I rx ry ⟨_, _, _, _, rfl, rfl, lx.sq, ly.sq, ?_, fun e => ?_, fun e e2 => ?_, fun _ _ p hp => ?_⟩
        · rw [ax.length, ay.length]; exact hg.1
        · subst e
          cases ax
          exact hP _ hg.2 _ _ (Same.refl _) (.tup ly ay)
        · subst e2
          cases ay
          have z := hg.2
          rw [List.append_nil] at z
          exact hP _ z _ _ (Same.refl _) (.tup lx ax)
        · have sm := fun o => Same.new (o := o) hp
          exact hP _ hg.2 _ _ (sm _) (.tup (.inl ⟨nofree tr hp, upd_same⟩) ((ax.append ay).keep (.same (sm _))))
theorem op_subU : OpR X (binaryOp .Sub) (lR2 X.K gSub) := by
  intro pins s σ H x y v u Q I rx ry ⟨O, dx, dy, P, tr, hx, hy, hg, hP⟩
  cases dx <;> cases dy <;> try exact hg.elim
  cases hx; cases hy
  exact op_sub pins s σ H _ _ v u Q I rx ry ⟨_, _, rfl, rfl, hP _ hg _ _ (Same.refl _) (.int _)⟩
theorem op_mulU : OpR X (binaryOp .Mult) (lR2 X.K gMul) := by
  intro pins s σ H x y v u Q I rx ry ⟨O, dx, dy, P, tr, hx, hy, hg, hP⟩
  cases dx <;> cases dy <;> try exact hg.elim
  · cases hx; cases hy
    obtain ⟨hc, hg⟩ := hg
    rcases hc with hc | hc | hc
    · exact op_mul pins s σ H _ _ v u Q I rx ry ⟨_, _, rfl, rfl, .inl hc, hP _ hg _ _ (Same.refl _) (.int _)⟩
    · exact op_mul pins s σ H _ _ v u Q I rx ry ⟨_, _, rfl, rfl, .inr hc, hP _ hg _ _ (Same.refl _) (.int _)⟩
    · exact op_mulW pins s σ H _ _ v u Q I rx ry ⟨_, _, rfl, rfl, hc, hP _ hg _ _ (Same.refl _) (.int _)⟩
  · cases hx with
    | lst lx ax =>
      cases hy
      obtain ⟨⟨h1, h2, h3⟩, hg⟩ := hg
      refine op_rep pins s σ H _ _ v u Q I rx ry ⟨_, _, _, rfl, rfl, lx.2, h1, h2, ?_, fun p hp => ?_⟩
      · rw [ax.length]; exact h3
      · have sm := fun o => Same.new (o := o) hp
        exact hP _ hg _ _ (sm _) (.lst ⟨nofree tr hp, upd_same⟩ ((ax.rep _).keep (.same (sm _))))
  · cases hx with
    | tup lx ax =>
      cases hy
      obtain ⟨⟨h1, h2, h3, h4⟩, hg⟩ := hg
      refine op_repT pins s σ H _ _ v u Q I rx ry ⟨_, _, _, rfl, rfl, lx.sq, ?_, h2, h3, ?_, fun p hp => ?_⟩
      · rintro rfl
        cases ax
        exact h1 rfl
      · rw [ax.length]; exact h4
      · have sm := fun o => Same.new (o := o) hp
        exact hP _ hg _ _ (sm _) (.tup (.inl ⟨nofree tr hp, upd_same⟩) ((ax.rep _).keep (.same (sm _))))
theorem op_divU : OpR X (binaryOp .FloorDiv) (lR2 X.K gDiv) := by
  intro pins s σ H x y v u Q I rx ry ⟨O, dx, dy, P, tr, hx, hy, hg, hP⟩
  cases dx <;> cases dy <;> try exact hg.elim
  cases hx; cases hy
  exact op_fdivW pins s σ H _ _ v u Q I rx ry ⟨_, _, rfl, rfl, hg.1, hP _ hg.2 _ _ (Same.refl _) (.int _)⟩
theorem op_modU : OpR X (binaryOp .Mod) (lR2 X.K gMod) := by
  intro pins s σ H x y v u Q I rx ry ⟨O, dx, dy, P, tr, hx, hy, hg, hP⟩
  cases dx <;> cases dy <;> try exact hg.elim
  cases hx; cases hy
  exact op_mod pins s σ H _ _ v u Q I rx ry ⟨_, _, rfl, rfl, hg.1, hP _ hg.2 _ _ (Same.refl _) (.int _)⟩
theorem op_powU : OpR X (binaryOp .Pow) (lR2 X.K gPow) := by
  intro pins s σ H x y v u Q I rx ry ⟨O, dx, dy, P, tr, hx, hy, hg, hP⟩
  cases dx <;> cases dy <;> try exact hg.elim
  cases hx; cases hy
  exact op_pow pins s σ H _ _ v u Q I rx ry ⟨_, _, rfl, rfl, hg.1, hP _ hg.2 _ _ (Same.refl _) (.int _)⟩
theorem op_eqU (hu : X.A.units + 64 < cLine) : OpR X (compareOp .Eq) (lR2 X.K gEq) := by
  intro pins s σ H x y v u Q I rx ry ⟨O, dx, dy, P, tr, hx, hy, hg, hP⟩
  have gen : D.flat 60 dx = true → D.flat 60 dy = true → P (.bl (D.eqv dx dy)) → wpAny (model X.prog X.w) X.A (compareOp .Eq v u) (EP X pins σ Q) X.xe s := by
    intro fx fy hg
    refine op_eqD hu pins s σ H _ _ v u Q I rx ry ⟨_, _, hx.dp 60 _ _ fx, hy.dp 60 _ _ fy, flat_shaped fx (Nat.le_refl _), flat_shaped fy (Nat.le_refl _), ?_⟩
    rw [eqv_py 60 60 _ _ fx fy]
    exact hP _ hg _ _ (Same.refl _) (.bl _)
  cases dx <;> cases dy <;> first
    | exact gen hg.1.1 hg.1.2 hg.2
    | (cases hx; cases hy
       refine op_eq pins s σ H _ _ v u Q I rx ry ⟨rfl, ?_⟩
       rw [dec_str]
       exact hP _ hg _ _ (Same.refl _) (.bl _))
theorem op_neU (hu : X.A.units + 64 < cLine) : OpR X (compareOp .NotEq) (lR2 X.K gNe) := by
  intro pins s σ H x y v u Q I rx ry ⟨O, dx, dy, P, tr, hx, hy, hg, hP⟩
  have gen : D.flat 60 dx = true → D.flat 60 dy = true → P (.bl (!D.eqv dx dy)) → wpAny (model X.prog X.w) X.A (compareOp .NotEq v u) (EP X pins σ Q) X.xe s := by
    intro fx fy hg
    refine op_neD hu pins s σ H _ _ v u Q I rx ry ⟨_, _, hx.dp 60 _ _ fx, hy.dp 60 _ _ fy, flat_shaped fx (Nat.le_refl _), flat_shaped fy (Nat.le_refl _), ?_⟩
    rw [eqv_py 60 60 _ _ fx fy]
    exact hP _ hg _ _ (Same.refl _) (.bl _)
  cases dx <;> cases dy <;> first
    | exact gen hg.1.1 hg.1.2 hg.2
    | (cases hx; cases hy
       refine op_ne pins s σ H _ _ v u Q I rx ry ⟨rfl, ?_⟩
       rw [dec_str]
       exact hP _ hg _ _ (Same.refl _) (.bl _))
theorem op_cmpU {op : CmpOp} {p : Int → Int → Bool} (h : OpR X (compareOp op) (rI0 fun i j => .bl (p i j))) : OpR X (compareOp op) (lR2 X.K (gCmp p)) := by
  intro pins s σ H x y v u Q I rx ry ⟨O, dx, dy, P, tr, hx, hy, hg, hP⟩
  cases dx <;> cases dy <;> try exact hg.elim
  cases hx; cases hy
  exact h pins s σ H _ _ v u Q I rx ry ⟨_, _, rfl, rfl, hP _ hg _ _ (Same.refl _) (.bl _)⟩
theorem op_ltU : OpR X (compareOp .Lt) (lR2 X.K gLt) := op_cmpU op_lt
theorem op_leU : OpR X (compareOp .LtE) (lR2 X.K gLe) := op_cmpU op_le
theorem op_gtU : OpR X (compareOp .Gt) (lR2 X.K gGt) := op_cmpU op_gt
theorem op_geU : OpR X (compareOp .GtE) (lR2 X.K gGe) := op_cmpU op_ge
theorem op_isU : OpR X (compareOp .Is) (lR2 X.K gIs) := by
  intro pins s σ H x y v u Q I rx ry ⟨O, dx, dy, P, tr, hx, hy, hg, hP⟩
  have none_ : dy = .non → OpR X (compareOp .Is) (fun x y H Q => y = .non ∧ Q (.bl (decide (x = .non))) H) → wpAny (model X.prog X.w) X.A (compareOp .Is v u) (EP X pins σ Q) X.xe s := by
    intro e h
    subst e
    cases hy
    have hg' : P (.bl (match dx with | .non => true | _ => false)) := by cases dx <;> exact hg
    refine h pins s σ H _ _ v u Q I rx ry ⟨rfl, ?_⟩
    have := hP _ hg' (.bl (decide (x = .non))) H (Same.refl _) (by
      cases hx <;> simp <;> exact .bl _)
    exact this
  cases dx <;> cases dy <;> first
    | exact none_ rfl op_isN
    | exact False.elim hg
    | (cases hx; cases hy
       refine op_is_bl pins s σ H _ _ v u Q I rx ry ⟨_, _, rfl, rfl, ?_⟩
       rw [show ∀ a b : Bool, decide (a = b) = (a == b) from by decide]
       exact hP _ hg _ _ (Same.refl _) (.bl _))
theorem op_isNotU : OpR X (compareOp .IsNot) (lR2 X.K gIsNot) := by
  intro pins s σ H x y v u Q I rx ry ⟨O, dx, dy, P, tr, hx, hy, hg, hP⟩
  have none_ : dy = .non → OpR X (compareOp .IsNot) (fun x y H Q => y = .non ∧ Q (.bl (!decide (x = .non))) H) → wpAny (model X.prog X.w) X.A (compareOp .IsNot v u) (EP X pins σ Q) X.xe s := by
    intro e h
    subst e
    cases hy
    have hg' : P (.bl (match dx with | .non => false | _ => true)) := by cases dx <;> exact hg
    refine h pins s σ H _ _ v u Q I rx ry ⟨rfl, ?_⟩
    have := hP _ hg' (.bl (!decide (x = .non))) H (Same.refl _) (by
      cases hx <;> simp <;> exact .bl _)
    exact this
  cases dx <;> cases dy <;> first
    | exact none_ rfl op_notN
    | exact False.elim hg
    | (cases hx; cases hy
       refine op_isnot_bl pins s σ H _ _ v u Q I rx ry ⟨_, _, rfl, rfl, ?_⟩
       rw [show ∀ a b : Bool, decide (a = b) = (a == b) from by decide]
       exact hP _ hg _ _ (Same.refl _) (.bl _))
end
end U

set_option Elab.async false
set_option linter.all false
set_option maxRecDepth 100000
set_option maxHeartbeats 4000000
/-! Expressions over data. -/
namespace U
open PySem PySem.Spec L2
open PyProof.Rows hiding St

def uVar (i : Nat) : UE := fun ρ Q => match ρ.sl[i]? with
  | some (.dat d) => Q d ρ.fuel
  | _ => False
def uC (d : D) : UE := fun ρ Q => Q d ρ.fuel
def uOp (g : G2) (a b : UE) : UE := fun ρ Q => a ρ fun x n => b (ρ.f n) fun y m => g x y fun z => Q z m
def uUn (g : D → (D → Prop) → Prop) (a : UE) : UE := fun ρ Q => a ρ fun x n => g x fun z => Q z n
def gNeg : D → (D → Prop) → Prop
  | .int i, Q => Q (.int (-i))
  | _, _ => False
def uNil : UA := fun ρ Q => Q [] ρ.fuel
def uCons (a : UE) (r : UA) : UA := fun ρ Q => a ρ fun x n => r (ρ.f n) fun xs m => Q (x :: xs) m
def uTup (a : UA) : UE := fun ρ Q => a ρ fun ds n => Q (.tup ds) n
def uLst (a : UA) : UE := fun ρ Q => a ρ fun ds n => Q (.lst ds) n
/-- a test by a value -/
def D.tru : D → Option Bool
  | .non => some false
  | .bl b => some b
  | .int i => some (i != 0)
  | .str x => if x.length ≤ sizeLine then some ((x.length : Int) != 0) else none
  | .lst ds => some (!ds.isEmpty)
  | .tup ds => some (!ds.isEmpty)
  | .dic _ => none
  | _ => none
def uTru (a : UE) : UT := fun ρ Q => a ρ fun x n => match x.tru with
  | some b => Q b n
  | none => False
def uTB (a : UE) : UT := fun ρ Q => a ρ fun x n => match x with
  | .bl b => Q b n
  | _ => False
def uAndT (a b : UT) : UT := fun ρ Q => a ρ fun c n => if c = true then b (ρ.f n) Q else Q false n
def uOrT (a b : UT) : UT := fun ρ Q => a ρ fun c n => if c = true then Q true n else b (ρ.f n) Q
def uNotT (a : UT) : UT := fun ρ Q => a ρ fun c n => Q (!c) n
def uAnd (a b : UE) : UE := fun ρ Q => a ρ fun x n => match x with
  | .bl true => b (ρ.f n) Q
  | .bl false => Q (.bl false) n
  | _ => False
def uOr (a b : UE) : UE := fun ρ Q => a ρ fun x n => match x with
  | .bl true => Q (.bl true) n
  | .bl false => b (ρ.f n) Q
  | _ => False
def uNot (a : UE) : UE := fun ρ Q => a ρ fun x n => match x with
  | .bl c => Q (.bl (!c)) n
  | _ => False
def uIf (c : UT) (a b : UE) : UE := fun ρ Q => c ρ fun k n => if k = true then a (ρ.f n) Q else b (ρ.f n) Q
def uChain (g g' : G2) (a b c : UE) : UE := fun ρ Q => a ρ fun x n => b (ρ.f n) fun y m => g x y fun z => match z with
  | .bl true => c (ρ.f m) fun w k => g' y w fun z' => Q z' k
  | .bl false => Q (.bl false) m
  | _ => False

section
variable {X : Cx} {O0 : Ad} {H0 : Hp} {a b c e : Expr} {ua ub uc : UE} {pos : Pos}
theorem f_f (ρ : Ro) (n m : Nat) : (ρ.f n).f m = ρ.f m := rfl
theorem up_var {i : Nat} {x : Str} (h : PE X (.Name x pos) (tVar i)) : UPE X O0 H0 (.Name x pos) (uVar i) := PE.imp h fun σ H Q ⟨ρ, P, r, hu, hP⟩ => by
  unfold uVar at hu
  split at hu
  · rename_i d e
    obtain ⟨v, e1, rv⟩ := r.dat i d e
    exact ⟨v, e1, hP d ρ.fuel hu v H r Frm.refl rv⟩
  · exact hu.elim
theorem up_c {v : V} {d : D} (h : PE X e (tC v)) (hd : ∀ O H, Rp X.K O H v d) : UPE X O0 H0 e (uC d) := PE.imp h fun σ H Q ⟨ρ, P, r, hu, hP⟩ =>
  hP d ρ.fuel hu v H r Frm.refl (hd _ _)
theorem up_int {i j} : UPE X O0 H0 (.Constant (.int i) j pos) (uC (.int i)) := up_c pe_int fun _ _ => .int i
theorem up_bl {i j} : UPE X O0 H0 (.Constant (.bool i) j pos) (uC (.bl i)) := up_c pe_bl fun _ _ => .bl i
theorem up_non {j} : UPE X O0 H0 (.Constant .none j pos) (uC .non) := up_c pe_non fun _ _ => .non
theorem up_str {x j} : UPE X O0 H0 (.Constant (.str x) j pos) (uC (.str x)) := up_c pe_str fun _ _ => .str x
/-- a global constant, a class -/
theorem up_glob {x : Str} {v : V} {d : D} {u : Value} (hg : Gl X x) (hm : X.mg x = some u) (r : RelV v u) (hd : ∀ O H, Rp X.K O H v d) (hdb : (x == ("__debug__" : Str)) = false := by decide) : UPE X O0 H0 (.Name x pos) (uC d) :=
  up_c (pe_glob hg hm r hdb) hd
theorem up_bltn {x : Str} {v : V} {d : D} {u : Value} (hg : Gl X x) (hm : X.mg x = none) (hv : bootBuiltins x = some u) (r : RelV v u) (hd : ∀ O H, Rp X.K O H v d) (hn : x ≠ "__name__" := by decide) (hdb : (x == ("__debug__" : Str)) = false := by decide) : UPE X O0 H0 (.Name x pos) (uC d) :=
  up_c (pe_bltn hg hm hv r hn hdb) hd
/-- the shape of all two-place rules -/
theorem two {g : G2} {σ : L2.St} {H : Hp} {Q : VK} (h : lE X.K O0 H0 (uOp g ua ub) σ H Q) : tOp (lR2 X.K g) (lE X.K O0 H0 ua) (lE X.K O0 H0 ub) σ H Q := by
  obtain ⟨ρ, P, r, hu, hP⟩ := h
  refine ⟨ρ, _, r, hu, fun dx n hx v H1 r1 f1 p1 => ⟨ρ.f n, _, r1, hx, fun dy m hy w H2 r2 f2 p2 => ?_⟩⟩
  refine ⟨OO O0 ρ, dx, dy, _, r2.tr, p1.keep (Frm.keepsO (ρ := ρ) f2), p2, hy, fun d hd v' H3 sm p3 => ?_⟩
  exact hP d m hd v' H3 (r2.same sm) ((f1.trans f2).trans (.of sm)) p3
theorem up_op {op : Operator} {g : G2} (ho : OpR X (binaryOp op) (lR2 X.K g)) (ha : UPE X O0 H0 a ua) (hb : UPE X O0 H0 b ub) : UPE X O0 H0 (.BinOp a op b pos) (uOp g ua ub) :=
  PE.imp (pe_op ho ha hb) fun _ _ _ h => two h
theorem up_cmp {op : CmpOp} {g : G2} (ho : OpR X (compareOp op) (lR2 X.K g)) (ha : UPE X O0 H0 a ua) (hb : UPE X O0 H0 b ub) (hm : behindInMarks op b = false) : UPE X O0 H0 (.Compare a [op] [b] pos) (uOp g ua ub) :=
  PE.imp (pe_cmpR ho ha hb hm) fun _ _ _ h => two h
/-- a value that is a truth value, as a test -/
theorem tb {σ : L2.St} {H : Hp} {Q : Bool → Hp → Prop} (h : lT X.K O0 H0 (uTB ua) σ H Q) : lE X.K O0 H0 ua σ H fun x H' => ∃ k, x = .bl k ∧ Q k H' := by
  obtain ⟨ρ, P, r, hu, hP⟩ := h
  refine ⟨ρ, _, r, hu, fun d n hd v H1 r1 f1 p1 => ?_⟩
  cases p1 with
  | bl k => exact ⟨k, rfl, hP k n hd H1 r1 f1⟩
  | _ => exact hd.elim
theorem ut_cmp {op : CmpOp} {g : G2} (ho : OpR X (compareOp op) (lR2 X.K g)) (ha : UPE X O0 H0 a ua) (hb : UPE X O0 H0 b ub) (hm : behindInMarks op b = false) : UPT X O0 H0 (.Compare a [op] [b] pos) (uTB (uOp g ua ub)) :=
  PT.imp (pt_cmpR ho ha hb hm) fun _ _ _ h => by
    obtain ⟨ρ, P, r, hu, hP⟩ := tb h
    exact two ⟨ρ, P, r, hu, hP⟩
theorem up_un {op : UnaryOp} {g : D → (D → Prop) → Prop} (ho : UnR X (unaryOp op) (fun x H Q => ∃ (O : Ad) (dx : D) (P : D → Prop), Rp X.K O H x dx ∧ g dx P ∧ ∀ d, P d → ∀ v, Rp X.K O H v d → Q v H)) (ha : UPE X O0 H0 a ua) :
    UPE X O0 H0 (.UnaryOp op a pos) (uUn g ua) := PE.imp (pe_un ho ha) fun σ H Q ⟨ρ, P, r, hu, hP⟩ =>
  ⟨ρ, _, r, hu, fun d n hd v H1 r1 f1 p1 => ⟨OO O0 ρ, d, _, p1, hd, fun d' hd' v' p' => hP d' n hd' v' H1 r1 f1 p'⟩⟩
theorem un_negU : UnR X (unaryOp .USub) (fun x H Q => ∃ (O : Ad) (dx : D) (P : D → Prop), Rp X.K O H x dx ∧ gNeg dx P ∧ ∀ d, P d → ∀ v, Rp X.K O H v d → Q v H) := by
  intro pins s σ H x v Q I rx ⟨O, dx, P, hx, hg, hP⟩
  cases dx <;> try exact hg.elim
  cases hx
  exact un_neg pins s σ H _ v Q I rx ⟨_, rfl, hP _ hg _ (.int _)⟩
theorem up_neg (ha : UPE X O0 H0 a ua) : UPE X O0 H0 (.UnaryOp .USub a pos) (uUn gNeg ua) := up_un un_negU ha
theorem up_chain {op op' : CmpOp} {g g' : G2} (ho : OpR X (compareOp op) (lR2 X.K g)) (ho' : OpR X (compareOp op') (lR2 X.K g')) (ha : UPE X O0 H0 a ua) (hb : UPE X O0 H0 b ub) (hc : UPE X O0 H0 c uc)
    (hm : lastMarks [op, op'] [b, c] = false := by with_unfolding_all rfl) : UPE X O0 H0 (.Compare a [op, op'] [b, c] pos) (uChain g g' ua ub uc) := PE.imp (pe_chain ho ho' ha hb hc hm) fun σ H Q h => by
  obtain ⟨ρ, P, r, hu, hP⟩ := h
  refine ⟨ρ, _, r, hu, fun dx n hx v H1 r1 f1 p1 => ⟨ρ.f n, _, r1, hx, fun dy m hy w H2 r2 f2 p2 => ?_⟩⟩
  refine ⟨OO O0 ρ, dx, dy, _, r2.tr, p1.keep (Frm.keepsO (ρ := ρ) f2), p2, hy, fun d hd v' H3 sm p3 => ?_⟩
  have r3 := r2.same sm
  have f3 : Frm ρ.pen H H3 := (f1.trans f2).trans (.of sm)
  cases p3 with
  | bl k => cases k with
    | true =>
      refine ⟨true, rfl, iteT ⟨ρ.f m, _, r3, hd, fun dw q hw w2 H4 r4 f4 p4 => ?_⟩⟩
      refine ⟨OO O0 ρ, dy, dw, _, r4.tr, (p2.keep (.same sm)).keep (Frm.keepsO (ρ := ρ) f4), p4, hw, fun d' hd' v2 H5 sm2 p5 => ?_⟩
      exact hP d' q hd' v2 H5 (r4.same sm2) ((f3.trans f4).trans (.of sm2)) p5
    | false => exact ⟨false, rfl, iteF (hP (.bl false) m hd _ H3 r3 f3 (.bl false))⟩
  | _ => exact hd.elim
theorem ut_chain {op op' : CmpOp} {g g' : G2} (ho : OpR X (compareOp op) (lR2 X.K g)) (ho' : OpR X (compareOp op') (lR2 X.K g')) (ha : UPE X O0 H0 a ua) (hb : UPE X O0 H0 b ub) (hc : UPE X O0 H0 c uc)
    (hm : lastMarks [op, op'] [b, c] = false := by with_unfolding_all rfl) : UPT X O0 H0 (.Compare a [op, op'] [b, c] pos) (uTB (uChain g g' ua ub uc)) := PT.imp (pt_chain ho ho' ha hb hc hm) fun σ H Q h => by
  obtain ⟨ρ, P, r, hu, hP⟩ := tb h
  refine ⟨ρ, _, r, hu, fun dx n hx v H1 r1 f1 p1 => ⟨ρ.f n, _, r1, hx, fun dy m hy w H2 r2 f2 p2 => ?_⟩⟩
  refine ⟨OO O0 ρ, dx, dy, _, r2.tr, p1.keep (Frm.keepsO (ρ := ρ) f2), p2, hy, fun d hd v' H3 sm p3 => ?_⟩
  have r3 := r2.same sm
  have f3 : Frm ρ.pen H H3 := (f1.trans f2).trans (.of sm)
  cases p3 with
  | bl k => cases k with
    | true =>
      refine ⟨true, rfl, iteT ⟨ρ.f m, _, r3, hd, fun dw q hw w2 H4 r4 f4 p4 => ?_⟩⟩
      refine ⟨OO O0 ρ, dy, dw, _, r4.tr, (p2.keep (.same sm)).keep (Frm.keepsO (ρ := ρ) f4), p4, hw, fun d' hd' v2 H5 sm2 p5 => ?_⟩
      exact hP d' q hd' v2 H5 (r4.same sm2) ((f3.trans f4).trans (.of sm2)) p5
    | false => exact ⟨false, rfl, iteF (hP (.bl false) m hd _ H3 r3 f3 (.bl false))⟩
  | _ => exact hd.elim

/-! ### truth -/
theorem Rp.tru {K : PySem.W.Frag} {O : Ad} {H : Hp} {v : V} {d : D} {k : Bool} (h : Rp K O H v d) (e : d.tru = some k) : TruV K v H k := by
  have len0 : ∀ {vs : List V} {ds : List D}, RpA K O H vs ds → vs.isEmpty = ds.isEmpty := fun h => by cases h <;> rfl
  cases h with
  | non => cases e; rfl
  | bl b => cases e; rfl
  | int i => cases e; rfl
  | str x =>
    have e' : (if x.length ≤ sizeLine then some ((x.length : Int) != 0) else none) = some k := e
    by_cases hz : x.length ≤ sizeLine
    · rw [if_pos hz] at e'
      cases e'
      exact ⟨hz, rfl⟩
    · rw [if_neg hz] at e'
      cases e'
  | lst l a => cases e; exact .inl ⟨_, l.sq, by rw [len0 a]⟩
  | tup l a => cases e; exact .inr (.inl ⟨_, l.sq, by rw [len0 a]⟩)
  | dic n h r => cases e
  | ref _ => cases e
  | ty _ => cases e
  | exc _ _ => cases e
  | excf _ _ _ _ _ => cases e
  | cls _ => cases e
theorem ut_tru (ha : UPE X O0 H0 a ua) (he : ∀ whole, isTrue a X.env whole = (do let v ← whole; standAt a.pos; holding [v] (truthy v))) : UPT X O0 H0 a (uTru ua) :=
  PT.imp (pt_truth ha he) fun σ H Q ⟨ρ, P, r, hu, hP⟩ => ⟨ρ, _, r, hu, fun d n hd v H1 r1 f1 p1 => by
    split at hd
    · rename_i b e
      exact ⟨b, p1.tru e, hP b n hd H1 r1 f1⟩
    · exact hd.elim⟩
abbrev UPW (X : Cx) (O0 : Ad) (H0 : Hp) (e : Expr) (u : UT) : Prop := PW X e (lT X.K O0 H0 u)
variable {ta tb' : UT} {rest : List Expr}
theorem uw_and1 (ha : UPT X O0 H0 a ta) : UPW X O0 H0 (.BoolOp .And [a] pos) ta := pw_and1 ha
theorem uw_or1 (ha : UPT X O0 H0 a ta) : UPW X O0 H0 (.BoolOp .Or [a] pos) ta := pw_or1 ha
theorem uw_and (ha : UPT X O0 H0 a ta) (hb : UPW X O0 H0 (.BoolOp .And (b :: rest) pos) tb') : UPW X O0 H0 (.BoolOp .And (a :: b :: rest) pos) (uAndT ta tb') :=
  PW.imp (pw_and ha hb) fun σ H Q ⟨ρ, P, r, hu, hP⟩ => ⟨ρ, _, r, hu, fun k n hk H1 r1 f1 => by
    cases k with
    | true => exact iteT ⟨ρ.f n, _, r1, hk, fun k2 m hk2 H2 r2 f2 => hP k2 m hk2 H2 r2 (f1.trans f2)⟩
    | false => exact iteF (hP false n hk H1 r1 f1)⟩
theorem uw_or (ha : UPT X O0 H0 a ta) (hb : UPW X O0 H0 (.BoolOp .Or (b :: rest) pos) tb') : UPW X O0 H0 (.BoolOp .Or (a :: b :: rest) pos) (uOrT ta tb') :=
  PW.imp (pw_or ha hb) fun σ H Q ⟨ρ, P, r, hu, hP⟩ => ⟨ρ, _, r, hu, fun k n hk H1 r1 f1 => by
    cases k with
    | true => exact iteT (hP true n hk H1 r1 f1)
    | false => exact iteF ⟨ρ.f n, _, r1, hk, fun k2 m hk2 H2 r2 f2 => hP k2 m hk2 H2 r2 (f1.trans f2)⟩⟩
theorem ut_not (ha : UPT X O0 H0 a ta) : UPT X O0 H0 (.UnaryOp .Not a pos) (uNotT ta) :=
  PT.imp (pt_not ha) fun σ H Q ⟨ρ, P, r, hu, hP⟩ => ⟨ρ, _, r, hu, fun k n hk H1 r1 f1 => hP (!k) n hk H1 r1 f1⟩
theorem up_one {op} (ha : UPE X O0 H0 a ua) : UPE X O0 H0 (.BoolOp op [a] pos) ua := pe_one ha
theorem up_and (ha : UPE X O0 H0 a ua) (hb : UPE X O0 H0 (.BoolOp .And (b :: rest) pos) ub) : UPE X O0 H0 (.BoolOp .And (a :: b :: rest) pos) (uAnd ua ub) :=
  PE.imp (pe_and ha hb) fun σ H Q ⟨ρ, P, r, hu, hP⟩ => ⟨ρ, _, r, hu, fun d n hd v H1 r1 f1 p1 => by
    cases p1 with
    | bl k => cases k with
      | true => exact ⟨true, rfl, iteT ⟨ρ.f n, _, r1, hd, fun d2 m hd2 v2 H2 r2 f2 p2 => hP d2 m hd2 v2 H2 r2 (f1.trans f2) p2⟩⟩
      | false => exact ⟨false, rfl, iteF (hP _ n hd _ H1 r1 f1 (.bl false))⟩
    | _ => exact hd.elim⟩
theorem up_or (ha : UPE X O0 H0 a ua) (hb : UPE X O0 H0 (.BoolOp .Or (b :: rest) pos) ub) : UPE X O0 H0 (.BoolOp .Or (a :: b :: rest) pos) (uOr ua ub) :=
  PE.imp (pe_or ha hb) fun σ H Q ⟨ρ, P, r, hu, hP⟩ => ⟨ρ, _, r, hu, fun d n hd v H1 r1 f1 p1 => by
    cases p1 with
    | bl k => cases k with
      | true => exact ⟨true, rfl, iteT (hP _ n hd _ H1 r1 f1 (.bl true))⟩
      | false => exact ⟨false, rfl, iteF ⟨ρ.f n, _, r1, hd, fun d2 m hd2 v2 H2 r2 f2 p2 => hP d2 m hd2 v2 H2 r2 (f1.trans f2) p2⟩⟩
    | _ => exact hd.elim⟩
theorem up_not (ha : UPE X O0 H0 a ua) : UPE X O0 H0 (.UnaryOp .Not a pos) (uNot ua) :=
  PE.imp (pe_not ha) fun σ H Q ⟨ρ, P, r, hu, hP⟩ => ⟨ρ, _, r, hu, fun d n hd v H1 r1 f1 p1 => by
    cases p1 with
    | bl k => exact ⟨k, rfl, hP _ n hd _ H1 r1 f1 (.bl (!k))⟩
    | _ => exact hd.elim⟩
theorem up_if (hc : UPT X O0 H0 c ta) (ha : UPE X O0 H0 a ua) (hb : UPE X O0 H0 b ub) : UPE X O0 H0 (.IfExp c a b pos) (uIf ta ua ub) :=
  PE.imp (pe_ifExp hc ha hb) fun σ H Q ⟨ρ, P, r, hu, hP⟩ => ⟨ρ, _, r, hu, fun k n hk H1 r1 f1 => by
    cases k with
    | true => exact iteT ⟨ρ.f n, _, r1, hk, fun d2 m hd2 v2 H2 r2 f2 p2 => hP d2 m hd2 v2 H2 r2 (f1.trans f2) p2⟩
    | false => exact iteF ⟨ρ.f n, _, r1, hk, fun d2 m hd2 v2 H2 r2 f2 p2 => hP d2 m hd2 v2 H2 r2 (f1.trans f2) p2⟩⟩

/-! ### argument lists, displays -/
def UPL (X : Cx) (O0 : Ad) (H0 : Hp) (es : List Expr) (u : UA) : Prop := ∃ t, PA X es t ∧ ∀ σ H Q, lA X.K O0 H0 u σ H (fun vs H1 => vs.length = es.length → Q vs H1) → t σ H Q
theorem UPL.run {es : List Expr} {u : UA} (h : UPL X O0 H0 es u) : UPA X O0 H0 es u := by
  obtain ⟨t, ht, hi⟩ := h
  exact PA.imp ht fun σ H Q q => hi σ H Q (by
    obtain ⟨ρ, P, r, hu, hP⟩ := q
    exact ⟨ρ, P, r, hu, fun ds n hd vs H1 r1 f1 p1 _ => hP ds n hd vs H1 r1 f1 p1⟩)
theorem ul_nil : UPL X O0 H0 [] uNil := ⟨_, pa_nil, fun σ H Q ⟨ρ, P, r, hu, hP⟩ => hP [] ρ.fuel hu [] H r Frm.refl .nil rfl⟩
theorem ul_cons {es : List Expr} {ur : UA} (ha : UPE X O0 H0 e ua) (hr : UPL X O0 H0 es ur) (hs : starEach (e :: es) X.env = (false, eval e X.env) :: starEach es X.env := by rfl) : UPL X O0 H0 (e :: es) (uCons ua ur) := by
  obtain ⟨t, ht, hi⟩ := hr
  refine ⟨_, pa_cons ha ht hs, fun σ H Q ⟨ρ, P, r, hu, hP⟩ => ⟨ρ, _, r, hu, fun d n hd v H1 r1 f1 p1 => ?_⟩⟩
  refine hi σ H1 (fun vs H2 => Q (v :: vs) H2) ⟨ρ.f n, _, r1, hd, fun ds m hds vs H2 r2 f2 p2 hl => ?_⟩
  exact hP (d :: ds) m hds (v :: vs) H2 r2 (f1.trans f2) (.cons (p1.keep (Frm.keepsO (ρ := ρ) f2)) p2) (by rw [List.length_cons, List.length_cons, hl])
theorem up_tup {es : List Expr} {ur : UA} {x1} (h : UPL X O0 H0 es ur) (hl : es.length ≤ sizeLine := by decide) : UPE X O0 H0 (.Tuple es x1 pos) (uTup ur) := by
  obtain ⟨t, ht, hi⟩ := h
  refine PE.imp (pe_tup ht) fun σ H Q ⟨ρ, P, r, hu, hP⟩ => hi σ H _ ⟨ρ, _, r, hu, fun ds n hd vs H1 r1 f1 p1 hn => ⟨by rw [hn]; exact hl, fun p hp => ?_⟩⟩
  have sm := Same.new (o := HO.tup vs) hp
  exact hP (.tup ds) n hd _ _ (r1.same sm) (f1.trans (.of sm)) (.tup (.inl ⟨r1.fresh hp, upd_same⟩) (p1.keep (.same sm)))
theorem up_lst {es : List Expr} {ur : UA} (h : UPL X O0 H0 es ur) (hl : es.length ≤ sizeLine := by decide) : UPE X O0 H0 (.List es pos) (uLst ur) := by
  obtain ⟨t, ht, hi⟩ := h
  refine PE.imp (pe_lst ht) fun σ H Q ⟨ρ, P, r, hu, hP⟩ => hi σ H _ ⟨ρ, _, r, hu, fun ds n hd vs H1 r1 f1 p1 hn => ⟨by rw [hn]; exact hl, fun p hp => ?_⟩⟩
  have sm := Same.new (o := HO.lst vs) hp
  exact hP (.lst ds) n hd _ _ (r1.same sm) (f1.trans (.of sm)) (.lst ⟨r1.fresh hp, upd_same⟩ (p1.keep (.same sm)))

/-! ### subscripts, slices -/
def gIx : G2
  | .lst ds, .int i, Q => match atI ds i with
    | some d => Q d
    | none => False
  | .tup ds, .int i, Q => match atI ds i with
    | some d => Q d
    | none => False
  | .str z, .int i, Q => z.length ≤ sizeLine ∧ match atI z.cps.toList i with
    | some c => Q (.str ⟨#[c]⟩)
    | none => False
  | _, _, _ => False
theorem RpA.atI {K : PySem.W.Frag} {O : Ad} {H : Hp} {vs : List V} {ds : List D} {i : Int} {d : D} (h : RpA K O H vs ds) (e : L2.atI ds i = some d) : ∃ v, L2.atI vs i = some v ∧ Rp K O H v d := by
  unfold L2.atI at e ⊢
  rw [h.length]
  cases q : ixN ds.length i with
  | none => rw [q] at e; cases e
  | some j =>
    rw [q] at e
    exact h.get (i := j) e
theorem ix_U : IxR X (lR2 X.K gIx) := by
  intro value slice pins s σ H x y v u Q I rx ry ⟨O, dx, dy, P, tr, hx, hy, hg, hP⟩ hs
  cases dx <;> cases dy <;> try exact hg.elim
  · rename_i z i
    cases hx; cases hy
    obtain ⟨hz, hg⟩ := hg
    split at hg
    · rename_i c e
      exact ix_str value slice pins s σ H _ _ v u Q I rx ry ⟨z, i, c, rfl, rfl, hz, e, hP _ hg _ _ (Same.refl _) (.str _)⟩ hs
    · exact hg.elim
  · rename_i ds i
    cases hx with
    | lst lx ax =>
      cases hy
      dsimp only [gIx] at hg
      split at hg
      · rename_i d e
        obtain ⟨w, e1, rw1⟩ := ax.atI e
        exact ix_list value slice pins s σ H _ _ v u Q I rx ry ⟨_, _, _, w, rfl, rfl, lx.sq, e1, hP _ hg _ _ (Same.refl _) rw1⟩ hs
      · exact hg.elim
  · rename_i ds i
    cases hx with
    | tup lx ax =>
      cases hy
      dsimp only [gIx] at hg
      split at hg
      · rename_i d e
        obtain ⟨w, e1, rw1⟩ := ax.atI e
        exact ix_tup value slice pins s σ H _ _ v u Q I rx ry ⟨_, _, _, w, rfl, rfl, lx.sq, e1, hP _ hg _ _ (Same.refl _) rw1⟩ hs
      · exact hg.elim
theorem up_ix (ha : UPE X O0 H0 a ua) (hb : UPE X O0 H0 b ub) (hs : PlainIx b := by exact fun _ _ => rfl) : UPE X O0 H0 (.Subscript a b pos) (uOp gIx ua ub) :=
  PE.imp (pe_ix ix_U ha hb hs) fun _ _ _ h => two h
/-- the part of a list between two places -/
def cutD {α : Type} (xs : List α) (lo hi : Option Int) : List α := (xs.drop (HT.sIx xs.length 0 lo)).take (HT.sIx xs.length xs.length hi - HT.sIx xs.length 0 lo)
theorem RpA.cut {K : PySem.W.Frag} {O : Ad} {H : Hp} {vs : List V} {ds : List D} (lo hi : Option Int) (h : RpA K O H vs ds) : RpA K O H (cutV vs lo hi) (cutD ds lo hi) := by
  unfold cutV cutD
  rw [h.length]
  exact (h.drop _).take _
def gCut : D → Option Int → Option Int → (D → Prop) → Prop
  | .lst ds, lo, hi, Q => Q (.lst (cutD ds lo hi))
  | .tup ds, lo, hi, Q => Q (.tup (cutD ds lo hi))
  | _, _, _, _ => False
def lSl (K : PySem.W.Frag) : V → Option Int → Option Int → Hp → VK → Prop := fun x lo hi H Q => ∃ (O : Ad) (dx : D) (P : D → Prop), (∀ b, O b → H b ≠ none) ∧ Rp K O H x dx ∧ gCut dx lo hi P ∧ ∀ d, P d → ∀ v H', Same H H' → Rp K O H' v d → Q v H'
theorem cutD_whole {α : Type} {xs : List α} {lo hi : Option Int} (h : HT.sIx xs.length 0 lo = 0 ∧ HT.sIx xs.length xs.length hi = xs.length) : cutD xs lo hi = xs := by
  unfold cutD
  rw [h.1, h.2]
  simp
theorem sl_U : SlR X (lSl X.K) := by
  intro pins s σ H x v vl vu lo hi sl Q I rx hs pl pu ⟨O, dx, P, tr, hx, hg, hP⟩
  cases dx <;> try exact hg.elim
  · cases hx with
    | lst lx ax =>
      refine sl_list pins s σ H _ v vl vu lo hi sl Q I rx hs pl pu ⟨_, _, rfl, lx.sq, fun p hp => ?_⟩
      have sm := fun o => Same.new (o := o) hp
      exact hP _ hg _ _ (sm _) (.lst ⟨nofree tr hp, upd_same⟩ ((ax.cut lo hi).keep (.same (sm _))))
  · cases hx with
    | tup lx ax =>
      refine sl_tupA pins s σ H _ v vl vu lo hi sl Q I rx hs pl pu ⟨_, _, rfl, lx.sq, fun e => ?_, fun _ p hp => ?_⟩
      · rw [ax.length] at e
        have z := hg
        dsimp only [gCut] at z
        rw [cutD_whole e] at z
        exact hP _ z _ _ (Same.refl _) (.tup lx ax)
      · have sm := fun o => Same.new (o := o) hp
        exact hP _ hg _ _ (sm _) (.tup (.inl ⟨nofree tr hp, upd_same⟩) ((ax.cut lo hi).keep (.same (sm _))))
abbrev UO := Ro → (Option Int → Nat → Prop) → Prop
def uNoP : UO := fun ρ Q => Q none ρ.fuel
def uPart (u : UE) : UO := fun ρ Q => u ρ fun d n => match d with
  | .int i => Q (some i) n
  | _ => False
def lO (K : PySem.W.Frag) (O0 : Ad) (H0 : Hp) (u : UO) : TO := fun σ H Q => ∃ (ρ : Ro) (P : Option Int → Nat → Prop), R K O0 H0 σ H ρ ∧ u ρ P ∧
  ∀ d n, P d n → ∀ H', R K O0 H0 σ H' (ρ.f n) → Frm ρ.pen H H' → Q d H'
theorem PO.imp {X : Cx} {e : Option Expr} {t t' : TO} (h : PO X e t) (hi : ∀ σ H Q, t' σ H Q → t σ H Q) : PO X e t' := by
  obtain ⟨run⟩ := h
  constructor
  intros
  rename_i q
  exact run _ _ _ _ _ (by assumption) (hi _ _ _ q)
abbrev UPO (X : Cx) (O0 : Ad) (H0 : Hp) (e : Option Expr) (u : UO) : Prop := PO X e (lO X.K O0 H0 u)
theorem uo_none : UPO X O0 H0 none uNoP := PO.imp po_none fun σ H Q ⟨ρ, P, r, hu, hP⟩ => hP none ρ.fuel hu H r Frm.refl
theorem uo_some (h : UPE X O0 H0 e ua) : UPO X O0 H0 (some e) (uPart ua) := PO.imp (po_some h) fun σ H Q ⟨ρ, P, r, hu, hP⟩ => ⟨ρ, _, r, hu, fun d n hd v H1 r1 f1 p1 => by
  cases p1 with
  | int i => exact ⟨i, rfl, hP (some i) n hd H1 r1 f1⟩
  | _ => exact hd.elim⟩
def uCut (a : UE) (l h : UO) : UE := fun ρ Q => a ρ fun x n => l (ρ.f n) fun lo m => h (ρ.f m) fun hi k => gCut x lo hi fun z => Q z k
theorem up_cut {lo hi : Option Expr} {ul uh : UO} {p2 : Pos} (ha : UPE X O0 H0 a ua) (hl : UPO X O0 H0 lo ul) (hh : UPO X O0 H0 hi uh) : UPE X O0 H0 (.Subscript a (.Slice lo hi none p2) pos) (uCut ua ul uh) :=
  PE.imp (pe_slice sl_U ha hl hh) fun σ H Q ⟨ρ, P, r, hu, hP⟩ => by
    refine ⟨ρ, _, r, hu, fun dx n hx v H1 r1 f1 p1 => ⟨ρ.f n, _, r1, hx, fun o1 m h1 H2 r2 f2 => ⟨ρ.f m, _, r2, h1, fun o2 k h2 H3 r3 f3 => ?_⟩⟩⟩
    refine ⟨OO O0 ρ, dx, _, r3.tr, (p1.keep (Frm.keepsO (ρ := ρ) f2)).keep (Frm.keepsO (ρ := ρ) f3), h2, fun d hd v' H4 sm p4 => ?_⟩
    exact hP d k hd v' H4 (r3.same sm) (((f1.trans f2).trans f3).trans (.of sm)) p4

/-! ### calls of what is built in -/
abbrev GL := List D → (D → Prop) → Prop
def lCR (K : PySem.W.Frag) (g : GL) : List V → Hp → VK → Prop := fun vs H Q => ∃ (O : Ad) (ds : List D) (P : D → Prop), (∀ b, O b → H b ≠ none) ∧ RpA K O H vs ds ∧ g ds P ∧ ∀ d, P d → ∀ v H', Same H H' → Rp K O H' v d → Q v H'
def uB (g : GL) (a : UA) : UE := fun ρ Q => a ρ fun ds n => g ds fun z => Q z n
theorem cb {es : List Expr} {u : UA} {g : GL} (h : UPL X O0 H0 es u) : ∃ t, PA X es t ∧ ∀ σ H Q, lE X.K O0 H0 (uB g u) σ H Q → tCB (lCR X.K g) t σ H Q := by
  obtain ⟨t, ht, hi⟩ := h
  refine ⟨t, ht, fun σ H Q ⟨ρ, P, r, hu, hP⟩ => hi σ H _ ⟨ρ, _, r, hu, fun ds n hd vs H1 r1 f1 p1 _ => ?_⟩⟩
  exact ⟨OO O0 ρ, ds, _, r1.tr, p1, hd, fun d hd' v' H2 sm p2 => hP d n hd' v' H2 (r1.same sm) (f1.trans (.of sm)) p2⟩
theorem up_callB {id : String} {x : Str} {p : Pos} {es : List Expr} {u : UA} {g : GL} (hc : CallR X (.builtin id) (lCR X.K g)) (hg : Gl X x) (hm : X.mg x = none) (hv : bootBuiltins x = some (.builtin id)) (ha : UPL X O0 H0 (e :: es) u)
    (hn : x ≠ "__name__" := by decide) (hdb : (x == ("__debug__" : Str)) = false := by decide) (he : starEach (e :: es) X.env = (false, eval e X.env) :: starEach es X.env := by rfl) (hpl : (backTo pos (starEach es X.env)).any (·.1) = false := by rfl) :
    UPE X O0 H0 (.Call (.Name x p) (e :: es) [] pos) (uB g u) := by
  obtain ⟨t, ht, hi⟩ := cb (g := g) ha
  exact PE.imp (pe_callB hc hg hm hv ht hn hdb he hpl) hi
theorem up_callTy {T : String} {x : Str} {p : Pos} {es : List Expr} {u : UA} {g : GL} (hc : CallR X (.type T) (lCR X.K g)) (hg : Gl X x) (hm : X.mg x = none) (hv : bootBuiltins x = some (.type T)) (ha : UPL X O0 H0 (e :: es) u)
    (hn : x ≠ "__name__" := by decide) (hdb : (x == ("__debug__" : Str)) = false := by decide) (he : starEach (e :: es) X.env = (false, eval e X.env) :: starEach es X.env := by rfl) (hpl : (backTo pos (starEach es X.env)).any (·.1) = false := by rfl) :
    UPE X O0 H0 (.Call (.Name x p) (e :: es) [] pos) (uB g u) := by
  obtain ⟨t, ht, hi⟩ := cb (g := g) ha
  exact PE.imp (pe_callTy hc hg hm hv ht hn hdb he hpl) hi

def gLen : GL
  | [.str s], Q => s.length ≤ sizeLine ∧ Q (.int s.length)
  | [.lst ds], Q => Q (.int ds.length)
  | [.tup ds], Q => Q (.int ds.length)
  | _, _ => False
theorem call_lenU : CallR X (.builtin "len") (lCR X.K gLen) := by
  intro pins s σ H xs us Q I rx ⟨O, ds, P, tr, ha, hg, hP⟩
  unfold gLen at hg
  split at hg
  · cases ha with
    | cons h t => cases t; cases h; exact call_len pins s σ H _ us Q I rx ⟨_, _, rfl, ⟨hg.1, rfl⟩, hP _ hg.2 _ _ (Same.refl _) (.int _)⟩
  · cases ha with
    | cons h t =>
      cases t
      cases h with
      | lst l a => exact call_len pins s σ H _ us Q I rx ⟨_, _, rfl, .inl ⟨_, l.sq, rfl⟩, hP _ (by rw [a.length]; exact hg) _ _ (Same.refl _) (.int _)⟩
  · cases ha with
    | cons h t =>
      cases t
      cases h with
      | tup l a => exact call_len pins s σ H _ us Q I rx ⟨_, _, rfl, .inr ⟨_, l.sq, rfl⟩, hP _ (by rw [a.length]; exact hg) _ _ (Same.refl _) (.int _)⟩
  · exact hg.elim
def gAbs : GL
  | [.int i], Q => Q (.int (if i < 0 then -i else i))
  | _, _ => False
theorem call_absU : CallR X (.builtin "abs") (lCR X.K gAbs) := by
  intro pins s σ H xs us Q I rx ⟨O, ds, P, tr, ha, hg, hP⟩
  unfold gAbs at hg
  split at hg
  · cases ha with
    | cons h t => cases t; cases h; exact call_abs pins s σ H _ us Q I rx ⟨_, rfl, hP _ hg _ _ (Same.refl _) (.int _)⟩
  · exact hg.elim
def gMax2 : GL
  | [.int i, .int j], Q => Q (.int (if j > i then j else i))
  | _, _ => False
def gMin2 : GL
  | [.int i, .int j], Q => Q (.int (if j < i then j else i))
  | _, _ => False
theorem call_max2U (hc : X.calm = true) : CallR X (.builtin "max") (lCR X.K gMax2) := by
  intro pins s σ H xs us Q I rx ⟨O, ds, P, tr, ha, hg, hP⟩
  unfold gMax2 at hg
  split at hg
  · cases ha with
    | cons h t => cases t with
      | cons h2 t => cases t; cases h; cases h2; exact call_max2 hc pins s σ H _ us Q I rx ⟨_, _, rfl, hP _ hg _ _ (Same.refl _) (.int _)⟩
  · exact hg.elim
theorem call_min2U (hc : X.calm = true) : CallR X (.builtin "min") (lCR X.K gMin2) := by
  intro pins s σ H xs us Q I rx ⟨O, ds, P, tr, ha, hg, hP⟩
  unfold gMin2 at hg
  split at hg
  · cases ha with
    | cons h t => cases t with
      | cons h2 t => cases t; cases h; cases h2; exact call_min2 hc pins s σ H _ us Q I rx ⟨_, _, rfl, hP _ hg _ _ (Same.refl _) (.int _)⟩
  · exact hg.elim
def gInt : GL
  | [.int i], Q => Q (.int i)
  | [.bl b], Q => Q (.int (if b then 1 else 0))
  | _, _ => False
theorem call_intU : CallR X (.type "int") (lCR X.K gInt) := by
  intro pins s σ H xs us Q I rx ⟨O, ds, P, tr, ha, hg, hP⟩
  unfold gInt at hg
  split at hg
  · cases ha with
    | cons h t => cases t; cases h; exact call_int1 pins s σ H _ us Q I rx (.inl ⟨_, rfl, hP _ hg _ _ (Same.refl _) (.int _)⟩)
  · cases ha with
    | cons h t => cases t; cases h; exact call_int1 pins s σ H _ us Q I rx (.inr ⟨_, rfl, hP _ hg _ _ (Same.refl _) (.int _)⟩)
  · exact hg.elim
def gList : GL
  | [.lst ds], Q => Q (.lst ds)
  | [.tup ds], Q => Q (.lst ds)
  | _, _ => False
theorem call_listU : CallR X (.type "list") (lCR X.K gList) := by
  intro pins s σ H xs us Q I rx ⟨O, ds, P, tr, ha, hg, hP⟩
  unfold gList at hg
  split at hg
  · cases ha with
    | cons h t =>
      cases t
      cases h with
      | lst l a =>
        refine call_list_of pins s σ H _ us Q I rx ⟨_, _, rfl, .inl l.sq, fun p hp => ?_⟩
        have sm := fun o => Same.new (o := o) hp
        exact hP _ hg _ _ (sm _) (.lst ⟨nofree tr hp, upd_same⟩ (a.keep (.same (sm _))))
  · cases ha with
    | cons h t =>
      cases t
      cases h with
      | tup l a =>
        refine call_list_of pins s σ H _ us Q I rx ⟨_, _, rfl, .inr l.sq, fun p hp => ?_⟩
        have sm := fun o => Same.new (o := o) hp
        exact hP _ hg _ _ (sm _) (.lst ⟨nofree tr hp, upd_same⟩ (a.keep (.same (sm _))))
  · exact hg.elim
def gTuple : GL
  | [.lst ds], Q => Q (.tup ds)
  | [.tup ds], Q => Q (.tup ds)
  | _, _ => False
theorem call_tupleU : CallR X (.type "tuple") (lCR X.K gTuple) := by
  intro pins s σ H xs us Q I rx ⟨O, ds, P, tr, ha, hg, hP⟩
  unfold gTuple at hg
  split at hg
  · cases ha with
    | cons h t =>
      cases t
      cases h with
      | lst l a =>
        refine call_tuple_of pins s σ H _ us Q I rx ⟨_, _, rfl, .inl ⟨l.sq, fun p hp => ?_⟩⟩
        have sm := fun o => Same.new (o := o) hp
        exact hP _ hg _ _ (sm _) (.tup (.inl ⟨nofree tr hp, upd_same⟩) (a.keep (.same (sm _))))
  · cases ha with
    | cons h t =>
      cases t
      cases h with
      | tup l a => exact call_tuple_of pins s σ H _ us Q I rx ⟨_, _, rfl, .inr ⟨l.sq, hP _ hg _ _ (Same.refl _) (.tup l a)⟩⟩
  · exact hg.elim
/-! ### isinstance of data -/
def D.tyn : D → Option String
  | .non => some "NoneType"
  | .bl _ => some "bool"
  | .int _ => some "int"
  | .str _ => some "str"
  | .lst _ => some "list"
  | .tup _ => some "tuple"
  | .dic _ => some "dict"
  | _ => none
def isTy (t n : String) : Bool := t == n || (t == "bool" && n == "int")
def tyNames : List String := ["int", "bool", "str", "list", "tuple", "dict"]
theorem kit_all : (["NoneType", "bool", "int", "str", "list", "tuple", "dict"].all fun t => tyNames.all fun n => decide (kitB t n = some (isTy t n))) = true := by decide +kernel
theorem tyn_in {d : D} {t : String} (h : d.tyn = some t) : t ∈ ["NoneType", "bool", "int", "str", "list", "tuple", "dict"] := by
  cases d <;> cases h <;> simp
theorem kit_of_ty {t n : String} (h : t ∈ ["NoneType", "bool", "int", "str", "list", "tuple", "dict"]) (hn : n ∈ tyNames) : kitB t n = some (isTy t n) := by
  have a := List.all_eq_true.mp kit_all t h
  exact of_decide_eq_true (List.all_eq_true.mp a n hn)
theorem Rp.tyx {K : PySem.W.Frag} {O : Ad} {H : Hp} {v : V} {d : D} {t : String} (h : Rp K O H v d) (e : d.tyn = some t) : TyX K H v (.type t) := by
  cases h with
  | non => cases e; exact .base .non
  | bl b => cases e; exact .base (.bl b)
  | int i => cases e; exact .base (.int i)
  | str x => cases e; exact .base (.str x)
  | lst l a => cases e; exact .base (.lst l.2)
  | tup l a =>
    cases e
    rcases l with l | ⟨o, its, n, h1, h2, _⟩
    · exact .base (.tup l.2)
    · exact .kTuple h1 h2
  | dic n h r => cases e; exact .fDict h
  | ref _ => cases e
  | ty _ => cases e
  | exc _ _ => cases e
  | excf _ _ _ _ _ => cases e
  | cls _ => cases e
/-- isinstance(x, T), isinstance(x, (T1, ..)), T built in -/
def isD (d : D) (n : String) : Bool := match d.tyn with
  | some t => isTy t n
  | none => false
def tyOf : List D → Option (List String)
  | [] => some []
  | .ty n :: r => (tyOf r).map (n :: ·)
  | _ => none
def gIsi : GL
  | [x, .ty n], Q => (x.tyn.isSome = true ∧ n ∈ tyNames) ∧ Q (.bl (isD x n))
  | [x, .tup cs], Q => match tyOf cs with
    | some ns => (x.tyn.isSome = true ∧ ∀ n ∈ ns, n ∈ tyNames) ∧ Q (.bl (ns.any (isD x)))
    | none => False
  | _, _ => False
theorem tyOf_ok {K : PySem.W.Frag} {O : Ad} {H : Hp} : ∀ {cs : List D} {ns : List String} {vs : List V}, tyOf cs = some ns → RpA K O H vs cs → Paired ClsV vs (ns.map Value.type)
  | [], _, _, e, .nil => by cases e; exact .nil
  | .ty n :: r, ns, _, e, .cons h t => by
    have e' : (tyOf r).map (n :: ·) = some ns := e
    cases q : tyOf r with
    | none => rw [q] at e'; cases e'
    | some ms =>
      rw [q] at e'
      cases e'
      cases h
      exact .cons (.ty n) (tyOf_ok q t)
  | .non :: _, _, _, e, _ => by cases e
  | .bl _ :: _, _, _, e, _ => by cases e
  | .int _ :: _, _, _, e, _ => by cases e
  | .str _ :: _, _, _, e, _ => by cases e
  | .lst _ :: _, _, _, e, _ => by cases e
  | .tup _ :: _, _, _, e, _ => by cases e
  | .dic _ :: _, _, _, e, _ => by cases e
  | .ref _ :: _, _, _, e, _ => by cases e
  | .exc _ _ :: _, _, _, e, _ => by cases e
  | .cls _ :: _, _, _, e, _ => by cases e
theorem kitAny_ty {K : PySem.W.Frag} {t : String} (h : t ∈ ["NoneType", "bool", "int", "str", "list", "tuple", "dict"]) : ∀ ns : List String, (∀ n ∈ ns, n ∈ tyNames) → PySem.W.kitAny K (.type t) (ns.map Value.type) = some (ns.any fun n => isTy t n)
  | [], _ => kitAny_nil
  | n :: ns, hn => by
    refine kitAny_cons (kit_ty (kit_of_ty h (hn n List.mem_cons_self))) (fun e => ?_) fun e => ?_
    · rw [List.any_cons, e, Bool.false_or]
      exact kitAny_ty h ns fun m hm => hn m (List.mem_cons_of_mem _ hm)
    · rw [List.any_cons, e, Bool.true_or]
theorem call_isiU : CallR X (.builtin "isinstance") (lCR X.K gIsi) := by
  intro pins s σ H xs us Q I rx ⟨O, ds, P, tr, ha, hg, hP⟩
  unfold gIsi at hg
  split at hg
  · rename_i x n
    obtain ⟨⟨h1, h2⟩, hg⟩ := hg
    obtain ⟨t, ht⟩ := Option.isSome_iff_exists.mp h1
    cases ha with
    | cons h a => cases a with
      | cons h' a =>
        cases a
        cases h'
        refine call_isi pins s σ H _ us Q I rx ⟨_, _, _, _, _, rfl, .ty n, h.tyx ht, kit_ty (kit_of_ty (tyn_in ht) h2), ?_⟩
        unfold isD at hg
        rw [ht] at hg
        exact hP _ hg _ _ (Same.refl _) (.bl _)
  · rename_i x cs
    split at hg
    · rename_i ns e
      obtain ⟨⟨h1, h2⟩, hg⟩ := hg
      obtain ⟨t, ht⟩ := Option.isSome_iff_exists.mp h1
      cases ha with
      | cons h a => cases a with
        | cons h' a =>
          cases a
          cases h' with
          | tup l a' =>
            have hq : P (.bl (ns.any fun n => isTy t n)) := by
              have e2 : isD x = fun n => isTy t n := by
                funext n
                unfold isD
                rw [ht]
              rw [e2] at hg
              exact hg
            rcases l with l | ⟨o, its, n, k1, k2, k3, _, k5⟩
            · exact call_isiT pins s σ H _ us Q I rx ⟨_, _, _, _, _, _, rfl, l.2, tyOf_ok e a', h.tyx ht, kitAny_ty (tyn_in ht) ns h2, hP _ hq _ _ (Same.refl _) (.bl _)⟩
            · obtain ⟨oc, od, dt, sl⟩ := o
              simp only at k2 k3
              subst k2 k3
              have e3 := ClsV.all (tyOf_ok e a') k5
              refine call_isiK pins s σ H _ us Q I rx ⟨_, _, od, ns.map Value.type, n, sl, _, _, rfl, ?_, h.tyx ht, kitAny_ty (tyn_in ht) ns h2, hP _ hq _ _ (Same.refl _) (.bl _)⟩
              rw [k1, ← e3]
    · exact hg.elim
  · exact hg.elim
end
end U

set_option Elab.async false
set_option linter.all false
set_option maxRecDepth 100000
set_option maxHeartbeats 4000000
/-! Calls of defs, statements, a def's promise, over data. -/
namespace U
open PySem PySem.Spec L2
open PyProof.Rows hiding St

/-- an exception: its class; the field and its value, if it has its own dict -/
structure UX where
  cls : Cn
  fld : Option (List (Str × D))
abbrev USp := List D → PenT → Nat → (D → Nat → Prop) → (UX → Nat → Prop) → Prop
def XRp (K : PySem.W.Frag) (O : Ad) (H : Hp) (x : UX) (d : Option Addr) : Prop := match x.fld with
  | none => d = none
  | some fs => ∃ a vs, d = some a ∧ ¬ O a ∧ H a = some (.xd vs) ∧ RpF K O H vs fs
theorem XRp.keep {K : PySem.W.Frag} {O O' : Ad} {H H' : Hp} {x : UX} {d : Option Addr} (k : Keeps O O' H H') (h : XRp K O H x d) : XRp K O' H' x d := by
  unfold XRp at h ⊢
  split
  · rename_i e
    rw [e] at h
    exact h
  · rename_i fs e
    rw [e] at h
    obtain ⟨a, vs, e1, n, e2, r⟩ := h
    exact ⟨a, vs, e1, k.ow _ _ e2 n, k.hp _ _ e2 n, r.keep k⟩
/-- what a def promises, over data -/
def LSp (K : PySem.W.Frag) (usp : USp) : Sp := fun vs H Q E => ∃ (ds : List D) (O : Ad) (pen : PenT) (n : Nat) (P : D → Nat → Prop) (PX : UX → Nat → Prop),
  RpA K O H vs ds ∧ (∀ b, O b → H b ≠ none) ∧ (∀ p, IsPen pen p → O p) ∧ Pen O H pen n ∧ usp ds pen n P PX ∧
  (∀ d m, P d m → ∀ v H', Frm pen H H' → Pen O H' pen m → Rp K O H' v d → Q v H') ∧
  ∀ x m, PX x m → ∀ d H', Frm pen H H' → Pen O H' pen m → XRp K O H' x d → E (x.cls.val K) d H'
/-- the wish about exceptions at the caller's slots -/
abbrev WU := UX → Ro → Prop
def LW (K : PySem.W.Frag) (O0 : Ad) (H0 : Hp) (W : WU) : WX := fun cls d σ H => ∃ (ρ : Ro) (x : UX), R K O0 H0 σ H ρ ∧ x.cls.val K = cls ∧ XRp K (OO O0 ρ) H x d ∧ W x ρ
abbrev W0 : WU := fun _ _ => False
theorem takesN {X : Cx} {O0 : Ad} {H0 : Hp} : Takes X (LW X.K O0 H0 W0) := (takes0 (X := X)).imp fun _ _ _ _ ⟨_, _, _, _, _, z⟩ => z
def uCall (usp : USp) (dfl : List D) (W : WU) (a : UA) : UE := fun ρ Q => a ρ fun ds n => usp (ds ++ dfl) ρ.pen n Q fun x m => W x (ρ.f m)
section
variable {X : Cx} {O0 : Ad} {H0 : Hp} {a b c e : Expr} {ua ub uc : UE} {pos p : Pos} {W : WU}
theorem call_data {usp : USp} {σ : L2.St} {H1 : Hp} {Q : VK} {ρ : Ro} {vs : List V} {ds : List D} {n : Nat} {P : D → Nat → Prop}
    (r1 : R X.K O0 H0 σ H1 (ρ.f n)) (p1 : RpA X.K (OO O0 ρ) H1 vs ds) (hu : usp ds ρ.pen n P fun x m => W x (ρ.f m))
    (hQ : ∀ d m, P d m → ∀ v H', R X.K O0 H0 σ H' (ρ.f m) → Frm ρ.pen H1 H' → Rp X.K (OO O0 ρ) H' v d → Q v H') : LSp X.K usp vs H1 Q (WE (LW X.K O0 H0 W) σ) := by
  refine ⟨ds, OO O0 ρ, ρ.pen, n, P, _, p1, r1.tr, fun p e => OO.pen p e, r1.pen, hu, fun d m hd v H' fr pn rp => ?_, fun x m hx d H' fr pn xr => ?_⟩
  · exact hQ d m hd v H' (r1.call (n := m) fr pn) fr rp
  · exact ⟨ρ.f m, x, r1.call (n := m) fr pn, rfl, xr, hx⟩
theorem up_call {k : Nat} {f : Addr} {fd : FuncData} {ps : List Str} {usp : USp} {dfl : List D} {dvs : List V} {dus : List Value} {x : Str} {es : List Expr} {u : UA}
    (F : FnG X.prog X.w X.K X.mg X.base k f fd ps (LSp X.K usp)) (hr : RG k X.A) (hg : Gl X x) (hm : X.mg x = some (.ref f)) (hk : PySem.W.keepIn X.K (.ref f) = true)
    (hb : Binds X.K fd ps dus) (hd : Vals dvs dus) (hdf : ∀ O H, RpA X.K O H dvs dfl) (tk : Takes X (LW X.K O0 H0 W)) (ha : UPL X O0 H0 (e :: es) u)
    (hdb : (x == ("__debug__" : Str)) = false := by decide) (he : starEach (e :: es) X.env = (false, eval e X.env) :: starEach es X.env := by rfl) (hpl : (backTo pos (starEach es X.env)).any (·.1) = false := by rfl) :
    UPE X O0 H0 (.Call (.Name x p) (e :: es) [] pos) (uCall usp dfl W u) := by
  obtain ⟨t, ht, hi⟩ := ha
  refine ⟨fun pins s σ H Q I ⟨ρ, P, r, hu, hP⟩ => ?_⟩
  refine wpAny_Call_Name_kw (ld_glob I hg hm ?_ hdb)
  refine PySem.W.callWith_K (h₀ := X.base) I.ok.mod.kin hk (thn (ht.run pos pins s σ H (fun vs H1 => LSp X.K usp (vs ++ dvs) H1 Q (WE (LW X.K O0 H0 W) σ)) I ?_) ?_) he hpl
  · refine hi σ H _ ⟨ρ, _, r, hu, fun ds n hds vs H1 r1 f1 p1 _ => ?_⟩
    exact call_data (ρ := ρ) r1 (p1.append (hdf _ _)) hds fun d m hd' v H' r2 f2 rp => hP d m hd' v H' r2 (f1.trans f2) rp
  · rintro us s1 ⟨vs, H1, I1, rv, q⟩
    refine ⟨I1.kIn, ?_⟩
    have r2 := rv.append hd
    have hl : (us ++ dus).length = ps.length := by rw [← r2.length]; exact F.len _ _ _ _ q
    exact run_fnG (args := ⟨us, []⟩) F hr (passAt tk σ) I1 (hb s1 us I1.kIn hl) r2 q
/-- f() -/
theorem up_call0 {k : Nat} {f : Addr} {fd : FuncData} {ps : List Str} {usp : USp} {dfl : List D} {dvs : List V} {dus : List Value} {x : Str}
    (F : FnG X.prog X.w X.K X.mg X.base k f fd ps (LSp X.K usp)) (hr : RG k X.A) (hg : Gl X x) (hm : X.mg x = some (.ref f)) (hk : PySem.W.keepIn X.K (.ref f) = true)
    (hb : Binds X.K fd ps dus) (hd : Vals dvs dus) (hdf : ∀ O H, RpA X.K O H dvs dfl) (tk : Takes X (LW X.K O0 H0 W)) (hdb : (x == ("__debug__" : Str)) = false := by decide) :
    UPE X O0 H0 (.Call (.Name x p) [] [] pos) (uCall usp dfl W uNil) := by
  refine ⟨fun pins s σ H Q I ⟨ρ, P, r, hu, hP⟩ => ?_⟩
  refine wpAny_Call_Name_kw (ld_glob I hg hm ?_ hdb)
  have q : LSp X.K usp ([] ++ dvs) H Q (WE (LW X.K O0 H0 W) σ) := call_data (ρ := ρ) (ds := [] ++ dfl) r ((RpA.nil).append (hdf _ _)) hu fun d m hd' v H' r2 f2 rp => hP d m hd' v H' r2 f2 rp
  have hl : ([] ++ dus).length = ps.length := by
    have r2 := Vals.append (.nil : Vals [] []) hd
    rw [← r2.length]; exact F.len _ _ _ _ q
  exact PySem.W.callWith_K0 I.kIn hk (run_fnG (args := ⟨[], []⟩) (us' := [] ++ dus) F hr (passAt tk σ) I (hb s [] I.kIn hl) (Vals.append (.nil : Vals [] []) hd) q)

/-! ### statements -/
/-- nx: what follows; rt: what is handed back; rf: a list that is handed back and is no one else's -/
structure UEnds where
  nx : Ro → Prop
  rt : D → Nat → Prop
  rf : List D → Nat → Prop := fun _ _ => False
  bk : Ro → Prop := fun _ => False
  ct : Ro → Prop := fun _ => False
abbrev US := UEnds → Ro → Prop
/-- from ρ, H on: what was read stays readable, the pen is the same one -/
structure Tr (O0 : Ad) (ρ : Ro) (H : Hp) (ρ' : Ro) (H' : Hp) : Prop where
  ks : Keeps (OO O0 ρ) (OO O0 ρ') H H'
  pn : ρ'.pen = ρ.pen
theorem Tr.refl {ρ : Ro} {H : Hp} : Tr O0 ρ H ρ H := ⟨.refl, rfl⟩
theorem Tr.trans {ρ ρ1 ρ2 : Ro} {H H1 H2 : Hp} (a : Tr O0 ρ H ρ1 H1) (b : Tr O0 ρ1 H1 ρ2 H2) : Tr O0 ρ H ρ2 H2 := ⟨a.ks.trans b.ks, b.pn.trans a.pn⟩
theorem Tr.frm {ρ : Ro} {n : Nat} {H H' : Hp} (f : Frm ρ.pen H H') : Tr O0 ρ H (ρ.f n) H' := ⟨Frm.keepsO (ρ := ρ) f, rfl⟩
/-- what is handed back is taken -/
structure RtOk (K : PySem.W.Frag) (O0 : Ad) (H0 : Hp) (pen : PenT) (E : UEnds) (D : Ends) : Prop where
  d : ∀ d n, E.rt d n → ∀ v H', Frm pen H0 H' → Pen (fun b => O0 b ∨ IsPen pen b) H' pen n → Rp K (fun b => O0 b ∨ IsPen pen b) H' v d → D.rt v H'
  f : ∀ ds n, E.rf ds n → ∀ a H', H0 a = none → Frm pen H0 H' → Pen (fun b => (O0 b ∨ IsPen pen b) ∨ b = a) H' pen n → (∃ xs, H' a = some (.lst xs) ∧ RpA K (fun b => (O0 b ∨ IsPen pen b) ∨ b = a) H' xs ds) → D.rt (.ref a) H'
def lS (K : PySem.W.Frag) (O0 : Ad) (H0 : Hp) (u : US) : TS := fun D σ H => ∃ (ρ : Ro) (E : UEnds), R K O0 H0 σ H ρ ∧ u E ρ ∧
  (∀ ρ', E.nx ρ' → ∀ σ' H', R K O0 H0 σ' H' ρ' → Tr O0 ρ H ρ' H' → D.nx σ' H') ∧
  (∀ ρ', E.bk ρ' → ∀ σ' H', R K O0 H0 σ' H' ρ' → Tr O0 ρ H ρ' H' → D.bk σ' H') ∧
  (∀ ρ', E.ct ρ' → ∀ σ' H', R K O0 H0 σ' H' ρ' → Tr O0 ρ H ρ' H' → D.ct σ' H') ∧
  RtOk K O0 H0 ρ.pen E D
theorem RtOk.at_ {K : PySem.W.Frag} {O0 : Ad} {H0 : Hp} {pen pen' : PenT} {E : UEnds} {D : Ends} (h : RtOk K O0 H0 pen E D) (e : pen' = pen) : RtOk K O0 H0 pen' E D := by
  subst e
  exact h
abbrev UPS (X : Cx) (O0 : Ad) (H0 : Hp) (s : Stmt) (u : US) : Prop := PS X s (lS X.K O0 H0 u)
abbrev UPB (X : Cx) (O0 : Ad) (H0 : Hp) (s : List Stmt) (u : US) : Prop := PSs X s (lS X.K O0 H0 u)
theorem Pen.less {O O' : Ad} {H : Hp} {pen : PenT} {n : Nat} (h : Pen O H pen n) (hO : ∀ b, O' b → O b) : Pen O' H pen n := fun p c e => by
  obtain ⟨ns, t, r, h1, h2, h3, h4⟩ := h p c e
  exact ⟨ns, t, r, h1, h2, fun z => h3 (hO _ z), h4⟩
def uSkip : US := fun E ρ => E.nx ρ
def uSeq (a b : US) : US := fun E ρ => a { E with nx := b E } ρ
def uRet (u : UE) : US := fun E ρ => u ρ E.rt
def uRetN : US := fun E ρ => E.rt .non ρ.fuel
def uIfS (c : UT) (a b : US) : US := fun E ρ => c ρ fun k n => if k = true then a E (ρ.f n) else b E (ρ.f n)
def uDrop (u : UE) : US := fun E ρ => u ρ fun _ n => E.nx (ρ.f n)
def uBrk : US := fun E ρ => E.bk ρ
def uCnt : US := fun E ρ => E.ct ρ
def uNever : US := fun _ _ => False
variable {st : Stmt} {rest : List Stmt} {u u' : US}
theorem ub_nil : UPB X O0 H0 [] uSkip := PSs.imp pss_nil fun σ H D ⟨ρ, E, r, hu, hn, _⟩ => hn ρ hu σ H r Tr.refl
theorem ub_cons (h1 : UPS X O0 H0 st u) (h2 : UPB X O0 H0 rest u') : UPB X O0 H0 (st :: rest) (uSeq u u') := PSs.imp (pss_cons h1 h2) fun σ H D ⟨ρ, E, r, hu, hn, hb, hc, hr⟩ => by
  refine ⟨ρ, _, r, hu, fun ρ' hx σ' H' r' t' => ?_, hb, hc, ⟨hr.d, hr.f⟩⟩
  refine ⟨ρ', E, r', hx, fun ρ2 h2 σ2 H2 r2 t2 => hn ρ2 h2 σ2 H2 r2 (t'.trans t2), fun ρ2 h2 σ2 H2 r2 t2 => hb ρ2 h2 σ2 H2 r2 (t'.trans t2), fun ρ2 h2 σ2 H2 r2 t2 => hc ρ2 h2 σ2 H2 r2 (t'.trans t2), ⟨(hr.at_ t'.pn).d, (hr.at_ t'.pn).f⟩⟩
theorem ub_one (h1 : UPS X O0 H0 st u) : UPB X O0 H0 [st] u := pss_one h1
theorem ub_never {sts : List Stmt} : UPB X O0 H0 sts uNever := PSs.imp pss_never fun _ _ _ ⟨_, _, _, z, _⟩ => z.elim
theorem us_never : UPS X O0 H0 st uNever := PS.imp ps_never fun _ _ _ ⟨_, _, _, z, _⟩ => z.elim
theorem us_pass : UPS X O0 H0 (.Pass pos) uSkip := PS.imp ps_pass fun σ H D ⟨ρ, E, r, hu, hn, _⟩ => hn ρ hu σ H r Tr.refl
theorem us_brk : UPS X O0 H0 (.Break pos) uBrk := PS.imp ps_break fun σ H D ⟨ρ, E, r, hu, hn, hb, _⟩ => hb ρ hu σ H r Tr.refl
theorem us_cnt : UPS X O0 H0 (.Continue pos) uCnt := PS.imp ps_continue fun σ H D ⟨ρ, E, r, hu, hn, hb, hc, _⟩ => hc ρ hu σ H r Tr.refl
theorem R.out {K : PySem.W.Frag} {σ : L2.St} {H : Hp} {ρ : Ro} {n : Nat} (r : R K O0 H0 σ H (ρ.f n)) {v : V} {d : D} (rp : Rp K (OO O0 ρ) H v d) :
    Frm ρ.pen H0 H ∧ Pen (fun b => O0 b ∨ IsPen ρ.pen b) H ρ.pen n ∧ Rp K (fun b => O0 b ∨ IsPen ρ.pen b) H v d := by
  have le : ∀ b, (O0 b ∨ IsPen ρ.pen b) → OO O0 ρ b := fun b h => h.elim .inl fun h => .inr (.inl h)
  exact ⟨r.fr, r.pen.less le, rp.keep (.less le)⟩
theorem us_ret (h : UPE X O0 H0 e ua) : UPS X O0 H0 (.Return (some e) pos) (uRet ua) := PS.imp (ps_ret h) fun σ H D ⟨ρ, E, r, hu, hn, hb, hc, hr⟩ =>
  ⟨ρ, _, r, hu, fun d n hd v H1 r1 f1 p1 => let ⟨a, b, c⟩ := r1.out p1; hr.d d n hd v H1 a b c⟩
theorem us_retN : UPS X O0 H0 (.Return none pos) uRetN := PS.imp ps_retN fun σ H D ⟨ρ, E, r, hu, hn, hb, hc, hr⟩ =>
  let ⟨a, b, c⟩ := r.out (ρ := ρ) (n := ρ.fuel) (v := .non) (d := .non) .non; hr.d .non ρ.fuel hu .non H a b c
theorem us_drop (h : UPE X O0 H0 e ua) (hs : swapsWith e none pos.line X.env = pure false := by rfl) : UPS X O0 H0 (.Expr e pos) (uDrop ua) := PS.imp (ps_expr h hs) fun σ H D ⟨ρ, E, r, hu, hn, _⟩ =>
  ⟨ρ, _, r, hu, fun d n hd v H1 r1 f1 p1 => hn (ρ.f n) hd σ H1 r1 (Tr.frm f1)⟩
theorem us_if {A B : List Stmt} {tc : UT} (hc : UPT X O0 H0 c tc) (ha : UPB X O0 H0 A u) (hb : UPB X O0 H0 B u') : UPS X O0 H0 (.If c A B pos) (uIfS tc u u') := PS.imp (ps_if hc ha hb) fun σ H D ⟨ρ, E, r, hu, hn, hb, hc, hr⟩ => by
  refine ⟨ρ, _, r, hu, fun k n hk H1 r1 f1 => ?_⟩
  have t1 : Tr O0 ρ H (ρ.f n) H1 := Tr.frm f1
  have go : ∀ {w : US}, w E (ρ.f n) → lS X.K O0 H0 w D σ H1 := fun hw =>
    ⟨ρ.f n, E, r1, hw, fun ρ2 h2 σ2 H2 r2 t2 => hn ρ2 h2 σ2 H2 r2 (t1.trans t2), fun ρ2 h2 σ2 H2 r2 t2 => hb ρ2 h2 σ2 H2 r2 (t1.trans t2), fun ρ2 h2 σ2 H2 r2 t2 => hc ρ2 h2 σ2 H2 r2 (t1.trans t2), hr⟩
  cases k with
  | true => exact iteT (go hk)
  | false => exact iteF (go hk)
end
end U

set_option Elab.async false
set_option linter.all false
set_option maxRecDepth 100000
set_option maxHeartbeats 4000000
/-! Stores, loops, comprehensions, over data. -/
namespace U
open PySem PySem.Spec L2
open PyProof.Rows hiding St
section
variable {K : PySem.W.Frag} {O0 : Ad} {H0 H H' : Hp} {σ : L2.St} {ρ : Ro}
theorem OO.put_dat {i : Nat} {d : D} {b : Addr} (h : OO O0 (ρ.put i (.dat d)) b) : OO O0 ρ b := by
  rcases h with h | h | ⟨j, ds, h⟩
  · exact .inl h
  · exact .inr (.inl h)
  · have h' : (ρ.sl.set i (.dat d))[j]? = some (.own b ds) := h
    rw [List.getElem?_set] at h'
    split at h'
    · split at h' <;> cases h'
    · exact .inr (.inr ⟨j, ds, h'⟩)
theorem set_some {α : Type} {l : List α} {i j : Nat} {x y : α} (h : (l.set i x)[j]? = some y) : (i = j ∧ y = x ∧ i < l.length) ∨ (i ≠ j ∧ l[j]? = some y) := by
  rw [List.getElem?_set] at h
  split at h
  · rename_i e
    split at h
    · rename_i hl
      exact .inl ⟨e, (Option.some.inj h).symm, hl⟩
    · cases h
  · rename_i e
    exact .inr ⟨e, h⟩
/-- a slot gets data -/
theorem R.put (r : R K O0 H0 σ H ρ) {i : Nat} {v : V} {d : D} (rp : Rp K (OO O0 ρ) H v d) : R K O0 H0 (σ.set i (some v)) H (ρ.put i (.dat d)) := by
  have le : ∀ b, OO O0 (ρ.put i (.dat d)) b → OO O0 ρ b := fun b h => OO.put_dat h
  refine ⟨by rw [List.length_set]; show _ = (ρ.sl.set i _).length; rw [List.length_set]; exact r.len, fun j e h => ?_, fun j a ds h => ?_, fun j k a ds es h1 h2 => ?_, r.fr, fun b h => r.tr b (le b h), fun p c e => ?_⟩
  · rcases set_some h with ⟨e1, e2, hl⟩ | ⟨e1, e2⟩
    · subst e1
      cases e2
      refine ⟨v, ?_, rp.keep (.less le)⟩
      rw [List.getElem?_set_self (by rw [r.len]; exact hl)]
    · obtain ⟨w, h1, h2⟩ := r.dat j e e2
      exact ⟨w, by rw [List.getElem?_set_ne e1]; exact h1, h2.keep (.less le)⟩
  · rcases set_some h with ⟨e1, e2, hl⟩ | ⟨e1, e2⟩
    · cases e2
    · obtain ⟨h1, h2, h3, h4, h5⟩ := r.own j a ds e2
      exact ⟨by rw [List.getElem?_set_ne e1]; exact h1, h2, h3, h4, h5.keep (.less le) fun _ q => q⟩
  · rcases set_some h1 with ⟨e1, e2, _⟩ | ⟨_, e1⟩
    · cases e2
    · rcases set_some h2 with ⟨e3, e4, _⟩ | ⟨_, e3⟩
      · cases e4
      · exact r.inj j k a ds es e1 e3
  · obtain ⟨ns, t, q, h1, h2, h3, h4⟩ := r.pen p c e
    exact ⟨ns, t, q, h1, h2, fun z => h3 (le _ z), h4⟩
theorem Tr.put {i : Nat} {d : D} : Tr O0 ρ H (ρ.put i (.dat d)) H := ⟨.less fun b h => OO.put_dat h, rfl⟩
/-- a new list, in no one's hands yet -/
structure New (K : PySem.W.Frag) (O0 : Ad) (ρ : Ro) (H : Hp) (n : Nat) (c : OC) (a : Addr) (H' : Hp) : Prop where
  new : H a = none
  fr : Frm ρ.pen H H'
  pen : Pen (fun b => OO O0 ρ b ∨ b = a) H' ρ.pen n
  at_ : OwnC K (fun b => OO O0 ρ b ∨ b = a) H' a c
theorem New.r {n : Nat} {ds : OC} {a : Addr} (w : New K O0 ρ H n ds a H') (r : R K O0 H0 σ H ρ) : R K O0 H0 σ H' (ρ.f n) := r.call w.fr (w.pen.less fun b h => .inl h)
theorem New.rp {n : Nat} {ds : List D} {a : Addr} (w : New K O0 ρ H n ds a H') (r : R K O0 H0 σ H ρ) : Rp K (OO O0 ρ) H' (.ref a) (.lst ds) := by
  obtain ⟨xs, h1, h2⟩ := w.at_
  exact .lst ⟨r.fresh w.new, h1⟩ (h2.keep (.less fun b h => .inl h))
/-- a slot gets a list that is its own -/
theorem New.put {n : Nat} {ds : OC} {a : Addr} (w : New K O0 ρ H n ds a H') (r : R K O0 H0 σ H ρ) {i : Nat} (hi : i < σ.length) : R K O0 H0 (σ.set i (some (.ref a))) H' ((ρ.f n).put i (.own a ds)) ∧ Tr O0 ρ H ((ρ.f n).put i (.own a ds)) H' := by
  have r1 := w.r r
  have nO : ¬ OO O0 ρ a := r.fresh w.new
  have hl : i < ρ.sl.length := by rw [← r.len]; exact hi
  have le : ∀ b, OO O0 ((ρ.f n).put i (.own a ds)) b → OO O0 ρ b ∨ b = a := fun b h => by
    rcases h with h | h | ⟨j, es, h⟩
    · exact .inl (.inl h)
    · exact .inl (.inr (.inl h))
    · rcases set_some h with ⟨_, e2, _⟩ | ⟨_, e2⟩
      · cases e2; exact .inr rfl
      · exact .inl (.inr (.inr ⟨j, es, e2⟩))
  -- what was readable ahead stays readable
  have k0 : Keeps (OO O0 ρ) (OO O0 ((ρ.f n).put i (.own a ds))) H H' := ⟨fun b o h nb => w.fr b o h fun z => nb (OO.pen b z), fun b o h nb z => (le b z).elim nb fun e => by
    rw [e, w.new] at h
    cases h⟩
  refine ⟨⟨?_, fun j e h => ?_, fun j c es h => ?_, fun j k c es fs h1 h2 => ?_, r1.fr, fun b h => ?_, fun p c e => ?_⟩, ⟨k0, rfl⟩⟩
  · show _ = (ρ.sl.set i _).length
    rw [List.length_set, List.length_set]; exact r.len
  · rcases set_some h with ⟨_, e2, _⟩ | ⟨e1, e2⟩
    · cases e2
    · obtain ⟨v, h1, h2⟩ := r.dat j e e2
      exact ⟨v, by rw [List.getElem?_set_ne e1]; exact h1, h2.keep k0⟩
  · rcases set_some h with ⟨e1, e2, _⟩ | ⟨e1, e2⟩
    · cases e2
      subst e1
      refine ⟨by rw [List.getElem?_set_self hi], fun z => nO (.inl z), ?_, fun z => nO (OO.pen _ z), w.at_.keep (.less le) fun _ q => q⟩
      cases q : H0 a with
      | none => rfl
      | some u =>
        have := r.fr a u q fun z => nO (OO.pen _ z)
        rw [w.new] at this
        cases this
    · obtain ⟨h1, h2, h3, h4, h5⟩ := r.own j c es e2
      exact ⟨by rw [List.getElem?_set_ne e1]; exact h1, h2, h3, h4, h5.keep k0 fun o q => w.fr _ _ q h4⟩
  · have un : ∀ {j : Nat} {es : OC}, ρ.sl[j]? = some (.own a es) → False := fun h => nO (.inr (.inr ⟨_, _, h⟩))
    rcases set_some h1 with ⟨a1, a2, _⟩ | ⟨_, a1⟩
    · rcases set_some h2 with ⟨b1, _, _⟩ | ⟨_, b1⟩
      · rw [← a1, ← b1]
      · cases a2; exact (un b1).elim
    · rcases set_some h2 with ⟨b1, b2, _⟩ | ⟨_, b1⟩
      · cases b2; exact (un a1).elim
      · exact r.inj j k c es fs a1 b1
  · rcases le b h with z | z
    · exact r1.tr b z
    · obtain ⟨o, hx⟩ := w.at_.some
      rw [z, hx]; simp
  · obtain ⟨ns, t, q, h1, h2, h3, h4⟩ := w.pen p c e
    exact ⟨ns, t, q, h1, h2, fun z => h3 (le _ z), h4⟩
/-- what an object of one's own holds -/
def OwnO (K : PySem.W.Frag) (O : Ad) (H : Hp) (o : HO) : OC → Prop
  | .l ds => ∃ xs, o = .lst xs ∧ RpA K O H xs ds
  | .d es => ∃ kvs, o = .dK kvs ∧ RpK K O H kvs es
theorem R.setO (r : R K O0 H0 σ H ρ) {i : Nat} {a : Addr} {ds es : OC} {o0 : HO} (h : ρ.sl[i]? = some (.own a ds)) (ry : OwnO K (OO O0 ρ) H o0 es) :
    R K O0 H0 σ (upd H a o0) (ρ.put i (.own a es)) ∧ Tr O0 ρ H (ρ.put i (.own a es)) (upd H a o0) := by
  obtain ⟨s1, nO, n0, np, _⟩ := r.own i a ds h
  have hO : OO O0 ρ a := .inr (.inr ⟨i, ds, h⟩)
  have hl : i < ρ.sl.length := (List.getElem?_eq_some_iff.mp h).1
  have eq : ∀ b, OO O0 (ρ.put i (.own a es)) b → OO O0 ρ b := fun b z => by
    rcases z with z | z | ⟨j, fs, z⟩
    · exact .inl z
    · exact .inr (.inl z)
    · rcases set_some z with ⟨_, e2, _⟩ | ⟨_, e2⟩
      · cases e2; exact hO
      · exact .inr (.inr ⟨j, fs, e2⟩)
  have k0 : Keeps (OO O0 ρ) (OO O0 (ρ.put i (.own a es))) H (upd H a o0) := ⟨fun b o q nb => by
    rw [upd_ne (fun e => nb (by rw [e]; exact hO))]
    exact q, fun b o q nb z => nb (eq b z)⟩
  refine ⟨⟨?_, fun j e q => ?_, fun j c fs q => ?_, fun j k c fs gs q1 q2 => ?_, fun b o q nb => ?_, fun b z => ?_, fun p c e => ?_⟩, ⟨k0, rfl⟩⟩
  · show _ = (ρ.sl.set i _).length
    rw [List.length_set]; exact r.len
  · rcases set_some q with ⟨_, e2, _⟩ | ⟨_, e2⟩
    · cases e2
    · obtain ⟨v, h1, h2⟩ := r.dat j e e2
      exact ⟨v, h1, h2.keep k0⟩
  · rcases set_some q with ⟨e1, e2, _⟩ | ⟨e1, e2⟩
    · cases e2
      subst e1
      refine ⟨s1, nO, n0, np, ?_⟩
      cases es with
      | l ds => exact let ⟨ys, e, q⟩ := ry; ⟨ys, by rw [upd_same, e], q.keep k0⟩
      | d ds => exact let ⟨ys, e, q⟩ := ry; ⟨ys, by rw [upd_same, e], RpK.keep k0 q⟩
    · obtain ⟨h1, h2, h3, h4, h5⟩ := r.own j c fs e2
      have ne : c ≠ a := fun e => e1 (r.inj i j a ds fs h (by rw [← e]; exact e2))
      exact ⟨h1, h2, h3, h4, h5.keep k0 fun o q => by rw [upd_ne ne]; exact q⟩
  · have back : ∀ {j : Nat} {fs : OC}, (ρ.put i (.own a es)).sl[j]? = some (.own c fs) → ∃ gs, ρ.sl[j]? = some (.own c gs) := fun {j fs} q => by
      rcases set_some q with ⟨e1, e2, _⟩ | ⟨_, e2⟩
      · cases e2
        rw [← e1]
        exact ⟨ds, h⟩
      · exact ⟨fs, e2⟩
    obtain ⟨g1, b1⟩ := back q1
    obtain ⟨g2, b2⟩ := back q2
    exact r.inj j k c g1 g2 b1 b2
  · rw [upd_ne (fun e => by rw [e, n0] at q; cases q)]
    exact r.fr b o q nb
  · by_cases e : b = a
    · rw [e, upd_same]; simp
    · rw [upd_ne e]; exact r.tr b (eq b z)
  · obtain ⟨ns, t, q, h1, h2, h3, h4⟩ := r.pen p c e
    have pa : p ≠ a := fun z => np ⟨c, by rw [← z]; exact e⟩
    have ca : c.c ≠ a := fun z => h3 (by rw [z]; exact hO)
    exact ⟨ns, t, q, by rw [upd_ne pa]; exact h1, by rw [upd_ne ca]; exact h2, fun z => h3 (eq _ z), h4⟩
theorem R.setOwn (r : R K O0 H0 σ H ρ) {i : Nat} {a : Addr} {ds es : List D} {ys : List V} (h : ρ.sl[i]? = some (.own a ds)) (ry : RpA K (OO O0 ρ) H ys es) :
    R K O0 H0 σ (upd H a (.lst ys)) (ρ.put i (.own a es)) ∧ Tr O0 ρ H (ρ.put i (.own a es)) (upd H a (.lst ys)) := r.setO h ⟨ys, rfl, ry⟩
/-- an own list is let go -/
theorem R.thaw (r : R K O0 H0 σ H ρ) {i : Nat} {a : Addr} {ds : List D} (h : ρ.sl[i]? = some (.own a ds)) : R K O0 H0 σ H (ρ.put i (.dat (.lst ds))) ∧ Rp K (OO O0 (ρ.put i (.dat (.lst ds)))) H (.ref a) (.lst ds) := by
  obtain ⟨s1, nO, n0, np, xs, hx, rx⟩ := r.own i a ds h
  have le : ∀ b, OO O0 (ρ.put i (.dat (.lst ds))) b → OO O0 ρ b := fun b h => OO.put_dat h
  have na : ¬ OO O0 (ρ.put i (.dat (.lst ds))) a := fun z => by
    rcases z with z | z | ⟨j, es, z⟩
    · exact nO z
    · exact np z
    · rcases set_some z with ⟨_, e2, _⟩ | ⟨e1, e2⟩
      · cases e2
      · exact e1 (r.inj i j a ds es h e2)
  have ra : Rp K (OO O0 (ρ.put i (.dat (.lst ds)))) H (.ref a) (.lst ds) := .lst ⟨na, hx⟩ (rx.keep (.less le))
  refine ⟨⟨?_, fun j e q => ?_, fun j c es q => ?_, fun j k c es fs q1 q2 => ?_, r.fr, fun b z => r.tr b (le b z), fun p c e => ?_⟩, ra⟩
  · show _ = (ρ.sl.set i _).length
    rw [List.length_set]; exact r.len
  · rcases set_some q with ⟨e1, e2, _⟩ | ⟨_, e2⟩
    · subst e1
      cases e2
      exact ⟨.ref a, s1, ra⟩
    · obtain ⟨v, h1, h2⟩ := r.dat j e e2
      exact ⟨v, h1, h2.keep (.less le)⟩
  · rcases set_some q with ⟨_, e2, _⟩ | ⟨_, e2⟩
    · cases e2
    · obtain ⟨h1, h2, h3, h4, h5⟩ := r.own j c es e2
      exact ⟨h1, h2, h3, h4, h5.keep (.less le) fun _ q => q⟩
  · rcases set_some q1 with ⟨_, e2, _⟩ | ⟨_, e2⟩
    · cases e2
    · rcases set_some q2 with ⟨_, e4, _⟩ | ⟨_, e4⟩
      · cases e4
      · exact r.inj j k c es fs e2 e4
  · obtain ⟨ns, t, q, h1, h2, h3, h4⟩ := r.pen p c e
    exact ⟨ns, t, q, h1, h2, fun z => h3 (le _ z), h4⟩
mutual
/-- no list within -/
def D.noL : D → Bool
  | .lst _ => false
  | .dic _ => false
  | .exc _ _ => false
  | .tup ds => D.noLs ds
  | _ => true
def D.noLs : List D → Bool
  | [] => true
  | d :: ds => D.noL d && D.noLs ds
end
section
variable {O O' : Ad} {a : Addr} {xs : List V}
mutual
theorem Rp.noL (ha : H a = some (.lst xs)) (ho : ∀ b, O' b → O b ∨ b = a) : ∀ (d : D) (v : V), D.noL d = true → Rp K O H v d → Rp K O' H v d
  | .non, _, _, .non => .non
  | .bl _, _, _, .bl _ => .bl _
  | .int _, _, _, .int _ => .int _
  | .str _, _, _, .str _ => .str _
  | .ty _, _, _, .ty _ => .ty _
  | .cls _, _, _, .cls _ => .cls _
  | .exc _ _, _, h, _ => by simp [D.noL] at h
  | .ref _, _, _, .ref _ => .ref _
  | .lst _, _, h, _ => by simp [D.noL] at h
  | .dic _, _, h, _ => by simp [D.noL] at h
  | .tup ds, _, h, .tup l r => by
    refine .tup ?_ (RpA.noL ha ho ds _ (by simpa [D.noL] using h) r)
    rcases l with ⟨l1, l2⟩ | l
    · refine .inl ⟨fun z => ?_, l2⟩
      rcases ho _ z with z | z
      · exact l1 z
      · rw [z, ha] at l2; cases l2
    · exact .inr l
theorem RpA.noL (ha : H a = some (.lst xs)) (ho : ∀ b, O' b → O b ∨ b = a) : ∀ (ds : List D) (vs : List V), D.noLs ds = true → RpA K O H vs ds → RpA K O' H vs ds
  | [], _, _, .nil => .nil
  | d :: ds, _, h, .cons p q => by
    simp only [D.noLs, Bool.and_eq_true] at h
    exact .cons (Rp.noL ha ho d _ h.1 p) (RpA.noL ha ho ds _ h.2 q)
end
end
end
end U

set_option Elab.async false
set_option linter.all false
set_option maxRecDepth 100000
set_option maxHeartbeats 4000000
/-! Assignments, loops, comprehensions, over data: the rules. -/
namespace U
open PySem PySem.Spec L2
open PyProof.Rows hiding St

/-! ### targets -/
abbrev UG := D → Ro → (Ro → Prop) → Prop
def lG (K : PySem.W.Frag) (O0 : Ad) (H0 : Hp) (g : UG) : TG := fun v σ H Q => ∃ (ρ : Ro) (d : D) (P : Ro → Prop), R K O0 H0 σ H ρ ∧ Rp K (OO O0 ρ) H v d ∧ g d ρ P ∧
  ∀ ρ', P ρ' → ∀ σ', R K O0 H0 σ' H ρ' → Tr O0 ρ H ρ' H → Q σ' H
abbrev UPG (X : Cx) (O0 : Ad) (H0 : Hp) (tg : Expr) (g : UG) : Prop := PG X tg (lG X.K O0 H0 g)
theorem PG.imp {X : Cx} {e : Expr} {t t' : TG} (h : PG X e t) (hi : ∀ v σ H Q, t' v σ H Q → t v σ H Q) : PG X e t' := ⟨fun pins s σ H v u Q I r q => h.run pins s σ H v u Q I r (hi v σ H Q q)⟩
def ugN (i : Nat) : UG := fun d ρ Q => Q (ρ.put i (.dat d))
/-- the items of a tuple to the slots, from the left -/
def putAll : List Nat → List D → Ro → Option Ro
  | [], [], ρ => some ρ
  | i :: is, d :: ds, ρ => putAll is ds (ρ.put i (.dat d))
  | _, _, _ => none
def ugT (is : List Nat) : UG := fun d ρ Q => match d with
  | .tup ds => match putAll is ds ρ with
    | some ρ' => Q ρ'
    | none => False
  | _ => False
def gNames : List Nat → TGs
  | [] => gNil
  | i :: is => gCons (gName i) (gNames is)
section
variable {X : Cx} {O0 : Ad} {H0 : Hp} {a b c e : Expr} {ua ub uc : UE} {pos p : Pos} {W : WU}
theorem gn_ok {i : Nat} {v : V} {σ : L2.St} {H : Hp} {Q : L2.St → Hp → Prop} (h : lG X.K O0 H0 (ugN i) v σ H Q) : gName i v σ H Q := by
  obtain ⟨ρ, d, P, r, rp, hg, hP⟩ := h
  exact hP _ hg _ (r.put rp) Tr.put
theorem ug_name {i : Nat} {x : Str} (h : PG X (.Name x pos) (gName i)) : UPG X O0 H0 (.Name x pos) (ugN i) := PG.imp h fun _ _ _ _ q => gn_ok q
theorem gns_ok {K : PySem.W.Frag} {H : Hp} {Q : L2.St → Hp → Prop} {P : Ro → Prop} {ρ0 : Ro} : ∀ (is : List Nat) (ds : List D) (vs : List V) (ρ ρ' : Ro) (σ : L2.St), R K O0 H0 σ H ρ → Tr O0 ρ0 H ρ H → RpA K (OO O0 ρ) H vs ds → putAll is ds ρ = some ρ' → P ρ' →
    (∀ ρ', P ρ' → ∀ σ', R K O0 H0 σ' H ρ' → Tr O0 ρ0 H ρ' H → Q σ' H) → gNames is vs σ H Q
  | [], [], _, ρ, _, σ, r, t, .nil, e, hp, hP => by
    cases e
    exact ⟨rfl, hP ρ hp σ r t⟩
  | i :: is, d :: ds, _, ρ, ρ', σ, r, t, .cons h a, e, hp, hP => by
    refine ⟨_, _, rfl, ?_⟩
    exact gns_ok is ds _ (ρ.put i (.dat d)) ρ' _ (r.put h) (t.trans Tr.put) (a.keep Tr.put.ks) e hp hP
  | [], _ :: _, _, _, _, _, _, _, _, e, _, _ => by cases e
  | _ :: _, [], _, _, _, _, _, _, _, e, _, _ => by cases e
theorem putAll_len : ∀ (is : List Nat) (ds : List D) (ρ ρ' : Ro), putAll is ds ρ = some ρ' → ds.length = is.length
  | [], [], _, _, _ => rfl
  | i :: is, d :: ds, ρ, ρ', e => congrArg (· + 1) (putAll_len is ds _ ρ' e)
  | [], _ :: _, _, _, e => by cases e
  | _ :: _, [], _, _, e => by cases e
theorem gt_ok {is : List Nat} {n : Nat} (hn : is.length = n) {v : V} {σ : L2.St} {H : Hp} {Q : L2.St → Hp → Prop} (h : lG X.K O0 H0 (ugT is) v σ H Q) : gTup X.K n (gNames is) v σ H Q := by
  obtain ⟨ρ, d, P, r, rp, hg, hP⟩ := h
  cases rp with
  | tup l ra =>
    dsimp only [ugT] at hg
    split at hg
    · rename_i ρ' e
      refine ⟨_, _, rfl, l.sq, by rw [ra.length, ← hn]; exact putAll_len _ _ _ _ e, ?_⟩
      exact gns_ok is _ _ ρ ρ' σ r Tr.refl ra e hg hP
    · exact hg.elim
  | _ => exact hg.elim
theorem ug_tup {is : List Nat} {es : List Expr} {n k : Nat} (h : PG X (.Tuple es k pos) (gTup X.K n (gNames is))) (hn : is.length = n := by rfl) : UPG X O0 H0 (.Tuple es k pos) (ugT is) := PG.imp h fun _ _ _ _ q => gt_ok hn q

/-! ### assignments -/
def uSet (i : Nat) (u : UE) : US := fun E ρ => u ρ fun d n => E.nx ((ρ.f n).put i (.dat d))
def uAsg (u : UE) (g : UG) : US := fun E ρ => u ρ fun d n => g d (ρ.f n) E.nx
theorem us_asg {tg : Expr} {g : UG} (h : UPE X O0 H0 e ua) (hg : UPG X O0 H0 tg g) (hs : swapsWithSole [tg] e pos.line X.env = pure false := by rfl) (hw : swappedStores [tg] e X.env = pure none := by rfl)
    (h1 : (assignEach [tg] X.env).map (·.2) = [assign tg X.env] := by rfl) : UPS X O0 H0 (.Assign [tg] e pos) (uAsg ua g) := PS.imp (ps_asg h hg hs hw h1) fun σ H D ⟨ρ, E, r, hu, hn, hb, hc, hr⟩ =>
  ⟨ρ, _, r, hu, fun d n hd v H1 r1 f1 p1 => ⟨ρ.f n, d, _, r1, p1, hd, fun ρ' hp σ' r' t' => hn ρ' hp σ' H1 r' ((Tr.frm f1).trans t')⟩⟩
theorem us_set {i : Nat} {x : Str} {p' : Pos} (hN : X.N.Nodup) (hi : X.N[i]? = some x) (hx : Loc X.env.scope x) (h : UPE X O0 H0 e ua) (hs : swapsWith e (some (.Name x p')) pos.line X.env = pure false := by rfl) (hf : X.fn x = true ∨ X.env.scope.names.lookup x = some .local := by first | exact .inl rfl | exact .inr rfl | assumption) :
    UPS X O0 H0 (.Assign [.Name x p'] e pos) (uSet i ua) := PS.imp (ps_set hN hi hx h hs hf) fun σ H D ⟨ρ, E, r, hu, hn, hb, hc, hr⟩ =>
  ⟨ρ, _, r, hu, fun d n hd v H1 r1 f1 p1 => hn _ hd _ H1 (r1.put (ρ := ρ.f n) p1) ((Tr.frm f1).trans Tr.put)⟩
/-- x op= e, ints -/
def uAug (i : Nat) (u : UE) (f : Int → Int → Int) : US := fun E ρ => match ρ.sl[i]? with
  | some (.dat (.int x)) => u ρ fun d n => match d with
    | .int y => E.nx ((ρ.f n).put i (.dat (.int (f x y))))
    | _ => False
  | _ => False
theorem us_aug {i : Nat} {x : Str} {p' : Pos} {op : Operator} {f : Int → Int → Int} (hN : X.N.Nodup) (hi : X.N[i]? = some x) (hx : Loc X.env.scope x) (h : UPE X O0 H0 e ua) (ho : PIp X op (ipI f)) (hf : X.fn x = true ∨ X.env.scope.names.lookup x = some .local := by first | exact .inl rfl | exact .inr rfl | assumption) :
    UPS X O0 H0 (.AugAssign (.Name x p') op e pos) (uAug i ua f) := PS.imp (ps_aug hN hi hx h ho hf) fun σ H D ⟨ρ, E, r, hu, hn, hb, hc, hr⟩ => by
  dsimp only [uAug] at hu
  split at hu
  · rename_i z e1
    obtain ⟨v, e2, rv⟩ := r.dat i _ e1
    cases rv
    refine ⟨_, e2, ρ, _, r, hu, fun d n hd v H1 r1 f1 p1 => ?_⟩
    cases p1 with
    | int y => exact ⟨z, y, rfl, rfl, hn _ hd _ H1 (r1.put (ρ := ρ.f n) (.int _)) ((Tr.frm f1).trans Tr.put)⟩
    | _ => exact hd.elim
  · exact hu.elim

/-! ### lists of one's own -/
abbrev UF := Ro → (List D → Nat → Prop) → Prop
def lF (K : PySem.W.Frag) (O0 : Ad) (H0 : Hp) (u : UF) : TE := fun σ H Q => ∃ (ρ : Ro) (P : List D → Nat → Prop), R K O0 H0 σ H ρ ∧ u ρ P ∧ ∀ ds n, P ds n → ∀ a H', New K O0 ρ H n ds a H' → Q (.ref a) H'
abbrev UPF (X : Cx) (O0 : Ad) (H0 : Hp) (e : Expr) (u : UF) : Prop := PE X e (lF X.K O0 H0 u)
/-- a fresh list as a value -/
def uFr (u : UF) : UE := fun ρ Q => u ρ fun ds n => Q (.lst ds) n
theorem uf_val {u : UF} (h : UPF X O0 H0 e u) : UPE X O0 H0 e (uFr u) := PE.imp h fun σ H Q ⟨ρ, P, r, hu, hP⟩ =>
  ⟨ρ, _, r, hu, fun ds n hd a H' w => hP (.lst ds) n hd _ H' (w.r r) w.fr (w.rp r)⟩
theorem New.of_alloc {K : PySem.W.Frag} {ρ : Ro} {H H1 : Hp} {σ : L2.St} {n : Nat} {ds : List D} {vs : List V} {a : Addr} (r : R K O0 H0 σ H ρ) (r1 : R K O0 H0 σ H1 (ρ.f n)) (f1 : Frm ρ.pen H H1) (p1 : RpA K (OO O0 ρ) H1 vs ds) (hn : H1 a = none) : New K O0 ρ H n ds a (upd H1 a (.lst vs)) := by
  have sm := Same.new (o := HO.lst vs) hn
  have k : Keeps (OO O0 ρ) (fun b => OO O0 ρ b ∨ b = a) H1 (upd H1 a (.lst vs)) := ⟨fun b o h _ => sm b o h, fun b o h nb z => Or.elim z nb fun e => by rw [e, hn] at h; cases h⟩
  have z : H a = none := by
    cases q : H a with
    | none => rfl
    | some u => exact absurd hn (f1.there r1.pen (b := a) (by rw [q]; simp))
  refine ⟨z, f1.trans (.of sm), fun p c e => ?_, vs, upd_same, p1.keep k⟩
  obtain ⟨ns, t, q, h1, h2, h3, h4⟩ := r1.pen p c e
  exact ⟨ns, t, q, sm _ _ h1, sm _ _ h2, (fun z => Or.elim z h3 (fun e => (by rw [e, hn] at h2; cases h2))), h4⟩
def ufLst (a : UA) : UF := fun ρ Q => a ρ Q
theorem uf_lst {es : List Expr} {ur : UA} (h : UPL X O0 H0 es ur) (hl : es.length ≤ sizeLine := by decide) : UPF X O0 H0 (.List es pos) (ufLst ur) := by
  obtain ⟨t, ht, hi⟩ := h
  refine PE.imp (pe_lst ht) fun σ H Q ⟨ρ, P, r, hu, hP⟩ => hi σ H _ ⟨ρ, _, r, hu, fun ds n hd vs H1 r1 f1 p1 hn => ⟨by rw [hn]; exact hl, fun p hp => ?_⟩⟩
  exact hP ds n hd p _ (.of_alloc r r1 f1 p1 hp)
def uOwn (i : Nat) (u : UF) : US := fun E ρ => u ρ fun ds n => ∀ a, E.nx ((ρ.f n).put i (.own a ds))
theorem own_put {i : Nat} {u : UF} {σ : L2.St} {H : Hp} {D : Ends} (hi : i < X.N.length) (hl : σ.length = X.N.length) (h : lS X.K O0 H0 (uOwn i u) D σ H) : lF X.K O0 H0 u σ H fun x H1 => gName i x σ H1 D.nx := by
  obtain ⟨ρ, E, r, hu, hn, hb, hc, hr⟩ := h
  refine ⟨ρ, _, r, hu, fun ds n hd a H' w => ?_⟩
  obtain ⟨r', t'⟩ := w.put r (i := i) (by rw [hl]; exact hi)
  exact hn _ (hd a) _ H' r' t'
theorem PS.impL {X : Cx} {e : Stmt} {t t' : TS} (h : PS X e t) (hi : ∀ σ H Q, σ.length = X.N.length → t' Q σ H → t Q σ H) : PS X e t' := ⟨fun pins s σ H Q I q => h.run pins s σ H Q I (hi σ H Q I.len q)⟩
theorem us_own {i : Nat} {x : Str} {p' : Pos} {u : UF} (hN : X.N.Nodup) (hi : X.N[i]? = some x) (hx : Loc X.env.scope x) (h : UPF X O0 H0 e u) (hs : swapsWith e (some (.Name x p')) pos.line X.env = pure false := by rfl) (hf : X.fn x = true ∨ X.env.scope.names.lookup x = some .local := by first | exact .inl rfl | exact .inr rfl | assumption) :
    UPS X O0 H0 (.Assign [.Name x p'] e pos) (uOwn i u) := PS.impL (ps_set hN hi hx h hs hf) fun σ H D hl q => own_put (List.getElem?_eq_some_iff.mp hi).1 hl q
/-- x.append(e), x one's own -/
def uApp (i : Nat) (u : UE) : US := fun E ρ => match ρ.sl[i]? with
  | some (.own a (.l ds)) => u ρ fun d n => ds.length < sizeLine ∧ E.nx ((ρ.f n).put i (.own a (ds ++ [d])))
  | _ => False
theorem us_app {i : Nat} {st : Stmt} (hb : PS X st (tDrop (tBM X.K "list" rAppend (tVar i) (tCons (lE X.K O0 H0 ua) tNil)))) : UPS X O0 H0 st (uApp i ua) := PS.imp hb fun σ H D ⟨ρ, E, r, hu, hn, _⟩ => by
  dsimp only [uApp] at hu
  split at hu
  · rename_i a ds e
    obtain ⟨s1, _, _, np, xs, hx, _⟩ := r.own i a ds e
    refine ⟨_, s1, .inl ⟨rfl, xs, SqL.of hx⟩, ρ, _, r, hu, fun d n hd v H1 r1 f1 p1 => ?_⟩
    obtain ⟨_, _, _, _, ys, hy, ry⟩ := r1.own i a ds e
    refine ⟨a, ys, v, rfl, rfl, hy, by rw [ry.length]; exact hd.1, ?_⟩
    obtain ⟨r2, t2⟩ := r1.setOwn (ρ := ρ.f n) e (ry.append (.one p1))
    exact hn _ hd.2 _ _ r2 ((Tr.frm f1).trans t2)
  · exact hu.elim
/-- x[k] = e, x one's own -/
def uSetIx (i : Nat) (ui u : UE) : US := fun E ρ => match ρ.sl[i]? with
  | some (.own a (.l ds)) => u ρ fun d n => ui (ρ.f n) fun k m => match k with
    | .int z => match ixN ds.length z with
      | some j => E.nx ((ρ.f m).put i (.own a (ds.set j d)))
      | none => False
    | _ => False
  | _ => False
theorem us_setIx {i : Nat} {ui : UE} {st : Stmt} (hb : PS X st (tAsg (lE X.K O0 H0 ua) (L2.gSub (tVar i) (lE X.K O0 H0 ui) rSetL))) : UPS X O0 H0 st (uSetIx i ui ua) := PS.imp hb fun σ H D ⟨ρ, E, r, hu, hn, _⟩ => by
  dsimp only [uSetIx] at hu
  split at hu
  · rename_i a ds e
    refine ⟨ρ, _, r, hu, fun d n hd v H1 r1 f1 p1 => ?_⟩
    obtain ⟨s1, _⟩ := r1.own i a ds e
    refine ⟨_, s1, ρ.f n, _, r1, hd, fun k m hk w H2 r2 f2 p2 => ?_⟩
    obtain ⟨_, _, _, _, ys, hy, ry⟩ := r2.own i a ds e
    cases p2 with
    | int z =>
      dsimp only at hk
      split at hk
      · rename_i j ej
        refine ⟨a, ys, z, j, rfl, rfl, hy, by rw [ry.length]; exact ej, ?_⟩
        obtain ⟨r3, t3⟩ := r2.setOwn (ρ := ρ.f m) e (ry.set j (p1.keep (Frm.keepsO (ρ := ρ) f2)))
        exact hn _ hk _ _ r3 (((Tr.frm f1).trans (Tr.frm (ρ := ρ.f n) f2)).trans t3)
      · exact hk.elim
    | _ => exact hk.elim
  · exact hu.elim
/-- ahead of a statement: the list in slot i is let go -/
def uThaw (i : Nat) (u : US) : US := fun E ρ => match ρ.sl[i]? with
  | some (.own _ (.l ds)) => u E (ρ.put i (.dat (.lst ds)))
  | _ => u E ρ
theorem us_thaw {i : Nat} {st : Stmt} {u : US} (h : UPS X O0 H0 st u) : UPS X O0 H0 st (uThaw i u) := PS.imp h fun σ H D ⟨ρ, E, r, hu, hn, hb, hc, hr⟩ => by
  dsimp only [uThaw] at hu
  split at hu
  · rename_i a ds e
    obtain ⟨r1, _⟩ := r.thaw e
    have t1 : Tr O0 ρ H (ρ.put i (.dat (.lst ds))) H := Tr.put
    exact ⟨_, E, r1, hu, fun ρ2 h2 σ2 H2 r2 t2 => hn ρ2 h2 σ2 H2 r2 (t1.trans t2), fun ρ2 h2 σ2 H2 r2 t2 => hb ρ2 h2 σ2 H2 r2 (t1.trans t2), fun ρ2 h2 σ2 H2 r2 t2 => hc ρ2 h2 σ2 H2 r2 (t1.trans t2), hr⟩
  · exact ⟨ρ, E, r, hu, hn, hb, hc, hr⟩
/-- within an expression whose value holds no list, the own list in slot i is read -/
def uPeek (i : Nat) (u : UE) : UE := fun ρ Q => match ρ.sl[i]? with
  | some (.own _ (.l ds)) => u (ρ.put i (.dat (.lst ds))) fun d n => D.noL d = true ∧ Q d n
  | _ => u ρ Q
theorem peek_pen {K : PySem.W.Frag} {ρ : Ro} {i : Nat} {a : Addr} {ds : List D} {σ : L2.St} {H H1 : Hp} {n : Nat} (r : R K O0 H0 σ H ρ) (e : ρ.sl[i]? = some (.own a ds)) (r1 : R K O0 H0 σ H1 ((ρ.put i (.dat (.lst ds))).f n)) (f1 : Frm ρ.pen H H1) : R K O0 H0 σ H1 (ρ.f n) := by
  refine r.call f1 fun p c q => ?_
  obtain ⟨ns, t, z, h1, h2, h3, h4⟩ := r1.pen p c q
  obtain ⟨_, _, _, k1, k2, k3, k4⟩ := r.pen p c q
  exact ⟨ns, t, z, h1, h2, k3, h4⟩
theorem up_peek {i : Nat} (h : UPE X O0 H0 e ua) : UPE X O0 H0 e (uPeek i ua) := PE.imp h fun σ H Q ⟨ρ, P, r, hu, hP⟩ => by
  dsimp only [uPeek] at hu
  split at hu
  · rename_i a ds q
    obtain ⟨r1, _⟩ := r.thaw q
    refine ⟨_, _, r1, hu, fun d n hd v H1 r2 f2 p2 => ?_⟩
    have r3 := peek_pen r q r2 f2
    obtain ⟨_, _, _, _, xs, hx, _⟩ := r3.own i a ds q
    refine hP d n hd.2 v H1 r3 f2 (Rp.noL hx (fun b z => ?_) d v hd.1 p2)
    rcases z with z | z | ⟨j, es, z⟩
    · exact .inl (.inl z)
    · exact .inl (.inr (.inl z))
    · by_cases ej : i = j
      · subst ej
        rw [q] at z
        cases z
        exact .inr rfl
      · exact .inl (.inr (.inr ⟨j, es, by show (ρ.sl.set i _)[j]? = _; rw [List.getElem?_set_ne ej]; exact z⟩))
  · exact ⟨ρ, P, r, hu, hP⟩
def uPeekT (i : Nat) (u : UT) : UT := fun ρ Q => match ρ.sl[i]? with
  | some (.own _ (.l ds)) => u (ρ.put i (.dat (.lst ds))) Q
  | _ => u ρ Q
theorem ut_peek {i : Nat} {ta : UT} (h : UPT X O0 H0 e ta) : UPT X O0 H0 e (uPeekT i ta) := PT.imp h fun σ H Q ⟨ρ, P, r, hu, hP⟩ => by
  dsimp only [uPeekT] at hu
  split at hu
  · rename_i a ds q
    obtain ⟨r1, _⟩ := r.thaw q
    exact ⟨_, _, r1, hu, fun d n hd H1 r2 f2 => hP d n hd H1 (peek_pen r q r2 f2) f2⟩
  · exact ⟨ρ, P, r, hu, hP⟩
end
end U

set_option Elab.async false
set_option linter.all false
set_option maxRecDepth 100000
set_option maxHeartbeats 4000000
/-! Loops and comprehensions over data. -/
namespace U
open PySem PySem.Spec L2
open PyProof.Rows hiding St

/-- what is walked yields the items ds, as long as what was readable stays so -/
def ItOk (K : PySem.W.Frag) (O : Ad) (J : It) (H : Hp) (ds : List D) : Prop := ∀ (O2 : Ad) (H2 : Hp), Keeps O O2 H H2 → (∀ b, O2 b → H2 b ≠ none) →
  (∀ (i : Nat) d, ds[i]? = some d → J.go i H2 ∧ ∀ x H3, J.yld i H2 x H3 → Same H2 H3 ∧ Rp K O2 H3 x d) ∧ ∀ i, ds.length ≤ i → J.stop i H2
abbrev UI := Ro → (List D → Nat → Prop) → Prop
def lI (K : PySem.W.Frag) (O0 : Ad) (H0 : Hp) (u : UI) : TI := fun σ H Q => ∃ (ρ : Ro) (P : List D → Nat → Prop), R K O0 H0 σ H ρ ∧ u ρ P ∧
  ∀ ds n, P ds n → ∀ J H', R K O0 H0 σ H' (ρ.f n) → Frm ρ.pen H H' → ItOk K (OO O0 ρ) J H' ds → Q J H'
abbrev UPI (X : Cx) (O0 : Ad) (H0 : Hp) (tg it : Expr) (u : UI) : Prop := PI X tg it (lI X.K O0 H0 u)
theorem PI.imp {X : Cx} {tg e : Expr} {t t' : TI} (h : PI X tg e t) (hi : ∀ σ H Q, t' σ H Q → t σ H Q) : PI X tg e t' := ⟨fun pins s σ H R I q => h.run pins s σ H R I (hi σ H R q)⟩
def uiL (u : UE) : UI := fun ρ Q => u ρ fun d n => match d with
  | .lst ds => Q ds n
  | _ => False
def uiT (u : UE) : UI := fun ρ Q => u ρ fun d n => match d with
  | .tup ds => Q ds n
  | _ => False
def rngD (lo : Int) (n : Nat) : List D := (List.range n).map fun (i : Nat) => .int (lo + i)
def uiR1 (u : UA) : UI := fun ρ Q => u ρ fun ds n => match ds with
  | [.int j] => (-(2 ^ 62) ≤ j ∧ j < 2 ^ 62) ∧ Q (rngD 0 j.toNat) n
  | _ => False
def uiR2 (u : UA) : UI := fun ρ Q => u ρ fun ds n => match ds with
  | [.int i, .int j] => (-(2 ^ 62) ≤ i ∧ i < 2 ^ 62 ∧ -(2 ^ 62) ≤ j ∧ j < 2 ^ 62) ∧ Q (rngD i (j - i).toNat) n
  | _ => False
section
variable {X : Cx} {O0 : Ad} {H0 : Hp} {a b c e tg : Expr} {ua ub uc : UE} {pos p : Pos} {W : WU}
theorem it_list {K : PySem.W.Frag} {O : Ad} {H : Hp} {l : Addr} {xs : List V} {ds : List D} (h : Lk O H l xs) (r : RpA K O H xs ds) : ItOk K O (Itl K l) H ds := fun O2 H2 k t => by
  have h2 := h.keep k
  have r2 := r.keep k
  refine ⟨fun i d e => ?_, fun i hi => ⟨xs, .of h2.2, by rw [r2.length]; exact hi⟩⟩
  obtain ⟨v, e1, rv⟩ := r2.get e
  refine ⟨⟨xs, v, .of h2.2, e1⟩, fun x H3 ⟨e2, f⟩ => ?_⟩
  subst e2
  have := f xs (.of h2.2)
  rw [e1] at this
  cases this
  exact ⟨Same.refl _, rv⟩
theorem it_tup {K : PySem.W.Frag} {O : Ad} {H : Hp} {l : Addr} {xs : List V} {ds : List D} (h : Tk K O H l xs) (r : RpA K O H xs ds) : ItOk K O (Itt K l) H ds := fun O2 H2 k t => by
  have h2 := h.keep k
  have r2 := r.keep k
  refine ⟨fun i d e => ?_, fun i hi => ⟨xs, h2.sq, by rw [r2.length]; exact hi⟩⟩
  obtain ⟨v, e1, rv⟩ := r2.get e
  refine ⟨⟨xs, v, h2.sq, e1⟩, fun x H3 ⟨e2, f⟩ => ?_⟩
  subst e2
  have := f xs h2.sq
  rw [e1] at this
  cases this
  exact ⟨Same.refl _, rv⟩
theorem rngD_get {lo : Int} {n i : Nat} {d : D} (h : (rngD lo n)[i]? = some d) : i < n ∧ d = .int (lo + i) := by
  unfold rngD at h
  rw [List.getElem?_map] at h
  by_cases hi : i < n
  · rw [List.getElem?_range hi] at h
    exact ⟨hi, (Option.some.inj h).symm⟩
  · rw [List.getElem?_eq_none (by simpa using hi)] at h
    cases h
theorem it_rng {K : PySem.W.Frag} {O : Ad} {H : Hp} {lo : Int} {n : Nat} : ItOk K O (Itr lo n) H (rngD lo n) := fun O2 H2 k t =>
  ⟨fun i d e => ⟨(rngD_get e).1, fun x H3 ⟨e2, f⟩ => by
    subst e2
    subst f
    rw [(rngD_get e).2]
    exact ⟨Same.refl _, .int _⟩⟩, fun i hi => by
    have : (rngD lo n).length = n := by unfold rngD; simp
    rw [this] at hi
    exact hi⟩
theorem ui_list (h : UPE X O0 H0 e ua) : UPI X O0 H0 tg e (uiL ua) := PI.imp (pi_list h) fun σ H Q ⟨ρ, P, r, hu, hP⟩ => ⟨ρ, _, r, hu, fun d n hd v H1 r1 f1 p1 => by
  cases p1 with
  | lst l a => exact ⟨_, rfl, ⟨_, l.sq⟩, hP _ n hd _ H1 r1 f1 (it_list l a)⟩
  | _ => exact hd.elim⟩
theorem ui_tup (h : UPE X O0 H0 e ua) : UPI X O0 H0 tg e (uiT ua) := PI.imp (pi_tup h) fun σ H Q ⟨ρ, P, r, hu, hP⟩ => ⟨ρ, _, r, hu, fun d n hd v H1 r1 f1 p1 => by
  cases p1 with
  | tup l a => exact ⟨_, rfl, ⟨_, l.sq⟩, hP _ n hd _ H1 r1 f1 (it_tup l a)⟩
  | _ => exact hd.elim⟩
theorem ui_rng1 {u : UA} (hg : Gl X "range") (hm : X.mg "range" = none) (h : UPL X O0 H0 [a] u) (hs : starEach [a] X.env = [(false, eval a X.env)] := by rfl) : UPI X O0 H0 tg (.Call (.Name "range" p) [a] [] pos) (uiR1 u) := PI.imp (pi_range1 hg hm h.run hs) fun σ H Q ⟨ρ, P, r, hu, hP⟩ =>
  ⟨ρ, _, r, hu, fun ds n hd vs H1 r1 f1 p1 => by
    split at hd
    · rename_i j
      cases p1 with
      | cons q1 q2 =>
        cases q2
        cases q1
        exact ⟨j, rfl, hd.1.1, hd.1.2, hP _ n hd.2 _ H1 r1 f1 it_rng⟩
    · exact hd.elim⟩
theorem ui_rng2 {u : UA} (hg : Gl X "range") (hm : X.mg "range" = none) (h : UPL X O0 H0 [a, b] u) (hs : starEach [a, b] X.env = [(false, eval a X.env), (false, eval b X.env)] := by rfl) (hs2 : starEach [b] X.env = [(false, eval b X.env)] := by rfl) :
    UPI X O0 H0 tg (.Call (.Name "range" p) [a, b] [] pos) (uiR2 u) := PI.imp (pi_range2 hg hm h.run hs hs2) fun σ H Q ⟨ρ, P, r, hu, hP⟩ =>
  ⟨ρ, _, r, hu, fun ds n hd vs H1 r1 f1 p1 => by
    split at hd
    · rename_i i j
      cases p1 with
      | cons q1 q2 => cases q2 with
        | cons q2 q3 =>
          cases q3
          cases q1
          cases q2
          exact ⟨i, j, rfl, hd.1, hP _ n hd.2 _ H1 r1 f1 it_rng⟩
    · exact hd.elim⟩

/-! ### for: I, what holds ahead of the items that are left -/
def uFor (ui : UI) (g : UG) (body : US) : US := fun E ρ => ui ρ fun ds n => ∃ I : List D → Ro → Prop, I ds (ρ.f n) ∧ (∀ ρ, I [] ρ → E.nx ρ) ∧
  ∀ d r ρ, I (d :: r) ρ → g d ρ fun ρ' => body { E with nx := I r, ct := I r, bk := E.nx } ρ'
theorem us_for {it : Expr} {ui : UI} {g : UG} {body : List Stmt} {u : US} (hp : PassesOwn (model X.prog X.w) X.A X.env X.xe) (hc : X.calm = true) (hi : UPI X O0 H0 tg it ui) (hg : UPG X O0 H0 tg g) (hb : UPB X O0 H0 body u)
    (hs : ∀ x, foldedSetIterable it X.env x = pure x := by intro _; rfl) : UPS X O0 H0 (.For tg it body [] pos) (uFor ui g u) := PS.imp (ps_for hp hc hi hg hb hs) fun σ H D ⟨ρ, E, r, hu, hn, hb, hcn, hr⟩ => by
  refine ⟨ρ, _, r, hu, fun ds n ⟨I, i0, iE, iS⟩ J H1 r1 f1 ok => ?_⟩
  have t1 : Tr O0 ρ H (ρ.f n) H1 := Tr.frm f1
  refine ⟨fun i m σ' H' => ∃ ρ', R X.K O0 H0 σ' H' ρ' ∧ Tr O0 (ρ.f n) H1 ρ' H' ∧ I (ds.drop i) ρ' ∧ m = ds.length - i ∧ i ≤ ds.length, ⟨ds.length, ρ.f n, r1, Tr.refl, i0, by simp, Nat.zero_le _⟩, ?_⟩
  rintro i m σ2 H2 ⟨ρ2, r2, t2, hI, rfl, hle⟩
  obtain ⟨ok1, ok2⟩ := ok _ H2 t2.ks r2.tr
  by_cases hlt : i < ds.length
  · have ed : ds[i]? = some ds[i] := List.getElem?_eq_getElem hlt
    obtain ⟨go, yl⟩ := ok1 i _ ed
    refine .inr ⟨go, fun σ' H' => ∃ ρ', R X.K O0 H0 σ' H' ρ' ∧ Tr O0 (ρ.f n) H1 ρ' H' ∧ I (ds.drop (i + 1)) ρ', fun σ' H' ⟨ρ', a1, a2, a3⟩ => ⟨ds.length - (i + 1), by omega, ρ', a1, a2, a3, rfl, hlt⟩, fun x H3 hy => ?_⟩
    obtain ⟨sm, rx⟩ := yl x H3 hy
    have r3 := r2.same sm
    have t3 : Tr O0 (ρ.f n) H1 ρ2 H3 := ⟨t2.ks.trans (.same sm), t2.pn⟩
    have hI' : I (ds[i] :: ds.drop (i + 1)) ρ2 := by rw [← List.drop_eq_getElem_cons hlt]; exact hI
    refine ⟨ρ2, ds[i], _, r3, rx, iS _ _ ρ2 hI', fun ρ4 h4 σ4 r4 t4 => ?_⟩
    have t5 := t3.trans t4
    refine ⟨ρ4, _, r4, h4, fun ρ5 h5 σ5 H5 r5 t6 => ⟨ρ5, r5, t5.trans t6, h5⟩, fun ρ5 h5 σ5 H5 r5 t6 => hn ρ5 h5 σ5 H5 r5 ((t1.trans t5).trans t6), fun ρ5 h5 σ5 H5 r5 t6 => ⟨ρ5, r5, t5.trans t6, h5⟩, ⟨(hr.at_ t5.pn).d, (hr.at_ t5.pn).f⟩⟩
  · have e : i = ds.length := by omega
    subst e
    rw [List.drop_length] at hI
    exact .inl ⟨ok2 _ (Nat.le_refl _), hn ρ2 (iE ρ2 hI) σ2 H2 r2 (t1.trans t2)⟩
/-- while, by a measure -/
def uWhile (c : UT) (body : US) : US := fun E ρ => ∃ I : Nat → Ro → Prop, (∃ m, I m ρ) ∧ ∀ m ρ, I m ρ → c ρ fun k n => if k = true then body { E with nx := fun ρ' => ∃ m', m' < m ∧ I m' ρ', ct := fun ρ' => ∃ m', m' < m ∧ I m' ρ', bk := E.nx } (ρ.f n) else E.nx (ρ.f n)
theorem us_while {body : List Stmt} {u : US} {tc : UT} (hp : PassesOwn (model X.prog X.w) X.A X.env X.xe) (hc : UPT X O0 H0 c tc) (hb : UPB X O0 H0 body u) : UPS X O0 H0 (.While c body [] pos) (uWhile tc u) := PS.imp (ps_while hp hc hb) fun σ H D ⟨ρ, E, r, ⟨I, ⟨m0, i0⟩, iS⟩, hn, hb, hcn, hr⟩ => by
  refine ⟨fun m σ' H' => ∃ ρ', R X.K O0 H0 σ' H' ρ' ∧ Tr O0 ρ H ρ' H' ∧ I m ρ', ⟨m0, ρ, r, Tr.refl, i0⟩, ?_⟩
  rintro m σ1 H1 ⟨ρ1, r1, t1, h1⟩
  refine ⟨ρ1, _, r1, iS m ρ1 h1, fun k n hk H2 r2 f2 => ?_⟩
  have t2 : Tr O0 ρ H (ρ1.f n) H2 := t1.trans (Tr.frm f2)
  cases k with
  | false => exact iteF (hn _ hk σ1 H2 r2 t2)
  | true =>
    refine iteT ⟨fun σ' H' => ∃ ρ', R X.K O0 H0 σ' H' ρ' ∧ Tr O0 ρ H ρ' H' ∧ ∃ m', m' < m ∧ I m' ρ', fun σ' H' ⟨ρ', a1, a2, m', a3, a4⟩ => ⟨m', a3, ρ', a1, a2, a4⟩, ?_⟩
    refine ⟨ρ1.f n, _, r2, hk, fun ρ5 h5 σ5 H5 r5 t6 => ⟨ρ5, r5, t2.trans t6, h5⟩, fun ρ5 h5 σ5 H5 r5 t6 => hn ρ5 h5 σ5 H5 r5 (t2.trans t6), fun ρ5 h5 σ5 H5 r5 t6 => ⟨ρ5, r5, t2.trans t6, h5⟩, ⟨(hr.at_ t1.pn).d, (hr.at_ t1.pn).f⟩⟩
end
end U

set_option Elab.async false
set_option linter.all false
set_option maxRecDepth 100000
set_option maxHeartbeats 4000000
/-! List comprehensions over data. -/
namespace U
open PySem PySem.Spec L2
open PyProof.Rows hiding St

def wipeR (ρ : Ro) : List Nat → Ro
  | [] => ρ
  | i :: is => (wipeR ρ is).put i .emp
theorem wipeR_pen (ρ : Ro) : ∀ vs, (wipeR ρ vs).pen = ρ.pen
  | [] => rfl
  | _ :: is => wipeR_pen ρ is
theorem wipeR_f (ρ : Ro) (n : Nat) : ∀ vs, wipeR (ρ.f n) vs = (wipeR ρ vs).f n
  | [] => rfl
  | i :: is => by
    show (wipeR (ρ.f n) is).put i .emp = ((wipeR ρ is).put i .emp).f n
    rw [wipeR_f ρ n is]
section
variable {K : PySem.W.Frag} {O0 O1 : Ad} {H0 H H' : Hp} {σ : L2.St} {ρ : Ro}
theorem OO.put_emp {i : Nat} {b : Addr} (h : OO O0 (ρ.put i .emp) b) : OO O0 ρ b := by
  rcases h with h | h | ⟨j, ds, h⟩
  · exact .inl h
  · exact .inr (.inl h)
  · rcases set_some h with ⟨_, e2, _⟩ | ⟨_, e2⟩
    · cases e2
    · exact .inr (.inr ⟨j, ds, e2⟩)
theorem R.emp (r : R K O0 H0 σ H ρ) (i : Nat) (x : Option V) : R K O0 H0 (σ.set i x) H (ρ.put i .emp) := by
  have le : ∀ b, OO O0 (ρ.put i .emp) b → OO O0 ρ b := fun b h => OO.put_emp h
  refine ⟨by rw [List.length_set]; show _ = (ρ.sl.set i _).length; rw [List.length_set]; exact r.len, fun j e h => ?_, fun j a ds h => ?_, fun j k a ds es h1 h2 => ?_, r.fr, fun b h => r.tr b (le b h), fun p c e => ?_⟩
  · rcases set_some h with ⟨_, e2, _⟩ | ⟨e1, e2⟩
    · cases e2
    · obtain ⟨w, h1, h2⟩ := r.dat j e e2
      exact ⟨w, by rw [List.getElem?_set_ne e1]; exact h1, h2.keep (.less le)⟩
  · rcases set_some h with ⟨_, e2, _⟩ | ⟨e1, e2⟩
    · cases e2
    · obtain ⟨h1, h2, h3, h4, h5⟩ := r.own j a ds e2
      exact ⟨by rw [List.getElem?_set_ne e1]; exact h1, h2, h3, h4, h5.keep (.less le) fun _ q => q⟩
  · rcases set_some h1 with ⟨_, e2, _⟩ | ⟨_, e1⟩
    · cases e2
    · rcases set_some h2 with ⟨_, e4, _⟩ | ⟨_, e3⟩
      · cases e4
      · exact r.inj j k a ds es e1 e3
  · obtain ⟨ns, t, q, h1, h2, h3, h4⟩ := r.pen p c e
    exact ⟨ns, t, q, h1, h2, fun z => h3 (le _ z), h4⟩
theorem R.wipe (r : R K O0 H0 σ H ρ) : ∀ vs : List Nat, R K O0 H0 (L2.wipe σ vs) H (wipeR ρ vs)
  | [] => r
  | i :: is => (R.wipe r is).emp i none
/-- one more that is not to be met -/
theorem R.more (r : R K O0 H0 σ H ρ) {D : Addr} {o : HO} (hn : H D = none) : R K (fun b => O0 b ∨ b = D) H0 σ (upd H D o) ρ := by
  have sm := Same.new (o := o) hn
  have nO : ¬ OO O0 ρ D := r.fresh hn
  have oo : ∀ b, OO (fun b => O0 b ∨ b = D) ρ b → OO O0 ρ b ∨ b = D := fun b h => by
    rcases h with (h | h) | h
    · exact .inl (.inl h)
    · exact .inr h
    · exact .inl (.inr h)
  have k : Keeps (OO O0 ρ) (OO (fun b => O0 b ∨ b = D) ρ) H (upd H D o) := ⟨fun b o h _ => sm b o h, fun b o h nb z => (oo b z).elim nb fun e => by rw [e, hn] at h; cases h⟩
  refine ⟨r.len, fun i d e => let ⟨v, h1, h2⟩ := r.dat i d e; ⟨v, h1, h2.keep k⟩, fun i a ds e => ?_, r.inj, r.fr.trans (.of sm), fun b h => ?_, fun p c e => ?_⟩
  · obtain ⟨h1, h2, h3, h4, h5⟩ := r.own i a ds e
    refine ⟨h1, fun z => z.elim h2 fun e => ?_, h3, h4, h5.keep k fun o q => sm _ _ q⟩
    obtain ⟨o, q⟩ := h5.some
    rw [e, hn] at q
    cases q
  · rcases oo b h with z | z
    · intro q
      cases w : H b with
      | none => exact r.tr b z w
      | some u => rw [sm b u w] at q; cases q
    · rw [z, upd_same]; simp
  · obtain ⟨ns, t, q, h1, h2, h3, h4⟩ := r.pen p c e
    exact ⟨ns, t, q, sm _ _ h1, sm _ _ h2, (fun z => (oo _ z).elim h3 (fun e => (by rw [e, hn] at h2; cases h2))), h4⟩
/-- a change where nothing is met -/
theorem R.updO (r : R K O0 H0 σ H ρ) {D : Addr} {o : HO} (hD : O0 D) (h0 : H0 D = none) (np : ¬ IsPen ρ.pen D) : R K O0 H0 σ (upd H D o) ρ := by
  have hO : OO O0 ρ D := .inl hD
  have ne : ∀ {b : Addr}, ¬ OO O0 ρ b → b ≠ D := fun nb e => nb (by rw [e]; exact hO)
  have k : Keeps (OO O0 ρ) (OO O0 ρ) H (upd H D o) := ⟨fun b u h nb => by rw [upd_ne (ne nb)]; exact h, fun _ _ _ n => n⟩
  refine ⟨r.len, fun i d e => let ⟨v, h1, h2⟩ := r.dat i d e; ⟨v, h1, h2.keep k⟩, fun i a ds e => ?_, r.inj, fun b u h nb => ?_, fun b h => ?_, fun p c e => ?_⟩
  · obtain ⟨h1, h2, h3, h4, h5⟩ := r.own i a ds e
    exact ⟨h1, h2, h3, h4, h5.keep k fun o q => by rw [upd_ne (fun e => h2 (by rw [e]; exact hD))]; exact q⟩
  · rw [upd_ne (fun e => by rw [e, h0] at h; cases h)]
    exact r.fr b u h nb
  · by_cases e : b = D
    · rw [e, upd_same]; simp
    · rw [upd_ne e]; exact r.tr b h
  · obtain ⟨ns, t, q, h1, h2, h3, h4⟩ := r.pen p c e
    exact ⟨ns, t, q, by rw [upd_ne (fun e2 => np ⟨c, by rw [← e2]; exact e⟩)]; exact h1, by rw [upd_ne (ne h3)]; exact h2, h3, h4⟩
theorem wipe_set {σ : L2.St} {i : Nat} {x : Option V} : ∀ {vs : List Nat}, i ∈ vs → L2.wipe (σ.set i x) vs = L2.wipe σ vs
  | [], h => by cases h
  | j :: js, h => by
    show (L2.wipe (σ.set i x) js).set j none = (L2.wipe σ js).set j none
    by_cases hj : i ∈ js
    · rw [wipe_set hj]
    · have e : i = j := by
        rcases List.mem_cons.mp h with e | e
        · exact e
        · exact absurd e hj
      subst e
      have comm : ∀ ks : List Nat, i ∉ ks → L2.wipe (σ.set i x) ks = (L2.wipe σ ks).set i x := by
        intro ks
        induction ks with
        | nil => intro _; rfl
        | cons k ks ih =>
          intro hk
          show (L2.wipe (σ.set i x) ks).set k none = ((L2.wipe σ ks).set k none).set i x
          rw [ih (fun z => hk (List.mem_cons_of_mem _ z)), List.set_comm _ _ (fun e => hk (by rw [e]; exact List.mem_cons_self))]
      rw [comm js hj, List.set_set]
theorem wipe_in {σ : L2.St} {vs : List Nat} : ∀ {ks : List Nat}, (∀ k ∈ ks, k ∈ vs) → L2.wipe (L2.wipe σ ks) vs = L2.wipe σ vs
  | [], _ => rfl
  | k :: ks, h => by
    show L2.wipe ((L2.wipe σ ks).set k none) vs = _
    rw [wipe_set (h k List.mem_cons_self)]
    exact wipe_in fun j hj => h j (List.mem_cons_of_mem _ hj)
/-- a target that touches the slots vs alone -/
structure GOk (K : PySem.W.Frag) (H0 : Hp) (G : TG) (g : UG) (vs : List Nat) : Prop where
  run : ∀ (O1 : Ad) v σ0 σ H Q, L2.wipe σ vs = L2.wipe σ0 vs → lG K O1 H0 g v σ H Q → G v σ H fun σ2 H2 => L2.wipe σ2 vs = L2.wipe σ0 vs ∧ Q σ2 H2
  out : ∀ d ρ P, g d ρ P → g d ρ fun ρ' => P ρ' ∧ ∀ (j : Nat) b es, j ∉ vs → ρ.sl[j]? = some (.own b es) → ρ'.sl[j]? = some (.own b es)
theorem gok_name {i : Nat} {vs : List Nat} (hi : i ∈ vs) : GOk K H0 (gName i) (ugN i) vs where
  run := fun O1 v σ0 σ H Q hw h => by
    obtain ⟨ρ, d, P, r, rp, hg, hP⟩ := h
    exact ⟨(wipe_set hi).trans hw, hP _ hg _ (r.put rp) Tr.put⟩
  out := fun d ρ P h => ⟨h, fun j b es hj e => by
    show (ρ.sl.set i _)[j]? = _
    rw [List.getElem?_set_ne (fun q => hj (by rw [← q]; exact hi))]
    exact e⟩
theorem putAll_out {vs : List Nat} : ∀ (is : List Nat) (ds : List D) (ρ ρ' : Ro), (∀ i ∈ is, i ∈ vs) → putAll is ds ρ = some ρ' → ∀ (j : Nat) b es, j ∉ vs → ρ.sl[j]? = some (.own b es) → ρ'.sl[j]? = some (.own b es)
  | [], [], ρ, ρ', _, e, _, _, _, _, h => by cases e; exact h
  | i :: is, d :: ds, ρ, ρ', hi, e, j, b, es, hj, h => by
    refine putAll_out is ds (ρ.put i (.dat d)) ρ' (fun k hk => hi k (List.mem_cons_of_mem _ hk)) e j b es hj ?_
    show (ρ.sl.set i _)[j]? = _
    rw [List.getElem?_set_ne (fun q => hj (by rw [← q]; exact hi i List.mem_cons_self))]
    exact h
  | [], _ :: _, _, _, _, e, _, _, _, _, _ => by cases e
  | _ :: _, [], _, _, _, e, _, _, _, _, _ => by cases e
theorem gns_wipe {Q : L2.St → Hp → Prop} {P : Ro → Prop} {ρ0 : Ro} {vs : List Nat} {σ0 : L2.St} : ∀ (is : List Nat) (ds : List D) (us : List V) (ρ ρ' : Ro) (σ : L2.St), (∀ i ∈ is, i ∈ vs) → L2.wipe σ vs = L2.wipe σ0 vs → R K O1 H0 σ H ρ → Tr O1 ρ0 H ρ H → RpA K (OO O1 ρ) H us ds →
    putAll is ds ρ = some ρ' → P ρ' → (∀ ρ', P ρ' → ∀ σ', R K O1 H0 σ' H ρ' → Tr O1 ρ0 H ρ' H → Q σ' H) → gNames is us σ H fun σ2 H2 => L2.wipe σ2 vs = L2.wipe σ0 vs ∧ Q σ2 H2
  | [], [], _, ρ, _, σ, _, hw, r, t, .nil, e, hp, hP => by
    cases e
    exact ⟨rfl, hw, hP ρ hp σ r t⟩
  | i :: is, d :: ds, _, ρ, ρ', σ, hi, hw, r, t, .cons h a, e, hp, hP => by
    refine ⟨_, _, rfl, ?_⟩
    exact gns_wipe is ds _ (ρ.put i (.dat d)) ρ' _ (fun j hj => hi j (List.mem_cons_of_mem _ hj)) ((wipe_set (hi i List.mem_cons_self)).trans hw) (r.put h) (t.trans Tr.put) (a.keep Tr.put.ks) e hp hP
  | [], _ :: _, _, _, _, _, _, _, _, _, _, e, _, _ => by cases e
  | _ :: _, [], _, _, _, _, _, _, _, _, _, e, _, _ => by cases e
theorem gok_tup {is : List Nat} {n : Nat} {vs : List Nat} (hi : ∀ i ∈ is, i ∈ vs) (hn : is.length = n := by rfl) : GOk K H0 (gTup K n (gNames is)) (ugT is) vs where
  run := fun O1 v σ0 σ H Q hw h => by
    obtain ⟨ρ, d, P, r, rp, hg, hP⟩ := h
    cases rp with
    | tup l ra =>
      dsimp only [ugT] at hg
      split at hg
      · rename_i ρ' e
        refine ⟨_, _, rfl, l.sq, by rw [ra.length, ← hn]; exact putAll_len _ _ _ _ e, ?_⟩
        exact gns_wipe is _ _ ρ ρ' σ hi hw r Tr.refl ra e hg hP
      · exact hg.elim
    | _ => exact hg.elim
  out := fun d ρ P h => by
    cases d with
    | tup ds =>
      dsimp only [ugT] at h ⊢
      split
      · rename_i ρ' e
        rw [e] at h
        exact ⟨h, putAll_out is ds ρ ρ' hi e⟩
      · rename_i e
        rw [e] at h
        exact h
    | _ => exact h.elim
/-- no own list in these slots -/
def noOwn (ρ : Ro) (vs : List Nat) : Bool := vs.all fun i => match ρ.sl[i]? with
  | some (.own _ _) => false
  | _ => true
theorem wipeR_out {ρ : Ro} {j : Nat} : ∀ {vs : List Nat}, j ∉ vs → (wipeR ρ vs).sl[j]? = ρ.sl[j]?
  | [], _ => rfl
  | k :: ks, h => by
    show ((wipeR ρ ks).sl.set k _)[j]? = _
    rw [List.getElem?_set_ne (fun q => h (by rw [q]; exact List.mem_cons_self))]
    exact wipeR_out fun z => h (List.mem_cons_of_mem _ z)

def uComp (ui : UI) (vs : List Nat) (g : UG) (tt : UT) (te : UE) : UF := fun ρ Q => ui ρ fun ds n => (ds.length ≤ sizeLine ∧ noOwn ρ vs = true) ∧ ∃ I : List D → List D → Nat → Prop, I ds [] n ∧ (∀ acc m, I [] acc m → Q acc m) ∧
  ∀ d r acc m, I (d :: r) acc m → g d ((wipeR ρ vs).f m) fun ρ' => tt ρ' fun k j => if k = true then te (ρ'.f j) fun y l => I r (acc ++ [y]) l else I r acc j
/-- the comprehension's own reading -/
theorem comp_core {ui : UI} {G : TG} {g : UG} {tt : UT} {te : UE} {vs : List Nat} {Q : VK} (hG : GOk K H0 G g vs) (h : lF K O0 H0 (uComp ui vs g tt te) σ H Q) :
    tLc (lI K O0 H0 ui) G (fun σ H Q => ∃ O1, lT K O1 H0 tt σ H Q) (fun σ H Q => ∃ O1, lE K O1 H0 te σ H Q) vs σ H Q := by
  obtain ⟨ρ, P, r, hu, hP⟩ := h
  refine ⟨ρ, _, r, hu, fun ds n ⟨⟨hz, hno⟩, I, i0, iE, iS⟩ J H1 r1 f1 ok D hD => ?_⟩
  have nO1 : ¬ OO O0 ρ D := r1.fresh hD
  have npD : ¬ IsPen ρ.pen D := fun z => nO1 (OO.pen _ z)
  have hD0 : H D = none := by
    cases q : H D with
    | none => rfl
    | some u => exact absurd hD (f1.there r1.pen (b := D) (by rw [q]; simp))
  have h0D : H0 D = none := by
    cases q : H0 D with
    | none => rfl
    | some u =>
      have := r.fr D u q npD
      rw [hD0] at this
      cases this
  let OD : Ad := fun b => O0 b ∨ b = D
  refine ⟨fun i m H' => ∃ acc accV k, I (ds.drop i) acc k ∧ m = ds.length - i ∧ i ≤ ds.length ∧ acc.length ≤ i ∧ H' D = some (.lst accV) ∧ RpA K (OO OD ρ) H' accV acc ∧ R K OD H0 σ H' (ρ.f k) ∧ Frm ρ.pen H1 H',
    ⟨ds.length, [], [], n, i0, by simp, Nat.zero_le _, Nat.le_refl _, upd_same, .nil, r1.more hD, .of (Same.new hD)⟩, ?_⟩
  rintro i m H2 ⟨acc, accV, k, hI, rfl, hle, hal, hDl, ra, r2, f2⟩
  have kk : Keeps (OO O0 ρ) (OO OD ρ) H1 H2 := ⟨fun b o h nb => f2 b o h fun z => nb (OO.pen b z), fun b o h nb z => by
    rcases z with (z | z) | z
    · exact nb (.inl z)
    · rw [z, hD] at h; cases h
    · exact nb (.inr z)⟩
  obtain ⟨ok1, ok2⟩ := ok _ H2 kk r2.tr
  by_cases hlt : i < ds.length
  · have ed : ds[i]? = some ds[i] := List.getElem?_eq_getElem hlt
    obtain ⟨go, yl⟩ := ok1 i _ ed
    have hI' : I (ds[i] :: ds.drop (i + 1)) acc k := by rw [← List.drop_eq_getElem_cons hlt]; exact hI
    refine .inr ⟨go, fun H' => ∃ acc accV k, I (ds.drop (i + 1)) acc k ∧ acc.length ≤ i + 1 ∧ H' D = some (.lst accV) ∧ RpA K (OO OD ρ) H' accV acc ∧ R K OD H0 σ H' (ρ.f k) ∧ Frm ρ.pen H1 H',
      fun H' ⟨acc, accV, k, a1, a2, a3, a4, a5, a6⟩ => ⟨ds.length - (i + 1), by omega, acc, accV, k, a1, rfl, hlt, a2, a3, a4, a5, a6⟩, fun x H3 hy => ?_⟩
    obtain ⟨sm, rx⟩ := yl x H3 hy
    have r3 := r2.same sm
    have r3w := r3.wipe vs
    rw [wipeR_f] at r3w
    have oow : ∀ b, OO OD (wipeR ρ vs) b → OO OD ρ b := by
      have : ∀ is b, OO OD (wipeR ρ is) b → OO OD ρ b := by
        intro is
        induction is with
        | nil => intro b h; exact h
        | cons j js ih => intro b h; exact ih b (OO.put_emp h)
      exact this vs
    refine hG.run OD x σ _ H3 _ (wipe_in fun _ z => z) ⟨_, ds[i], _, r3w, rx.keep (.less oow), hG.out _ _ _ (iS _ _ _ _ hI'), fun ρ4 ⟨h4, own4⟩ σ4 r4 t4 => ?_⟩
    have e4 : ρ4.pen = ρ.pen := t4.pn.trans (wipeR_pen ρ vs)
    -- back to the frame's own slots
    have home : ∀ {H5 : Hp} {l : Nat}, R K OD H0 σ4 H5 (ρ4.f l) → Frm ρ.pen H3 H5 → R K OD H0 σ H5 (ρ.f l) ∧ Frm ρ.pen H1 H5 ∧ H5 D = some (.lst accV) ∧ RpA K (OO OD ρ) H5 accV acc := fun {H5 l} r5 f5 => by
      refine ⟨r3.call (ρ := ρ.f k) f5 fun p c q => ?_, (f2.trans (.of sm)).trans f5, f5 _ _ (sm _ _ hDl) npD, (ra.keep (.same sm)).keep (Frm.keepsO (ρ := ρ) f5)⟩
      have q4 : (ρ4.f l).pen = some (p, c) := e4.trans q
      obtain ⟨ns, t, z, h1, h2, h3, h4⟩ := r5.pen p c q4
      obtain ⟨_, _, _, _, _, k3, _⟩ := r3.pen p c q
      exact ⟨ns, t, z, h1, h2, k3, h4⟩
    refine ⟨OD, ρ4, _, r4, h4, fun b j hb H5 r5 f5 => ?_⟩
    rw [e4] at f5
    cases b with
    | false =>
      obtain ⟨g1, g2, g3, g4⟩ := home r5 f5
      exact iteF ⟨acc, accV, j, hb, by omega, g3, g4, g1, g2⟩
    | true =>
      refine iteT ⟨OD, ρ4.f j, _, r5, hb, fun y l hy2 w H6 r6 f6 p6 => ?_⟩
      have f6' : Frm ρ.pen H5 H6 := by
        have := f6
        rw [show (ρ4.f j).pen = ρ.pen from e4] at this
        exact this
      obtain ⟨g1, g2, g3, g4⟩ := home r6 (f5.trans f6')
      refine ⟨accV, g3, ?_, acc ++ [y], accV ++ [w], l, hy2, by simp; omega, upd_same, ?_, g1.updO (.inr rfl) h0D npD, fun b o h nb => ?_⟩
      · rw [g4.length]; omega
      · have kD : Keeps (OO OD ρ) (OO OD ρ) H6 (upd H6 D (.lst (accV ++ [w]))) := ⟨fun b o h nb => by rw [upd_ne (fun e => nb (.inl (.inr e)))]; exact h, fun _ _ _ n => n⟩
        refine (g4.append (.one ?_)).keep kD
        -- w is not at an own list of the frame
        refine p6.keep ⟨fun b o h _ => h, fun b o h nb z => ?_⟩
        rcases z with z | z | ⟨q, es, z⟩
        · exact nb (.inl z)
        · exact nb (.inr (.inl (by show IsPen ρ4.pen b; rw [e4]; exact z)))
        · have hj : q ∉ vs := fun hm => by
            have := List.all_eq_true.mp hno q hm
            rw [z] at this
            cases this
          refine nb (.inr (.inr ⟨q, es, own4 q b es hj ?_⟩))
          show (wipeR ρ vs).sl[q]? = _
          rw [wipeR_out hj]
          exact z
      · rw [upd_ne (fun e => by rw [e, hD] at h; cases h)]
        exact g2 b o h nb
  · have e : i = ds.length := by omega
    subst e
    rw [List.drop_length] at hI
    refine .inl ⟨ok2 _ (Nat.le_refl _), hP acc k (iE acc k hI) D H2 ⟨hD0, f1.trans f2, fun p c q => ?_, accV, hDl, ra.keep (.less fun b z => ?_)⟩⟩
    · obtain ⟨ns, t, z, h1, h2, h3, h4⟩ := r2.pen p c q
      refine ⟨ns, t, z, h1, h2, fun w => h3 ?_, h4⟩
      rcases w with (w | w) | w
      · exact .inl (.inl w)
      · exact .inr w
      · exact .inl (.inr w)
    · rcases z with (w | w) | w
      · exact .inl (.inl w)
      · exact .inr w
      · exact .inl (.inr w)
end
end U

set_option Elab.async false
set_option linter.all false
set_option maxRecDepth 100000
set_option maxHeartbeats 4000000
/-! Comprehensions as rules; a def by its body. -/
namespace U
open PySem PySem.Spec L2
open PyProof.Rows hiding St

def uYes : UT := fun ρ Q => Q true ρ.fuel
abbrev xT (K : PySem.W.Frag) (H0 : Hp) (u : UT) : TT := fun σ H Q => ∃ O1, lT K O1 H0 u σ H Q
abbrev xE (K : PySem.W.Frag) (H0 : Hp) (u : UE) : TE := fun σ H Q => ∃ O1, lE K O1 H0 u σ H Q
abbrev UPts (X : Cx) (H0 : Hp) (ifs : List Expr) (u : UT) : Prop := PTs X ifs (xT X.K H0 u)
theorem PTs.imp {X : Cx} {e : List Expr} {t t' : TT} (h : PTs X e t) (hi : ∀ σ H Q, t' σ H Q → t σ H Q) : PTs X e t' := ⟨fun pins s σ H Q I q => h.run pins s σ H Q I (hi σ H Q q)⟩
section
variable {X : Cx} {O0 : Ad} {H0 : Hp} {a b c e tg elt it : Expr} {ua ub uc : UE} {pos p : Pos} {W : WU}
theorem uts_nil : UPts X H0 [] uYes := PTs.imp pts_nil fun σ H Q ⟨O1, ρ, P, r, hu, hP⟩ => hP true ρ.fuel hu H r Frm.refl
theorem uts_one {u : UT} (h : ∀ O1, UPT X O1 H0 c u) : UPts X H0 [c] u := pts_one ⟨fun pins s σ H Q I ⟨O1, q⟩ => (h O1).run pins s σ H Q I q⟩
theorem xe_of {u : UE} (h : ∀ O1, UPE X O1 H0 e u) : PE X e (xE X.K H0 u) := ⟨fun pins s σ H Q I ⟨O1, q⟩ => (h O1).run pins s σ H Q I q⟩
variable {ifs : List Expr} {scope : Scope} {own : List (Str × Nat)} {ui : UI} {G : TG} {g : UG} {tt : UT} {te : UE}
theorem uf_comp (hc : X.calm = true) (hN : X.N.Nodup) (hi : UPI X O0 H0 tg it ui) (ok : BlkOk X.N X.env.scope scope own) (hG : GOk X.K H0 G g (own.map (·.2)))
    (hg : ∀ (s : Shared) (H : Hp) (C : Addr) (cl : List (Str × Addr)) (fp : List Addr), PG (X.blk s H scope (compEnvC scope cl C X.env) fp) tg G)
    (ht : ∀ (s : Shared) (H : Hp) (C : Addr) (cl : List (Str × Addr)) (fp : List Addr), UPts (X.blk s H scope (compEnvC scope cl C X.env) fp) H0 ifs tt)
    (he : ∀ (s : Shared) (H : Hp) (C : Addr) (cl : List (Str × Addr)) (fp : List Addr) (O1 : Ad), UPE (X.blk s H scope (compEnvC scope cl C X.env) fp) O1 H0 elt te) (hs : ∀ x, foldedSetIterable it X.env x = pure x := by intro _; rfl) :
    UPF X O0 H0 (.ListComp elt [⟨tg, it, ifs, 0⟩] scope pos) (uComp ui (own.map (·.2)) g tt te) :=
  PE.imp (pe_lc hc hN hi ok hg ht (fun s H C cl fp => xe_of (he s H C cl fp)) hs) fun σ H Q h => comp_core hG h
/-- name = [..], the list its own or not -/
theorem ps_comp {i : Nat} {y : Str} {py spos : Pos} (hc : X.calm = true) (hN : X.N.Nodup) (hy : X.N[i]? = some y) (hyl : X.env.scope.names.lookup y = some .local)
    (hsw : swapsWith (.ListComp elt [⟨tg, it, ifs, 0⟩] scope pos) (some (.Name y py)) spos.line X.env = pure true) (hi : UPI X O0 H0 tg it ui) (ok : BlkOk X.N X.env.scope scope own) (hG : GOk X.K H0 G g (own.map (·.2)))
    (hg : ∀ (s : Shared) (H : Hp) (C : Addr) (cl : List (Str × Addr)) (fp : List Addr), PG (X.blk s H scope (compEnvC scope cl C X.env) fp) tg G)
    (ht : ∀ (s : Shared) (H : Hp) (C : Addr) (cl : List (Str × Addr)) (fp : List Addr), UPts (X.blk s H scope (compEnvC scope cl C X.env) fp) H0 ifs tt)
    (he : ∀ (s : Shared) (H : Hp) (C : Addr) (cl : List (Str × Addr)) (fp : List Addr) (O1 : Ad), UPE (X.blk s H scope (compEnvC scope cl C X.env) fp) O1 H0 elt te) (hs : ∀ x, foldedSetIterable it X.env x = pure x := by intro _; rfl) :
    PS X (.Assign [.Name y py] (.ListComp elt [⟨tg, it, ifs, 0⟩] scope pos) spos) (tAsg (lF X.K O0 H0 (uComp ui (own.map (·.2)) g tt te)) (gName i)) :=
  PS.imp (ps_setLc hc hN hy hyl hsw hi ok hg ht (fun s H C cl fp => xe_of (he s H C cl fp)) hs) fun σ H D h => comp_core hG h
theorem us_ownC {i : Nat} {st : Stmt} {u : UF} (hi : i < X.N.length) (h : PS X st (tAsg (lF X.K O0 H0 u) (gName i))) : UPS X O0 H0 st (uOwn i u) := PS.impL h fun σ H D hl q => own_put hi hl q
theorem us_setC {i : Nat} {st : Stmt} {u : UF} (h : PS X st (tAsg (lF X.K O0 H0 u) (gName i))) : UPS X O0 H0 st (uSet i (uFr u)) := PS.imp h fun σ H D ⟨ρ, E, r, hu, hn, _⟩ =>
  ⟨ρ, _, r, hu, fun ds n hd a H' w => hn _ hd _ H' ((w.r r).put (ρ := ρ.f n) (w.rp r)) ((Tr.frm w.fr).trans Tr.put)⟩

/-! ### enumerate of a list -/
def enumD (i : Nat) : List D → List D
  | [] => []
  | d :: ds => .tup [.int i, d] :: enumD (i + 1) ds
theorem enumD_get : ∀ (ds : List D) (k i : Nat) (d : D), (enumD k ds)[i]? = some d → ∃ x, ds[i]? = some x ∧ d = .tup [.int ((k + i : Nat) : Int), x]
  | [], k, i, d, h => by simp [enumD] at h
  | x :: ds, k, 0, d, h => by
    cases (Option.some.inj h)
    exact ⟨x, rfl, rfl⟩
  | x :: ds, k, i + 1, d, h => by
    obtain ⟨y, h1, h2⟩ := enumD_get ds (k + 1) i d h
    exact ⟨y, h1, by rw [h2, show k + 1 + i = k + (i + 1) by omega]⟩
theorem enumD_len : ∀ (ds : List D) (k : Nat), (enumD k ds).length = ds.length
  | [], _ => rfl
  | _ :: ds, k => congrArg (· + 1) (enumD_len ds (k + 1))
theorem new_pair {K : PySem.W.Frag} {O2 : Ad} {H2 : Hp} {T : Addr} {x y : V} {d d' : D} (t : ∀ b, O2 b → H2 b ≠ none) (hT : H2 T = none) (h : Rp K O2 H2 x d) (h' : Rp K O2 H2 y d') : Same H2 (upd H2 T (.tup [x, y])) ∧ Rp K O2 (upd H2 T (.tup [x, y])) (.ref T) (.tup [d, d']) := by
  have sm := Same.new (o := HO.tup [x, y]) hT
  exact ⟨sm, .tup (.inl ⟨nofree t hT, upd_same⟩) (.cons (h.keep (.same sm)) (.cons (h'.keep (.same sm)) .nil))⟩
theorem it_enum {K : PySem.W.Frag} {O : Ad} {H : Hp} {l : Addr} {xs : List V} {ds : List D} (h : Lk O H l xs) (r : RpA K O H xs ds) : ItOk K O (Ite K l) H (enumD 0 ds) := fun O2 H2 k t => by
  have h2 := h.keep k
  have r2 := r.keep k
  refine ⟨fun i d e => ?_, fun i hi => ⟨xs, .of h2.2, by rw [r2.length]; rw [enumD_len] at hi; exact hi⟩⟩
  obtain ⟨y, e0, e9⟩ := enumD_get ds 0 i d e
  subst e9
  obtain ⟨v, e1, rv⟩ := r2.get e0
  refine ⟨⟨xs, v, .of h2.2, e1⟩, fun x H3 ⟨T, z, ex, hT, eH, f⟩ => ?_⟩
  subst ex
  subst eH
  have := f xs (.of h2.2)
  rw [e1] at this
  cases this
  rw [Nat.zero_add]
  exact new_pair t hT (.int _) rv
def uiE (u : UA) : UI := fun ρ Q => u ρ fun ds n => match ds with
  | [.lst ds] => Q (enumD 0 ds) n
  | _ => False
theorem ui_enumL {u : UA} {elts : List Expr} {kk : Nat} {tpos : Pos} (hg : Gl X "enumerate") (hm : X.mg "enumerate" = none) (h : UPL X O0 H0 [e] u) (hs : starEach [e] X.env = [(false, eval e X.env)] := by rfl) :
    UPI X O0 H0 (.Tuple elts kk tpos) (.Call (.Name "enumerate" p) [e] [] pos) (uiE u) := PI.imp (pi_enum hg hm h.run hs) fun σ H Q ⟨ρ, P, r, hu, hP⟩ => ⟨ρ, _, r, hu, fun ds n hd vs H1 r1 f1 p1 => by
  split at hd
  · rename_i ds
    cases p1 with
    | cons q1 q2 =>
      cases q2
      cases q1 with
      | lst l a => exact ⟨_, _, rfl, l.sq, hP _ n hd _ H1 r1 f1 (it_enum l a)⟩
  · exact hd.elim⟩
end

/-! ### a def -/
def startU (N : List Str) (ds : List D) : List Sl := ds.map Sl.dat ++ List.replicate (N.length - ds.length) Sl.emp
theorem R.start {K : PySem.W.Frag} {O : Ad} {H : Hp} {N : List Str} {vs : List V} {ds : List D} {pen : PenT} {n : Nat} (hl : ds.length ≤ N.length) (ra : RpA K O H vs ds) (tr : ∀ b, O b → H b ≠ none) (hp : ∀ p, IsPen pen p → O p) (pn : Pen O H pen n) :
    R K O H (start N vs) H ⟨startU N ds, pen, n⟩ := by
  have at_ : ∀ (i : Nat) s, (startU N ds)[i]? = some s → (∃ d, ds[i]? = some d ∧ s = .dat d) ∨ s = .emp := fun i s e => by
    unfold startU at e
    by_cases hi : i < ds.length
    · rw [List.getElem?_append_left (by simpa using hi), List.getElem?_map] at e
      cases q : ds[i]? with
      | none => rw [q] at e; cases e
      | some d => rw [q] at e; cases e; exact .inl ⟨d, rfl, rfl⟩
    · rw [List.getElem?_append_right (by simpa using hi), List.getElem?_replicate] at e
      split at e
      · exact .inr (Option.some.inj e).symm
      · cases e
  have noown : ∀ (i : Nat) a es, (startU N ds)[i]? = some (.own a es) → False := fun i a es e => by
    rcases at_ i _ e with ⟨d, _, q⟩ | q <;> cases q
  have le : ∀ b, OO O ⟨startU N ds, pen, n⟩ b → O b := fun b h => by
    rcases h with h | h | ⟨i, es, h⟩
    · exact h
    · exact hp b h
    · exact (noown i b es h).elim
  refine ⟨?_, fun i d e => ?_, fun i a es e => (noown i a es e).elim, fun i j a es fs e _ => (noown i a es e).elim, Frm.refl, fun b h => tr b (le b h), fun p c e => ?_⟩
  · unfold L2.start startU
    simp only [List.length_append, List.length_map, List.length_replicate, ra.length]
  · rcases at_ i _ e with ⟨d', e1, q⟩ | q
    · cases q
      obtain ⟨v, e2, rv⟩ := ra.get e1
      have hv : i < vs.length := (List.getElem?_eq_some_iff.mp e2).1
      refine ⟨v, ?_, rv.keep (.less le)⟩
      unfold L2.start
      rw [List.getElem?_append_left (by simpa using hv), List.getElem?_map, e2]
      rfl
    · cases q
  · obtain ⟨ns, t, r, h1, h2, h3, h4⟩ := pn p c e
    exact ⟨ns, t, r, h1, h2, fun z => h3 (le _ z), h4⟩
section
variable {P : Program} {w : World} {K : PySem.W.Frag} {mg : Str → Option Value} {base : Heap}
theorem fnU {x qual : Str} {params : Arguments} {body : List Stmt} {scope : Scope} {dvs : List V} {kws : List (Str × V)} {f : Addr} {fd : FuncData} {N ps : List Str} {k : Nat} {usp : USp} (F : FunD K x qual params body scope dvs kws f fd) (S : FnScope N ps scope)
    (len : ∀ ds pen n Q E, usp ds pen n Q E → ds.length = ps.length)
    (hbody : ∀ (cdv : Value) (A : Around) (outer : List Env) (s : Shared) (H : Hp) (E : XK) (O0 : Ad) (pen : PenT) (PX : UX → Nat → Prop),
      RG k (cxOf (L2.CX P w) P w K mg base N qual scope f cdv A outer s H E).A →
      Takes (cxOf (L2.CX P w) P w K mg base N qual scope f cdv A outer s H E) (LW K O0 H fun x ρ => ρ.pen = pen ∧ PX x ρ.fuel) →
      ∃ u, UPB (cxOf (L2.CX P w) P w K mg base N qual scope f cdv A outer s H E) O0 H body u ∧
        ∀ ds n (Q : D → Nat → Prop), usp ds pen n Q PX → u { nx := fun ρ => Q .non ρ.fuel, rt := Q } ⟨startU N ds, pen, n⟩) :
    FnG P w K mg base (k + 1) f fd ps (LSp K usp) := by
  refine fnG_mk F S (fun vs H Q E ⟨ds, O, pen, n, PD, PX, ra, _, _, _, hu, _⟩ => by rw [ra.length]; exact len _ _ _ _ _ hu) ?_
  intro cdv A outer s H vs Q E hr ⟨ds, O, pen, n, PD, PX, ra, tr, hp, pn, hu, hQ, hE⟩
  have lenN : ps.length ≤ N.length := by have := congrArg List.length S.pre; rw [List.length_take] at this; omega
  have tk : Takes (cxOf (L2.CX P w) P w K mg base N qual scope f cdv A outer s H E) (LW K O H fun x ρ => ρ.pen = pen ∧ PX x ρ.fuel) := by
    refine Takes.imp (takes_of rfl rfl rfl rfl) ?_
    rintro cls d σ H' ⟨ρ', x, r', rfl, xr, e, hx⟩
    have fr := r'.fr
    have pn' := r'.pen
    rw [e] at fr pn'
    exact hE x _ hx d H' fr (pn'.less fun b h => .inl h) (xr.keep (.less fun b h => .inl h))
  obtain ⟨u, hb, hr'⟩ := hbody cdv A outer s H E O pen PX hr tk
  · refine ⟨_, hb, ⟨startU N ds, pen, n⟩, _, R.start (by rw [len _ _ _ _ _ hu]; exact lenN) ra tr hp pn, hr' ds n PD hu, fun ρ' hx σ' H' r' t' => ?_, fun _ z => z.elim, fun _ z => z.elim, ⟨fun d m hd v H' fr pn' rp => ?_, fun _ _ z => z.elim⟩⟩
    · have e : ρ'.pen = pen := t'.pn
      have fr := r'.fr
      have pn' := r'.pen
      rw [e] at fr pn'
      exact hQ .non _ hx .non H' fr (pn'.less fun b h => .inl h) .non
    · exact hQ d m hd v H' fr (pn'.less fun b h => .inl h) (rp.keep (.less fun b h => .inl h))
end
end U

set_option Elab.async false
set_option linter.all false
set_option maxRecDepth 100000
set_option maxHeartbeats 4000000
/-! A def of the module by its name; constants. -/
namespace U
open PySem PySem.Spec L2
open PyProof.Rows hiding St

/-- the module's def x keeps the promise -/
structure Fn (P : Program) (w : World) (K : PySem.W.Frag) (mg : Str → Option Value) (base : Heap) (k : Nat) (x : Str) (st : Stmt) (ps : List Str) (usp : USp) : Prop where
  ex : ∃ fd, FnG P w K mg base k (He.fAd K (x, none)) fd ps (LSp K usp) ∧ Binds K fd ps [] ∧ PySem.W.keepIn K (.ref (He.fAd K (x, none))) = true ∧ FunD K x x (defArgs st) (defBody st) (defScope st) [] [] (He.fAd K (x, none)) fd
  gl : mg x = some (.ref (He.fAd K (x, none)))
section
variable {X : Cx} {O0 : Ad} {H0 : Hp} {a b c e : Expr} {ua ub uc : UE} {pos p : Pos} {W : WU}
theorem up_fn {j k : Nat} {x : Str} {ps : List Str} {usp : USp} {es : List Expr} {u : UA} {sd : Stmt} (h : Fn X.prog X.w X.K X.mg X.base j x sd ps usp) (hr : RG k X.A) (hjk : j ≤ k) (hg : Gl X x) (tk : Takes X (LW X.K O0 H0 W)) (ha : UPL X O0 H0 (e :: es) u)
    (hdb : (x == ("__debug__" : Str)) = false := by decide) (he : starEach (e :: es) X.env = (false, eval e X.env) :: starEach es X.env := by rfl) (hpl : (backTo pos (starEach es X.env)).any (·.1) = false := by rfl) :
    UPE X O0 H0 (.Call (.Name x p) (e :: es) [] pos) (uCall usp [] W u) := by
  obtain ⟨fd, G, hb, kp, _⟩ := h.ex
  exact up_call G (hr.mono hjk) hg h.gl kp hb .nil (fun _ _ => .nil) tk ha hdb he hpl
theorem up_fn0 {j k : Nat} {x : Str} {ps : List Str} {usp : USp} {sd : Stmt} (h : Fn X.prog X.w X.K X.mg X.base j x sd ps usp) (hr : RG k X.A) (hjk : j ≤ k) (hg : Gl X x) (tk : Takes X (LW X.K O0 H0 W)) (hdb : (x == ("__debug__" : Str)) = false := by decide) :
    UPE X O0 H0 (.Call (.Name x p) [] [] pos) (uCall usp [] W uNil) := by
  obtain ⟨fd, G, hb, kp, _⟩ := h.ex
  exact up_call0 G (hr.mono hjk) hg h.gl kp hb .nil (fun _ _ => .nil) tk hdb
theorem up_gi {x : Str} {i : Int} (hg : Gl X x) (h : ∃ t, X.mg x = some (.int i t)) (hdb : (x == ("__debug__" : Str)) = false := by decide) : UPE X O0 H0 (.Name x pos) (uC (.int i)) := by
  obtain ⟨t, h⟩ := h
  exact up_glob hg h (v := .int i) ⟨t, rfl⟩ (fun _ _ => .int i) hdb
theorem up_gs {x z : Str} (hg : Gl X x) (h : ∃ t, X.mg x = some (.str z t)) (hdb : (x == ("__debug__" : Str)) = false := by decide) : UPE X O0 H0 (.Name x pos) (uC (.str z)) := by
  obtain ⟨t, h⟩ := h
  exact up_glob hg h (v := .str z) ⟨t, rfl⟩ (fun _ _ => .str z) hdb
theorem up_bt {x : Str} {n : String} (hg : Gl X x) (hm : X.mg x = none) (hv : bootBuiltins x = some (.type n)) (hn : x ≠ "__name__" := by decide) (hdb : (x == ("__debug__" : Str)) = false := by decide) : UPE X O0 H0 (.Name x pos) (uC (.ty n)) :=
  up_bltn hg hm hv (v := .ty n) rfl (fun _ _ => .ty n) hn hdb
end
section
variable {P : Program} {w : World} {K : PySem.W.Frag} {mg : Str → Option Value} {base : Heap}
theorem fn_mk {x : Str} {st : Stmt} {fd : FuncData} {N ps : List Str} {k : Nat} {usp : USp} (F : FunD K x x (defArgs st) (defBody st) (defScope st) [] [] (He.fAd K (x, none)) fd) (g : mg x = some (.ref (He.fAd K (x, none)))) (S : FnScope N ps (defScope st))
    (hb : Binds K fd ps []) (len : ∀ ds pen n Q E, usp ds pen n Q E → ds.length = ps.length)
    (hbody : ∀ (cdv : Value) (A : Around) (outer : List Env) (s : Shared) (H : Hp) (E : XK) (O0 : Ad) (pen : PenT) (PX : UX → Nat → Prop),
      RG k (cxOf (L2.CX P w) P w K mg base N x (defScope st) (He.fAd K (x, none)) cdv A outer s H E).A →
      Takes (cxOf (L2.CX P w) P w K mg base N x (defScope st) (He.fAd K (x, none)) cdv A outer s H E) (LW K O0 H fun x ρ => ρ.pen = pen ∧ PX x ρ.fuel) →
      ∃ u, UPB (cxOf (L2.CX P w) P w K mg base N x (defScope st) (He.fAd K (x, none)) cdv A outer s H E) O0 H (defBody st) u ∧
        ∀ ds n (Q : D → Nat → Prop), usp ds pen n Q PX → u { nx := fun ρ => Q .non ρ.fuel, rt := Q } ⟨startU N ds, pen, n⟩) :
    Fn P w K mg base (k + 1) x st ps usp := ⟨⟨fd, fnU F S len hbody, hb, F.kp, F⟩, g⟩
end
/-- the wish of a def's own -/
abbrev Wd (pen : PenT) (PX : UX → Nat → Prop) : WU := fun x ρ => ρ.pen = pen ∧ PX x ρ.fuel
end U

set_option Elab.async false
set_option linter.all false
set_option maxRecDepth 100000
set_option maxHeartbeats 4000000
/-! repr, == of unlike tuples, in, [::-1], {}, over data. -/
namespace U
open PySem PySem.Spec L2
open PyProof.Rows hiding St

mutual
/-- no object within: all of it can be read -/
def D.okr : D → Bool
  | .ref _ => false
  | .ty _ => false
  | .exc _ _ => false
  | .cls _ => false
  | .lst ds => D.okrs ds
  | .tup ds => D.okrs ds
  | .dic es => D.okrk es
  | _ => true
def D.okrs : List D → Bool
  | [] => true
  | d :: ds => D.okr d && D.okrs ds
def D.okrk : List (Key × D) → Bool
  | [] => true
  | (_, d) :: ds => D.okr d && D.okrk ds
end
mutual
/-- no list within; dicts may be -/
def D.noSq : D → Bool
  | .lst _ => false
  | .tup ds => D.noSqs ds
  | .dic es => D.noSqk es
  | _ => true
def D.noSqs : List D → Bool
  | [] => true
  | d :: ds => D.noSq d && D.noSqs ds
def D.noSqk : List (Key × D) → Bool
  | [] => true
  | (_, d) :: ds => D.noSq d && D.noSqk ds
end
def kD : Key → PyData
  | .inl i => .int i
  | .inr x => .str x
section
variable {X : Cx} {pins : List (Addr × Obj)} {σ : L2.St} {H : Hp} {s : Shared} {O : Ad}
mutual
theorem Rp.rds (I : Inv X pins σ H s) : ∀ (d : D) (v : V) (u : Value), d.okr = true → Rp X.K O H v d → RelV v u → ∃ as, Reads s.heap u d.py as ∧ (d.noSq = true → sysModules ∉ as)
  | .non, _, _, _, .non, r => by
    cases r
    exact ⟨[], .none, fun _ z => nomatch z⟩
  | .bl b, _, _, _, .bl _, r => by
    cases r
    exact ⟨[], .bool b, fun _ z => nomatch z⟩
  | .int i, _, _, _, .int _, ⟨t, e⟩ => by
    subst e
    exact ⟨[], .int i t, fun _ z => nomatch z⟩
  | .str x, _, _, _, .str _, ⟨t, e⟩ => by
    subst e
    exact ⟨[], .str x t, fun _ z => nomatch z⟩
  | .ref _, _, _, h, _, _ => by simp [D.okr] at h
  | .ty _, _, _, h, _, _ => by simp [D.okr] at h
  | .exc _ _, _, _, h, _, _ => by simp [D.okr] at h
  | .cls _, _, _, h, _, _ => by simp [D.okr] at h
  | .lst ds, _, _, h, .lst l ra, r => by
    cases r
    obtain ⟨its, rv, ⟨ob, m, g1, g2, _, g3⟩, _⟩ := I.list l.sq
    obtain ⟨as, q, _⟩ := RpA.rds I ds _ its (by simpa [D.okr] using h) ra rv
    exact ⟨_, .list g1 g2 g3 q, fun z => by simp [D.noSq] at z⟩
  | .tup ds, _, _, h, .tup l ra, r => by
    cases r
    obtain ⟨its, rv, ⟨ob, g1, g2, m, g3⟩, _⟩ := I.tuple l.sq
    obtain ⟨as, q, n⟩ := RpA.rds I ds _ its (by simpa [D.okr] using h) ra rv
    exact ⟨_, .tuple g1 g2 g3 q, fun z => n (by simpa [D.noSq] using z)⟩
  | .dic es, _, _, h, .dic _ hH rk, r => by
    cases r
    obtain ⟨_, _, ns, vs, kv, dd⟩ := I.hok _ _ hH
    obtain ⟨as, q, n⟩ := RpK.rds I es _ vs (by simpa [D.okr] using h) rk kv
    refine ⟨_, PyProof.V.reads_dictOf (enc := kD) (fun k key hk => ?_) dd q, fun z hm => ?_⟩
    · rcases keyIs_shape hk with ⟨i, t, e1, e2⟩ | ⟨x, t, e1, e2⟩
      · subst e1 e2; exact .int i t
      · subst e1 e2; exact .str x t
    · rcases List.mem_cons.mp hm with e | hm
      · rw [← e] at ns
        simp at ns
      · exact n (by simpa [D.noSq] using z) hm
theorem RpA.rds (I : Inv X pins σ H s) : ∀ (ds : List D) (vs : List V) (us : List Value), D.okrs ds = true → RpA X.K O H vs ds → Vals vs us → ∃ as, ReadsAll s.heap us (D.pys ds) as ∧ (D.noSqs ds = true → sysModules ∉ as)
  | [], _, _, _, .nil, r => by
    cases r
    exact ⟨[], .nil, fun _ z => nomatch z⟩
  | d :: ds, _, _, h, .cons a b, r => by
    simp only [D.okrs, Bool.and_eq_true] at h
    cases r with
    | cons r1 r2 =>
      obtain ⟨as, q1, n1⟩ := Rp.rds I d _ _ h.1 a r1
      obtain ⟨bs, q2, n2⟩ := RpA.rds I ds _ _ h.2 b r2
      refine ⟨_, .cons q1 q2, fun z hm => ?_⟩
      simp only [D.noSqs, Bool.and_eq_true] at z
      exact (List.mem_append.mp hm).elim (n1 z.1) (n2 z.2)
theorem RpK.rds (I : Inv X pins σ H s) : ∀ (es : List (Key × D)) (vs : List (Key × V)) (us : List (Key × Value)), D.okrk es = true → RpK X.K O H vs es → KV vs us → ∃ as, PyProof.V.PairsRead s.heap kD us (D.pyk es) as ∧ (D.noSqk es = true → sysModules ∉ as)
  | [], _, _, _, .nil, r => by
    cases r
    exact ⟨[], .nil, fun _ z => nomatch z⟩
  | (k, d) :: es, _, _, h, .cons a b, r => by
    simp only [D.okrk, Bool.and_eq_true] at h
    cases r with
    | @cons _ q0 _ _ r1 r2 =>
      obtain ⟨k', u⟩ := q0
      obtain ⟨r1a, r1b⟩ := r1
      cases r1a
      obtain ⟨as, q1, n1⟩ := Rp.rds I d _ _ h.1 a r1b
      obtain ⟨bs, q2, n2⟩ := RpK.rds I es _ _ h.2 b r2
      refine ⟨as ++ bs, ?_, fun z hm => ?_⟩
      · cases k with
        | inl i => exact .cons q1 q2
        | inr x => exact .cons q1 q2
      · simp only [D.noSqk, Bool.and_eq_true] at z
        exact (List.mem_append.mp hm).elim (n1 z.1) (n2 z.2)
end
end

/-! ### repr -/
/-- what repr needs of a datum -/
structure Shw (d : D) : Prop where
  ok : d.okr = true
  sh : d.py.showable = true
  len : d.py.shown.length ≤ sizeLine
  dep : d.py.depth ≤ 60
  dic : d.py.hasDict = true → d.noSq = true
def gRepr : GL
  | [d], Q => Shw d ∧ Q (.str d.py.shown)
  | _, _ => False
section
variable {X : Cx} {O0 : Ad} {H0 : Hp} {a b c e : Expr} {ua ub uc : UE} {pos p : Pos} {W : WU}
theorem call_reprU {k : Nat} (hr : RG k X.A) : CallR X (.builtin "repr") (lCR X.K gRepr) := by
  intro pins s σ H xs us Q I rx ⟨O, ds, PQ, tr, ha, hg, hP⟩
  unfold gRepr at hg
  split at hg
  · rename_i d
    obtain ⟨w, hq⟩ := hg
    cases ha with
    | cons h t =>
      cases t
      cases rx with
      | cons r1 r2 =>
        cases r2
        have fin : ∀ t h' tk, (∀ b o, s.heap.get? b = some o → h'.get? b = some o) → EP X pins σ Q (Value.str d.py.shown t) { s with heap := h', toks := tk } := fun t h' tk hk =>
          ⟨.str d.py.shown, H, I.kept (t' := tk) hk, ⟨t, rfl⟩, hP _ hq _ _ (Same.refl _) (.str _)⟩
        obtain ⟨as, q, n⟩ := h.rds I d _ _ w.ok r1
        have big : ∀ {l : Addr}, Reads s.heap (.ref l) d.py as → wpAny (model X.prog X.w) X.A (PySem.call (.builtin "repr") [.ref l]) (EP X pins σ Q) X.xe s := fun q =>
          PySem.repr_of_reads' q w.sh (fun z => n (w.dic z)) hr.gd (by have := hr.room.un; have := w.dep; omega) (fun _ _ e => e) (fun h' u tk hk => fin u h' tk hk) w.len
        cases h with
        | non =>
          cases r1
          exact PySem.P.repr_of_none (fin _ s.heap _ fun _ _ e => e)
        | bl z =>
          cases r1
          exact PySem.P.repr_of_bool (fin _ s.heap _ fun _ _ e => e)
        | int i =>
          obtain ⟨t, e⟩ := r1
          subst e
          have z : i.natAbs.log2 < 1920 := by
            have := w.sh
            simp only [D.py, PyData.showable] at this
            exact of_decide_eq_true this
          exact PySem.P.repr_of_int z (fin _ s.heap _ fun _ _ e => e)
        | str x =>
          obtain ⟨t, e⟩ := r1
          subst e
          have z := w.len
          simp only [D.py, PyData.shown] at z
          refine PySem.P.repr_of_str ?_ z
          have f := fin s.toks s.heap (s.toks + 1) fun _ _ e => e
          simp only [D.py, PyData.shown] at f
          exact f
        | lst l a => cases r1; exact big q
        | tup l a => cases r1; exact big q
        | dic l a z => cases r1; exact big q
        | ref _ => have := w.ok; simp [D.okr] at this
        | ty _ => have := w.ok; simp [D.okr] at this
        | exc _ _ => have := w.ok; simp [D.okr] at this
        | excf _ _ _ _ _ => have := w.ok; simp [D.okr] at this
        | cls _ => have := w.ok; simp [D.okr] at this
  · exact hg.elim
end
end U

set_option Elab.async false
set_option linter.all false
set_option maxRecDepth 100000
set_option maxHeartbeats 4000000
/-! == and in of data that need not be flat to its end; [::-1]; {}. -/
namespace U
open PySem PySem.Spec L2
open PyProof.Rows hiding St

/-- these two can be compared: flat ones, or two tuples that are flat as far as both go -/
def D.cq (x y : D) : Bool := (D.flat 60 x && D.flat 60 y) || match x, y with
  | .tup a, .tup b => D.flats 59 (a.take b.length) && D.flats 59 (b.take a.length)
  | _, _ => false
theorem eqvs_len : ∀ {xs ys : List D}, xs.length ≠ ys.length → D.eqvs xs ys = false
  | [], [], h => absurd rfl h
  | [], _ :: _, _ => by simp [D.eqvs]
  | _ :: _, [], _ => by simp [D.eqvs]
  | x :: xs, y :: ys, h => by
    simp only [D.eqvs]
    rw [eqvs_len (xs := xs) (ys := ys) (fun e => h (by rw [List.length_cons, List.length_cons, e])), Bool.and_false]
/-- place by place -/
def pq (xs ys : List D) (i : Nat) : Bool := match xs[i]?, ys[i]? with
  | some x, some y => D.eqv x y
  | _, _ => true
theorem eqvs_pq : ∀ (xs ys : List D), ((List.range (min xs.length ys.length)).all (pq xs ys) && xs.length == ys.length) = D.eqvs xs ys
  | [], [] => by simp [D.eqvs]
  | [], _ :: _ => by simp [D.eqvs]
  | _ :: _, [] => by simp [D.eqvs]
  | x :: xs, y :: ys => by
    have ih := eqvs_pq xs ys
    have m : min (x :: xs).length (y :: ys).length = min xs.length ys.length + 1 := by
      rw [List.length_cons, List.length_cons]; omega
    rw [m, List.range_succ_eq_map, List.all_cons, List.all_map]
    have f : (pq (x :: xs) (y :: ys) ∘ Nat.succ) = pq xs ys := by
      funext i
      simp [pq]
    have z : pq (x :: xs) (y :: ys) 0 = D.eqv x y := by simp [pq]
    have l : ((x :: xs).length == (y :: ys).length) = (xs.length == ys.length) := by simp
    rw [f, z, l, Bool.and_assoc, ih]
    simp only [D.eqvs]
section
variable {X : Cx} {pins : List (Addr × Obj)} {σ : L2.St} {H : Hp} {s : Shared} {O : Ad}
theorem flat_eqAt (I : Inv X pins σ H s) {A : Around} {x y : D} {v w : V} {u z : Value} {n : Nat} (hx : D.flat n x = true) (hy : D.flat n y = true) (hn : n ≤ 60) (rx : Rp X.K O H v x) (ry : Rp X.K O H w y) (r1 : RelV v u) (r2 : RelV w z)
    (hu : A.units + 62 < cLine) : SeqAt.EqAt A s u z (D.eqv x y) := by
  obtain ⟨as, q1⟩ := Dp.reads I _ v u (rx.dp n _ _ hx) r1
  obtain ⟨bs, q2⟩ := Dp.reads I _ w z (ry.dp n _ _ hy) r2
  rw [← eqv_py n n x y hx hy]
  obtain ⟨l1, d1⟩ := flat_lay n x hx
  obtain ⟨l2, d2⟩ := flat_lay n y hy
  exact SeqAt.eqAt_reads _ _ A s u z as bs q1 q2 l1 l2 (by omega)
theorem at_paired {vs : List V} {us : List Value} {ds : List D} (r : Vals vs us) (a : RpA X.K O H vs ds) {j : Nat} (h : j < us.length) : ∃ v d, ds[j]? = some d ∧ Rp X.K O H v d ∧ RelV v us[j] := by
  have hl := r.length
  have hj : j < vs.length := by omega
  have e : vs[j]? = some vs[j] := List.getElem?_eq_getElem hj
  obtain ⟨d, e1, rd⟩ := a.got e
  obtain ⟨u, e2, ru⟩ := r.get e
  rw [List.getElem?_eq_getElem h] at e2
  cases e2
  exact ⟨_, d, e1, rd, ru⟩
theorem flats_at : ∀ {n : Nat} {ds : List D} {j : Nat} {d : D}, D.flats n ds = true → ds[j]? = some d → D.flat n d = true
  | _, [], _, _, _, e => by simp at e
  | n, x :: xs, 0, d, h, e => by
    simp only [D.flats, Bool.and_eq_true] at h
    cases (Option.some.inj e)
    exact h.1
  | n, x :: xs, j + 1, d, h, e => by
    simp only [D.flats, Bool.and_eq_true] at h
    exact flats_at h.2 (by simpa using e)
theorem cq_eqAt (I : Inv X pins σ H s) {A : Around} {x y : D} {v w : V} {u z : Value} (h : D.cq x y = true) (rx : Rp X.K O H v x) (ry : Rp X.K O H w y) (r1 : RelV v u) (r2 : RelV w z) (hu : A.units + 63 < cLine) : SeqAt.EqAt A s u z (D.eqv x y) := by
  unfold D.cq at h
  rcases Bool.or_eq_true_iff.mp h with h | h
  · rw [Bool.and_eq_true] at h
    exact flat_eqAt I h.1 h.2 (Nat.le_refl _) rx ry r1 r2 (by omega)
  · cases x <;> cases y <;> try exact absurd h Bool.false_ne_true
    rename_i xs ys _
    have h : D.flats 59 (xs.take ys.length) = true ∧ D.flats 59 (ys.take xs.length) = true := by simpa using h
    cases rx with
    | tup lx ax => cases ry with
      | tup ly ay =>
        rename_i a vs b ws
        cases r1
        cases r2
        obtain ⟨its, p1, ⟨o1, k1, k2, m1, k3⟩, _⟩ := I.tuple lx.sq
        obtain ⟨jts, p2, ⟨o2, g1, g2, m2, g3⟩, _⟩ := I.tuple ly.sq
        have n1 : its.length = xs.length := by rw [← p1.length, ax.length]
        have n2 : jts.length = ys.length := by rw [← p2.length, ay.length]
        have it : ∀ (j : Nat) (h1 : j < its.length) (h2 : j < jts.length), SeqAt.EqAt A.in1 s its[j] jts[j] (pq xs ys j) := fun j h1 h2 => by
          obtain ⟨v1, d1, e1, rd1, rv1⟩ := at_paired p1 ax h1
          obtain ⟨v2, d2, e2, rd2, rv2⟩ := at_paired p2 ay h2
          have f1 : D.flat 59 d1 = true := flats_at (j := j) h.1 (by rw [List.getElem?_take, if_pos (by omega)]; exact e1)
          have f2 : D.flat 59 d2 = true := flats_at (j := j) h.2 (by rw [List.getElem?_take, if_pos (by omega)]; exact e2)
          have := flat_eqAt I (A := A.in1) f1 f2 (by omega) rd1 rd2 rv1 rv2 (by show A.units + 1 + 62 < cLine; omega)
          unfold pq
          rw [e1, e2]
          exact this
        show SeqAt.EqAt A s (.ref a) (.ref b) (D.eqv (.tup xs) (.tup ys))
        simp only [D.eqv]
        by_cases e : a = b
        · subst e
          -- one and the same
          have e2 := I.tuple_inj lx.sq ly.sq
          subst e2
          have ex : D.eqvs xs ys = true := by
            have hl : xs.length = ys.length := by rw [← ax.length, ay.length]
            rw [hl, List.take_length] at h
            rw [← hl, List.take_length] at h
            have c : PyData.eqvAll (D.pys xs) (D.pys ys) = true := by
              obtain ⟨as, q1⟩ := Dp.reads I _ (.ref a) (.ref a) (Rp.dp (K := X.K) (O := O) 60 (.tup xs) _ (by simpa [D.flat] using h.1) (.tup lx ax)) rfl
              obtain ⟨bs, q2⟩ := Dp.reads I _ (.ref a) (.ref a) (Rp.dp (K := X.K) (O := O) 60 (.tup ys) _ (by simpa [D.flat] using h.2) (.tup ly ay)) rfl
              obtain ⟨l1, _⟩ := flats_lay 59 xs h.1
              have e : PyData.tuple (D.pys xs) = PyData.tuple (D.pys ys) := by
                have := SeqAt.Reads.unique _ _ _ _ _ (show PyData.canLay0 (D.py (.tup xs)) = true by simp only [D.py, PyData.canLay0]; exact l1) q1 q2
                simpa only [D.py] using this
              injection e with e
              rw [← e]
              exact SeqAt.eqvAll_refl _ l1
            rw [← eqvs_py 59 59 xs ys h.1 h.2]
            exact c
          rw [ex]
          exact SeqAt.EqAt.same _
        · rw [← eqvs_pq, ← n1, ← n2]
          refine SeqAt.EqAt.of_refs e ?_
          have R := SeqAt.RcAt.tuples (A := A) (s := s) (e := pq xs ys) ⟨o1, k1, k2, m1, k3⟩ ⟨o2, g1, g2, m2, g3⟩ (by omega) (fun j h1 h2 => by simpa using it j (by simpa using h1) (by simpa using h2))
          simpa using R
end

mutual
theorem py_inj : ∀ (n m : Nat) (x y : D), D.flat n x = true → D.flat m y = true → x.py = y.py → x = y
  | _, _, .dic _, _, h, _, _ => by simp [D.flat] at h
  | _, _, .ref _, _, h, _, _ => by simp [D.flat] at h
  | _, _, .ty _, _, h, _, _ => by simp [D.flat] at h
  | _, _, .exc _ _, _, h, _, _ => by simp [D.flat] at h
  | _, _, .cls _, _, h, _, _ => by simp [D.flat] at h
  | _, _, .non, y, _, h, e => by cases y <;> simp_all [D.py, D.flat]
  | _, _, .bl _, y, _, h, e => by cases y <;> simp_all [D.py, D.flat]
  | _, _, .int _, y, _, h, e => by cases y <;> simp_all [D.py, D.flat]
  | _, _, .str _, y, _, h, e => by cases y <;> simp_all [D.py, D.flat]
  | n + 1, m, .lst xs, y, h, g, e => by
    cases y with
    | lst ys => cases m with
      | zero => simp [D.flat] at g
      | succ m =>
        simp only [D.py, PyData.list.injEq] at e
        rw [pys_inj n m xs ys (by simpa [D.flat] using h) (by simpa [D.flat] using g) e]
    | _ => simp_all [D.py, D.flat]
  | n + 1, m, .tup xs, y, h, g, e => by
    cases y with
    | tup ys => cases m with
      | zero => simp [D.flat] at g
      | succ m =>
        simp only [D.py, PyData.tuple.injEq] at e
        rw [pys_inj n m xs ys (by simpa [D.flat] using h) (by simpa [D.flat] using g) e]
    | _ => simp_all [D.py, D.flat]
  | 0, _, .lst _, _, h, _, _ => by simp [D.flat] at h
  | 0, _, .tup _, _, h, _, _ => by simp [D.flat] at h
theorem pys_inj : ∀ (n m : Nat) (xs ys : List D), D.flats n xs = true → D.flats m ys = true → D.pys xs = D.pys ys → xs = ys
  | _, _, [], [], _, _, _ => rfl
  | _, _, [], _ :: _, _, _, e => by simp [D.pys] at e
  | _, _, _ :: _, [], _, _, e => by simp [D.pys] at e
  | n, m, x :: xs, y :: ys, h, g, e => by
    simp only [D.flats, Bool.and_eq_true] at h g
    simp only [D.pys, List.cons.injEq] at e
    rw [py_inj n m x y h.1 g.1 e.1, pys_inj n m xs ys h.2 g.2 e.2]
end

/-! ### the operators -/
def gEqV : G2
  | .str a, .str b, Q => Q (.bl (a == b))
  | x, y, Q => D.cq x y = true ∧ Q (.bl (D.eqv x y))
def gNeV : G2
  | .str a, .str b, Q => Q (.bl (!(a == b)))
  | x, y, Q => D.cq x y = true ∧ Q (.bl (!D.eqv x y))
def D.items : D → Option (List D)
  | .lst ds => some ds
  | .tup ds => some ds
  | _ => none
def gIn : G2 := fun x c Q => match c.items with
  | some ds => (∀ d ∈ ds, D.flat 60 d = true ∧ D.cq d x = true) ∧ Q (.bl (ds.any fun d => D.eqv d x))
  | none => False
def gNotIn : G2 := fun x c Q => match c.items with
  | some ds => (∀ d ∈ ds, D.flat 60 d = true ∧ D.cq d x = true) ∧ Q (.bl (!ds.any fun d => D.eqv d x))
  | none => False
section
variable {X : Cx}
theorem op_eqV (hu : X.A.units + 64 < cLine) : OpR X (compareOp .Eq) (lR2 X.K gEqV) := by
  intro pins s σ H x y v u Q I rx ry ⟨O, dx, dy, P, tr, hx, hy, hg, hP⟩
  by_cases hf : D.flat 60 dx = true ∧ D.flat 60 dy = true
  · refine op_eqU hu pins s σ H x y v u Q I rx ry ⟨O, dx, dy, P, tr, hx, hy, ?_, hP⟩
    cases dx <;> cases dy <;> first
      | exact hg
      | exact ⟨hf, hg.2⟩
  · cases dx <;> cases dy <;> first
      | exact op_eqU hu pins s σ H x y v u Q I rx ry ⟨O, _, _, P, tr, hx, hy, hg, hP⟩
      | (have hc := hg.1
         unfold D.cq at hc
         exact absurd (by simpa using hc) hf)
      | skip
    rename_i xs ys
    obtain ⟨hc, hq⟩ := hg
    have fin := hP _ hq (.bl (D.eqv (.tup xs) (.tup ys))) H (Same.refl _) (.bl _)
    have hc2 : D.flats 59 (xs.take ys.length) = true ∧ D.flats 59 (ys.take xs.length) = true := by
      unfold D.cq at hc
      rcases Bool.or_eq_true_iff.mp hc with z | z
      · exact absurd (by simpa using z) hf
      · simpa using z
    cases hx with
    | tup lx ax => cases hy with
      | tup ly ay =>
        cases rx
        cases ry
        obtain ⟨its, p1, ⟨o1, k1, k2, m1, k3⟩, _⟩ := I.tuple lx.sq
        obtain ⟨jts, p2, ⟨o2, g1, g2, m2, g3⟩, _⟩ := I.tuple ly.sq
        have n1 : its.length = xs.length := by rw [← p1.length, ax.length]
        have n2 : jts.length = ys.length := by rw [← p2.length, ay.length]
        refine SeqAt.eq_tupleAt (e := pq xs ys) ⟨o1, k1, k2, m1, k3⟩ ⟨o2, g1, g2, m2, g3⟩ (by omega) (fun j h1 h2 => ?_) ?_
        · obtain ⟨v1, d1, e1, rd1, rv1⟩ := at_paired p1 ax (j := j) (by simpa using h1)
          obtain ⟨v2, d2, e2, rd2, rv2⟩ := at_paired p2 ay (j := j) (by simpa using h2)
          have h1' : j < its.length := by simpa using h1
          have h2' : j < jts.length := by simpa using h2
          have f1 : D.flat 59 d1 = true := flats_at (j := j) hc2.1 (by rw [List.getElem?_take, if_pos (by omega)]; exact e1)
          have f2 : D.flat 59 d2 = true := flats_at (j := j) hc2.2 (by rw [List.getElem?_take, if_pos (by omega)]; exact e2)
          have q := flat_eqAt I (A := X.A.in1) f1 f2 (by omega) rd1 rd2 rv1 rv2 (by show X.A.units + 1 + 62 < cLine; omega)
          unfold pq
          rw [e1, e2]
          simpa using q
        · refine ⟨.bl (D.eqv (.tup xs) (.tup ys)), H, I, ?_, fin⟩
          show Value.bool _ = Value.bool _
          simp only [D.eqv, List.size_toArray, n1, n2]
          rw [eqvs_pq]
/-- what `in` asks of each item -/
theorem in_core {pins : List (Addr × Obj)} {σ : L2.St} {H : Hp} {s : Shared} {O : Ad} {x : V} {v : Value} {dx : D} {ds : List D} (hu : X.A.units + 65 < cLine) (I : Inv X pins σ H s) (rx : RelV x v) (hx : Rp X.K O H x dx) (hc : ∀ d ∈ ds, D.flat 60 d = true ∧ D.cq d dx = true)
    {its : List Value} {vs : List V} (p : Vals vs its) (a : RpA X.K O H vs ds) : ∃ f : Value → Bool, (∀ z, z ∈ its.toArray → SeqAt.EqAt X.A.in1 s z v (f z)) ∧ its.toArray.any f = ds.any fun d => D.eqv d dx := by
  classical
  let f : Value → Bool := fun z => if h : ∃ d, D.flat 60 d = true ∧ d.py = SeqAt.readOf s.heap z then D.eqv h.choose dx else false
  have at_ : ∀ (j : Nat) (h : j < its.length), ∃ d w, ds[j]? = some d ∧ Rp X.K O H w d ∧ RelV w its[j] ∧ f its[j] = D.eqv d dx := fun j h => by
    obtain ⟨w, d, e1, rd, rw1⟩ := at_paired p a h
    have fd := (hc d (List.mem_of_getElem? e1)).1
    obtain ⟨as, q⟩ := Dp.reads I _ w _ (rd.dp 60 _ _ fd) rw1
    have ro : SeqAt.readOf s.heap its[j] = d.py := SeqAt.readOf_eq (flat_lay 60 d fd).1 q
    have ex : ∃ d, D.flat 60 d = true ∧ d.py = SeqAt.readOf s.heap its[j] := ⟨d, fd, ro.symm⟩
    refine ⟨d, w, e1, rd, rw1, ?_⟩
    show (if h : ∃ d, D.flat 60 d = true ∧ d.py = SeqAt.readOf s.heap its[j] then D.eqv h.choose dx else false) = _
    rw [dif_pos ex]
    obtain ⟨f1, e2⟩ := ex.choose_spec
    rw [py_inj 60 60 _ d f1 fd (e2.trans ro)]
  refine ⟨f, fun z hz => ?_, ?_⟩
  · obtain ⟨j, hj, e⟩ := List.getElem_of_mem (by simpa using hz : z ∈ its)
    obtain ⟨d, w, e1, rd, rw1, ef⟩ := at_ j hj
    rw [← e, ef]
    exact cq_eqAt I (hc _ (List.mem_of_getElem? e1)).2 rd hx rw1 rx (by show X.A.units + 1 + 63 < cLine; omega)
  · have hl : its.length = ds.length := by rw [← p.length, a.length]
    have e : its.map f = ds.map fun d => D.eqv d dx := by
      refine List.ext_getElem (by simpa using hl) fun i h1 h2 => ?_
      rw [List.getElem_map, List.getElem_map]
      obtain ⟨d, w, e1, _, _, ef⟩ := at_ i (by simpa using h1)
      rw [ef]
      rw [List.getElem?_eq_getElem (by simpa using h2)] at e1
      cases e1
      rfl
    have := congrArg (fun l => l.any id) e
    simpa [List.any_map, Function.comp_def] using this
theorem op_inU {k : Nat} (hr : RG k X.A) : OpR X (compareOp .In) (lR2 X.K gIn) := by
  intro pins s σ H x y v u Q I rx ry ⟨O, dx, dy, P, tr, hx, hy, hg, hP⟩
  have hu : X.A.units + 65 < cLine := by have := hr.room.un; omega
  unfold gIn at hg
  split at hg
  · rename_i ds e
    obtain ⟨hc, hq⟩ := hg
    have fin := hP _ hq (.bl (ds.any fun d => D.eqv d dx)) H (Same.refl _) (.bl _)
    cases hy <;> cases e
    · rename_i l a
      cases ry
      obtain ⟨its, p1, pl, _⟩ := I.list l.sq
      obtain ⟨f, h1, h2⟩ := in_core hu I rx hx hc p1 a
      refine SeqAt.in_listAt f pl.isList h1 ⟨.bl _, H, I, rfl, ?_⟩
      rw [h2]
      exact fin
    · rename_i l a
      cases ry
      obtain ⟨its, p1, ⟨o1, k1, k2, m1, k3⟩, _⟩ := I.tuple l.sq
      obtain ⟨f, h1, h2⟩ := in_core hu I rx hx hc p1 a
      refine SeqAt.in_tupleAt f ⟨o1, k1, k2, m1, k3⟩ h1 ⟨.bl _, H, I, rfl, ?_⟩
      rw [h2]
      exact fin
  · exact hg.elim
theorem op_notInU {k : Nat} (hr : RG k X.A) : OpR X (compareOp .NotIn) (lR2 X.K gNotIn) := by
  intro pins s σ H x y v u Q I rx ry ⟨O, dx, dy, P, tr, hx, hy, hg, hP⟩
  have hu : X.A.units + 65 < cLine := by have := hr.room.un; omega
  unfold gNotIn at hg
  split at hg
  · rename_i ds e
    obtain ⟨hc, hq⟩ := hg
    have fin := hP _ hq (.bl (!ds.any fun d => D.eqv d dx)) H (Same.refl _) (.bl _)
    cases hy <;> cases e
    · rename_i l a
      cases ry
      obtain ⟨its, p1, pl, _⟩ := I.list l.sq
      obtain ⟨f, h1, h2⟩ := in_core hu I rx hx hc p1 a
      refine SeqAt.notIn_listAt f pl.isList h1 ⟨.bl _, H, I, rfl, ?_⟩
      rw [h2]
      exact fin
    · rename_i l a
      cases ry
      obtain ⟨its, p1, ⟨o1, k1, k2, m1, k3⟩, _⟩ := I.tuple l.sq
      obtain ⟨f, h1, h2⟩ := in_core hu I rx hx hc p1 a
      refine SeqAt.notIn_tupleAt f ⟨o1, k1, k2, m1, k3⟩ h1 ⟨.bl _, H, I, rfl, ?_⟩
      rw [h2]
      exact fin
  · exact hg.elim
theorem op_neV (hu : X.A.units + 64 < cLine) : OpR X (compareOp .NotEq) (lR2 X.K gNe) := op_neU hu
end

/-! ### t[::-1] -/
section
variable {prog : Program} {w : World} {A : Around} {E : Value → Shared → Prop} {s : Shared}
theorem rev_places (n : Nat) : Builtin.Slice.slicePlaces ((n : Int) - 1) (-1) (-1) = n := by
  unfold Builtin.Slice.slicePlaces
  rw [if_neg (by decide)]
  by_cases h : n = 0
  · subst h; decide
  · rw [if_pos (by omega), show (-(-1) : Int) = 1 by decide, Int.ediv_one]
    omega
theorem rev_applied {sl : Addr} {vs : Value} {n : Nat} {Q : Int × Int × Nat → Shared → Prop} (hs : s.heap.IsSliceOf sl .none .none vs) (ps : IsPart vs (some (-1)))
    (h : Q ((n : Int) - 1, -1, n) s) : wpAny (model prog w) A (Builtin.Slice.sliceApplied (.ref sl) (pure (n : Int))) Q E s := by
  obtain ⟨o, h1, h2, h3⟩ := id hs
  unfold Builtin.Slice.sliceApplied Builtin.Slice.sliceFields
  refine wpAny_bind (wpAny_bind (wpAny_field h1 h3 rfl (wpAny_bind (wpAny_field h1 h3 rfl (wpAny_bind (wpAny_field h1 h3 rfl (wpAny_pure ?_)))))))
  refine wpAny_bind (HT.slicePart_ ps ?_)
  show wpAny _ _ (if ((-1 : Int) == 0) = true then _ else _) _ _ s
  rw [if_neg (by decide)]
  refine wpAny_bind (slicePart_none (wpAny_bind (slicePart_none (wpAny_bind (wpAny_pure ?_)))))
  show wpAny _ _ (pure ((n : Int) - 1, (-1 : Int), Builtin.Slice.slicePlaces ((n : Int) - 1) (-1) (-1))) _ _ s
  rw [rev_places]
  exact wpAny_pure h
theorem rev_pick (xs : Array Value) : ((List.range xs.size).filterMap fun (m : Nat) => xs[(((xs.size : Int) - 1) + (m : Int) * (-1)).toNat]?).toArray = xs.toList.reverse.toArray := by
  have e : ∀ m ∈ List.range xs.size, (fun (m : Nat) => xs[(((xs.size : Int) - 1) + (m : Int) * (-1)).toNat]?) m = (fun (m : Nat) => xs[xs.size - 1 - m]?) m := fun m hm => by
    have := List.mem_range.mp hm
    show xs[_]? = xs[_]?
    congr 1
    omega
  have e2 : (List.range xs.size).filterMap (fun (m : Nat) => xs[(((xs.size : Int) - 1) + (m : Int) * (-1)).toNat]?) = (List.range xs.size).filterMap (fun (m : Nat) => xs[xs.size - 1 - m]?) := by
    have gen : ∀ (l : List Nat) (f g : Nat → Option Value), (∀ m ∈ l, f m = g m) → l.filterMap f = l.filterMap g := by
      intro l f g
      induction l with
      | nil => intro _; rfl
      | cons a l ih =>
        intro h
        rw [List.filterMap_cons, List.filterMap_cons, h a List.mem_cons_self, ih fun m hm => h m (List.mem_cons_of_mem _ hm)]
    exact gen _ _ _ e
  rw [e2]
  have k := PySem.W.krv_pick xs
  unfold slicePick at k
  rw [PySem.W.krv_bounds] at k
  have k2 : ((sliceRange ((xs.size : Int) - 1) (-1) (-1)).filterMap (xs[·]?)).toArray = xs.toList.reverse.toArray := k
  rw [PySem.W.krv_sliceRange, List.filterMap_map] at k2
  exact k2
theorem getItem_tuple_rev {t sl : Addr} {items : Array Value} {vs : Value} {Q : Value → Shared → Prop} (ht : IsTup s.heap t items) (hs : s.heap.IsSliceOf sl .none .none vs) (ps : IsPart vs (some (-1)))
    (h : Q (.ref s.heap.objs.size) { s with heap := s.heap.push { cls := .type "tuple", data := .seq items.toList.reverse.toArray } }) (hz : items.size ≤ sizeLine) : wpAny (model prog w) A (getItem (.ref t) (.ref sl)) Q E s := by
  have ok : sizeOk (.seq items.toList.reverse.toArray) := by
    show items.toList.reverse.toArray.size ≤ sizeLine
    simpa using hz
  obtain ⟨o, h1, h2, h3⟩ := id hs
  have ty : s.TypeIs (.ref sl) "slice" := ⟨o, h1, h2⟩
  unfold getItem
  try with_reducible refine wpAny_holding ?_
  first | refine wpAny_bind (wpAny_pure ?_) | skip
  refine wpAny_bind (wpAny_sequenceKey ht.typeIs (by decide) (wpAny_bind (wpAny_callSpecial?_slot (name := Str.ofString "__getitem__") ht.typeIs PyProof.Rows.slot_tuple_getitem (wpAny_call_entry PyProof.Rows.slot_tuple_getitem ht.typeIs PyProof.Rows.entry_tuple_getitem ?_ (PyProof.Rows.args_tuple_getitem _ _)))))
  show wpAny _ _ (Builtin.Tuple.tupleItemsOf (.ref t) >>= _) _ _ s
  refine wpAny_bind (tupleItemsOf_ ht (wpAny_bind (wpAny_typeOf ty ?_)))
  rw [if_pos (by decide)]
  refine wpAny_bind (rev_applied hs ps ?_)
  have no : ¬ (((items.size : Int) - 1 == 0 && (-1 : Int) == 1 && items.size == items.size) = true) := by simp
  show wpAny _ _ (if ((items.size : Int) - 1 == 0 && (-1 : Int) == 1 && items.size == items.size) = true then _ else _) _ _ s
  rw [if_neg no, rev_pick]
  first
    | exact wpAny_bind (m := Builtin.Tuple.tupleExact _) (wpAny_newObj_type (wpAny_pure ⟨_, rfl, wpAny_pure h⟩) ok)
    | exact wpAny_bind (m := Builtin.Tuple.tupleExact _) (wpAny_newObj_type (wpAny_bind (wpAny_pure (wpAny_pure ⟨_, rfl, wpAny_pure h⟩))) ok)
    | exact wpAny_bind (wpAny_bind (m := Builtin.Tuple.tupleExact _) (wpAny_newObj_type (wpAny_pure (wpAny_pure ⟨_, rfl, wpAny_pure h⟩)) ok))
    | exact wpAny_bind (wpAny_bind (m := Builtin.Tuple.tupleExact _) (wpAny_newObj_type (wpAny_pure ⟨_, rfl, wpAny_pure h⟩) ok))
end
def uRev (u : UE) : UE := fun ρ Q => u ρ fun d n => match d with
  | .lst ds => Q (.lst ds.reverse) n
  | .tup ds => Q (.tup ds.reverse) n
  | _ => False
section
variable {X : Cx} {O0 : Ad} {H0 : Hp} {a b c e : Expr} {ua ub uc : UE} {pos p : Pos} {W : WU}
theorem up_rev {k : Nat} {p1 p2 p3 : Pos} (he : UPE X O0 H0 e ua) : UPE X O0 H0 (.Subscript e (.Slice none none (some (.UnaryOp .USub (.Constant (.int 1) k p1) p2)) p3) pos) (uRev ua) := by
  refine ⟨fun pins s σ H Q I ⟨ρ, P, r, hu, hP⟩ => ?_⟩
  refine Subscript_ (thn (he.run pins s σ H (fun v H1 => ∃ d n, R X.K O0 H0 σ H1 (ρ.f n) ∧ Frm ρ.pen H H1 ∧ Rp X.K (OO O0 ρ) H1 v d ∧ (match d with
    | .lst ds => P (.lst ds.reverse) n
    | .tup ds => P (.tup ds.reverse) n
    | _ => False)) I ⟨ρ, _, r, hu, fun d n hd v H1 r1 f1 p1 => ⟨d, n, r1, f1, p1, hd⟩⟩) fun v s1 ⟨x, H1, I1, r1, d, n, ρ1, f1, rp, q⟩ => ?_)
  have part : PO X (some (.UnaryOp .USub (.Constant (.int 1) k p1) p2)) (tPart (tUn (rU fun i => .int (-i)) (tC (.int 1)))) := po_some (pe_un un_neg pe_int)
  refine wpAny_Slice (thn (po_none.run pins s1 σ H1 (fun o H2 => o = none ∧ H2 = H1) I1 ⟨rfl, rfl⟩) fun w1 s2 ⟨o1, H2, I2, g1, e1, e2⟩ => ?_)
  subst e1 e2
  refine thn (po_none.run pins s2 σ H2 (fun o H3 => o = none ∧ H3 = H2) I2 ⟨rfl, rfl⟩) fun w2 s3 ⟨o2, H3, I3, g2, e1, e2⟩ => ?_
  subst e1 e2
  refine thn (part.run pins s3 σ H3 (fun o H4 => o = some (-1) ∧ H4 = H3) I3 ⟨1, rfl, -1, rfl, rfl, rfl⟩) fun w3 s4 ⟨o3, H4, I4, g3, e1, e2⟩ => ?_
  subst e1 e2
  have I5 : Inv X pins σ H4 { s4 with heap := s4.heap.push { cls := .type "slice", data := .fields #[w1, w2, w3] } } := I4.kept (t' := s4.toks) fun b ob q => Heap.get?_push_of_some _ q
  show wpAny (model X.prog X.w) X.A (subscriptTail e (.Slice none none (some (.UnaryOp .USub (.Constant (.int 1) k p1) p2)) p3) v (.ref s4.heap.objs.size)) (EP X pins σ Q) X.xe { s4 with heap := s4.heap.push { cls := .type "slice", data := .fields #[w1, w2, w3] } }
  cases rp <;> try exact q.elim
  · rename_i ad xs ds l a
    cases r1
    obtain ⟨its, rv, ht, hz⟩ := I5.list l.sq
    have hlen := rv.length
    refine tail_any (ops := [.ref _, .ref s4.heap.objs.size]) ht.isList.typeIs (PySem.slot_list_getitem.lookup) ?_ (by with_unfolding_all rfl)
    refine wpAny_getItem_list_slice ht.isList (Heap.IsSliceOf.new _ w1 w2 w3) g1 g2 g3 (by decide) ?_ (by rw [List.size_toArray]; omega)
    rw [PySem.W.krv_pick]
    have nw := I5.hok.fresh (Nat.le_refl _)
    have sm := Same.new (o := HO.lst xs.reverse) nw
    refine ⟨.ref _, _, I5.laid (t' := s4.toks) (o := .lst xs.reverse) (fun b ob q => Heap.get?_push_of_some _ q) (Nat.le_refl _) ⟨by rw [List.length_reverse]; exact hz, _, 0, rv.reverse, Heap.get?_push_size _ rfl⟩, rfl, ?_⟩
    exact hP _ n q _ _ (ρ1.same sm) (f1.trans (.of sm)) (.lst ⟨ρ1.fresh nw, upd_same⟩ (a.reverse.keep (.same sm)))
  · rename_i ad xs ds l a
    cases r1
    obtain ⟨its, rv, ht, hz⟩ := I5.tuple l.sq
    have hlen := rv.length
    cases g1
    cases g2
    refine tail_any (ops := [.ref _, .ref s4.heap.objs.size]) ht.typeIs (PyProof.Rows.slot_tuple_getitem.lookup) ?_ (by with_unfolding_all rfl)
    refine getItem_tuple_rev ht (Heap.IsSliceOf.new _ .none .none w3) g3 ?_ (by rw [List.size_toArray]; omega)
    have nw := I5.hok.fresh (Nat.le_refl _)
    have sm := Same.new (o := HO.tup xs.reverse) nw
    refine ⟨.ref _, _, I5.laid (t' := s4.toks) (o := .tup xs.reverse) (fun b ob q => Heap.get?_push_of_some _ q) (Nat.le_refl _) ⟨by rw [List.length_reverse]; exact hz, _, rv.reverse, IsTup.new _ _⟩, rfl, ?_⟩
    exact hP _ n q _ _ (ρ1.same sm) (f1.trans (.of sm)) (.tup (.inl ⟨ρ1.fresh nw, upd_same⟩) (a.reverse.keep (.same sm)))
/-- {} -/
theorem up_dic0 : UPE X O0 H0 (.Dict [] [] pos) (uC (.dic [])) := by
  refine ⟨fun pins s σ H Q I ⟨ρ, P, r, hu, hP⟩ => ?_⟩
  refine wpAny_mono (pe_dnewK.run pins s σ H (fun v H1 => ∃ p, H p = none ∧ v = .ref p ∧ H1 = upd H p (.dK [])) I fun p hp => ⟨p, hp, rfl, rfl⟩) (fun u s1 ⟨v, H1, I1, rv, p, hp, ev, eH⟩ => ?_) fun _ _ x => x
  subst ev eH
  obtain ⟨od, I2⟩ := I1.lock (upd_same (H := H) (a := p) (o := .dK [])) (by exact True.intro)
  rw [upd_upd] at I2
  have sm := Same.new (o := HO.frz od (.dK [])) hp
  exact ⟨_, _, I2, rv, hP _ ρ.fuel hu _ _ (r.same sm) (.of sm) (.dic (r.fresh hp) upd_same .nil)⟩
end
end U

set_option Elab.async false
set_option linter.all false
set_option maxRecDepth 100000
set_option maxHeartbeats 4000000
/-! Sequences walked; calls by keywords; the pen. -/
namespace U
open PySem PySem.Spec L2
open PyProof.Rows hiding St

/-! ### lists and tuples walked -/
def uiS (u : UE) : UI := fun ρ Q => u ρ fun d n => match d with
  | .lst ds => Q ds n
  | .tup ds => Q ds n
  | _ => False
section
variable {X : Cx} {O0 : Ad} {H0 : Hp} {a b c e tg : Expr} {ua ub uc : UE} {pos p : Pos} {W : WU}
theorem ui_seq (h : UPE X O0 H0 e ua) : UPI X O0 H0 tg e (uiS ua) := by
  refine ⟨fun pins s σ H Rr I ⟨ρ, P, r, hu, hP⟩ => ?_⟩
  refine thn (h.run pins s σ H (fun v H1 => ∃ d n, R X.K O0 H0 σ H1 (ρ.f n) ∧ Frm ρ.pen H H1 ∧ Rp X.K (OO O0 ρ) H1 v d ∧ (match d with
    | .lst ds => P ds n
    | .tup ds => P ds n
    | _ => False)) I ⟨ρ, _, r, hu, fun d n hd v H1 r1 f1 p1 => ⟨d, n, r1, f1, p1, hd⟩⟩) fun v s1 ⟨x, H1, I1, r1, d, n, ρ1, f1, rp, q⟩ => ?_
  have fp : ∀ b ∈ [s1.heap.objs.size], FpOk X pins H1 b := fun b hb => by
    obtain rfl : b = s1.heap.objs.size := by simpa using hb
    exact I1.fpOk (Nat.le_refl _) (I1.hok.fresh (Nat.le_refl _))
  cases rp <;> try exact q.elim
  · rename_i ad xs ds l ra
    cases r1
    obtain ⟨its, rv, pl, _⟩ := I1.list l.sq
    exact wpAny_pyIter_list pl.isList ⟨s1.heap.objs.size, [s1.heap.objs.size], _, _, H1, rfl, I1.kept (t' := s1.toks) fun b o e => Heap.get?_push_of_some _ e, turn_list ad _, ⟨_, Heap.get?_push_size _ rfl, rfl, rfl⟩, fp, hP ds n q _ H1 ρ1 f1 (it_list l ra)⟩
  · rename_i ad xs ds l ra
    cases r1
    obtain ⟨its, rv, pl, _⟩ := I1.tuple l.sq
    exact wpAny_pyIter_tuple (show s1.heap.IsTuple ad its.toArray from pl) ⟨s1.heap.objs.size, [s1.heap.objs.size], _, _, H1, rfl, I1.kept (t' := s1.toks) fun b o e => Heap.get?_push_of_some _ e, turn_tuple ad _, ⟨_, Heap.get?_push_size _ rfl, rfl, rfl⟩, fp, hP ds n q _ H1 ρ1 f1 (it_tup l ra)⟩

/-! ### keywords -/
def UPK (X : Cx) (O0 : Ad) (H0 : Hp) (kws : List Keyword) (u : UA) : Prop := ∃ t, PK X kws t ∧ ∀ σ H Q, lA X.K O0 H0 u σ H (fun vs H1 => vs.length = kws.length → Q vs H1) → t σ H Q
theorem uk_nil : UPK X O0 H0 [] uNil := ⟨_, pk_nil, fun σ H Q ⟨ρ, P, r, hu, hP⟩ => hP [] ρ.fuel hu [] H r Frm.refl .nil rfl⟩
theorem uk_cons {kws : List Keyword} {ur : UA} {nm : Option Str} {kp : Pos} (ha : UPE X O0 H0 e ua) (hr : UPK X O0 H0 kws ur) : UPK X O0 H0 (⟨nm, e, kp⟩ :: kws) (uCons ua ur) := by
  obtain ⟨t, ht, hi⟩ := hr
  refine ⟨_, pk_cons ha ht, fun σ H Q ⟨ρ, P, r, hu, hP⟩ => ⟨ρ, _, r, hu, fun d n hd v H1 r1 f1 p1 => ?_⟩⟩
  refine hi σ H1 (fun vs H2 => Q (v :: vs) H2) ⟨ρ.f n, _, r1, hd, fun ds m hds vs H2 r2 f2 p2 hl => ?_⟩
  exact hP (d :: ds) m hds (v :: vs) H2 r2 (f1.trans f2) (.cons (p1.keep (Frm.keepsO (ρ := ρ) f2)) p2) (by rw [List.length_cons, List.length_cons, hl])
/-- the places of the parameters among what is passed -/
def perm {α : Type} (z : α) (ix : List Nat) (xs : List α) : List α := ix.map fun i => xs.getD i z
theorem getD_rel {α β : Type} {r : α → β → Prop} {x : α} {y : β} (hz : r x y) : ∀ {xs : List α} {ys : List β}, Paired r xs ys → ∀ i, r (xs.getD i x) (ys.getD i y)
  | _, _, .nil, i => by simpa using hz
  | _, _, .cons h t, 0 => h
  | _, _, .cons h t, i + 1 => by simpa using getD_rel hz t i
theorem perm_vals {vs : List V} {us : List Value} (ix : List Nat) (h : Vals vs us) : Vals (perm .non ix vs) (perm .none ix us) := by
  induction ix with
  | nil => exact .nil
  | cons i is ih => exact .cons (getD_rel (x := V.non) (y := Value.none) rfl h i) ih
theorem perm_rp {K : PySem.W.Frag} {O : Ad} {H : Hp} {vs : List V} {ds : List D} (ix : List Nat) (h : RpA K O H vs ds) : RpA K O H (perm .non ix vs) (perm .non ix ds) := by
  have at_ : ∀ i, Rp K O H (vs.getD i .non) (ds.getD i .non) := fun i => by
    have hl := h.length
    cases q : ds[i]? with
    | none =>
      have hn : vs[i]? = none := List.getElem?_eq_none (by rw [hl]; exact List.getElem?_eq_none_iff.mp q)
      rw [List.getD_eq_getElem?_getD, List.getD_eq_getElem?_getD, q, hn]
      exact .non
    | some d =>
      obtain ⟨v, e, r⟩ := h.get q
      rw [List.getD_eq_getElem?_getD, List.getD_eq_getElem?_getD, q, e]
      exact r
  induction ix with
  | nil => exact .nil
  | cons i is ih => exact .cons (at_ i) ih
/-- how a call by keywords binds -/
def KBS (x : Str) (st : Stmt) (ps ks : List Str) (nu nk : Nat) (ix : List Nat) : Prop := ∀ (kV doc pm : Value) (an : Option Addr) (cdv ct : Value) (us ws : List Value), us.length = nu → ws.length = nk →
  bindArgs (PySem.W.fnOf x x (defArgs st) (defBody st) (defScope st) .none kV doc pm an cdv ct) ⟨us, ks.zip ws⟩ = pure (ps.zip (perm .none ix (us ++ ws)))
theorem KBS.to {K : PySem.W.Frag} {x : Str} {st : Stmt} {ps ks : List Str} {nu nk : Nat} {ix : List Nat} {f : Addr} {fd : FuncData} (h : KBS x st ps ks nu nk ix) (F : FunD K x x (defArgs st) (defBody st) (defScope st) [] [] f fd) (s : Shared) (us ws : List Value) (h1 : us.length = nu) (h2 : ws.length = nk) :
    BindsTo s fd ⟨us, ks.zip ws⟩ (ps.zip (perm .none ix (us ++ ws))) := by
  obtain ⟨oc, od, dV, kV, doc, pm, an, cdv, ct, osl, rfl, lk, hcd, hD, hK⟩ := F.ex
  rcases hD with ⟨_, rfl⟩ | ⟨e, _⟩
  · exact .of_eq (h kV doc pm an cdv ct us ws h1 h2)
  · exact absurd rfl e
def uCallK (usp : USp) (ix : List Nat) (W : WU) (a : UA) : UE := fun ρ Q => a ρ fun ds n => usp (perm .non ix ds) ρ.pen n Q fun x m => W x (ρ.f m)
/-- f(k = v, ..) -/
theorem up_fnK0 {j k : Nat} {x : Str} {ps ks : List Str} {usp : USp} {sd : Stmt} {ix : List Nat} {kws : List Keyword} {u : UA} (h : Fn X.prog X.w X.K X.mg X.base j x sd ps usp) (hr : RG k X.A) (hjk : j ≤ k) (hg : Gl X x) (tk : Takes X (LW X.K O0 H0 W)) (kb : KBS x sd ps ks 0 kws.length ix) (hkw : UPK X O0 H0 kws u)
    (hall : (backToKw pos (keywordEach kws X.env)).all (·.1.isSome) = true := by rfl) (hks : (backToKw pos (keywordEach kws X.env)).filterMap (·.1) = ks := by rfl)
    (hdb : (x == ("__debug__" : Str)) = false := by decide) (hpl : ((backTo pos (starEach [] X.env)).any (·.1) || (backToKw pos (keywordEach kws X.env)).any (·.1.isNone)) = false := by rfl) :
    UPE X O0 H0 (.Call (.Name x p) [] kws pos) (uCallK usp ix W u) := by
  obtain ⟨fd, G, hb, kp, FD⟩ := h.ex
  obtain ⟨t, ht, hi⟩ := hkw
  refine ⟨fun pins s σ H Q I ⟨ρ, P, r, hu, hP⟩ => ?_⟩
  refine wpAny_Call_Name_kw (ld_glob I hg h.gl ?_ hdb)
  refine PySem.W.callWith_KW0 (h₀ := X.base) I.ok.mod.kin kp hall (thn (ht.run pos pins s σ H (fun vs H1 => vs.length = kws.length ∧ LSp X.K usp (perm .non ix vs) H1 Q (WE (LW X.K O0 H0 W) σ)) I ?_) fun ws s1 ⟨vs, H1, I1, rv, hl, q⟩ => ⟨I1.kIn, ?_⟩) hpl
  · refine hi σ H _ ⟨ρ, _, r, hu, fun ds n hds vs H1 r1 f1 p1 hl => ⟨hl, ?_⟩⟩
    exact call_data (ρ := ρ) r1 (perm_rp ix p1) hds fun d m hd' v H' r2 f2 rp => hP d m hd' v H' r2 (f1.trans f2) rp
  · rw [hks]
    exact run_fnG (args := ⟨[], ks.zip ws⟩) (us' := perm .none ix ([] ++ ws)) (G.mono hjk) hr (passAt tk σ) I1 (kb.to FD s1 [] ws rfl (by rw [← rv.length]; exact hl)) (by simpa using perm_vals ix rv) q
def uCat (a b : UA) : UA := fun ρ Q => a ρ fun ds n => b (ρ.f n) fun es m => Q (ds ++ es) m
/-- f(e, .., k = v, ..) -/
theorem up_fnK {j k : Nat} {x : Str} {ps ks : List Str} {usp : USp} {sd : Stmt} {ix : List Nat} {es : List Expr} {kws : List Keyword} {ue uk : UA} (h : Fn X.prog X.w X.K X.mg X.base j x sd ps usp) (hr : RG k X.A) (hjk : j ≤ k) (hg : Gl X x) (tk : Takes X (LW X.K O0 H0 W)) (kb : KBS x sd ps ks (e :: es).length kws.length ix) (ha : UPL X O0 H0 (e :: es) ue) (hkw : UPK X O0 H0 kws uk)
    (hall : (backToKw pos (keywordEach kws X.env)).all (·.1.isSome) = true := by rfl) (hks : (backToKw pos (keywordEach kws X.env)).filterMap (·.1) = ks := by rfl)
    (hdb : (x == ("__debug__" : Str)) = false := by decide) (he : starEach (e :: es) X.env = (false, eval e X.env) :: starEach es X.env := by rfl)
    (hpl : ((backTo pos (starEach (e :: es) X.env)).any (·.1) || (backToKw pos (keywordEach kws X.env)).any (·.1.isNone)) = false := by rfl) :
    UPE X O0 H0 (.Call (.Name x p) (e :: es) kws pos) (uCallK usp ix W (uCat ue uk)) := by
  obtain ⟨fd, G, hb, kp, FD⟩ := h.ex
  obtain ⟨t, ht, hi⟩ := hkw
  obtain ⟨ta, hta, hia⟩ := ha
  refine ⟨fun pins s σ H Q I ⟨ρ, P, r, hu, hP⟩ => ?_⟩
  refine wpAny_Call_Name_kw (ld_glob I hg h.gl ?_ hdb)
  refine PySem.W.callWith_KW (h₀ := X.base) I.ok.mod.kin kp hall (thn (hta.run pos pins s σ H (fun ws H1 => t σ H1 fun vs H2 => ws.length = (e :: es).length ∧ vs.length = kws.length ∧ LSp X.K usp (perm .non ix (ws ++ vs)) H2 Q (WE (LW X.K O0 H0 W) σ)) I ?_) fun us s0 ⟨ws, H0', I0, rw0, q0⟩ => ?_) hpl he
  · refine hia σ H _ ⟨ρ, _, r, hu, fun ds n hds ws H1 r1 f1 p1 hl1 => hi σ H1 _ ⟨ρ.f n, _, r1, hds, fun es m hes vs H2 r2 f2 p2 hl => ⟨hl1, hl, ?_⟩⟩⟩
    exact call_data (ρ := ρ) r2 (perm_rp ix ((p1.keep (Frm.keepsO (ρ := ρ) f2)).append p2)) hes fun d m hd' v H' r3 f3 rp => hP d m hd' v H' r3 ((f1.trans f2).trans f3) rp
  · refine thn (ht.run pos pins s0 σ H0' _ I0 q0) fun zs s1 ⟨vs, H1, I1, rv, hl1, hl, q⟩ => ⟨I1.kIn, ?_⟩
    rw [hks]
    exact run_fnG (args := ⟨us, ks.zip zs⟩) (us' := perm .none ix (us ++ zs)) (G.mono hjk) hr (passAt tk σ) I1 (kb.to FD s1 us zs (by rw [← rw0.length]; exact hl1) (by rw [← rv.length]; exact hl)) (perm_vals ix (rw0.append rv)) q

/-! ### the pen -/
theorem R.penSet {K : PySem.W.Frag} {H : Hp} {σ : L2.St} {ρ : Ro} (r : R K O0 H0 σ H ρ) {p : Addr} {c : PenC} (e : ρ.pen = some (p, c)) {t q : Int} {m : Nat} (h1 : 0 ≤ t) (h2 : t + m ≤ 1048576) (h3 : 0 ≤ q) :
    R K O0 H0 σ (upd H p (penO c t q)) (ρ.f m) ∧ Tr O0 ρ H (ρ.f m) (upd H p (penO c t q)) := by
  have ip : IsPen ρ.pen p := ⟨c, e⟩
  have hO : OO O0 ρ p := OO.pen p ip
  have ne : ∀ {b : Addr}, ¬ OO O0 ρ b → b ≠ p := fun nb e => nb (by rw [e]; exact hO)
  have k : Keeps (OO O0 ρ) (OO O0 ρ) H (upd H p (penO c t q)) := ⟨fun b u h nb => by rw [upd_ne (ne nb)]; exact h, fun _ _ _ n => n⟩
  refine ⟨⟨r.len, fun i d e => let ⟨v, h1, h2⟩ := r.dat i d e; ⟨v, h1, h2.keep k⟩, fun i a ds e => ?_, r.inj, fun b u h nb => ?_, fun b h => ?_, fun p' c' e' => ?_⟩, ⟨k, rfl⟩⟩
  · obtain ⟨g1, g2, g3, g4, g5⟩ := r.own i a ds e
    exact ⟨g1, g2, g3, g4, g5.keep k fun o q => by rw [upd_ne (fun z => g4 (by rw [z]; exact ip))]; exact q⟩
  · rw [upd_ne (fun z => nb (by rw [z]; exact ip))]
    exact r.fr b u h nb
  · by_cases z : b = p
    · rw [z, upd_same]; simp
    · rw [upd_ne z]; exact r.tr b h
  · have e2 : some (p, c) = some (p', c') := e.symm.trans e'
    cases e2
    obtain ⟨ns, t', q', g1, g2, g3, g4, _⟩ := r.pen p c e
    exact ⟨ns, t, q, upd_same, by rw [upd_ne (ne g3)]; exact g2, g3, g4, h1, h2, h3⟩
/-- pen[k] -/
def uPenIx (i k : Nat) : UE := fun ρ Q => match ρ.sl[i]?, ρ.pen with
  | some (.dat (.ref a)), some (p, c) => a = p ∧ match k with
    | 0 => Q (.lst (c.ns.map D.int)) ρ.fuel
    | 1 => ∀ t : Int, 0 ≤ t → t + ρ.fuel ≤ 1048576 → Q (.int t) ρ.fuel
    | 2 => ∀ t : Int, 0 ≤ t → Q (.int t) ρ.fuel
    | _ => False
  | _, _ => False
theorem rp_ints {K : PySem.W.Frag} {O : Ad} {H : Hp} : ∀ ns : List Int, RpA K O H (ns.map V.int) (ns.map D.int)
  | [] => .nil
  | n :: ns => .cons (.int n) (rp_ints ns)
theorem up_penL {i k : Nat} (h : PE X e (tOp (rIxL X.K) (tVar i) (tC (.int (k : Nat))))) : UPE X O0 H0 e (fun ρ Q => (∃ p c, ρ.pen = some (p, c) ∧ c.dk = false) ∧ uPenIx i k ρ Q) := PE.imp h fun σ H Q ⟨ρ, P, r, ⟨⟨p0, c0, e0, e1⟩, hu⟩, hP⟩ => by
  dsimp only [uPenIx] at hu
  split at hu
  · rename_i a p c g1 g2
    obtain ⟨ea, hu⟩ := hu
    subst ea
    have e9 : p0 = a ∧ c0 = c := by
      rw [g2] at e0
      cases e0
      exact ⟨rfl, rfl⟩
    obtain ⟨e9, e8⟩ := e9
    rw [e8] at e1
    obtain ⟨v, s1, rv⟩ := r.dat i _ g1
    cases rv
    obtain ⟨ns, t, q, h1, h2, h3, ⟨h4, h4b⟩, h5, h6, h7⟩ := r.pen a c g2
    unfold penO at h1
    rw [e1, if_neg Bool.false_ne_true] at h1
    have mk : ∀ z, L2.atI [V.ref c.c, .int t, .int q] ((k : Nat) : Int) = some z → Q z H → tOp (rIxL X.K) (tVar i) (tC (.int (k : Nat))) σ H Q := fun z ez hz => ⟨_, s1, a, _, _, z, rfl, rfl, .of h1, ez, hz⟩
    subst h4
    split at hu
    · exact mk (.ref c.c) rfl (hP _ ρ.fuel hu _ H r Frm.refl (.lst ⟨h3, h2⟩ (rp_ints _)))
    · exact mk (.int t) rfl (hP _ ρ.fuel (hu t h5 h6) _ H r Frm.refl (.int _))
    · exact mk (.int q) rfl (hP _ ρ.fuel (hu q h7) _ H r Frm.refl (.int _))
    · exact hu.elim
  · exact hu.elim
/-- pen[1] = e -/
def uPenNext (i : Nat) (u : UE) : US := fun E ρ => u ρ fun d n => match d, ρ.sl[i]?, ρ.pen with
  | .int z, some (.dat (.ref a)), some (p, c) => (a = p ∧ c.dk = false) ∧ 0 ≤ z ∧ ∃ m : Nat, z + m ≤ 1048576 ∧ E.nx (ρ.f m)
  | _, _, _ => False
/-- pen[2] = e -/
def uPenRest (i : Nat) (u : UE) : US := fun E ρ => u ρ fun d n => match d, ρ.sl[i]?, ρ.pen with
  | .int z, some (.dat (.ref a)), some (p, c) => (a = p ∧ c.dk = false) ∧ 0 ≤ z ∧ ∃ m : Nat, m ≤ n ∧ E.nx (ρ.f m)
  | _, _, _ => False
theorem us_penNext {i : Nat} {st : Stmt} (hb : PS X st (tAsg (lE X.K O0 H0 ua) (L2.gSub (tVar i) (tC (.int 1)) rSetL))) : UPS X O0 H0 st (uPenNext i ua) := PS.imp hb fun σ H D ⟨ρ, E, r, hu, hn, _⟩ => by
  refine ⟨ρ, _, r, hu, fun d n hd v H1 r1 f1 p1 => ?_⟩
  split at hd
  · rename_i z a p c g1 g2
    obtain ⟨⟨ea, ek⟩, h1, m, h2, hd⟩ := hd
    subst ea
    cases p1
    obtain ⟨v, s1, rv⟩ := r1.dat i _ g1
    cases rv
    obtain ⟨ns, t, q, k1, k2, k3, k4, k5, k6, k7⟩ := r1.pen a c g2
    have w := r1.penSet (ρ := ρ.f n) g2 (m := m) h1 h2 k7
    unfold penO at k1 w
    rw [ek, if_neg Bool.false_ne_true] at k1 w
    exact ⟨_, s1, a, _, 1, 1, rfl, rfl, k1, rfl, hn _ hd _ _ w.1 ((Tr.frm f1).trans w.2)⟩
  · exact hd.elim
theorem us_penRest {i : Nat} {st : Stmt} (hb : PS X st (tAsg (lE X.K O0 H0 ua) (L2.gSub (tVar i) (tC (.int 2)) rSetL))) : UPS X O0 H0 st (uPenRest i ua) := PS.imp hb fun σ H D ⟨ρ, E, r, hu, hn, _⟩ => by
  refine ⟨ρ, _, r, hu, fun d n hd v H1 r1 f1 p1 => ?_⟩
  split at hd
  · rename_i z a p c g1 g2
    obtain ⟨⟨ea, ek⟩, h1, m, h2, hd⟩ := hd
    subst ea
    cases p1
    obtain ⟨v, s1, rv⟩ := r1.dat i _ g1
    cases rv
    obtain ⟨ns, t, q, k1, k2, k3, k4, k5, k6, k7⟩ := r1.pen a c g2
    have k6' : t + (n : Int) ≤ 1048576 := k6
    have w := r1.penSet (ρ := ρ.f n) g2 (m := m) k5 (by omega) h1
    unfold penO at k1 w
    rw [ek, if_neg Bool.false_ne_true] at k1 w
    exact ⟨_, s1, a, _, 2, 2, rfl, rfl, k1, rfl, hn _ hd _ _ w.1 ((Tr.frm f1).trans w.2)⟩
  · exact hd.elim
end
end U

set_option Elab.async false
set_option linter.all false
set_option maxRecDepth 100000
set_option maxHeartbeats 4000000
/-! The law's def: the pen is made, then the rest. -/
namespace U
open PySem PySem.Spec L2
open PyProof.Rows hiding St

/-- a new pen from the script -/
def spPen : Sp := fun vs H Q E => ∃ (a : Addr) (K : PySem.W.Frag) (ns : List Int), vs = [.ref a] ∧ SqL K H a (ns.map V.int) ∧ ns.length ≤ 63 ∧
  ∀ c p H', H c = none → H p = none → c ≠ p → Same H H' → H' c = some (.lst (ns.map V.int)) → H' p = some (.lst [.ref c, .int 0, .int 0]) → Q (.ref p) H'
def spPenK (K : PySem.W.Frag) : Sp := fun vs H Q E => ∃ (a : Addr) (ns : List Int), vs = [.ref a] ∧ SqL K H a (ns.map V.int) ∧ ns.length ≤ 63 ∧
  ∀ c p H', H c = none → H p = none → c ≠ p → Same H H' → H' c = some (.lst (ns.map V.int)) → H' p = some (.lst [.ref c, .int 0, .int 0]) → Q (.ref p) H'
theorem cut63 (ns : List Int) (h : ns.length ≤ 63) : cutV (ns.map V.int) none (some 63) = ns.map V.int := by
  have e : HT.sIx (ns.map V.int).length (ns.map V.int).length (some 63) = (ns.map V.int).length := by
    rw [List.length_map]
    have e3 : HT.sIx ns.length ns.length (some 63) = if (63 : Int) < 0 then ((63 : Int) + (ns.length : Int)).toNat else min (63 : Int).toNat ns.length := rfl
    rw [e3, if_neg (by decide)]
    exact Nat.min_eq_right h
  unfold cutV
  rw [e]
  show ((ns.map V.int).drop 0).take ((ns.map V.int).length - 0) = _
  rw [Nat.sub_zero, List.drop_zero, List.take_length]
section
variable {X : Cx} {e : Expr}
/-- return [list(script[:63]), 0, 0] -/
theorem pen_ps {p1 p2 p3 p4 p5 p6 p7 p8 p9 p10 : Pos} {j1 j2 j3 : Nat} {scr : Str} (hg : Gl X "list") (hm : X.mg "list" = none) (hs : PE X (.Name scr p2) (tVar 0)) :
    PSs X [.Return (some (.List [.Call (.Name "list" p1) [.Subscript (.Name scr p2) (.Slice none (some (.Constant (.int 63) j1 p3)) none p4) p5] [] p6, .Constant (.int 0) j2 p7, .Constant (.int 0) j3 p8] p9)) p10]
      (fun D σ H => ∃ (a : Addr) (ns : List Int), σ[0]? = some (some (.ref a)) ∧ SqL X.K H a (ns.map V.int) ∧ ns.length ≤ 63 ∧
        ∀ c p H', H c = none → H p = none → c ≠ p → Same H H' → H' c = some (.lst (ns.map V.int)) → H' p = some (.lst [.ref c, .int 0, .int 0]) → D.rt (.ref p) H') := by
  refine PSs.imp (pss_one (ps_ret (pe_lst (pa_cons (pe_callTy call_list_of hg hm boot_list (pa_cons (pe_slice sl_list hs po_none (po_some pe_int)) pa_nil)) (pa_cons pe_int (pa_cons pe_int pa_nil)))))) fun σ H D ⟨a, ns, h0, hq, hz, hD⟩ => ?_
  refine ⟨.ref a, h0, 63, rfl, a, _, rfl, hq, fun t ht => ?_⟩
  rw [cut63 ns hz]
  have s1 := Same.new (o := HO.lst (ns.map V.int)) ht
  refine ⟨t, _, rfl, .inl (.of upd_same), fun c hc => ?_⟩
  have s2 := Same.new (o := HO.lst (ns.map V.int)) hc
  refine ⟨by show 3 ≤ sizeLine; decide, fun p hp => ?_⟩
  have s3 := Same.new (o := HO.lst [.ref c, .int 0, .int 0]) hp
  have free : ∀ {b : Addr} {H H' : Hp}, Same H H' → H' b = none → H b = none := fun {b H H'} s e => by
    cases q : H b with
    | none => rfl
    | some u => rw [s b u q] at e; cases e
  have ne : c ≠ p := fun e => by
    rw [← e, upd_same] at hp
    cases hp
  refine hD c p _ (free s1 hc) (free s1 (free s2 hp)) ne ((s1.trans s2).trans s3) ?_ upd_same
  rw [upd_ne ne, upd_same]
/-- f(e, ..): the V-level rule -/
def tCallG (sp : Sp) (t : TA) (E : L2.St → XK) : TE := fun σ H Q => t σ H fun vs H1 => sp vs H1 Q (E σ)
theorem pe_callG {k : Nat} {f : Addr} {fd : FuncData} {ps : List Str} {sp : Sp} {x : Str} {es : List Expr} {t : TA} {E : L2.St → XK} {p pos : Pos}
    (F : FnG X.prog X.w X.K X.mg X.base k f fd ps sp) (hr : RG k X.A) (hg : Gl X x) (hm : X.mg x = some (.ref f)) (hk : PySem.W.keepIn X.K (.ref f) = true)
    (hb : Binds X.K fd ps []) (hx : ∀ σ, PassesAt (L2.CX X.prog X.w) X σ (E σ)) (ht : PA X (e :: es) t)
    (hdb : (x == ("__debug__" : Str)) = false := by decide) (he : starEach (e :: es) X.env = (false, eval e X.env) :: starEach es X.env := by rfl) (hpl : (backTo pos (starEach es X.env)).any (·.1) = false := by rfl) :
    PE X (.Call (.Name x p) (e :: es) [] pos) (tCallG sp t E) := by
  refine ⟨fun pins s σ H Q I h => ?_⟩
  refine wpAny_Call_Name_kw (ld_glob I hg hm ?_ hdb)
  refine PySem.W.callWith_K (h₀ := X.base) I.ok.mod.kin hk (thn (ht.run pos pins s σ H _ I h) fun us s1 ⟨vs, H1, I1, rv, q⟩ => ⟨I1.kIn, ?_⟩) he hpl
  have hl : (us ++ []).length = ps.length := by rw [List.append_nil, ← rv.length]; exact F.len _ _ _ _ q
  refine run_fnG (args := ⟨us, []⟩) F hr (hx σ) I1 (hb s1 us I1.kIn hl) ?_ q
  rw [List.append_nil]
  exact rv
end
/-- the law's def -/
def spLaw (K : PySem.W.Frag) : Sp := fun vs H Q E => ∃ (a : Addr) (ns : List Int), vs = [.ref a] ∧ SqL K H a (ns.map V.int) ∧ ns.length ≤ 63 ∧ ∀ H', Q (.bl true) H'
/-- the slots behind the making of the pen -/
def lawSl (N : List Str) (i : Nat) (a p : Addr) : List Sl := ((List.replicate N.length Sl.emp).set 0 (.dat (.ref a))).set i (.dat (.ref p))
theorem R.law {K : PySem.W.Frag} {H : Hp} {N : List Str} {i : Nat} {a p : Addr} {c : PenC} {σ : L2.St} (hl : σ.length = N.length) (h0 : σ[0]? = some (some (.ref a))) (hi : 0 < i) (hp : σ[i]? = some (some (.ref p)))
    (k : c.dk = false) (z : c.ns.length ≤ 63) (hc : H c.c = some (.lst (c.ns.map V.int))) (hp2 : H p = some (.lst [.ref c.c, .int 0, .int 0])) (ne : c.c ≠ p) :
    R K (fun _ => False) H σ H ⟨lawSl N i a p, some (p, c), 1048576⟩ := by
  have at_ : ∀ (j : Nat) s, (lawSl N i a p)[j]? = some s → (j = i ∧ s = .dat (.ref p)) ∨ (j = 0 ∧ s = .dat (.ref a)) ∨ s = .emp := fun j s e => by
    rcases set_some e with ⟨e1, e2, _⟩ | ⟨_, e2⟩
    · exact .inl ⟨e1.symm, e2⟩
    · rcases set_some e2 with ⟨e1, e3, _⟩ | ⟨_, e3⟩
      · exact .inr (.inl ⟨e1.symm, e3⟩)
      · rw [List.getElem?_replicate] at e3
        split at e3
        · exact .inr (.inr (Option.some.inj e3).symm)
        · cases e3
  have noown : ∀ (j : Nat) b es, (lawSl N i a p)[j]? = some (.own b es) → False := fun j b es e => by
    rcases at_ j _ e with ⟨_, q⟩ | ⟨_, q⟩ | q <;> cases q
  have op : ∀ b, OO (fun _ => False) ⟨lawSl N i a p, some (p, c), 1048576⟩ b → b = p := fun b h => by
    rcases h with h | ⟨c', h⟩ | ⟨j, es, h⟩
    · exact h.elim
    · cases h; rfl
    · exact (noown j b es h).elim
  refine ⟨?_, fun j d e => ?_, fun j b es e => (noown j b es e).elim, fun j k b es fs e _ => (noown j b es e).elim, Frm.refl, fun b h => ?_, fun p' c' e => ?_⟩
  · show σ.length = (lawSl N i a p).length
    unfold lawSl
    rw [List.length_set, List.length_set, List.length_replicate]
    exact hl
  · rcases at_ j _ e with ⟨e1, q⟩ | ⟨e1, q⟩ | q
    · cases q; subst e1; exact ⟨_, hp, .ref p⟩
    · cases q; subst e1; exact ⟨_, h0, .ref a⟩
    · cases q
  · rw [op b h, hp2]; simp
  · cases e
    refine ⟨c.ns, 0, 0, ?_, hc, fun z => ne (op _ z), ⟨rfl, z⟩, by decide, by show (0 : Int) + ((1048576 : Nat) : Int) ≤ 1048576; decide, by decide⟩
    unfold penO
    rw [k, if_neg Bool.false_ne_true]
    exact hp2
theorem hu_of {k : Nat} {A : Around} (hr : RG k A) : A.units + 64 < cLine := by have := hr.room.un; omega
section
variable {P : Program} {w : World} {K : PySem.W.Frag} {mg : Str → Option Value} {base : Heap}
theorem law_mk {st st1 : Stmt} {rest : List Stmt} {f : Addr} {fd : FuncData} {N : List Str} {i k : Nat} {x scr : Str}
    (F : FunD K x x (defArgs st) (defBody st) (defScope st) [] [] f fd) (S : FnScope N [scr] (defScope st)) (hb : defBody st = st1 :: rest) (hi : 0 < i) (hin : i < N.length)
    (hbody : ∀ (cdv : Value) (A : Around) (outer : List Env) (s : Shared) (H : Hp) (E : XK),
      RG k (cxOf (L2.CX P w) P w K mg base N x (defScope st) f cdv A outer s H E).A →
      ∃ u E0, PS (cxOf (L2.CX P w) P w K mg base N x (defScope st) f cdv A outer s H E) st1 (tAsg (tCallG (spPenK K) (tCons (tVar 0) tNil) E0) (gName i)) ∧
        (∀ O0 H0, UPB (cxOf (L2.CX P w) P w K mg base N x (defScope st) f cdv A outer s H E) O0 H0 rest u) ∧
        ∀ a p (c : PenC), c.ns.length ≤ 63 → c.dk = false → u { nx := fun _ => False, rt := fun d _ => d = .bl true } ⟨lawSl N i a p, some (p, c), 1048576⟩) :
    FnG P w K mg base (k + 1) f fd [scr] (spLaw K) := by
  refine fnG_mk F S (fun vs H Q E ⟨a, ns, e, _⟩ => by rw [e]; rfl) ?_
  intro cdv A outer s H vs Q E hr ⟨a, ns, ev, hq, hz, hQ⟩
  obtain ⟨u, E0, h1, h2, h3⟩ := hbody cdv A outer s H E hr
  subst ev
  rw [hb]
  have h2' : PSs (cxOf (L2.CX P w) P w K mg base N x (defScope st) f cdv A outer s H E) rest (fun D σ H => ∃ O0 H0, lS K O0 H0 u D σ H) := ⟨fun pins s σ H Q I ⟨O0, H0, q⟩ => (h2 O0 H0).run pins s σ H Q I q⟩
  refine ⟨_, pss_cons h1 h2', ?_⟩
  have lenN : (start N [.ref a]).length = N.length := by
    unfold L2.start
    simp
    omega
  refine ⟨.ref a, by unfold L2.start; simp, a, ns, rfl, hq, hz, fun c p H' hc hp ne sm ec ep => ?_⟩
  refine ⟨_, _, ⟨lawSl N i a p, some (p, ⟨c, ns, false⟩), 1048576⟩, _, R.law (by rw [List.length_set]; exact lenN) ?_ hi ?_ rfl hz ec ep ne, h3 a p ⟨c, ns, false⟩ hz rfl, fun ρ' hx => hx.elim, fun ρ' hx => hx.elim, fun ρ' hx => hx.elim, ⟨fun d n hd v H2 fr pn rp => ?_, fun _ _ z => z.elim⟩⟩
  · rw [List.getElem?_set_ne (by omega)]
    unfold L2.start
    simp
  · rw [List.getElem?_set_self (by omega)]
  · subst hd
    cases rp
    exact hQ H2
end
end U

set_option Elab.async false
set_option linter.all false
set_option maxRecDepth 100000
set_option maxHeartbeats 4000000
/-! The readings step by step: each continuation by a name, so that rewriting stops where something is open. -/
namespace U
open PySem PySem.Spec L2
open PyProof.Rows hiding St
section
variable {ρ : Ro} {sl : List Sl} {pn : PenT} {fu : Nat} {Q : D → Nat → Prop} {E : UEnds} {i n m : Nat} {a b c : UE} {g g' : G2} {x y d : D}
/-! expressions -/
def kVar (Q : D → Nat → Prop) (n : Nat) : Option Sl → Prop
  | some (.dat d) => Q d n
  | _ => False
theorem xVar : uVar i ρ Q = kVar Q ρ.fuel ρ.sl[i]? := by
  unfold uVar kVar
  rfl
theorem xVar1 : kVar Q n (some (.dat d)) = Q d n := id rfl
theorem xC : uC d ρ Q = Q d ρ.fuel := id rfl
def kN (Q : D → Nat → Prop) (n : Nat) : D → Prop := fun d => Q d n
theorem xN : kN Q n d = Q d n := id rfl
def kOp2 (g : G2) (Q : D → Nat → Prop) (x : D) : D → Nat → Prop := fun y m => g x y (kN Q m)
def kOp1 (g : G2) (b : UE) (ρ : Ro) (Q : D → Nat → Prop) : D → Nat → Prop := fun x n => b (ρ.f n) (kOp2 g Q x)
theorem xOp : uOp g a b ρ Q = a ρ (kOp1 g b ρ Q) := id rfl
theorem xOp1 : kOp1 g b ⟨sl, pn, fu⟩ Q x n = b ⟨sl, pn, n⟩ (kOp2 g Q x) := id rfl
theorem xOp2 : kOp2 g Q x y m = g x y (kN Q m) := id rfl
def kUn (h : D → (D → Prop) → Prop) (Q : D → Nat → Prop) : D → Nat → Prop := fun x n => h x (kN Q n)
theorem xUn {h : D → (D → Prop) → Prop} : uUn h a ρ Q = a ρ (kUn h Q) := id rfl
theorem xUn1 {h : D → (D → Prop) → Prop} : kUn h Q x n = h x (kN Q n) := id rfl
variable {L : List D → Nat → Prop} {ds es : List D} {ul ur : UA}
theorem xNil : uNil ρ L = L [] ρ.fuel := id rfl
def kCons2 (L : List D → Nat → Prop) (x : D) : List D → Nat → Prop := fun xs m => L (x :: xs) m
def kCons1 (r : UA) (ρ : Ro) (L : List D → Nat → Prop) : D → Nat → Prop := fun x n => r (ρ.f n) (kCons2 L x)
theorem xCons : uCons a ur ρ L = a ρ (kCons1 ur ρ L) := id rfl
theorem xCons1 : kCons1 ur ⟨sl, pn, fu⟩ L x n = ur ⟨sl, pn, n⟩ (kCons2 L x) := id rfl
theorem xCons2 : kCons2 L x ds n = L (x :: ds) n := id rfl
def kTup (Q : D → Nat → Prop) : List D → Nat → Prop := fun ds n => Q (.tup ds) n
def kLst (Q : D → Nat → Prop) : List D → Nat → Prop := fun ds n => Q (.lst ds) n
theorem xTup : uTup ul ρ Q = ul ρ (kTup Q) := id rfl
theorem xTup1 : kTup Q ds n = Q (.tup ds) n := id rfl
theorem xLst : uLst ul ρ Q = ul ρ (kLst Q) := id rfl
theorem xLst1 : kLst Q ds n = Q (.lst ds) n := id rfl
variable {T : Bool → Nat → Prop} {k : Bool} {ta tb : UT}
def kOb (T : Bool → Nat → Prop) (n : Nat) : Option Bool → Prop
  | some b => T b n
  | none => False
def kTru (T : Bool → Nat → Prop) : D → Nat → Prop := fun x n => kOb T n x.tru
theorem xTru : uTru a ρ T = a ρ (kTru T) := by
  unfold uTru kTru kOb
  rfl
theorem xTru1 : kTru T x n = kOb T n x.tru := id rfl
theorem xOb : kOb T n (some k) = T k n := id rfl
theorem tru_non : D.tru .non = some false := id rfl
theorem tru_bl : D.tru (.bl k) = some k := id rfl
theorem tru_int {z : Int} : D.tru (.int z) = some (z != 0) := id rfl
theorem tru_lst : D.tru (.lst ds) = some (!ds.isEmpty) := id rfl
theorem tru_tup : D.tru (.tup ds) = some (!ds.isEmpty) := id rfl
def kTB (T : Bool → Nat → Prop) : D → Nat → Prop := fun x n => match x with
  | .bl b => T b n
  | _ => False
theorem xTB : uTB a ρ T = a ρ (kTB T) := id rfl
theorem xTB1 : kTB T (.bl k) n = T k n := id rfl
def kAndT (b : UT) (ρ : Ro) (T : Bool → Nat → Prop) : Bool → Nat → Prop := fun c n => if c = true then b (ρ.f n) T else T false n
def kOrT (b : UT) (ρ : Ro) (T : Bool → Nat → Prop) : Bool → Nat → Prop := fun c n => if c = true then T true n else b (ρ.f n) T
def kNotT (T : Bool → Nat → Prop) : Bool → Nat → Prop := fun c n => T (!c) n
theorem xAndT : uAndT ta tb ρ T = ta ρ (kAndT tb ρ T) := id rfl
theorem xAndT1 : kAndT tb ⟨sl, pn, fu⟩ T true n = tb ⟨sl, pn, n⟩ T := id rfl
theorem xAndT2 : kAndT tb ρ T false n = T false n := id rfl
theorem xOrT : uOrT ta tb ρ T = ta ρ (kOrT tb ρ T) := id rfl
theorem xOrT1 : kOrT tb ρ T true n = T true n := id rfl
theorem xOrT2 : kOrT tb ⟨sl, pn, fu⟩ T false n = tb ⟨sl, pn, n⟩ T := id rfl
theorem xNotT : uNotT ta ρ T = ta ρ (kNotT T) := id rfl
theorem xNotT1 : kNotT T k n = T (!k) n := id rfl
def kAnd (b : UE) (ρ : Ro) (Q : D → Nat → Prop) : D → Nat → Prop := fun x n => match x with
  | .bl true => b (ρ.f n) Q
  | .bl false => Q (.bl false) n
  | _ => False
def kOr (b : UE) (ρ : Ro) (Q : D → Nat → Prop) : D → Nat → Prop := fun x n => match x with
  | .bl true => Q (.bl true) n
  | .bl false => b (ρ.f n) Q
  | _ => False
def kNot (Q : D → Nat → Prop) : D → Nat → Prop := fun x n => match x with
  | .bl c => Q (.bl (!c)) n
  | _ => False
theorem xAnd : uAnd a b ρ Q = a ρ (kAnd b ρ Q) := id rfl
theorem xAnd1 : kAnd b ⟨sl, pn, fu⟩ Q (.bl true) n = b ⟨sl, pn, n⟩ Q := id rfl
theorem xAnd2 : kAnd b ρ Q (.bl false) n = Q (.bl false) n := id rfl
theorem xOr : uOr a b ρ Q = a ρ (kOr b ρ Q) := id rfl
theorem xOr1 : kOr b ρ Q (.bl true) n = Q (.bl true) n := id rfl
theorem xOr2 : kOr b ⟨sl, pn, fu⟩ Q (.bl false) n = b ⟨sl, pn, n⟩ Q := id rfl
theorem xNot : uNot a ρ Q = a ρ (kNot Q) := id rfl
theorem xNot1 : kNot Q (.bl k) n = Q (.bl (!k)) n := id rfl
def kIfE (a b : UE) (ρ : Ro) (Q : D → Nat → Prop) : Bool → Nat → Prop := fun k n => if k = true then a (ρ.f n) Q else b (ρ.f n) Q
theorem xIfE : uIf ta a b ρ Q = ta ρ (kIfE a b ρ Q) := id rfl
theorem xIfE1 : kIfE a b ⟨sl, pn, fu⟩ Q true n = a ⟨sl, pn, n⟩ Q := id rfl
theorem xIfE2 : kIfE a b ⟨sl, pn, fu⟩ Q false n = b ⟨sl, pn, n⟩ Q := id rfl
def kCh4 (g' : G2) (Q : D → Nat → Prop) (y : D) : D → Nat → Prop := fun w k => g' y w (kN Q k)
def kCh3 (g' : G2) (c : UE) (ρ : Ro) (Q : D → Nat → Prop) (y : D) (m : Nat) : D → Prop := fun z => match z with
  | .bl true => c (ρ.f m) (kCh4 g' Q y)
  | .bl false => Q (.bl false) m
  | _ => False
def kCh2 (g g' : G2) (c : UE) (ρ : Ro) (Q : D → Nat → Prop) (x : D) : D → Nat → Prop := fun y m => g x y (kCh3 g' c ρ Q y m)
def kCh1 (g g' : G2) (b c : UE) (ρ : Ro) (Q : D → Nat → Prop) : D → Nat → Prop := fun x n => b (ρ.f n) (kCh2 g g' c ρ Q x)
theorem xCh : uChain g g' a b c ρ Q = a ρ (kCh1 g g' b c ρ Q) := id rfl
theorem xCh1 : kCh1 g g' b c ⟨sl, pn, fu⟩ Q x n = b ⟨sl, pn, n⟩ (kCh2 g g' c ⟨sl, pn, fu⟩ Q x) := id rfl
theorem xCh2 : kCh2 g g' c ρ Q x y m = g x y (kCh3 g' c ρ Q y m) := id rfl
theorem xCh3 : kCh3 g' c ⟨sl, pn, fu⟩ Q y m (.bl true) = c ⟨sl, pn, m⟩ (kCh4 g' Q y) := id rfl
theorem xCh3b : kCh3 g' c ρ Q y m (.bl false) = Q (.bl false) m := id rfl
theorem xCh4 {w : D} : kCh4 g' Q y w n = g' y w (kN Q n) := id rfl
variable {O : Option Int → Nat → Prop} {ol oh : UO} {o o' : Option Int}
theorem xNoP : uNoP ρ O = O none ρ.fuel := id rfl
def kPart (O : Option Int → Nat → Prop) : D → Nat → Prop := fun d n => match d with
  | .int i => O (some i) n
  | _ => False
theorem xPart : uPart a ρ O = a ρ (kPart O) := id rfl
theorem xPart1 {z : Int} : kPart O (.int z) n = O (some z) n := id rfl
def kCut3 (x : D) (lo : Option Int) (Q : D → Nat → Prop) : Option Int → Nat → Prop := fun hi k => gCut x lo hi (kN Q k)
def kCut2 (h : UO) (ρ : Ro) (Q : D → Nat → Prop) (x : D) : Option Int → Nat → Prop := fun lo m => h (ρ.f m) (kCut3 x lo Q)
def kCut1 (l h : UO) (ρ : Ro) (Q : D → Nat → Prop) : D → Nat → Prop := fun x n => l (ρ.f n) (kCut2 h ρ Q x)
theorem xCut : uCut a ol oh ρ Q = a ρ (kCut1 ol oh ρ Q) := id rfl
theorem xCut1 : kCut1 ol oh ⟨sl, pn, fu⟩ Q x n = ol ⟨sl, pn, n⟩ (kCut2 oh ⟨sl, pn, fu⟩ Q x) := id rfl
theorem xCut2 : kCut2 oh ⟨sl, pn, fu⟩ Q x o n = oh ⟨sl, pn, n⟩ (kCut3 x o Q) := id rfl
theorem xCut3 : kCut3 x o Q o' n = gCut x o o' (kN Q n) := id rfl
def kB (g : GL) (Q : D → Nat → Prop) : List D → Nat → Prop := fun ds n => g ds (kN Q n)
theorem xB {g : GL} : uB g ul ρ Q = ul ρ (kB g Q) := id rfl
theorem xB1 {g : GL} : kB g Q ds n = g ds (kN Q n) := id rfl
variable {usp : USp} {dfl : List D} {W : WU} {ix : List Nat}
def kX (W : WU) (ρ : Ro) : UX → Nat → Prop := fun x m => W x (ρ.f m)
def kCall (usp : USp) (dfl : List D) (W : WU) (ρ : Ro) (Q : D → Nat → Prop) : List D → Nat → Prop := fun ds n => usp (ds ++ dfl) ρ.pen n Q (kX W ρ)
def kCallK (usp : USp) (ix : List Nat) (W : WU) (ρ : Ro) (Q : D → Nat → Prop) : List D → Nat → Prop := fun ds n => usp (perm .non ix ds) ρ.pen n Q (kX W ρ)
theorem xCall : uCall usp dfl W ul ρ Q = ul ρ (kCall usp dfl W ρ Q) := id rfl
theorem xCall1 : kCall usp [] W ρ Q ds n = usp ds ρ.pen n Q (kX W ρ) := by
  show usp (ds ++ []) ρ.pen n Q _ = _
  rw [List.append_nil]
theorem xCallK : uCallK usp ix W ul ρ Q = ul ρ (kCallK usp ix W ρ Q) := id rfl
theorem xCallK1 : kCallK usp ix W ρ Q ds n = usp (perm .non ix ds) ρ.pen n Q (kX W ρ) := id rfl
def kCat2 (L : List D → Nat → Prop) (ds : List D) : List D → Nat → Prop := fun es m => L (ds ++ es) m
def kCat1 (b : UA) (ρ : Ro) (L : List D → Nat → Prop) : List D → Nat → Prop := fun ds n => b (ρ.f n) (kCat2 L ds)
theorem xCat : uCat ul ur ρ L = ul ρ (kCat1 ur ρ L) := id rfl
theorem xCat1 : kCat1 ur ⟨sl, pn, fu⟩ L ds n = ur ⟨sl, pn, n⟩ (kCat2 L ds) := id rfl
theorem xCat2 : kCat2 L ds es n = L (ds ++ es) n := id rfl
theorem xX {v : UX} : kX W ⟨sl, pn, fu⟩ v m = W v ⟨sl, pn, m⟩ := id rfl
theorem perm_nil {ds : List D} : perm (α := D) .non [] ds = [] := id rfl
theorem perm_cons {ds : List D} {i : Nat} {ix : List Nat} : perm (α := D) .non (i :: ix) ds = ds.getD i .non :: perm .non ix ds := id rfl
def kRev (Q : D → Nat → Prop) : D → Nat → Prop := fun d n => match d with
  | .lst ds => Q (.lst ds.reverse) n
  | .tup ds => Q (.tup ds.reverse) n
  | _ => False
theorem xRev : uRev a ρ Q = a ρ (kRev Q) := id rfl
theorem xRevL : kRev Q (.lst ds) n = Q (.lst ds.reverse) n := id rfl
theorem xRevT : kRev Q (.tup ds) n = Q (.tup ds.reverse) n := id rfl
/-! statements -/
variable {s t u u' : US} {ui : UI} {ug : UG} {uf : UF}
theorem sSkip : uSkip E ρ = E.nx ρ := id rfl
theorem sSeq : uSeq s t E ρ = s { E with nx := t E } ρ := id rfl
theorem sRet : uRet a E ρ = a ρ E.rt := id rfl
theorem sRetN : uRetN E ρ = E.rt .non ρ.fuel := id rfl
def kIf (a b : US) (E : UEnds) (ρ : Ro) : Bool → Nat → Prop := fun k n => if k = true then a E (ρ.f n) else b E (ρ.f n)
theorem sIf : uIfS ta s t E ρ = ta ρ (kIf s t E ρ) := id rfl
theorem sIf1 : kIf s t E ⟨sl, pn, fu⟩ true n = s E ⟨sl, pn, n⟩ := id rfl
theorem sIf2 : kIf s t E ⟨sl, pn, fu⟩ false n = t E ⟨sl, pn, n⟩ := id rfl
theorem sIfk : kIf s t E ⟨sl, pn, fu⟩ k n ↔ (k = true → s E ⟨sl, pn, n⟩) ∧ (k = false → t E ⟨sl, pn, n⟩) := by
  cases k <;> simp [kIf]
/-- what holds behind both branches, shown once -/
theorem kIf_with {α : Type} (P : α → Ro) (h : ∀ a, E.nx (P a)) (f : (∀ a, E.nx (P a)) → kIf s t E ρ k n) : kIf s t E ρ k n := f h
theorem kAnd_with {α : Type} {ρ0 : Ro} (P : α → Ro) (h : ∀ a, E.nx (P a)) (f : (∀ a, E.nx (P a)) → kAndT tb ρ (kIf s t E ρ0) k n) : kAndT tb ρ (kIf s t E ρ0) k n := f h
def kDrop (E : UEnds) (ρ : Ro) : D → Nat → Prop := fun _ n => E.nx (ρ.f n)
theorem sDrop : uDrop a E ρ = a ρ (kDrop E ρ) := id rfl
theorem sDrop1 : kDrop E ⟨sl, pn, fu⟩ d n = E.nx ⟨sl, pn, n⟩ := id rfl
theorem sBrk : uBrk E ρ = E.bk ρ := id rfl
theorem sCnt : uCnt E ρ = E.ct ρ := id rfl
def kSet (i : Nat) (E : UEnds) (ρ : Ro) : D → Nat → Prop := fun d n => E.nx ((ρ.f n).put i (.dat d))
theorem sSet : uSet i a E ρ = a ρ (kSet i E ρ) := id rfl
theorem sSet1 : kSet i E ⟨sl, pn, fu⟩ d n = E.nx ⟨sl.set i (.dat d), pn, n⟩ := id rfl
def kAsg (g : UG) (E : UEnds) (ρ : Ro) : D → Nat → Prop := fun d n => g d (ρ.f n) E.nx
theorem sAsg : uAsg a ug E ρ = a ρ (kAsg ug E ρ) := id rfl
theorem sAsg1 : kAsg ug E ⟨sl, pn, fu⟩ d n = ug d ⟨sl, pn, n⟩ E.nx := id rfl
variable {G : Ro → Prop}
theorem gN : ugN i d ⟨sl, pn, fu⟩ G = G ⟨sl.set i (.dat d), pn, fu⟩ := id rfl
def kPut (G : Ro → Prop) : Option Ro → Prop
  | some ρ => G ρ
  | none => False
theorem gT {is : List Nat} : ugT is (.tup ds) ρ G = kPut G (putAll is ds ρ) := id rfl
theorem gPut : kPut G (some ρ) = G ρ := id rfl
theorem put_nil : putAll [] [] ρ = some ρ := id rfl
theorem put_cons {is : List Nat} : putAll (i :: is) (d :: ds) ⟨sl, pn, fu⟩ = putAll is ds ⟨sl.set i (.dat d), pn, fu⟩ := id rfl
def kAug (i : Nat) (u : UE) (f : Int → Int → Int) (E : UEnds) (ρ : Ro) : Option Sl → Prop
  | some (.dat (.int x)) => u ρ fun d n => match d with
    | .int y => E.nx ((ρ.f n).put i (.dat (.int (f x y))))
    | _ => False
  | _ => False
theorem sAug {f : Int → Int → Int} : uAug i a f E ρ = kAug i a f E ρ ρ.sl[i]? := by
  unfold uAug kAug
  rfl
def kAug2 (i : Nat) (x : Int) (f : Int → Int → Int) (E : UEnds) (ρ : Ro) : D → Nat → Prop := fun d n => match d with
    | .int y => E.nx ((ρ.f n).put i (.dat (.int (f x y))))
    | _ => False
theorem sAug1 {f : Int → Int → Int} {z : Int} : kAug i a f E ρ (some (.dat (.int z))) = a ρ (kAug2 i z f E ρ) := id rfl
theorem sAug2 {f : Int → Int → Int} {z w : Int} : kAug2 i z f E ⟨sl, pn, fu⟩ (.int w) n = E.nx ⟨sl.set i (.dat (.int (f z w))), pn, n⟩ := id rfl
/-! own lists -/
def kFr (Q : D → Nat → Prop) : List D → Nat → Prop := fun ds n => Q (.lst ds) n
theorem xFr : uFr uf ρ Q = uf ρ (kFr Q) := id rfl
theorem xFr1 : kFr Q ds n = Q (.lst ds) n := id rfl
theorem xfLst : ufLst ul ρ L = ul ρ L := id rfl
def kOwn (i : Nat) (E : UEnds) (ρ : Ro) : List D → Nat → Prop := fun ds n => ∀ a, E.nx ((ρ.f n).put i (.own a ds))
theorem sOwn : uOwn i uf E ρ = uf ρ (kOwn i E ρ) := id rfl
theorem sOwn1 : kOwn i E ⟨sl, pn, fu⟩ ds n = ∀ a, E.nx ⟨sl.set i (.own a ds), pn, n⟩ := id rfl
def kApp2 (i : Nat) (a : Addr) (ds : List D) (E : UEnds) (ρ : Ro) : D → Nat → Prop := fun d n => ds.length < sizeLine ∧ E.nx ((ρ.f n).put i (.own a (ds ++ [d])))
def kApp (i : Nat) (u : UE) (E : UEnds) (ρ : Ro) : Option Sl → Prop
  | some (.own a (.l ds)) => u ρ (kApp2 i a ds E ρ)
  | _ => False
theorem sApp : uApp i a E ρ = kApp i a E ρ ρ.sl[i]? := by
  unfold uApp kApp
  rfl
variable {ad : Addr}
theorem sApp1 : kApp i a E ρ (some (.own ad ds)) = a ρ (kApp2 i ad ds E ρ) := id rfl
theorem sApp2 : kApp2 i ad ds E ⟨sl, pn, fu⟩ d n = (ds.length < sizeLine ∧ E.nx ⟨sl.set i (.own ad (ds ++ [d])), pn, n⟩) := id rfl
def kThaw (i : Nat) (u : US) (E : UEnds) (ρ : Ro) : Option Sl → Prop
  | some (.own _ (.l ds)) => u E (ρ.put i (.dat (.lst ds)))
  | _ => u E ρ
theorem sThaw : uThaw i u E ρ = kThaw i u E ρ ρ.sl[i]? := by
  unfold uThaw kThaw
  rfl
theorem sThaw1 : kThaw i u E ⟨sl, pn, fu⟩ (some (.own ad ds)) = u E ⟨sl.set i (.dat (.lst ds)), pn, fu⟩ := id rfl
theorem sThaw2 : kThaw i u E ρ (some (.dat d)) = u E ρ := id rfl
theorem sThaw3 : kThaw i u E ρ (some .emp) = u E ρ := id rfl
def kPeek2 (Q : D → Nat → Prop) : D → Nat → Prop := fun d n => D.noL d = true ∧ Q d n
def kPeek (i : Nat) (u : UE) (ρ : Ro) (Q : D → Nat → Prop) : Option Sl → Prop
  | some (.own _ (.l ds)) => u (ρ.put i (.dat (.lst ds))) (kPeek2 Q)
  | _ => u ρ Q
theorem xPeek : uPeek i a ρ Q = kPeek i a ρ Q ρ.sl[i]? := by
  unfold uPeek kPeek
  rfl
theorem xPeek1 : kPeek i a ⟨sl, pn, fu⟩ Q (some (.own ad ds)) = a ⟨sl.set i (.dat (.lst ds)), pn, fu⟩ (kPeek2 Q) := id rfl
theorem xPeekd : kPeek i a ρ Q (some (.dat d)) = a ρ Q := id rfl
theorem xPeek2 : kPeek2 Q d n = (D.noL d = true ∧ Q d n) := id rfl
def kPeekT (i : Nat) (u : UT) (ρ : Ro) (T : Bool → Nat → Prop) : Option Sl → Prop
  | some (.own _ (.l ds)) => u (ρ.put i (.dat (.lst ds))) T
  | _ => u ρ T
theorem xPeekT : uPeekT i ta ρ T = kPeekT i ta ρ T ρ.sl[i]? := by
  unfold uPeekT kPeekT
  rfl
theorem xPeekT1 : kPeekT i ta ⟨sl, pn, fu⟩ T (some (.own ad ds)) = ta ⟨sl.set i (.dat (.lst ds)), pn, fu⟩ T := id rfl
theorem xPeekTd : kPeekT i ta ρ T (some (.dat d)) = ta ρ T := id rfl
def kSetIx3 (i : Nat) (a : Addr) (ds : List D) (d : D) (m : Nat) (E : UEnds) (ρ : Ro) : Option Nat → Prop
  | some j => E.nx ((ρ.f m).put i (.own a (ds.set j d)))
  | none => False
def kSetIx2 (i : Nat) (a : Addr) (ds : List D) (d : D) (E : UEnds) (ρ : Ro) : D → Nat → Prop := fun k m => match k with
  | .int z => kSetIx3 i a ds d m E ρ (ixN ds.length z)
  | _ => False
def kSetIx1 (i : Nat) (a : Addr) (ds : List D) (ui : UE) (E : UEnds) (ρ : Ro) : D → Nat → Prop := fun d n => ui (ρ.f n) (kSetIx2 i a ds d E ρ)
def kSetIx (i : Nat) (ui u : UE) (E : UEnds) (ρ : Ro) : Option Sl → Prop
  | some (.own a (.l ds)) => u ρ (kSetIx1 i a ds ui E ρ)
  | _ => False
theorem sSetIx {uj : UE} : uSetIx i uj a E ρ = kSetIx i uj a E ρ ρ.sl[i]? := by
  unfold uSetIx kSetIx kSetIx1 kSetIx2 kSetIx3
  rfl
theorem sSetIx1 {uj : UE} : kSetIx i uj a E ρ (some (.own ad ds)) = a ρ (kSetIx1 i ad ds uj E ρ) := id rfl
theorem sSetIx2 {uj : UE} : kSetIx1 i ad ds uj E ⟨sl, pn, fu⟩ d n = uj ⟨sl, pn, n⟩ (kSetIx2 i ad ds d E ⟨sl, pn, fu⟩) := id rfl
theorem sSetIx3 {z : Int} : kSetIx2 i ad ds d E ρ (.int z) n = kSetIx3 i ad ds d n E ρ (ixN ds.length z) := id rfl
theorem sSetIx4 {j : Nat} : kSetIx3 i ad ds d n E ⟨sl, pn, fu⟩ (some j) = E.nx ⟨sl.set i (.own ad (ds.set j d)), pn, n⟩ := id rfl
/-! loops -/
def kSq (L : List D → Nat → Prop) : D → Nat → Prop := fun d n => match d with
  | .lst ds => L ds n
  | .tup ds => L ds n
  | _ => False
theorem iSq : uiS a ρ L = a ρ (kSq L) := id rfl
theorem iSqL : kSq L (.lst ds) n = L ds n := id rfl
theorem iSqT : kSq L (.tup ds) n = L ds n := id rfl
def kR1 (L : List D → Nat → Prop) : List D → Nat → Prop := fun ds n => match ds with
  | [.int j] => (-(2 ^ 62) ≤ j ∧ j < 2 ^ 62) ∧ L (rngD 0 j.toNat) n
  | _ => False
def kR2 (L : List D → Nat → Prop) : List D → Nat → Prop := fun ds n => match ds with
  | [.int i, .int j] => (-(2 ^ 62) ≤ i ∧ i < 2 ^ 62 ∧ -(2 ^ 62) ≤ j ∧ j < 2 ^ 62) ∧ L (rngD i (j - i).toNat) n
  | _ => False
theorem iR1 : uiR1 ul ρ L = ul ρ (kR1 L) := id rfl
theorem iR11 {j : Int} : kR1 L [.int j] n = ((-(2 ^ 62) ≤ j ∧ j < 2 ^ 62) ∧ L (rngD 0 j.toNat) n) := id rfl
theorem iR2 : uiR2 ul ρ L = ul ρ (kR2 L) := id rfl
theorem iR21 {z j : Int} : kR2 L [.int z, .int j] n = ((-(2 ^ 62) ≤ z ∧ z < 2 ^ 62 ∧ -(2 ^ 62) ≤ j ∧ j < 2 ^ 62) ∧ L (rngD z (j - z).toNat) n) := id rfl
def kFor (g : UG) (body : US) (E : UEnds) (ρ : Ro) : List D → Nat → Prop := fun ds n => ∃ I : List D → Ro → Prop, I ds (ρ.f n) ∧ (∀ ρ, I [] ρ → E.nx ρ) ∧
  ∀ d r ρ, I (d :: r) ρ → g d ρ fun ρ' => body { E with nx := I r, ct := I r, bk := E.nx } ρ'
theorem sFor : uFor ui ug u E ρ = ui ρ (kFor ug u E ρ) := id rfl
theorem sFor1 (I : List D → Ro → Prop) (h0 : I ds ⟨sl, pn, n⟩) (h1 : ∀ ρ, I [] ρ → E.nx ρ) (h2 : ∀ d r ρ, I (d :: r) ρ → ug d ρ (u { E with nx := I r, ct := I r, bk := E.nx })) : kFor ug u E ⟨sl, pn, fu⟩ ds n := ⟨I, h0, h1, h2⟩
def kComp (vs : List Nat) (g : UG) (tt : UT) (te : UE) (ρ : Ro) (L : List D → Nat → Prop) : List D → Nat → Prop := fun ds n => (ds.length ≤ sizeLine ∧ noOwn ρ vs = true) ∧ ∃ I : List D → List D → Nat → Prop, I ds [] n ∧ (∀ acc m, I [] acc m → L acc m) ∧
  ∀ d r acc m, I (d :: r) acc m → g d ((wipeR ρ vs).f m) fun ρ' => tt ρ' fun k j => if k = true then te (ρ'.f j) fun y l => I r (acc ++ [y]) l else I r acc j
theorem xComp {vs : List Nat} {te : UE} : uComp ui vs ug ta te ρ L = ui ρ (kComp vs ug ta te ρ L) := id rfl
def wipeS (sl : List Sl) : List Nat → List Sl
  | [] => sl
  | i :: is => (wipeS sl is).set i .emp
theorem wS0 : wipeS sl [] = sl := id rfl
theorem wS1 {is : List Nat} : wipeS sl (i :: is) = (wipeS sl is).set i .emp := id rfl
theorem wipeR_S : ∀ is : List Nat, wipeR ⟨sl, pn, fu⟩ is = ⟨wipeS sl is, pn, fu⟩
  | [] => rfl
  | i :: is => by
    show (wipeR ⟨sl, pn, fu⟩ is).put i .emp = _
    rw [wipeR_S is]
    rfl
/-- [f(d) for d in ds] -/
theorem xMap {vs : List Nat} {te : UE} (f : D → D) (h0 : ds.length ≤ sizeLine) (h1 : noOwn ⟨sl, pn, fu⟩ vs = true)
    (h : ∀ d ∈ ds, ∀ m (T : D → Nat → Prop), T (f d) m → ug d ⟨wipeS sl vs, pn, m⟩ fun ρ' => te ρ' T) (hL : L (ds.map f) n) : kComp vs ug uYes te ⟨sl, pn, fu⟩ L ds n := by
  refine ⟨⟨h0, h1⟩, fun r acc m => m = n ∧ (∀ d ∈ r, d ∈ ds) ∧ acc ++ r.map f = ds.map f, ⟨rfl, fun _ h => h, rfl⟩, ?_, ?_⟩
  · rintro acc m ⟨rfl, _, e⟩
    rw [List.map_nil, List.append_nil] at e
    rw [e]
    exact hL
  · rintro d r acc m ⟨rfl, hin, e⟩
    have w : (wipeR ⟨sl, pn, fu⟩ vs).f m = ⟨wipeS sl vs, pn, m⟩ := by rw [wipeR_S]
    rw [w]
    refine (h d (hin d List.mem_cons_self) m (fun y l => l = m ∧ (∀ d ∈ r, d ∈ ds) ∧ (acc ++ [y]) ++ r.map f = ds.map f) ⟨rfl, fun z hz => hin z (List.mem_cons_of_mem _ hz), ?_⟩)
    rw [← e]
    simp
theorem xLt {i j : Int} {Q : D → Prop} : gLt (.int i) (.int j) Q = Q (.bl (decide (i < j))) := id rfl
theorem xLe {i j : Int} {Q : D → Prop} : gLe (.int i) (.int j) Q = Q (.bl (decide (i ≤ j))) := id rfl
theorem xGt {i j : Int} {Q : D → Prop} : gGt (.int i) (.int j) Q = Q (.bl (decide (j < i))) := id rfl
theorem xGe {i j : Int} {Q : D → Prop} : gGe (.int i) (.int j) Q = Q (.bl (decide (j ≤ i))) := id rfl
theorem xEqI {i j : Int} {Q : D → Prop} : gEqV (.int i) (.int j) Q ↔ Q (.bl (decide (i = j))) := by
  show (D.cq (.int i) (.int j) = true ∧ Q (.bl (i == j))) ↔ _
  have e : (i == j) = decide (i = j) := rfl
  rw [e]
  exact ⟨fun h => h.2, fun h => ⟨by simp [D.cq, D.flat], h⟩⟩
theorem xEqS {i j : Str} {Q : D → Prop} : gEqV (.str i) (.str j) Q ↔ Q (.bl (i == j)) := id Iff.rfl
theorem xNeI {i j : Int} {Q : D → Prop} : gNe (.int i) (.int j) Q ↔ Q (.bl (decide (i ≠ j))) := by
  show ((D.flat 60 (.int i) = true ∧ D.flat 60 (.int j) = true) ∧ Q (.bl (!(i == j)))) ↔ _
  have e : (!(i == j)) = decide (i ≠ j) := by
    by_cases h : i = j <;> simp [h]
  rw [e]
  exact ⟨fun h => h.2, fun h => ⟨by simp [D.flat], h⟩⟩
theorem xLenS {x : Str} {Q : D → Prop} : gLen [.str x] Q = (x.length ≤ sizeLine ∧ Q (.int x.length)) := id rfl
theorem xLenL {ds : List D} {Q : D → Prop} : gLen [.lst ds] Q = Q (.int ds.length) := id rfl
theorem xLenT {ds : List D} {Q : D → Prop} : gLen [.tup ds] Q = Q (.int ds.length) := id rfl
theorem xIsi {x : D} {n : String} {Q : D → Prop} : gIsi [x, .ty n] Q = ((x.tyn.isSome = true ∧ n ∈ tyNames) ∧ Q (.bl (isD x n))) := id rfl
theorem xAddI {i j : Int} {Q : D → Prop} : gAdd (.int i) (.int j) Q = Q (.int (i + j)) := id rfl
theorem xAddS {i j : Str} {Q : D → Prop} : gAdd (.str i) (.str j) Q = (i.length + j.length ≤ sizeLine ∧ Q (.str (i ++ j))) := id rfl
theorem xAddL {i j : List D} {Q : D → Prop} : gAdd (.lst i) (.lst j) Q = (i.length + j.length ≤ sizeLine ∧ Q (.lst (i ++ j))) := id rfl
theorem xAddT {i j : List D} {Q : D → Prop} : gAdd (.tup i) (.tup j) Q = (i.length + j.length ≤ sizeLine ∧ Q (.tup (i ++ j))) := id rfl
theorem xSubI {i j : Int} {Q : D → Prop} : U.gSub (.int i) (.int j) Q = Q (.int (i - j)) := id rfl
theorem xMulL {i : List D} {k : Int} {Q : D → Prop} : gMul (.lst i) (.int k) Q = ((-(2 ^ 63) ≤ k ∧ k < 2 ^ 63 ∧ i.length * k.toNat ≤ sizeLine) ∧ Q (.lst (List.replicate k.toNat i).flatten)) := id rfl
theorem xMulT {i : List D} {k : Int} {Q : D → Prop} : gMul (.tup i) (.int k) Q = ((i ≠ [] ∧ 2 ≤ k ∧ k ≤ 1000 ∧ i.length ≤ 1000) ∧ Q (.tup (List.replicate k.toNat i).flatten)) := id rfl
theorem xDivI {i j : Int} {Q : D → Prop} : gDiv (.int i) (.int j) Q = ((0 < j ∧ j.natAbs.log2 < 9000) ∧ Q (.int (i / j))) := id rfl
theorem xModI {i j : Int} {Q : D → Prop} : gMod (.int i) (.int j) Q = (0 < j ∧ Q (.int (i % j))) := id rfl
theorem xPowI {i j : Int} {Q : D → Prop} : gPow (.int i) (.int j) Q = ((0 ≤ j ∧ j ≤ 1000000 ∧ i.natAbs < 2 ^ 64) ∧ Q (.int (i ^ j.toNat))) := id rfl
theorem xNegI {i : Int} {Q : D → Prop} : gNeg (.int i) Q = Q (.int (-i)) := id rfl
theorem xIntI {i : Int} {Q : D → Prop} : gInt [.int i] Q = Q (.int i) := id rfl
theorem xIntB {b : Bool} {Q : D → Prop} : gInt [.bl b] Q = Q (.int (if b then 1 else 0)) := id rfl
theorem xAbsI {i : Int} {Q : D → Prop} : gAbs [.int i] Q = Q (.int (if i < 0 then -i else i)) := id rfl
theorem xMin2 {i j : Int} {Q : D → Prop} : gMin2 [.int i, .int j] Q = Q (.int (if j < i then j else i)) := id rfl
theorem xMax2 {i j : Int} {Q : D → Prop} : gMax2 [.int i, .int j] Q = Q (.int (if j > i then j else i)) := id rfl
theorem xListL {ds : List D} {Q : D → Prop} : gList [.lst ds] Q = Q (.lst ds) := id rfl
theorem xListT {ds : List D} {Q : D → Prop} : gList [.tup ds] Q = Q (.lst ds) := id rfl
theorem xTupleL {ds : List D} {Q : D → Prop} : gTuple [.lst ds] Q = Q (.tup ds) := id rfl
theorem xTupleT {ds : List D} {Q : D → Prop} : gTuple [.tup ds] Q = Q (.tup ds) := id rfl
theorem xCutL {ds : List D} {o o' : Option Int} {Q : D → Prop} : gCut (.lst ds) o o' Q = Q (.lst (cutD ds o o')) := id rfl
theorem xCutT {ds : List D} {o o' : Option Int} {Q : D → Prop} : gCut (.tup ds) o o' Q = Q (.tup (cutD ds o o')) := id rfl
theorem xIsN {Q : D → Prop} : gIs .non .non Q = Q (.bl true) := id rfl
theorem xIsB {a b : Bool} {Q : D → Prop} : gIs (.bl a) (.bl b) Q = Q (.bl (a == b)) := id rfl
theorem xIsNotB {a b : Bool} {Q : D → Prop} : gIsNot (.bl a) (.bl b) Q = Q (.bl (!(a == b))) := id rfl
theorem l0 {α : Type} {x : α} {xs : List α} : (x :: xs)[0]? = some x := id rfl
theorem l1 {α : Type} {x : α} {xs : List α} {i : Nat} : (x :: xs)[i + 1]? = xs[i]? := id rfl
theorem s0 {α : Type} {x y : α} {xs : List α} : (x :: xs).set 0 y = y :: xs := id rfl
theorem s1 {α : Type} {x y : α} {xs : List α} {i : Nat} : (x :: xs).set (i + 1) y = x :: xs.set i y := id rfl
theorem xMulI {i j : Int} {Q : D → Prop} : gMul (.int i) (.int j) Q = (MulOk i j ∧ Q (.int (i * j))) := id rfl
/-! the pen -/
/-- d is the pen -/
def isPen (dk : Bool) (pen : PenT) (d : D) : Prop := ∃ p c, pen = some (p, c) ∧ c.dk = dk ∧ d = .ref p
/-- what a draw promises -/
def spDraw (dk : Bool) : USp := fun ds pen n Q _ => match ds with
  | [x, .int m] => isPen dk pen x ∧ 0 < m ∧ m ≤ 10 ^ 70 ∧ 1 ≤ n ∧ ∀ d, 0 ≤ d → d < m → Q (.int d) (n - 1)
  | _ => False
theorem draw_use {dk : Bool} {pen : PenT} {x : D} {z : Int} {PX : UX → Nat → Prop} (h : isPen dk pen x) (h1 : 0 < z) (h2 : z ≤ 10 ^ 70) (h3 : 1 ≤ n) (hQ : ∀ d, 0 ≤ d → d < z → Q (.int d) (n - 1)) : spDraw dk [x, .int z] pen n Q PX := ⟨h, h1, h2, h3, hQ⟩
def uPenX (i k : Nat) : UE := fun ρ Q => (∃ p c, ρ.pen = some (p, c) ∧ c.dk = false) ∧ uPenIx i k ρ Q
theorem xPenX {k : Nat} : uPenX i k ρ Q = ((∃ p c, ρ.pen = some (p, c) ∧ c.dk = false) ∧ uPenIx i k ρ Q) := id rfl
def kPenIx (k : Nat) (n : Nat) (Q : D → Nat → Prop) : Option Sl → PenT → Prop
  | some (.dat (.ref a)), some (p, c) => a = p ∧ match k with
    | 0 => Q (.lst (c.ns.map D.int)) n
    | 1 => ∀ t : Int, 0 ≤ t → t + n ≤ 1048576 → Q (.int t) n
    | 2 => ∀ t : Int, 0 ≤ t → Q (.int t) n
    | _ => False
  | _, _ => False
theorem xPen {k : Nat} : uPenIx i k ρ Q = kPenIx k ρ.fuel Q ρ.sl[i]? ρ.pen := by
  unfold uPenIx kPenIx
  rfl
theorem xPen0 {p : Addr} {c : PenC} : kPenIx 0 n Q (some (.dat (.ref p))) (some (p, c)) ↔ Q (.lst (c.ns.map D.int)) n := ⟨fun h => h.2, fun h => ⟨rfl, h⟩⟩
theorem xPen1 {p : Addr} {c : PenC} : kPenIx 1 n Q (some (.dat (.ref p))) (some (p, c)) ↔ ∀ t : Int, 0 ≤ t → t + n ≤ 1048576 → Q (.int t) n := ⟨fun h => h.2, fun h => ⟨rfl, h⟩⟩
theorem xPen2 {p : Addr} {c : PenC} : kPenIx 2 n Q (some (.dat (.ref p))) (some (p, c)) ↔ ∀ t : Int, 0 ≤ t → Q (.int t) n := ⟨fun h => h.2, fun h => ⟨rfl, h⟩⟩
/-! ### the draw's own -/
theorem len_draw {dk : Bool} : ∀ (ds : List D) (pen : PenT) (n : Nat) (Q : D → Nat → Prop) (E : UX → Nat → Prop), spDraw dk ds pen n Q E → ds.length = 2 := by
  intro ds pen n Q E h
  unfold spDraw at h
  split at h
  · rfl
  · exact h.elim
def kPenN (i : Nat) (E : UEnds) (ρ : Ro) : D → Nat → Prop := fun d n => match d, ρ.sl[i]?, ρ.pen with
  | .int z, some (.dat (.ref a)), some (p, c) => (a = p ∧ c.dk = false) ∧ 0 ≤ z ∧ ∃ m : Nat, z + m ≤ 1048576 ∧ E.nx (ρ.f m)
  | _, _, _ => False
def kPenR (i : Nat) (E : UEnds) (ρ : Ro) : D → Nat → Prop := fun d n => match d, ρ.sl[i]?, ρ.pen with
  | .int z, some (.dat (.ref a)), some (p, c) => (a = p ∧ c.dk = false) ∧ 0 ≤ z ∧ ∃ m : Nat, m ≤ n ∧ E.nx (ρ.f m)
  | _, _, _ => False
theorem sPenN : uPenNext i a E ρ = a ρ (kPenN i E ρ) := id rfl
theorem sPenR : uPenRest i a E ρ = a ρ (kPenR i E ρ) := id rfl
variable {p : Addr} {c : PenC} {z : Int} {f : Nat}
theorem sPenN1 (hk : c.dk = false) : kPenN 0 E ⟨.dat (.ref p) :: sl, some (p, c), f⟩ (.int z) n ↔ 0 ≤ z ∧ ∃ m : Nat, z + m ≤ 1048576 ∧ E.nx ⟨.dat (.ref p) :: sl, some (p, c), m⟩ := ⟨fun h => h.2, fun h => ⟨⟨rfl, hk⟩, h⟩⟩
theorem sPenR1 (hk : c.dk = false) : kPenR 0 E ⟨.dat (.ref p) :: sl, some (p, c), f⟩ (.int z) n ↔ 0 ≤ z ∧ ∃ m : Nat, m ≤ n ∧ E.nx ⟨.dat (.ref p) :: sl, some (p, c), m⟩ := ⟨fun h => h.2, fun h => ⟨⟨rfl, hk⟩, h⟩⟩
theorem xPenK {k : Nat} (hk : c.dk = false) : uPenX 0 k ⟨.dat (.ref p) :: sl, some (p, c), f⟩ Q ↔ (match k with
    | 0 => Q (.lst (c.ns.map D.int)) f
    | 1 => ∀ t : Int, 0 ≤ t → t + f ≤ 1048576 → Q (.int t) f
    | 2 => ∀ t : Int, 0 ≤ t → Q (.int t) f
    | _ => False) := ⟨fun h => h.2.2, fun h => ⟨⟨p, c, rfl, hk⟩, rfl, h⟩⟩
theorem xPenK0 (hk : c.dk = false) : uPenX 0 0 ⟨.dat (.ref p) :: sl, some (p, c), f⟩ Q ↔ Q (.lst (c.ns.map D.int)) f := xPenK hk
theorem xPenK1 (hk : c.dk = false) : uPenX 0 1 ⟨.dat (.ref p) :: sl, some (p, c), f⟩ Q ↔ ∀ t : Int, 0 ≤ t → t + f ≤ 1048576 → Q (.int t) f := xPenK hk
theorem xPenK2 (hk : c.dk = false) : uPenX 0 2 ⟨.dat (.ref p) :: sl, some (p, c), f⟩ Q ↔ ∀ t : Int, 0 ≤ t → Q (.int t) f := xPenK hk
theorem log_of {m : Int} (h0 : 0 < m) (h : m ≤ 10 ^ 70) : m.natAbs.log2 < 9000 := by
  have z : m.natAbs ≠ 0 := by omega
  have k : (10 : Int) ^ 70 < 2 ^ 240 := by decide
  have l : m.natAbs < 2 ^ 240 := by
    have e : ((m.natAbs : Nat) : Int) = m := by omega
    have e2 : ((m.natAbs : Nat) : Int) < ((2 ^ 240 : Nat) : Int) := by
      rw [e]
      exact Int.lt_of_le_of_lt h (by rw [show (((2 ^ 240 : Nat)) : Int) = (2 : Int) ^ 240 from by norm_cast]; exact k)
    exact Int.ofNat_lt.mp e2
  exact Nat.lt_trans ((Nat.log2_lt z).mpr l) (by decide)
theorem mul_bd {a b A B : Int} (h1 : 0 ≤ a) (h2 : a ≤ A) (h3 : 0 ≤ b) (h4 : b ≤ B) : 0 ≤ a * b ∧ a * b ≤ A * B := ⟨Int.mul_nonneg h1 h3, Int.mul_le_mul h2 h4 h3 (Int.le_trans h1 h2)⟩
theorem flats_ints (k : Nat) : ∀ ns : List Int, D.flats k (ns.map D.int) = true
  | [] => by simp [D.flats]
  | n :: ns => by simp [D.flats, D.flat, flats_ints k ns]
theorem eqv_ints_nil (ns : List Int) : D.eqv (.lst (ns.map D.int)) (.lst []) = ns.isEmpty := by
  cases ns <;> simp [D.eqv, D.eqvs]
end
end U

set_option Elab.async false
set_option linter.all false
set_option maxRecDepth 100000
set_option maxHeartbeats 4000000
/-! How large data are; parts of lists. -/
namespace U
open PySem PySem.Spec L2
open PyProof.Rows hiding St

mutual
/-- nested at most n deep; ints of at most sixty digits, texts of true characters, no objects -/
def D.fit : Nat → D → Bool
  | _, .non => true
  | _, .bl _ => true
  | _, .int i => decide (i.natAbs < 10 ^ 60)
  | _, .str x => PyData.strOk x
  | 0, .lst _ => false
  | 0, .tup _ => false
  | 0, .dic _ => false
  | n + 1, .lst ds => D.fits n ds
  | n + 1, .tup ds => D.fits n ds
  | n + 1, .dic es => D.fitk n es
  | _, .ref _ => false
  | _, .ty _ => false
  | _, .exc _ _ => false
  | _, .cls _ => false
def D.fits : Nat → List D → Bool
  | _, [] => true
  | n, d :: ds => D.fit n d && D.fits n ds
def D.fitk : Nat → List (Key × D) → Bool
  | _, [] => true
  | n, (.inl i, d) :: es => decide (i.natAbs < 10 ^ 60) && D.fit n d && D.fitk n es
  | n, (.inr x, d) :: es => PyData.strOk x && D.fit n d && D.fitk n es
end
mutual
/-- at least as long as what repr writes -/
def D.sz : D → Nat
  | .non => 4
  | .bl _ => 5
  | .int _ => 61
  | .str x => 10 * x.length + 2
  | .lst ds => D.szs ds + 3
  | .tup ds => D.szs ds + 3
  | .dic es => D.szk es + 3
  | .ref _ => 0
  | .ty _ => 0
  | .exc _ _ => 0
  | .cls _ => 0
def D.szs : List D → Nat
  | [] => 0
  | d :: ds => d.sz + 2 + D.szs ds
def D.szk : List (Key × D) → Nat
  | [] => 0
  | (.inl _, d) :: es => 65 + d.sz + 2 + D.szk es
  | (.inr x, d) :: es => 10 * x.length + 4 + d.sz + 2 + D.szk es
end
mutual
/-- no dict within -/
def D.noDc : D → Bool
  | .dic _ => false
  | .lst ds => D.noDcs ds
  | .tup ds => D.noDcs ds
  | _ => true
def D.noDcs : List D → Bool
  | [] => true
  | d :: ds => D.noDc d && D.noDcs ds
end
theorem join_le (ts : List Str) : (Str.join ", " ts).length ≤ (ts.map fun t => t.length + 2).sum := by
  induction ts with
  | nil => exact Nat.zero_le _
  | cons t ts ih =>
    cases ts with
    | nil => show t.length ≤ _; simp
    | cons y r =>
      show (t ++ ", " ++ Str.join ", " (y :: r)).length ≤ _
      rw [strLen_append, strLen_append, List.map_cons, List.sum_cons]
      have : (", " : Str).length = 2 := rfl
      omega
theorem textFrom_le : ∀ (ts : List Str) (k : Nat) (acc : Str), (textFrom k acc ts).length ≤ acc.length + (ts.map fun t => t.length + 2).sum
  | [], k, acc => by simp [textFrom]
  | t :: r, k, acc => by
    have ih := textFrom_le r (k + 1) (acc ++ (if k > 0 then ", " else "" : String) ++ t)
    show (textFrom (k + 1) _ r).length ≤ _
    rw [strLen_append, strLen_append] at ih
    rw [List.map_cons, List.sum_cons]
    have c : ((if k > 0 then ", " else "" : String) : Str).length ≤ 2 := by split <;> decide
    omega
theorem strOk_lt {x : Str} (h : PyData.strOk x = true) : ∀ c ∈ x.cps.toList, c < 16 ^ 8 := fun c hc => by
  have := Array.all_eq_true'.mp h c (by simpa using hc)
  have h2 : c < 0x110000 := of_decide_eq_true this
  omega
mutual
theorem shown_sz : ∀ (n : Nat) (d : D), D.fit n d = true → d.py.shown.length ≤ d.sz
  | _, .non, _ => by simp only [D.py, PyData.shown, D.sz]; decide
  | _, .bl b, _ => by cases b <;> simp only [D.py, PyData.shown, D.sz] <;> decide
  | _, .int i, h => by
    simp only [D.py, PyData.shown, D.sz]
    have h' : i.natAbs < 10 ^ 60 := by simpa [D.fit] using h
    have := int_text_length_le10 (k := 60) (by decide) h'
    show (Str.ofString (toString i)).length ≤ 61
    rw [PySem.ofString_length]
    exact this
  | _, .str x, h => by
    simp only [D.py, PyData.shown, D.sz]
    exact PySem.StrLaws.reprText_len x (strOk_lt (by simpa [D.fit] using h))
  | 0, .lst _, h => by simp [D.fit] at h
  | 0, .tup _, h => by simp [D.fit] at h
  | 0, .dic _, h => by simp [D.fit] at h
  | n + 1, .lst ds, h => by
    have ih := showns_sz n ds (by simpa [D.fit] using h)
    simp only [D.py, PyData.shown, D.sz]
    unfold listText
    rw [strLen_append]
    have := textFrom_le (PyData.shownAll (D.pys ds)) 0 "["
    have e1 : ("[" : Str).length = 1 := rfl
    have e2 : ("]" : Str).length = 1 := rfl
    omega
  | n + 1, .tup ds, h => by
    have ih := showns_sz n ds (by simpa [D.fit] using h)
    simp only [D.py, PyData.shown, D.sz]
    unfold tupleText
    rw [strLen_append, strLen_append]
    have := join_le (PyData.shownAll (D.pys ds))
    have e1 : ("(" : Str).length = 1 := rfl
    have e2 : ((if (PyData.shownAll (D.pys ds)).length == 1 then ",)" else ")" : String) : Str).length ≤ 2 := by split <;> decide
    omega
  | n + 1, .dic es, h => by
    have ih := shownk_sz n es (by simpa [D.fit] using h)
    simp only [D.py, PyData.shown, D.sz]
    unfold dictText
    rw [strLen_append, strLen_append]
    have := join_le (PyData.shownKv (D.pyk es))
    have e1 : ("{" : Str).length = 1 := rfl
    have e2 : ("}" : Str).length = 1 := rfl
    omega
  | _, .ref _, h => by simp [D.fit] at h
  | _, .ty _, h => by simp [D.fit] at h
  | _, .exc _ _, h => by simp [D.fit] at h
  | _, .cls _, h => by simp [D.fit] at h
theorem showns_sz : ∀ (n : Nat) (ds : List D), D.fits n ds = true → ((PyData.shownAll (D.pys ds)).map fun t => t.length + 2).sum ≤ D.szs ds
  | _, [], _ => by simp [D.pys, PyData.shownAll, D.szs]
  | n, d :: ds, h => by
    simp only [D.fits, Bool.and_eq_true] at h
    have a := shown_sz n d h.1
    have b := showns_sz n ds h.2
    simp only [D.pys, PyData.shownAll, D.szs, List.map_cons, List.sum_cons]
    omega
theorem shownk_sz : ∀ (n : Nat) (es : List (Key × D)), D.fitk n es = true → ((PyData.shownKv (D.pyk es)).map fun t => t.length + 2).sum ≤ D.szk es
  | _, [], _ => by simp [D.pyk, PyData.shownKv, D.szk]
  | n, (.inl i, d) :: es, h => by
    simp only [D.fitk, Bool.and_eq_true, decide_eq_true_eq] at h
    have a := shown_sz n d h.1.2
    have b := shownk_sz n es h.2
    have c := int_text_length_le10 (k := 60) (by decide) h.1.1
    have c' : (PyData.shown (.int i)).length ≤ 61 := by
      simp only [PyData.shown]
      show (Str.ofString (toString i)).length ≤ 61
      rw [PySem.ofString_length]
      exact c
    simp only [D.pyk, PyData.shownKv, D.szk, List.map_cons, List.sum_cons]
    rw [strLen_append, strLen_append]
    have e1 : (": " : Str).length = 2 := rfl
    omega
  | n, (.inr x, d) :: es, h => by
    simp only [D.fitk, Bool.and_eq_true] at h
    have a := shown_sz n d h.1.2
    have b := shownk_sz n es h.2
    have c := PySem.StrLaws.reprText_len x (strOk_lt h.1.1)
    have c' : (PyData.shown (.str x)).length ≤ 10 * x.length + 2 := by
      simp only [PyData.shown]
      exact c
    simp only [D.pyk, PyData.shownKv, D.szk, List.map_cons, List.sum_cons]
    rw [strLen_append, strLen_append]
    have e1 : (": " : Str).length = 2 := rfl
    omega
end
theorem log2_60 {i : Int} (h : i.natAbs < 10 ^ 60) : i.natAbs.log2 < 1920 := by
  by_cases z : i.natAbs = 0
  · rw [z]; decide
  · exact Nat.lt_trans ((Nat.log2_lt z).mpr (Nat.lt_trans h (by decide : 10 ^ 60 < 2 ^ 200))) (by decide)
mutual
theorem fit_facts : ∀ (n : Nat) (d : D), D.fit n d = true → d.okr = true ∧ d.py.showable = true ∧ d.py.depth ≤ n ∧ (d.noDc = true → d.py.hasDict = false)
  | n, .non, _ => by simp [D.okr, D.py, PyData.showable, PyData.depth, PyData.hasDict]
  | n, .bl b, _ => by simp [D.okr, D.py, PyData.showable, PyData.depth, PyData.hasDict]
  | n, .int i, h => by
    have h' : i.natAbs < 10 ^ 60 := by simpa [D.fit] using h
    have := log2_60 h'
    simp only [D.okr, D.py, PyData.showable, PyData.depth, PyData.hasDict]
    exact ⟨trivial, decide_eq_true this, Nat.zero_le _, fun _ => trivial⟩
  | n, .str x, _ => by simp [D.okr, D.py, PyData.showable, PyData.depth, PyData.hasDict]
  | 0, .lst _, h => by simp [D.fit] at h
  | 0, .tup _, h => by simp [D.fit] at h
  | 0, .dic _, h => by simp [D.fit] at h
  | n + 1, .lst ds, h => by
    obtain ⟨a, b, c, e⟩ := fits_facts n ds (by simpa [D.fit] using h)
    simp only [D.okr, D.py, PyData.showable, PyData.depth, PyData.hasDict, D.noDc]
    exact ⟨a, b, by omega, e⟩
  | n + 1, .tup ds, h => by
    obtain ⟨a, b, c, e⟩ := fits_facts n ds (by simpa [D.fit] using h)
    simp only [D.okr, D.py, PyData.showable, PyData.depth, PyData.hasDict, D.noDc]
    exact ⟨a, b, by omega, e⟩
  | n + 1, .dic es, h => by
    obtain ⟨a, b, c⟩ := fitk_facts n es (by simpa [D.fit] using h)
    simp only [D.okr, D.py, PyData.showable, PyData.depth, PyData.hasDict, D.noDc]
    exact ⟨a, b, by omega, fun z => absurd z Bool.false_ne_true⟩
  | _, .ref _, h => by simp [D.fit] at h
  | _, .ty _, h => by simp [D.fit] at h
  | _, .exc _ _, h => by simp [D.fit] at h
  | _, .cls _, h => by simp [D.fit] at h
theorem fits_facts : ∀ (n : Nat) (ds : List D), D.fits n ds = true → D.okrs ds = true ∧ PyData.showableAll (D.pys ds) = true ∧ PyData.depthAll (D.pys ds) ≤ n ∧ (D.noDcs ds = true → PyData.hasDictAll (D.pys ds) = false)
  | n, [], _ => by simp [D.okrs, D.pys, PyData.showableAll, PyData.depthAll, PyData.hasDictAll]
  | n, d :: ds, h => by
    simp only [D.fits, Bool.and_eq_true] at h
    obtain ⟨a, b, c, e⟩ := fit_facts n d h.1
    obtain ⟨a2, b2, c2, e2⟩ := fits_facts n ds h.2
    simp only [D.okrs, D.pys, PyData.showableAll, PyData.depthAll, PyData.hasDictAll, D.noDcs, Bool.and_eq_true, Bool.or_eq_false_iff]
    exact ⟨⟨a, a2⟩, ⟨b, b2⟩, by omega, fun z => ⟨e z.1, e2 z.2⟩⟩
theorem fitk_facts : ∀ (n : Nat) (es : List (Key × D)), D.fitk n es = true → D.okrk es = true ∧ PyData.showableKv (D.pyk es) = true ∧ PyData.depthKv (D.pyk es) ≤ n
  | n, [], _ => by simp [D.okrk, D.pyk, PyData.showableKv, PyData.depthKv]
  | n, (.inl i, d) :: es, h => by
    simp only [D.fitk, Bool.and_eq_true, decide_eq_true_eq] at h
    obtain ⟨a, b, c, e⟩ := fit_facts n d h.1.2
    obtain ⟨a2, b2, c2⟩ := fitk_facts n es h.2
    have l := log2_60 h.1.1
    simp only [D.okrk, D.pyk, PyData.showableKv, PyData.depthKv, PyData.showable, PyData.depth, Bool.and_eq_true]
    exact ⟨⟨a, a2⟩, ⟨⟨decide_eq_true l, b⟩, b2⟩, by omega⟩
  | n, (.inr x, d) :: es, h => by
    simp only [D.fitk, Bool.and_eq_true] at h
    obtain ⟨a, b, c, e⟩ := fit_facts n d h.1.2
    obtain ⟨a2, b2, c2⟩ := fitk_facts n es h.2
    simp only [D.okrk, D.pyk, PyData.showableKv, PyData.depthKv, PyData.showable, PyData.depth, Bool.and_eq_true]
    exact ⟨⟨a, a2⟩, ⟨⟨trivial, b⟩, b2⟩, by omega⟩
end
theorem Shw.of {n : Nat} {d : D} (h : D.fit n d = true) (hn : n ≤ 60) (hz : d.sz ≤ 16777216) (hd : d.noDc = true ∨ d.noSq = true) : Shw d := by
  obtain ⟨a, b, c, e⟩ := fit_facts n d h
  refine ⟨a, b, Nat.le_trans (shown_sz n d h) hz, by omega, fun z => ?_⟩
  rcases hd with hd | hd
  · rw [e hd] at z; cases z
  · exact hd
mutual
theorem fit_flat : ∀ (n : Nat) (d : D), D.fit n d = true → d.noDc = true → D.flat n d = true
  | _, .non, _, _ => by simp [D.flat]
  | _, .bl _, _, _ => by simp [D.flat]
  | _, .int _, _, _ => by simp [D.flat]
  | _, .str _, h, _ => by simpa [D.flat, D.fit] using h
  | 0, .lst _, h, _ => by simp [D.fit] at h
  | 0, .tup _, h, _ => by simp [D.fit] at h
  | _, .dic _, _, h => by simp [D.noDc] at h
  | n + 1, .lst ds, h, g => by
    simp only [D.flat]
    exact fits_flat n ds (by simpa [D.fit] using h) (by simpa [D.noDc] using g)
  | n + 1, .tup ds, h, g => by
    simp only [D.flat]
    exact fits_flat n ds (by simpa [D.fit] using h) (by simpa [D.noDc] using g)
  | _, .ref _, h, _ => by simp [D.fit] at h
  | _, .ty _, h, _ => by simp [D.fit] at h
  | _, .exc _ _, h, _ => by simp [D.fit] at h
  | _, .cls _, h, _ => by simp [D.fit] at h
theorem fits_flat : ∀ (n : Nat) (ds : List D), D.fits n ds = true → D.noDcs ds = true → D.flats n ds = true
  | _, [], _, _ => by simp [D.flats]
  | n, d :: ds, h, g => by
    simp only [D.fits, D.noDcs, Bool.and_eq_true] at h g
    simp only [D.flats, Bool.and_eq_true]
    exact ⟨fit_flat n d h.1 g.1, fits_flat n ds h.2 g.2⟩
end
mutual
theorem fit_le : ∀ (n m : Nat) (d : D), n ≤ m → D.fit n d = true → D.fit m d = true
  | n, m, .non, _, _ => by simp [D.fit]
  | n, m, .bl _, _, _ => by simp [D.fit]
  | n, m, .int _, _, h => by simpa [D.fit] using h
  | n, m, .str _, _, h => by simpa [D.fit] using h
  | 0, m, .lst _, _, h => by simp [D.fit] at h
  | 0, m, .tup _, _, h => by simp [D.fit] at h
  | 0, m, .dic _, _, h => by simp [D.fit] at h
  | n + 1, 0, .lst _, h, _ => by omega
  | n + 1, 0, .tup _, h, _ => by omega
  | n + 1, 0, .dic _, h, _ => by omega
  | n + 1, m + 1, .lst ds, hn, h => by
    simp only [D.fit] at h ⊢
    exact fits_le n m ds (by omega) h
  | n + 1, m + 1, .tup ds, hn, h => by
    simp only [D.fit] at h ⊢
    exact fits_le n m ds (by omega) h
  | n + 1, m + 1, .dic es, hn, h => by
    simp only [D.fit] at h ⊢
    exact fitk_le n m es (by omega) h
  | _, _, .ref _, _, h => by simp [D.fit] at h
  | _, _, .ty _, _, h => by simp [D.fit] at h
  | _, _, .exc _ _, _, h => by simp [D.fit] at h
  | _, _, .cls _, _, h => by simp [D.fit] at h
theorem fits_le : ∀ (n m : Nat) (ds : List D), n ≤ m → D.fits n ds = true → D.fits m ds = true
  | _, _, [], _, _ => by simp [D.fits]
  | n, m, d :: ds, hn, h => by
    simp only [D.fits, Bool.and_eq_true] at h ⊢
    exact ⟨fit_le n m d hn h.1, fits_le n m ds hn h.2⟩
theorem fitk_le : ∀ (n m : Nat) (es : List (Key × D)), n ≤ m → D.fitk n es = true → D.fitk m es = true
  | _, _, [], _, _ => by simp [D.fitk]
  | n, m, (.inl _, d) :: es, hn, h => by
    simp only [D.fitk, Bool.and_eq_true] at h ⊢
    exact ⟨⟨h.1.1, fit_le n m d hn h.1.2⟩, fitk_le n m es hn h.2⟩
  | n, m, (.inr _, d) :: es, hn, h => by
    simp only [D.fitk, Bool.and_eq_true] at h ⊢
    exact ⟨⟨h.1.1, fit_le n m d hn h.1.2⟩, fitk_le n m es hn h.2⟩
end
/-! ### lists -/
section
variable {n : Nat} {a b : List D} {d : D}
theorem fits_append : D.fits n (a ++ b) = (D.fits n a && D.fits n b) := by
  induction a with
  | nil => simp [D.fits]
  | cons x a ih => simp only [List.cons_append, D.fits, ih, Bool.and_assoc]
theorem szs_append : D.szs (a ++ b) = D.szs a + D.szs b := by
  induction a with
  | nil => simp [D.szs]
  | cons x a ih => simp only [List.cons_append, D.szs, ih]; omega
theorem noSqs_append : D.noSqs (a ++ b) = (D.noSqs a && D.noSqs b) := by
  induction a with
  | nil => simp [D.noSqs]
  | cons x a ih => simp only [List.cons_append, D.noSqs, ih, Bool.and_assoc]
theorem noDcs_append : D.noDcs (a ++ b) = (D.noDcs a && D.noDcs b) := by
  induction a with
  | nil => simp [D.noDcs]
  | cons x a ih => simp only [List.cons_append, D.noDcs, ih, Bool.and_assoc]
theorem fits_iff : D.fits n a = true ↔ ∀ d ∈ a, D.fit n d = true := by
  induction a with
  | nil => simp [D.fits]
  | cons x a ih => simp only [D.fits, Bool.and_eq_true, ih, List.mem_cons, forall_eq_or_imp]
theorem noSqs_iff : D.noSqs a = true ↔ ∀ d ∈ a, D.noSq d = true := by
  induction a with
  | nil => simp [D.noSqs]
  | cons x a ih => simp only [D.noSqs, Bool.and_eq_true, ih, List.mem_cons, forall_eq_or_imp]
theorem noDcs_iff : D.noDcs a = true ↔ ∀ d ∈ a, D.noDc d = true := by
  induction a with
  | nil => simp [D.noDcs]
  | cons x a ih => simp only [D.noDcs, Bool.and_eq_true, ih, List.mem_cons, forall_eq_or_imp]
theorem szs_le {B : Nat} (h : ∀ d ∈ a, d.sz ≤ B) : D.szs a ≤ a.length * (B + 2) := by
  induction a with
  | nil => simp [D.szs]
  | cons x a ih =>
    have h1 := h x List.mem_cons_self
    have h2 := ih fun d hd => h d (List.mem_cons_of_mem _ hd)
    simp only [D.szs, List.length_cons, Nat.add_mul]
    omega
theorem sz_mem (h : d ∈ a) : d.sz ≤ D.szs a := by
  induction a with
  | nil => cases h
  | cons x a ih =>
    simp only [D.szs]
    rcases List.mem_cons.mp h with e | h
    · rw [e]; omega
    · have := ih h; omega
theorem szs_take (k : Nat) : D.szs (a.take k) ≤ D.szs a := by
  have := szs_append (a := a.take k) (b := a.drop k)
  rw [List.take_append_drop] at this
  omega
theorem szs_drop (k : Nat) : D.szs (a.drop k) ≤ D.szs a := by
  have := szs_append (a := a.take k) (b := a.drop k)
  rw [List.take_append_drop] at this
  omega
theorem szs_reverse : D.szs a.reverse = D.szs a := by
  induction a with
  | nil => rfl
  | cons x a ih =>
    rw [List.reverse_cons, szs_append, ih]
    simp only [D.szs]
    omega
end
theorem cut_to {α : Type} {xs : List α} {k : Int} (h : 0 ≤ k) : cutD xs none (some k) = xs.take k.toNat := by
  obtain ⟨m, rfl⟩ := Int.eq_ofNat_of_zero_le h
  unfold cutD
  rw [HT.sIx_nat, HT.sIx_none, List.drop_zero, Nat.sub_zero, Int.toNat_natCast]
  exact (List.take_eq_take_min (l := xs) (i := m)).symm
theorem cut_from {α : Type} {xs : List α} {k : Int} (h : 0 ≤ k) : cutD xs (some k) none = xs.drop k.toNat := by
  obtain ⟨m, rfl⟩ := Int.eq_ofNat_of_zero_le h
  unfold cutD
  rw [HT.sIx_nat, HT.sIx_none, Int.toNat_natCast]
  by_cases z : m ≤ xs.length
  · rw [Nat.min_eq_left z, List.take_of_length_le (by rw [List.length_drop]; exact Nat.le_refl _)]
  · rw [Nat.min_eq_right (by omega), List.drop_length, List.drop_of_length_le (by omega), List.take_nil]
theorem atI_nat {α : Type} {xs : List α} {k : Nat} : L2.atI xs (k : Int) = xs[k]? := by
  unfold L2.atI L2.ixN
  rw [if_pos (by omega)]
  by_cases z : k < xs.length
  · rw [if_pos (by omega), Int.toNat_natCast]; rfl
  · rw [if_neg (by omega), List.getElem?_eq_none (by omega)]; rfl
theorem atI_in {α : Type} {xs : List α} {k : Int} (h : 0 ≤ k) (h2 : k < xs.length) : ∃ x, L2.atI xs k = some x ∧ x ∈ xs ∧ xs[k.toNat]? = some x := by
  obtain ⟨m, rfl⟩ := Int.eq_ofNat_of_zero_le h
  have hm : m < xs.length := by omega
  exact ⟨xs[m], by rw [atI_nat, List.getElem?_eq_getElem hm], List.getElem_mem hm, by rw [Int.toNat_natCast, List.getElem?_eq_getElem hm]⟩
/-- the subscript of a list by a drawn place -/
theorem gIx_lst {ds : List D} {k : Int} {Q : D → Prop} (h : 0 ≤ k) (h2 : k < ds.length) (hQ : ∀ d ∈ ds, Q d) : gIx (.lst ds) (.int k) Q := by
  obtain ⟨x, e, hx, _⟩ := atI_in h h2
  show (match L2.atI ds k with | some d => Q d | none => False)
  rw [e]
  exact hQ x hx
theorem gIx_tup {ds : List D} {k : Int} {Q : D → Prop} (h : 0 ≤ k) (h2 : k < ds.length) (hQ : ∀ d ∈ ds, Q d) : gIx (.tup ds) (.int k) Q := by
  obtain ⟨x, e, hx, _⟩ := atI_in h h2
  show (match L2.atI ds k with | some d => Q d | none => False)
  rw [e]
  exact hQ x hx
theorem gIx_tupE {ds : List D} {k : Nat} {x : D} {Q : D → Prop} (h : ds[k]? = some x) : gIx (.tup ds) (.int k) Q ↔ Q x := by
  show (match L2.atI ds (k : Int) with | some d => Q d | none => False) ↔ _
  rw [atI_nat, h]
theorem gIx_lstE {ds : List D} {k : Nat} {x : D} {Q : D → Prop} (h : ds[k]? = some x) : gIx (.lst ds) (.int k) Q ↔ Q x := by
  show (match L2.atI ds (k : Int) with | some d => Q d | none => False) ↔ _
  rw [atI_nat, h]
/-! ### kinds -/
def D.isI : D → Bool | .int _ => true | .bl _ => true | _ => false
def D.isB : D → Bool | .bl _ => true | _ => false
def D.isS : D → Bool | .str _ => true | _ => false
def D.isL : D → Bool | .lst _ => true | _ => false
def D.isT : D → Bool | .tup _ => true | _ => false
def D.isC : D → Bool | .dic _ => true | _ => false
theorem isD_i {x : D} : isD x "int" = x.isI := by cases x <;> rfl
theorem isD_b {x : D} : isD x "bool" = x.isB := by cases x <;> rfl
theorem isD_s {x : D} : isD x "str" = x.isS := by cases x <;> rfl
theorem isD_l {x : D} : isD x "list" = x.isL := by cases x <;> rfl
theorem isD_t {x : D} : isD x "tuple" = x.isT := by cases x <;> rfl
theorem isD_c {x : D} : isD x "dict" = x.isC := by cases x <;> rfl
theorem fit_tyn : ∀ {k : Nat} {x : D}, D.fit k x = true → x.tyn.isSome = true
  | _, .non, _ => rfl
  | _, .bl _, _ => rfl
  | _, .int _, _ => rfl
  | _, .str _, _ => rfl
  | _, .lst _, _ => rfl
  | _, .tup _, _ => rfl
  | _, .dic _, _ => rfl
  | _, .ref _, h => by simp [D.fit] at h
  | _, .ty _, h => by simp [D.fit] at h
  | _, .exc _ _, h => by simp [D.fit] at h
  | _, .cls _, h => by simp [D.fit] at h
theorem ty_in : ("int" ∈ tyNames) ∧ ("bool" ∈ tyNames) ∧ ("str" ∈ tyNames) ∧ ("list" ∈ tyNames) ∧ ("tuple" ∈ tyNames) ∧ ("dict" ∈ tyNames) := by decide
theorem xIsiI {x : D} {Q : D → Prop} (h : x.tyn.isSome = true) : gIsi [x, .ty "int"] Q ↔ Q (.bl x.isI) := by rw [xIsi, isD_i]; exact ⟨fun h => h.2, fun q => ⟨⟨h, ty_in.1⟩, q⟩⟩
theorem xIsiB {x : D} {Q : D → Prop} (h : x.tyn.isSome = true) : gIsi [x, .ty "bool"] Q ↔ Q (.bl x.isB) := by rw [xIsi, isD_b]; exact ⟨fun h => h.2, fun q => ⟨⟨h, ty_in.2.1⟩, q⟩⟩
theorem xIsiS {x : D} {Q : D → Prop} (h : x.tyn.isSome = true) : gIsi [x, .ty "str"] Q ↔ Q (.bl x.isS) := by rw [xIsi, isD_s]; exact ⟨fun h => h.2, fun q => ⟨⟨h, ty_in.2.2.1⟩, q⟩⟩
theorem xIsiL {x : D} {Q : D → Prop} (h : x.tyn.isSome = true) : gIsi [x, .ty "list"] Q ↔ Q (.bl x.isL) := by rw [xIsi, isD_l]; exact ⟨fun h => h.2, fun q => ⟨⟨h, ty_in.2.2.2.1⟩, q⟩⟩
theorem xIsiT {x : D} {Q : D → Prop} (h : x.tyn.isSome = true) : gIsi [x, .ty "tuple"] Q ↔ Q (.bl x.isT) := by rw [xIsi, isD_t]; exact ⟨fun h => h.2, fun q => ⟨⟨h, ty_in.2.2.2.2.1⟩, q⟩⟩
theorem xIsiC {x : D} {Q : D → Prop} (h : x.tyn.isSome = true) : gIsi [x, .ty "dict"] Q ↔ Q (.bl x.isC) := by rw [xIsi, isD_c]; exact ⟨fun h => h.2, fun q => ⟨⟨h, ty_in.2.2.2.2.2⟩, q⟩⟩
theorem fits_get {k : Nat} {ds : List D} {i : Nat} {d : D} (h : D.fits k ds = true) (e : ds[i]? = some d) : D.fit k d = true := fits_iff.mp h d (List.mem_of_getElem? e)
theorem atI0 {α : Type} {x : α} {xs : List α} : L2.atI (x :: xs) 0 = some x := by
  show L2.atI (x :: xs) ((0 : Nat) : Int) = _
  rw [atI_nat]; rfl
theorem xIx0T {x : D} {xs : List D} {Q : D → Prop} : gIx (.tup (x :: xs)) (.int 0) Q ↔ Q x := gIx_tupE (k := 0) rfl
theorem xIx1T {x y : D} {xs : List D} {Q : D → Prop} : gIx (.tup (x :: y :: xs)) (.int 1) Q ↔ Q y := gIx_tupE (k := 1) rfl
theorem xIx2T {x y z : D} {xs : List D} {Q : D → Prop} : gIx (.tup (x :: y :: z :: xs)) (.int 2) Q ↔ Q z := gIx_tupE (k := 2) rfl
theorem xIx3T {x y z w : D} {xs : List D} {Q : D → Prop} : gIx (.tup (x :: y :: z :: w :: xs)) (.int 3) Q ↔ Q w := gIx_tupE (k := 3) rfl
theorem xIx0L {x : D} {xs : List D} {Q : D → Prop} : gIx (.lst (x :: xs)) (.int 0) Q ↔ Q x := gIx_lstE (k := 0) rfl
theorem xIx1L {x y : D} {xs : List D} {Q : D → Prop} : gIx (.lst (x :: y :: xs)) (.int 1) Q ↔ Q y := gIx_lstE (k := 1) rfl
/-! ### comparisons of flat data -/
theorem eqv_str {a b : Str} : D.eqv (.str a) (.str b) = (a == b) := by simp [D.eqv]
theorem cq_flat {x y : D} (hx : D.flat 60 x = true) (hy : D.flat 60 y = true) : D.cq x y = true := by simp [D.cq, hx, hy]
theorem xEqF {x y : D} {Q : D → Prop} (hx : D.flat 60 x = true) (hy : D.flat 60 y = true) : gEqV x y Q ↔ Q (.bl (D.eqv x y)) := by
  have c := cq_flat hx hy
  have gen : (D.cq x y = true ∧ Q (.bl (D.eqv x y))) ↔ Q (.bl (D.eqv x y)) := ⟨fun h => h.2, fun h => ⟨c, h⟩⟩
  cases x <;> cases y <;> first
    | exact gen
    | (rw [eqv_str]; exact Iff.rfl)
theorem xEqC {x y : List D} {Q : D → Prop} (h : D.cq (.tup x) (.tup y) = true) : gEqV (.tup x) (.tup y) Q ↔ Q (.bl (D.eqvs x y)) := by
  have e : D.eqv (.tup x) (.tup y) = D.eqvs x y := by simp only [D.eqv]
  rw [← e]
  exact ⟨fun h => h.2, fun q => ⟨h, q⟩⟩
theorem xInT {x : D} {ds : List D} {Q : D → Prop} (h : ∀ d ∈ ds, D.flat 60 d = true ∧ D.cq d x = true) : gIn x (.tup ds) Q ↔ Q (.bl (ds.any fun d => D.eqv d x)) := ⟨fun h => h.2, fun q => ⟨h, q⟩⟩
theorem xInL {x : D} {ds : List D} {Q : D → Prop} (h : ∀ d ∈ ds, D.flat 60 d = true ∧ D.cq d x = true) : gIn x (.lst ds) Q ↔ Q (.bl (ds.any fun d => D.eqv d x)) := ⟨fun h => h.2, fun q => ⟨h, q⟩⟩
theorem xNotInT {x : D} {ds : List D} {Q : D → Prop} (h : ∀ d ∈ ds, D.flat 60 d = true ∧ D.cq d x = true) : gNotIn x (.tup ds) Q ↔ Q (.bl (!ds.any fun d => D.eqv d x)) := ⟨fun h => h.2, fun q => ⟨h, q⟩⟩
theorem xNotInL {x : D} {ds : List D} {Q : D → Prop} (h : ∀ d ∈ ds, D.flat 60 d = true ∧ D.cq d x = true) : gNotIn x (.lst ds) Q ↔ Q (.bl (!ds.any fun d => D.eqv d x)) := ⟨fun h => h.2, fun q => ⟨h, q⟩⟩
/-- a text among texts -/
theorem strs_in {s : Str} {ws : List Str} (hs : PyData.strOk s = true) (hw : ws.all PyData.strOk = true) : ∀ d ∈ ws.map D.str, D.flat 60 d = true ∧ D.cq d (.str s) = true := fun d hd => by
  obtain ⟨w, hw2, rfl⟩ := List.mem_map.mp hd
  have a : D.flat 60 (.str w) = true := by simpa [D.flat] using List.all_eq_true.mp hw w hw2
  exact ⟨a, cq_flat a (by simpa [D.flat] using hs)⟩
end U

set_option Elab.async false
set_option linter.all false
set_option maxRecDepth 100000
set_option maxHeartbeats 4000000
/-! More rules: sums and the like, stores of several names, methods of own lists. -/
namespace U
open PySem PySem.Spec L2
open PyProof.Rows hiding St

def D.ints : List D → Option (List Int)
  | [] => some []
  | .int i :: r => (D.ints r).map (i :: ·)
  | _ :: _ => none
def D.bls : List D → Option (List Bool)
  | [] => some []
  | .bl i :: r => (D.bls r).map (i :: ·)
  | _ :: _ => none
def D.strs : List D → Option (List Str)
  | [] => some []
  | .str i :: r => (D.strs r).map (i :: ·)
  | _ :: _ => none
theorem ints_eq : ∀ {ds : List D} {ns : List Int}, D.ints ds = some ns → ds = ns.map D.int
  | [], ns, h => by cases h; rfl
  | .int i :: r, ns, h => by
    have h' : (D.ints r).map (i :: ·) = some ns := h
    cases q : D.ints r with
    | none => rw [q] at h'; cases h'
    | some ms => rw [q] at h'; cases h'; rw [ints_eq q]; rfl
  | .non :: _, _, h => by cases h
  | .bl _ :: _, _, h => by cases h
  | .str _ :: _, _, h => by cases h
  | .lst _ :: _, _, h => by cases h
  | .tup _ :: _, _, h => by cases h
  | .dic _ :: _, _, h => by cases h
  | .ref _ :: _, _, h => by cases h
  | .ty _ :: _, _, h => by cases h
  | .exc _ _ :: _, _, h => by cases h
  | .cls _ :: _, _, h => by cases h
theorem bls_eq : ∀ {ds : List D} {ns : List Bool}, D.bls ds = some ns → ds = ns.map D.bl
  | [], ns, h => by cases h; rfl
  | .bl i :: r, ns, h => by
    have h' : (D.bls r).map (i :: ·) = some ns := h
    cases q : D.bls r with
    | none => rw [q] at h'; cases h'
    | some ms => rw [q] at h'; cases h'; rw [bls_eq q]; rfl
  | .non :: _, _, h => by cases h
  | .int _ :: _, _, h => by cases h
  | .str _ :: _, _, h => by cases h
  | .lst _ :: _, _, h => by cases h
  | .tup _ :: _, _, h => by cases h
  | .dic _ :: _, _, h => by cases h
  | .ref _ :: _, _, h => by cases h
  | .ty _ :: _, _, h => by cases h
  | .exc _ _ :: _, _, h => by cases h
  | .cls _ :: _, _, h => by cases h
theorem strs_eq : ∀ {ds : List D} {ns : List Str}, D.strs ds = some ns → ds = ns.map D.str
  | [], ns, h => by cases h; rfl
  | .str i :: r, ns, h => by
    have h' : (D.strs r).map (i :: ·) = some ns := h
    cases q : D.strs r with
    | none => rw [q] at h'; cases h'
    | some ms => rw [q] at h'; cases h'; rw [strs_eq q]; rfl
  | .non :: _, _, h => by cases h
  | .int _ :: _, _, h => by cases h
  | .bl _ :: _, _, h => by cases h
  | .lst _ :: _, _, h => by cases h
  | .tup _ :: _, _, h => by cases h
  | .dic _ :: _, _, h => by cases h
  | .ref _ :: _, _, h => by cases h
  | .ty _ :: _, _, h => by cases h
  | .exc _ _ :: _, _, h => by cases h
  | .cls _ :: _, _, h => by cases h
theorem ints_map : ∀ ns : List Int, D.ints (ns.map D.int) = some ns
  | [] => rfl
  | n :: ns => by
    show (D.ints (ns.map D.int)).map (n :: ·) = _
    rw [ints_map ns]; rfl
theorem bls_map : ∀ ns : List Bool, D.bls (ns.map D.bl) = some ns
  | [] => rfl
  | n :: ns => by
    show (D.bls (ns.map D.bl)).map (n :: ·) = _
    rw [bls_map ns]; rfl
theorem strs_map : ∀ ns : List Str, D.strs (ns.map D.str) = some ns
  | [] => rfl
  | n :: ns => by
    show (D.strs (ns.map D.str)).map (n :: ·) = _
    rw [strs_map ns]; rfl
section
variable {K : PySem.W.Frag} {O : Ad} {H : Hp}
theorem rp_int_inv : ∀ {ns : List Int} {vs : List V}, RpA K O H vs (ns.map D.int) → vs = ns.map V.int
  | [], _, .nil => rfl
  | n :: ns, _, .cons h t => by
    cases h
    rw [rp_int_inv t]; rfl
theorem rp_bl_inv : ∀ {ns : List Bool} {vs : List V}, RpA K O H vs (ns.map D.bl) → vs = ns.map V.bl
  | [], _, .nil => rfl
  | n :: ns, _, .cons h t => by
    cases h
    rw [rp_bl_inv t]; rfl
theorem rp_str_inv : ∀ {ns : List Str} {vs : List V}, RpA K O H vs (ns.map D.str) → vs = ns.map V.str
  | [], _, .nil => rfl
  | n :: ns, _, .cons h t => by
    cases h
    rw [rp_str_inv t]; rfl
theorem rp_strs : ∀ ns : List Str, RpA K O H (ns.map V.str) (ns.map D.str)
  | [] => .nil
  | n :: ns => .cons (.str n) (rp_strs ns)
end
def gSumL : GL
  | [.lst ds], Q => match D.ints ds with
    | some ns => Q (.int ns.sum)
    | none => False
  | _, _ => False
def gMaxL : GL
  | [.lst ds], Q => match D.ints ds with
    | some ns => 0 < ns.length ∧ ∀ m, m ∈ ns → (∀ y, y ∈ ns → y ≤ m) → Q (.int m)
    | none => False
  | _, _ => False
def gMinL : GL
  | [.lst ds], Q => match D.ints ds with
    | some ns => 0 < ns.length ∧ ∀ m, m ∈ ns → (∀ y, y ∈ ns → m ≤ y) → Q (.int m)
    | none => False
  | _, _ => False
def gAll : GL
  | [.lst ds], Q => match D.bls ds with
    | some ns => Q (.bl (ns.all id))
    | none => False
  | _, _ => False
def gAny : GL
  | [.lst ds], Q => match D.bls ds with
    | some ns => Q (.bl (ns.any id))
    | none => False
  | _, _ => False
/-- sorted, ints -/
def gSorted : GL
  | [.lst ds], Q => match D.ints ds with
    | some ns => ns.length < 64 ∧ ∀ ms : List Int, ms.Perm ns → ms.Pairwise (· ≤ ·) → Q (.lst (ms.map D.int))
    | none => False
  | _, _ => False
section
variable {X : Cx}
theorem call_SumLU (hc : X.calm = true) : CallR X (.builtin "sum") (lCR X.K gSumL) := by
  intro pins s σ H xs us Q I rx ⟨O, ds, P, tr, ha, hg, hP⟩
  unfold gSumL at hg
  split at hg
  · split at hg
    · rename_i e
      cases ints_eq e
      cases ha with
      | cons h t =>
        cases t
        cases h with
        | lst l a =>
          cases rp_int_inv a
          exact cr_sum hc pins s σ H _ us Q I rx ⟨_, _, rfl, l.sq, hP _ hg _ _ (Same.refl _) (.int _)⟩
    · exact hg.elim
  · exact hg.elim
theorem call_MaxLU (hc : X.calm = true) : CallR X (.builtin "max") (lCR X.K gMaxL) := by
  intro pins s σ H xs us Q I rx ⟨O, ds, P, tr, ha, hg, hP⟩
  unfold gMaxL at hg
  split at hg
  · split at hg
    · rename_i e
      cases ints_eq e
      cases ha with
      | cons h t =>
        cases t
        cases h with
        | lst l a =>
          cases rp_int_inv a
          exact cr_max hc pins s σ H _ us Q I rx ⟨_, _, rfl, l.sq, hg.1, fun m h1 h2 => hP _ (hg.2 m h1 h2) _ _ (Same.refl _) (.int _)⟩
    · exact hg.elim
  · exact hg.elim
theorem call_MinLU (hc : X.calm = true) : CallR X (.builtin "min") (lCR X.K gMinL) := by
  intro pins s σ H xs us Q I rx ⟨O, ds, P, tr, ha, hg, hP⟩
  unfold gMinL at hg
  split at hg
  · split at hg
    · rename_i e
      cases ints_eq e
      cases ha with
      | cons h t =>
        cases t
        cases h with
        | lst l a =>
          cases rp_int_inv a
          exact cr_min hc pins s σ H _ us Q I rx ⟨_, _, rfl, l.sq, hg.1, fun m h1 h2 => hP _ (hg.2 m h1 h2) _ _ (Same.refl _) (.int _)⟩
    · exact hg.elim
  · exact hg.elim
theorem call_AllU (hc : X.calm = true) : CallR X (.builtin "all") (lCR X.K gAll) := by
  intro pins s σ H xs us Q I rx ⟨O, ds, P, tr, ha, hg, hP⟩
  unfold gAll at hg
  split at hg
  · split at hg
    · rename_i e
      cases bls_eq e
      cases ha with
      | cons h t =>
        cases t
        cases h with
        | lst l a =>
          cases rp_bl_inv a
          exact cr_all hc pins s σ H _ us Q I rx ⟨_, _, rfl, l.sq, hP _ hg _ _ (Same.refl _) (.bl _)⟩
    · exact hg.elim
  · exact hg.elim
theorem call_AnyU (hc : X.calm = true) : CallR X (.builtin "any") (lCR X.K gAny) := by
  intro pins s σ H xs us Q I rx ⟨O, ds, P, tr, ha, hg, hP⟩
  unfold gAny at hg
  split at hg
  · split at hg
    · rename_i e
      cases bls_eq e
      cases ha with
      | cons h t =>
        cases t
        cases h with
        | lst l a =>
          cases rp_bl_inv a
          exact cr_any hc pins s σ H _ us Q I rx ⟨_, _, rfl, l.sq, hP _ hg _ _ (Same.refl _) (.bl _)⟩
    · exact hg.elim
  · exact hg.elim
theorem call_SortedU : CallR X (.builtin "sorted") (lCR X.K gSorted) := by
  intro pins s σ H xs us Q I rx ⟨O, ds, P, tr, ha, hg, hP⟩
  unfold gSorted at hg
  split at hg
  · split at hg
    · rename_i e
      cases ints_eq e
      cases ha with
      | cons h t =>
        cases t
        cases h with
        | lst l a =>
          cases rp_int_inv a
          refine cr_sorted pins s σ H _ us Q I rx ⟨_, _, rfl, l.sq, hg.1, fun ms p h1 h2 hp => ?_⟩
          have sm := Same.new (o := HO.lst (ms.map V.int)) hp
          exact hP _ (hg.2 ms h1 h2) _ _ sm (.lst ⟨nofree tr hp, upd_same⟩ (rp_ints ms))
    · exact hg.elim
  · exact hg.elim
variable {O0 : Ad} {H0 : Hp} {a b c e : Expr} {ua ub uc : UE} {pos p : Pos} {W : WU}
/-! ### several names -/
def uSet2 (i j : Nat) (u : UE) : US := fun E ρ => u ρ fun d n => E.nx (((ρ.f n).put i (.dat d)).put j (.dat d))
theorem us_set2 {i j : Nat} {st : Stmt} (h : PS X st (tAsg2 (lE X.K O0 H0 ua) (gName i) (gName j))) : UPS X O0 H0 st (uSet2 i j ua) := PS.imp h fun σ H D ⟨ρ, E, r, hu, hn, _⟩ =>
  ⟨ρ, _, r, hu, fun d n hd v H1 r1 f1 p1 => hn _ hd _ H1 ((r1.put (ρ := ρ.f n) p1).put (p1.keep Tr.put.ks)) (((Tr.frm f1).trans Tr.put).trans Tr.put)⟩
/-- a, b = x, y -/
def uPar (i j : Nat) (u : UA) : US := fun E ρ => u ρ fun ds n => match ds with
  | [d, e] => E.nx (((ρ.f n).put i (.dat d)).put j (.dat e))
  | _ => False
theorem us_par {i j : Nat} {st : Stmt} {u : UA} (h : PS X st (tPar i j (lA X.K O0 H0 u))) : UPS X O0 H0 st (uPar i j u) := PS.imp h fun σ H D ⟨ρ, E, r, hu, hn, _⟩ =>
  ⟨ρ, _, r, hu, fun ds n hd vs H1 r1 f1 p1 => by
    split at hd
    · cases p1 with
      | cons h1 t1 => cases t1 with
        | cons h2 t2 =>
          cases t2
          exact ⟨_, _, rfl, hn _ hd _ H1 ((r1.put (ρ := ρ.f n) h1).put (h2.keep Tr.put.ks)) (((Tr.frm f1).trans Tr.put).trans Tr.put)⟩
    · exact hd.elim⟩
/-! ### methods of own lists that give nothing -/
def uOwnM (i : Nat) (f : List D → List D) : US := fun E ρ => match ρ.sl[i]? with
  | some (.own a (.l ds)) => E.nx (ρ.put i (.own a (f ds)))
  | _ => False
theorem us_reverse {i : Nat} {st : Stmt} (hb : PS X st (tDrop (tBM X.K "list" rReverse (tVar i) tNil))) : UPS X O0 H0 st (uOwnM i List.reverse) := PS.imp hb fun σ H D ⟨ρ, E, r, hu, hn, _⟩ => by
  dsimp only [uOwnM] at hu
  split at hu
  · rename_i a ds e
    obtain ⟨s1, _, _, np, xs, hx, rx⟩ := r.own i a ds e
    obtain ⟨r2, t2⟩ := r.setOwn (ρ := ρ) e rx.reverse
    exact ⟨_, s1, .inl ⟨rfl, xs, SqL.of hx⟩, a, xs, rfl, rfl, hx, hn _ hu _ _ r2 t2⟩
  · exact hu.elim
theorem us_clear {i : Nat} {st : Stmt} (hb : PS X st (tDrop (tBM X.K "list" rClear (tVar i) tNil))) : UPS X O0 H0 st (uOwnM i fun _ => []) := PS.imp hb fun σ H D ⟨ρ, E, r, hu, hn, _⟩ => by
  dsimp only [uOwnM] at hu
  split at hu
  · rename_i a ds e
    obtain ⟨s1, _, _, np, xs, hx, rx⟩ := r.own i a ds e
    obtain ⟨r2, t2⟩ := r.setOwn (ρ := ρ) e (.nil : RpA X.K (OO O0 ρ) H [] [])
    exact ⟨_, s1, .inl ⟨rfl, xs, SqL.of hx⟩, a, xs, rfl, rfl, hx, hn _ hu _ _ r2 t2⟩
  · exact hu.elim
/-- x.extend(e), e a list -/
def uExt (i : Nat) (u : UE) : US := fun E ρ => match ρ.sl[i]? with
  | some (.own a (.l ds)) => u ρ fun d n => match d with
    | .lst es => ds.length + es.length ≤ sizeLine ∧ E.nx ((ρ.f n).put i (.own a (ds ++ es)))
    | _ => False
  | _ => False
theorem us_ext {i : Nat} {st : Stmt} (hb : PS X st (tDrop (tBM X.K "list" rExtend (tVar i) (tCons (lE X.K O0 H0 ua) tNil)))) : UPS X O0 H0 st (uExt i ua) := PS.imp hb fun σ H D ⟨ρ, E, r, hu, hn, _⟩ => by
  dsimp only [uExt] at hu
  split at hu
  · rename_i a ds e
    obtain ⟨s1, _, _, np, xs, hx, _⟩ := r.own i a ds e
    refine ⟨_, s1, .inl ⟨rfl, xs, SqL.of hx⟩, ρ, _, r, hu, fun d n hd v H1 r1 f1 p1 => ?_⟩
    obtain ⟨_, _, _, _, ys, hy, ry⟩ := r1.own i a ds e
    cases p1 with
    | lst l ra =>
      obtain ⟨r2, t2⟩ := r1.setOwn (ρ := ρ.f n) e (ry.append ra)
      exact ⟨a, _, ys, _, rfl, rfl, hy, l.2, by rw [ry.length, ra.length]; exact hd.1, hn _ hd.2 _ _ r2 ((Tr.frm f1).trans t2)⟩
    | _ => exact hd.elim
  · exact hu.elim
end
end U

set_option Elab.async false
set_option linter.all false
set_option maxRecDepth 100000
set_option maxHeartbeats 4000000
/-! The readings of US step by step. -/
namespace U
open PySem PySem.Spec L2
open PyProof.Rows hiding St
section
variable {ρ : Ro} {sl : List Sl} {pn : PenT} {fu : Nat} {Q : D → Nat → Prop} {E : UEnds} {i j n m : Nat} {a b c : UE} {x y d : D} {ds es : List D} {ul : UA} {ad : Addr}
def kSet2 (i j : Nat) (E : UEnds) (ρ : Ro) : D → Nat → Prop := fun d n => E.nx (((ρ.f n).put i (.dat d)).put j (.dat d))
theorem sSet2 : uSet2 i j a E ρ = a ρ (kSet2 i j E ρ) := id rfl
theorem sSet21 : kSet2 i j E ⟨sl, pn, fu⟩ d n = E.nx ⟨(sl.set i (.dat d)).set j (.dat d), pn, n⟩ := id rfl
def kPar (i j : Nat) (E : UEnds) (ρ : Ro) : List D → Nat → Prop := fun ds n => match ds with
  | [d, e] => E.nx (((ρ.f n).put i (.dat d)).put j (.dat e))
  | _ => False
theorem sPar : uPar i j ul E ρ = ul ρ (kPar i j E ρ) := id rfl
theorem sPar1 : kPar i j E ⟨sl, pn, fu⟩ [x, y] n = E.nx ⟨(sl.set i (.dat x)).set j (.dat y), pn, n⟩ := id rfl
def kOwnM (i : Nat) (f : List D → List D) (E : UEnds) (ρ : Ro) : Option Sl → Prop
  | some (.own a (.l ds)) => E.nx (ρ.put i (.own a (f ds)))
  | _ => False
theorem sOwnM {f : List D → List D} : uOwnM i f E ρ = kOwnM i f E ρ ρ.sl[i]? := by
  unfold uOwnM kOwnM
  rfl
theorem sOwnM1 {f : List D → List D} : kOwnM i f E ⟨sl, pn, fu⟩ (some (.own ad ds)) = E.nx ⟨sl.set i (.own ad (f ds)), pn, fu⟩ := id rfl
def kExt2 (i : Nat) (a : Addr) (ds : List D) (E : UEnds) (ρ : Ro) : D → Nat → Prop := fun d n => match d with
  | .lst es => ds.length + es.length ≤ sizeLine ∧ E.nx ((ρ.f n).put i (.own a (ds ++ es)))
  | _ => False
def kExt (i : Nat) (u : UE) (E : UEnds) (ρ : Ro) : Option Sl → Prop
  | some (.own a (.l ds)) => u ρ (kExt2 i a ds E ρ)
  | _ => False
theorem sExt : uExt i a E ρ = kExt i a E ρ ρ.sl[i]? := by
  unfold uExt kExt kExt2
  rfl
theorem sExt1 : kExt i a E ρ (some (.own ad ds)) = a ρ (kExt2 i ad ds E ρ) := id rfl
theorem sExt2 : kExt2 i ad ds E ⟨sl, pn, fu⟩ (.lst es) n = (ds.length + es.length ≤ sizeLine ∧ E.nx ⟨sl.set i (.own ad (ds ++ es)), pn, n⟩) := id rfl
/-! while -/
def kWh (body : US) (I : Nat → Ro → Prop) (m : Nat) (E : UEnds) (ρ : Ro) : Bool → Nat → Prop := fun k n =>
  if k = true then body { E with nx := fun ρ' => ∃ m', m' < m ∧ I m' ρ', ct := fun ρ' => ∃ m', m' < m ∧ I m' ρ', bk := E.nx } (ρ.f n) else E.nx (ρ.f n)
theorem sWhile {tc : UT} {body : US} (I : Nat → Ro → Prop) (m0 : Nat) (h0 : I m0 ρ) (h : ∀ m ρ, I m ρ → tc ρ (kWh body I m E ρ)) : uWhile tc body E ρ := ⟨I, ⟨m0, h0⟩, h⟩
theorem sWh1 {body : US} {I : Nat → Ro → Prop} : kWh body I m E ⟨sl, pn, fu⟩ true n = body { E with nx := fun ρ' => ∃ m', m' < m ∧ I m' ρ', ct := fun ρ' => ∃ m', m' < m ∧ I m' ρ', bk := E.nx } ⟨sl, pn, n⟩ := id rfl
theorem sWh2 {body : US} {I : Nat → Ro → Prop} : kWh body I m E ⟨sl, pn, fu⟩ false n = E.nx ⟨sl, pn, n⟩ := id rfl
/-! None or not -/
theorem xIsNI {z : Int} {Q : D → Prop} : gIs (.int z) .non Q = Q (.bl false) := id rfl
theorem xIsNNo {Q : D → Prop} : gIs .non .non Q = Q (.bl true) := id rfl
theorem xIsNotI {z : Int} {Q : D → Prop} : gIsNot (.int z) .non Q = Q (.bl true) := id rfl
theorem xIsNotNo {Q : D → Prop} : gIsNot .non .non Q = Q (.bl false) := id rfl
theorem xIsNotL {Q : D → Prop} : gIsNot (.lst ds) .non Q = Q (.bl true) := id rfl
theorem xIsNotT {Q : D → Prop} : gIsNot (.tup ds) .non Q = Q (.bl true) := id rfl
theorem xIsNotS {z : Str} {Q : D → Prop} : gIsNot (.str z) .non Q = Q (.bl true) := id rfl
theorem xIsS {z : Str} {Q : D → Prop} : gIs (.str z) .non Q = Q (.bl false) := id rfl
theorem xIsL {Q : D → Prop} : gIs (.lst ds) .non Q = Q (.bl false) := id rfl
theorem xIsT {Q : D → Prop} : gIs (.tup ds) .non Q = Q (.bl false) := id rfl
/-! sums -/
theorem xSum {ns : List Int} {Q : D → Prop} : gSumL [.lst (ns.map D.int)] Q ↔ Q (.int ns.sum) := by
  show (match D.ints (ns.map D.int) with | some ns => Q (.int ns.sum) | none => False) ↔ _
  rw [ints_map]
theorem xMaxL {ns : List Int} {Q : D → Prop} : gMaxL [.lst (ns.map D.int)] Q ↔ 0 < ns.length ∧ ∀ m, m ∈ ns → (∀ y, y ∈ ns → y ≤ m) → Q (.int m) := by
  show (match D.ints (ns.map D.int) with | some ns => 0 < ns.length ∧ ∀ m, m ∈ ns → (∀ y, y ∈ ns → y ≤ m) → Q (.int m) | none => False) ↔ _
  rw [ints_map]
theorem xMinL {ns : List Int} {Q : D → Prop} : gMinL [.lst (ns.map D.int)] Q ↔ 0 < ns.length ∧ ∀ m, m ∈ ns → (∀ y, y ∈ ns → m ≤ y) → Q (.int m) := by
  show (match D.ints (ns.map D.int) with | some ns => 0 < ns.length ∧ ∀ m, m ∈ ns → (∀ y, y ∈ ns → m ≤ y) → Q (.int m) | none => False) ↔ _
  rw [ints_map]
theorem xAll {ns : List Bool} {Q : D → Prop} : gAll [.lst (ns.map D.bl)] Q ↔ Q (.bl (ns.all id)) := by
  show (match D.bls (ns.map D.bl) with | some ns => Q (.bl (ns.all id)) | none => False) ↔ _
  rw [bls_map]
theorem xAny {ns : List Bool} {Q : D → Prop} : gAny [.lst (ns.map D.bl)] Q ↔ Q (.bl (ns.any id)) := by
  show (match D.bls (ns.map D.bl) with | some ns => Q (.bl (ns.any id)) | none => False) ↔ _
  rw [bls_map]
/-! large factors -/
theorem mulok {i j : Int} (h : i.natAbs < 10 ^ 150) (h' : j.natAbs < 10 ^ 150) : MulOk i j := by
  have l : ∀ n : Nat, n < 10 ^ 150 → n.log2 < 600 := fun n h => by
    by_cases z : n = 0
    · rw [z]; decide
    · refine Nat.lt_trans ((Nat.log2_lt z).mpr (Nat.lt_of_lt_of_le h ?_)) (by decide : 250 + 250 < 600)
      exact Nat.le_trans (by decide : 10 ^ 150 ≤ 2 ^ 250 * 2 ^ 250) (by rw [← Nat.pow_add]; exact Nat.le_refl _)
  have a := l _ h
  have b := l _ h'
  exact .inr (.inr (by omega))
/-- not an own list, no test: the pen's name -/
theorem isPen_of {dk : Bool} {p : Addr} {c : PenC} (hk : c.dk = dk) : isPen dk (some (p, c)) (.ref p) := ⟨p, c, rfl, hk, rfl⟩
end
end U

set_option Elab.async false
set_option linter.all false
set_option maxRecDepth 100000
set_option maxHeartbeats 4000000
/-! Small things: words among words, unlike flat data. -/
namespace U
open PySem PySem.Spec L2
open PyProof.Rows hiding St
theorem any_strs (ws : List Str) (s : Str) : ((ws.map D.str).any fun d => D.eqv d (.str s)) = ws.any (· == s) := by
  induction ws with
  | nil => rfl
  | cons w ws ih => simp only [List.map_cons, List.any_cons, ih, eqv_str]
/-- s in ('a', 'b', ..) -/
theorem xInB {Q : D → Prop} (ws : List Str) (s : Str) (b : Bool) (h : (PyData.strOk s && ws.all PyData.strOk && (ws.any (· == s) == b)) = true) : gIn (.str s) (.tup (ws.map D.str)) Q ↔ Q (.bl b) := by
  simp only [Bool.and_eq_true, beq_iff_eq] at h
  obtain ⟨⟨h1, h2⟩, h3⟩ := h
  rw [xInT (strs_in h1 h2), any_strs, h3]
theorem xInS {Q : D → Prop} (ws : List Str) {s : Str} (h1 : PyData.strOk s = true) (h2 : ws.all PyData.strOk = true) : gIn (.str s) (.tup (ws.map D.str)) Q ↔ Q (.bl (ws.any (· == s))) := by
  rw [xInT (strs_in h1 h2), any_strs]
theorem xNotInB {Q : D → Prop} (ws : List Str) (s : Str) (b : Bool) (h : (PyData.strOk s && ws.all PyData.strOk && (ws.any (· == s) == b)) = true) : gNotIn (.str s) (.tup (ws.map D.str)) Q ↔ Q (.bl (!b)) := by
  simp only [Bool.and_eq_true, beq_iff_eq] at h
  obtain ⟨⟨h1, h2⟩, h3⟩ := h
  rw [xNotInT (strs_in h1 h2), any_strs, h3]
theorem xNeF {x y : D} {Q : D → Prop} (hx : D.flat 60 x = true) (hy : D.flat 60 y = true) : gNe x y Q ↔ Q (.bl (!D.eqv x y)) := by
  have gen : ((D.flat 60 x = true ∧ D.flat 60 y = true) ∧ Q (.bl (!D.eqv x y))) ↔ Q (.bl (!D.eqv x y)) := ⟨fun h => h.2, fun h => ⟨⟨hx, hy⟩, h⟩⟩
  cases x <;> cases y <;> first
    | exact gen
    | (rw [eqv_str]; exact Iff.rfl)
theorem xNeS {i j : Str} {Q : D → Prop} : gNe (.str i) (.str j) Q ↔ Q (.bl (!(i == j))) := id Iff.rfl
theorem lim5 {n : Nat} (h : n ≤ 16000000) : n ≤ sizeLine := by rw [sizeLine_eq]; omega
theorem lim6 {n : Nat} (h : n < 16000000) : n < sizeLine := by rw [sizeLine_eq]; omega
theorem xRepr {d : D} {Q : D → Prop} : gRepr [d] Q = (Shw d ∧ Q (.str d.py.shown)) := id rfl
/-- a draw by a pen that is known -/
theorem xDraw {dk : Bool} {p : Addr} {c : PenC} {n : Nat} {Q : D → Nat → Prop} {PX : UX → Nat → Prop} {z : Int} (hk : c.dk = dk) : spDraw dk [.ref p, .int z] (some (p, c)) n Q PX ↔ 0 < z ∧ z ≤ 10 ^ 70 ∧ 1 ≤ n ∧ ∀ d, 0 ≤ d → d < z → Q (.int d) (n - 1) :=
  ⟨fun h => h.2, fun h => ⟨⟨p, c, rfl, hk, rfl⟩, h⟩⟩
/-! ### more ways to go on -/
section
variable {sl : List Sl} {pn : PenT} {fu n : Nat} {T : Bool → Nat → Prop} {tb : UT} {b : Bool}
theorem orT (h1 : T true n) (h2 : T true n → b = false → tb ⟨sl, pn, n⟩ T) : kOrT tb ⟨sl, pn, fu⟩ T b n := by
  cases b
  · exact h2 h1 rfl
  · exact h1
theorem andT (h1 : T false n) (h2 : T false n → b = true → tb ⟨sl, pn, n⟩ T) : kAndT tb ⟨sl, pn, fu⟩ T b n := by
  cases b
  · exact h1
  · exact h2 h1 rfl
variable {s t : US} {E : UEnds} {k : Bool}
theorem ifT (h1 : k = true → s E ⟨sl, pn, n⟩) (h2 : k = false → t E ⟨sl, pn, n⟩) : kIf s t E ⟨sl, pn, fu⟩ k n := sIfk.mpr ⟨h1, h2⟩
variable {ug : UG} {tt : UT} {te : UE} {ds : List D} {vs : List Nat} {L : List D → Nat → Prop}
def kSel (te : UE) (ρ : Ro) (T1 : D → Nat → Prop) (F0 : Nat → Prop) : Bool → Nat → Prop := fun k j => if k = true then te (ρ.f j) T1 else F0 j
theorem kSel1 {T1 : D → Nat → Prop} {F0 : Nat → Prop} : kSel te ⟨sl, pn, fu⟩ T1 F0 true n = te ⟨sl, pn, n⟩ T1 := id rfl
theorem kSel2 {ρ : Ro} {T1 : D → Nat → Prop} {F0 : Nat → Prop} : kSel te ρ T1 F0 false n = F0 n := id rfl
/-- [f(d) for d in ds if p(d)] -/
theorem xFilt (p : D → Bool) (f : D → D) (h0 : ds.length ≤ sizeLine) (h1 : noOwn ⟨sl, pn, fu⟩ vs = true)
    (h : ∀ d ∈ ds, ∀ m (T1 : D → Nat → Prop) (F0 : Nat → Prop), (p d = true → T1 (f d) m) → (p d = false → F0 m) → ug d ⟨wipeS sl vs, pn, m⟩ fun ρ' => tt ρ' (kSel te ρ' T1 F0)) (hL : L ((ds.filter p).map f) n) : kComp vs ug tt te ⟨sl, pn, fu⟩ L ds n := by
  refine ⟨⟨h0, h1⟩, fun r acc m => m = n ∧ (∀ d ∈ r, d ∈ ds) ∧ acc ++ (r.filter p).map f = (ds.filter p).map f, ⟨rfl, fun _ h => h, rfl⟩, ?_, ?_⟩
  · rintro acc m ⟨rfl, _, e⟩
    rw [List.filter_nil, List.map_nil, List.append_nil] at e
    rw [e]
    exact hL
  · rintro d r acc m ⟨rfl, hin, e⟩
    have w : (wipeR ⟨sl, pn, fu⟩ vs).f m = ⟨wipeS sl vs, pn, m⟩ := by rw [wipeR_S]
    rw [w]
    refine h d (hin d List.mem_cons_self) m _ _ (fun hp => ⟨rfl, fun z hz => hin z (List.mem_cons_of_mem _ hz), ?_⟩) fun hp => ⟨rfl, fun z hz => hin z (List.mem_cons_of_mem _ hz), ?_⟩
    · rw [List.filter_cons, if_pos hp, List.map_cons] at e
      rw [← e]; simp
    · rw [List.filter_cons, if_neg (by rw [hp]; exact Bool.false_ne_true)] at e
      exact e
/-- [e for d in ds], each e some value with P -/
theorem xMany {P : D → Prop} {c : Nat} (h0 : ds.length ≤ sizeLine) (h1 : noOwn ⟨sl, pn, fu⟩ vs = true) (hf : c * ds.length ≤ n)
    (h : ∀ d ∈ ds, ∀ m (T : D → Nat → Prop), c ≤ m → (∀ y m', P y → m ≤ m' + c → T y m') → ug d ⟨wipeS sl vs, pn, m⟩ fun ρ' => te ρ' T)
    (hL : ∀ acc m, acc.length = ds.length → (∀ y ∈ acc, P y) → n ≤ m + c * ds.length → L acc m) : kComp vs ug uYes te ⟨sl, pn, fu⟩ L ds n := by
  refine ⟨⟨h0, h1⟩, fun r acc m => (∀ d ∈ r, d ∈ ds) ∧ acc.length + r.length = ds.length ∧ (∀ y ∈ acc, P y) ∧ c * r.length ≤ m ∧ n ≤ m + c * acc.length, ⟨fun _ h => h, by simp, by simp, hf, by simp⟩, ?_, ?_⟩
  · rintro acc m ⟨_, e, hp, _, hm⟩
    have e' : acc.length = ds.length := by simpa using e
    exact hL acc m e' hp (by rw [← e']; exact hm)
  · rintro d r acc m ⟨hin, e, hp, hm, hm2⟩
    have w : (wipeR ⟨sl, pn, fu⟩ vs).f m = ⟨wipeS sl vs, pn, m⟩ := by rw [wipeR_S]
    rw [w]
    have hm' : c * (r.length + 1) ≤ m := hm
    rw [Nat.mul_add, Nat.mul_one] at hm'
    refine h d (hin d List.mem_cons_self) m (fun y l => (∀ d ∈ r, d ∈ ds) ∧ (acc ++ [y]).length + r.length = ds.length ∧ (∀ z ∈ acc ++ [y], P z) ∧ c * r.length ≤ l ∧ n ≤ l + c * (acc ++ [y]).length) (by omega) fun y m' hy hm3 => ⟨fun z hz => hin z (List.mem_cons_of_mem _ hz), ?_, ?_, by omega, ?_⟩
    · simp at e ⊢; omega
    · intro z hz
      rcases List.mem_append.mp hz with hz | hz
      · exact hp z hz
      · rw [List.mem_singleton.mp hz]; exact hy
    · simp only [List.length_append, List.length_singleton, Nat.mul_add, Nat.mul_one]; omega
end
end U

set_option Elab.async false
set_option linter.all false
set_option maxRecDepth 100000
set_option maxHeartbeats 4000000
/-! enumerate of a tuple. -/
namespace U
open PySem PySem.Spec L2
open PyProof.Rows hiding St
/-- the tuple at a, each item in a new pair behind its number, from k0 on -/
def IteT (K : PySem.W.Frag) (a : Addr) (k0 : Int) : It :=
  ⟨fun i H => ∃ (xs : List V) (x : V), SqT K H a xs ∧ xs[i]? = some x, fun i H v H' => ∃ T x, v = .ref T ∧ H T = none ∧ H' = upd H T (.tup [.int (k0 + (i : Int)), x]) ∧ ∀ xs, SqT K H a xs → xs[i]? = some x, fun i H => ∃ xs : List V, SqT K H a xs ∧ xs.length ≤ i⟩
theorem turn_enumT {P : Program} {w : World} {K : PySem.W.Frag} {elts : List Expr} {kk : Nat} {tpos : Pos} (a e it : Addr) (k0 : Int) :
    Turn P w K (.Tuple elts kk tpos) (IteT K a k0) [e, it] e (fun i h => (∃ old, IsEnum h e it (k0 + (i : Int)) old) ∧ h.IsTupleIter it a i ∧ e ≠ it ∧ a ≠ it ∧ a ≠ e) where
  mem := by simp
  obj := fun i h st b hb => by
    obtain ⟨⟨old, he⟩, ⟨o, ho, hc, hd⟩, _⟩ := st
    have e' : b = e ∨ b = it := by simpa using hb
    rcases e' with z | z
    · rw [z]; exact ⟨_, he, fun v q => nomatch q⟩
    · rw [z]; exact ⟨o, ho, fun v q => by rw [hd] at q; cases q⟩
  keep := fun i h h' st k => let ⟨⟨old, he⟩, hi, hne⟩ := st; ⟨⟨old, k e (by simp) _ he⟩, hi.at fun o q => k it (by simp) o q, hne⟩
  item := by
    intro X hP hw hK hc i pins s σ H E I hf st hg
    subst hP hw hK
    obtain ⟨⟨old, he⟩, hit, hne, ha, hae⟩ := st
    obtain ⟨xs, x, hq, hx⟩ := hg
    obtain ⟨its, rv, p, hz⟩ := I.tuple hq
    have p' : s.heap.IsTuple a its.toArray := p
    obtain ⟨u, hu, ru⟩ := rv.get hx
    have hel : e < s.heap.objs.size := Heap.lt_size he
    have hil : it < s.heap.objs.size := by obtain ⟨_, q, _⟩ := hit; exact Heap.lt_size q
    have hlt : i < its.toArray.size := by
      have := (List.getElem?_eq_some_iff.mp hu).1
      simpa using this
    have hh : X.A.in1.handled = none := I.ok.hd hc
    refine wpAny_pyNext_enum_itemC (Draws.tuple hh it a ha its.toArray) he ⟨hit, p'⟩ hlt hne (by simp; exact ⟨hne, fun q => hae q.symm⟩) fun x' h' tk hx' ho hst' hT hsz hk => ?_
    have ex : x' = u := by
      have h1 : its.toArray[i]? = some x' := hx'
      have h2 : its.toArray[i]? = some u := by simpa using hu
      rw [h1] at h2
      exact Option.some.inj h2
    subst ex
    refine ⟨_, rfl, wpAny_letOwnedTupleGo_enum (s := { s with heap := h', toks := tk + 1 }) ho fun h'' he' sb => ?_⟩
    have hT2 : h''.get? s.heap.objs.size = some { cls := .type "tuple", data := .seq #[.int (k0 + (i : Int)) tk, x'] } := (sb.2 _ (Nat.ne_of_gt hel)).trans hT
    have new : ObjOk X.prog X.w (upd H s.heap.objs.size (.tup [.int (k0 + (i : Int)), x])) h'' s.heap.objs.size (.tup [.int (k0 + (i : Int)), x]) :=
      ⟨by show 2 ≤ sizeLine; decide, [.int (k0 + (i : Int)) tk, x'], .cons ⟨_, rfl⟩ (.cons ru .nil), ⟨_, hT2, rfl, _, rfl⟩⟩
    have I1 : Inv X pins σ (upd H s.heap.objs.size (.tup [.int (k0 + (i : Int)), x])) { s with heap := h'', toks := tk + 1 } :=
      I.turnedNew (ch := [e, it]) (fun b ob hb q => (sb.2 b (fun z => hb (by simp [z]))).trans (hk b ob (fun z => hb (by simp [z])) (fun z => hb (by simp [z])) q)) hf (Nat.le_refl _) new
    refine ⟨.ref s.heap.objs.size, _, I1, rfl, ⟨_, x, rfl, I.hok.fresh (Nat.le_refl _), rfl, fun ys hy => by rw [I.tuple_inj hy hq]; exact hx⟩, ⟨⟨x', ?_⟩, hst'.1.at fun o q => (sb.2 it (Ne.symm hne)).trans q, hne, ha, hae⟩, fun b hb => ?_⟩
    · have e1 : k0 + ((i + 1 : Nat) : Int) = k0 + (i : Int) + 1 := by omega
      rw [e1]; exact he'
    · have hb' : b < s.heap.objs.size := by
        have e' : b = e ∨ b = it := by simpa using hb
        rcases e' with z | z
        · rw [z]; exact hel
        · rw [z]; exact hil
      rw [upd_ne (Nat.ne_of_lt hb')]
      exact (hf b hb).1
  done := by
    intro X hP hw hK hc i pins s σ H E I hf st hg
    subst hP hw hK
    obtain ⟨⟨old, he⟩, hit, hne, ha, hae⟩ := st
    obtain ⟨xs, hq, hx⟩ := hg
    obtain ⟨its, rv, p, hz⟩ := I.tuple hq
    have p' : s.heap.IsTuple a its.toArray := p
    obtain ⟨f0, f1, f2, f3, f4, f5⟩ := hf it (by simp)
    have hl := rv.length
    have hh : X.A.in1.handled = none := I.ok.hd hc
    have D : Draws X.prog X.w X.A.in1 it [it, a] i (fun _ _ => True) (fun j h => j = i ∧ h.IsTupleIter it a i ∧ h.IsTuple a its.toArray) :=
      { live := fun _ _ st => let ⟨o, ho, _⟩ := st.2.1; ⟨o, ho⟩
        frame := fun _ _ _ st hk => ⟨st.1, st.2.1.at fun o e => hk it (by simp) o e, st.2.2.at fun o e => hk a (by simp) o e⟩
        item := fun j s Q E hj st hQ => absurd st.1 (by omega)
        done := fun s Q E st hE => wpAny_nextOf_tuple_end hh st.2.1 st.2.2 (by simp; omega) hE }
    exact wpAny_pyNext_enum_endD D he ⟨rfl, hit, p'⟩ fun h' eb => ⟨rfl, I.turned (t' := s.toks) (fun b o hb q => eb b o hb q) f0 f1 f3 f4 f5⟩
  self := fun A i s Q E st h => let ⟨⟨_, he⟩, _⟩ := st; wpAny_pyIter_enum he h

set_option maxHeartbeats 8000000 in
theorem meets_enumerate_newB1 {v : Value} {o : Obj} {H : Heap → Prop} (B : Begins v o H) :
    Meets (Builtin.«enumerate.__new__» ⟨[.type "enumerate", v], []⟩) (fun _ R s => H s.heap ∧
      R (.ok (.ret (.ref (s.heap.push o).objs.size))) { s with heap := (s.heap.push o).push { cls := .type "enumerate", data := .fields #[.none, .bool false, .ref s.heap.objs.size, rawInt 0, .none, .none] } }) :=
  .of_wp fun prog w A R s h => by
    obtain ⟨hp, g, d, tk, os⟩ := s; obtain ⟨h1, h⟩ := h
    have hsub := sub_enumerate
    have q1 : ∀ {A' : Around} {E : Value → Shared → Prop} {Q : Value → Shared → Prop}, Q (.ref hp.objs.size) ⟨hp.push o, g, d, tk, os⟩ → wpAny (model prog w) A' (pyIter v) Q E ⟨hp, g, d, tk, os⟩ :=
      fun q => B.iter prog w _ _ ⟨hp, g, d, tk, os⟩ _ h1 q
    wp_walk using q1
    refine wpAny_stack_any fun st => wpAny_pure ?_
    split
    · rename_i c _ _ _ _ _
      cases (c == Value.type "enumerate")
      · wp_walk using q1
        exact ⟨_, rfl, h⟩
      · wp_walk using q1
        exact ⟨_, rfl, h⟩
    · wp_walk using q1
      exact ⟨_, rfl, h⟩
section
variable {prog : Program} {w : World} {A : Around} {E : Value → Shared → Prop} {s : Shared}
theorem enum_begins1 {v : Value} {o : Obj} {H : Heap → Prop} {Q : Value → Shared → Prop} (B : Begins v o H) (h1 : H s.heap)
    (h : ∀ h', IsEnum h' (s.heap.objs.size + 1) s.heap.objs.size 0 .none → h'.get? s.heap.objs.size = some o → h'.objs.size = s.heap.objs.size + 2 →
      (∀ b o, s.heap.get? b = some o → h'.get? b = some o) → Q (.ref (s.heap.objs.size + 1)) { s with heap := h' }) :
    wpAny (model prog w) A (call (.type "enumerate") [v]) Q E s := by
  refine callType_new F.called_enumerate (by decide) (F.typeCall_enumerate_1 _) (F.newCall_enumerate_1 _) (fun obj => F.args_object_init_2 obj _) F.entry_enumerate_new
    (meets_enumerate_newB1 B) ⟨h1, ?_⟩
  have hz : (s.heap.push o).objs.size = s.heap.objs.size + 1 := Heap.size_push ..
  show _ ∧ _
  rw [hz]
  have he : IsEnum ((s.heap.push o).push { cls := .type "enumerate", data := .fields #[.none, .bool false, .ref s.heap.objs.size, rawInt 0, .none, .none] }) (s.heap.objs.size + 1) s.heap.objs.size 0 .none := by
    have := Heap.get?_push_size (s.heap.push o) (o := { cls := .type "enumerate", data := .fields #[.none, .bool false, .ref s.heap.objs.size, rawInt 0, .none, .none] }) rfl
    rw [hz] at this; exact this
  refine ⟨⟨_, he, rfl⟩, h _ he (Heap.get?_push_of_some _ (Heap.get?_push_size _ B.free)) (by rw [Heap.size_push, hz]) fun b o x => Heap.get?_push_of_some _ (Heap.get?_push_of_some _ x)⟩
end
section
variable {X : Cx} {O0 : Ad} {H0 : Hp} {e : Expr} {p pos : Pos}
def enumK (k : Int) : List D → List D
  | [] => []
  | d :: ds => .tup [.int k, d] :: enumK (k + 1) ds
theorem enumK_get : ∀ (ds : List D) (k : Int) (i : Nat) (d : D), (enumK k ds)[i]? = some d → ∃ x, ds[i]? = some x ∧ d = .tup [.int (k + (i : Int)), x]
  | [], k, i, d, h => by simp [enumK] at h
  | x :: ds, k, 0, d, h => by
    cases (Option.some.inj h)
    exact ⟨x, rfl, by simp⟩
  | x :: ds, k, i + 1, d, h => by
    obtain ⟨y, h1, h2⟩ := enumK_get ds (k + 1) i d h
    exact ⟨y, h1, by rw [h2, show k + 1 + (i : Int) = k + ((i + 1 : Nat) : Int) by omega]⟩
theorem enumK_len : ∀ (ds : List D) (k : Int), (enumK k ds).length = ds.length
  | [], _ => rfl
  | _ :: ds, k => congrArg (· + 1) (enumK_len ds (k + 1))
theorem enumK_nat : ∀ (ds : List D) (k : Nat), enumK (k : Int) ds = enumD k ds
  | [], _ => rfl
  | d :: ds, k => by
    show D.tup [.int k, d] :: enumK ((k : Int) + 1) ds = _
    rw [show ((k : Int) + 1) = ((k + 1 : Nat) : Int) by omega, enumK_nat ds (k + 1)]
    rfl
theorem it_enumT {K : PySem.W.Frag} {O : Ad} {H : Hp} {l : Addr} {k0 : Int} {xs : List V} {ds : List D} (h : Tk K O H l xs) (r : RpA K O H xs ds) : ItOk K O (IteT K l k0) H (enumK k0 ds) := fun O2 H2 k t => by
  have h2 := h.keep k
  have r2 := r.keep k
  refine ⟨fun i d e => ?_, fun i hi => ⟨xs, h2.sq, by rw [r2.length]; rw [enumK_len] at hi; exact hi⟩⟩
  obtain ⟨y, e0, e9⟩ := enumK_get ds k0 i d e
  subst e9
  obtain ⟨v, e1, rv⟩ := r2.get e0
  refine ⟨⟨xs, v, h2.sq, e1⟩, fun x H3 ⟨T, z, ex, hT, eH, f⟩ => ?_⟩
  subst ex
  subst eH
  have := f xs h2.sq
  rw [e1] at this
  cases this
  exact new_pair t hT (.int _) rv
/-- enumerate of a list or a tuple -/
def uiEn (u : UA) : UI := fun ρ Q => u ρ fun ds n => match ds with
  | [.lst ds] => Q (enumD 0 ds) n
  | [.tup ds] => Q (enumD 0 ds) n
  | _ => False
theorem ui_enum {u : UA} {elts : List Expr} {kk : Nat} {tpos : Pos} (hg : Gl X "enumerate") (hm : X.mg "enumerate" = none) (h : UPL X O0 H0 [e] u) (hs : starEach [e] X.env = [(false, eval e X.env)] := by rfl) :
    UPI X O0 H0 (.Tuple elts kk tpos) (.Call (.Name "enumerate" p) [e] [] pos) (uiEn u) := by
  refine ⟨fun pins s σ H Rr I ⟨ρ, P, r, hu, hP⟩ => ?_⟩
  refine Call_ (ld_blt I hg hm boot_enumerate (PyProof.Rows.callWith_type1 (thn (h.run.run pos pins s σ H (fun vs H1 => ∃ ds n, R X.K O0 H0 σ H1 (ρ.f n) ∧ Frm ρ.pen H H1 ∧ RpA X.K (OO O0 ρ) H1 vs ds ∧ (match ds with
    | [.lst ds] => P (enumD 0 ds) n
    | [.tup ds] => P (enumD 0 ds) n
    | _ => False)) I ⟨ρ, _, r, hu, fun ds n hd vs H1 r1 f1 p1 => ⟨ds, n, r1, f1, p1, hd⟩⟩) fun us s1 ⟨vs, H1, I1, r1, ds, n, ρ1, f1, rp, q⟩ => ?_) hs rfl))
  split at q
  · rename_i ds
    cases rp with
    | cons q1 q2 =>
      cases q2
      cases q1 with
      | lst l a =>
        cases r1 with
        | cons r rr =>
          cases rr
          cases r
          obtain ⟨its, rv, p', hz⟩ := I1.list l.sq
          refine call_enumerate_list p'.isList fun h' he hit hsz hk => wpAny_pyIter_enum he ?_
          have I2 : Inv X pins σ H1 { s1 with heap := h' } := I1.kept (t' := s1.toks) hk
          refine ⟨s1.heap.objs.size + 1, [s1.heap.objs.size + 1, s1.heap.objs.size], _, _, H1, rfl, I2, turn_enum _ (s1.heap.objs.size + 1) s1.heap.objs.size, ⟨⟨.none, he⟩, hit, Nat.succ_ne_self _⟩, fun b hb => ?_, hP _ n q _ H1 ρ1 f1 (it_enum l a)⟩
          have e' : b = s1.heap.objs.size + 1 ∨ b = s1.heap.objs.size := by simpa using hb
          have hle : s1.heap.objs.size ≤ b := by
            rcases e' with z | z
            · rw [z]; exact Nat.le_add_right _ _
            · rw [z]; exact Nat.le_refl _
          exact I1.fpOk hle (I1.hok.fresh hle)
  · rename_i ds
    cases rp with
    | cons q1 q2 =>
      cases q2
      cases q1 with
      | tup l a =>
        cases r1 with
        | cons r rr =>
          cases rr
          cases r
          obtain ⟨its, rv, p', hz⟩ := I1.tuple l.sq
          have p2 : s1.heap.IsTuple _ its.toArray := p'
          refine enum_begins1 (begins_tuple _ its.toArray) p2 fun h' he hit hsz hk => wpAny_pyIter_enum he ?_
          have I2 : Inv X pins σ H1 { s1 with heap := h' } := I1.kept (t' := s1.toks) hk
          obtain ⟨o, ho, _⟩ := id p2
          have lt := Heap.lt_size ho
          refine ⟨s1.heap.objs.size + 1, [s1.heap.objs.size + 1, s1.heap.objs.size], _, _, H1, rfl, I2, turn_enumT _ (s1.heap.objs.size + 1) s1.heap.objs.size 0, ⟨⟨.none, he⟩, ⟨_, hit, rfl, rfl⟩, Nat.succ_ne_self _, Nat.ne_of_lt lt, Nat.ne_of_lt (Nat.lt_succ_of_lt lt)⟩, fun b hb => ?_, hP _ n q _ H1 ρ1 f1 ?_⟩
          · have e' : b = s1.heap.objs.size + 1 ∨ b = s1.heap.objs.size := by simpa using hb
            have hle : s1.heap.objs.size ≤ b := by
              rcases e' with z | z
              · rw [z]; exact Nat.le_add_right _ _
              · rw [z]; exact Nat.le_refl _
            exact I1.fpOk hle (I1.hok.fresh hle)
          · have := it_enumT (k0 := ((0 : Nat) : Int)) l a
            rw [enumK_nat] at this
            exact this
  · exact q.elim
def kEn (L : List D → Nat → Prop) : List D → Nat → Prop := fun ds n => match ds with
  | [.lst ds] => L (enumD 0 ds) n
  | [.tup ds] => L (enumD 0 ds) n
  | _ => False
theorem iEn {ul : UA} {ρ : Ro} {L : List D → Nat → Prop} : uiEn ul ρ L = ul ρ (kEn L) := id rfl
theorem iEnL {ds : List D} {n : Nat} {L : List D → Nat → Prop} : kEn L [.lst ds] n = L (enumD 0 ds) n := id rfl
theorem iEnT {ds : List D} {n : Nat} {L : List D → Nat → Prop} : kEn L [.tup ds] n = L (enumD 0 ds) n := id rfl
end
end U

set_option Elab.async false
set_option linter.all false
set_option maxRecDepth 100000
set_option maxHeartbeats 4000000
/-! Defs that hand back a list that is no one else's. -/
namespace U
open PySem PySem.Spec L2
open PyProof.Rows hiding St
def uRetO (i : Nat) : US := fun E ρ => match ρ.sl[i]? with
  | some (.own _ (.l ds)) => E.rf ds ρ.fuel
  | _ => False
def uRetF (u : UF) : US := fun E ρ => u ρ E.rf
abbrev USpF := List D → PenT → Nat → (List D → Nat → Prop) → (UX → Nat → Prop) → Prop
/-- what such a def promises -/
def LSpF (K : PySem.W.Frag) (usp : USpF) : Sp := fun vs H Q E => ∃ (ds : List D) (O : Ad) (pen : PenT) (n : Nat) (P : List D → Nat → Prop) (PX : UX → Nat → Prop),
  RpA K O H vs ds ∧ (∀ b, O b → H b ≠ none) ∧ (∀ p, IsPen pen p → O p) ∧ Pen O H pen n ∧ usp ds pen n P PX ∧
  (∀ es m, P es m → ∀ a H', H a = none → Frm pen H H' → Pen (fun b => O b ∨ b = a) H' pen m → (∃ xs, H' a = some (.lst xs) ∧ RpA K (fun b => O b ∨ b = a) H' xs es) → Q (.ref a) H') ∧
  ∀ x m, PX x m → ∀ d H', Frm pen H H' → Pen O H' pen m → XRp K O H' x d → E (x.cls.val K) d H'
section
variable {X : Cx} {O0 : Ad} {H0 : Hp} {a b c e : Expr} {ua ub uc : UE} {pos p : Pos} {W : WU}
theorem us_retO {i : Nat} {x : Str} {p2 : Pos} (h : PE X (.Name x p2) (tVar i)) : UPS X O0 H0 (.Return (some (.Name x p2)) pos) (uRetO i) := PS.imp (ps_ret h) fun σ H D ⟨ρ, E, r, hu, hn, hb, hc, hr⟩ => by
  dsimp only [uRetO] at hu
  split at hu
  · rename_i a ds e
    obtain ⟨s1, nO, n0, np, xs, hx, rx⟩ := r.own i a ds e
    have hO : OO O0 ρ a := .inr (.inr ⟨i, ds, e⟩)
    have le : ∀ b, ((O0 b ∨ IsPen ρ.pen b) ∨ b = a) → OO O0 ρ b := fun b z => by
      rcases z with (z | z) | z
      · exact .inl z
      · exact .inr (.inl z)
      · rw [z]; exact hO
    exact ⟨_, s1, hr.f ds ρ.fuel hu a H n0 r.fr (r.pen.less le) ⟨xs, hx, rx.keep (.less le)⟩⟩
  · exact hu.elim
theorem us_retF {u : UF} (h : UPF X O0 H0 e u) : UPS X O0 H0 (.Return (some e) pos) (uRetF u) := PS.imp (ps_ret h) fun σ H D ⟨ρ, E, r, hu, hn, hb, hc, hr⟩ =>
  ⟨ρ, _, r, hu, fun ds n hd a H' w => by
    have nO : ¬ OO O0 ρ a := fun z => r.tr a z w.new
    have n0 : H0 a = none := by
      cases q : H0 a with
      | none => rfl
      | some u =>
        have := r.fr a u q fun z => nO (OO.pen _ z)
        rw [w.new] at this
        cases this
    have le : ∀ b, ((O0 b ∨ IsPen ρ.pen b) ∨ b = a) → OO O0 ρ b ∨ b = a := fun b z => by
      rcases z with (z | z) | z
      · exact .inl (.inl z)
      · exact .inl (.inr (.inl z))
      · exact .inr z
    obtain ⟨xs, hx, rx⟩ := w.at_
    exact hr.f ds n hd a H' n0 (r.fr.trans w.fr) (w.pen.less le) ⟨xs, hx, rx.keep (.less le)⟩⟩
def uCallF (usp : USpF) (W : WU) (a : UA) : UF := fun ρ Q => a ρ fun ds n => usp ds ρ.pen n Q fun x m => W x (ρ.f m)
def uCallFK (usp : USpF) (ix : List Nat) (W : WU) (a : UA) : UF := fun ρ Q => a ρ fun ds n => usp (perm .non ix ds) ρ.pen n Q fun x m => W x (ρ.f m)
theorem call_fresh {usp : USpF} {σ : L2.St} {H H1 : Hp} {Q : VK} {ρ : Ro} {vs : List V} {ds : List D} {n : Nat} {P : List D → Nat → Prop}
    (r : R X.K O0 H0 σ H ρ) (r1 : R X.K O0 H0 σ H1 (ρ.f n)) (f1 : Frm ρ.pen H H1) (p1 : RpA X.K (OO O0 ρ) H1 vs ds) (hu : usp ds ρ.pen n P fun x m => W x (ρ.f m))
    (hQ : ∀ es m, P es m → ∀ a H', New X.K O0 ρ H m es a H' → Q (.ref a) H') : LSpF X.K usp vs H1 Q (WE (LW X.K O0 H0 W) σ) := by
  refine ⟨ds, OO O0 ρ, ρ.pen, n, P, _, p1, r1.tr, fun p e => OO.pen p e, r1.pen, hu, fun es m hd a H' ha fr pn at_ => ?_, fun x m hx d H' fr pn xr => ?_⟩
  · refine hQ es m hd a H' ⟨?_, f1.trans fr, pn, at_⟩
    cases q : H a with
    | none => rfl
    | some u => exact absurd ha (f1.there r1.pen (b := a) (by rw [q]; simp))
  · exact ⟨ρ.f m, x, r1.call (n := m) fr pn, rfl, xr, hx⟩
structure FnF (P : Program) (w : World) (K : PySem.W.Frag) (mg : Str → Option Value) (base : Heap) (k : Nat) (x : Str) (st : Stmt) (ps : List Str) (usp : USpF) : Prop where
  ex : ∃ fd, FnG P w K mg base k (He.fAd K (x, none)) fd ps (LSpF K usp) ∧ Binds K fd ps [] ∧ PySem.W.keepIn K (.ref (He.fAd K (x, none))) = true ∧ FunD K x x (defArgs st) (defBody st) (defScope st) [] [] (He.fAd K (x, none)) fd
  gl : mg x = some (.ref (He.fAd K (x, none)))
theorem up_fnF {j k : Nat} {x : Str} {ps : List Str} {usp : USpF} {es : List Expr} {u : UA} {sd : Stmt} (h : FnF X.prog X.w X.K X.mg X.base j x sd ps usp) (hr : RG k X.A) (hjk : j ≤ k) (hg : Gl X x) (tk : Takes X (LW X.K O0 H0 W)) (ha : UPL X O0 H0 (e :: es) u)
    (hdb : (x == ("__debug__" : Str)) = false := by decide) (he : starEach (e :: es) X.env = (false, eval e X.env) :: starEach es X.env := by rfl) (hpl : (backTo pos (starEach es X.env)).any (·.1) = false := by rfl) :
    UPF X O0 H0 (.Call (.Name x p) (e :: es) [] pos) (uCallF usp W u) := by
  obtain ⟨fd, F, hb, hk, _⟩ := h.ex
  obtain ⟨t, ht, hi⟩ := ha
  refine ⟨fun pins s σ H Q I ⟨ρ, P, r, hu, hP⟩ => ?_⟩
  refine wpAny_Call_Name_kw (ld_glob I hg h.gl ?_ hdb)
  refine PySem.W.callWith_K (h₀ := X.base) I.ok.mod.kin hk (thn (ht.run pos pins s σ H (fun vs H1 => LSpF X.K usp vs H1 Q (WE (LW X.K O0 H0 W) σ)) I ?_) ?_) he hpl
  · refine hi σ H _ ⟨ρ, _, r, hu, fun ds n hds vs H1 r1 f1 p1 _ => ?_⟩
    exact call_fresh (ρ := ρ) r r1 f1 p1 hds hP
  · rintro us s1 ⟨vs, H1, I1, rv, q⟩
    refine ⟨I1.kIn, ?_⟩
    have hl : us.length = ps.length := by rw [← rv.length]; exact F.len _ _ _ _ q
    refine run_fnG (args := ⟨us, []⟩) (us' := us) (F.mono hjk) hr (passAt tk σ) I1 ?_ rv q
    have := hb s1 us I1.kIn (by rw [List.append_nil]; exact hl)
    rw [List.append_nil] at this
    exact this
theorem up_fnKF0 {j k : Nat} {x : Str} {ps ks : List Str} {usp : USpF} {sd : Stmt} {ix : List Nat} {kws : List Keyword} {u : UA} (h : FnF X.prog X.w X.K X.mg X.base j x sd ps usp) (hr : RG k X.A) (hjk : j ≤ k) (hg : Gl X x) (tk : Takes X (LW X.K O0 H0 W)) (kb : KBS x sd ps ks 0 kws.length ix) (hkw : UPK X O0 H0 kws u)
    (hall : (backToKw pos (keywordEach kws X.env)).all (·.1.isSome) = true := by rfl) (hks : (backToKw pos (keywordEach kws X.env)).filterMap (·.1) = ks := by rfl)
    (hdb : (x == ("__debug__" : Str)) = false := by decide) (hpl : ((backTo pos (starEach [] X.env)).any (·.1) || (backToKw pos (keywordEach kws X.env)).any (·.1.isNone)) = false := by rfl) :
    UPF X O0 H0 (.Call (.Name x p) [] kws pos) (uCallFK usp ix W u) := by
  obtain ⟨fd, G, hb, kp, FD⟩ := h.ex
  obtain ⟨t, ht, hi⟩ := hkw
  refine ⟨fun pins s σ H Q I ⟨ρ, P, r, hu, hP⟩ => ?_⟩
  refine wpAny_Call_Name_kw (ld_glob I hg h.gl ?_ hdb)
  refine PySem.W.callWith_KW0 (h₀ := X.base) I.ok.mod.kin kp hall (thn (ht.run pos pins s σ H (fun vs H1 => vs.length = kws.length ∧ LSpF X.K usp (perm .non ix vs) H1 Q (WE (LW X.K O0 H0 W) σ)) I ?_) fun ws s1 ⟨vs, H1, I1, rv, hl, q⟩ => ⟨I1.kIn, ?_⟩) hpl
  · refine hi σ H _ ⟨ρ, _, r, hu, fun ds n hds vs H1 r1 f1 p1 hl => ⟨hl, ?_⟩⟩
    exact call_fresh (ρ := ρ) r r1 f1 (perm_rp ix p1) hds hP
  · rw [hks]
    exact run_fnG (args := ⟨[], ks.zip ws⟩) (us' := perm .none ix ([] ++ ws)) (G.mono hjk) hr (passAt tk σ) I1 (kb.to FD s1 [] ws rfl (by rw [← rv.length]; exact hl)) (by simpa using perm_vals ix rv) q
theorem up_fnKF {j k : Nat} {x : Str} {ps ks : List Str} {usp : USpF} {sd : Stmt} {ix : List Nat} {es : List Expr} {kws : List Keyword} {ue uk : UA} (h : FnF X.prog X.w X.K X.mg X.base j x sd ps usp) (hr : RG k X.A) (hjk : j ≤ k) (hg : Gl X x) (tk : Takes X (LW X.K O0 H0 W)) (kb : KBS x sd ps ks (e :: es).length kws.length ix) (ha : UPL X O0 H0 (e :: es) ue) (hkw : UPK X O0 H0 kws uk)
    (hall : (backToKw pos (keywordEach kws X.env)).all (·.1.isSome) = true := by rfl) (hks : (backToKw pos (keywordEach kws X.env)).filterMap (·.1) = ks := by rfl)
    (hdb : (x == ("__debug__" : Str)) = false := by decide) (he : starEach (e :: es) X.env = (false, eval e X.env) :: starEach es X.env := by rfl)
    (hpl : ((backTo pos (starEach (e :: es) X.env)).any (·.1) || (backToKw pos (keywordEach kws X.env)).any (·.1.isNone)) = false := by rfl) :
    UPF X O0 H0 (.Call (.Name x p) (e :: es) kws pos) (uCallFK usp ix W (uCat ue uk)) := by
  obtain ⟨fd, G, hb, kp, FD⟩ := h.ex
  obtain ⟨t, ht, hi⟩ := hkw
  obtain ⟨ta, hta, hia⟩ := ha
  refine ⟨fun pins s σ H Q I ⟨ρ, P, r, hu, hP⟩ => ?_⟩
  refine wpAny_Call_Name_kw (ld_glob I hg h.gl ?_ hdb)
  refine PySem.W.callWith_KW (h₀ := X.base) I.ok.mod.kin kp hall (thn (hta.run pos pins s σ H (fun ws H1 => t σ H1 fun vs H2 => ws.length = (e :: es).length ∧ vs.length = kws.length ∧ LSpF X.K usp (perm .non ix (ws ++ vs)) H2 Q (WE (LW X.K O0 H0 W) σ)) I ?_) fun us s0 ⟨ws, H0', I0, rw0, q0⟩ => ?_) hpl he
  · refine hia σ H _ ⟨ρ, _, r, hu, fun ds n hds ws H1 r1 f1 p1 hl1 => hi σ H1 _ ⟨ρ.f n, _, r1, hds, fun es m hes vs H2 r2 f2 p2 hl => ⟨hl1, hl, ?_⟩⟩⟩
    exact call_fresh (ρ := ρ) r r2 (f1.trans f2) (perm_rp ix ((p1.keep (Frm.keepsO (ρ := ρ) f2)).append p2)) hes hP
  · refine thn (ht.run pos pins s0 σ H0' _ I0 q0) fun zs s1 ⟨vs, H1, I1, rv, hl1, hl, q⟩ => ⟨I1.kIn, ?_⟩
    rw [hks]
    exact run_fnG (args := ⟨us, ks.zip zs⟩) (us' := perm .none ix (us ++ zs)) (G.mono hjk) hr (passAt tk σ) I1 (kb.to FD s1 us zs (by rw [← rw0.length]; exact hl1) (by rw [← rv.length]; exact hl)) (perm_vals ix (rw0.append rv)) q
/-- x[::-1], list(x), of lists and tuples, as new lists -/
def uRevF (a : UE) : UF := fun ρ Q => a ρ fun d n => match d with
  | .lst ds => Q ds.reverse n
  | _ => False
def uListF (a : UE) : UF := fun ρ Q => a ρ fun d n => match d with
  | .lst ds => Q ds n
  | .tup ds => Q ds n
  | _ => False
end
section
variable {P : Program} {w : World} {K : PySem.W.Frag} {mg : Str → Option Value} {base : Heap}
theorem fnUF {x qual : Str} {params : Arguments} {body : List Stmt} {scope : Scope} {dvs : List V} {kws : List (Str × V)} {f : Addr} {fd : FuncData} {N ps : List Str} {k : Nat} {usp : USpF} (F : FunD K x qual params body scope dvs kws f fd) (S : FnScope N ps scope)
    (len : ∀ ds pen n Q E, usp ds pen n Q E → ds.length = ps.length)
    (hbody : ∀ (cdv : Value) (A : Around) (outer : List Env) (s : Shared) (H : Hp) (E : XK) (O0 : Ad) (pen : PenT) (PX : UX → Nat → Prop),
      RG k (cxOf (L2.CX P w) P w K mg base N qual scope f cdv A outer s H E).A →
      Takes (cxOf (L2.CX P w) P w K mg base N qual scope f cdv A outer s H E) (LW K O0 H fun x ρ => ρ.pen = pen ∧ PX x ρ.fuel) →
      ∃ u, UPB (cxOf (L2.CX P w) P w K mg base N qual scope f cdv A outer s H E) O0 H body u ∧
        ∀ ds n (Q : List D → Nat → Prop), usp ds pen n Q PX → u { nx := fun _ => False, rt := fun _ _ => False, rf := Q } ⟨startU N ds, pen, n⟩) :
    FnG P w K mg base (k + 1) f fd ps (LSpF K usp) := by
  refine fnG_mk F S (fun vs H Q E ⟨ds, O, pen, n, PD, PX, ra, _, _, _, hu, _⟩ => by rw [ra.length]; exact len _ _ _ _ _ hu) ?_
  intro cdv A outer s H vs Q E hr ⟨ds, O, pen, n, PD, PX, ra, tr, hp, pn, hu, hQ, hE⟩
  have lenN : ps.length ≤ N.length := by have := congrArg List.length S.pre; rw [List.length_take] at this; omega
  have tk : Takes (cxOf (L2.CX P w) P w K mg base N qual scope f cdv A outer s H E) (LW K O H fun x ρ => ρ.pen = pen ∧ PX x ρ.fuel) := by
    refine Takes.imp (takes_of rfl rfl rfl rfl) ?_
    rintro cls d σ H' ⟨ρ', x, r', rfl, xr, e, hx⟩
    have fr := r'.fr
    have pn' := r'.pen
    rw [e] at fr pn'
    exact hE x _ hx d H' fr (pn'.less fun b h => .inl h) (xr.keep (.less fun b h => .inl h))
  obtain ⟨u, hb, hr'⟩ := hbody cdv A outer s H E O pen PX hr tk
  refine ⟨_, hb, ⟨startU N ds, pen, n⟩, _, R.start (by rw [len _ _ _ _ _ hu]; exact lenN) ra tr hp pn, hr' ds n PD hu, fun ρ' hx => hx.elim, fun _ z => z.elim, fun _ z => z.elim, ⟨fun _ _ z => z.elim, fun es m hd a H' n0 fr pn' at_ => ?_⟩⟩
  have le : ∀ b, (O b ∨ b = a) → ((O b ∨ IsPen pen b) ∨ b = a) := fun b z => z.elim (fun z => .inl (.inl z)) .inr
  obtain ⟨xs, hx, rx⟩ := at_
  exact hQ es m hd a H' n0 fr (pn'.less le) ⟨xs, hx, rx.keep (.less le)⟩
theorem fnF_mk {x : Str} {st : Stmt} {fd : FuncData} {N ps : List Str} {k : Nat} {usp : USpF} (F : FunD K x x (defArgs st) (defBody st) (defScope st) [] [] (He.fAd K (x, none)) fd) (g : mg x = some (.ref (He.fAd K (x, none)))) (S : FnScope N ps (defScope st))
    (hb : Binds K fd ps []) (len : ∀ ds pen n Q E, usp ds pen n Q E → ds.length = ps.length)
    (hbody : ∀ (cdv : Value) (A : Around) (outer : List Env) (s : Shared) (H : Hp) (E : XK) (O0 : Ad) (pen : PenT) (PX : UX → Nat → Prop),
      RG k (cxOf (L2.CX P w) P w K mg base N x (defScope st) (He.fAd K (x, none)) cdv A outer s H E).A →
      Takes (cxOf (L2.CX P w) P w K mg base N x (defScope st) (He.fAd K (x, none)) cdv A outer s H E) (LW K O0 H fun x ρ => ρ.pen = pen ∧ PX x ρ.fuel) →
      ∃ u, UPB (cxOf (L2.CX P w) P w K mg base N x (defScope st) (He.fAd K (x, none)) cdv A outer s H E) O0 H (defBody st) u ∧
        ∀ ds n (Q : List D → Nat → Prop), usp ds pen n Q PX → u { nx := fun _ => False, rt := fun _ _ => False, rf := Q } ⟨startU N ds, pen, n⟩) :
    FnF P w K mg base (k + 1) x st ps usp := ⟨⟨fd, fnUF F S len hbody, hb, F.kp, F⟩, g⟩
end
/-! ### step by step -/
section
variable {ρ : Ro} {sl : List Sl} {pn : PenT} {fu : Nat} {E : UEnds} {i n : Nat} {uf : UF} {ul : UA} {ds : List D} {ad : Addr} {L : List D → Nat → Prop} {W : WU} {usp : USpF} {ix : List Nat}
def kRetO (E : UEnds) (n : Nat) : Option Sl → Prop
  | some (.own _ (.l ds)) => E.rf ds n
  | _ => False
theorem sRetO : uRetO i E ρ = kRetO E ρ.fuel ρ.sl[i]? := by
  unfold uRetO kRetO
  rfl
theorem sRetO1 : kRetO E n (some (.own ad ds)) = E.rf ds n := id rfl
theorem sRetF : uRetF uf E ρ = uf ρ E.rf := id rfl
def kCallF (usp : USpF) (W : WU) (ρ : Ro) (L : List D → Nat → Prop) : List D → Nat → Prop := fun ds n => usp ds ρ.pen n L (kX W ρ)
def kCallFK (usp : USpF) (ix : List Nat) (W : WU) (ρ : Ro) (L : List D → Nat → Prop) : List D → Nat → Prop := fun ds n => usp (perm .non ix ds) ρ.pen n L (kX W ρ)
theorem xCallF : uCallF usp W ul ρ L = ul ρ (kCallF usp W ρ L) := id rfl
theorem xCallF1 : kCallF usp W ρ L ds n = usp ds ρ.pen n L (kX W ρ) := id rfl
theorem xCallFK : uCallFK usp ix W ul ρ L = ul ρ (kCallFK usp ix W ρ L) := id rfl
theorem xCallFK1 : kCallFK usp ix W ρ L ds n = usp (perm .non ix ds) ρ.pen n L (kX W ρ) := id rfl
end
end U

set_option Elab.async false
set_option linter.all false
set_option maxRecDepth 100000
set_option maxHeartbeats 4000000
/-! Exceptions over data: a clause of many classes, a caught exception that is kept. -/
namespace U
open PySem PySem.Spec L2
open PyProof.Rows hiding St

/-! ### excMatches, any number of classes -/
section
variable {M : Model} {K : PySem.W.Frag} {A : Around} {E : Value → Shared → Prop} {s : Shared}
theorem forIn_yes {α β : Type} {f : α → β → Sem (ForInStep β)} {b0 : β} : ∀ {cs : List α} {Q : β → Shared → Prop}, (∀ c ∈ cs, ∀ Q' : ForInStep β → Shared → Prop, Q' (.yield b0) s → wpAny M A (f c b0) Q' E s) → Q b0 s → wpAny M A (forIn cs b0 f) Q E s
  | [], Q, _, q => by
    rw [List.forIn_nil]
    exact wpAny_pure q
  | c :: cs, Q, h, q => by
    rw [List.forIn_cons]
    refine wpAny_bind (h c List.mem_cons_self _ ?_)
    exact forIn_yes (fun d hd => h d (List.mem_cons_of_mem _ hd)) q
theorem forIn_ret {α β : Type} {f : α → β → Sem (ForInStep β)} {b0 dn : β} {sub : α → Bool} : ∀ {cs : List α} {Q : β → Shared → Prop},
    (∀ c ∈ cs, ∀ Q' : ForInStep β → Shared → Prop, Q' (if sub c = true then .done dn else .yield b0) s → wpAny M A (f c b0) Q' E s) → Q (if cs.any sub = true then dn else b0) s → wpAny M A (forIn cs b0 f) Q E s
  | [], Q, _, q => by
    rw [List.forIn_nil]
    exact wpAny_pure q
  | c :: cs, Q, h, q => by
    rw [List.forIn_cons]
    refine wpAny_bind (h c List.mem_cons_self _ ?_)
    rw [List.any_cons] at q
    cases e : sub c with
    | true =>
      rw [e, Bool.true_or, if_pos rfl] at q
      rw [if_pos rfl]
      exact wpAny_pure q
    | false =>
      rw [e, Bool.false_or] at q
      rw [if_neg Bool.false_ne_true]
      exact forIn_ret (fun d hd => h d (List.mem_cons_of_mem _ hd)) q
theorem exm_tups {cs : List Value} {sub : Value → Bool} {cls : Value} {tp e : Addr} {h : Heap} (X : K.In h) (LT : PySem.W.Looks M h (typeOf (.ref e)) cls) (hp : h.get? tp = some { cls := .type "tuple", data := .seq cs.toArray })
    (hx : ∀ c ∈ cs, PySem.W.exmOne K cls c = some (sub c)) : PySem.W.Looks M h (excMatches (.ref e) (.ref tp)) (cs.any sub) := by
  intro A Q E s k₀ q
  obtain ⟨hh, g, d, tk, os⟩ := s
  have k : ∀ b o, h.get? b = some o → hh.get? b = some o := k₀
  have LT0 : PySem.W.Looks M h (isInstance (.ref tp) (.type "tuple")) true := ((PySem.W.Looks.ld hp).andThen .now).andThen (PySem.W.Looks.of_pure isSubtype_tuple_tuple)
  have LT := LT.keeps k
  have LT0 := LT0.keeps k
  have hp' := k _ _ hp
  unfold excMatches
  refine wpAny_bind (LT0.at ?_)
  dsimp only
  rw [if_pos rfl]
  first
    | refine wpAny_bind (wpAny_seqItems hp' rfl ?_)
    | refine wpAny_bind (wpAny_bind (wpAny_seqItems hp' rfl (wpAny_pure ?_)))
  dsimp only [Option.getD_some, Option.getD]
  refine wpAny_bind (wpAny_pure ?_)
  refine wpAny_bind (forIn_yes (fun c hc Q' q' => ?_) ?_)
  · have e1 := ((PySem.W.exm_cls (M := M) X (hx c hc)).1).keeps k
    refine wpAny_bind (e1.at ?_)
    simp only [Bool.not_true, Bool.false_eq_true, if_false]
    exact wpAny_pure q'
  · refine wpAny_bind (LT.at ?_)
    refine wpAny_bind (forIn_ret (sub := sub) (dn := (some true, ())) (fun c hc Q' q' => ?_) ?_)
    · have S1 := ((PySem.W.exm_cls (M := M) X (hx c hc)).2).keeps k
      refine wpAny_bind (S1.at ?_)
      cases e : sub c with
      | true =>
        rw [e, if_pos rfl] at q'
        simp only [if_true]
        exact wpAny_pure q'
      | false =>
        rw [e, if_neg Bool.false_ne_true] at q'
        simp only [Bool.false_eq_true, if_false]
        exact wpAny_pure q'
    · cases e : cs.any sub with
      | true =>
        rw [e] at q
        simp only [if_true]
        exact wpAny_pure q
      | false =>
        rw [e] at q
        simp only [Bool.false_eq_true, if_false]
        exact wpAny_pure q
end

/-! ### try, the exception kept -/
/-- the context of an except suite whose exception is tracked -/
abbrev held (X : Cx) (a : Addr) (pn : List (Addr × Obj)) : Cx := { X with A := X.A.mark (some (.ref a)), calm := false, pn := pn, xe := fun _ _ => False }
section
variable {X : Cx} {pins : List (Addr × Obj)} {σ : L2.St} {H : Hp} {s : Shared}
theorem ok_held (ok : X.Ok) (a : Addr) (pn : List (Addr × Obj)) : (held X a pn).Ok :=
  ⟨ok.mod, ok.kind, ok.glob, ok.blt, ok.above, ok.inj, ok.has, ok.cab, (fun z => absurd (show false = true from z) Bool.false_ne_true), ok.frames, ok.stk, ok.exf, ok.bs, ok.bsz, ok.noex, ok.exfs, ok.funs, ok.frf⟩
theorem inv_held (I : Inv X pins σ H s) (a : Addr) : Inv (held X a (X.pn ++ pins)) [] σ H s :=
  ⟨ok_held I.ok a _, I.os, I.bare, I.base, I.loc, I.cell, I.free, I.freeC, fun p hp => I.pin p (by rw [List.append_nil] at hp; exact hp), I.hok, I.len⟩
theorem inv_unheld {a : Addr} {pn' : List (Addr × Obj)} (I : Inv (held X a (X.pn ++ pins)) pn' σ H s) (ok : X.Ok) : Inv X pins σ H s :=
  ⟨ok, I.os, I.bare, I.base, I.loc, I.cell, I.free, I.freeC, fun p hp => I.pin p (List.mem_append_left _ hp), I.hok, I.len⟩
/-- back on the ground, the exception tracked -/
theorem landedK {B : Heap} {sI s' : Shared} {a : Addr} {cls : Value} {d : Option Addr} (I : Inv X pins σ H sI) (nb : ∀ b o, sI.heap.get? b = some o → b ∉ frs X.stack → B.get? b = some o) (nB : B.get? a = none) (nF : a ∉ frs X.stack)
    (st : B.StaysIn s'.heap) (up : sI.heap.UpToSlots s'.heap) (os : s'.os = sI.os) (ag : AllBare s'.gens) (na : H a = none)
    (he : ∃ oe vs, s'.heap.get? a = some oe ∧ Zc cls d oe ∧ oe.data = .fields vs) : Inv X pins σ (upd H a (ExH cls d a)) s' := by
  obtain ⟨G, g1, g2⟩ := restrict s'.heap fun b => decide (b ≠ a)
  have gk : ∀ b o, b ≠ a → s'.heap.get? b = some o → G.get? b = some o := fun b o hb e => by
    rw [g1 b (decide_eq_true hb)]
    exact e
  have ga : G.get? a = none := g2 a (decide_eq_false fun z => z rfl)
  have gs : ∀ b o, G.get? b = some o → s'.heap.get? b = some o := fun b o e => by
    by_cases hb : b = a
    · rw [hb, ga] at e
      cases e
    · rw [← g1 b (decide_eq_true hb)]
      exact e
  have sIa : sI.heap.get? a = none := by
    cases q : sI.heap.get? a with
    | none => rfl
    | some o =>
      have z := nb a o q nF
      rw [nB] at z
      cases z
  have J : Inv X pins σ H { s' with heap := G } := I.landed (s' := { s' with heap := G }) nb (fun b o e => gk b o (fun z => by rw [z, nB] at e; cases e) (st b o e))
    (fun b o e hnf => by
      obtain ⟨sl, q⟩ := up b o e hnf
      exact ⟨sl, gk b _ (fun z => by rw [z, sIa] at e; cases e) q⟩) os ag
  obtain ⟨oe, vs, e1, e2, e3⟩ := he
  exact J.laidN (h' := s'.heap) (t' := s'.toks) gs ga na (exH_ok e1 e2 e3)
end
/-- the classes that a clause names: one, or a tuple of them -/
inductive CTest (X : Cx) : Expr → List Value → Prop
  | one {x : Str} {c : Value} {p : Pos} : Names X x c → CTest X (.Name x p) [c]
  | tup {es : List Expr} {cs : List Value} {k : Nat} {p : Pos} : cs.length ≤ sizeLine → Paired (fun e c => ∃ x q, e = Expr.Name x q ∧ Names X x c) es cs → CTest X (.Tuple es k p) cs
section
variable {X : Cx} {n : Str} {i : Nat} {body suite : List Stmt} {b₀ : Stmt} {test : Expr} {cs : List Value} {pos pos' : Pos} {tb : WX → TS} {ts : Value → Option Addr → Addr → TS}
/-- what a clause 'except .. as n' wishes of an exception, one that it takes -/
def wKept (K : PySem.W.Frag) (cs : List Value) (i : Nat) (ts : Value → Option Addr → Addr → TS) (D : Ends) : WX := fun cls d σ H =>
  (∃ sub : Value → Bool, (∀ c ∈ cs, PySem.W.exmOne K cls c = some (sub c)) ∧ cs.any sub = true) ∧
  ∀ a, H a = none → ts cls d a { nx := fun σ' H' => D.nx (σ'.set i none) H', rt := D.rt, bk := fun σ' H' => D.bk (σ'.set i none) H', ct := fun σ' H' => D.ct (σ'.set i none) H' } (σ.set i (some (.ref a))) (upd H a (ExH cls d a))
theorem names_run {a : Addr} {pn pins : List (Addr × Obj)} {σ : L2.St} {H : Hp} {s : Shared} {E : Value → Shared → Prop} (I : Inv (held X a pn) pins σ H s) : ∀ {es : List Expr} {cs : List Value} {Q : List Value → Shared → Prop} {pos : Pos},
    Paired (fun e c => ∃ x q, e = Expr.Name x q ∧ Names X x c) es cs → Q cs s → wpAny (model X.prog X.w) (held X a pn).A (spliced (backTo pos (starEach es X.env))) Q E s
  | [], _, Q, pos, .nil, q => wpAny_items_nil q
  | _ :: es, c :: cs, Q, pos, .cons h t, q => by
    obtain ⟨x, p, rfl, hg, hdbg, hn⟩ := h
    refine wpAny_items_cons ?_
    have go : wpAny (model X.prog X.w) (held X a pn).A (spliced (backTo pos (starEach es X.env))) (fun vs s2 => Q (c :: vs) s2) E s := names_run I t q
    rcases hn with hm | ⟨hm, hv, hnn⟩
    · exact ld_glob (X := held X a pn) I hg hm go hdbg
    · exact ld_blt (X := held X a pn) I hg hm hv go hnn hdbg
theorem ps_try_kept (hs : X.stack = X.env :: X.outer) (hf : X.env.frame = some X.env.locals) (hN : X.N.Nodup) (hi : X.N[i]? = some n) (hln : X.env.kindOf n = some .local) (hc : CTest X test cs)
    (hb : ∀ (W : WX) (pn : List (Addr × Obj)) (xe : Value → Shared → Prop), Takes (X.tr pn xe) W → PassesOwn (model X.prog X.w) X.A X.env xe → PSs (X.tr pn xe) body (tb W))
    (hsu : ∀ (cls : Value) (d : Option Addr) (a : Addr) (pn : List (Addr × Obj)), PSs (held X a pn) (b₀ :: suite) (ts cls d a)) :
    PS X (.Try body [.ExceptHandler (some test) (some n) (b₀ :: suite) pos'] [] [] pos) (fun D σ H => tb (wKept X.K cs i ts D) D σ H) := by
  refine ⟨fun pins s σ H D I h => ?_⟩
  have ok := I.ok
  have hfr : X.A.frames = some (X.env :: X.outer) := by rw [ok.frames, hs]
  have hloc : Loc X.env.scope n := .inl hln
  refine wpAny_Try_except ?_
  refine wpAny_mono ((hb (wKept X.K cs i ts D) (X.pn ++ pins) (fun e s₁ => wpAny (model X.prog X.w) X.A (noteFrame e X.env) (fun _ s₂ => wpAny (model X.prog X.w) X.A (setFlight e none) (fun _ s₃ =>
    wpAny (model X.prog X.w) X.A (handleBy e X.env [.ExceptHandler (some test) (some n) (b₀ :: suite) pos']) (SP X pins D) X.xe s₃) X.xe s₂) X.xe s₁) (fun u s' xx => ?_) PassesOwn.looking).run [] s σ H D (I.toTry _) h) (fun f s1 hsp => ?_) (fun e s1 he => he)
  · obtain ⟨a, B, sI, pins', σ', H', cls, d, rfl, J', nb, up, sky, na, os, ag, ⟨sub, hx, hany⟩, hyes⟩ := xx
    have J : Inv X pins σ' H' sI := J'.ofTry ok
    have sky' : Sky B (X.env :: X.outer) a (Zc cls d) X.env.locals s'.heap := by rw [← hs]; exact sky
    show wpAny (model X.prog X.w) X.A (noteFrame (.ref a) X.env) _ _ _
    refine Sky.land Zc.steady hfr hf sky' fun h3 fl3 up3 => ?_
    have notFr : ∀ {h : Heap} {o : Obj} {vs : Array Value}, h.FunFrames B (X.env :: X.outer) → h.get? a = some o → o.data = .fields vs → a ∉ frs (X.env :: X.outer) := fun {h o vs} ff e dd hm => by
      obtain ⟨_, o', e', hnf⟩ := ff.mem hm
      rw [e] at e'; cases e'
      exact hnf _ dd
    obtain ⟨oe3, vs3, he3, hz3, hd3⟩ := fl3.there
    have nfr : a ∉ frs X.stack := by rw [hs]; exact notFr fl3.2.2.1 he3 hd3
    have land : ∀ h4 t4, HandSPX.FlyingZ B (X.env :: X.outer) a (Zc cls d) h4 → sI.heap.UpToSlots h4 → Inv X pins σ' (upd H' a (ExH cls d a)) { s' with heap := h4, toks := t4 } := fun h4 t4 fl4 up4 =>
      landedK (s' := { s' with heap := h4, toks := t4 }) J nb fl4.2.1 nfr fl4.1 up4 os ag na fl4.there
    have S3 := inv_held (land h3 s'.toks fl3 (up.trans up3)) a
    have LT : ∀ {h : Heap}, h.get? a = some oe3 → PySem.W.Looks (model X.prog X.w) h (typeOf (.ref a)) cls := fun he A Q E s k q => wpAny_typeOf_ref (k _ _ he) (by rw [hz3.1]; exact q)
    refine wpAny_handleBy_cons (codeAny_handlers_test ?_) (by intro q; cases q)
    have after : ∀ (h4 : Heap), HandSPX.FlyingZ B (X.env :: X.outer) a (Zc cls d) h4 → sI.heap.UpToSlots h4 →
        codeAny (model X.prog X.w) (X.A.mark (some (.ref a))) (.handlers (.ref a) [.ExceptHandler none (some n) (b₀ :: suite) pos'] X.env) (fun r s₂ => match r with
          | .ok f => wpAny (model X.prog X.w) X.A (do bindName X.env n .none; unbindBehindTheSuite X.env n pos') (fun _ s₃ => SP X pins D f s₃) X.xe s₂
          | .error x => cameBackBy (model X.prog X.w) X.A X.env X.xe x s₂) { s' with heap := h4 } := fun h4 fl4 up4 => by
      refine codeAny_handlers_suite_as ?_
      refine HandSPX.lands_againZ fl4 fun h5 fl5 up5 => ?_
      have S5 := inv_held (land h5 s'.toks fl5 (up4.trans up5)) a
      refine store_ok (X := held X a (X.pn ++ pins)) (v := .ref a) S5 hN hi hloc rfl (fun s6 S6 => ?_) (.inr hln)
      refine wpAny_mono ((hsu cls d a (X.pn ++ pins)).run [] s6 _ _ _ S6 (hyes a na)) (fun f s7 hsp => ?_) (fun _ _ z => False.elim z)
      have end_ : ∀ {σ6 : L2.St} {H6 : Hp} {Q : Shared → Prop}, Inv (held X a (X.pn ++ pins)) [] σ6 H6 s7 → (∀ s8, Inv X pins (σ6.set i none) H6 s8 → Q s8) →
          wpAny (model X.prog X.w) X.A (do bindName X.env n .none; unbindBehindTheSuite X.env n pos') (fun _ s8 => Q s8) X.xe s7 := fun {σ6 H6 Q} S6 hq => gone_ok (inv_unheld S6 ok) hN hi hln hq
      cases f with
      | next =>
        obtain ⟨σ6, H6, S6, q6⟩ := hsp
        exact end_ S6 fun s7 J7 => ⟨_, _, J7, q6⟩
      | brk =>
        obtain ⟨σ6, H6, S6, q6⟩ := hsp
        exact end_ S6 fun s7 J7 => ⟨_, _, J7, q6⟩
      | cont =>
        obtain ⟨σ6, H6, S6, q6⟩ := hsp
        exact end_ S6 fun s7 J7 => ⟨_, _, J7, q6⟩
      | ret u =>
        obtain ⟨v6, σ6, H6, S6, r6, q6⟩ := hsp
        exact end_ S6 fun s7 J7 => ⟨_, _, _, J7, r6, q6⟩
    cases hc with
    | @one x c p hn =>
      have hb1 := hx c List.mem_cons_self
      have e1 : sub c = true := by simpa using hany
      rw [e1] at hb1
      have LM := PySem.W.exm_one (M := model X.prog X.w) S3.kIn (LT he3) hb1
      have fin := after h3 fl3 (up.trans up3)
      obtain ⟨hg, hdbg, hm | ⟨hm, hv, hnn⟩⟩ := hn
      · refine ld_glob (X := held X a (X.pn ++ pins)) S3 hg hm (LM.here ?_) hdbg
        exact fin
      · refine ld_blt (X := held X a (X.pn ++ pins)) S3 hg hm hv (LM.here ?_) hnn hdbg
        exact fin
    | @tup es cs k p hz hp =>
      refine wpAny_Tuple ?_
      refine names_run (X := X) (a := a) S3 hp ⟨hz, ?_⟩
      have kp : ∀ b o, h3.get? b = some o → (h3.push { cls := .type "tuple", data := .seq cs.toArray }).get? b = some o := fun _ _ z => Heap.get?_push_of_some _ z
      have LM := exm_tups (M := model X.prog X.w) (S3.kIn.keeps kp) (LT (kp _ _ he3)) (Heap.get?_push_size h3 rfl) hx
      rw [hany] at LM
      refine LM.here ?_
      have fl4 : HandSPX.FlyingZ B (X.env :: X.outer) a (Zc cls d) (h3.push { cls := .type "tuple", data := .seq cs.toArray }) := by
        obtain ⟨f1, f2, f3, oe, ws, T, oT, ts', q1, q2, q3, q4, q5, q6, q7, q8, q9⟩ := fl3
        exact ⟨fun b o q => kp b o (f1 b o q), f2, f3.of_keeps fun b o q _ => ⟨o, kp b o q, rfl⟩, oe, ws, T, oT, ts', kp _ _ q1, q2, q3, q4, q5, q6, kp _ _ q7, q8, q9⟩
      exact after _ fl4 ((up.trans up3).trans (Heap.UpToSlots.of_keeps kp))
  · cases f with
    | next =>
      obtain ⟨σ', H', J', q⟩ := hsp
      exact wpAny_execs_nil ⟨σ', H', J'.ofTry ok, q⟩
    | brk =>
      obtain ⟨σ', H', J', q⟩ := hsp
      exact ⟨σ', H', J'.ofTry ok, q⟩
    | cont =>
      obtain ⟨σ', H', J', q⟩ := hsp
      exact ⟨σ', H', J'.ofTry ok, q⟩
    | ret u =>
      obtain ⟨v, σ', H', J', r, q⟩ := hsp
      exact ⟨v, σ', H', J'.ofTry ok, r, q⟩
end
end U

set_option Elab.async false
set_option linter.all false
set_option maxRecDepth 100000
set_option maxHeartbeats 4000000
/-! raise, try, isinstance of exceptions, over data; the facts about classes. -/
namespace U
open PySem PySem.Spec L2
open PyProof.Rows hiding St

/-! ### try -/
def noOwns : List Sl → Bool
  | [] => true
  | .emp :: r => noOwns r
  | .dat _ :: r => noOwns r
  | .own _ _ :: _ => false
theorem noOwns_ok : ∀ {sl : List Sl}, noOwns sl = true → ∀ (i : Nat) a ds, sl[i]? ≠ some (.own a ds)
  | [], _, i, a, ds, e => by simp at e
  | .emp :: r, h, i, a, ds, e => by
    cases i with
    | zero => simp at e
    | succ i => exact noOwns_ok (sl := r) h i a ds (by simpa using e)
  | .dat _ :: r, h, i, a, ds, e => by
    cases i with
    | zero => simp at e
    | succ i => exact noOwns_ok (sl := r) h i a ds (by simpa using e)
  | .own _ _ :: _, h, _, _, _, _ => by cases h
/-- what stands behind the suite: the exception's name is gone -/
def behindX (i : Nat) (E : UEnds) : UEnds := { E with nx := fun ρ2 => E.nx (ρ2.put i .emp), bk := fun ρ2 => E.bk (ρ2.put i .emp), ct := fun ρ2 => E.ct (ρ2.put i .emp) }
def uTry (m : Cn → Bool) (i : Nat) (ub : WU → US) (us : US) : US := fun E ρ => noOwns ρ.sl = true ∧
  ub (fun x ρ1 => ρ1.pen = ρ.pen ∧ m x.cls = true ∧ us (behindX i E) (ρ1.put i (.dat (.exc x.cls (x.fld.getD []))))) E ρ
def uRaise (c : Cn) (W : WU) : US := fun _ ρ => W ⟨c, none⟩ ρ
section
variable {K : PySem.W.Frag} {O0 : Ad} {H0 H H' : Hp} {σ σ' : L2.St} {ρ ρ' : Ro}
theorem R.rebase (r : R K O0 H0 σ H ρ) (r1 : R K O0 H σ' H' ρ') (e : ρ'.pen = ρ.pen) : R K O0 H0 σ' H' ρ' where
  len := r1.len
  dat := r1.dat
  own := fun i a ds h => by
    obtain ⟨h1, h2, h3, h4, h5⟩ := r1.own i a ds h
    refine ⟨h1, h2, ?_, h4, h5⟩
    cases q : H0 a with
    | none => rfl
    | some o =>
      have z := r.fr a o q (by rw [← e]; exact h4)
      rw [h3] at z
      cases z
  inj := r1.inj
  fr := by
    have f := r.fr
    rw [← e] at f
    exact f.trans r1.fr
  tr := r1.tr
  pen := r1.pen
theorem R.base (r : R K O0 H0 σ H ρ) (h : noOwns ρ.sl = true) : R K O0 H σ H ρ where
  len := r.len
  dat := r.dat
  own := fun i a ds e => absurd e (noOwns_ok h i a ds)
  inj := r.inj
  fr := Frm.refl
  tr := r.tr
  pen := r.pen
theorem R.trOf (r : R K O0 H0 σ H ρ) (r1 : R K O0 H σ' H' ρ') (e : ρ'.pen = ρ.pen) : Tr O0 ρ H ρ' H' := by
  refine ⟨⟨fun b o h n => r1.fr b o h fun z => n (.inr (.inl (by rw [← e]; exact z))), fun b o h n z => ?_⟩, e⟩
  rcases z with z | z | ⟨i, ds, z⟩
  · exact n (.inl z)
  · exact n (.inr (.inl (by rw [← e]; exact z)))
  · obtain ⟨_, _, h3, _⟩ := r1.own i b ds z
    rw [h3] at h
    cases h
theorem RtOk.base {pen : PenT} {E : UEnds} {D : Ends} (h : RtOk K O0 H0 pen E D) (f : Frm pen H0 H) (p : ∀ b, IsPen pen b → H b ≠ none) : RtOk K O0 H pen E D where
  d := fun d n hd v H' fr pn rp => h.d d n hd v H' (f.trans fr) pn rp
  f := fun ds n hd a H' ha fr pn hx => h.f ds n hd a H' (by
    cases q : H0 a with
    | none => rfl
    | some o =>
      by_cases z : IsPen pen a
      · exact absurd ha (p a z)
      · have w := f a o q z
        rw [ha] at w
        cases w) (f.trans fr) pn hx
theorem XRp.rp {x : UX} {d : Option Addr} {a : Addr} {O : Ad} (h : XRp K O H x d) (na : H a = none) (nO : ¬ O a) : Rp K O (upd H a (ExH (x.cls.val K) d a)) (.ref a) (.exc x.cls (x.fld.getD [])) := by
  unfold XRp at h
  split at h
  · rename_i e
    subst h
    rw [e]
    exact .exc nO upd_same
  · rename_i fs e
    obtain ⟨dx, vs, rfl, n, hdx, rf⟩ := h
    rw [e]
    exact .excf nO upd_same n (by rw [upd_ne (ne_of_none hdx na)]; exact hdx) (rf.keep (.same (Same.new na)))
end
section
variable {X : Cx} {O0 : Ad} {H0 : Hp} {n : Str} {i : Nat} {body suite : List Stmt} {b₀ : Stmt} {test : Expr} {cs : List Value} {pos pos' : Pos} {ub : WU → US} {us : US} {m : Cn → Bool}
theorem us_try (hs : X.stack = X.env :: X.outer) (hf : X.env.frame = some X.env.locals) (hN : X.N.Nodup) (hi : X.N[i]? = some n) (hln : X.env.kindOf n = some .local) (hc : CTest X test cs)
    (hm : ∀ c, m c = true → ∃ sub : Value → Bool, (∀ k ∈ cs, PySem.W.exmOne X.K (c.val X.K) k = some (sub k)) ∧ cs.any sub = true)
    (hb : ∀ (H1 : Hp) (W : WU) (pn : List (Addr × Obj)) (xe : Value → Shared → Prop), Takes (X.tr pn xe) (LW X.K O0 H1 W) → PassesOwn (model X.prog X.w) X.A X.env xe → UPB (X.tr pn xe) O0 H1 body (ub W))
    (hsu : ∀ (a : Addr) (pn : List (Addr × Obj)), UPB (held X a pn) O0 H0 (b₀ :: suite) us) :
    UPS X O0 H0 (.Try body [.ExceptHandler (some test) (some n) (b₀ :: suite) pos'] [] [] pos) (uTry m i ub us) := by
  refine PS.imp (ps_try_kept (tb := fun Wx => fun D σ H => ∃ (H1 : Hp) (W : WU), (∀ cls d σ H, LW X.K O0 H1 W cls d σ H → Wx cls d σ H) ∧ lS X.K O0 H1 (ub W) D σ H) (ts := fun _ _ _ => lS X.K O0 H0 us) hs hf hN hi hln hc
    (fun Wx pn xe tk po => ⟨fun pins s σ H D I ⟨H1, W, himp, hl⟩ => (hb H1 W pn xe (Takes.imp tk himp) po).run pins s σ H D I hl⟩) fun _ _ a pn => hsu a pn) ?_
  intro σ H D ⟨ρ, E, r, ⟨hno, hu⟩, hn, hbk, hct, hr⟩
  have pen0 : ∀ b, IsPen ρ.pen b → H b ≠ none := fun b hb => r.tr b (OO.pen b hb)
  refine ⟨H, _, ?_, ρ, E, r.base hno, hu, fun ρ' hx σ' H' r1 t1 => hn ρ' hx σ' H' (r.rebase r1 t1.pn) t1, fun ρ' hx σ' H' r1 t1 => hbk ρ' hx σ' H' (r.rebase r1 t1.pn) t1,
    fun ρ' hx σ' H' r1 t1 => hct ρ' hx σ' H' (r.rebase r1 t1.pn) t1, hr.base r.fr pen0⟩
  rintro cls d σ1 H1 ⟨ρ1, x, r1, rfl, xr, e1, hm1, hus⟩
  refine ⟨hm _ hm1, fun a na => ?_⟩
  have sm : Same H1 (upd H1 a (ExH (x.cls.val X.K) d a)) := Same.new na
  have t1 : Tr O0 ρ H ρ1 H1 := r.trOf r1 e1
  have r2 : R X.K O0 H0 σ1 (upd H1 a (ExH (x.cls.val X.K) d a)) ρ1 := (r.rebase r1 e1).same sm
  have rp := xr.rp na ((r.rebase r1 e1).fresh na)
  have t2 : Tr O0 ρ H (ρ1.put i (.dat (.exc x.cls (x.fld.getD [])))) (upd H1 a (ExH (x.cls.val X.K) d a)) := (t1.trans ⟨.same sm, rfl⟩).trans Tr.put
  refine ⟨_, behindX i E, r2.put rp, hus, fun ρ2 hx σ2 H2 r3 t3 => ?_, fun ρ2 hx σ2 H2 r3 t3 => ?_, fun ρ2 hx σ2 H2 r3 t3 => ?_, ?_⟩
  · exact hn _ hx _ H2 (r3.emp i none) ((t2.trans t3).trans ⟨.less fun b h => OO.put_emp h, rfl⟩)
  · exact hbk _ hx _ H2 (r3.emp i none) ((t2.trans t3).trans ⟨.less fun b h => OO.put_emp h, rfl⟩)
  · exact hct _ hx _ H2 (r3.emp i none) ((t2.trans t3).trans ⟨.less fun b h => OO.put_emp h, rfl⟩)
  · exact ⟨(hr.at_ t2.pn).d, (hr.at_ t2.pn).f⟩
/-- raise X('..') , an own class without own __init__ -/
theorem us_raise {W : WU} {x m : Str} {j : Nat} {p p2 pos pos2 : Pos} (hc : X.calm = true) (tk : Takes X (LW X.K O0 H0 W)) (c : (He.Fa.exc x).ok X.K = true) (gC : X.mg x = some (.ref (He.ga X.K x))) (hg : Gl X x) (hdb : (x == ("__debug__" : Str)) = false := by decide) :
    UPS X O0 H0 (.Raise (some (.Call (.Name x p) [.Constant (.str m) j p2] [] pos)) none pos2) (uRaise (.own x) W) := by
  obtain ⟨c1, c2, c3, c4⟩ := He.exc_ok c
  refine PS.imp (ps_raise hc tk (pmk_own PySem.F.excBase_ValueError c1 gC c2 (raises_own c3 c4) hg hdb)) ?_
  intro σ H D ⟨ρ, E, r, hu, _⟩
  exact ⟨ρ, ⟨.own x, none⟩, r, rfl, rfl, hu⟩
end

/-! ### the classes -/
/-- own classes, each with all that stand above it -/
abbrev XT := List (Str × List Cn)
def subC (T : XT) (c d : Cn) : Bool := decide (c = d) || match c with
  | .own x => ((T.lookup x).getD []).contains d
  | .blt _ => false
def excB (K : PySem.W.Frag) (D : Addr) : Bool := decide (PySem.W.findIn K (.ref D) "__getattribute__" = some (some (.builtin "BaseException.__getattribute__"))) && (decide (PySem.W.findIn K (.ref D) "__getattr__" = some none) &&
  (decide (PySem.W.subIn K (.ref D) (.type "BaseException") = some true) && (PySem.W.hasDictIn K D && (decide (PySem.W.findIn K (.ref D) "__class__" = some (some (.builtin "object.__class__"))) &&
  (decide (PySem.W.specialIn K (.builtin "object.__class__") "__get__" = some (some (.builtin "getset_descriptor.__get__"))) && (decide (PySem.W.takesIn K (.builtin "object.__class__") = some true) && decide (PySem.W.mroIn K D (.type "object") = some true)))))))
theorem excB_ok {K : PySem.W.Frag} {D : Addr} (h : excB K D = true) : ExcC K D := by
  obtain ⟨h1, h⟩ := Bool.and_eq_true_iff.mp h
  obtain ⟨h2, h⟩ := Bool.and_eq_true_iff.mp h
  obtain ⟨h3, h⟩ := Bool.and_eq_true_iff.mp h
  obtain ⟨h4, h⟩ := Bool.and_eq_true_iff.mp h
  obtain ⟨h5, h⟩ := Bool.and_eq_true_iff.mp h
  obtain ⟨h6, h⟩ := Bool.and_eq_true_iff.mp h
  obtain ⟨h7, h8⟩ := Bool.and_eq_true_iff.mp h
  exact ⟨of_decide_eq_true h1, of_decide_eq_true h2, of_decide_eq_true h3, h4, of_decide_eq_true h5, of_decide_eq_true h6, of_decide_eq_true h7, of_decide_eq_true h8⟩
/-- c is told of -/
def inX (T : XT) (bs : List String) : Cn → Bool
  | .own x => T.any fun p => decide (p.1 = x)
  | .blt n => bs.contains n
def pairB (K : PySem.W.Frag) (T : XT) (x : Str) (d : Cn) : Bool := decide (PySem.W.kitOne K (.ref (He.ga K x)) (d.val K) = some (subC T (.own x) d)) && decide (PySem.W.exmOne K (.ref (He.ga K x)) (d.val K) = some (subC T (.own x) d))
def xfB (K : PySem.W.Frag) (T : XT) (bs : List String) : Bool := T.all fun p => excB K (He.ga K p.1) && ((T.all fun q => pairB K T p.1 (.own q.1)) && bs.all fun n => pairB K T p.1 (.blt n))
structure XF (K : PySem.W.Frag) (T : XT) (bs : List String) : Prop where
  c : ∀ x, inX T bs (.own x) = true → ExcC K (He.ga K x)
  kit : ∀ x d, inX T bs (.own x) = true → inX T bs d = true → PySem.W.kitOne K (.ref (He.ga K x)) (d.val K) = some (subC T (.own x) d)
  exm : ∀ x d, inX T bs (.own x) = true → inX T bs d = true → PySem.W.exmOne K (.ref (He.ga K x)) (d.val K) = some (subC T (.own x) d)
theorem xfB_ok {K : PySem.W.Frag} {T : XT} {bs : List String} (h : xfB K T bs = true) : XF K T bs := by
  have at_ : ∀ x, inX T bs (.own x) = true → excB K (He.ga K x) = true ∧ ∀ d, inX T bs d = true → pairB K T x d = true := fun x hx => by
    obtain ⟨p, hp, e⟩ := List.any_eq_true.mp hx
    have e := of_decide_eq_true e
    subst e
    obtain ⟨h1, h2⟩ := Bool.and_eq_true_iff.mp (List.all_eq_true.mp h p hp)
    obtain ⟨h3, h4⟩ := Bool.and_eq_true_iff.mp h2
    refine ⟨h1, fun d hd => ?_⟩
    cases d with
    | own y =>
      obtain ⟨q, hq, e⟩ := List.any_eq_true.mp hd
      have e := of_decide_eq_true e
      subst e
      exact List.all_eq_true.mp h3 q hq
    | blt n => exact List.all_eq_true.mp h4 n (List.contains_iff_mem.mp hd)
  refine ⟨fun x hx => excB_ok (at_ x hx).1, fun x d hx hd => ?_, fun x d hx hd => ?_⟩
  · exact of_decide_eq_true (Bool.and_eq_true_iff.mp ((at_ x hx).2 d hd)).1
  · exact of_decide_eq_true (Bool.and_eq_true_iff.mp ((at_ x hx).2 d hd)).2
/-- what a clause of these classes takes -/
def takesX (T : XT) (bs : List String) (ks : List Cn) : Cn → Bool
  | .own x => inX T bs (.own x) && (ks.all (inX T bs) && ks.any (subC T (.own x)))
  | .blt _ => false
theorem takesX_ok {K : PySem.W.Frag} {T : XT} {bs : List String} {ks : List Cn} (F : XF K T bs) (c : Cn) (h : takesX T bs ks c = true) :
    ∃ sub : Value → Bool, (∀ k ∈ ks.map (Cn.val K), PySem.W.exmOne K (c.val K) k = some (sub k)) ∧ (ks.map (Cn.val K)).any sub = true := by
  cases c with
  | blt n => cases h
  | own x =>
    obtain ⟨h1, h⟩ := Bool.and_eq_true_iff.mp h
    obtain ⟨h2, h3⟩ := Bool.and_eq_true_iff.mp h
    have ex : ∀ k ∈ ks, PySem.W.exmOne K (.ref (He.ga K x)) (k.val K) = some (subC T (.own x) k) := fun k hk => F.exm x k h1 (List.all_eq_true.mp h2 k hk)
    refine ⟨fun v => (PySem.W.exmOne K (.ref (He.ga K x)) v).getD false, fun v hv => ?_, ?_⟩
    · obtain ⟨k, hk, rfl⟩ := List.mem_map.mp hv
      show _ = some ((PySem.W.exmOne K (.ref (He.ga K x)) (k.val K)).getD false)
      rw [ex k hk]
      exact ex k hk
    · obtain ⟨k, hk, e⟩ := List.any_eq_true.mp h3
      refine List.any_eq_true.mpr ⟨k.val K, List.mem_map.mpr ⟨k, hk, rfl⟩, ?_⟩
      show (PySem.W.exmOne K (.ref (He.ga K x)) (k.val K)).getD false = true
      rw [ex k hk]
      exact e
end U

set_option Elab.async false
set_option linter.all false
set_option maxRecDepth 100000
set_option maxHeartbeats 4000000
/-! isinstance of exceptions, their fields; the head with facts about classes. -/
namespace UXc
open PySem PySem.W PySem.Spec PySem.Calls PyProof.Rows
section
variable {prog : Program} {w : World} {A : Around} {E : Value → Shared → Prop} {s : Shared} {K : Frag} {x D : Addr} {ox : Obj} {od : Option Obj}
theorem findObj_dataD {C : Addr} {name : Str} {a g : Value} (hc : (clsIn K C).isSome = true) (ha : findIn K (.ref C) name = some (some a)) (hg : specialIn K a "__get__" = some (some g)) (ht : takesIn K a = some true) : findObj K C od name = some (.bind g a) := by
  obtain ⟨cd, hc⟩ := Option.isSome_iff_exists.mp hc
  unfold findObj
  rw [hc, Option.bind_some, ha, Option.bind_some]
  simp [hg, ht]
theorem kin_classD {Q : Option Value → Shared → Prop} (hga : findIn K (.ref D) "__getattribute__" = some (some (.builtin "BaseException.__getattribute__"))) (hgt : findIn K (.ref D) "__getattr__" = some none) (hsub : subIn K (.ref D) (.type "BaseException") = some true)
    (hdct : hasDictIn K D = true) (ha : findIn K (.ref D) "__class__" = some (some (.builtin "object.__class__")))
    (hn : specialIn K (.builtin "object.__class__") "__get__" = some (some (.builtin "getset_descriptor.__get__"))) (htk : takesIn K (.builtin "object.__class__") = some true) (hm : mroIn K D (.type "object") = some true)
    (X : K.In s.heap) (I : InstAt s.heap x ox D od) (h : Q (some (.ref D)) { s with toks := s.toks + 1 }) : wpAny (model prog w) A (getAttr? (.ref x) "__class__") Q E s := by
  have hf : findObj K D od "__class__" = some (.bind (.builtin "getset_descriptor.__get__") (.builtin "object.__class__")) := findObj_dataD (by obtain ⟨cd, hc, _⟩ := any_some hdct; rw [hc]; rfl) ha hn htk
  obtain ⟨hp, g, d, t, os⟩ := s
  have L0 := I.type (M := model prog w)
  have L1 := looks_findIn (M := model prog w) X hga
  have L2 := looks_findIn (M := model prog w) X hgt
  have L3 := looks_find (M := model prog w) X I hf
  have sub : Looks (model prog w) hp (isInstance (.ref x) (.type "BaseException")) true := L0.andThen (looks_subIn X hsub)
  have hx0 : (false && onTheHeap (Value.builtin "BaseException.__getattribute__")) = false := rfl
  have hx2 : (Value.builtin "BaseException.__getattribute__" == Value.builtin "object.__getattribute__") = false := by decide +kernel
  have hx1 : (onTheHeap (Value.ref D) && Value.builtin "BaseException.__getattribute__" == Value.builtin "object.__getattribute__") = false := by rw [hx2]; rfl
  unfold getAttr? getAttrBy? getAttrBy
  refine wpAny_bind (wpAny_mkText (wpAny_bind (wpAny_attempt (wpAny_holding (wpAny_bind (L0.at (wpAny_bind (L1.at ?_))))))))
  show wpAny _ _ (if (onTheHeap (Value.ref D) && Value.builtin "BaseException.__getattribute__" == Value.builtin "object.__getattribute__") = true then _ else _) _ _ _
  rw [hx1, if_neg Bool.false_ne_true]
  unfold getAttrByItsOwn hookBefore
  refine wpAny_bind ?_
  rw [if_pos (show onTheHeap (Value.ref D) = true from rfl)]
  refine L2.at ?_
  refine wpAny_bind (wpAny_attempt (wpAny_holding ?_))
  unfold callGetattribute
  rw [hx0, if_neg Bool.false_ne_true]
  unfold boundAndCalled
  rw [PySem.F.excAttr_ValueError.ga.bind (.ref x)]
  refine wpAny_bind (wpAny_pure ?_)
  show wpAny _ _ (call (.builtin "BaseException.__getattribute__") [.ref x, .str "__class__" t]) _ _ _
  refine wpAny_call (codeAny_call_builtin PySem.F.excAttr_ValueError.ga.plain PySem.F.entry_bexc_ga ?_)
  refine @check_slot (model prog w) _ _ ⟨hp, g, d, t + 1, os⟩ "BaseException.__getattribute__" "BaseException" "__getattribute__" (.ref x) [.str "__class__" t] [] _ (by decide +kernel) (by decide +kernel) sub (PySem.F.args_bexc_ga (.ref x) (.str "__class__" t)) ?_
  unfold Builtin.«object.__getattribute__»
  refine wpAny_bind (wpAny_of_eq (a := ((Value.ref x : Value), [Value.str "__class__" t])) (by first | rfl | (simp only [slotArgs]; rfl)) ?_)
  refine wpAny_bind (wpAny_pure (wpAny_bind (L0.at (wpAny_bind (L3.at ?_)))))
  show wpAny _ _ (holding [Value.builtin "object.__class__"] (call (.builtin "getset_descriptor.__get__") [.builtin "object.__class__", .ref x, .ref D]) >>= ret) _ _ _
  refine wpAny_bind (wpAny_holding (wpAny_call (class_get (s := ⟨hp, g, d, t + 1, os⟩) (ox := ox) (od := od) X I hm ?_)))
  refine wpAny_pure ?_
  show wpAny _ _ (handedOut (.ref D)) _ _ _
  rw [handedOut_of (v := .ref D) rfl]
  first
    | exact wpAny_pure (wpAny_pure h)
    | exact wpAny_pure h
    | exact wpAny_pure (wpAny_bind (wpAny_pure (wpAny_pure h)))
theorem kitx_excD (C : L2.ExcC K D) : KitX K (.ref x) (.ref D) (fun h => InstAt h x ox D od) where
  ty := fun _ _ _ I => I.type
  it := fun _ _ X _ => by
    obtain ⟨cdD, hcD, _⟩ := any_some C.hd
    unfold clsIn at hcD
    split at hcD
    · rename_i c' d' cd' sl' ho
      intro A' Q' E' s' k q
      unfold isType loadHead
      exact wpAny_bind (wpAny_loadPart (k _ _ (X _ _ ho)) (wpAny_pure q))
    · cases hcD
  ne := fun h tp dd its n sl X htp => by
    obtain ⟨cdD, hcD, _⟩ := any_some C.hd
    refine Bool.eq_false_iff.mpr fun q => ?_
    have e : D = tp := Value.ref.inj (beq_iff_eq.mp q)
    subst e
    unfold clsIn at hcD
    split at hcD
    · rename_i c' d' cd' sl' ho
      have z := (X _ _ ho).symm.trans htp
      cases z
    · cases hcD
  ca := fun X I k => kin_classD C.hg C.hk C.hs C.hd C.ha C.hn C.ht C.hm X I k
end
end UXc
namespace U
open PySem PySem.Spec L2
open PyProof.Rows hiding St

/-! ### isinstance -/
def clOf : List D → Option (List Cn)
  | [] => some []
  | .ty n :: r => (clOf r).map (.blt n :: ·)
  | .cls x :: r => (clOf r).map (.own x :: ·)
  | _ => none
/-- isinstance(e, C), isinstance(e, (C1, ..)), e an exception -/
def gIsX (T : XT) (bs : List String) : GL
  | [.exc (.own c) _, .cls y], Q => (inX T bs (.own c) = true ∧ inX T bs (.own y) = true) ∧ Q (.bl (subC T (.own c) (.own y)))
  | [.exc (.own c) _, .ty n], Q => (inX T bs (.own c) = true ∧ inX T bs (.blt n) = true) ∧ Q (.bl (subC T (.own c) (.blt n)))
  | [.exc (.own c) _, .tup cs], Q => match clOf cs with
    | some ks => (inX T bs (.own c) = true ∧ ks.all (inX T bs) = true) ∧ Q (.bl (ks.any (subC T (.own c))))
    | none => False
  | _, _ => False
theorem clOf_ok {K : PySem.W.Frag} {O : Ad} {H : Hp} : ∀ {cs : List D} {ks : List Cn} {vs : List V}, clOf cs = some ks → RpA K O H vs cs → Paired ClsV vs (ks.map (Cn.val K))
  | [], _, _, e, .nil => by cases e; exact .nil
  | .ty n :: r, ks, _, e, .cons h t => by
    have e' : (clOf r).map (.blt n :: ·) = some ks := e
    cases q : clOf r with
    | none => rw [q] at e'; cases e'
    | some ms =>
      rw [q] at e'
      cases e'
      cases h
      exact .cons (.ty n) (clOf_ok q t)
  | .cls x :: r, ks, _, e, .cons h t => by
    have e' : (clOf r).map (.own x :: ·) = some ks := e
    cases q : clOf r with
    | none => rw [q] at e'; cases e'
    | some ms =>
      rw [q] at e'
      cases e'
      cases h
      exact .cons (.own _) (clOf_ok q t)
  | .non :: _, _, _, e, _ => by cases e
  | .bl _ :: _, _, _, e, _ => by cases e
  | .int _ :: _, _, _, e, _ => by cases e
  | .str _ :: _, _, _, e, _ => by cases e
  | .lst _ :: _, _, _, e, _ => by cases e
  | .tup _ :: _, _, _, e, _ => by cases e
  | .dic _ :: _, _, _, e, _ => by cases e
  | .ref _ :: _, _, _, e, _ => by cases e
  | .exc _ _ :: _, _, _, e, _ => by cases e
theorem kitAny_X {K : PySem.W.Frag} {T : XT} {bs : List String} {c : Str} (F : XF K T bs) (hc : inX T bs (.own c) = true) : ∀ ks : List Cn, ks.all (inX T bs) = true → PySem.W.kitAny K (.ref (He.ga K c)) (ks.map (Cn.val K)) = some (ks.any (subC T (.own c)))
  | [], _ => kitAny_nil
  | k :: ks, h => by
    obtain ⟨h1, h2⟩ := Bool.and_eq_true_iff.mp h
    refine kitAny_cons (F.kit c k hc h1) (fun e => ?_) fun e => ?_
    · rw [List.any_cons, e, Bool.false_or]
      exact kitAny_X F hc ks h2
    · rw [List.any_cons, e, Bool.true_or]
section
variable {X : Cx}
/-- an exception stands there, with its dict -/
theorem exc_inst {pins : List (Addr × Obj)} {σ : L2.St} {H : Hp} {s : Shared} {O : Ad} {c : Str} {fs : List (Str × D)} {v : V} (I : Inv X pins σ H s) (h : Rp X.K O H v (.exc (.own c) fs)) :
    ∃ a ox od, v = .ref a ∧ PySem.W.InstAt s.heap a ox (He.ga X.K c) od ∧ ((od = none ∧ fs = []) ∨ ∃ oo vs, od = some oo ∧ RpF X.K O H vs fs ∧ ∀ f, RelO (vs.lookup f) ((fun g => (PySem.W.lookIn g oo).getD none) f) ∧ ∃ r, PySem.W.lookIn f oo = some r) := by
  cases h with
  | @exc a _ n e =>
    obtain ⟨⟨oe, vs, h1, h2, h3⟩, _, _⟩ := I.hok a _ e
    exact ⟨a, oe, none, rfl, ⟨h1, h2.1, by unfold PySem.W.notCls; rw [h3] <;> rfl, by rw [h2.2]; trivial⟩, .inl ⟨rfl, rfl⟩⟩
  | @excf a dx _ vs _ n e n2 e2 r =>
    obtain ⟨⟨oe, ws, h1, h2, h3⟩, _, _⟩ := I.hok a _ e
    obtain ⟨mA, hns, hr⟩ := (show ObjOk X.prog X.w H s.heap dx (.xd vs) from I.hok dx _ e2)
    obtain ⟨oo, ho, hl⟩ := lookIn_ns hns
    exact ⟨a, oe, some oo, rfl, ⟨h1, h2.1, by unfold PySem.W.notCls; rw [h3] <;> rfl, by rw [h2.2]; exact ho⟩, .inr ⟨oo, vs, rfl, r, fun f => ⟨by show RelO _ ((PySem.W.lookIn f oo).getD none); rw [hl]; exact hr f, _, hl f⟩⟩⟩
theorem call_isX {T : XT} {bs : List String} (F : XF X.K T bs) : CallR X (.builtin "isinstance") (lCR X.K (gIsX T bs)) := by
  intro pins s σ H xs us Q I rx ⟨O, ds, P, tr, ha, hg, hP⟩
  unfold gIsX at hg
  split at hg
  · rename_i c fs y
    obtain ⟨⟨h1, h2⟩, hg⟩ := hg
    cases ha with
    | cons h a => cases a with
      | cons h' a =>
        cases a
        cases h'
        obtain ⟨u1, u2, rfl, r1, r2⟩ := vals2 rx
        obtain ⟨e, ox, od, rfl, J, _⟩ := exc_inst I h
        cases (show u1 = Value.ref e from r1)
        cases (show u2 = Value.ref (He.ga X.K y) from r2)
        exact PySem.W.kia_one (UXc.kitx_excD (F.c c h1)) I.kIn J (F.kit c (.own y) h1 h2) (fun z => nomatch z) fun tk => ⟨.bl _, H, I.tok tk, rfl, hP _ hg _ _ (Same.refl _) (.bl _)⟩
  · rename_i c fs n
    obtain ⟨⟨h1, h2⟩, hg⟩ := hg
    cases ha with
    | cons h a => cases a with
      | cons h' a =>
        cases a
        cases h'
        obtain ⟨u1, u2, rfl, r1, r2⟩ := vals2 rx
        obtain ⟨e, ox, od, rfl, J, _⟩ := exc_inst I h
        cases (show u1 = Value.ref e from r1)
        cases (show u2 = Value.type n from r2)
        exact PySem.W.kia_one (UXc.kitx_excD (F.c c h1)) I.kIn J (F.kit c (.blt n) h1 h2) (fun z => nomatch z) fun tk => ⟨.bl _, H, I.tok tk, rfl, hP _ hg _ _ (Same.refl _) (.bl _)⟩
  · rename_i c fs cs
    split at hg
    · rename_i ks e
      obtain ⟨⟨h1, h2⟩, hg⟩ := hg
      cases ha with
      | cons h a => cases a with
        | cons h' a =>
          cases a
          cases h' with
          | @tup tp ys _ l a' =>
            obtain ⟨u1, u2, rfl, r1, r2⟩ := vals2 rx
            obtain ⟨ea, ox, od, rfl, J, _⟩ := exc_inst I h
            cases (show u1 = Value.ref ea from r1)
            cases (show u2 = Value.ref tp from r2)
            have kk := kitAny_X F h1 ks h2
            have pc := clOf_ok e a'
            rcases l with l | ⟨o, its, n, k1, k2, k3, _, k5⟩
            · obtain ⟨_, its, rv, o, q1, q2, n, q3⟩ := (show ObjOk X.prog X.w H s.heap tp (.tup ys) from I.hok tp _ l.2)
              have e3 := ClsV.all pc rv
              subst e3
              obtain ⟨oc, od', dt, sl⟩ := o
              simp only at q2 q3
              subst q2 q3
              exact PySem.W.kia_tup (UXc.kitx_excD (F.c c h1)) I.kIn J q1 kk (fun z => nomatch z) fun tk => ⟨.bl _, H, I.tok tk, rfl, hP _ hg _ _ (Same.refl _) (.bl _)⟩
            · obtain ⟨oc, od', dt, sl⟩ := o
              simp only at k2 k3
              subst k2 k3
              have e3 := ClsV.all pc k5
              have k1' := I.kIn _ _ k1
              have q1 : s.heap.get? tp = some ⟨.type "tuple", od', .seq (ks.map (Cn.val X.K)).toArray n, sl⟩ := by rw [k1', ← e3]
              exact PySem.W.kia_tup (UXc.kitx_excD (F.c c h1)) I.kIn J q1 kk (fun z => nomatch z) fun tk => ⟨.bl _, H, I.tok tk, rfl, hP _ hg _ _ (Same.refl _) (.bl _)⟩
    · exact hg.elim
  · exact hg.elim
end
section
variable {X : Cx} {O0 : Ad} {H0 : Hp} {e : Expr} {ue : UE} {pos : Pos}
/-- a class of the module, by its name -/
theorem up_cls {x : Str} (hg : Gl X x) (hm : X.mg x = some (.ref (He.ga X.K x))) (hdb : (x == ("__debug__" : Str)) = false := by decide) : UPE X O0 H0 (.Name x pos) (uC (.cls x)) :=
  up_glob hg hm (v := .ref (He.ga X.K x)) rfl (fun _ _ => .cls x) hdb
end
theorem boot_LookupError : bootBuiltins "LookupError" = some (.type "LookupError") := by decide +kernel
theorem boot_RuntimeError : bootBuiltins "RuntimeError" = some (.type "RuntimeError") := by decide +kernel

/-! ### the head, with facts about classes -/
abbrev AlX : Type := He.AlD × Bool
def obsX (fa : List He.Fa) (fn : List He.DefD) (T : XT) (bs : List String) (K : PySem.W.Frag) : AlX := (He.obsD fa fn K, xfB K T bs)
def SaysX (fa : List He.Fa) (fn : List He.DefD) (T : XT) (bs : List String) (K : PySem.W.Frag) : Prop := obsX fa fn T bs K = (He.valD fn, true)
def obsXG (n : Nat) (fa : List He.Fa) (fn : List He.DefD) (T : XT) (bs : List String) (g : Addr → Option Obj) : AlX := obsX fa fn T bs (He.frG g (He.asD g n))
def hookX (n : Nat) (fa : List He.Fa) (fn : List He.DefD) (T : XT) (bs : List String) : PySem.W.Hook where
  α := AlX
  obs := fun s => obsXG n fa fn T bs s.heap.get?
  val := fun _ => (He.valD fn, true)
  says := fun _ h => ∃ K : PySem.W.Frag, K.In h ∧ SaysX fa fn T bs K
  of := fun _ _ e => ⟨_, He.frG_in, e⟩
  keeps := fun _ _ _ ⟨K, hK, c⟩ k => ⟨K, PySem.W.Frag.In.keeps hK k, c⟩
theorem obsXG_eq {n : Nat} {fa : List He.Fa} {fn : List He.DefD} {T : XT} {bs : List String} {g : Addr → Option Obj} {s : Shared} (h : ∀ a, g a = s.heap.get? a) : obsXG n fa fn T bs g = (hookX n fa fn T bs).obs s := by
  have e : g = s.heap.get? := funext h
  rw [e] <;> rfl
theorem SaysX.d {fa : List He.Fa} {fn : List He.DefD} {T : XT} {bs : List String} {K : PySem.W.Frag} (c : SaysX fa fn T bs K) : He.SaysD fa fn K := congrArg (fun z : AlX => z.1) c
theorem SaysX.x {fa : List He.Fa} {fn : List He.DefD} {T : XT} {bs : List String} {K : PySem.W.Frag} (c : SaysX fa fn T bs K) : XF K T bs := xfB_ok (congrArg (fun z : AlX => z.2) c)
end U
namespace U
open PySem PySem.Spec L2
open PyProof.Rows hiding St
/-- the names of a clause -/
inductive CNs (X : Cx) : List Expr → List Cn → Prop
  | nil : CNs X [] []
  | own {x : Str} {p : Pos} {es : List Expr} {ks : List Cn} (hg : Gl X x) (hd : (x == ("__debug__" : Str)) = false) (hm : X.mg x = some (.ref (He.ga X.K x))) (t : CNs X es ks) : CNs X (.Name x p :: es) (.own x :: ks)
  | blt {x : Str} {n : String} {p : Pos} {es : List Expr} {ks : List Cn} (hg : Gl X x) (hd : (x == ("__debug__" : Str)) = false) (hm : X.mg x = none) (hv : bootBuiltins x = some (.type n)) (hn : x ≠ "__name__") (t : CNs X es ks) : CNs X (.Name x p :: es) (.blt n :: ks)
theorem CNs.paired {X : Cx} {es : List Expr} {ks : List Cn} (h : CNs X es ks) : Paired (fun e c => ∃ x q, e = Expr.Name x q ∧ Names X x c) es (ks.map (Cn.val X.K)) := by
  induction h with
  | nil => exact .nil
  | own hg hd hm t ih => exact .cons ⟨_, _, rfl, hg, hd, .inl hm⟩ ih
  | blt hg hd hm hv hn t ih => exact .cons ⟨_, _, rfl, hg, hd, .inr ⟨hm, hv, hn⟩⟩ ih
theorem CNs.tup {X : Cx} {es : List Expr} {ks : List Cn} {k : Nat} {p : Pos} (h : CNs X es ks) (hz : ks.length ≤ 1000) : CTest X (.Tuple es k p) (ks.map (Cn.val X.K)) :=
  .tup (by rw [List.length_map, sizeLine_eq]; omega) h.paired
theorem CNs.one {X : Cx} {x : Str} {p : Pos} {c : Cn} (h : CNs X [.Name x p] [c]) : CTest X (.Name x p) ([c].map (Cn.val X.K)) := by
  cases h with
  | own hg hd hm t => exact .one ⟨hg, hd, .inl hm⟩
  | blt hg hd hm hv hn t => exact .one ⟨hg, hd, .inr ⟨hm, hv, hn⟩⟩
end U
namespace U
open PySem PySem.Spec L2
open PyProof.Rows hiding St
section
variable {sl : List Sl} {pn p : PenT} {n fu : Nat} {E : UEnds} {W : WU} {m : Cn → Bool} {i : Nat} {ub : WU → US} {us : US} {c : Cn} {f : Option (List (Str × D))} {ρ : Ro}
def kTry (m : Cn → Bool) (i : Nat) (us : US) (E : UEnds) (pn : PenT) : WU := fun x ρ1 => ρ1.pen = pn ∧ m x.cls = true ∧ us (behindX i E) (ρ1.put i (.dat (.exc x.cls (x.fld.getD []))))
theorem sTry : uTry m i ub us E ⟨sl, pn, n⟩ = (noOwns sl = true ∧ ub (kTry m i us E pn) E ⟨sl, pn, n⟩) := id rfl
theorem sTry1 : kTry m i us E pn ⟨c, f⟩ ⟨sl, p, n⟩ = (p = pn ∧ m c = true ∧ us (behindX i E) ⟨sl.set i (.dat (.exc c (f.getD []))), p, n⟩) := id rfl
theorem sTryN : (behindX i E).nx ⟨sl, pn, n⟩ = E.nx ⟨sl.set i .emp, pn, n⟩ := id rfl
theorem sTryR : (behindX i E).rt = E.rt := id rfl
theorem sTryR2 : (behindX i E).rf = E.rf := id rfl
theorem sTryB : (behindX i E).bk ⟨sl, pn, n⟩ = E.bk ⟨sl.set i .emp, pn, n⟩ := id rfl
theorem sTryC : (behindX i E).ct ⟨sl, pn, n⟩ = E.ct ⟨sl.set i .emp, pn, n⟩ := id rfl
theorem sRaise : uRaise c W E ⟨sl, pn, n⟩ = W ⟨c, none⟩ ⟨sl, pn, n⟩ := id rfl
theorem nOw0 : noOwns [] = true := id rfl
theorem nOw1 {r : List Sl} : noOwns (.emp :: r) = noOwns r := id rfl
theorem nOw2 {d : D} {r : List Sl} : noOwns (.dat d :: r) = noOwns r := id rfl
theorem fld0 : (none : Option (List (Str × D))).getD [] = [] := id rfl
theorem fld1 {l : List (Str × D)} : (some l).getD [] = l := id rfl
variable {T : XT} {bs : List String} {a b : Str} {fs : List (Str × D)} {Q : D → Prop} {k : String} {cs : List D}
theorem xIsX1 : gIsX T bs [.exc (.own a) fs, .cls b] Q = ((inX T bs (.own a) = true ∧ inX T bs (.own b) = true) ∧ Q (.bl (subC T (.own a) (.own b)))) := id rfl
theorem xIsX2 : gIsX T bs [.exc (.own a) fs, .ty k] Q = ((inX T bs (.own a) = true ∧ inX T bs (.blt k) = true) ∧ Q (.bl (subC T (.own a) (.blt k)))) := id rfl
theorem xIsX3 : gIsX T bs [.exc (.own a) fs, .tup cs] Q ↔ ∃ ks, clOf cs = some ks ∧ (inX T bs (.own a) = true ∧ ks.all (inX T bs) = true) ∧ Q (.bl (ks.any (subC T (.own a)))) := by
  show (match clOf cs with | some ks => (inX T bs (.own a) = true ∧ ks.all (inX T bs) = true) ∧ Q (.bl (ks.any (subC T (.own a)))) | none => False) ↔ _
  cases clOf cs with
  | none => exact ⟨fun h => h.elim, fun ⟨_, e, _⟩ => by cases e⟩
  | some ks => exact ⟨fun h => ⟨ks, rfl, h⟩, fun ⟨_, e, h⟩ => by cases e; exact h⟩
end
theorem xIsNotX {c : Cn} {fs : List (Str × D)} {Q : D → Prop} : gIsNot (.exc c fs) .non Q = Q (.bl true) := id rfl
theorem xIsNX {c : Cn} {fs : List (Str × D)} {Q : D → Prop} : gIs (.exc c fs) .non Q = Q (.bl false) := id rfl
end U

set_option Elab.async false
set_option linter.all false
set_option maxRecDepth 100000
set_option maxHeartbeats 4000000
/-! dicts of one's own, .items(), targets within targets, sorted pairs. -/
namespace U
open PySem PySem.Spec L2
open PyProof.Rows hiding St

/-! ### a dict of one's own -/
def putD (es : List (Key × D)) (k : Key) (d : D) : List (Key × D) :=
  if (es.any fun e => decide (e.1 = k)) = true then es.map (fun e => if e.1 = k then (e.1, d) else e) else es ++ [(k, d)]
def valD (es : List (Key × D)) (k : Key) : Option D := (es.find? fun e => decide (e.1 = k)).map (·.2)
def dK : D → Option Key
  | .int i => some (.inl i)
  | .str x => some (.inr x)
  | _ => none
def kDt : Key → D
  | .inl i => .int i
  | .inr x => .str x
section
variable {K : PySem.W.Frag} {O : Ad} {H : Hp}
theorem RpK.any {kvs : List (Key × V)} {es : List (Key × D)} (h : RpK K O H kvs es) (k : Key) : (kvs.any fun kv => decide (kv.1 = k)) = es.any fun e => decide (e.1 = k) := by
  induction es generalizing kvs with
  | nil => cases h; rfl
  | cons e es ih => cases h with
    | cons a b => rw [List.any_cons, List.any_cons, ih b]
theorem RpK.repl {kvs : List (Key × V)} {es : List (Key × D)} {v : V} {d : D} (h : RpK K O H kvs es) (k : Key) (g : Rp K O H v d) : RpK K O H (kvs.map fun kv => if kv.1 = k then (kv.1, v) else kv) (es.map fun e => if e.1 = k then (e.1, d) else e) := by
  induction es generalizing kvs with
  | nil => cases h; exact .nil
  | cons e es ih => cases h with
    | @cons j x vs y ds a b =>
      rw [List.map_cons, List.map_cons]
      by_cases q : j = k
      · rw [if_pos q, if_pos q]
        exact .cons g (ih b)
      · rw [if_neg q, if_neg q]
        exact .cons a (ih b)
theorem RpK.snoc {kvs : List (Key × V)} {es : List (Key × D)} {v : V} {d : D} (h : RpK K O H kvs es) (k : Key) (g : Rp K O H v d) : RpK K O H (kvs ++ [(k, v)]) (es ++ [(k, d)]) := by
  induction es generalizing kvs with
  | nil => cases h; exact .cons g .nil
  | cons e es ih => cases h with
    | cons a b => exact .cons a (ih b)
theorem RpK.put {kvs : List (Key × V)} {es : List (Key × D)} {v : V} {d : D} (h : RpK K O H kvs es) (k : Key) (g : Rp K O H v d) : RpK K O H (putK kvs k v) (putD es k d) := by
  unfold putK putD
  rw [h.any k]
  split
  · exact h.repl k g
  · exact h.snoc k g
theorem RpK.length {kvs : List (Key × V)} {es : List (Key × D)} (h : RpK K O H kvs es) : kvs.length = es.length := by
  induction es generalizing kvs with
  | nil => cases h; rfl
  | cons e es ih => cases h with
    | cons a b => rw [List.length_cons, List.length_cons, ih b]
theorem RpK.got {kvs : List (Key × V)} {es : List (Key × D)} {i : Nat} {k : Key} {v : V} (h : RpK K O H kvs es) (e : kvs[i]? = some (k, v)) : ∃ d, es[i]? = some (k, d) ∧ Rp K O H v d := by
  induction es generalizing kvs i with
  | nil => cases h; simp at e
  | cons x es ih => cases h with
    | cons a b => cases i with
      | zero => cases (Option.some.inj e); exact ⟨_, rfl, a⟩
      | succ i =>
        obtain ⟨d, e1, r⟩ := ih b (by simpa using e)
        exact ⟨d, by simpa using e1, r⟩
theorem rp_key {v : V} {d : D} {k : Key} (h : Rp K O H v d) (e : dK d = some k) : v = kV k := by
  cases h with
  | int i => cases e; rfl
  | str x => cases e; rfl
  | _ => cases e
end
/-- x = {} -/
def uOwnD (i : Nat) : US := fun E ρ => ∀ a, E.nx (ρ.put i (.own a (.d [])))
/-- x[k] = e, x a dict of one's own -/
def uDSet (i : Nat) (ui u : UE) : US := fun E ρ => match ρ.sl[i]? with
  | some (.own a (.d es)) => u ρ fun d n => ui (ρ.f n) fun k m => match dK k with
    | some key => es.length < sizeLine ∧ E.nx ((ρ.f m).put i (.own a (.d (putD es key d))))
    | none => False
  | _ => False
/-- ahead of a statement: the dict in slot i is let go -/
def uThawD (i : Nat) (u : US) : US := fun E ρ => match ρ.sl[i]? with
  | some (.own _ (.d es)) => u E (ρ.put i (.dat (.dic es)))
  | _ => False
section
variable {X : Cx} {O0 : Ad} {H0 : Hp} {a b c e : Expr} {ua ub uc : UE} {pos p : Pos} {W : WU}
theorem us_ownD {i : Nat} {x : Str} {p' : Pos} (hN : X.N.Nodup) (hi : X.N[i]? = some x) (hx : Loc X.env.scope x) (hs : swapsWith (.Dict [] [] p) (some (.Name x p')) pos.line X.env = pure false := by rfl) (hf : X.fn x = true ∨ X.env.scope.names.lookup x = some .local := by first | exact .inl rfl | exact .inr rfl | assumption) :
    UPS X O0 H0 (.Assign [.Name x p'] (.Dict [] [] p) pos) (uOwnD i) := PS.impL (ps_set hN hi hx (te := tDNewK) pe_dnewK hs hf) fun σ H D hl ⟨ρ, E, r, hu, hn, hb, hc, hr⟩ => by
  intro q hq
  have w : New X.K O0 ρ H ρ.fuel (.d []) q (upd H q (.dK [])) := ⟨hq, .of (Same.new hq), fun p c e => by
    obtain ⟨ns, t, z, h1, h2, h3, h4⟩ := r.pen p c e
    exact ⟨ns, t, z, Same.new hq _ _ h1, Same.new hq _ _ h2, (fun y => y.elim h3 fun e => (by rw [e, hq] at h2; cases h2)), h4⟩, ⟨[], upd_same, .nil⟩⟩
  obtain ⟨r', t'⟩ := w.put r (i := i) (by rw [hl]; exact (List.getElem?_eq_some_iff.mp hi).1)
  exact hn _ (hu q) _ _ r' t'
theorem us_dset {i : Nat} {ui : UE} {ve : Expr} {p2 pos' : Pos} {x : Str} (hu : X.A.units + 1 < cLine) (hp : PE X (.Name x p2) (tVar i)) (hi : UPE X O0 H0 e ui) (hv : UPE X O0 H0 ve ua) (hs : swapsWith ve (some (.Subscript (.Name x p2) e pos')) pos.line X.env = pure false := by rfl) :
    UPS X O0 H0 (.Assign [.Subscript (.Name x p2) e pos'] ve pos) (uDSet i ui ua) := PS.imp (ps_dput hu hp hi hv hs) fun σ H D ⟨ρ, E, r, hu, hn, _⟩ => by
  dsimp only [uDSet] at hu
  split at hu
  · rename_i a es q
    refine ⟨ρ, _, r, hu, fun d n hd v H1 r1 f1 p1 => ?_⟩
    obtain ⟨s1, _⟩ := r1.own i a _ q
    refine ⟨_, s1, ρ.f n, _, r1, hd, fun k m hk w H2 r2 f2 p2 => ?_⟩
    obtain ⟨_, _, _, _, ys, hy, ry⟩ := r2.own i a (.d es) q
    split at hk
    · rename_i key ek
      have ew := rp_key p2 ek
      subst ew
      refine ⟨a, _, rfl, .k hy (by rw [ry.length]; exact hk.1), ?_⟩
      have pv := p1.keep (Frm.keepsO (ρ := ρ) f2)
      obtain ⟨r3, t3⟩ := r2.setO (ρ := ρ.f m) (o0 := .dK (putK ys key v)) q (es := .d (putD es key d)) ⟨_, rfl, ry.put key pv⟩
      exact hn _ hk.2 _ _ r3 (((Tr.frm f1).trans (Tr.frm (ρ := ρ.f n) f2)).trans t3)
    · exact hk.elim
  · exact hu.elim
theorem R.thawD {K : PySem.W.Frag} {σ : L2.St} {H : Hp} {ρ : Ro} (r : R K O0 H0 σ H ρ) {i : Nat} {a : Addr} {es : List (Key × D)} {kvs : List (Key × V)} {o : Obj} (h : ρ.sl[i]? = some (.own a (.d es))) (hx : H a = some (.dK kvs)) (rx : RpK K (OO O0 ρ) H kvs es) :
    R K O0 H0 σ (upd H a (.frz o (.dK kvs))) (ρ.put i (.dat (.dic es))) ∧ Tr O0 ρ H (ρ.put i (.dat (.dic es))) (upd H a (.frz o (.dK kvs))) := by
  obtain ⟨s1, nO, n0, np, _⟩ := r.own i a _ h
  have hO : OO O0 ρ a := .inr (.inr ⟨i, _, h⟩)
  have le : ∀ b, OO O0 (ρ.put i (.dat (.dic es))) b → OO O0 ρ b := fun b h => OO.put_dat h
  have na : ¬ OO O0 (ρ.put i (.dat (.dic es))) a := fun z => by
    rcases z with z | z | ⟨j, fs, z⟩
    · exact nO z
    · exact np z
    · rcases set_some z with ⟨_, e2, _⟩ | ⟨e1, e2⟩
      · cases e2
      · exact e1 (r.inj i j a _ fs h e2)
  have k0 : Keeps (OO O0 ρ) (OO O0 (ρ.put i (.dat (.dic es)))) H (upd H a (.frz o (.dK kvs))) := ⟨fun b u q nb => by
    rw [upd_ne (fun e => nb (by rw [e]; exact hO))]
    exact q, fun b u q nb z => nb (le b z)⟩
  have ra : Rp K (OO O0 (ρ.put i (.dat (.dic es)))) (upd H a (.frz o (.dK kvs))) (.ref a) (.dic es) := .dic na upd_same (RpK.keep k0 rx)
  refine ⟨⟨?_, fun j e q => ?_, fun j c fs q => ?_, fun j k c es fs q1 q2 => ?_, fun b u q nb => ?_, fun b z => ?_, fun p c e => ?_⟩, ⟨k0, rfl⟩⟩
  · show _ = (ρ.sl.set i _).length
    rw [List.length_set]; exact r.len
  · rcases set_some q with ⟨e1, e2, _⟩ | ⟨_, e2⟩
    · subst e1
      cases e2
      exact ⟨.ref a, s1, ra⟩
    · obtain ⟨v, h1, h2⟩ := r.dat j e e2
      exact ⟨v, h1, h2.keep k0⟩
  · rcases set_some q with ⟨_, e2, _⟩ | ⟨e1, e2⟩
    · cases e2
    · obtain ⟨h1, h2, h3, h4, h5⟩ := r.own j c fs e2
      have ne : c ≠ a := fun e => e1 (r.inj i j a _ fs h (by rw [← e]; exact e2))
      exact ⟨h1, h2, h3, h4, h5.keep k0 fun o q => by rw [upd_ne ne]; exact q⟩
  · rcases set_some q1 with ⟨_, e2, _⟩ | ⟨_, e2⟩
    · cases e2
    · rcases set_some q2 with ⟨_, e4, _⟩ | ⟨_, e4⟩
      · cases e4
      · exact r.inj j k c es fs e2 e4
  · rw [upd_ne (fun e => by rw [e, n0] at q; cases q)]
    exact r.fr b u q nb
  · by_cases e : b = a
    · rw [e, upd_same]; simp
    · rw [upd_ne e]; exact r.tr b (le b z)
  · obtain ⟨ns, t, q, h1, h2, h3, h4⟩ := r.pen p c e
    have pa : p ≠ a := fun z => np ⟨c, by rw [← z]; exact e⟩
    have ca : c.c ≠ a := fun z => h3 (by rw [z]; exact hO)
    exact ⟨ns, t, q, by rw [upd_ne pa]; exact h1, by rw [upd_ne ca]; exact h2, fun z => h3 (le _ z), h4⟩
theorem us_thawD {i : Nat} {st : Stmt} {u : US} (h : UPS X O0 H0 st u) : UPS X O0 H0 st (uThawD i u) := ⟨fun pins s σ H D I ⟨ρ, E, r, hu, hn, hb, hc, hr⟩ => by
  dsimp only [uThawD] at hu
  split at hu
  · rename_i a es q
    obtain ⟨_, _, _, _, kvs, hx, rx⟩ := r.own i a (.d es) q
    obtain ⟨od, I2⟩ := I.lock hx (by exact True.intro)
    obtain ⟨r1, t1⟩ := r.thawD (o := od) q hx rx
    exact h.run pins s σ _ D I2 ⟨_, E, r1, hu, fun ρ2 h2 σ2 H2 r2 t2 => hn ρ2 h2 σ2 H2 r2 (t1.trans t2), fun ρ2 h2 σ2 H2 r2 t2 => hb ρ2 h2 σ2 H2 r2 (t1.trans t2), fun ρ2 h2 σ2 H2 r2 t2 => hc ρ2 h2 σ2 H2 r2 (t1.trans t2), hr⟩
  · exact hu.elim⟩
/-! ### .items() -/
def itemsD (es : List (Key × D)) : List D := es.map fun e => .tup [kDt e.1, e.2]
def uiItems (u : UE) : UI := fun ρ Q => u ρ fun d n => match d with
  | .dic es => Q (itemsD es) n
  | _ => False
theorem rp_kV {K : PySem.W.Frag} {O : Ad} {H : Hp} : ∀ k : Key, Rp K O H (kV k) (kDt k)
  | .inl i => .int i
  | .inr x => .str x
theorem ui_items {elts : List Expr} {kk : Nat} {tpos apos cpos : Pos} (h : UPE X O0 H0 e ua) (hbase : attributeBase e "items" X.env (eval e X.env) = eval e X.env := by rfl) (hline : (apos.endLine == cpos.line) = true := by rfl) :
    UPI X O0 H0 (.Tuple elts kk tpos) (.Call (.Attribute e "items" apos) [] [] cpos) (uiItems ua) := PI.imp (pi_items h hbase hline) fun σ H Q ⟨ρ, P, r, hu, hP⟩ => by
  refine ⟨ρ, _, r, hu, fun d n hd v H1 r1 f1 p1 => ?_⟩
  cases p1 with
  | @dic a o kvs es nO ha rk =>
    refine ⟨a, o, kvs, rfl, ha, hP _ n hd _ H1 r1 f1 fun O2 H2 k t => ?_⟩
    have ha2 := k.hp _ _ ha nO
    have rk2 := RpK.keep k rk
    have l : (itemsD es).length = kvs.length := by unfold itemsD; rw [List.length_map, rk.length]
    refine ⟨fun i d e => ⟨⟨ha2, ?_⟩, fun x H3 ⟨T, key, w, e1, ex, hT, eH⟩ => ?_⟩, fun i hi => ⟨ha2, by rw [← l]; exact hi⟩⟩
    · rw [← l]; exact (List.getElem?_eq_some_iff.mp e).1
    · subst ex eH
      obtain ⟨y, e2, ry⟩ := rk2.got e1
      have ed : d = .tup [kDt key, y] := by
        unfold itemsD at e
        rw [List.getElem?_map, e2] at e
        exact (Option.some.inj e).symm
      subst ed
      exact new_pair t hT (rp_kV key) ry
  | _ => exact hd.elim
/-! ### targets within targets -/
inductive Pt where | n (i : Nat) | t (ps : List Pt)
mutual
def ugP : Pt → UG
  | .n i => ugN i
  | .t ps => fun d ρ Q => match d with
    | .tup ds => ugPs ps ds ρ Q
    | _ => False
def ugPs : List Pt → List D → Ro → (Ro → Prop) → Prop
  | [], [], ρ, Q => Q ρ
  | p :: ps, d :: ds, ρ, Q => ugP p d ρ fun ρ' => ugPs ps ds ρ' Q
  | _, _, _, _ => False
end
mutual
def gPat (K : PySem.W.Frag) : Pt → TG
  | .n i => gName i
  | .t ps => gTup K ps.length (gPats K ps)
def gPats (K : PySem.W.Frag) : List Pt → TGs
  | [] => gNil
  | p :: ps => gCons (gPat K p) (gPats K ps)
end
mutual
theorem gp_ok : ∀ (p : Pt) (v : V) (σ : L2.St) (H : Hp) (Q : L2.St → Hp → Prop), lG X.K O0 H0 (ugP p) v σ H Q → gPat X.K p v σ H Q
  | .n i, v, σ, H, Q, h => gn_ok (by simpa only [ugP] using h)
  | .t ps, v, σ, H, Q, h => by
    obtain ⟨ρ, d, P, r, rp, hg, hP⟩ := h
    simp only [ugP] at hg
    cases rp with
    | @tup a xs ds l ra =>
      show gTup X.K ps.length (gPats X.K ps) _ _ _ _
      refine ⟨a, xs, rfl, l.sq, ?_, gps_ok ps ds xs ρ P σ H Q r ra hg hP⟩
      rw [ra.length]
      exact ugPs_len ps ds ρ P hg
    | _ => exact hg.elim
theorem ugPs_len : ∀ (ps : List Pt) (ds : List D) (ρ : Ro) (P : Ro → Prop), ugPs ps ds ρ P → ds.length = ps.length
  | [], [], _, _, _ => rfl
  | .n i :: ps, d :: ds, ρ, P, h => by
    simp only [ugPs, ugP] at h
    have := ugPs_len ps ds _ P h
    simp [this]
  | .t qs :: ps, d :: ds, ρ, P, h => by
    simp only [ugPs] at h
    obtain ⟨ρ', h'⟩ := ugP_ex (.t qs) d ρ _ h
    have := ugPs_len ps ds ρ' P h'
    simp [this]
  | [], _ :: _, _, _, h => by simp [ugPs] at h
  | _ :: _, [], _, _, h => by simp [ugPs] at h
theorem ugP_ex : ∀ (p : Pt) (d : D) (ρ : Ro) (P : Ro → Prop), ugP p d ρ P → ∃ ρ', P ρ'
  | .n i, d, ρ, P, h => ⟨_, by simpa only [ugP, ugN] using h⟩
  | .t ps, d, ρ, P, h => by
    simp only [ugP] at h
    split at h
    · exact ugPs_ex ps _ ρ P h
    · exact h.elim
theorem ugPs_ex : ∀ (ps : List Pt) (ds : List D) (ρ : Ro) (P : Ro → Prop), ugPs ps ds ρ P → ∃ ρ', P ρ'
  | [], [], ρ, P, h => ⟨ρ, by simpa only [ugPs] using h⟩
  | p :: ps, d :: ds, ρ, P, h => by
    simp only [ugPs] at h
    obtain ⟨ρ', h'⟩ := ugP_ex p d ρ _ h
    exact ugPs_ex ps ds ρ' P h'
  | [], _ :: _, _, _, h => by simp [ugPs] at h
  | _ :: _, [], _, _, h => by simp [ugPs] at h
theorem gps_ok : ∀ (ps : List Pt) (ds : List D) (vs : List V) (ρ : Ro) (P : Ro → Prop) (σ : L2.St) (H : Hp) (Q : L2.St → Hp → Prop), R X.K O0 H0 σ H ρ → RpA X.K (OO O0 ρ) H vs ds → ugPs ps ds ρ P →
    (∀ ρ', P ρ' → ∀ σ', R X.K O0 H0 σ' H ρ' → Tr O0 ρ H ρ' H → Q σ' H) → gPats X.K ps vs σ H Q
  | [], [], _, ρ, P, σ, H, Q, r, .nil, h, hP => ⟨rfl, hP ρ (by simpa only [ugPs] using h) σ r Tr.refl⟩
  | p :: ps, d :: ds, _, ρ, P, σ, H, Q, r, .cons a b, h, hP => by
    simp only [ugPs] at h
    refine ⟨_, _, rfl, gp_ok p _ σ H _ ⟨ρ, d, _, r, a, h, fun ρ' h' σ' r' t' => ?_⟩⟩
    exact gps_ok ps ds _ ρ' P σ' H Q r' (b.keep t'.ks) h' fun ρ2 h2 σ2 r2 t2 => hP ρ2 h2 σ2 r2 (t'.trans t2)
  | [], _ :: _, _, _, _, _, _, _, _, _, h, _ => by simp [ugPs] at h
  | _ :: _, [], _, _, _, _, _, _, _, _, h, _ => by simp [ugPs] at h
end
theorem ug_pat {tg : Expr} {pt : Pt} (h : PG X tg (gPat X.K pt)) : UPG X O0 H0 tg (ugP pt) := PG.imp h fun _ _ _ _ q => gp_ok pt _ _ _ _ q
theorem pgP_n {i : Nat} {tg : Expr} (h : PG X tg (gName i)) : PG X tg (gPat X.K (.n i)) := h
theorem pgP_t {es : List Expr} {k : Nat} {ps : List Pt} (hc : X.calm = true) (h : PGs X es (gPats X.K ps))
    (hn : (assignEach es X.env).length = ps.length := by rfl) (hst : (assignEach es X.env).findIdx? (·.1) = none := by rfl) : PG X (.Tuple es k pos) (gPat X.K (.t ps)) := pg_tup hc h hn hst
theorem pgsP_nil : PGs X [] (gPats X.K []) := pgs_nil
theorem pgsP_cons {es : List Expr} {p : Pt} {ps : List Pt} (h1 : PG X e (gPat X.K p)) (h2 : PGs X es (gPats X.K ps)) (hs : (assignEach (e :: es) X.env).map (·.2) = assign e X.env :: (assignEach es X.env).map (·.2) := by rfl) : PGs X (e :: es) (gPats X.K (p :: ps)) := pgs_cons h1 h2 hs
end
/-! ### sorted, pairs of ints -/
def pD (p : Int × Int) : D := .tup [.int p.1, .int p.2]
def leP (a b : Int × Int) : Prop := a.1 < b.1 ∨ (a.1 = b.1 ∧ a.2 ≤ b.2)
def pairD : D → Option (Int × Int)
  | .tup [.int a, .int b] => some (a, b)
  | _ => none
def pairsD : List D → Option (List (Int × Int))
  | [] => some []
  | d :: ds => match pairD d, pairsD ds with
    | some p, some ps => some (p :: ps)
    | _, _ => none
theorem pairD_eq {d : D} {p : Int × Int} (h : pairD d = some p) : d = pD p := by
  unfold pairD at h
  split at h
  · cases h; rfl
  · cases h
theorem pairsD_eq : ∀ {ds : List D} {ps : List (Int × Int)}, pairsD ds = some ps → ds = ps.map pD
  | [], _, h => by cases h; rfl
  | d :: ds, ps, h => by
    unfold pairsD at h
    split at h
    · rename_i p qs e1 e2
      cases h
      rw [pairD_eq e1, pairsD_eq e2]
      rfl
    · cases h
theorem pairsD_map : ∀ ps : List (Int × Int), pairsD (ps.map pD) = some ps
  | [] => rfl
  | p :: ps => by
    show (match pairD (pD p), pairsD (ps.map pD) with | some p, some ps => some (p :: ps) | _, _ => none) = _
    rw [pairsD_map ps]
    rfl
def gSortP : GL
  | [.lst ds], Q => match pairsD ds with
    | some ps => ∀ qs : List (Int × Int), qs.Perm ps → qs.Pairwise leP → Q (.lst (qs.map pD))
    | none => False
  | _, _ => False
section
variable {X : Cx}
theorem rp_pair {K : PySem.W.Frag} {O : Ad} {H : Hp} {v : V} {p : Int × Int} (h : Rp K O H v (pD p)) : ∃ a, v = .ref a ∧ Tk K O H a [.int p.1, .int p.2] := by
  cases h with
  | tup l a => cases a with
    | cons a1 a => cases a with
      | cons a3 a =>
        cases a
        cases a1
        cases a3
        exact ⟨_, rfl, l⟩
theorem pair_uniq {pins : List (Addr × Obj)} {σ : L2.St} {H : Hp} {s : Shared} {O : Ad} {v : V} {p q : Int × Int} (I : Inv X pins σ H s) (h : Rp X.K O H v (pD p)) (g : Rp X.K O H v (pD q)) : p = q := by
  obtain ⟨b, rfl, l⟩ := rp_pair h
  obtain ⟨b', e, l2⟩ := rp_pair g
  cases e
  obtain ⟨its, rv, ⟨ob, g1, g2, m, g3⟩, _⟩ := I.tuple l.sq
  obtain ⟨its2, rv2, ⟨ob2, k1, k2, m2, k3⟩, _⟩ := I.tuple l2.sq
  rw [g1] at k1
  cases k1
  rw [g3] at k3
  injection k3 with e1 e2
  obtain ⟨u1, u2, e3, ⟨t1, rfl⟩, ⟨t2, rfl⟩⟩ := vals2 rv
  obtain ⟨w1, w2, e4, ⟨t3, rfl⟩, ⟨t4, rfl⟩⟩ := vals2 rv2
  subst e3 e4
  have e5 := congrArg Array.toList e1
  simp at e5
  exact Prod.ext e5.1.1 e5.2.1
noncomputable def keyP (K : PySem.W.Frag) (O : Ad) (H : Hp) (v : V) : Int × Int := by
  classical
  exact if h : ∃ p, Rp K O H v (pD p) then h.choose else (0, 0)
theorem keyP_ok {K : PySem.W.Frag} {O : Ad} {H : Hp} {v : V} (h : ∃ p, Rp K O H v (pD p)) : Rp K O H v (pD (keyP K O H v)) := by
  unfold keyP
  rw [dif_pos h]
  exact h.choose_spec
theorem rpA_mem {K : PySem.W.Frag} {O : Ad} {H : Hp} : ∀ {vs : List V} {ps : List (Int × Int)}, RpA K O H vs (ps.map pD) → ∀ v ∈ vs, ∃ p, Rp K O H v (pD p)
  | [], [], .nil, v, hv => by cases hv
  | _ :: _, p :: ps, .cons a b, v, hv => by
    rcases List.mem_cons.mp hv with rfl | hv
    · exact ⟨p, a⟩
    · exact rpA_mem b v hv
theorem rpA_keys {pins : List (Addr × Obj)} {σ : L2.St} {H : Hp} {s : Shared} {O : Ad} (I : Inv X pins σ H s) : ∀ {vs : List V} {ps : List (Int × Int)}, RpA X.K O H vs (ps.map pD) → vs.map (keyP X.K O H) = ps
  | [], [], .nil => rfl
  | v :: vs, p :: ps, .cons a b => by
    rw [List.map_cons, rpA_keys I b, pair_uniq I (keyP_ok ⟨p, a⟩) a]
theorem rpA_of {K : PySem.W.Frag} {O : Ad} {H : Hp} (k : V → Int × Int) : ∀ {vs : List V}, (∀ v ∈ vs, Rp K O H v (pD (k v))) → RpA K O H vs ((vs.map k).map pD)
  | [], _ => .nil
  | v :: vs, h => .cons (h v List.mem_cons_self) (rpA_of k fun w hw => h w (List.mem_cons_of_mem _ hw))
/-- cr_sortedPO with tuples of the written part among them -/
theorem cr_sortP {pins : List (Addr × Obj)} {σ : L2.St} {H : Hp} {s : Shared} {Q : VK} {us : List Value} {a : Addr} {xs : List V} {k : V → Int × Int} (I : Inv X pins σ H s) (r : Vals [V.ref a] us) (hs : SqL X.K H a xs) (hx : ∀ x ∈ xs, ∃ t, x = V.ref t ∧ SqT X.K H t [.int (k x).1, .int (k x).2])
    (q : ∀ ys p, SrtO.Srtd (ltP k) ys → SrtO.Stb (ltP k) ys xs → H p = none → Q (.ref p) (upd H p (.lst ys))) : wpAny (model X.prog X.w) X.A (PySem.call (.builtin "sorted") us) (EP X pins σ Q) X.xe s := by
  obtain ⟨its, rv, hl, hz⟩ := I.list hs
  obtain ⟨u, rfl, ru⟩ := vals1 r
  obtain rfl : u = Value.ref a := ru
  obtain ⟨e1, e2⟩ := refs_back rv fun x m => by
    obtain ⟨t, e, _⟩ := hx x m
    exact ⟨t, e⟩
  refine SrtO.sorted_pairsO (k := fun u => k (backV u)) hl.isList (by rw [← rv.length]; exact hz) (fun v hv => ?_) fun h' d out h1 h2 kp hd hn => ?_
  · obtain ⟨t, rfl⟩ := e2 v hv
    have hm : V.ref t ∈ xs := by rw [e1]; exact List.mem_map.mpr ⟨_, hv, rfl⟩
    obtain ⟨t', e, ht⟩ := hx _ hm
    cases e
    obtain ⟨its2, r2, ⟨o, ho, hc, n, hd⟩, _⟩ := I.tuple ht
    obtain ⟨u1, u2, rfl, ri, rj⟩ := vals2 r2
    obtain ⟨t1, rfl⟩ := ri
    obtain ⟨t2, rfl⟩ := rj
    exact ⟨t, o, t1, t2, n, rfl, ho, hc, hd⟩
  · have h3 : ∀ u ∈ out, ∃ a, u = Value.ref a := fun u hu => e2 u (h2.perm.mem_iff.mp hu)
    obtain ⟨n, hn⟩ := hn
    have hb : SrtO.Stb (ltP k) (out.map backV) xs := by
      rw [e1]
      exact SrtO.Stb.map (ltP_swo k) backV h2
    refine ⟨.ref d, upd H d (.lst (out.map backV)), I.laid (t' := s.toks) kp hd ⟨?_, out, n, vals_back h3, hn⟩, rfl, q _ d (SrtO.srtd_map h1) hb (I.hok.fresh hd)⟩
    rw [hb.len]
    exact hz
theorem call_SortP : CallR X (.builtin "sorted") (lCR X.K gSortP) := by
  intro pins s σ H xs us Q I rx ⟨O, ds, P, tr, ha, hg, hP⟩
  unfold gSortP at hg
  split at hg
  · split at hg
    · rename_i ps e
      cases pairsD_eq e
      cases ha with
      | cons h t =>
        cases t
        cases h with
        | lst l a =>
          have km : ∀ x, (∃ p, Rp X.K O H x (pD p)) → Rp X.K O H x (pD (keyP X.K O H x)) := fun x h => keyP_ok h
          refine cr_sortP (k := keyP X.K O H) I rx l.sq (fun x hx => ?_) fun ys p h1 h2 hp => ?_
          · have z := km x (rpA_mem a x hx)
            obtain ⟨b, e, l2⟩ := rp_pair z
            exact ⟨b, e, l2.sq⟩
          · have sm := Same.new (o := HO.lst ys) hp
            have pk : (ys.map (keyP X.K O H)).Perm ps := by
              rw [← rpA_keys I a]
              exact h2.perm.map _
            refine hP _ (hg _ pk ?_) _ _ sm (.lst ⟨nofree tr hp, upd_same⟩ ((rpA_of (keyP X.K O H) fun v hv => km v (rpA_mem a v (h2.perm.mem_iff.mp hv))).keep (.same sm)))
            refine List.pairwise_map.mpr (h1.imp fun {x y} h => ?_)
            have := SrtO.lexB_no.mp h
            unfold leP
            omega
    · exact hg.elim
  · exact hg.elim
end
end U
namespace U
open PySem PySem.Spec L2
open PyProof.Rows hiding St
section
variable {sl : List Sl} {pn : PenT} {n fu : Nat} {E : UEnds} {i : Nat} {ad : Addr} {es : List (Key × D)} {a ui : UE} {u : US} {ρ : Ro} {d : D} {Q : Ro → Prop} {L : List D → Nat → Prop}
theorem sOwnD : uOwnD i E ⟨sl, pn, n⟩ = ∀ a, E.nx ⟨sl.set i (.own a (.d [])), pn, n⟩ := id rfl
def kDSet4 (i : Nat) (ad : Addr) (es : List (Key × D)) (d : D) (E : UEnds) (ρ : Ro) : D → Nat → Prop := fun k m => match dK k with
  | some key => es.length < sizeLine ∧ E.nx ((ρ.f m).put i (.own ad (.d (putD es key d))))
  | none => False
def kDSet1 (i : Nat) (ad : Addr) (es : List (Key × D)) (ui : UE) (E : UEnds) (ρ : Ro) : D → Nat → Prop := fun d n => ui (ρ.f n) (kDSet4 i ad es d E ρ)
def kDSet (i : Nat) (ui u : UE) (E : UEnds) (ρ : Ro) : Option Sl → Prop
  | some (.own a (.d es)) => u ρ (kDSet1 i a es ui E ρ)
  | _ => False
theorem sDSet : uDSet i ui a E ρ = kDSet i ui a E ρ ρ.sl[i]? := by
  unfold uDSet kDSet kDSet1 kDSet4
  rfl
theorem sDSet1 : kDSet i ui a E ρ (some (.own ad (.d es))) = a ρ (kDSet1 i ad es ui E ρ) := id rfl
theorem sDSet2 : kDSet1 i ad es ui E ⟨sl, pn, fu⟩ d n = ui ⟨sl, pn, n⟩ (kDSet4 i ad es d E ⟨sl, pn, fu⟩) := id rfl
theorem sDSet3 {z : Int} {m : Nat} : kDSet4 i ad es d E ⟨sl, pn, fu⟩ (.int z) m = (es.length < sizeLine ∧ E.nx ⟨sl.set i (.own ad (.d (putD es (.inl z) d))), pn, m⟩) := id rfl
theorem sDSet5 {z : Str} {m : Nat} : kDSet4 i ad es d E ⟨sl, pn, fu⟩ (.str z) m = (es.length < sizeLine ∧ E.nx ⟨sl.set i (.own ad (.d (putD es (.inr z) d))), pn, m⟩) := id rfl
theorem dKi {z : Int} : dK (.int z) = some (.inl z) := id rfl
theorem dKs {z : Str} : dK (.str z) = some (.inr z) := id rfl
def kThawD (i : Nat) (u : US) (E : UEnds) (ρ : Ro) : Option Sl → Prop
  | some (.own _ (.d es)) => u E (ρ.put i (.dat (.dic es)))
  | _ => False
theorem sThawD : uThawD i u E ρ = kThawD i u E ρ ρ.sl[i]? := by
  unfold uThawD kThawD
  rfl
theorem sThawD1 : kThawD i u E ⟨sl, pn, fu⟩ (some (.own ad (.d es))) = u E ⟨sl.set i (.dat (.dic es)), pn, fu⟩ := id rfl
def kItems (L : List D → Nat → Prop) : D → Nat → Prop := fun d n => match d with
  | .dic es => L (itemsD es) n
  | _ => False
theorem iIt : uiItems a ρ L = a ρ (kItems L) := id rfl
theorem iIt1 : kItems L (.dic es) n = L (itemsD es) n := id rfl
def kPs (ps : List Pt) (ds : List D) (Q : Ro → Prop) : Ro → Prop := fun ρ' => ugPs ps ds ρ' Q
theorem gPn : ugP (.n i) d ρ Q = ugN i d ρ Q := by simp only [ugP]
theorem gPt {ps : List Pt} {ds : List D} : ugP (.t ps) (.tup ds) ρ Q = ugPs ps ds ρ Q := by simp only [ugP]
theorem gPs0 : ugPs [] [] ρ Q = Q ρ := by simp only [ugPs]
theorem gPs1 {p : Pt} {ps : List Pt} {ds : List D} : ugPs (p :: ps) (d :: ds) ρ Q = ugP p d ρ (kPs ps ds Q) := by
  show ugPs (p :: ps) (d :: ds) ρ Q = ugP p d ρ fun ρ' => ugPs ps ds ρ' Q
  simp only [ugPs]
theorem gPs2 {ps : List Pt} {ds : List D} : kPs ps ds Q ⟨sl, pn, n⟩ = ugPs ps ds ⟨sl, pn, n⟩ Q := id rfl
theorem xSortP {ps : List (Int × Int)} {Q : D → Prop} : gSortP [.lst (ps.map pD)] Q ↔ ∀ qs : List (Int × Int), qs.Perm ps → qs.Pairwise leP → Q (.lst (qs.map pD)) := by
  show (match pairsD (ps.map pD) with
    | some ps => ∀ qs : List (Int × Int), qs.Perm ps → qs.Pairwise leP → Q (.lst (qs.map pD))
    | none => False) ↔ _
  rw [pairsD_map]
end
end U

set_option Elab.async false
set_option linter.all false
set_option maxRecDepth 100000
set_option maxHeartbeats 4000000
/-! xs += ys of a list of one's own; sorted, a list of one's own. -/
namespace U
open PySem PySem.Spec L2
open PyProof.Rows hiding St
theorem set_same {α : Type} : ∀ {l : List α} {i : Nat} {x : α}, l[i]? = some x → l.set i x = l
  | [], _, _, h => by simp at h
  | a :: l, 0, x, h => by cases (Option.some.inj h); rfl
  | a :: l, i + 1, x, h => by rw [List.set_cons_succ, set_same (by simpa using h)]
section
variable {X : Cx} {O0 : Ad} {H0 : Hp} {a b c e : Expr} {ua ub uc : UE} {pos p : Pos} {W : WU}
theorem us_augL {i : Nat} {x : Str} {p' : Pos} (hN : X.N.Nodup) (hi : X.N[i]? = some x) (hx : Loc X.env.scope x) (h : UPE X O0 H0 e ua) (hf : X.fn x = true ∨ X.env.scope.names.lookup x = some .local := by first | exact .inl rfl | exact .inr rfl | assumption) :
    UPS X O0 H0 (.AugAssign (.Name x p') .Add e pos) (uExt i ua) := PS.imp (ps_aug hN hi hx h (ti := rExt2) iop_ext hf) fun σ H D ⟨ρ, E, r, hu, hn, hb, hc, hr⟩ => by
  dsimp only [uExt] at hu
  split at hu
  · rename_i l ds q
    obtain ⟨s1, _⟩ := r.own i l _ q
    refine ⟨_, s1, ρ, _, r, hu, fun d n hd v H1 r1 f1 p1 => ?_⟩
    obtain ⟨s2, _, _, _, ys, hy, ry⟩ := r1.own i l (.l ds) q
    cases p1 with
    | @lst b xs es lk ra =>
      refine ⟨l, b, ys, xs, rfl, rfl, hy, lk.2, by rw [ry.length, ra.length]; exact hd.1, ?_⟩
      obtain ⟨r2, t2⟩ := r1.setOwn (ρ := ρ.f n) q (ry.append ra)
      rw [set_same s2]
      exact hn _ hd.2 _ _ r2 ((Tr.frm f1).trans t2)
    | _ => exact hd.elim
  · exact hu.elim
def ufSorted (u : UA) : UF := fun ρ Q => u ρ fun ds n => match ds with
  | [.lst ds] => match D.ints ds with
    | some ns => ns.length < 64 ∧ ∀ ms : List Int, ms.Perm ns → ms.Pairwise (· ≤ ·) → Q (ms.map D.int) n
    | none => False
  | _ => False
theorem uf_sorted {es : List Expr} {u : UA} (hg : Gl X "sorted") (hm : X.mg "sorted" = none) (ha : UPL X O0 H0 (e :: es) u) (he : starEach (e :: es) X.env = (false, eval e X.env) :: starEach es X.env := by rfl) (hpl : (backTo pos (starEach es X.env)).any (·.1) = false := by rfl) :
    UPF X O0 H0 (.Call (.Name "sorted" p) (e :: es) [] pos) (ufSorted u) := by
  obtain ⟨t, ht, hi⟩ := ha
  refine PE.imp (pe_callB cr_sorted hg hm boot_sorted ht (by decide) (by decide) he hpl) fun σ H Q ⟨ρ, P, r, hu, hP⟩ => ?_
  show tCB (rSorted X.K) t σ H Q
  refine hi σ H _ ⟨ρ, _, r, hu, fun ds n hd vs H1 r1 f1 p1 hn => ?_⟩
  split at hd
  · split at hd
    · rename_i e
      cases ints_eq e
      cases p1 with
      | cons h t =>
        cases t
        cases h with
        | lst l a =>
          cases rp_int_inv a
          exact ⟨_, _, rfl, l.sq, hd.1, fun ms p h1 h2 hp => hP _ n (hd.2 ms h1 h2) p _ (New.of_alloc r r1 f1 (rp_ints ms) hp)⟩
    · exact hd.elim
  · exact hd.elim
def kfSorted (L : List D → Nat → Prop) : List D → Nat → Prop := fun ds n => match ds with
  | [.lst ds] => match D.ints ds with
    | some ns => ns.length < 64 ∧ ∀ ms : List Int, ms.Perm ns → ms.Pairwise (· ≤ ·) → L (ms.map D.int) n
    | none => False
  | _ => False
theorem xfSorted {u : UA} {ρ : Ro} {L : List D → Nat → Prop} : ufSorted u ρ L = u ρ (kfSorted L) := id rfl
theorem xfSorted1 {ns : List Int} {n : Nat} {L : List D → Nat → Prop} : kfSorted L [.lst (ns.map D.int)] n ↔ ns.length < 64 ∧ ∀ ms : List Int, ms.Perm ns → ms.Pairwise (· ≤ ·) → L (ms.map D.int) n := by
  have e : D.ints (ns.map D.int) = some ns := by
    induction ns with
    | nil => rfl
    | cons x ns ih => simp [D.ints, ih]
  show (match D.ints (ns.map D.int) with
    | some ns => ns.length < 64 ∧ ∀ ms : List Int, ms.Perm ns → ms.Pairwise (· ≤ ·) → L (ms.map D.int) n
    | none => False) ↔ _
  rw [e]
end
end U

set_option Elab.async false
set_option linter.all false
set_option maxRecDepth 100000
set_option maxHeartbeats 4000000
/-! Dicts of the module: keys texts, values ints. -/
namespace U
open PySem PySem.Spec L2
open PyProof.Rows hiding St
abbrev Tb : Type := List (Str × Int)
def lookT (t : Tb) (z : Str) : Option Int := (t.find? fun p => p.1 == z).map (·.2)
def entOf (e : DictEntry) : Option (Str × Int × Int) := match e.key, e.val with
  | .str x _, .int i _ => some (x, e.hash, i)
  | _, _ => none
def entsIn (P : Params) (t : Tb) : List (Option (Str × Int × Int)) := t.map fun p => some (p.1, PyData.keyHash P p.1, p.2)
def dicKV (K : PySem.W.Frag) (a : Addr) : Option (List (Option (Str × Int × Int))) := match K.lookup a with
  | some ⟨.type c, none, .dict es _, sl⟩ => (match decide (c = "dict") && (sl.isEmpty && !(a == sysModules)) with
    | true => some (es.toList.map entOf)
    | false => none)
  | _ => none
/-- at the name x: the table t -/
structure KD (K : PySem.W.Frag) (w : World) (x : Str) (t : Tb) : Prop where
  dic : ∃ es n, KDict K w (He.ga K x) es n
  get : ∀ z : Str, match lookT t z with
    | some i => ∃ k, PySem.W.nsIn K (He.ga K x) z = some (some (.int i k))
    | none => PySem.W.nsIn K (He.ga K x) z = some none
theorem ent_inv {e : DictEntry} {x : Str} {h i : Int} (q : entOf e = some (x, h, i)) : ∃ t k, e.key = .str x t ∧ e.hash = h ∧ e.val = .int i k := by
  unfold entOf at q
  split at q
  · rename_i y t j k h1 h2
    have := Option.some.inj q
    injection this with e1 e2
    injection e2 with e2 e3
    subst e1 e2 e3
    exact ⟨t, k, h1, rfl, h2⟩
  · cases q
theorem lit_of {P : Params} : ∀ {l : List DictEntry} {t : Tb}, l.map entOf = entsIn P t → PySem.W.KeysLit P l
  | [], _, _ => trivial
  | e :: r, [], h => by cases h
  | e :: r, p :: t, h => by
    have h1 : entOf e :: r.map entOf = some (p.1, PyData.keyHash P p.1, p.2) :: entsIn P t := h
    injection h1 with h2 h3
    obtain ⟨t, k, e1, e2, _⟩ := ent_inv h2
    exact ⟨⟨_, t, e1, e2⟩, lit_of h3⟩
theorem find_of {P : Params} (z : Str) : ∀ {l : List DictEntry} {t : Tb}, l.map entOf = entsIn P t → (match lookT t z with
    | some i => ∃ e k, l.find? (·.key.isStr z) = some e ∧ e.val = .int i k
    | none => l.find? (·.key.isStr z) = none) ∧ l.any (·.refKey) = false
  | [], [], _ => ⟨rfl, rfl⟩
  | [], p :: t, h => by cases h
  | e :: r, [], h => by cases h
  | e :: r, p :: t, h => by
    have h1 : entOf e :: r.map entOf = some (p.1, PyData.keyHash P p.1, p.2) :: entsIn P t := h
    injection h1 with h2 h3
    obtain ⟨tk, k, e1, _, e3⟩ := ent_inv h2
    obtain ⟨ih1, ih2⟩ := find_of z h3
    have rk : e.refKey = false := by unfold DictEntry.refKey; rw [e1]
    refine ⟨?_, by rw [List.any_cons, rk, ih2]; rfl⟩
    have is : e.key.isStr z = (p.1 == z) := by rw [e1]; rfl
    unfold lookT
    rw [List.find?_cons, List.find?_cons, is]
    cases q : p.1 == z with
    | true => exact ⟨e, k, rfl, e3⟩
    | false => exact ih1
theorem kd_ok {K : PySem.W.Frag} {w : World} {x : Str} {t : Tb} (h : dicKV K (He.ga K x) = some (entsIn w.params t)) : KD K w x t := by
  unfold dicKV at h
  cases q : K.lookup (He.ga K x) with
  | none => rw [q] at h; cases h
  | some o =>
    obtain ⟨oc, od, dt, osl⟩ := o
    rw [q] at h
    cases oc with
    | type c =>
      cases od with
      | none =>
        cases dt with
        | dict es n =>
          have h1 : (match decide (c = "dict") && (osl.isEmpty && !(He.ga K x == sysModules)) with
            | true => some (es.toList.map entOf)
            | false => none) = some (entsIn w.params t) := h
          cases z : decide (c = "dict") && (osl.isEmpty && !(He.ga K x == sysModules)) with
          | false => rw [z] at h1; cases h1
          | true =>
            rw [z] at h1
            obtain ⟨z1, z2⟩ := He.ba z
            obtain ⟨z3, z4⟩ := He.ba z2
            have e1 : c = "dict" := of_decide_eq_true z1
            have e2 : osl = #[] := Array.isEmpty_iff.mp z3
            have e3 : (He.ga K x == sysModules) = false := by
              cases y : He.ga K x == sysModules with
              | false => rfl
              | true => rw [y] at z4; cases z4
            subst e1 e2
            have h2 := Option.some.inj h1
            refine ⟨⟨es, n, q, lit_of h2, e3⟩, fun z => ?_⟩
            obtain ⟨f1, f2⟩ := find_of z h2
            cases lk : lookT t z with
            | some i =>
              rw [lk] at f1
              obtain ⟨e, k, g1, g2⟩ := f1
              refine ⟨k, ?_⟩
              unfold PySem.W.nsIn
              rw [q]
              dsimp only
              rw [g1]
              dsimp only
              rw [g2]
            | none =>
              rw [lk] at f1
              have f1 : es.toList.find? (·.key.isStr z) = none := f1
              unfold PySem.W.nsIn
              rw [q]
              dsimp only
              rw [f1]
              dsimp only
              rw [f2]
              rfl
        | _ => cases h
      | some b => cases dt <;> cases h
    | _ => cases od <;> cases dt <;> cases h
/-! ### rules -/
def gInK (x : Str) (t : Tb) : G2
  | .str z, .cls y, Q => y = x ∧ Q (.bl (lookT t z).isSome)
  | _, _, _ => False
def gNotInK (x : Str) (t : Tb) : G2
  | .str z, .cls y, Q => y = x ∧ Q (.bl (!(lookT t z).isSome))
  | _, _, _ => False
def gIxK (x : Str) (t : Tb) : G2
  | .cls y, .str z, Q => y = x ∧ ∃ i, lookT t z = some i ∧ Q (.int i)
  | _, _, _ => False
section
variable {X : Cx} {x : Str} {t : Tb}
theorem KD.some {z : Str} (T : KD X.K X.w x t) : ∃ r, PySem.W.nsIn X.K (He.ga X.K x) z = some r ∧ r.isSome = (lookT t z).isSome := by
  have := T.get z
  cases lk : lookT t z with
  | some i => rw [lk] at this; obtain ⟨k, e⟩ := this; exact ⟨_, e, rfl⟩
  | none => rw [lk] at this; exact ⟨_, this, rfl⟩
theorem op_inK (T : KD X.K X.w x t) : OpR X (compareOp .In) (lR2 X.K (gInK x t)) := by
  intro pins s σ H a b v u Q I ra rb ⟨O, dx, dy, P, tr, hx, hy, hg, hP⟩
  obtain ⟨es, n, D⟩ := T.dic
  unfold gInK at hg
  split at hg
  · rename_i z y
    obtain ⟨rfl, hq⟩ := hg
    cases hx
    cases hy
    obtain ⟨r, e, hr⟩ := T.some (z := z)
    exact op_in_kd D pins s σ H _ _ v u Q I ra rb ⟨z, r, rfl, rfl, e, hP _ (by rw [hr]; exact hq) _ _ (Same.refl _) (.bl _)⟩
  · exact hg.elim
theorem op_notInK (T : KD X.K X.w x t) : OpR X (compareOp .NotIn) (lR2 X.K (gNotInK x t)) := by
  intro pins s σ H a b v u Q I ra rb ⟨O, dx, dy, P, tr, hx, hy, hg, hP⟩
  obtain ⟨es, n, D⟩ := T.dic
  unfold gNotInK at hg
  split at hg
  · rename_i z y
    obtain ⟨rfl, hq⟩ := hg
    cases hx
    cases hy
    obtain ⟨r, e, hr⟩ := T.some (z := z)
    exact op_notIn_kd D pins s σ H _ _ v u Q I ra rb ⟨z, r, rfl, rfl, e, hP _ (by rw [hr]; exact hq) _ _ (Same.refl _) (.bl _)⟩
  · exact hg.elim
theorem ix_K (T : KD X.K X.w x t) : IxR X (lR2 X.K (gIxK x t)) := by
  intro value slice pins s σ H a b v u Q I ra rb ⟨O, dx, dy, P, tr, hx, hy, hg, hP⟩ hs
  obtain ⟨es, n, D⟩ := T.dic
  unfold gIxK at hg
  split at hg
  · rename_i y z
    obtain ⟨rfl, i, lk, hq⟩ := hg
    cases hx
    cases hy
    have g := T.get z
    rw [lk] at g
    obtain ⟨k, e⟩ := g
    exact ix_kdict value slice pins s σ H _ _ v u Q I ra rb ⟨_, z, .int i, rfl, rfl, ⟨es, n, _, D.at_, D.lit, e, ⟨k, rfl⟩⟩, hP _ hq _ _ (Same.refl _) (.int i)⟩ hs
  · exact hg.elim
variable {O0 : Ad} {H0 : Hp} {a b : Expr} {ua ub : UE} {pos : Pos}
theorem up_ixK (T : KD X.K X.w x t) (ha : UPE X O0 H0 a ua) (hb : UPE X O0 H0 b ub) (hs : PlainIx b := by exact fun _ _ => rfl) : UPE X O0 H0 (.Subscript a b pos) (uOp (gIxK x t) ua ub) :=
  PE.imp (pe_ix (ix_K T) ha hb hs) fun _ _ _ h => two h
end
section
variable {x z : Str} {t : Tb} {Q : D → Prop}
theorem xInK : gInK x t (.str z) (.cls x) Q ↔ Q (.bl (lookT t z).isSome) := ⟨fun h => h.2, fun h => ⟨rfl, h⟩⟩
theorem xNotInK : gNotInK x t (.str z) (.cls x) Q ↔ Q (.bl (!(lookT t z).isSome)) := ⟨fun h => h.2, fun h => ⟨rfl, h⟩⟩
theorem xIxK {i : Int} (h : lookT t z = some i) : gIxK x t (.cls x) (.str z) Q ↔ Q (.int i) := ⟨fun ⟨_, j, e, q⟩ => by rw [h] at e; cases e; exact q, fun q => ⟨rfl, i, h, q⟩⟩
end
/-! ### the head, with tables -/
abbrev AlY : Type := AlX × List (Option (List (Option (Str × Int × Int))))
def obsY (fa : List He.Fa) (fn : List He.DefD) (T : XT) (bs : List String) (ts : List (Str × Tb)) (K : PySem.W.Frag) : AlY := (obsX fa fn T bs K, ts.map fun t => dicKV K (He.ga K t.1))
def valY (fn : List He.DefD) (ts : List (Str × Tb)) (w : World) : AlY := ((He.valD fn, true), ts.map fun t => some (entsIn w.params t.2))
def SaysY (fa : List He.Fa) (fn : List He.DefD) (T : XT) (bs : List String) (ts : List (Str × Tb)) (w : World) (K : PySem.W.Frag) : Prop := obsY fa fn T bs ts K = valY fn ts w
def obsYG (n : Nat) (fa : List He.Fa) (fn : List He.DefD) (T : XT) (bs : List String) (ts : List (Str × Tb)) (g : Addr → Option Obj) : AlY := obsY fa fn T bs ts (He.frG g (He.asD g n))
def hookY (n : Nat) (fa : List He.Fa) (fn : List He.DefD) (T : XT) (bs : List String) (ts : List (Str × Tb)) : PySem.W.Hook where
  α := AlY
  obs := fun s => obsYG n fa fn T bs ts s.heap.get?
  val := fun w => valY fn ts w
  says := fun w h => ∃ K : PySem.W.Frag, K.In h ∧ SaysY fa fn T bs ts w K
  of := fun _ _ e => ⟨_, He.frG_in, e⟩
  keeps := fun _ _ _ ⟨K, hK, c⟩ k => ⟨K, PySem.W.Frag.In.keeps hK k, c⟩
theorem obsYG_eq {n : Nat} {fa : List He.Fa} {fn : List He.DefD} {T : XT} {bs : List String} {ts : List (Str × Tb)} {g : Addr → Option Obj} {s : Shared} (h : ∀ a, g a = s.heap.get? a) : obsYG n fa fn T bs ts g = (hookY n fa fn T bs ts).obs s := by
  have e : g = s.heap.get? := funext h
  rw [e] <;> rfl
section
variable {fa : List He.Fa} {fn : List He.DefD} {T : XT} {bs : List String} {ts : List (Str × Tb)} {w : World} {K : PySem.W.Frag}
theorem SaysY.s (c : SaysY fa fn T bs ts w K) : SaysX fa fn T bs K := congrArg (fun z : AlY => z.1) c
theorem SaysY.d (c : SaysY fa fn T bs ts w K) : He.SaysD fa fn K := c.s.d
theorem SaysY.x (c : SaysY fa fn T bs ts w K) : XF K T bs := c.s.x
theorem SaysY.tab (c : SaysY fa fn T bs ts w K) (i : Nat) {x : Str} {t : Tb} (h : ts[i]? = some (x, t) := by rfl) : KD K w x t := by
  have e : ts.map (fun t => dicKV K (He.ga K t.1)) = ts.map fun t => some (entsIn w.params t.2) := congrArg (fun z : AlY => z.2) c
  have e2 : (ts.map fun t => dicKV K (He.ga K t.1))[i]? = (ts.map fun t => some (entsIn w.params t.2))[i]? := by rw [e]
  rw [List.getElem?_map, List.getElem?_map, h] at e2
  exact kd_ok (Option.some.inj e2)
end
end U

set_option Elab.async false
set_option linter.all false
set_option maxRecDepth 100000
set_option maxHeartbeats 4000000
/-! A dict display of one constant pair. -/
namespace U
open PySem PySem.Spec L2
open PyProof.Rows hiding St
section
variable {X : Cx} {O0 : Ad} {H0 : Hp}
theorem up_dic1 {k v : Expr} {key : Key} {w : V} {d : D} {pos : Pos} (hk : PE X k (tC (kV key))) (hv : PE X v (tC w)) (hd : ∀ O H, Rp X.K O H w d) : UPE X O0 H0 (.Dict [some k] [v] pos) (uC (.dic [(key, d)])) := by
  refine ⟨fun pins s σ H Q I ⟨ρ, P, r, hu, hP⟩ => ?_⟩
  refine wpAny_mono ((pe_disp (pps_cons hk hv pps_nil) rfl rfl (by simp) (by simp)).run pins s σ H (fun v H1 => ∃ p, H p = none ∧ v = .ref p ∧ H1 = upd H p (.dK [(key, w)])) I fun p hp => ?_) (fun u s1 ⟨v, H1, I1, rv, p, hp, ev, eH⟩ => ?_) fun _ _ x => x
  · refine ⟨upd_same, [(key, w)], rfl, by simp, p, hp, rfl, ?_⟩
    rw [upd_upd]
    rfl
  · subst ev eH
    obtain ⟨od, I2⟩ := I1.lock (upd_same (H := H) (a := p) (o := .dK [(key, w)])) (by exact True.intro)
    rw [upd_upd] at I2
    have sm := Same.new (o := HO.frz od (.dK [(key, w)])) hp
    exact ⟨_, _, I2, rv, hP _ ρ.fuel hu _ _ (r.same sm) (.of sm) (.dic (r.fresh hp) upd_same (.cons (hd _ _) .nil))⟩
theorem up_dicI {i j : Int} {t u} {p1 p2 pos : Pos} : UPE X O0 H0 (.Dict [some (.Constant (.int i) t p1)] [.Constant (.int j) u p2] pos) (uC (.dic [(.inl i, .int j)])) := up_dic1 (key := .inl i) pe_int pe_int fun _ _ => .int j
/-- == [] of any list -/
def gEqN : G2
  | .lst xs, .lst [], Q => Q (.bl xs.isEmpty)
  | _, _, _ => False
theorem op_eqN (hu : X.A.units + 64 < cLine) : OpR X (compareOp .Eq) (lR2 X.K gEqN) := by
  intro pins s σ H x y v u Q I rx ry ⟨O, dx, dy, P, tr, hx, hy, hg, hP⟩
  unfold gEqN at hg
  split at hg
  · rename_i xs
    cases xs with
    | nil => exact op_eqV hu pins s σ H x y v u Q I rx ry ⟨O, _, _, P, tr, hx, hy, ⟨by decide, by simpa [D.eqv, D.eqvs] using hg⟩, hP⟩
    | cons d ds =>
      have fin := hP _ hg (.bl false) H (Same.refl _) (.bl _)
      cases hx with
      | lst lx ax => cases hy with
        | lst ly ay =>
          cases rx
          cases ry
          obtain ⟨its, p1, ⟨o1, m1, k1, k2, _, k3⟩, _⟩ := I.list lx.sq
          obtain ⟨jts, p2, ⟨o2, m2, g1, g2, _, g3⟩, _⟩ := I.list ly.sq
          have n1 : its.length = ds.length + 1 := by rw [← p1.length, ax.length]; rfl
          have n2 : jts.length = 0 := by rw [← p2.length, ay.length]; rfl
          refine SeqAt.eq_list_lengthsAt (items := its.toArray) (items2 := jts.toArray) ⟨o1, k1, k2, m1, k3⟩ ⟨o2, g1, g2, m2, g3⟩ ?_ (by omega) ?_
          · rw [List.size_toArray, List.size_toArray, n1, n2]
            rfl
          · exact ⟨.bl false, H, I, rfl, fin⟩
  · exact hg.elim
theorem xEqN {ds : List D} {Q : D → Prop} : gEqN (.lst ds) (.lst []) Q = Q (.bl ds.isEmpty) := id rfl
end
end U

set_option Elab.async false
set_option linter.all false
set_option maxRecDepth 100000
set_option maxHeartbeats 4000000
/-! Texts: str(x), f-strings, methods of a text with one argument. -/
namespace U
open PySem PySem.Spec L2
open PyProof.Rows hiding St
/-- str(x) -/
def gStr : GL
  | [.int i], Q => i.natAbs.log2 < 1920 ∧ Q (.str (toString i))
  | [.str s], Q => Q (.str s)
  | _, _ => False
section
variable {X : Cx} {O0 : Ad} {H0 : Hp} {e o : Expr} {ua ub uo : UE} {pos apos : Pos}
theorem call_strU : CallR X (.type "str") (lCR X.K gStr) := by
  intro pins s σ H xs us Q I rx ⟨O, ds, P, tr, ha, hg, hP⟩
  unfold gStr at hg
  split at hg
  · cases ha with
    | cons h t => cases t; cases h; exact call_str_int pins s σ H _ us Q I rx ⟨_, rfl, hg.1, hP _ hg.2 _ _ (Same.refl _) (.str _)⟩
  · cases ha with
    | cons h t => cases t; cases h; exact SkE.call_str_str pins s σ H _ us Q I rx ⟨_, rfl, hP _ hg _ _ (Same.refl _) (.str _)⟩
  · exact hg.elim
/-! ### f-strings -/
def gFmt : D → (D → Prop) → Prop
  | .str y, Q => y.length ≤ sizeLine ∧ Q (.str y)
  | .int i, Q => i.natAbs.log2 < 1920 ∧ Q (.str (toString i))
  | _, _ => False
def uFmt (a : UE) : UE := uUn gFmt a
theorem up_fmt (he : UPE X O0 H0 e ua) : UPE X O0 H0 (.FormattedValue e (-1) none pos) (uFmt ua) := PE.imp (pe_fmt he) fun σ H Q ⟨ρ, P, r, hu, hP⟩ => by
  refine ⟨ρ, _, r, hu, fun d n hd v H1 r1 f1 p1 => ?_⟩
  have hd : gFmt d fun z => P z n := hd
  unfold gFmt at hd
  split at hd
  · cases p1
    exact .inl ⟨_, rfl, hd.1, hP _ n hd.2 _ H1 r1 f1 (.str _)⟩
  · cases p1
    exact .inr ⟨_, rfl, hd.1, hP _ n hd.2 _ H1 r1 f1 (.str _)⟩
  · exact hd.elim
def uFst : List UE → Str → Ro → (Str → Nat → Prop) → Prop
  | [], acc, ρ, Q => Q acc ρ.fuel
  | u :: us, acc, ρ, Q => u ρ fun d n => match d with
    | .str y => (acc ++ y).length ≤ sizeLine ∧ uFst us (acc ++ y) (ρ.f n) Q
    | _ => False
def uFs (us : List UE) : UE := fun ρ Q => uFst us Str.empty ρ fun out n => Q (.str out) n
inductive UPJ (X : Cx) (O0 : Ad) (H0 : Hp) : List Expr → List UE → Prop where
  | nil : UPJ X O0 H0 [] []
  | cons {e : Expr} {u : UE} {es : List Expr} {us : List UE} (h : UPE X O0 H0 e u) (r : UPJ X O0 H0 es us) : UPJ X O0 H0 (e :: es) (u :: us)
theorem UPJ.pj {es : List Expr} {us : List UE} (h : UPJ X O0 H0 es us) : PJ X es (us.map (lE X.K O0 H0)) := by
  induction h with
  | nil => exact .nil
  | cons h r ih => exact .cons h ih
theorem fst_run {σ : L2.St} : ∀ {us : List UE} {acc : Str} {ρ : Ro} {H : Hp} {P : Str → Nat → Prop} {Q : Str → Hp → Prop}, R X.K O0 H0 σ H ρ → uFst us acc ρ P →
    (∀ out n, P out n → ∀ H', R X.K O0 H0 σ H' (ρ.f n) → Frm ρ.pen H H' → Q out H') → tJs (us.map (lE X.K O0 H0)) acc σ H Q
  | [], acc, ρ, H, P, Q, r, h, k => k acc ρ.fuel h H r Frm.refl
  | u :: us, acc, ρ, H, P, Q, r, h, k => by
    refine ⟨ρ, _, r, h, fun d n hd v H1 r1 f1 p1 => ?_⟩
    cases d <;> try exact hd.elim
    rename_i y
    cases p1
    exact ⟨y, rfl, hd.1, fst_run r1 hd.2 fun out m hp H2 r2 f2 => k out m hp H2 r2 (f1.trans f2)⟩
theorem up_joined {v1 v2 : Expr} {rest : List Expr} {us : List UE} (h : UPJ X O0 H0 (v1 :: v2 :: rest) us) : UPE X O0 H0 (.JoinedStr (v1 :: v2 :: rest) pos) (uFs us) :=
  PE.imp (pe_joined h.pj) fun σ H Q ⟨ρ, P, r, hu, hP⟩ => fst_run r hu fun out n hp H' r' f' => hP (.str out) n hp _ H' r' f' (.str _)
theorem up_joined1 (h : UPE X O0 H0 e ua) : UPE X O0 H0 (.JoinedStr [e] pos) ua := pe_joined1 h
/-! ### methods of a text -/
def uM1 (g : G2) (a b : UE) : UE := fun ρ Q => a ρ fun x n => (match x with | .str _ => True | _ => False) ∧ b (ρ.f n) fun y m => g x y fun z => Q z m
theorem up_m1 {id : String} {name : Str} {g : G2} (slot : Slot "str" name id) (ty : typeOf (.builtin id) = pure (.type "method_descriptor")) (rule : MtR X id (fun x xs H Q => ∃ y, xs = [y] ∧ lR2 X.K g x y H Q)) (ho : UPE X O0 H0 o uo) (he : UPE X O0 H0 e ua)
    (hs : starEach [e] X.env = [(false, eval e X.env)] := by rfl) (hbase : attributeBase o name X.env (eval o X.env) = eval o X.env := by rfl) (hline : (apos.endLine == pos.line) = true := by rfl) :
    UPE X O0 H0 (.Call (.Attribute o name apos) [e] [] pos) (uM1 g uo ua) := by
  refine PE.imp (pe_m1 slot ty rule ho he hs hbase hline) ?_
  rintro σ H Q ⟨ρ, P, r, hu, hP⟩
  refine ⟨ρ, _, r, hu, fun dx n hx v H1 r1 f1 p1 => ⟨?_, ρ.f n, _, r1, hx.2, fun dy m hy w H2 r2 f2 p2 => ⟨w, rfl, ?_⟩⟩⟩
  · have h1 := hx.1
    cases dx <;> try exact h1.elim
    cases p1
    exact ⟨_, rfl⟩
  · refine ⟨OO O0 ρ, dx, dy, _, r2.tr, p1.keep (Frm.keepsO (ρ := ρ) f2), p2, hy, fun d hd v' H3 sm p3 => ?_⟩
    exact hP d m hd v' H3 (r2.same sm) ((f1.trans f2).trans (.of sm)) p3
def D.txs : List D → Option (List Str)
  | [] => some []
  | .str y :: r => (D.txs r).map (y :: ·)
  | _ :: _ => none
theorem txs_map : ∀ {ds : List D} {ys : List Str}, D.txs ds = some ys → ds = ys.map D.str
  | [], ys, h => by cases h; rfl
  | d :: ds, ys, h => by
    cases d <;> try cases h
    rename_i y
    have h : (D.txs ds).map (y :: ·) = some ys := h
    cases q : D.txs ds with
    | none => rw [q] at h; cases h
    | some zs => rw [q] at h; cases h; rw [txs_map q]; rfl
theorem map_txs : ∀ (ys : List Str), D.txs (ys.map D.str) = some ys
  | [] => rfl
  | y :: ys => by show (D.txs (ys.map D.str)).map (y :: ·) = _; rw [map_txs ys]; rfl
def joinSz (a : Str) (ys : List Str) : Prop := (ys.map (·.length)).sum + ys.length * a.length ≤ 16777216
def gJoin : G2
  | .str a, .lst ds, Q => match D.txs ds with
    | some ys => joinSz a ys ∧ Q (.str (Str.join a ys))
    | none => False
  | .str a, .tup ds, Q => match D.txs ds with
    | some ys => joinSz a ys ∧ Q (.str (Str.join a ys))
    | none => False
  | _, _, _ => False
theorem rpa_strs {K : PySem.W.Frag} {O : Ad} {H : Hp} : ∀ {ys : List Str} {vs : List V}, RpA K O H vs (ys.map D.str) → vs = ys.map V.str
  | [], _, h => by cases h; rfl
  | y :: ys, _, h => by
    cases h with
    | cons a b => cases a; rw [rpa_strs b]; rfl
theorem mt_joinU : MtR X "str.join" (fun x xs H Q => ∃ y, xs = [y] ∧ lR2 X.K gJoin x y H Q) := by
  intro pins s σ H x xs v us Q I rx rs ⟨y, ex, O, dx, dy, P, tr, hx, hy, hg, hP⟩
  subst ex
  refine mt_join pins s σ H x [y] v us Q I rx rs ?_
  unfold gJoin at hg
  split at hg
  · rename_i a ds
    split at hg
    · rename_i ys e
      cases txs_map e
      cases hx
      cases hy with
      | lst l ax =>
        have := rpa_strs ax
        subst this
        refine ⟨a, _, ys, rfl, rfl, .inl l.sq, hg.1, ?_⟩
        rw [TL.join_eq]
        exact hP _ hg.2 _ _ (Same.refl _) (.str _)
    · exact hg.elim
  · rename_i a ds
    split at hg
    · rename_i ys e
      cases txs_map e
      cases hx
      cases hy with
      | tup l ax =>
        have := rpa_strs ax
        subst this
        refine ⟨a, _, ys, rfl, rfl, .inr l.sq, hg.1, ?_⟩
        rw [TL.join_eq]
        exact hP _ hg.2 _ _ (Same.refl _) (.str _)
    · exact hg.elim
  · exact hg.elim
theorem up_join (ho : UPE X O0 H0 o uo) (he : UPE X O0 H0 e ua) (hs : starEach [e] X.env = [(false, eval e X.env)] := by rfl) (hbase : attributeBase o "join" X.env (eval o X.env) = eval o X.env := by rfl) (hline : (apos.endLine == pos.line) = true := by rfl) :
    UPE X O0 H0 (.Call (.Attribute o "join" apos) [e] [] pos) (uM1 gJoin uo ua) := up_m1 F.slot_str_join F.type_str_join mt_joinU ho he hs hbase hline
end
/-! ### rewriting -/
section
variable {sl : List Sl} {pn : PenT} {fu n m : Nat} {ρ : Ro} {Q : D → Nat → Prop} {P : D → Prop} {u a b : UE} {us : List UE} {acc y s out : Str} {g : G2} {x d : D} {i : Int} {J : Str → Nat → Prop}
def kFs (Q : D → Nat → Prop) : Str → Nat → Prop := fun out n => Q (.str out) n
def kFst (us : List UE) (acc : Str) (ρ : Ro) (J : Str → Nat → Prop) : D → Nat → Prop := fun d n => match d with
  | .str y => (acc ++ y).length ≤ sizeLine ∧ uFst us (acc ++ y) (ρ.f n) J
  | _ => False
theorem xFs : uFs us ρ Q = uFst us Str.empty ρ (kFs Q) := id rfl
theorem xFs0 : uFst [] acc ⟨sl, pn, n⟩ J = J acc n := id rfl
theorem xFs1 : uFst (u :: us) acc ρ J = u ρ (kFst us acc ρ J) := id rfl
theorem xFs2 : kFst us acc ⟨sl, pn, fu⟩ J (.str y) n = ((acc ++ y).length ≤ sizeLine ∧ uFst us (acc ++ y) ⟨sl, pn, n⟩ J) := id rfl
theorem xFs3 : kFs Q out n = Q (.str out) n := id rfl
theorem xFmt : uFmt a = uUn gFmt a := id rfl
theorem xFmtI : gFmt (.int i) P = (i.natAbs.log2 < 1920 ∧ P (.str (toString i))) := id rfl
theorem xFmtS : gFmt (.str y) P = (y.length ≤ sizeLine ∧ P (.str y)) := id rfl
theorem xStrI : gStr [.int i] P = (i.natAbs.log2 < 1920 ∧ P (.str (toString i))) := id rfl
theorem xStrS : gStr [.str y] P = P (.str y) := id rfl
def kM1 (g : G2) (b : UE) (ρ : Ro) (Q : D → Nat → Prop) : D → Nat → Prop := fun x n => (match x with | .str _ => True | _ => False) ∧ b (ρ.f n) fun y m => g x y fun z => Q z m
def kM2 (g : G2) (x : D) (Q : D → Nat → Prop) : D → Nat → Prop := fun y m => g x y fun z => Q z m
theorem xM1 : uM1 g a b ρ Q = a ρ (kM1 g b ρ Q) := id rfl
theorem xM11 : kM1 g b ⟨sl, pn, fu⟩ Q (.str s) n ↔ b ⟨sl, pn, n⟩ (kM2 g (.str s) Q) := ⟨fun h => h.2, fun h => ⟨trivial, h⟩⟩
theorem xM12 : kM2 g x Q d n = g x d (kN Q n) := id rfl
theorem xJoinL {ds : List D} {ys : List Str} (h : ds = ys.map D.str) : gJoin (.str s) (.lst ds) P ↔ (joinSz s ys ∧ P (.str (Str.join s ys))) := by
  subst h
  show (match D.txs (ys.map D.str) with | some ys => joinSz s ys ∧ P (.str (Str.join s ys)) | none => False) ↔ _
  rw [map_txs]
end
end U

set_option Elab.async false
set_option linter.all false
set_option maxRecDepth 100000
set_option maxHeartbeats 4000000
/-! Texts read: split, removeprefix, a text's signs, int(text). -/
namespace U
open PySem PySem.Spec L2
open PyProof.Rows hiding St
section
variable {X : Cx} {O0 : Ad} {H0 : Hp} {e o tg : Expr} {ua ub uo : UE} {pos apos : Pos}
/-! ### split -/
theorem rpa_of_strs {K : PySem.W.Frag} {O : Ad} {H : Hp} : ∀ (ys : List Str), RpA K O H (ys.map V.str) (ys.map D.str)
  | [] => .nil
  | y :: ys => .cons (.str y) (rpa_of_strs ys)
def gSplit : G2
  | .str a, .str b, Q => ((b.length == 0) = false ∧ a.length + 2 ≤ sizeLine) ∧ Q (.lst ((Txt.split a b).map D.str))
  | _, _, _ => False
theorem mt_splitU : MtR X "str.split" (fun x xs H Q => ∃ y, xs = [y] ∧ lR2 X.K gSplit x y H Q) := by
  intro pins s σ H x xs v us Q I rx rs ⟨y, ex, O, dx, dy, P, tr, hx, hy, hg, hP⟩
  subst ex
  refine mt_split pins s σ H x [y] v us Q I rx rs ?_
  unfold gSplit at hg
  split at hg
  · cases hx
    cases hy
    refine ⟨_, _, rfl, rfl, hg.1.1, hg.1.2, fun p hp => ?_⟩
    have sm := fun o => Same.new (o := o) hp
    exact hP _ hg.2 _ _ (sm _) (.lst ⟨nofree tr hp, upd_same⟩ ((rpa_of_strs _).keep (.same (sm _))))
  · exact hg.elim
theorem up_split (ho : UPE X O0 H0 o uo) (he : UPE X O0 H0 e ua) (hs : starEach [e] X.env = [(false, eval e X.env)] := by rfl) (hbase : attributeBase o "split" X.env (eval o X.env) = eval o X.env := by rfl) (hline : (apos.endLine == pos.line) = true := by rfl) :
    UPE X O0 H0 (.Call (.Attribute o "split" apos) [e] [] pos) (uM1 gSplit uo ua) := up_m1 F.slot_str_split F.type_str_split mt_splitU ho he hs hbase hline
/-! ### removeprefix -/
def gRmPre : G2
  | .str a, .str b, Q => a.length ≤ sizeLine ∧ Q (.str (Txt.removeprefix a b))
  | _, _, _ => False
theorem mt_rmpreU : MtR X "str.removeprefix" (fun x xs H Q => ∃ y, xs = [y] ∧ lR2 X.K gRmPre x y H Q) := by
  intro pins s σ H x xs v us Q I rx rs ⟨y, ex, O, dx, dy, P, tr, hx, hy, hg, hP⟩
  subst ex
  refine mt_removeprefix pins s σ H x [y] v us Q I rx rs ?_
  unfold gRmPre at hg
  split at hg
  · cases hx
    cases hy
    exact ⟨_, _, rfl, rfl, hg.1, hP _ hg.2 _ _ (Same.refl _) (.str _)⟩
  · exact hg.elim
theorem up_rmpre (ho : UPE X O0 H0 o uo) (he : UPE X O0 H0 e ua) (hs : starEach [e] X.env = [(false, eval e X.env)] := by rfl) (hbase : attributeBase o "removeprefix" X.env (eval o X.env) = eval o X.env := by rfl) (hline : (apos.endLine == pos.line) = true := by rfl) :
    UPE X O0 H0 (.Call (.Attribute o "removeprefix" apos) [e] [] pos) (uM1 gRmPre uo ua) := up_m1 F.slot_str_removeprefix F.type_str_removeprefix mt_rmpreU ho he hs hbase hline
/-! ### the signs of a text -/
def signsD (s : Str) : List D := s.cps.toList.map fun c => .str ⟨#[c]⟩
def uiStr (u : UE) : UI := fun ρ Q => u ρ fun d n => match d with
  | .str s => Q (signsD s) n
  | _ => False
theorem ui_str (h : UPE X O0 H0 e ua) : UPI X O0 H0 tg e (uiStr ua) := PI.imp (pi_str h) fun σ H Q ⟨ρ, P, r, hu, hP⟩ => ⟨ρ, _, r, hu, fun d n hd v H1 r1 f1 p1 => by
  cases d <;> try exact hd.elim
  cases p1
  refine ⟨_, rfl, hP _ n hd _ H1 r1 f1 fun O2 H2 k t => ⟨fun i d e => ?_, fun i hi => ?_⟩⟩
  · unfold signsD at e
    rw [List.getElem?_map, Array.getElem?_toList] at e
    obtain ⟨c, ec, rfl⟩ := Option.map_eq_some_iff.mp e
    refine ⟨(Array.getElem?_eq_some_iff.mp ec).1, fun x H3 ⟨e2, c2, e3, e4⟩ => ?_⟩
    subst e2 e4
    rw [ec] at e3
    cases e3
    exact ⟨Same.refl _, .str _⟩
  · unfold signsD at hi
    rw [List.length_map, Array.length_toList] at hi
    exact hi⟩
def gInS : G2
  | .str ⟨x⟩, .str z, Q => match x.toList with
    | [c] => Q (.bl (decide (c ∈ z.cps.toList)))
    | _ => False
  | _, _, _ => False
theorem op_inSg : OpR X (compareOp .In) (lR2 X.K gInS) := by
  intro pins s σ H x y v u Q I rx ry ⟨O, dx, dy, P, tr, hx, hy, hg, hP⟩
  unfold gInS at hg
  split at hg
  · rename_i a z
    split at hg
    · rename_i c e
      have e2 : a = #[c] := by
        obtain ⟨l⟩ := a
        exact congrArg Array.mk e
      subst e2
      cases hx
      cases hy
      exact op_in_sign pins s σ H _ _ v u Q I rx ry ⟨c, z, rfl, rfl, hP _ hg _ _ (Same.refl _) (.bl _)⟩
    · exact hg.elim
  · exact hg.elim
/-! ### int(text) -/
def gIntT : GL
  | [.str a], Q => ∃ n, PySem.intText? a = some n ∧ a.length ≤ 640 ∧ Q (.int n)
  | _, _ => False
theorem call_intT : CallR X (.type "int") (lCR X.K gIntT) := by
  intro pins s σ H xs us Q I rx ⟨O, ds, P, tr, ha, hg, hP⟩
  unfold gIntT at hg
  split at hg
  · obtain ⟨n, h1, h2, h3⟩ := hg
    cases ha with
    | cons h t => cases t; cases h; exact call_int_str pins s σ H _ us Q I rx ⟨_, n, rfl, h1, h2, hP _ h3 _ _ (Same.refl _) (.int _)⟩
  · exact hg.elim
end
/-! ### rewriting -/
section
variable {sl : List Sl} {pn : PenT} {fu n : Nat} {ρ : Ro} {L : List D → Nat → Prop} {P : D → Prop} {a : UE} {s t : Str}
def kSt (L : List D → Nat → Prop) : D → Nat → Prop := fun d n => match d with
  | .str s => L (signsD s) n
  | _ => False
theorem iSt : uiStr a ρ L = a ρ (kSt L) := id rfl
theorem iSt1 : kSt L (.str s) n = L (signsD s) n := id rfl
theorem xSplit : gSplit (.str s) (.str t) P = (((t.length == 0) = false ∧ s.length + 2 ≤ sizeLine) ∧ P (.lst ((Txt.split s t).map D.str))) := id rfl
theorem xRmPre : gRmPre (.str s) (.str t) P = (s.length ≤ sizeLine ∧ P (.str (Txt.removeprefix s t))) := id rfl
theorem xInSg {c : Nat} : gInS (.str ⟨#[c]⟩) (.str s) P = P (.bl (decide (c ∈ s.cps.toList))) := id rfl
theorem xIntT {i : Int} (h : PySem.intText? s = some i) (hl : s.length ≤ 640) : gIntT [.str s] P ↔ P (.int i) := ⟨fun ⟨n, e, _, q⟩ => by rw [h] at e; cases e; exact q, fun q => ⟨i, h, hl, q⟩⟩
end
end U

set_option Elab.async false
set_option linter.all false
set_option maxRecDepth 100000
set_option maxHeartbeats 0

namespace Lw
open PySem PySem.Spec L2 U
open PyProof.Rows hiding St
def top (i : Nat) : Stmt := PySem.Challenge.pw_growblind_k67_policies_written_and_read.main.body.getD i (.Pass ⟨0, 0, 0, 0⟩)
abbrev s_is_integer : Stmt := top 4
abbrev F_is_integer (K : PySem.W.Frag) (fd : FuncData) : Prop := FunD K "is_integer" "is_integer" (defArgs s_is_integer) (defBody s_is_integer) (defScope s_is_integer) [] [] (He.fAd K ("is_integer", none)) fd
def d_is_integer : He.DefD := ⟨("is_integer", none), "is_integer", "is_integer", defArgs s_is_integer, defBody s_is_integer, defScope s_is_integer, [], []⟩
abbrev s_is_between : Stmt := top 5
abbrev F_is_between (K : PySem.W.Frag) (fd : FuncData) : Prop := FunD K "is_between" "is_between" (defArgs s_is_between) (defBody s_is_between) (defScope s_is_between) [] [] (He.fAd K ("is_between", none)) fd
def d_is_between : He.DefD := ⟨("is_between", none), "is_between", "is_between", defArgs s_is_between, defBody s_is_between, defScope s_is_between, [], []⟩
abbrev s_policy_text : Stmt := top 9
abbrev F_policy_text (K : PySem.W.Frag) (fd : FuncData) : Prop := FunD K "policy_text" "policy_text" (defArgs s_policy_text) (defBody s_policy_text) (defScope s_policy_text) [] [] (He.fAd K ("policy_text", none)) fd
def d_policy_text : He.DefD := ⟨("policy_text", none), "policy_text", "policy_text", defArgs s_policy_text, defBody s_policy_text, defScope s_policy_text, [], []⟩
abbrev s_are_entries : Stmt := top 13
abbrev F_are_entries (K : PySem.W.Frag) (fd : FuncData) : Prop := FunD K "are_entries" "are_entries" (defArgs s_are_entries) (defBody s_are_entries) (defScope s_are_entries) [] [] (He.fAd K ("are_entries", none)) fd
def d_are_entries : He.DefD := ⟨("are_entries", none), "are_entries", "are_entries", defArgs s_are_entries, defBody s_are_entries, defScope s_are_entries, [], []⟩
abbrev s_is_factor : Stmt := top 14
abbrev F_is_factor (K : PySem.W.Frag) (fd : FuncData) : Prop := FunD K "is_factor" "is_factor" (defArgs s_is_factor) (defBody s_is_factor) (defScope s_is_factor) [] [] (He.fAd K ("is_factor", none)) fd
def d_is_factor : He.DefD := ⟨("is_factor", none), "is_factor", "is_factor", defArgs s_is_factor, defBody s_is_factor, defScope s_is_factor, [], []⟩
abbrev s_is_policy : Stmt := top 15
abbrev F_is_policy (K : PySem.W.Frag) (fd : FuncData) : Prop := FunD K "is_policy" "is_policy" (defArgs s_is_policy) (defBody s_is_policy) (defScope s_is_policy) [] [] (He.fAd K ("is_policy", none)) fd
def d_is_policy : He.DefD := ⟨("is_policy", none), "is_policy", "is_policy", defArgs s_is_policy, defBody s_is_policy, defScope s_is_policy, [], []⟩
abbrev s_number_in : Stmt := top 19
abbrev F_number_in (K : PySem.W.Frag) (fd : FuncData) : Prop := FunD K "number_in" "number_in" (defArgs s_number_in) (defBody s_number_in) (defScope s_number_in) [] [] (He.fAd K ("number_in", none)) fd
def d_number_in : He.DefD := ⟨("number_in", none), "number_in", "number_in", defArgs s_number_in, defBody s_number_in, defScope s_number_in, [], []⟩
abbrev s_numbers_in : Stmt := top 20
abbrev F_numbers_in (K : PySem.W.Frag) (fd : FuncData) : Prop := FunD K "numbers_in" "numbers_in" (defArgs s_numbers_in) (defBody s_numbers_in) (defScope s_numbers_in) [] [] (He.fAd K ("numbers_in", none)) fd
def d_numbers_in : He.DefD := ⟨("numbers_in", none), "numbers_in", "numbers_in", defArgs s_numbers_in, defBody s_numbers_in, defScope s_numbers_in, [], []⟩
abbrev s_entries_in : Stmt := top 21
abbrev F_entries_in (K : PySem.W.Frag) (fd : FuncData) : Prop := FunD K "entries_in" "entries_in" (defArgs s_entries_in) (defBody s_entries_in) (defScope s_entries_in) [] [] (He.fAd K ("entries_in", none)) fd
def d_entries_in : He.DefD := ⟨("entries_in", none), "entries_in", "entries_in", defArgs s_entries_in, defBody s_entries_in, defScope s_entries_in, [], []⟩
abbrev s_policy_in : Stmt := top 22
abbrev F_policy_in (K : PySem.W.Frag) (fd : FuncData) : Prop := FunD K "policy_in" "policy_in" (defArgs s_policy_in) (defBody s_policy_in) (defScope s_policy_in) [] [] (He.fAd K ("policy_in", none)) fd
def d_policy_in : He.DefD := ⟨("policy_in", none), "policy_in", "policy_in", defArgs s_policy_in, defBody s_policy_in, defScope s_policy_in, [], []⟩
abbrev s_read_policy : Stmt := top 23
abbrev F_read_policy (K : PySem.W.Frag) (fd : FuncData) : Prop := FunD K "read_policy" "read_policy" (defArgs s_read_policy) (defBody s_read_policy) (defScope s_read_policy) [] [] (He.fAd K ("read_policy", none)) fd
def d_read_policy : He.DefD := ⟨("read_policy", none), "read_policy", "read_policy", defArgs s_read_policy, defBody s_read_policy, defScope s_read_policy, [], []⟩
abbrev s__law_pen : Stmt := top 25
abbrev F__law_pen (K : PySem.W.Frag) (fd : FuncData) : Prop := FunD K "_law_pen" "_law_pen" (defArgs s__law_pen) (defBody s__law_pen) (defScope s__law_pen) [] [] (He.fAd K ("_law_pen", none)) fd
def d__law_pen : He.DefD := ⟨("_law_pen", none), "_law_pen", "_law_pen", defArgs s__law_pen, defBody s__law_pen, defScope s__law_pen, [], []⟩
abbrev s__law_draw : Stmt := top 26
abbrev F__law_draw (K : PySem.W.Frag) (fd : FuncData) : Prop := FunD K "_law_draw" "_law_draw" (defArgs s__law_draw) (defBody s__law_draw) (defScope s__law_draw) [] [] (He.fAd K ("_law_draw", none)) fd
def d__law_draw : He.DefD := ⟨("_law_draw", none), "_law_draw", "_law_draw", defArgs s__law_draw, defBody s__law_draw, defScope s__law_draw, [], []⟩
abbrev s__law_policy : Stmt := top 27
abbrev F__law_policy (K : PySem.W.Frag) (fd : FuncData) : Prop := FunD K "_law_policy" "_law_policy" (defArgs s__law_policy) (defBody s__law_policy) (defScope s__law_policy) [] [] (He.fAd K ("_law_policy", none)) fd
def d__law_policy : He.DefD := ⟨("_law_policy", none), "_law_policy", "_law_policy", defArgs s__law_policy, defBody s__law_policy, defScope s__law_policy, [], []⟩
abbrev s__law_words : Stmt := top 28
abbrev F__law_words (K : PySem.W.Frag) (fd : FuncData) : Prop := FunD K "_law_words" "_law_words" (defArgs s__law_words) (defBody s__law_words) (defScope s__law_words) [] [] (He.fAd K ("_law_words", none)) fd
def d__law_words : He.DefD := ⟨("_law_words", none), "_law_words", "_law_words", defArgs s__law_words, defBody s__law_words, defScope s__law_words, [], []⟩
abbrev s__law_is_right : Stmt := top 29
abbrev F__law_is_right (K : PySem.W.Frag) (fd : FuncData) : Prop := FunD K "_law_is_right" "_law_is_right" (defArgs s__law_is_right) (defBody s__law_is_right) (defScope s__law_is_right) [] [] (He.fAd K ("_law_is_right", none)) fd
def d__law_is_right : He.DefD := ⟨("_law_is_right", none), "_law_is_right", "_law_is_right", defArgs s__law_is_right, defBody s__law_is_right, defScope s__law_is_right, [], []⟩
abbrev s_law : Stmt := top 30
abbrev F_law (K : PySem.W.Frag) (fd : FuncData) : Prop := FunD K "law" "law" (defArgs s_law) (defBody s_law) (defScope s_law) [] [] (He.fAd K ("law", none)) fd
def d_law : He.DefD := ⟨("law", none), "law", "law", defArgs s_law, defBody s_law, defScope s_law, [], []⟩
def fn : List He.DefD := [d_is_integer, d_is_between, d_policy_text, d_are_entries, d_is_factor, d_is_policy, d_number_in, d_numbers_in, d_entries_in, d_policy_in, d_read_policy, d__law_pen, d__law_draw, d__law_policy, d__law_words, d__law_is_right, d_law]
def fa : List He.Fa := [.glo "is_integer", .glo "is_between", .glo "policy_text", .glo "are_entries", .glo "is_factor", .glo "is_policy", .glo "number_in", .glo "numbers_in", .glo "entries_in", .glo "policy_in", .glo "read_policy", .glo "_law_pen", .glo "_law_draw", .glo "_law_policy", .glo "_law_words", .glo "_law_is_right", .glo "law", .int "MOST_STATEMENTS" 60, .int "MOST_CELLS" 1000000000000000000000000000000, .int "CAPACITY_LIMIT" 10000000000000000000000000000000000000000, .int "MOST_PART" 100, .str "DIGITS" "0123456789", .int "MOST_DIGITS" 40, .free "ValueError", .free "abs", .free "all", .free "bool", .free "int", .free "isinstance", .free "len", .free "list", .free "min", .free "range", .free "repr", .free "str", .free "tuple", .glo "GrowError", .glo "InvalidText", .exc "GrowError"]
abbrev R_ : PySem.W.OpenRow := PySem.W.OpenLaw.row PySem.Challenge.rw_growblind_k67_policies_written_and_read
def exT : XT := [("GrowError", [.blt "ValueError", .blt "Exception", .blt "BaseException"]), ("InvalidText", [.own "GrowError", .blt "ValueError", .blt "Exception", .blt "BaseException"])]
def exB : List String := ["ValueError"]
abbrev hk : PySem.W.Hook := hookX 4 fa fn exT exB
def ob (s : PySem.W.SharedT) : AlX := obsXG 4 fa fn exT exB (HandSHeadRun.getT s)
theorem ob_eq (s : PySem.W.SharedT) : ob s = hk.obs s.abs := obsXG_eq (HandSHeadRun.getT_eq s)
def loose0 : List PySem.Str := ["GrowError", "InvalidText", "is_integer", "is_between", "MOST_STATEMENTS", "MOST_CELLS", "policy_text", "CAPACITY_LIMIT", "MOST_PART", "are_entries", "is_factor", "is_policy", "DIGITS", "MOST_DIGITS", "number_in", "numbers_in", "entries_in", "policy_in", "read_policy", "_law_pen", "_law_draw", "_law_policy", "_law_words", "_law_is_right"]
abbrev loose_ : List PySem.Str := loose0
theorem run (w : World) : HandSHeadRun.RunEq R_ (PySem.W.view R_.prog [30]) hk ob 4000 loose_ w := by
  intro os
  kernel_rfl
/-- what the head tells -/
structure Txt (K : PySem.W.Frag) (mg : Str → Option Value) : Prop where
  g_is_integer : mg "is_integer" = some (.ref (He.fAd K ("is_integer", none)))
  g_is_between : mg "is_between" = some (.ref (He.fAd K ("is_between", none)))
  g_policy_text : mg "policy_text" = some (.ref (He.fAd K ("policy_text", none)))
  g_are_entries : mg "are_entries" = some (.ref (He.fAd K ("are_entries", none)))
  g_is_factor : mg "is_factor" = some (.ref (He.fAd K ("is_factor", none)))
  g_is_policy : mg "is_policy" = some (.ref (He.fAd K ("is_policy", none)))
  g_number_in : mg "number_in" = some (.ref (He.fAd K ("number_in", none)))
  g_numbers_in : mg "numbers_in" = some (.ref (He.fAd K ("numbers_in", none)))
  g_entries_in : mg "entries_in" = some (.ref (He.fAd K ("entries_in", none)))
  g_policy_in : mg "policy_in" = some (.ref (He.fAd K ("policy_in", none)))
  g_read_policy : mg "read_policy" = some (.ref (He.fAd K ("read_policy", none)))
  g__law_pen : mg "_law_pen" = some (.ref (He.fAd K ("_law_pen", none)))
  g__law_draw : mg "_law_draw" = some (.ref (He.fAd K ("_law_draw", none)))
  g__law_policy : mg "_law_policy" = some (.ref (He.fAd K ("_law_policy", none)))
  g__law_words : mg "_law_words" = some (.ref (He.fAd K ("_law_words", none)))
  g__law_is_right : mg "_law_is_right" = some (.ref (He.fAd K ("_law_is_right", none)))
  g_law : mg "law" = some (.ref (He.fAd K ("law", none)))
  i_MOST_STATEMENTS : ∃ t, mg "MOST_STATEMENTS" = some (.int 60 t)
  i_MOST_CELLS : ∃ t, mg "MOST_CELLS" = some (.int 1000000000000000000000000000000 t)
  i_CAPACITY_LIMIT : ∃ t, mg "CAPACITY_LIMIT" = some (.int 10000000000000000000000000000000000000000 t)
  i_MOST_PART : ∃ t, mg "MOST_PART" = some (.int 100 t)
  i_DIGITS : ∃ t, mg "DIGITS" = some (.str "0123456789" t)
  i_MOST_DIGITS : ∃ t, mg "MOST_DIGITS" = some (.int 40 t)
  n_ValueError : mg "ValueError" = none
  n_abs : mg "abs" = none
  n_all : mg "all" = none
  n_bool : mg "bool" = none
  n_int : mg "int" = none
  n_isinstance : mg "isinstance" = none
  n_len : mg "len" = none
  n_list : mg "list" = none
  n_min : mg "min" = none
  n_range : mg "range" = none
  n_repr : mg "repr" = none
  n_str : mg "str" = none
  n_tuple : mg "tuple" = none
  g_GrowError : mg "GrowError" = some (.ref (He.fAd K ("GrowError", none)))
  g_InvalidText : mg "InvalidText" = some (.ref (He.fAd K ("InvalidText", none)))
  e_GrowError : (He.Fa.exc "GrowError").ok K = true
  F_is_integer : ∃ fd, F_is_integer K fd
  F_is_between : ∃ fd, F_is_between K fd
  F_policy_text : ∃ fd, F_policy_text K fd
  F_are_entries : ∃ fd, F_are_entries K fd
  F_is_factor : ∃ fd, F_is_factor K fd
  F_is_policy : ∃ fd, F_is_policy K fd
  F_number_in : ∃ fd, F_number_in K fd
  F_numbers_in : ∃ fd, F_numbers_in K fd
  F_entries_in : ∃ fd, F_entries_in K fd
  F_policy_in : ∃ fd, F_policy_in K fd
  F_read_policy : ∃ fd, F_read_policy K fd
  F__law_pen : ∃ fd, F__law_pen K fd
  F__law_draw : ∃ fd, F__law_draw K fd
  F__law_policy : ∃ fd, F__law_policy K fd
  F__law_words : ∃ fd, F__law_words K fd
  F__law_is_right : ∃ fd, F__law_is_right K fd
  F_law : ∃ fd, F_law K fd
  xf : XF K exT exB
theorem txt_of {K : PySem.W.Frag} {h : Heap} {mg : Str → Option Value} (X : K.In h) (G : h.Ns mainGlobals mg) (c : SaysX fa fn exT exB K) : Txt K mg :=
  ⟨He.glo_ok X G (c.d.fact 0 (f := .glo "is_integer") rfl),
   He.glo_ok X G (c.d.fact 1 (f := .glo "is_between") rfl),
   He.glo_ok X G (c.d.fact 2 (f := .glo "policy_text") rfl),
   He.glo_ok X G (c.d.fact 3 (f := .glo "are_entries") rfl),
   He.glo_ok X G (c.d.fact 4 (f := .glo "is_factor") rfl),
   He.glo_ok X G (c.d.fact 5 (f := .glo "is_policy") rfl),
   He.glo_ok X G (c.d.fact 6 (f := .glo "number_in") rfl),
   He.glo_ok X G (c.d.fact 7 (f := .glo "numbers_in") rfl),
   He.glo_ok X G (c.d.fact 8 (f := .glo "entries_in") rfl),
   He.glo_ok X G (c.d.fact 9 (f := .glo "policy_in") rfl),
   He.glo_ok X G (c.d.fact 10 (f := .glo "read_policy") rfl),
   He.glo_ok X G (c.d.fact 11 (f := .glo "_law_pen") rfl),
   He.glo_ok X G (c.d.fact 12 (f := .glo "_law_draw") rfl),
   He.glo_ok X G (c.d.fact 13 (f := .glo "_law_policy") rfl),
   He.glo_ok X G (c.d.fact 14 (f := .glo "_law_words") rfl),
   He.glo_ok X G (c.d.fact 15 (f := .glo "_law_is_right") rfl),
   He.glo_ok X G (c.d.fact 16 (f := .glo "law") rfl),
   He.int_ok X G (c.d.fact 17 (f := .int "MOST_STATEMENTS" 60) rfl),
   He.int_ok X G (c.d.fact 18 (f := .int "MOST_CELLS" 1000000000000000000000000000000) rfl),
   He.int_ok X G (c.d.fact 19 (f := .int "CAPACITY_LIMIT" 10000000000000000000000000000000000000000) rfl),
   He.int_ok X G (c.d.fact 20 (f := .int "MOST_PART" 100) rfl),
   He.str_ok X G (c.d.fact 21 (f := .str "DIGITS" "0123456789") rfl),
   He.int_ok X G (c.d.fact 22 (f := .int "MOST_DIGITS" 40) rfl),
   He.free_ok X G (c.d.fact 23 (f := .free "ValueError") rfl),
   He.free_ok X G (c.d.fact 24 (f := .free "abs") rfl),
   He.free_ok X G (c.d.fact 25 (f := .free "all") rfl),
   He.free_ok X G (c.d.fact 26 (f := .free "bool") rfl),
   He.free_ok X G (c.d.fact 27 (f := .free "int") rfl),
   He.free_ok X G (c.d.fact 28 (f := .free "isinstance") rfl),
   He.free_ok X G (c.d.fact 29 (f := .free "len") rfl),
   He.free_ok X G (c.d.fact 30 (f := .free "list") rfl),
   He.free_ok X G (c.d.fact 31 (f := .free "min") rfl),
   He.free_ok X G (c.d.fact 32 (f := .free "range") rfl),
   He.free_ok X G (c.d.fact 33 (f := .free "repr") rfl),
   He.free_ok X G (c.d.fact 34 (f := .free "str") rfl),
   He.free_ok X G (c.d.fact 35 (f := .free "tuple") rfl),
   He.glo_ok X G (c.d.fact 36 (f := .glo "GrowError") rfl),
   He.glo_ok X G (c.d.fact 37 (f := .glo "InvalidText") rfl),
   c.d.fact 38 (f := .exc "GrowError") rfl,
   c.d.def_ 0 (d := d_is_integer) rfl,
   c.d.def_ 1 (d := d_is_between) rfl,
   c.d.def_ 2 (d := d_policy_text) rfl,
   c.d.def_ 3 (d := d_are_entries) rfl,
   c.d.def_ 4 (d := d_is_factor) rfl,
   c.d.def_ 5 (d := d_is_policy) rfl,
   c.d.def_ 6 (d := d_number_in) rfl,
   c.d.def_ 7 (d := d_numbers_in) rfl,
   c.d.def_ 8 (d := d_entries_in) rfl,
   c.d.def_ 9 (d := d_policy_in) rfl,
   c.d.def_ 10 (d := d_read_policy) rfl,
   c.d.def_ 11 (d := d__law_pen) rfl,
   c.d.def_ 12 (d := d__law_draw) rfl,
   c.d.def_ 13 (d := d__law_policy) rfl,
   c.d.def_ 14 (d := d__law_words) rfl,
   c.d.def_ 15 (d := d__law_is_right) rfl,
   c.d.def_ 16 (d := d_law) rfl,
   c.x⟩
end Lw

set_option Elab.async false
set_option linter.all false
set_option maxRecDepth 100000
set_option maxHeartbeats 0
namespace Lw
open PySem PySem.Spec L2 U
open PyProof.Rows hiding St
/-! ### what a policy is, in plain Lean -/
def btw (d : D) (lo hi : Int) : Bool := match d with
  | .int i => decide (lo ≤ i) && decide (i ≤ hi)
  | _ => false
def entL : Int → List D → Bool
  | _, [] => true
  | lo, .tup [.int a, b] :: r => btw (.int a) lo 59 && btw b 0 9999999999999999999999999999999999999999 && entL (a + 1) r
  | _, _ :: _ => false
def entD : D → Bool
  | .tup ds => decide (ds.length ≤ 60) && entL 0 ds
  | _ => false
def facD : D → D → Bool
  | .int t, .int b => btw (.int t) 1 100 && btw (.int b) 1 100 && decide (5 * b ≤ 4 * t)
  | _, _ => false
def polL : Str → List D → Bool
  | s, [] => s == "exact" || s == "endless"
  | s, [x] => (s == "table" && entD x) || (s == "step" && btw x 0 1000000000000000000000000000000)
  | s, [x, y] => s == "factor" && facD x y
  | _, _ => false
def polD : D → Bool
  | .tup (.str s :: r) => polL s r
  | _ => false
/-! ### specs -/
def sp_is_integer : USp := fun ds pen n Q _ => match ds with
  | [x] => x.tyn.isSome = true ∧ Q (.bl (match x with | .int _ => true | _ => false)) n
  | _ => False
def sp_is_between : USp := fun ds pen n Q _ => match ds with
  | [x, .int lo, .int hi] => x.tyn.isSome = true ∧ Q (.bl (btw x lo hi)) n
  | _ => False
def sp_are_entries : USp := fun ds pen n Q _ => match ds with
  | [x] => (∃ k, D.fit k x = true) ∧ Q (.bl (entD x)) n
  | _ => False
def sp_is_factor : USp := fun ds pen n Q _ => match ds with
  | [x, y] => (x.tyn.isSome = true ∧ y.tyn.isSome = true) ∧ Q (.bl (facD x y)) n
  | _ => False
def sp_is_policy : USp := fun ds pen n Q _ => match ds with
  | [x] => (∃ k, D.fit k x = true) ∧ Q (.bl (polD x)) n
  | _ => False
/-! ### policies of all forms -/
def enD (e : Int × Int) : D := .tup [.int e.1, .int e.2]
inductive Py where | exact | endless | step (s : Int) | factor (t b : Int) | table (es : List (Int × Int))
def Py.d : Py → D
  | .exact => .tup [.str "exact"]
  | .endless => .tup [.str "endless"]
  | .step s => .tup [.str "step", .int s]
  | .factor t b => .tup [.str "factor", .int t, .int b]
  | .table es => .tup [.str "table", .tup (es.map enD)]
/-- entries in order, from lo on -/
def asc : Int → List (Int × Int) → Prop
  | _, [] => True
  | lo, e :: r => lo ≤ e.1 ∧ e.1 ≤ 59 ∧ 0 ≤ e.2 ∧ e.2 ≤ 9999999999999999999999999999999999999999 ∧ asc (e.1 + 1) r
def Py.ok : Py → Prop
  | .step s => 0 ≤ s ∧ s ≤ 1000000000000000000000000000000
  | .factor t b => 1 ≤ t ∧ t ≤ 100 ∧ 1 ≤ b ∧ b ≤ 100 ∧ 5 * b ≤ 4 * t
  | .table es => es.length ≤ 60 ∧ asc 0 es
  | _ => True
def entAt (es : List (Int × Int)) (st : Int) : Option (Int × Int) := es.find? fun e => decide (e.1 = st)
def Py.cap : Py → Int → Int → Option Int
  | .exact, _, need => some need
  | .endless, _, _ => none
  | .step s, _, need => some (need + s)
  | .factor t b, _, need => some ((need * t + b - 1) / b)
  | .table es, st, need => some (match entAt es st with
    | some e => if need < e.2 then e.2 else need
    | none => need)
def oD : Option Int → D
  | some c => .int c
  | none => .non
theorem asc_le : ∀ {es : List (Int × Int)} {lo lo' : Int}, asc lo es → lo' ≤ lo → asc lo' es
  | [], _, _, _, _ => trivial
  | _ :: _, _, _, h, k => ⟨by have := h.1; omega, h.2⟩
theorem asc_no : ∀ {es : List (Int × Int)} {lo st : Int}, asc lo es → st < lo → es.filter (fun e => decide (e.1 = st)) = []
  | [], _, _, _, _ => rfl
  | e :: r, lo, st, h, k => by
    have h1 := h.1
    rw [List.filter_cons, decide_eq_false (by omega), if_neg Bool.false_ne_true]
    exact asc_no h.2.2.2.2 (by omega)
/-- at most one entry of a statement -/
theorem asc_one : ∀ {es : List (Int × Int)} {lo st : Int}, asc lo es → es.filter (fun e => decide (e.1 = st)) = (entAt es st).toList
  | [], _, _, _ => rfl
  | e :: r, lo, st, h => by
    unfold entAt
    rw [List.filter_cons, List.find?_cons]
    by_cases q : e.1 = st
    · rw [decide_eq_true q, if_pos rfl, asc_no h.2.2.2.2 (by omega)]
      rfl
    · rw [decide_eq_false q, if_neg Bool.false_ne_true]
      exact asc_one h.2.2.2.2
theorem asc_entL : ∀ {es : List (Int × Int)} {lo : Int}, asc lo es → entL lo (es.map enD) = true
  | [], _, _ => rfl
  | e :: r, lo, h => by
    obtain ⟨h1, h2, h3, h4, h5⟩ := h
    have := asc_entL h5
    simp [enD, entL, btw, h1, h2, h3, h4, this]
theorem asc_mem : ∀ {es : List (Int × Int)} {lo : Int}, asc lo es → 0 ≤ lo → ∀ e ∈ es, 0 ≤ e.1 ∧ e.1 ≤ 59 ∧ 0 ≤ e.2 ∧ e.2 ≤ 9999999999999999999999999999999999999999
  | [], _, _, _, _, he => by cases he
  | e :: r, lo, h, h0, x, hx => by
    obtain ⟨h1, h2, h3, h4, h5⟩ := h
    rcases List.mem_cons.mp hx with rfl | hx
    · exact ⟨by omega, h2, h3, h4⟩
    · exact asc_mem h5 (by omega) x hx
theorem fits_all {k : Nat} : ∀ {ds : List D}, (∀ d ∈ ds, D.fit k d = true) → D.fits k ds = true
  | [], _ => rfl
  | d :: ds, h => by
    simp only [D.fits, Bool.and_eq_true]
    exact ⟨h d List.mem_cons_self, fits_all fun e he => h e (List.mem_cons_of_mem _ he)⟩
theorem fit_py {P : Py} (h : P.ok) : D.fit 3 P.d = true := by
  cases P with
  | exact => decide +kernel
  | endless => decide +kernel
  | step s =>
    obtain ⟨h1, h2⟩ := h
    have e : s.natAbs < 10 ^ 60 := by omega
    have w : PyData.strOk ("step" : Str) = true := by decide +kernel
    simp only [Py.d, D.fit, D.fits, decide_eq_true e, w, Bool.and_self]
  | factor t b =>
    obtain ⟨h1, h2, h3, h4, _⟩ := h
    have e : t.natAbs < 10 ^ 60 := by omega
    have e2 : b.natAbs < 10 ^ 60 := by omega
    have w : PyData.strOk ("factor" : Str) = true := by decide +kernel
    simp only [Py.d, D.fit, D.fits, decide_eq_true e, decide_eq_true e2, w, Bool.and_self]
  | table es =>
    have w : PyData.strOk ("table" : Str) = true := by decide +kernel
    have m : D.fits 1 (es.map enD) = true := fits_all fun d hd => by
      obtain ⟨e, he, rfl⟩ := List.mem_map.mp hd
      obtain ⟨h1, h2, h3, h4⟩ := asc_mem h.2 (Int.le_refl _) e he
      have e1 : e.1.natAbs < 10 ^ 60 := by omega
      have e2 : e.2.natAbs < 10 ^ 60 := by omega
      simp only [enD, D.fit, D.fits, decide_eq_true e1, decide_eq_true e2, Bool.and_self]
    simp only [Py.d, D.fit, D.fits, w, m, Bool.and_self]
theorem pol_py {P : Py} (h : P.ok) : polD P.d = true := by
  cases P with
  | exact => rfl
  | endless => rfl
  | step s =>
    have e : btw (.int s) 0 1000000000000000000000000000000 = true := by simp [btw, h.1, h.2]
    show ((("step" : Str) == "table") && entD (.int s) || (("step" : Str) == "step") && btw (.int s) 0 1000000000000000000000000000000) = true
    rw [e]
    rfl
  | factor t b =>
    obtain ⟨h1, h2, h3, h4, h5⟩ := h
    show ((("factor" : Str) == "factor") && facD (.int t) (.int b)) = true
    simp [facD, btw, h1, h2, h3, h4, h5]
  | table es =>
    have e : entD (.tup (es.map enD)) = true := by simp [entD, h.1, asc_entL h.2]
    show ((("table" : Str) == "table") && entD (.tup (es.map enD)) || (("table" : Str) == "step") && btw (.tup (es.map enD)) 0 1000000000000000000000000000000) = true
    rw [e]
    rfl
def sp_need_policy : USp := fun ds pen n Q E => match ds with
  | [x] => (∃ k, D.fit k x = true) ∧ (polD x = true → Q .non n) ∧ (polD x = false → E ⟨.own "InvalidPolicy", none⟩ n)
  | _ => False
def sp_chosen : USp := fun ds pen n Q _ => ∃ (P : Py) (st need : Int), ds = [P.d, .int st, .int need] ∧ P.ok ∧ Q (oD (P.cap st need)) n
theorem len_chosen : ∀ ds pen n Q E, sp_chosen ds pen n Q E → ds.length = 3 := by
  rintro ds pen n Q E ⟨P, x, z, rfl, _⟩
  rfl
/-! ### texts -/
def nS (i : Int) : Str := toString i
theorem sapp_assoc (a b c : Str) : a ++ b ++ c = a ++ (b ++ c) := by
  obtain ⟨a⟩ := a
  obtain ⟨b⟩ := b
  obtain ⟨c⟩ := c
  show Str.mk (a ++ b ++ c) = Str.mk (a ++ (b ++ c))
  rw [Array.append_assoc]
theorem empty_app (a : Str) : Str.empty ++ a = a := by
  obtain ⟨a⟩ := a
  show Str.mk (#[] ++ a) = Str.mk a
  rw [Array.empty_append]
theorem nil_app (a : Str) : ("" : Str) ++ a = a := empty_app a
theorem app_nil (a : Str) : a ++ ("" : Str) = a := by
  obtain ⟨a⟩ := a
  show Str.mk (a ++ #[]) = Str.mk a
  rw [Array.append_empty]
theorem nS_len {i : Int} (h : i.natAbs < 10 ^ 60) : (nS i).length ≤ 61 := by
  have := int_text_length_le10 (k := 60) (by decide) h
  show (Str.ofString (toString i)).length ≤ 61
  rw [PySem.ofString_length]
  exact this
theorem str_pos {i : Int} : 0 < (toString i).length := by
  cases i with
  | ofNat m =>
    show 0 < (Nat.repr m).length
    have := String.length_toList (s := Nat.repr m)
    rw [← String.length_toList, Nat.toList_repr]
    exact Nat.length_toDigits_pos
  | negSucc m =>
    show 0 < ("-" ++ Nat.repr (m + 1)).length
    rw [String.length_append]
    have : "-".length = 1 := rfl
    omega
theorem nS_pos (i : Int) : 0 < (nS i).length := by
  show 0 < (Str.ofString (toString i)).length
  rw [PySem.ofString_length]
  exact str_pos
theorem strOk_of (s : String) : PyData.strOk (Str.ofString s) = true := by
  rw [Str.ofString_eq_toList]
  show Array.all _ _ = true
  rw [List.all_toArray, List.all_map, List.all_eq_true]
  intro c _
  have := c.valid
  refine decide_eq_true ?_
  show c.val.toNat < 0x110000
  rcases this with h | h
  · have : c.val.toNat < 0xd800 := h
    omega
  · exact h.2
theorem strOk_app {a b : Str} (ha : PyData.strOk a = true) (hb : PyData.strOk b = true) : PyData.strOk (a ++ b) = true := by
  cases a; cases b
  show Array.all _ _ = true
  simp only [PyData.strOk] at ha hb
  show Array.all (_ ++ _) _ = true
  rw [Array.all_append, ha, hb]; rfl
def Tx (k : Nat) (s : Str) : Prop := PyData.strOk s = true ∧ s.length ≤ k
theorem tx_lit {s : String} (k : Nat) (h : s.length ≤ k) : Tx k s := ⟨strOk_of s, by rw [PySem.ofString_length]; exact h⟩
theorem tx_app {a b : Str} {j k : Nat} (ha : Tx j a) (hb : Tx k b) : Tx (j + k) (a ++ b) := ⟨strOk_app ha.1 hb.1, by rw [strLen_append]; have := ha.2; have := hb.2; omega⟩
theorem tx_nS {i : Int} (h : i.natAbs < 10 ^ 60) : Tx 61 (nS i) := ⟨strOk_of _, nS_len h⟩
theorem Tx.le {j k : Nat} {s : Str} (h : Tx j s) (hk : j ≤ k) : Tx k s := ⟨h.1, Nat.le_trans h.2 hk⟩
theorem join_snoc (a : Str) : ∀ (ys : List Str) (y : Str), ys ≠ [] → Str.join a (ys ++ [y]) = Str.join a ys ++ a ++ y
  | [], _, h => absurd rfl h
  | [x], y, _ => rfl
  | x :: z :: r, y, _ => by
    show x ++ a ++ Str.join a ((z :: r) ++ [y]) = x ++ a ++ Str.join a (z :: r) ++ a ++ y
    rw [join_snoc a (z :: r) y (by simp)]
    simp only [sapp_assoc]
theorem tx_join {a : Str} {j k : Nat} (ha : Tx j a) : ∀ {ys : List Str}, (∀ y ∈ ys, Tx k y) → Tx (ys.length * (j + k)) (Str.join a ys)
  | [], _ => tx_lit (s := "") _ (by simp)
  | [x], h => (h x List.mem_cons_self).le (by simp)
  | x :: z :: r, h => by
    have h1 := tx_app (tx_app (h x List.mem_cons_self) ha) (tx_join ha (ys := z :: r) fun y hy => h y (List.mem_cons_of_mem _ hy))
    refine h1.le ?_
    simp only [List.length_cons]
    rw [Nat.add_mul (r.length + 1) 1 (j + k)]
    omega
theorem join_sz {a : Str} {j k : Nat} (ha : a.length ≤ j) {ys : List Str} (h : ∀ y ∈ ys, y.length ≤ k) (hl : ys.length * (j + k) ≤ 16777216) : joinSz a ys := by
  unfold joinSz
  have s : (ys.map (·.length)).sum ≤ ys.length * k := by
    clear hl
    induction ys with
    | nil => simp
    | cons y ys ih =>
      have := h y List.mem_cons_self
      have := ih fun z hz => h z (List.mem_cons_of_mem _ hz)
      simp only [List.map_cons, List.sum_cons, List.length_cons]
      rw [Nat.add_mul]; omega
  have t : ys.length * a.length ≤ ys.length * j := Nat.mul_le_mul_left _ ha
  rw [Nat.mul_add] at hl
  omega
/-! ### numbers of no great length -/
def smallI (i : Int) : Prop := i.natAbs < 10 ^ 60
theorem small_log {i : Int} (h : smallI i) : i.natAbs.log2 < 1920 := log2_60 h
/-! ### policies as texts -/
def entT (e : Int × Int) : Str := nS e.1 ++ (":" ++ nS e.2)
def polW : Py → List Str
  | .exact => ["exact"]
  | .endless => ["endless"]
  | .step s => ["step", nS s]
  | .factor t b => ["factor", nS t ++ ("/" ++ nS b)]
  | .table es => "table" :: es.map entT
def polT (P : Py) : Str := Str.join " " (polW P)
/-- a number without a sign, of at most forty digits -/
def natI (i : Int) : Prop := 0 ≤ i ∧ i ≤ 9999999999999999999999999999999999999999
theorem nat_small {i : Int} (h : natI i) : smallI i := by unfold natI at h; unfold smallI; omega
theorem nS_tl {i : Int} (h : natI i) : TL.tl (nS i) = TL.numL i.toNat := by
  obtain ⟨n, rfl⟩ : ∃ n : Nat, i = n := ⟨i.toNat, by have := h.1; omega⟩
  rw [Int.toNat_natCast]
  exact TL.tl_num n
theorem nS_free {i : Int} (h : natI i) {c : Nat} (hc : c < 48 ∨ 57 < c) : c ∉ TL.tl (nS i) := by rw [nS_tl h]; exact TL.numL_free hc
theorem nS_l40 {i : Int} (h : natI i) : (nS i).length ≤ 40 := by
  rw [TL.len_tl, nS_tl h]
  refine TL.numL_len (by decide) ?_
  have := h.2
  have := h.1
  omega
theorem nS_int {i : Int} (h : natI i) : PySem.intText? (nS i) = some i := by
  have hl := nS_l40 h
  obtain ⟨n, rfl⟩ : ∃ n : Nat, i = n := ⟨i.toNat, by have := h.1; omega⟩
  refine TL.int_num ?_
  rw [TL.len_tl, nS_tl h, Int.toNat_natCast] at hl
  omega
theorem nS_digits {i : Int} (h : natI i) : ∀ c ∈ (nS i).cps.toList, c ∈ (Str.ofString "0123456789").cps.toList := by
  intro c hc
  have hc : c ∈ TL.tl (nS i) := hc
  rw [nS_tl h] at hc
  have r := TL.numL_digits _ c hc
  have e : (Str.ofString "0123456789").cps.toList = [48, 49, 50, 51, 52, 53, 54, 55, 56, 57] := by decide +kernel
  rw [e]
  simp only [List.mem_cons, List.not_mem_nil, or_false]
  omega
theorem rmpre_none {s : Str} {c : Nat} (h : c ∉ TL.tl s) : Txt.removeprefix s ⟨#[c]⟩ = s := by
  have e : PySem.Builtin.Str.subAt s ⟨#[c]⟩ 0 = false := by
    cases q : PySem.Builtin.Str.subAt s ⟨#[c]⟩ 0 with
    | false => rfl
    | true =>
      exfalso
      have q2 : (s.cps.extract 0 (0 + 1) == #[c]) = true := q
      have q3 := eq_of_beq q2
      have m : c ∈ (s.cps.extract 0 (0 + 1)).toList := by rw [q3]; simp
      rw [Array.toList_extract] at m
      refine h ?_
      show c ∈ s.cps.toList
      have m2 : c ∈ (s.cps.toList.drop 0).take (0 + 1 - 0) := m
      exact List.mem_of_mem_drop (List.mem_of_mem_take m2)
  unfold Txt.removeprefix
  rw [e]
  rfl
theorem lit1 {s : String} {c : Nat} (h : (Str.ofString s).cps.toList = [c]) : Str.ofString s = ⟨#[c]⟩ := TL.ext_tl h
theorem tl_cons {a b : Str} {c : Nat} (ha : c ∉ TL.tl a) (hb : c ∉ TL.tl b) : c ∉ TL.tl (a ++ b) := by
  rw [TL.tl_append]
  intro h
  rcases List.mem_append.mp h with h | h
  · exact ha h
  · exact hb h
theorem join_split {y : Str} {c : Nat} (ey : TL.tl y = [c]) (hk : c < 256) {parts : List Str} (hne : parts ≠ []) (hp : ∀ p ∈ parts, c ∉ TL.tl p) : Txt.split (Str.join y parts) y = parts := by
  rw [← TL.join_eq]
  refine TL.split_join ey ?_ hne hp
  have e : y = ⟨#[c]⟩ := TL.ext_tl ey
  rw [e]
  simp [hk]
theorem two_split {y a b : Str} {c : Nat} (ey : TL.tl y = [c]) (hk : c < 256) (ha : c ∉ TL.tl a) (hb : c ∉ TL.tl b) : Txt.split (a ++ (y ++ b)) y = [a, b] := by
  have : Str.join y [a, b] = a ++ (y ++ b) := by show a ++ y ++ b = _; rw [sapp_assoc]
  rw [← this]
  refine join_split ey hk (by simp) fun p hp => ?_
  rcases List.mem_cons.mp hp with rfl | hp
  · exact ha
  · rw [List.mem_singleton] at hp; subst hp; exact hb
theorem ent_nat {es : List (Int × Int)} (h : asc 0 es) : ∀ e ∈ es, natI e.1 ∧ natI e.2 := fun e he => by
  obtain ⟨h1, h2, h3, h4⟩ := asc_mem h (Int.le_refl _) e he
  exact ⟨⟨h1, by omega⟩, h3, h4⟩
theorem sp_tl : TL.tl (Str.ofString " ") = [32] := by decide +kernel
theorem co_tl : TL.tl (Str.ofString ":") = [58] := by decide +kernel
theorem sl_tl : TL.tl (Str.ofString "/") = [47] := by decide +kernel
theorem mi_tl : TL.tl (Str.ofString "-") = [45] := by decide +kernel
theorem lit_free {s : String} {c : Nat} (h : ((Str.ofString s).cps.toList.contains c) = false := by decide +kernel) : c ∉ TL.tl (Str.ofString s) := fun m => by
  rw [List.contains_iff_mem.mpr m] at h
  cases h
theorem step_nat {s : Int} (h : 0 ≤ s ∧ s ≤ 1000000000000000000000000000000) : natI s := ⟨h.1, by omega⟩
theorem small_nI {s : Int} (h : 1 ≤ s ∧ s ≤ 100) : natI s := ⟨by omega, by omega⟩
theorem words_free {P : Py} (ok : P.ok) : ∀ w ∈ polW P, 32 ∉ TL.tl w := by
  cases P with
  | exact => intro w h; rw [List.mem_singleton.mp h]; exact lit_free
  | endless => intro w h; rw [List.mem_singleton.mp h]; exact lit_free
  | step s =>
    intro w h
    rcases List.mem_cons.mp h with rfl | h
    · exact lit_free
    · rw [List.mem_singleton.mp h]; exact nS_free (step_nat ok) (by decide)
  | factor t b =>
    intro w h
    rcases List.mem_cons.mp h with rfl | h
    · exact lit_free
    · rw [List.mem_singleton.mp h]
      exact tl_cons (nS_free (small_nI ⟨ok.1, ok.2.1⟩) (by decide)) (tl_cons lit_free (nS_free (small_nI ⟨ok.2.2.1, ok.2.2.2.1⟩) (by decide)))
  | table es =>
    intro w h
    rcases List.mem_cons.mp h with rfl | h
    · exact lit_free
    · obtain ⟨e, he, rfl⟩ := List.mem_map.mp h
      obtain ⟨h1, h2⟩ := ent_nat ok.2 e he
      exact tl_cons (nS_free h1 (by decide)) (tl_cons lit_free (nS_free h2 (by decide)))
theorem words_split {P : Py} (ok : P.ok) : Txt.split (polT P) " " = polW P := join_split sp_tl (by decide) (by cases P <;> simp [polW]) (words_free ok)
theorem word_tx {P : Py} (ok : P.ok) : ∀ w ∈ polW P, Tx 130 w := by
  cases P with
  | exact => intro w h; rw [List.mem_singleton.mp h]; exact tx_lit _ (by decide)
  | endless => intro w h; rw [List.mem_singleton.mp h]; exact tx_lit _ (by decide)
  | step s =>
    intro w h
    rcases List.mem_cons.mp h with rfl | h
    · exact tx_lit _ (by decide)
    · rw [List.mem_singleton.mp h]; exact (tx_nS (nat_small (step_nat ok))).le (by decide)
  | factor t b =>
    intro w h
    rcases List.mem_cons.mp h with rfl | h
    · exact tx_lit _ (by decide)
    · rw [List.mem_singleton.mp h]
      exact (tx_app (tx_nS (nat_small (small_nI ⟨ok.1, ok.2.1⟩))) (tx_app (tx_lit (s := "/") 1 (by decide)) (tx_nS (nat_small (small_nI ⟨ok.2.2.1, ok.2.2.2.1⟩))))).le (by decide)
  | table es =>
    intro w h
    rcases List.mem_cons.mp h with rfl | h
    · exact tx_lit _ (by decide)
    · obtain ⟨e, he, rfl⟩ := List.mem_map.mp h
      obtain ⟨h1, h2⟩ := ent_nat ok.2 e he
      exact (tx_app (tx_nS (nat_small h1)) (tx_app (tx_lit (s := ":") 1 (by decide)) (tx_nS (nat_small h2)))).le (by decide)
theorem pol_len {P : Py} (ok : P.ok) : (polW P).length ≤ 61 := by
  cases P with
  | table es => have := ok.1; simp [polW]; omega
  | _ => simp [polW]
theorem polT_tx {P : Py} (ok : P.ok) : Tx 8000 (polT P) := by
  have := tx_join (tx_lit (s := " ") 1 (by decide)) (word_tx ok)
  have l := pol_len ok
  exact this.le (by omega)
def sp_policy_text : USp := fun ds pen n Q _ => ∃ P : Py, ds = [P.d] ∧ P.ok ∧ Q (.str (polT P)) n
theorem len_policy_text : ∀ ds pen n Q E, sp_policy_text ds pen n Q E → ds.length = 1 := by rintro ds pen n Q E ⟨P, rfl, _⟩; rfl
def sp_number_in : USp := fun ds pen n Q _ => ∃ i : Int, ds = [.str (nS i)] ∧ natI i ∧ Q (.int i) n
theorem len_number_in : ∀ ds pen n Q E, sp_number_in ds pen n Q E → ds.length = 1 := by rintro ds pen n Q E ⟨P, rfl, _⟩; rfl
def sp_numbers_in : USp := fun ds pen n Q _ => ∃ ns : List Int, ds = [.lst (ns.map fun i => .str (nS i))] ∧ ns.length ≤ 1000 ∧ (∀ i ∈ ns, natI i) ∧ Q (.tup (ns.map D.int)) n
theorem len_numbers_in : ∀ ds pen n Q E, sp_numbers_in ds pen n Q E → ds.length = 1 := by rintro ds pen n Q E ⟨P, rfl, _⟩; rfl
def sp_entries_in : USp := fun ds pen n Q _ => ∃ es : List (Int × Int), ds = [.lst (es.map fun e => .str (entT e))] ∧ es.length ≤ 1000 ∧ (∀ e ∈ es, natI e.1 ∧ natI e.2) ∧ Q (.tup (es.map enD)) n
theorem len_entries_in : ∀ ds pen n Q E, sp_entries_in ds pen n Q E → ds.length = 1 := by rintro ds pen n Q E ⟨P, rfl, _⟩; rfl
def sp_policy_in : USp := fun ds pen n Q _ => ∃ P : Py, ds = [.lst ((polW P).map D.str)] ∧ P.ok ∧ Q P.d n
theorem len_policy_in : ∀ ds pen n Q E, sp_policy_in ds pen n Q E → ds.length = 1 := by rintro ds pen n Q E ⟨P, rfl, _⟩; rfl
def sp_read_policy : USp := fun ds pen n Q _ => ∃ P : Py, ds = [.str (polT P)] ∧ P.ok ∧ Q P.d n
theorem len_read_policy : ∀ ds pen n Q E, sp_read_policy ds pen n Q E → ds.length = 1 := by rintro ds pen n Q E ⟨P, rfl, _⟩; rfl
abbrev sp__law_draw : USp := spDraw false
theorem len__law_draw : ∀ ds pen n Q E, sp__law_draw ds pen n Q E → ds.length = 2 := len_draw
def sp__law_policy : USp := fun ds pen n Q _ => match ds with
  | [x] => isPen false pen x ∧ 1000 ≤ n ∧ ∀ (P : Py) m, P.ok → n ≤ m + 1000 → Q P.d m
  | _ => False
def sp__law_words : USp := fun ds pen n Q _ => ∃ P : Py, ds = [P.d] ∧ P.ok ∧ Q (.str (polT P)) n
theorem len__law_words : ∀ ds pen n Q E, sp__law_words ds pen n Q E → ds.length = 1 := by rintro ds pen n Q E ⟨P, rfl, _⟩; rfl
def sp__law_is_right : USp := fun ds pen n Q _ => ∃ P : Py, ds = [P.d] ∧ P.ok ∧ Q (.bl true) n
theorem len__law_is_right : ∀ ds pen n Q E, sp__law_is_right ds pen n Q E → ds.length = 1 := by rintro ds pen n Q E ⟨P, rfl, _⟩; rfl
end Lw


set_option Elab.async false
set_option linter.all false
set_option maxRecDepth 100000
set_option maxHeartbeats 0

namespace Lw
open PySem PySem.Spec L2 U
open PyProof.Rows hiding St
def u_is_integer (W : WU) : US :=
  (uRet (uAnd (uB gIsi (uCons (uVar 0) (uCons (uC (.ty "int")) uNil))) (uNot (uB gIsi (uCons (uVar 0) (uCons (uC (.ty "bool")) uNil))))))
theorem len_is_integer : ∀ ds pen n Q E, sp_is_integer ds pen n Q E → ds.length = 1 := by
  intro ds pen n Q E h
  unfold sp_is_integer at h
  split at h
  · rfl
  · exact h.elim
abbrev N_is_integer : List Str := ["thing"]
theorem run_is_integer {pen : PenT} {PX : UX → Nat → Prop} (h : ∀ x0 n (Q : D → Nat → Prop), sp_is_integer [x0] pen n Q PX → u_is_integer (Wd pen PX) { nx := fun ρ => Q .non ρ.fuel, rt := Q } ⟨[.dat x0], pen, n⟩) :
    ∀ ds n (Q : D → Nat → Prop), sp_is_integer ds pen n Q PX → u_is_integer (Wd pen PX) { nx := fun ρ => Q .non ρ.fuel, rt := Q } ⟨startU N_is_integer ds, pen, n⟩ := by
  intro ds n Q hs
  have hl := len_is_integer _ _ _ _ _ hs
  match ds, hl, hs with
  | [x0], _, hs => exact h x0 n Q hs
def u_is_between (W : WU) : US :=
  (uRet (uAnd (uCall sp_is_integer [] W (uCons (uVar 0) uNil)) (uChain gLe gLe (uVar 1) (uVar 0) (uVar 2))))
theorem len_is_between : ∀ ds pen n Q E, sp_is_between ds pen n Q E → ds.length = 3 := by
  intro ds pen n Q E h
  unfold sp_is_between at h
  split at h
  · rfl
  · exact h.elim
abbrev N_is_between : List Str := ["thing", "least", "most"]
theorem run_is_between {pen : PenT} {PX : UX → Nat → Prop} (h : ∀ x0 x1 x2 n (Q : D → Nat → Prop), sp_is_between [x0, x1, x2] pen n Q PX → u_is_between (Wd pen PX) { nx := fun ρ => Q .non ρ.fuel, rt := Q } ⟨[.dat x0, .dat x1, .dat x2], pen, n⟩) :
    ∀ ds n (Q : D → Nat → Prop), sp_is_between ds pen n Q PX → u_is_between (Wd pen PX) { nx := fun ρ => Q .non ρ.fuel, rt := Q } ⟨startU N_is_between ds, pen, n⟩ := by
  intro ds n Q hs
  have hl := len_is_between _ _ _ _ _ hs
  match ds, hl, hs with
  | [x0, x1, x2], _, hs => exact h x0 x1 x2 n Q hs
def u_policy_text (W : WU) : US :=
  (uSeq (uIfS (uTB (uOp gEqV (uOp gIx (uVar 0) (uC (.int 0))) (uC (.str "step")))) (uRet (uFs [(uC (.str "step ")), (uFmt (uOp gIx (uVar 0) (uC (.int 1))))])) uSkip) (uSeq (uIfS (uTB (uOp gEqV (uOp gIx (uVar 0) (uC (.int 0))) (uC (.str "factor")))) (uRet (uFs [(uC (.str "factor ")), (uFmt (uOp gIx (uVar 0) (uC (.int 1)))), (uC (.str "/")), (uFmt (uOp gIx (uVar 0) (uC (.int 2))))])) uSkip) (uSeq (uIfS (uTB (uOp gEqV (uOp gIx (uVar 0) (uC (.int 0))) (uC (.str "table")))) (uRet (uM1 gJoin (uC (.str " ")) (uOp gAdd (uLst (uCons (uC (.str "table")) uNil)) (uFr (uComp (uiS (uOp gIx (uVar 0) (uC (.int 1)))) [1, 2] (ugT [1, 2]) uYes (uFs [(uFmt (uVar 1)), (uC (.str ":")), (uFmt (uVar 2))])))))) uSkip) (uRet (uOp gIx (uVar 0) (uC (.int 0)))))))
abbrev N_policy_text : List Str := ["policy", "statement", "capacity"]
theorem run_policy_text {pen : PenT} {PX : UX → Nat → Prop} (h : ∀ x0 n (Q : D → Nat → Prop), sp_policy_text [x0] pen n Q PX → u_policy_text (Wd pen PX) { nx := fun ρ => Q .non ρ.fuel, rt := Q } ⟨[.dat x0, .emp, .emp], pen, n⟩) :
    ∀ ds n (Q : D → Nat → Prop), sp_policy_text ds pen n Q PX → u_policy_text (Wd pen PX) { nx := fun ρ => Q .non ρ.fuel, rt := Q } ⟨startU N_policy_text ds, pen, n⟩ := by
  intro ds n Q hs
  have hl := len_policy_text _ _ _ _ _ hs
  match ds, hl, hs with
  | [x0], _, hs => exact h x0 n Q hs
def u_are_entries (W : WU) : US :=
  (uSeq (uIfS (uOrT (uNotT (uTru (uB gIsi (uCons (uVar 0) (uCons (uC (.ty "tuple")) uNil))))) (uTB (uOp gGt (uB gLen (uCons (uVar 0) uNil)) (uC (.int 60))))) (uRet (uC (.bl false))) uSkip) (uSeq (uSet 1 (uC (.int 0))) (uSeq (uFor (uiS (uVar 0)) (ugN 2) (uSeq (uIfS (uOrT (uNotT (uTru (uB gIsi (uCons (uVar 2) (uCons (uC (.ty "tuple")) uNil))))) (uTB (uOp gNe (uB gLen (uCons (uVar 2) uNil)) (uC (.int 2))))) (uRet (uC (.bl false))) uSkip) (uSeq (uIfS (uOrT (uNotT (uTru (uCall sp_is_between [] W (uCons (uOp gIx (uVar 2) (uC (.int 0))) (uCons (uVar 1) (uCons (uOp gSub (uC (.int 60)) (uC (.int 1))) uNil)))))) (uNotT (uTru (uCall sp_is_between [] W (uCons (uOp gIx (uVar 2) (uC (.int 1))) (uCons (uC (.int 0)) (uCons (uOp gSub (uC (.int 10000000000000000000000000000000000000000)) (uC (.int 1))) uNil))))))) (uRet (uC (.bl false))) uSkip) (uSet 1 (uOp gAdd (uOp gIx (uVar 2) (uC (.int 0))) (uC (.int 1))))))) (uRet (uC (.bl true))))))
theorem len_are_entries : ∀ ds pen n Q E, sp_are_entries ds pen n Q E → ds.length = 1 := by
  intro ds pen n Q E h
  unfold sp_are_entries at h
  split at h
  · rfl
  · exact h.elim
abbrev N_are_entries : List Str := ["thing", "least", "entry"]
theorem run_are_entries {pen : PenT} {PX : UX → Nat → Prop} (h : ∀ x0 n (Q : D → Nat → Prop), sp_are_entries [x0] pen n Q PX → u_are_entries (Wd pen PX) { nx := fun ρ => Q .non ρ.fuel, rt := Q } ⟨[.dat x0, .emp, .emp], pen, n⟩) :
    ∀ ds n (Q : D → Nat → Prop), sp_are_entries ds pen n Q PX → u_are_entries (Wd pen PX) { nx := fun ρ => Q .non ρ.fuel, rt := Q } ⟨startU N_are_entries ds, pen, n⟩ := by
  intro ds n Q hs
  have hl := len_are_entries _ _ _ _ _ hs
  match ds, hl, hs with
  | [x0], _, hs => exact h x0 n Q hs
def u_is_factor (W : WU) : US :=
  (uRet (uAnd (uCall sp_is_between [] W (uCons (uVar 0) (uCons (uC (.int 1)) (uCons (uC (.int 100)) uNil)))) (uAnd (uCall sp_is_between [] W (uCons (uVar 1) (uCons (uC (.int 1)) (uCons (uC (.int 100)) uNil)))) (uOp gGe (uOp gMul (uC (.int 4)) (uVar 0)) (uOp gMul (uC (.int 5)) (uVar 1))))))
theorem len_is_factor : ∀ ds pen n Q E, sp_is_factor ds pen n Q E → ds.length = 2 := by
  intro ds pen n Q E h
  unfold sp_is_factor at h
  split at h
  · rfl
  · exact h.elim
abbrev N_is_factor : List Str := ["top", "bottom"]
theorem run_is_factor {pen : PenT} {PX : UX → Nat → Prop} (h : ∀ x0 x1 n (Q : D → Nat → Prop), sp_is_factor [x0, x1] pen n Q PX → u_is_factor (Wd pen PX) { nx := fun ρ => Q .non ρ.fuel, rt := Q } ⟨[.dat x0, .dat x1], pen, n⟩) :
    ∀ ds n (Q : D → Nat → Prop), sp_is_factor ds pen n Q PX → u_is_factor (Wd pen PX) { nx := fun ρ => Q .non ρ.fuel, rt := Q } ⟨startU N_is_factor ds, pen, n⟩ := by
  intro ds n Q hs
  have hl := len_is_factor _ _ _ _ _ hs
  match ds, hl, hs with
  | [x0, x1], _, hs => exact h x0 x1 n Q hs
def u_is_policy (W : WU) : US :=
  (uSeq (uIfS (uOrT (uNotT (uTru (uB gIsi (uCons (uVar 0) (uCons (uC (.ty "tuple")) uNil))))) (uOrT (uTB (uOp gEqV (uB gLen (uCons (uVar 0) uNil)) (uC (.int 0)))) (uNotT (uTru (uB gIsi (uCons (uOp gIx (uVar 0) (uC (.int 0))) (uCons (uC (.ty "str")) uNil))))))) (uRet (uC (.bl false))) uSkip) (uSeq (uIfS (uTB (uOp gIn (uOp gIx (uVar 0) (uC (.int 0))) (uTup (uCons (uC (.str "exact")) (uCons (uC (.str "endless")) uNil))))) (uRet (uOp gEqV (uB gLen (uCons (uVar 0) uNil)) (uC (.int 1)))) uSkip) (uSeq (uIfS (uTB (uOp gEqV (uOp gIx (uVar 0) (uC (.int 0))) (uC (.str "table")))) (uRet (uAnd (uOp gEqV (uB gLen (uCons (uVar 0) uNil)) (uC (.int 2))) (uCall sp_are_entries [] W (uCons (uOp gIx (uVar 0) (uC (.int 1))) uNil)))) uSkip) (uSeq (uIfS (uTB (uOp gEqV (uOp gIx (uVar 0) (uC (.int 0))) (uC (.str "step")))) (uRet (uAnd (uOp gEqV (uB gLen (uCons (uVar 0) uNil)) (uC (.int 2))) (uCall sp_is_between [] W (uCons (uOp gIx (uVar 0) (uC (.int 1))) (uCons (uC (.int 0)) (uCons (uC (.int 1000000000000000000000000000000)) uNil)))))) uSkip) (uRet (uAnd (uOp gEqV (uOp gIx (uVar 0) (uC (.int 0))) (uC (.str "factor"))) (uAnd (uOp gEqV (uB gLen (uCons (uVar 0) uNil)) (uC (.int 3))) (uCall sp_is_factor [] W (uCons (uOp gIx (uVar 0) (uC (.int 1))) (uCons (uOp gIx (uVar 0) (uC (.int 2))) uNil))))))))))
theorem len_is_policy : ∀ ds pen n Q E, sp_is_policy ds pen n Q E → ds.length = 1 := by
  intro ds pen n Q E h
  unfold sp_is_policy at h
  split at h
  · rfl
  · exact h.elim
abbrev N_is_policy : List Str := ["thing"]
theorem run_is_policy {pen : PenT} {PX : UX → Nat → Prop} (h : ∀ x0 n (Q : D → Nat → Prop), sp_is_policy [x0] pen n Q PX → u_is_policy (Wd pen PX) { nx := fun ρ => Q .non ρ.fuel, rt := Q } ⟨[.dat x0], pen, n⟩) :
    ∀ ds n (Q : D → Nat → Prop), sp_is_policy ds pen n Q PX → u_is_policy (Wd pen PX) { nx := fun ρ => Q .non ρ.fuel, rt := Q } ⟨startU N_is_policy ds, pen, n⟩ := by
  intro ds n Q hs
  have hl := len_is_policy _ _ _ _ _ hs
  match ds, hl, hs with
  | [x0], _, hs => exact h x0 n Q hs
def u_number_in (W : WU) : US :=
  (uSeq (uSet 1 (uM1 gRmPre (uVar 0) (uC (.str "-")))) (uSeq (uIfS (uOrT (uNotT (uTB (uChain gLe gLe (uC (.int 1)) (uB gLen (uCons (uVar 1) uNil)) (uC (.int 40))))) (uNotT (uTru (uB gAll (uCons (uFr (uComp (uiStr (uVar 1)) [2] (ugN 2) uYes (uOp gInS (uVar 2) (uC (.str "0123456789"))))) uNil))))) (uRet (uC .non)) uSkip) (uRet (uB gIntT (uCons (uVar 0) uNil)))))
abbrev N_number_in : List Str := ["text", "digits", "sign"]
theorem run_number_in {pen : PenT} {PX : UX → Nat → Prop} (h : ∀ x0 n (Q : D → Nat → Prop), sp_number_in [x0] pen n Q PX → u_number_in (Wd pen PX) { nx := fun ρ => Q .non ρ.fuel, rt := Q } ⟨[.dat x0, .emp, .emp], pen, n⟩) :
    ∀ ds n (Q : D → Nat → Prop), sp_number_in ds pen n Q PX → u_number_in (Wd pen PX) { nx := fun ρ => Q .non ρ.fuel, rt := Q } ⟨startU N_number_in ds, pen, n⟩ := by
  intro ds n Q hs
  have hl := len_number_in _ _ _ _ _ hs
  match ds, hl, hs with
  | [x0], _, hs => exact h x0 n Q hs
def u_numbers_in (W : WU) : US :=
  (uRet (uB gTuple (uCons (uFr (uComp (uiS (uVar 0)) [1] (ugN 1) uYes (uCall sp_number_in [] W0 (uCons (uVar 1) uNil)))) uNil)))
abbrev N_numbers_in : List Str := ["words", "word"]
theorem run_numbers_in {pen : PenT} {PX : UX → Nat → Prop} (h : ∀ x0 n (Q : D → Nat → Prop), sp_numbers_in [x0] pen n Q PX → u_numbers_in (Wd pen PX) { nx := fun ρ => Q .non ρ.fuel, rt := Q } ⟨[.dat x0, .emp], pen, n⟩) :
    ∀ ds n (Q : D → Nat → Prop), sp_numbers_in ds pen n Q PX → u_numbers_in (Wd pen PX) { nx := fun ρ => Q .non ρ.fuel, rt := Q } ⟨startU N_numbers_in ds, pen, n⟩ := by
  intro ds n Q hs
  have hl := len_numbers_in _ _ _ _ _ hs
  match ds, hl, hs with
  | [x0], _, hs => exact h x0 n Q hs
def u_entries_in (W : WU) : US :=
  (uRet (uB gTuple (uCons (uFr (uComp (uiS (uVar 0)) [1] (ugN 1) uYes (uCall sp_numbers_in [] W0 (uCons (uM1 gSplit (uVar 1) (uC (.str ":"))) uNil)))) uNil)))
abbrev N_entries_in : List Str := ["words", "word"]
theorem run_entries_in {pen : PenT} {PX : UX → Nat → Prop} (h : ∀ x0 n (Q : D → Nat → Prop), sp_entries_in [x0] pen n Q PX → u_entries_in (Wd pen PX) { nx := fun ρ => Q .non ρ.fuel, rt := Q } ⟨[.dat x0, .emp], pen, n⟩) :
    ∀ ds n (Q : D → Nat → Prop), sp_entries_in ds pen n Q PX → u_entries_in (Wd pen PX) { nx := fun ρ => Q .non ρ.fuel, rt := Q } ⟨startU N_entries_in ds, pen, n⟩ := by
  intro ds n Q hs
  have hl := len_entries_in _ _ _ _ _ hs
  match ds, hl, hs with
  | [x0], _, hs => exact h x0 n Q hs
def u_policy_in (W : WU) : US :=
  (uSeq (uIfS (uTB (uOp gEqV (uOp gIx (uVar 0) (uC (.int 0))) (uC (.str "table")))) (uRet (uTup (uCons (uC (.str "table")) (uCons (uCall sp_entries_in [] W (uCons (uCut (uVar 0) (uPart (uC (.int 1))) uNoP) uNil)) uNil)))) uSkip) (uSeq (uIfS (uTB (uOp gEqV (uOp gIx (uVar 0) (uC (.int 0))) (uC (.str "step")))) (uRet (uOp gAdd (uTup (uCons (uC (.str "step")) uNil)) (uCall sp_numbers_in [] W (uCons (uCut (uVar 0) (uPart (uC (.int 1))) uNoP) uNil)))) uSkip) (uSeq (uIfS (uAndT (uTB (uOp gEqV (uOp gIx (uVar 0) (uC (.int 0))) (uC (.str "factor")))) (uTB (uOp gEqV (uB gLen (uCons (uVar 0) uNil)) (uC (.int 2))))) (uRet (uOp gAdd (uTup (uCons (uC (.str "factor")) uNil)) (uCall sp_numbers_in [] W (uCons (uM1 gSplit (uOp gIx (uVar 0) (uC (.int 1))) (uC (.str "/"))) uNil)))) uSkip) (uRet (uB gTuple (uCons (uVar 0) uNil))))))
abbrev N_policy_in : List Str := ["words"]
theorem run_policy_in {pen : PenT} {PX : UX → Nat → Prop} (h : ∀ x0 n (Q : D → Nat → Prop), sp_policy_in [x0] pen n Q PX → u_policy_in (Wd pen PX) { nx := fun ρ => Q .non ρ.fuel, rt := Q } ⟨[.dat x0], pen, n⟩) :
    ∀ ds n (Q : D → Nat → Prop), sp_policy_in ds pen n Q PX → u_policy_in (Wd pen PX) { nx := fun ρ => Q .non ρ.fuel, rt := Q } ⟨startU N_policy_in ds, pen, n⟩ := by
  intro ds n Q hs
  have hl := len_policy_in _ _ _ _ _ hs
  match ds, hl, hs with
  | [x0], _, hs => exact h x0 n Q hs
def u_read_policy (W : WU) : US :=
  (uSeq (uIfS (uNotT (uTru (uB gIsi (uCons (uVar 0) (uCons (uC (.ty "str")) uNil))))) uNever uSkip) (uSeq (uSet 1 (uCall sp_policy_in [] W (uCons (uM1 gSplit (uVar 0) (uC (.str " "))) uNil))) (uSeq (uIfS (uOrT (uNotT (uTru (uCall sp_is_policy [] W (uCons (uVar 1) uNil)))) (uTB (uOp gNe (uCall sp_policy_text [] W (uCons (uVar 1) uNil)) (uVar 0)))) uNever uSkip) (uRet (uVar 1)))))
abbrev N_read_policy : List Str := ["text", "policy"]
theorem run_read_policy {pen : PenT} {PX : UX → Nat → Prop} (h : ∀ x0 n (Q : D → Nat → Prop), sp_read_policy [x0] pen n Q PX → u_read_policy (Wd pen PX) { nx := fun ρ => Q .non ρ.fuel, rt := Q } ⟨[.dat x0, .emp], pen, n⟩) :
    ∀ ds n (Q : D → Nat → Prop), sp_read_policy ds pen n Q PX → u_read_policy (Wd pen PX) { nx := fun ρ => Q .non ρ.fuel, rt := Q } ⟨startU N_read_policy ds, pen, n⟩ := by
  intro ds n Q hs
  have hl := len_read_policy _ _ _ _ _ hs
  match ds, hl, hs with
  | [x0], _, hs => exact h x0 n Q hs
def u__law_draw (W : WU) : US :=
  (uSeq (uIfS (uTB (uOp gGt (uPenX 0 2) (uC (.int 0)))) (uSeq (uSet 5 (uOp gMod (uPenX 0 2) (uVar 1))) (uSeq (uPenRest 0 (uOp gDiv (uPenX 0 2) (uVar 1))) (uRet (uVar 5)))) uSkip) (uSeq (uSet 2 (uPenX 0 1)) (uSeq (uPenNext 0 (uOp gAdd (uVar 2) (uC (.int 1)))) (uSeq (uSet 3 (uOp gAdd (uOp gMul (uC (.int 75522)) (uVar 2)) (uC (.int 2094)))) (uSeq (uIfS (uTB (uOp gNe (uPenX 0 0) (uLst uNil))) (uSet 3 (uOp gIx (uPenX 0 0) (uOp gMod (uVar 2) (uB gLen (uCons (uPenX 0 0) uNil))))) uSkip) (uSeq (uIfS (uAndT (uTB (uOp gLt (uVar 2) (uB gLen (uCons (uPenX 0 0) uNil)))) (uTB (uOp gGe (uB gAbs (uCons (uVar 3) uNil)) (uOp gPow (uC (.int 10)) (uC (.int 18)))))) (uSeq (uSet 6 (uOp gAdd (uOp gMul (uC (.int 2)) (uB gAbs (uCons (uVar 3) uNil))) (uB gInt (uCons (uOp gLt (uVar 3) (uC (.int 0))) uNil)))) (uSeq (uPenRest 0 (uOp gDiv (uVar 6) (uVar 1))) (uRet (uOp gMod (uVar 6) (uVar 1))))) uSkip) (uSeq (uSet 4 (uOp gMod (uOp gPow (uOp gAdd (uOp gAdd (uOp gMod (uVar 3) (uC (.int 2147483587))) (uOp gMul (uC (.int 318088)) (uVar 2))) (uC (.int 876))) (uC (.int 5))) (uC (.int 2147483543)))) (uSeq (uSet 4 (uOp gMod (uOp gPow (uOp gAdd (uOp gMul (uVar 4) (uOp gAdd (uVar 2) (uC (.int 44148)))) (uOp gMul (uOp gMul (uC (.int 76500)) (uVar 2)) (uVar 2))) (uC (.int 3))) (uC (.int 2147483423)))) (uRet (uOp gMod (uOp gDiv (uVar 4) (uC (.int 32))) (uVar 1)))))))))))
abbrev N__law_draw : List Str := ["_law_pen_here", "_law_size", "_law_turn", "_law_cell", "_law_mixed", "_law_digit", "_law_great"]
theorem run__law_draw {pen : PenT} {PX : UX → Nat → Prop} (h : ∀ x0 x1 n (Q : D → Nat → Prop), sp__law_draw [x0, x1] pen n Q PX → u__law_draw (Wd pen PX) { nx := fun ρ => Q .non ρ.fuel, rt := Q } ⟨[.dat x0, .dat x1, .emp, .emp, .emp, .emp, .emp], pen, n⟩) :
    ∀ ds n (Q : D → Nat → Prop), sp__law_draw ds pen n Q PX → u__law_draw (Wd pen PX) { nx := fun ρ => Q .non ρ.fuel, rt := Q } ⟨startU N__law_draw ds, pen, n⟩ := by
  intro ds n Q hs
  have hl := len__law_draw _ _ _ _ _ hs
  match ds, hl, hs with
  | [x0, x1], _, hs => exact h x0 x1 n Q hs
def u__law_policy (W : WU) : US :=
  (uSeq (uSet 1 (uCall sp__law_draw [] W (uCons (uVar 0) (uCons (uC (.int 6)) uNil)))) (uSeq (uIfS (uTB (uOp gEqV (uVar 1) (uC (.int 0)))) (uRet (uTup (uCons (uC (.str "exact")) uNil))) uSkip) (uSeq (uIfS (uTB (uOp gEqV (uVar 1) (uC (.int 1)))) (uRet (uTup (uCons (uC (.str "endless")) uNil))) uSkip) (uSeq (uIfS (uTB (uOp gEqV (uVar 1) (uC (.int 2)))) (uRet (uTup (uCons (uC (.str "step")) (uCons (uOp gIx (uLst (uCons (uC (.int 0)) (uCons (uC (.int 1)) (uCons (uC (.int 2)) (uCons (uC (.int 3)) (uCons (uCall sp__law_draw [] W (uCons (uVar 0) (uCons (uC (.int 9)) uNil))) (uCons (uOp gPow (uC (.int 10)) (uC (.int 30))) uNil))))))) (uCall sp__law_draw [] W (uCons (uVar 0) (uCons (uC (.int 6)) uNil)))) uNil)))) uSkip) (uSeq (uIfS (uTB (uOp gEqV (uVar 1) (uC (.int 3)))) (uSeq (uSet 5 (uOp gAdd (uC (.int 1)) (uCall sp__law_draw [] W (uCons (uVar 0) (uCons (uOp gIx (uLst (uCons (uC (.int 3)) (uCons (uC (.int 80)) uNil))) (uCall sp__law_draw [] W (uCons (uVar 0) (uCons (uC (.int 2)) uNil)))) uNil))))) (uSeq (uSet 6 (uOp gDiv (uOp gAdd (uOp gMul (uC (.int 5)) (uVar 5)) (uC (.int 3))) (uC (.int 4)))) (uRet (uTup (uCons (uC (.str "factor")) (uCons (uB gMin2 (uCons (uC (.int 100)) (uCons (uOp gAdd (uVar 6) (uCall sp__law_draw [] W (uCons (uVar 0) (uCons (uOp gIx (uLst (uCons (uC (.int 1)) (uCons (uC (.int 2)) (uCons (uC (.int 40)) uNil)))) (uCall sp__law_draw [] W (uCons (uVar 0) (uCons (uC (.int 3)) uNil)))) uNil)))) uNil))) (uCons (uVar 5) uNil))))))) uSkip) (uSeq (uOwn 2 (ufLst uNil)) (uSeq (uSet 3 (uCall sp__law_draw [] W (uCons (uVar 0) (uCons (uC (.int 4)) uNil)))) (uSeq (uFor (uiR1 (uCons (uOp gIx (uLst (uCons (uC (.int 0)) (uCons (uC (.int 1)) (uCons (uC (.int 3)) (uCons (uC (.int 60)) uNil))))) (uCall sp__law_draw [] W (uCons (uVar 0) (uCons (uC (.int 4)) uNil)))) uNil)) (ugN 4) (uSeq (uIfS (uTB (uOp gLt (uVar 3) (uC (.int 60)))) (uApp 2 (uTup (uCons (uVar 3) (uCons (uOp gIx (uLst (uCons (uC (.int 0)) (uCons (uC (.int 1)) (uCons (uC (.int 4)) (uCons (uC (.int 7)) (uCons (uCall sp__law_draw [] W (uCons (uVar 0) (uCons (uC (.int 12)) uNil))) (uCons (uOp gSub (uOp gPow (uC (.int 10)) (uC (.int 40))) (uC (.int 1))) uNil))))))) (uCall sp__law_draw [] W (uCons (uVar 0) (uCons (uC (.int 6)) uNil)))) uNil)))) uSkip) (uSet 3 (uOp gAdd (uOp gAdd (uVar 3) (uC (.int 1))) (uCall sp__law_draw [] W (uCons (uVar 0) (uCons (uC (.int 3)) uNil))))))) (uThaw 2 (uRet (uTup (uCons (uC (.str "table")) (uCons (uB gTuple (uCons (uVar 2) uNil)) uNil)))))))))))))
theorem len__law_policy : ∀ ds pen n Q E, sp__law_policy ds pen n Q E → ds.length = 1 := by
  intro ds pen n Q E h
  unfold sp__law_policy at h
  split at h
  · rfl
  · exact h.elim
abbrev N__law_policy : List Str := ["_law_pen_here", "_law_way", "_law_found", "_law_last", "_law_turn", "_law_bottom", "_law_least"]
theorem run__law_policy {pen : PenT} {PX : UX → Nat → Prop} (h : ∀ x0 n (Q : D → Nat → Prop), sp__law_policy [x0] pen n Q PX → u__law_policy (Wd pen PX) { nx := fun ρ => Q .non ρ.fuel, rt := Q } ⟨[.dat x0, .emp, .emp, .emp, .emp, .emp, .emp], pen, n⟩) :
    ∀ ds n (Q : D → Nat → Prop), sp__law_policy ds pen n Q PX → u__law_policy (Wd pen PX) { nx := fun ρ => Q .non ρ.fuel, rt := Q } ⟨startU N__law_policy ds, pen, n⟩ := by
  intro ds n Q hs
  have hl := len__law_policy _ _ _ _ _ hs
  match ds, hl, hs with
  | [x0], _, hs => exact h x0 n Q hs
def u__law_words (W : WU) : US :=
  (uSeq (uIfS (uTB (uOp gEqV (uOp gIx (uVar 0) (uC (.int 0))) (uC (.str "step")))) (uRet (uOp gAdd (uC (.str "step ")) (uB gStr (uCons (uOp gIx (uVar 0) (uC (.int 1))) uNil)))) uSkip) (uSeq (uIfS (uTB (uOp gEqV (uOp gIx (uVar 0) (uC (.int 0))) (uC (.str "factor")))) (uRet (uOp gAdd (uOp gAdd (uOp gAdd (uC (.str "factor ")) (uB gStr (uCons (uOp gIx (uVar 0) (uC (.int 1))) uNil))) (uC (.str "/"))) (uB gStr (uCons (uOp gIx (uVar 0) (uC (.int 2))) uNil)))) uSkip) (uSeq (uSet 1 (uOp gIx (uVar 0) (uC (.int 0)))) (uSeq (uIfS (uTB (uOp gEqV (uOp gIx (uVar 0) (uC (.int 0))) (uC (.str "table")))) (uFor (uiS (uOp gIx (uVar 0) (uC (.int 1)))) (ugT [2, 3]) (uSet 1 (uOp gAdd (uOp gAdd (uOp gAdd (uOp gAdd (uVar 1) (uC (.str " "))) (uB gStr (uCons (uVar 2) uNil))) (uC (.str ":"))) (uB gStr (uCons (uVar 3) uNil))))) uSkip) (uRet (uVar 1))))))
abbrev N__law_words : List Str := ["_law_rule", "_law_found", "_law_one", "_law_two"]
theorem run__law_words {pen : PenT} {PX : UX → Nat → Prop} (h : ∀ x0 n (Q : D → Nat → Prop), sp__law_words [x0] pen n Q PX → u__law_words (Wd pen PX) { nx := fun ρ => Q .non ρ.fuel, rt := Q } ⟨[.dat x0, .emp, .emp, .emp], pen, n⟩) :
    ∀ ds n (Q : D → Nat → Prop), sp__law_words ds pen n Q PX → u__law_words (Wd pen PX) { nx := fun ρ => Q .non ρ.fuel, rt := Q } ⟨startU N__law_words ds, pen, n⟩ := by
  intro ds n Q hs
  have hl := len__law_words _ _ _ _ _ hs
  match ds, hl, hs with
  | [x0], _, hs => exact h x0 n Q hs
def u__law_is_right (W : WU) : US :=
  (uSeq (uSet 1 (uCall sp__law_words [] W (uCons (uVar 0) uNil))) (uSeq (uFor (uiR1 (uCons (uC (.int 2)) uNil)) (ugN 2) (uIfS (uOrT (uTB (uOp gNe (uB gRepr (uCons (uCall sp_policy_text [] W (uCons (uVar 0) uNil)) uNil)) (uB gRepr (uCons (uVar 1) uNil)))) (uTB (uOp gNe (uB gRepr (uCons (uCall sp_read_policy [] W (uCons (uVar 1) uNil)) uNil)) (uB gRepr (uCons (uVar 0) uNil))))) (uRet (uC (.bl false))) uSkip)) (uRet (uAnd (uOp gEqV (uCallK sp_policy_text [0] W (uCons (uVar 0) uNil)) (uVar 1)) (uOp gEqV (uB gRepr (uCons (uCallK sp_read_policy [0] W (uCons (uVar 1) uNil)) uNil)) (uB gRepr (uCons (uVar 0) uNil)))))))
abbrev N__law_is_right : List Str := ["_law_rule", "_law_due", "_law_time"]
theorem run__law_is_right {pen : PenT} {PX : UX → Nat → Prop} (h : ∀ x0 n (Q : D → Nat → Prop), sp__law_is_right [x0] pen n Q PX → u__law_is_right (Wd pen PX) { nx := fun ρ => Q .non ρ.fuel, rt := Q } ⟨[.dat x0, .emp, .emp], pen, n⟩) :
    ∀ ds n (Q : D → Nat → Prop), sp__law_is_right ds pen n Q PX → u__law_is_right (Wd pen PX) { nx := fun ρ => Q .non ρ.fuel, rt := Q } ⟨startU N__law_is_right ds, pen, n⟩ := by
  intro ds n Q hs
  have hl := len__law_is_right _ _ _ _ _ hs
  match ds, hl, hs with
  | [x0], _, hs => exact h x0 n Q hs
def u_law (W : WU) : US :=
  (uSeq (uFor (uiR1 (uCons (uC (.int 12)) uNil)) (ugN 2) (uIfS (uNotT (uTru (uCall sp__law_is_right [] W0 (uCons (uCall sp__law_policy [] W0 (uCons (uVar 1) uNil)) uNil)))) (uRet (uC (.bl false))) uSkip)) (uSeq (uSet 3 (uB gTuple (uCons (uFr (uComp (uiR1 (uCons (uC (.int 60)) uNil)) [5] (ugN 5) uYes (uTup (uCons (uVar 5) (uCons (uOp gSub (uOp gSub (uOp gPow (uC (.int 10)) (uC (.int 40))) (uC (.int 1))) (uOp gMul (uVar 5) (uCall sp__law_draw [] W0 (uCons (uVar 1) (uCons (uOp gPow (uC (.int 10)) (uC (.int 6))) uNil))))) uNil))))) uNil))) (uSeq (uFor (uiS (uLst (uCons (uTup (uCons (uC (.str "table")) (uCons (uVar 3) uNil))) (uCons (uTup (uCons (uC (.str "table")) (uCons (uTup uNil) uNil))) (uCons (uTup (uCons (uC (.str "factor")) (uCons (uC (.int 100)) (uCons (uC (.int 80)) uNil)))) (uCons (uTup (uCons (uC (.str "factor")) (uCons (uC (.int 6)) (uCons (uC (.int 4)) uNil)))) (uCons (uTup (uCons (uC (.str "step")) (uCons (uOp gPow (uC (.int 10)) (uC (.int 30))) uNil))) uNil))))))) (ugN 4) (uIfS (uNotT (uTru (uCall sp__law_is_right [] W0 (uCons (uVar 4) uNil)))) (uRet (uC (.bl false))) uSkip)) (uRet (uAnd (uOp gEqV (uCall sp_policy_text [] W0 (uCons (uTup (uCons (uC (.str "table")) (uCons (uTup (uCons (uTup (uCons (uC (.int 1)) (uCons (uC (.int 4)) uNil))) (uCons (uTup (uCons (uC (.int 12)) (uCons (uC (.int 30)) uNil))) uNil))) uNil))) uNil)) (uC (.str "table 1:4 12:30"))) (uOp gEqV (uCall sp_read_policy [] W0 (uCons (uC (.str "exact")) uNil)) (uTup (uCons (uC (.str "exact")) uNil))))))))
abbrev N_law : List Str := ["_law_script", "_law_pen_here", "_law_turn", "_law_full", "_law_rule", "_law_k"]
end Lw

set_option Elab.async false
set_option linter.all false
set_option maxRecDepth 100000
set_option maxHeartbeats 0
namespace Lw
open PySem PySem.Spec L2 U
open PyProof.Rows hiding St
theorem pure__law_draw {pen : PenT} {PX : UX → Nat → Prop} : ∀ ds n (Q : D → Nat → Prop), sp__law_draw ds pen n Q PX → u__law_draw (Wd pen PX) { nx := fun ρ => Q .non ρ.fuel, rt := Q } ⟨startU N__law_draw ds, pen, n⟩ := by
  refine run__law_draw fun x y n Q h => ?_
  match y, h with
  | .int m, ⟨⟨p, c, hp, hk, hx⟩, h0, h1, h2, hQ⟩ =>
  have h1 := log_of h0 h1
  subst hx hp
  have md : ∀ z : Int, 0 ≤ z % m ∧ z % m < m := fun z => ⟨Int.emod_nonneg _ (by omega), Int.emod_lt_of_pos _ h0⟩
  have cn : ∀ z b : Int, 0 < b → 0 ≤ z % b ∧ z % b < b := fun z b h => ⟨Int.emod_nonneg _ (by omega), Int.emod_lt_of_pos _ h⟩
  unfold u__law_draw
  simp only [iSt, iSt1, xSplit, xRmPre, xInSg, xFs, xFs0, xFs1, xFs2, xFs3, xFmt, xFmtI, xFmtS, xStrI, xStrS, xM1, xM11, xM12, xInK, xNotInK, xfSorted, xVar, xVar1, xC, xN, xOp, xOp1, xOp2, xUn, xUn1, xNil, xCons, xCons1, xCons2, xTup, xTup1, xLst, xLst1, xTru, xTru1, xOb, tru_non, tru_bl, tru_int, tru_lst, tru_tup, xTB, xTB1, xAndT, xAndT1, xAndT2, xOrT, xOrT1, xOrT2, xNotT, xNotT1, xAnd, xAnd1, xAnd2, xOr, xOr1, xOr2, xNot, xNot1, xIfE, xIfE1, xIfE2, xCh, xCh1, xCh2, xCh3, xCh3b, xCh4, xNoP, xPart, xPart1, xCut, xCut1, xCut2, xCut3, xB, xB1, xCall, xCall1, xCallK, xCallK1, perm_nil, perm_cons, xCat, xCat1, xCat2, xRev, xRevL, xRevT, sSkip, sSeq, sRet, sRetN, sIf, sIf1, sIf2, sDrop, sDrop1, sBrk, sCnt, sSet, sSet1, sAsg, sAsg1, gN, gT, gPut, put_nil, put_cons, sAug, sAug1, sAug2, xFr, xFr1, xfLst, sOwn, sOwn1, sApp, sApp1, sApp2, sThaw, sThaw1, sThaw2, sThaw3, xPeek, xPeek1, xPeekd, xPeek2, xPeekT, xPeekT1, xPeekTd, sSetIx, sSetIx1, sSetIx2, sSetIx3, sSetIx4, iSq, iSqL, iSqT, iEn, iEnL, iEnT, iR1, iR11, iR2, iR21, sFor, xComp, sPenN, sPenR, sOwnD, sDSet, sDSet1, sDSet2, sDSet3, sDSet5, dKi, dKs, sThawD, sThawD1, iIt, iIt1, gPn, gPt, gPs0, gPs1, gPs2, sTry, sTry1, sTryN, sTryR, sTryR2, sTryB, sTryC, sRaise, nOw0, nOw1, nOw2, fld0, fld1, xIsX1, xIsX2, xIsNotX, xIsNX, U.l0, U.l1, U.s0, U.s1, wS0, wS1, beq_self_eq_true, sSet2, sSet21, sPar, sPar1, sOwnM, sOwnM1, sExt, sExt1, sExt2, sWh1, sWh2, xIsNI, xIsNNo, xIsNotI, xIsNotNo, xIsNotL, xIsNotT, xIsNotS, xIsS, xIsL, xIsT, xNeS, sRetO, sRetO1, sRetF, xCallF, xCallF1, xCallFK, xCallFK1, List.getD_cons_zero, List.getD_cons_succ, Bool.not_true, Bool.not_false, Bool.not_not, xLt, xLe, xGt, xGe, xEqI, xEqS, xNeI, xLenS, xLenL, xLenT, xAddI, xAddS, xAddL, xAddT, xSubI, xMulI, xMulL, xMulT, xDivI, xModI, xPowI, xNegI, xIntI, xIntB, xAbsI, xMin2, xMax2, xListL, xListT, xTupleL, xTupleT, xCutL, xCutT, xIsN, xIsB, xIsNotB, xIx0T, xIx1T, xIx2T, xIx3T, xIx0L, xIx1L, Int.reduceSub, Int.reduceAdd, Int.reduceMul, Int.reduceToNat, Int.reducePow, Int.reduceNeg, xPenK0 hk, xPenK1 hk, xPenK2 hk, sPenN1 hk, sPenR1 hk]
  intro t ht
  refine sIfk.mpr ⟨fun hc => ?_, fun hc => ?_⟩
  · simp only [iSt, iSt1, xSplit, xRmPre, xInSg, xFs, xFs0, xFs1, xFs2, xFs3, xFmt, xFmtI, xFmtS, xStrI, xStrS, xM1, xM11, xM12, xInK, xNotInK, xfSorted, xVar, xVar1, xC, xN, xOp, xOp1, xOp2, xUn, xUn1, xNil, xCons, xCons1, xCons2, xTup, xTup1, xLst, xLst1, xTru, xTru1, xOb, tru_non, tru_bl, tru_int, tru_lst, tru_tup, xTB, xTB1, xAndT, xAndT1, xAndT2, xOrT, xOrT1, xOrT2, xNotT, xNotT1, xAnd, xAnd1, xAnd2, xOr, xOr1, xOr2, xNot, xNot1, xIfE, xIfE1, xIfE2, xCh, xCh1, xCh2, xCh3, xCh3b, xCh4, xNoP, xPart, xPart1, xCut, xCut1, xCut2, xCut3, xB, xB1, xCall, xCall1, xCallK, xCallK1, perm_nil, perm_cons, xCat, xCat1, xCat2, xRev, xRevL, xRevT, sSkip, sSeq, sRet, sRetN, sIf, sIf1, sIf2, sDrop, sDrop1, sBrk, sCnt, sSet, sSet1, sAsg, sAsg1, gN, gT, gPut, put_nil, put_cons, sAug, sAug1, sAug2, xFr, xFr1, xfLst, sOwn, sOwn1, sApp, sApp1, sApp2, sThaw, sThaw1, sThaw2, sThaw3, xPeek, xPeek1, xPeekd, xPeek2, xPeekT, xPeekT1, xPeekTd, sSetIx, sSetIx1, sSetIx2, sSetIx3, sSetIx4, iSq, iSqL, iSqT, iEn, iEnL, iEnT, iR1, iR11, iR2, iR21, sFor, xComp, sPenN, sPenR, sOwnD, sDSet, sDSet1, sDSet2, sDSet3, sDSet5, dKi, dKs, sThawD, sThawD1, iIt, iIt1, gPn, gPt, gPs0, gPs1, gPs2, sTry, sTry1, sTryN, sTryR, sTryR2, sTryB, sTryC, sRaise, nOw0, nOw1, nOw2, fld0, fld1, xIsX1, xIsX2, xIsNotX, xIsNX, U.l0, U.l1, U.s0, U.s1, wS0, wS1, beq_self_eq_true, sSet2, sSet21, sPar, sPar1, sOwnM, sOwnM1, sExt, sExt1, sExt2, sWh1, sWh2, xIsNI, xIsNNo, xIsNotI, xIsNotNo, xIsNotL, xIsNotT, xIsNotS, xIsS, xIsL, xIsT, xNeS, sRetO, sRetO1, sRetF, xCallF, xCallF1, xCallFK, xCallFK1, List.getD_cons_zero, List.getD_cons_succ, Bool.not_true, Bool.not_false, Bool.not_not, xLt, xLe, xGt, xGe, xEqI, xEqS, xNeI, xLenS, xLenL, xLenT, xAddI, xAddS, xAddL, xAddT, xSubI, xMulI, xMulL, xMulT, xDivI, xModI, xPowI, xNegI, xIntI, xIntB, xAbsI, xMin2, xMax2, xListL, xListT, xTupleL, xTupleT, xCutL, xCutT, xIsN, xIsB, xIsNotB, xIx0T, xIx1T, xIx2T, xIx3T, xIx0L, xIx1L, Int.reduceSub, Int.reduceAdd, Int.reduceMul, Int.reduceToNat, Int.reducePow, Int.reduceNeg, xPenK0 hk, xPenK1 hk, xPenK2 hk, sPenN1 hk, sPenR1 hk]
    intro t1 ht1
    refine ⟨h0, ?_⟩
    intro t2 ht2
    exact ⟨⟨h0, h1⟩, Int.ediv_nonneg ht2 (by omega), n - 1, Nat.sub_le _ _, hQ _ (md t1).1 (md t1).2⟩
  · simp only [iSt, iSt1, xSplit, xRmPre, xInSg, xFs, xFs0, xFs1, xFs2, xFs3, xFmt, xFmtI, xFmtS, xStrI, xStrS, xM1, xM11, xM12, xInK, xNotInK, xfSorted, xVar, xVar1, xC, xN, xOp, xOp1, xOp2, xUn, xUn1, xNil, xCons, xCons1, xCons2, xTup, xTup1, xLst, xLst1, xTru, xTru1, xOb, tru_non, tru_bl, tru_int, tru_lst, tru_tup, xTB, xTB1, xAndT, xAndT1, xAndT2, xOrT, xOrT1, xOrT2, xNotT, xNotT1, xAnd, xAnd1, xAnd2, xOr, xOr1, xOr2, xNot, xNot1, xIfE, xIfE1, xIfE2, xCh, xCh1, xCh2, xCh3, xCh3b, xCh4, xNoP, xPart, xPart1, xCut, xCut1, xCut2, xCut3, xB, xB1, xCall, xCall1, xCallK, xCallK1, perm_nil, perm_cons, xCat, xCat1, xCat2, xRev, xRevL, xRevT, sSkip, sSeq, sRet, sRetN, sIf, sIf1, sIf2, sDrop, sDrop1, sBrk, sCnt, sSet, sSet1, sAsg, sAsg1, gN, gT, gPut, put_nil, put_cons, sAug, sAug1, sAug2, xFr, xFr1, xfLst, sOwn, sOwn1, sApp, sApp1, sApp2, sThaw, sThaw1, sThaw2, sThaw3, xPeek, xPeek1, xPeekd, xPeek2, xPeekT, xPeekT1, xPeekTd, sSetIx, sSetIx1, sSetIx2, sSetIx3, sSetIx4, iSq, iSqL, iSqT, iEn, iEnL, iEnT, iR1, iR11, iR2, iR21, sFor, xComp, sPenN, sPenR, sOwnD, sDSet, sDSet1, sDSet2, sDSet3, sDSet5, dKi, dKs, sThawD, sThawD1, iIt, iIt1, gPn, gPt, gPs0, gPs1, gPs2, sTry, sTry1, sTryN, sTryR, sTryR2, sTryB, sTryC, sRaise, nOw0, nOw1, nOw2, fld0, fld1, xIsX1, xIsX2, xIsNotX, xIsNX, U.l0, U.l1, U.s0, U.s1, wS0, wS1, beq_self_eq_true, sSet2, sSet21, sPar, sPar1, sOwnM, sOwnM1, sExt, sExt1, sExt2, sWh1, sWh2, xIsNI, xIsNNo, xIsNotI, xIsNotNo, xIsNotL, xIsNotT, xIsNotS, xIsS, xIsL, xIsT, xNeS, sRetO, sRetO1, sRetF, xCallF, xCallF1, xCallFK, xCallFK1, List.getD_cons_zero, List.getD_cons_succ, Bool.not_true, Bool.not_false, Bool.not_not, xLt, xLe, xGt, xGe, xEqI, xEqS, xNeI, xLenS, xLenL, xLenT, xAddI, xAddS, xAddL, xAddT, xSubI, xMulI, xMulL, xMulT, xDivI, xModI, xPowI, xNegI, xIntI, xIntB, xAbsI, xMin2, xMax2, xListL, xListT, xTupleL, xTupleT, xCutL, xCutT, xIsN, xIsB, xIsNotB, xIx0T, xIx1T, xIx2T, xIx3T, xIx0L, xIx1L, Int.reduceSub, Int.reduceAdd, Int.reduceMul, Int.reduceToNat, Int.reducePow, Int.reduceNeg, xPenK0 hk, xPenK1 hk, xPenK2 hk, sPenN1 hk, sPenR1 hk]
    intro u hu0 hu1
    refine ⟨by omega, n - 1, by omega, .inl (by omega), ⟨by simp [D.flat, flats_ints], by simp [D.flat, D.flats]⟩, ?_⟩
    rw [eqv_ints_nil]
    refine kIf_with (fun z : Int => ⟨[.dat (.ref p), .dat (.int m), .dat (.int u), .dat (.int z), .emp, .emp, .emp], some (p, c), n - 1⟩) (fun z => ?_) fun hz => ?_
    · -- behind the cell
      simp only [iSt, iSt1, xSplit, xRmPre, xInSg, xFs, xFs0, xFs1, xFs2, xFs3, xFmt, xFmtI, xFmtS, xStrI, xStrS, xM1, xM11, xM12, xInK, xNotInK, xfSorted, xVar, xVar1, xC, xN, xOp, xOp1, xOp2, xUn, xUn1, xNil, xCons, xCons1, xCons2, xTup, xTup1, xLst, xLst1, xTru, xTru1, xOb, tru_non, tru_bl, tru_int, tru_lst, tru_tup, xTB, xTB1, xAndT, xAndT1, xAndT2, xOrT, xOrT1, xOrT2, xNotT, xNotT1, xAnd, xAnd1, xAnd2, xOr, xOr1, xOr2, xNot, xNot1, xIfE, xIfE1, xIfE2, xCh, xCh1, xCh2, xCh3, xCh3b, xCh4, xNoP, xPart, xPart1, xCut, xCut1, xCut2, xCut3, xB, xB1, xCall, xCall1, xCallK, xCallK1, perm_nil, perm_cons, xCat, xCat1, xCat2, xRev, xRevL, xRevT, sSkip, sSeq, sRet, sRetN, sIf, sIf1, sIf2, sDrop, sDrop1, sBrk, sCnt, sSet, sSet1, sAsg, sAsg1, gN, gT, gPut, put_nil, put_cons, sAug, sAug1, sAug2, xFr, xFr1, xfLst, sOwn, sOwn1, sApp, sApp1, sApp2, sThaw, sThaw1, sThaw2, sThaw3, xPeek, xPeek1, xPeekd, xPeek2, xPeekT, xPeekT1, xPeekTd, sSetIx, sSetIx1, sSetIx2, sSetIx3, sSetIx4, iSq, iSqL, iSqT, iEn, iEnL, iEnT, iR1, iR11, iR2, iR21, sFor, xComp, sPenN, sPenR, sOwnD, sDSet, sDSet1, sDSet2, sDSet3, sDSet5, dKi, dKs, sThawD, sThawD1, iIt, iIt1, gPn, gPt, gPs0, gPs1, gPs2, sTry, sTry1, sTryN, sTryR, sTryR2, sTryB, sTryC, sRaise, nOw0, nOw1, nOw2, fld0, fld1, xIsX1, xIsX2, xIsNotX, xIsNX, U.l0, U.l1, U.s0, U.s1, wS0, wS1, beq_self_eq_true, sSet2, sSet21, sPar, sPar1, sOwnM, sOwnM1, sExt, sExt1, sExt2, sWh1, sWh2, xIsNI, xIsNNo, xIsNotI, xIsNotNo, xIsNotL, xIsNotT, xIsNotS, xIsS, xIsL, xIsT, xNeS, sRetO, sRetO1, sRetF, xCallF, xCallF1, xCallFK, xCallFK1, List.getD_cons_zero, List.getD_cons_succ, Bool.not_true, Bool.not_false, Bool.not_not, xLt, xLe, xGt, xGe, xEqI, xEqS, xNeI, xLenS, xLenL, xLenT, xAddI, xAddS, xAddL, xAddT, xSubI, xMulI, xMulL, xMulT, xDivI, xModI, xPowI, xNegI, xIntI, xIntB, xAbsI, xMin2, xMax2, xListL, xListT, xTupleL, xTupleT, xCutL, xCutT, xIsN, xIsB, xIsNotB, xIx0T, xIx1T, xIx2T, xIx3T, xIx0L, xIx1L, Int.reduceSub, Int.reduceAdd, Int.reduceMul, Int.reduceToNat, Int.reducePow, Int.reduceNeg, xPenK0 hk, xPenK1 hk, xPenK2 hk, sPenN1 hk, sPenR1 hk]
      refine kAnd_with (fun _ : Unit => ⟨[.dat (.ref p), .dat (.int m), .dat (.int u), .dat (.int z), .emp, .emp, .emp], some (p, c), n - 1⟩) (fun _ => ?_) fun hz => ?_
      · have b1 := cn z 2147483587 (by decide)
        simp only [iSt, iSt1, xSplit, xRmPre, xInSg, xFs, xFs0, xFs1, xFs2, xFs3, xFmt, xFmtI, xFmtS, xStrI, xStrS, xM1, xM11, xM12, xInK, xNotInK, xfSorted, xVar, xVar1, xC, xN, xOp, xOp1, xOp2, xUn, xUn1, xNil, xCons, xCons1, xCons2, xTup, xTup1, xLst, xLst1, xTru, xTru1, xOb, tru_non, tru_bl, tru_int, tru_lst, tru_tup, xTB, xTB1, xAndT, xAndT1, xAndT2, xOrT, xOrT1, xOrT2, xNotT, xNotT1, xAnd, xAnd1, xAnd2, xOr, xOr1, xOr2, xNot, xNot1, xIfE, xIfE1, xIfE2, xCh, xCh1, xCh2, xCh3, xCh3b, xCh4, xNoP, xPart, xPart1, xCut, xCut1, xCut2, xCut3, xB, xB1, xCall, xCall1, xCallK, xCallK1, perm_nil, perm_cons, xCat, xCat1, xCat2, xRev, xRevL, xRevT, sSkip, sSeq, sRet, sRetN, sIf, sIf1, sIf2, sDrop, sDrop1, sBrk, sCnt, sSet, sSet1, sAsg, sAsg1, gN, gT, gPut, put_nil, put_cons, sAug, sAug1, sAug2, xFr, xFr1, xfLst, sOwn, sOwn1, sApp, sApp1, sApp2, sThaw, sThaw1, sThaw2, sThaw3, xPeek, xPeek1, xPeekd, xPeek2, xPeekT, xPeekT1, xPeekTd, sSetIx, sSetIx1, sSetIx2, sSetIx3, sSetIx4, iSq, iSqL, iSqT, iEn, iEnL, iEnT, iR1, iR11, iR2, iR21, sFor, xComp, sPenN, sPenR, sOwnD, sDSet, sDSet1, sDSet2, sDSet3, sDSet5, dKi, dKs, sThawD, sThawD1, iIt, iIt1, gPn, gPt, gPs0, gPs1, gPs2, sTry, sTry1, sTryN, sTryR, sTryR2, sTryB, sTryC, sRaise, nOw0, nOw1, nOw2, fld0, fld1, xIsX1, xIsX2, xIsNotX, xIsNX, U.l0, U.l1, U.s0, U.s1, wS0, wS1, beq_self_eq_true, sSet2, sSet21, sPar, sPar1, sOwnM, sOwnM1, sExt, sExt1, sExt2, sWh1, sWh2, xIsNI, xIsNNo, xIsNotI, xIsNotNo, xIsNotL, xIsNotT, xIsNotS, xIsS, xIsL, xIsT, xNeS, sRetO, sRetO1, sRetF, xCallF, xCallF1, xCallFK, xCallFK1, List.getD_cons_zero, List.getD_cons_succ, Bool.not_true, Bool.not_false, Bool.not_not, xLt, xLe, xGt, xGe, xEqI, xEqS, xNeI, xLenS, xLenL, xLenT, xAddI, xAddS, xAddL, xAddT, xSubI, xMulI, xMulL, xMulT, xDivI, xModI, xPowI, xNegI, xIntI, xIntB, xAbsI, xMin2, xMax2, xListL, xListT, xTupleL, xTupleT, xCutL, xCutT, xIsN, xIsB, xIsNotB, xIx0T, xIx1T, xIx2T, xIx3T, xIx0L, xIx1L, Int.reduceSub, Int.reduceAdd, Int.reduceMul, Int.reduceToNat, Int.reducePow, Int.reduceNeg]
        refine ⟨by decide, .inl (by omega), ⟨by decide, by decide, by omega⟩, by decide, ?_⟩
        generalize hw : (z % 2147483587 + 318088 * u + 876) ^ _ % 2147483543 = w
        have b2 : 0 ≤ w ∧ w < 2147483543 := by rw [← hw]; exact cn _ _ (by decide)
        have b3 := mul_bd (A := 2147483543) (B := 1048576 + 44148) b2.1 (by omega) (by omega : (0 : Int) ≤ u + 44148) (by omega)
        have b4 := mul_bd (A := 76500 * 1048576) (B := 1048576) (by omega : (0 : Int) ≤ 76500 * u) (by omega) hu0 (by omega)
        refine ⟨.inl (by omega), .inl (by omega), .inl (by omega), ⟨by decide, by decide, by omega⟩, by decide, ⟨by decide, by decide⟩, h0, hQ _ (md _).1 (md _).2⟩
      · cases hb : decide (u < ((c.ns.map D.int).length : Int))
        · simp only [iSt, iSt1, xSplit, xRmPre, xInSg, xFs, xFs0, xFs1, xFs2, xFs3, xFmt, xFmtI, xFmtS, xStrI, xStrS, xM1, xM11, xM12, xInK, xNotInK, xfSorted, xVar, xVar1, xC, xN, xOp, xOp1, xOp2, xUn, xUn1, xNil, xCons, xCons1, xCons2, xTup, xTup1, xLst, xLst1, xTru, xTru1, xOb, tru_non, tru_bl, tru_int, tru_lst, tru_tup, xTB, xTB1, xAndT, xAndT1, xAndT2, xOrT, xOrT1, xOrT2, xNotT, xNotT1, xAnd, xAnd1, xAnd2, xOr, xOr1, xOr2, xNot, xNot1, xIfE, xIfE1, xIfE2, xCh, xCh1, xCh2, xCh3, xCh3b, xCh4, xNoP, xPart, xPart1, xCut, xCut1, xCut2, xCut3, xB, xB1, xCall, xCall1, xCallK, xCallK1, perm_nil, perm_cons, xCat, xCat1, xCat2, xRev, xRevL, xRevT, sSkip, sSeq, sRet, sRetN, sIf, sIf1, sIf2, sDrop, sDrop1, sBrk, sCnt, sSet, sSet1, sAsg, sAsg1, gN, gT, gPut, put_nil, put_cons, sAug, sAug1, sAug2, xFr, xFr1, xfLst, sOwn, sOwn1, sApp, sApp1, sApp2, sThaw, sThaw1, sThaw2, sThaw3, xPeek, xPeek1, xPeekd, xPeek2, xPeekT, xPeekT1, xPeekTd, sSetIx, sSetIx1, sSetIx2, sSetIx3, sSetIx4, iSq, iSqL, iSqT, iEn, iEnL, iEnT, iR1, iR11, iR2, iR21, sFor, xComp, sPenN, sPenR, sOwnD, sDSet, sDSet1, sDSet2, sDSet3, sDSet5, dKi, dKs, sThawD, sThawD1, iIt, iIt1, gPn, gPt, gPs0, gPs1, gPs2, sTry, sTry1, sTryN, sTryR, sTryR2, sTryB, sTryC, sRaise, nOw0, nOw1, nOw2, fld0, fld1, xIsX1, xIsX2, xIsNotX, xIsNX, U.l0, U.l1, U.s0, U.s1, wS0, wS1, beq_self_eq_true, sSet2, sSet21, sPar, sPar1, sOwnM, sOwnM1, sExt, sExt1, sExt2, sWh1, sWh2, xIsNI, xIsNNo, xIsNotI, xIsNotNo, xIsNotL, xIsNotT, xIsNotS, xIsS, xIsL, xIsT, xNeS, sRetO, sRetO1, sRetF, xCallF, xCallF1, xCallFK, xCallFK1, List.getD_cons_zero, List.getD_cons_succ, Bool.not_true, Bool.not_false, Bool.not_not, xLt, xLe, xGt, xGe, xEqI, xEqS, xNeI, xLenS, xLenL, xLenT, xAddI, xAddS, xAddL, xAddT, xSubI, xMulI, xMulL, xMulT, xDivI, xModI, xPowI, xNegI, xIntI, xIntB, xAbsI, xMin2, xMax2, xListL, xListT, xTupleL, xTupleT, xCutL, xCutT, xIsN, xIsB, xIsNotB, xIx0T, xIx1T, xIx2T, xIx3T, xIx0L, xIx1L, Int.reduceSub, Int.reduceAdd, Int.reduceMul, Int.reduceToNat, Int.reducePow, Int.reduceNeg]
          exact hz ()
        · simp only [iSt, iSt1, xSplit, xRmPre, xInSg, xFs, xFs0, xFs1, xFs2, xFs3, xFmt, xFmtI, xFmtS, xStrI, xStrS, xM1, xM11, xM12, xInK, xNotInK, xfSorted, xVar, xVar1, xC, xN, xOp, xOp1, xOp2, xUn, xUn1, xNil, xCons, xCons1, xCons2, xTup, xTup1, xLst, xLst1, xTru, xTru1, xOb, tru_non, tru_bl, tru_int, tru_lst, tru_tup, xTB, xTB1, xAndT, xAndT1, xAndT2, xOrT, xOrT1, xOrT2, xNotT, xNotT1, xAnd, xAnd1, xAnd2, xOr, xOr1, xOr2, xNot, xNot1, xIfE, xIfE1, xIfE2, xCh, xCh1, xCh2, xCh3, xCh3b, xCh4, xNoP, xPart, xPart1, xCut, xCut1, xCut2, xCut3, xB, xB1, xCall, xCall1, xCallK, xCallK1, perm_nil, perm_cons, xCat, xCat1, xCat2, xRev, xRevL, xRevT, sSkip, sSeq, sRet, sRetN, sIf, sIf1, sIf2, sDrop, sDrop1, sBrk, sCnt, sSet, sSet1, sAsg, sAsg1, gN, gT, gPut, put_nil, put_cons, sAug, sAug1, sAug2, xFr, xFr1, xfLst, sOwn, sOwn1, sApp, sApp1, sApp2, sThaw, sThaw1, sThaw2, sThaw3, xPeek, xPeek1, xPeekd, xPeek2, xPeekT, xPeekT1, xPeekTd, sSetIx, sSetIx1, sSetIx2, sSetIx3, sSetIx4, iSq, iSqL, iSqT, iEn, iEnL, iEnT, iR1, iR11, iR2, iR21, sFor, xComp, sPenN, sPenR, sOwnD, sDSet, sDSet1, sDSet2, sDSet3, sDSet5, dKi, dKs, sThawD, sThawD1, iIt, iIt1, gPn, gPt, gPs0, gPs1, gPs2, sTry, sTry1, sTryN, sTryR, sTryR2, sTryB, sTryC, sRaise, nOw0, nOw1, nOw2, fld0, fld1, xIsX1, xIsX2, xIsNotX, xIsNX, U.l0, U.l1, U.s0, U.s1, wS0, wS1, beq_self_eq_true, sSet2, sSet21, sPar, sPar1, sOwnM, sOwnM1, sExt, sExt1, sExt2, sWh1, sWh2, xIsNI, xIsNNo, xIsNotI, xIsNotNo, xIsNotL, xIsNotT, xIsNotS, xIsS, xIsL, xIsT, xNeS, sRetO, sRetO1, sRetF, xCallF, xCallF1, xCallFK, xCallFK1, List.getD_cons_zero, List.getD_cons_succ, Bool.not_true, Bool.not_false, Bool.not_not, xLt, xLe, xGt, xGe, xEqI, xEqS, xNeI, xLenS, xLenL, xLenT, xAddI, xAddS, xAddL, xAddT, xSubI, xMulI, xMulL, xMulT, xDivI, xModI, xPowI, xNegI, xIntI, xIntB, xAbsI, xMin2, xMax2, xListL, xListT, xTupleL, xTupleT, xCutL, xCutT, xIsN, xIsB, xIsNotB, xIx0T, xIx1T, xIx2T, xIx3T, xIx0L, xIx1L, Int.reduceSub, Int.reduceAdd, Int.reduceMul, Int.reduceToNat, Int.reducePow, Int.reduceNeg]
          refine ⟨⟨by decide, by decide, by decide⟩, sIfk.mpr ⟨fun hg => ?_, fun hg => ?_⟩⟩
          · simp only [iSt, iSt1, xSplit, xRmPre, xInSg, xFs, xFs0, xFs1, xFs2, xFs3, xFmt, xFmtI, xFmtS, xStrI, xStrS, xM1, xM11, xM12, xInK, xNotInK, xfSorted, xVar, xVar1, xC, xN, xOp, xOp1, xOp2, xUn, xUn1, xNil, xCons, xCons1, xCons2, xTup, xTup1, xLst, xLst1, xTru, xTru1, xOb, tru_non, tru_bl, tru_int, tru_lst, tru_tup, xTB, xTB1, xAndT, xAndT1, xAndT2, xOrT, xOrT1, xOrT2, xNotT, xNotT1, xAnd, xAnd1, xAnd2, xOr, xOr1, xOr2, xNot, xNot1, xIfE, xIfE1, xIfE2, xCh, xCh1, xCh2, xCh3, xCh3b, xCh4, xNoP, xPart, xPart1, xCut, xCut1, xCut2, xCut3, xB, xB1, xCall, xCall1, xCallK, xCallK1, perm_nil, perm_cons, xCat, xCat1, xCat2, xRev, xRevL, xRevT, sSkip, sSeq, sRet, sRetN, sIf, sIf1, sIf2, sDrop, sDrop1, sBrk, sCnt, sSet, sSet1, sAsg, sAsg1, gN, gT, gPut, put_nil, put_cons, sAug, sAug1, sAug2, xFr, xFr1, xfLst, sOwn, sOwn1, sApp, sApp1, sApp2, sThaw, sThaw1, sThaw2, sThaw3, xPeek, xPeek1, xPeekd, xPeek2, xPeekT, xPeekT1, xPeekTd, sSetIx, sSetIx1, sSetIx2, sSetIx3, sSetIx4, iSq, iSqL, iSqT, iEn, iEnL, iEnT, iR1, iR11, iR2, iR21, sFor, xComp, sPenN, sPenR, sOwnD, sDSet, sDSet1, sDSet2, sDSet3, sDSet5, dKi, dKs, sThawD, sThawD1, iIt, iIt1, gPn, gPt, gPs0, gPs1, gPs2, sTry, sTry1, sTryN, sTryR, sTryR2, sTryB, sTryC, sRaise, nOw0, nOw1, nOw2, fld0, fld1, xIsX1, xIsX2, xIsNotX, xIsNX, U.l0, U.l1, U.s0, U.s1, wS0, wS1, beq_self_eq_true, sSet2, sSet21, sPar, sPar1, sOwnM, sOwnM1, sExt, sExt1, sExt2, sWh1, sWh2, xIsNI, xIsNNo, xIsNotI, xIsNotNo, xIsNotL, xIsNotT, xIsNotS, xIsS, xIsL, xIsT, xNeS, sRetO, sRetO1, sRetF, xCallF, xCallF1, xCallFK, xCallFK1, List.getD_cons_zero, List.getD_cons_succ, Bool.not_true, Bool.not_false, Bool.not_not, xLt, xLe, xGt, xGe, xEqI, xEqS, xNeI, xLenS, xLenL, xLenT, xAddI, xAddS, xAddL, xAddT, xSubI, xMulI, xMulL, xMulT, xDivI, xModI, xPowI, xNegI, xIntI, xIntB, xAbsI, xMin2, xMax2, xListL, xListT, xTupleL, xTupleT, xCutL, xCutT, xIsN, xIsB, xIsNotB, xIx0T, xIx1T, xIx2T, xIx3T, xIx0L, xIx1L, Int.reduceSub, Int.reduceAdd, Int.reduceMul, Int.reduceToNat, Int.reducePow, Int.reduceNeg]
            refine ⟨.inl (by omega), ?_⟩
            cases hd : decide (z < 0)
            all_goals
              simp only [iSt, iSt1, xSplit, xRmPre, xInSg, xFs, xFs0, xFs1, xFs2, xFs3, xFmt, xFmtI, xFmtS, xStrI, xStrS, xM1, xM11, xM12, xInK, xNotInK, xfSorted, xVar, xVar1, xC, xN, xOp, xOp1, xOp2, xUn, xUn1, xNil, xCons, xCons1, xCons2, xTup, xTup1, xLst, xLst1, xTru, xTru1, xOb, tru_non, tru_bl, tru_int, tru_lst, tru_tup, xTB, xTB1, xAndT, xAndT1, xAndT2, xOrT, xOrT1, xOrT2, xNotT, xNotT1, xAnd, xAnd1, xAnd2, xOr, xOr1, xOr2, xNot, xNot1, xIfE, xIfE1, xIfE2, xCh, xCh1, xCh2, xCh3, xCh3b, xCh4, xNoP, xPart, xPart1, xCut, xCut1, xCut2, xCut3, xB, xB1, xCall, xCall1, xCallK, xCallK1, perm_nil, perm_cons, xCat, xCat1, xCat2, xRev, xRevL, xRevT, sSkip, sSeq, sRet, sRetN, sIf, sIf1, sIf2, sDrop, sDrop1, sBrk, sCnt, sSet, sSet1, sAsg, sAsg1, gN, gT, gPut, put_nil, put_cons, sAug, sAug1, sAug2, xFr, xFr1, xfLst, sOwn, sOwn1, sApp, sApp1, sApp2, sThaw, sThaw1, sThaw2, sThaw3, xPeek, xPeek1, xPeekd, xPeek2, xPeekT, xPeekT1, xPeekTd, sSetIx, sSetIx1, sSetIx2, sSetIx3, sSetIx4, iSq, iSqL, iSqT, iEn, iEnL, iEnT, iR1, iR11, iR2, iR21, sFor, xComp, sPenN, sPenR, sOwnD, sDSet, sDSet1, sDSet2, sDSet3, sDSet5, dKi, dKs, sThawD, sThawD1, iIt, iIt1, gPn, gPt, gPs0, gPs1, gPs2, sTry, sTry1, sTryN, sTryR, sTryR2, sTryB, sTryC, sRaise, nOw0, nOw1, nOw2, fld0, fld1, xIsX1, xIsX2, xIsNotX, xIsNX, U.l0, U.l1, U.s0, U.s1, wS0, wS1, beq_self_eq_true, sSet2, sSet21, sPar, sPar1, sOwnM, sOwnM1, sExt, sExt1, sExt2, sWh1, sWh2, xIsNI, xIsNNo, xIsNotI, xIsNotNo, xIsNotL, xIsNotT, xIsNotS, xIsS, xIsL, xIsT, xNeS, sRetO, sRetO1, sRetF, xCallF, xCallF1, xCallFK, xCallFK1, List.getD_cons_zero, List.getD_cons_succ, Bool.not_true, Bool.not_false, Bool.not_not, xLt, xLe, xGt, xGe, xEqI, xEqS, xNeI, xLenS, xLenL, xLenT, xAddI, xAddS, xAddL, xAddT, xSubI, xMulI, xMulL, xMulT, xDivI, xModI, xPowI, xNegI, xIntI, xIntB, xAbsI, xMin2, xMax2, xListL, xListT, xTupleL, xTupleT, xCutL, xCutT, xIsN, xIsB, xIsNotB, xIx0T, xIx1T, xIx2T, xIx3T, xIx0L, xIx1L, Int.reduceSub, Int.reduceAdd, Int.reduceMul, Int.reduceToNat, Int.reducePow, Int.reduceNeg, sPenR1 hk]
              have gg : 0 ≤ (if z < 0 then -z else z) := by split <;> omega
              refine ⟨⟨h0, h1⟩, Int.ediv_nonneg (by simp; omega) (by omega), n - 1, Nat.le_refl _, h0, hQ _ (md _).1 (md _).2⟩
          · simp only [iSt, iSt1, xSplit, xRmPre, xInSg, xFs, xFs0, xFs1, xFs2, xFs3, xFmt, xFmtI, xFmtS, xStrI, xStrS, xM1, xM11, xM12, xInK, xNotInK, xfSorted, xVar, xVar1, xC, xN, xOp, xOp1, xOp2, xUn, xUn1, xNil, xCons, xCons1, xCons2, xTup, xTup1, xLst, xLst1, xTru, xTru1, xOb, tru_non, tru_bl, tru_int, tru_lst, tru_tup, xTB, xTB1, xAndT, xAndT1, xAndT2, xOrT, xOrT1, xOrT2, xNotT, xNotT1, xAnd, xAnd1, xAnd2, xOr, xOr1, xOr2, xNot, xNot1, xIfE, xIfE1, xIfE2, xCh, xCh1, xCh2, xCh3, xCh3b, xCh4, xNoP, xPart, xPart1, xCut, xCut1, xCut2, xCut3, xB, xB1, xCall, xCall1, xCallK, xCallK1, perm_nil, perm_cons, xCat, xCat1, xCat2, xRev, xRevL, xRevT, sSkip, sSeq, sRet, sRetN, sIf, sIf1, sIf2, sDrop, sDrop1, sBrk, sCnt, sSet, sSet1, sAsg, sAsg1, gN, gT, gPut, put_nil, put_cons, sAug, sAug1, sAug2, xFr, xFr1, xfLst, sOwn, sOwn1, sApp, sApp1, sApp2, sThaw, sThaw1, sThaw2, sThaw3, xPeek, xPeek1, xPeekd, xPeek2, xPeekT, xPeekT1, xPeekTd, sSetIx, sSetIx1, sSetIx2, sSetIx3, sSetIx4, iSq, iSqL, iSqT, iEn, iEnL, iEnT, iR1, iR11, iR2, iR21, sFor, xComp, sPenN, sPenR, sOwnD, sDSet, sDSet1, sDSet2, sDSet3, sDSet5, dKi, dKs, sThawD, sThawD1, iIt, iIt1, gPn, gPt, gPs0, gPs1, gPs2, sTry, sTry1, sTryN, sTryR, sTryR2, sTryB, sTryC, sRaise, nOw0, nOw1, nOw2, fld0, fld1, xIsX1, xIsX2, xIsNotX, xIsNX, U.l0, U.l1, U.s0, U.s1, wS0, wS1, beq_self_eq_true, sSet2, sSet21, sPar, sPar1, sOwnM, sOwnM1, sExt, sExt1, sExt2, sWh1, sWh2, xIsNI, xIsNNo, xIsNotI, xIsNotNo, xIsNotL, xIsNotT, xIsNotS, xIsS, xIsL, xIsT, xNeS, sRetO, sRetO1, sRetF, xCallF, xCallF1, xCallFK, xCallFK1, List.getD_cons_zero, List.getD_cons_succ, Bool.not_true, Bool.not_false, Bool.not_not, xLt, xLe, xGt, xGe, xEqI, xEqS, xNeI, xLenS, xLenL, xLenT, xAddI, xAddS, xAddL, xAddT, xSubI, xMulI, xMulL, xMulT, xDivI, xModI, xPowI, xNegI, xIntI, xIntB, xAbsI, xMin2, xMax2, xListL, xListT, xTupleL, xTupleT, xCutL, xCutT, xIsN, xIsB, xIsNotB, xIx0T, xIx1T, xIx2T, xIx3T, xIx0L, xIx1L, Int.reduceSub, Int.reduceAdd, Int.reduceMul, Int.reduceToNat, Int.reducePow, Int.reduceNeg]
            exact hz ()
    · refine sIfk.mpr ⟨fun he => ?_, fun he => ?_⟩
      · have ne : 0 < (c.ns.length : Int) := by
          cases q : c.ns with
          | nil => rw [q] at he; simp at he
          | cons a b => simp
        have := cn u c.ns.length ne
        simp only [iSt, iSt1, xSplit, xRmPre, xInSg, xFs, xFs0, xFs1, xFs2, xFs3, xFmt, xFmtI, xFmtS, xStrI, xStrS, xM1, xM11, xM12, xInK, xNotInK, xfSorted, xVar, xVar1, xC, xN, xOp, xOp1, xOp2, xUn, xUn1, xNil, xCons, xCons1, xCons2, xTup, xTup1, xLst, xLst1, xTru, xTru1, xOb, tru_non, tru_bl, tru_int, tru_lst, tru_tup, xTB, xTB1, xAndT, xAndT1, xAndT2, xOrT, xOrT1, xOrT2, xNotT, xNotT1, xAnd, xAnd1, xAnd2, xOr, xOr1, xOr2, xNot, xNot1, xIfE, xIfE1, xIfE2, xCh, xCh1, xCh2, xCh3, xCh3b, xCh4, xNoP, xPart, xPart1, xCut, xCut1, xCut2, xCut3, xB, xB1, xCall, xCall1, xCallK, xCallK1, perm_nil, perm_cons, xCat, xCat1, xCat2, xRev, xRevL, xRevT, sSkip, sSeq, sRet, sRetN, sIf, sIf1, sIf2, sDrop, sDrop1, sBrk, sCnt, sSet, sSet1, sAsg, sAsg1, gN, gT, gPut, put_nil, put_cons, sAug, sAug1, sAug2, xFr, xFr1, xfLst, sOwn, sOwn1, sApp, sApp1, sApp2, sThaw, sThaw1, sThaw2, sThaw3, xPeek, xPeek1, xPeekd, xPeek2, xPeekT, xPeekT1, xPeekTd, sSetIx, sSetIx1, sSetIx2, sSetIx3, sSetIx4, iSq, iSqL, iSqT, iEn, iEnL, iEnT, iR1, iR11, iR2, iR21, sFor, xComp, sPenN, sPenR, sOwnD, sDSet, sDSet1, sDSet2, sDSet3, sDSet5, dKi, dKs, sThawD, sThawD1, iIt, iIt1, gPn, gPt, gPs0, gPs1, gPs2, sTry, sTry1, sTryN, sTryR, sTryR2, sTryB, sTryC, sRaise, nOw0, nOw1, nOw2, fld0, fld1, xIsX1, xIsX2, xIsNotX, xIsNX, U.l0, U.l1, U.s0, U.s1, wS0, wS1, beq_self_eq_true, sSet2, sSet21, sPar, sPar1, sOwnM, sOwnM1, sExt, sExt1, sExt2, sWh1, sWh2, xIsNI, xIsNNo, xIsNotI, xIsNotNo, xIsNotL, xIsNotT, xIsNotS, xIsS, xIsL, xIsT, xNeS, sRetO, sRetO1, sRetF, xCallF, xCallF1, xCallFK, xCallFK1, List.getD_cons_zero, List.getD_cons_succ, Bool.not_true, Bool.not_false, Bool.not_not, xLt, xLe, xGt, xGe, xEqI, xEqS, xNeI, xLenS, xLenL, xLenT, xAddI, xAddS, xAddL, xAddT, xSubI, xMulI, xMulL, xMulT, xDivI, xModI, xPowI, xNegI, xIntI, xIntB, xAbsI, xMin2, xMax2, xListL, xListT, xTupleL, xTupleT, xCutL, xCutT, xIsN, xIsB, xIsNotB, xIx0T, xIx1T, xIx2T, xIx3T, xIx0L, xIx1L, Int.reduceSub, Int.reduceAdd, Int.reduceMul, Int.reduceToNat, Int.reducePow, Int.reduceNeg, xPenK0 hk, xPenK1 hk, xPenK2 hk, sPenN1 hk, sPenR1 hk, List.length_map]
        refine ⟨ne, gIx_lst this.1 (by rw [List.length_map]; exact this.2) fun d hd => ?_⟩
        obtain ⟨z, _, rfl⟩ := List.mem_map.mp hd
        exact hz z
      · simp only [iSt, iSt1, xSplit, xRmPre, xInSg, xFs, xFs0, xFs1, xFs2, xFs3, xFmt, xFmtI, xFmtS, xStrI, xStrS, xM1, xM11, xM12, xInK, xNotInK, xfSorted, xVar, xVar1, xC, xN, xOp, xOp1, xOp2, xUn, xUn1, xNil, xCons, xCons1, xCons2, xTup, xTup1, xLst, xLst1, xTru, xTru1, xOb, tru_non, tru_bl, tru_int, tru_lst, tru_tup, xTB, xTB1, xAndT, xAndT1, xAndT2, xOrT, xOrT1, xOrT2, xNotT, xNotT1, xAnd, xAnd1, xAnd2, xOr, xOr1, xOr2, xNot, xNot1, xIfE, xIfE1, xIfE2, xCh, xCh1, xCh2, xCh3, xCh3b, xCh4, xNoP, xPart, xPart1, xCut, xCut1, xCut2, xCut3, xB, xB1, xCall, xCall1, xCallK, xCallK1, perm_nil, perm_cons, xCat, xCat1, xCat2, xRev, xRevL, xRevT, sSkip, sSeq, sRet, sRetN, sIf, sIf1, sIf2, sDrop, sDrop1, sBrk, sCnt, sSet, sSet1, sAsg, sAsg1, gN, gT, gPut, put_nil, put_cons, sAug, sAug1, sAug2, xFr, xFr1, xfLst, sOwn, sOwn1, sApp, sApp1, sApp2, sThaw, sThaw1, sThaw2, sThaw3, xPeek, xPeek1, xPeekd, xPeek2, xPeekT, xPeekT1, xPeekTd, sSetIx, sSetIx1, sSetIx2, sSetIx3, sSetIx4, iSq, iSqL, iSqT, iEn, iEnL, iEnT, iR1, iR11, iR2, iR21, sFor, xComp, sPenN, sPenR, sOwnD, sDSet, sDSet1, sDSet2, sDSet3, sDSet5, dKi, dKs, sThawD, sThawD1, iIt, iIt1, gPn, gPt, gPs0, gPs1, gPs2, sTry, sTry1, sTryN, sTryR, sTryR2, sTryB, sTryC, sRaise, nOw0, nOw1, nOw2, fld0, fld1, xIsX1, xIsX2, xIsNotX, xIsNX, U.l0, U.l1, U.s0, U.s1, wS0, wS1, beq_self_eq_true, sSet2, sSet21, sPar, sPar1, sOwnM, sOwnM1, sExt, sExt1, sExt2, sWh1, sWh2, xIsNI, xIsNNo, xIsNotI, xIsNotNo, xIsNotL, xIsNotT, xIsNotS, xIsS, xIsL, xIsT, xNeS, sRetO, sRetO1, sRetF, xCallF, xCallF1, xCallFK, xCallFK1, List.getD_cons_zero, List.getD_cons_succ, Bool.not_true, Bool.not_false, Bool.not_not, xLt, xLe, xGt, xGe, xEqI, xEqS, xNeI, xLenS, xLenL, xLenT, xAddI, xAddS, xAddL, xAddT, xSubI, xMulI, xMulL, xMulT, xDivI, xModI, xPowI, xNegI, xIntI, xIntB, xAbsI, xMin2, xMax2, xListL, xListT, xTupleL, xTupleT, xCutL, xCutT, xIsN, xIsB, xIsNotB, xIx0T, xIx1T, xIx2T, xIx3T, xIx0L, xIx1L, Int.reduceSub, Int.reduceAdd, Int.reduceMul, Int.reduceToNat, Int.reducePow, Int.reduceNeg]
        exact hz _


theorem btw_of {x : D} {lo hi : Int} (h : (match x with | .int _ => true | _ => false) = false) : btw x lo hi = false := by
  cases x <;> first | rfl | cases h
theorem pure_is_integer {pen : PenT} {PX : UX → Nat → Prop} : ∀ ds n (Q : D → Nat → Prop), sp_is_integer ds pen n Q PX → u_is_integer (Wd pen PX) { nx := fun ρ => Q .non ρ.fuel, rt := Q } ⟨startU N_is_integer ds, pen, n⟩ := by
  refine run_is_integer fun x n Q ⟨hx, hQ⟩ => ?_
  unfold u_is_integer
  simp only [iSt, iSt1, xSplit, xRmPre, xInSg, xFs, xFs0, xFs1, xFs2, xFs3, xFmt, xFmtI, xFmtS, xStrI, xStrS, xM1, xM11, xM12, xInK, xNotInK, xfSorted, xVar, xVar1, xC, xN, xOp, xOp1, xOp2, xUn, xUn1, xNil, xCons, xCons1, xCons2, xTup, xTup1, xLst, xLst1, xTru, xTru1, xOb, tru_non, tru_bl, tru_int, tru_lst, tru_tup, xTB, xTB1, xAndT, xAndT1, xAndT2, xOrT, xOrT1, xOrT2, xNotT, xNotT1, xAnd, xAnd1, xAnd2, xOr, xOr1, xOr2, xNot, xNot1, xIfE, xIfE1, xIfE2, xCh, xCh1, xCh2, xCh3, xCh3b, xCh4, xNoP, xPart, xPart1, xCut, xCut1, xCut2, xCut3, xB, xB1, xCall, xCall1, xCallK, xCallK1, perm_nil, perm_cons, xCat, xCat1, xCat2, xRev, xRevL, xRevT, sSkip, sSeq, sRet, sRetN, sIf, sIf1, sIf2, sDrop, sDrop1, sBrk, sCnt, sSet, sSet1, sAsg, sAsg1, gN, gT, gPut, put_nil, put_cons, sAug, sAug1, sAug2, xFr, xFr1, xfLst, sOwn, sOwn1, sApp, sApp1, sApp2, sThaw, sThaw1, sThaw2, sThaw3, xPeek, xPeek1, xPeekd, xPeek2, xPeekT, xPeekT1, xPeekTd, sSetIx, sSetIx1, sSetIx2, sSetIx3, sSetIx4, iSq, iSqL, iSqT, iEn, iEnL, iEnT, iR1, iR11, iR2, iR21, sFor, xComp, sPenN, sPenR, sOwnD, sDSet, sDSet1, sDSet2, sDSet3, sDSet5, dKi, dKs, sThawD, sThawD1, iIt, iIt1, gPn, gPt, gPs0, gPs1, gPs2, sTry, sTry1, sTryN, sTryR, sTryR2, sTryB, sTryC, sRaise, nOw0, nOw1, nOw2, fld0, fld1, xIsX1, xIsX2, xIsNotX, xIsNX, U.l0, U.l1, U.s0, U.s1, wS0, wS1, beq_self_eq_true, sSet2, sSet21, sPar, sPar1, sOwnM, sOwnM1, sExt, sExt1, sExt2, sWh1, sWh2, xIsNI, xIsNNo, xIsNotI, xIsNotNo, xIsNotL, xIsNotT, xIsNotS, xIsS, xIsL, xIsT, xNeS, sRetO, sRetO1, sRetF, xCallF, xCallF1, xCallFK, xCallFK1, List.getD_cons_zero, List.getD_cons_succ, Bool.not_true, Bool.not_false, Bool.not_not, xLt, xLe, xGt, xGe, xEqI, xEqS, xNeI, xLenS, xLenL, xLenT, xAddI, xAddS, xAddL, xAddT, xSubI, xMulI, xMulL, xMulT, xDivI, xModI, xPowI, xNegI, xIntI, xIntB, xAbsI, xMin2, xMax2, xListL, xListT, xTupleL, xTupleT, xCutL, xCutT, xIsN, xIsB, xIsNotB, xIx0T, xIx1T, xIx2T, xIx3T, xIx0L, xIx1L, Int.reduceSub, Int.reduceAdd, Int.reduceMul, Int.reduceToNat, Int.reducePow, Int.reduceNeg, xIsiI hx, xIsiB hx]
  cases x <;> first | exact absurd hx Bool.false_ne_true | (simp only [D.isI, D.isB, iSt, iSt1, xSplit, xRmPre, xInSg, xFs, xFs0, xFs1, xFs2, xFs3, xFmt, xFmtI, xFmtS, xStrI, xStrS, xM1, xM11, xM12, xInK, xNotInK, xfSorted, xVar, xVar1, xC, xN, xOp, xOp1, xOp2, xUn, xUn1, xNil, xCons, xCons1, xCons2, xTup, xTup1, xLst, xLst1, xTru, xTru1, xOb, tru_non, tru_bl, tru_int, tru_lst, tru_tup, xTB, xTB1, xAndT, xAndT1, xAndT2, xOrT, xOrT1, xOrT2, xNotT, xNotT1, xAnd, xAnd1, xAnd2, xOr, xOr1, xOr2, xNot, xNot1, xIfE, xIfE1, xIfE2, xCh, xCh1, xCh2, xCh3, xCh3b, xCh4, xNoP, xPart, xPart1, xCut, xCut1, xCut2, xCut3, xB, xB1, xCall, xCall1, xCallK, xCallK1, perm_nil, perm_cons, xCat, xCat1, xCat2, xRev, xRevL, xRevT, sSkip, sSeq, sRet, sRetN, sIf, sIf1, sIf2, sDrop, sDrop1, sBrk, sCnt, sSet, sSet1, sAsg, sAsg1, gN, gT, gPut, put_nil, put_cons, sAug, sAug1, sAug2, xFr, xFr1, xfLst, sOwn, sOwn1, sApp, sApp1, sApp2, sThaw, sThaw1, sThaw2, sThaw3, xPeek, xPeek1, xPeekd, xPeek2, xPeekT, xPeekT1, xPeekTd, sSetIx, sSetIx1, sSetIx2, sSetIx3, sSetIx4, iSq, iSqL, iSqT, iEn, iEnL, iEnT, iR1, iR11, iR2, iR21, sFor, xComp, sPenN, sPenR, sOwnD, sDSet, sDSet1, sDSet2, sDSet3, sDSet5, dKi, dKs, sThawD, sThawD1, iIt, iIt1, gPn, gPt, gPs0, gPs1, gPs2, sTry, sTry1, sTryN, sTryR, sTryR2, sTryB, sTryC, sRaise, nOw0, nOw1, nOw2, fld0, fld1, xIsX1, xIsX2, xIsNotX, xIsNX, U.l0, U.l1, U.s0, U.s1, wS0, wS1, beq_self_eq_true, sSet2, sSet21, sPar, sPar1, sOwnM, sOwnM1, sExt, sExt1, sExt2, sWh1, sWh2, xIsNI, xIsNNo, xIsNotI, xIsNotNo, xIsNotL, xIsNotT, xIsNotS, xIsS, xIsL, xIsT, xNeS, sRetO, sRetO1, sRetF, xCallF, xCallF1, xCallFK, xCallFK1, List.getD_cons_zero, List.getD_cons_succ, Bool.not_true, Bool.not_false, Bool.not_not, xLt, xLe, xGt, xGe, xEqI, xEqS, xNeI, xLenS, xLenL, xLenT, xAddI, xAddS, xAddL, xAddT, xSubI, xMulI, xMulL, xMulT, xDivI, xModI, xPowI, xNegI, xIntI, xIntB, xAbsI, xMin2, xMax2, xListL, xListT, xTupleL, xTupleT, xCutL, xCutT, xIsN, xIsB, xIsNotB, xIx0T, xIx1T, xIx2T, xIx3T, xIx0L, xIx1L, Int.reduceSub, Int.reduceAdd, Int.reduceMul, Int.reduceToNat, Int.reducePow, Int.reduceNeg, xIsiB hx]; exact hQ)
theorem pure_is_between {pen : PenT} {PX : UX → Nat → Prop} : ∀ ds n (Q : D → Nat → Prop), sp_is_between ds pen n Q PX → u_is_between (Wd pen PX) { nx := fun ρ => Q .non ρ.fuel, rt := Q } ⟨startU N_is_between ds, pen, n⟩ := by
  refine run_is_between fun x y z n Q h => ?_
  match y, z, h with
  | .int lo, .int hi, ⟨hx, hQ⟩ =>
  unfold u_is_between
  simp only [iSt, iSt1, xSplit, xRmPre, xInSg, xFs, xFs0, xFs1, xFs2, xFs3, xFmt, xFmtI, xFmtS, xStrI, xStrS, xM1, xM11, xM12, xInK, xNotInK, xfSorted, xVar, xVar1, xC, xN, xOp, xOp1, xOp2, xUn, xUn1, xNil, xCons, xCons1, xCons2, xTup, xTup1, xLst, xLst1, xTru, xTru1, xOb, tru_non, tru_bl, tru_int, tru_lst, tru_tup, xTB, xTB1, xAndT, xAndT1, xAndT2, xOrT, xOrT1, xOrT2, xNotT, xNotT1, xAnd, xAnd1, xAnd2, xOr, xOr1, xOr2, xNot, xNot1, xIfE, xIfE1, xIfE2, xCh, xCh1, xCh2, xCh3, xCh3b, xCh4, xNoP, xPart, xPart1, xCut, xCut1, xCut2, xCut3, xB, xB1, xCall, xCall1, xCallK, xCallK1, perm_nil, perm_cons, xCat, xCat1, xCat2, xRev, xRevL, xRevT, sSkip, sSeq, sRet, sRetN, sIf, sIf1, sIf2, sDrop, sDrop1, sBrk, sCnt, sSet, sSet1, sAsg, sAsg1, gN, gT, gPut, put_nil, put_cons, sAug, sAug1, sAug2, xFr, xFr1, xfLst, sOwn, sOwn1, sApp, sApp1, sApp2, sThaw, sThaw1, sThaw2, sThaw3, xPeek, xPeek1, xPeekd, xPeek2, xPeekT, xPeekT1, xPeekTd, sSetIx, sSetIx1, sSetIx2, sSetIx3, sSetIx4, iSq, iSqL, iSqT, iEn, iEnL, iEnT, iR1, iR11, iR2, iR21, sFor, xComp, sPenN, sPenR, sOwnD, sDSet, sDSet1, sDSet2, sDSet3, sDSet5, dKi, dKs, sThawD, sThawD1, iIt, iIt1, gPn, gPt, gPs0, gPs1, gPs2, sTry, sTry1, sTryN, sTryR, sTryR2, sTryB, sTryC, sRaise, nOw0, nOw1, nOw2, fld0, fld1, xIsX1, xIsX2, xIsNotX, xIsNX, U.l0, U.l1, U.s0, U.s1, wS0, wS1, beq_self_eq_true, sSet2, sSet21, sPar, sPar1, sOwnM, sOwnM1, sExt, sExt1, sExt2, sWh1, sWh2, xIsNI, xIsNNo, xIsNotI, xIsNotNo, xIsNotL, xIsNotT, xIsNotS, xIsS, xIsL, xIsT, xNeS, sRetO, sRetO1, sRetF, xCallF, xCallF1, xCallFK, xCallFK1, List.getD_cons_zero, List.getD_cons_succ, Bool.not_true, Bool.not_false, Bool.not_not, xLt, xLe, xGt, xGe, xEqI, xEqS, xNeI, xLenS, xLenL, xLenT, xAddI, xAddS, xAddL, xAddT, xSubI, xMulI, xMulL, xMulT, xDivI, xModI, xPowI, xNegI, xIntI, xIntB, xAbsI, xMin2, xMax2, xListL, xListT, xTupleL, xTupleT, xCutL, xCutT, xIsN, xIsB, xIsNotB, xIx0T, xIx1T, xIx2T, xIx3T, xIx0L, xIx1L, Int.reduceSub, Int.reduceAdd, Int.reduceMul, Int.reduceToNat, Int.reducePow, Int.reduceNeg, sp_is_integer]
  refine ⟨hx, ?_⟩
  cases x with
  | int i =>
    simp only [iSt, iSt1, xSplit, xRmPre, xInSg, xFs, xFs0, xFs1, xFs2, xFs3, xFmt, xFmtI, xFmtS, xStrI, xStrS, xM1, xM11, xM12, xInK, xNotInK, xfSorted, xVar, xVar1, xC, xN, xOp, xOp1, xOp2, xUn, xUn1, xNil, xCons, xCons1, xCons2, xTup, xTup1, xLst, xLst1, xTru, xTru1, xOb, tru_non, tru_bl, tru_int, tru_lst, tru_tup, xTB, xTB1, xAndT, xAndT1, xAndT2, xOrT, xOrT1, xOrT2, xNotT, xNotT1, xAnd, xAnd1, xAnd2, xOr, xOr1, xOr2, xNot, xNot1, xIfE, xIfE1, xIfE2, xCh, xCh1, xCh2, xCh3, xCh3b, xCh4, xNoP, xPart, xPart1, xCut, xCut1, xCut2, xCut3, xB, xB1, xCall, xCall1, xCallK, xCallK1, perm_nil, perm_cons, xCat, xCat1, xCat2, xRev, xRevL, xRevT, sSkip, sSeq, sRet, sRetN, sIf, sIf1, sIf2, sDrop, sDrop1, sBrk, sCnt, sSet, sSet1, sAsg, sAsg1, gN, gT, gPut, put_nil, put_cons, sAug, sAug1, sAug2, xFr, xFr1, xfLst, sOwn, sOwn1, sApp, sApp1, sApp2, sThaw, sThaw1, sThaw2, sThaw3, xPeek, xPeek1, xPeekd, xPeek2, xPeekT, xPeekT1, xPeekTd, sSetIx, sSetIx1, sSetIx2, sSetIx3, sSetIx4, iSq, iSqL, iSqT, iEn, iEnL, iEnT, iR1, iR11, iR2, iR21, sFor, xComp, sPenN, sPenR, sOwnD, sDSet, sDSet1, sDSet2, sDSet3, sDSet5, dKi, dKs, sThawD, sThawD1, iIt, iIt1, gPn, gPt, gPs0, gPs1, gPs2, sTry, sTry1, sTryN, sTryR, sTryR2, sTryB, sTryC, sRaise, nOw0, nOw1, nOw2, fld0, fld1, xIsX1, xIsX2, xIsNotX, xIsNX, U.l0, U.l1, U.s0, U.s1, wS0, wS1, beq_self_eq_true, sSet2, sSet21, sPar, sPar1, sOwnM, sOwnM1, sExt, sExt1, sExt2, sWh1, sWh2, xIsNI, xIsNNo, xIsNotI, xIsNotNo, xIsNotL, xIsNotT, xIsNotS, xIsS, xIsL, xIsT, xNeS, sRetO, sRetO1, sRetF, xCallF, xCallF1, xCallFK, xCallFK1, List.getD_cons_zero, List.getD_cons_succ, Bool.not_true, Bool.not_false, Bool.not_not, xLt, xLe, xGt, xGe, xEqI, xEqS, xNeI, xLenS, xLenL, xLenT, xAddI, xAddS, xAddL, xAddT, xSubI, xMulI, xMulL, xMulT, xDivI, xModI, xPowI, xNegI, xIntI, xIntB, xAbsI, xMin2, xMax2, xListL, xListT, xTupleL, xTupleT, xCutL, xCutT, xIsN, xIsB, xIsNotB, xIx0T, xIx1T, xIx2T, xIx3T, xIx0L, xIx1L, Int.reduceSub, Int.reduceAdd, Int.reduceMul, Int.reduceToNat, Int.reducePow, Int.reduceNeg]
    cases h1 : decide (lo ≤ i)
    · simp only [iSt, iSt1, xSplit, xRmPre, xInSg, xFs, xFs0, xFs1, xFs2, xFs3, xFmt, xFmtI, xFmtS, xStrI, xStrS, xM1, xM11, xM12, xInK, xNotInK, xfSorted, xVar, xVar1, xC, xN, xOp, xOp1, xOp2, xUn, xUn1, xNil, xCons, xCons1, xCons2, xTup, xTup1, xLst, xLst1, xTru, xTru1, xOb, tru_non, tru_bl, tru_int, tru_lst, tru_tup, xTB, xTB1, xAndT, xAndT1, xAndT2, xOrT, xOrT1, xOrT2, xNotT, xNotT1, xAnd, xAnd1, xAnd2, xOr, xOr1, xOr2, xNot, xNot1, xIfE, xIfE1, xIfE2, xCh, xCh1, xCh2, xCh3, xCh3b, xCh4, xNoP, xPart, xPart1, xCut, xCut1, xCut2, xCut3, xB, xB1, xCall, xCall1, xCallK, xCallK1, perm_nil, perm_cons, xCat, xCat1, xCat2, xRev, xRevL, xRevT, sSkip, sSeq, sRet, sRetN, sIf, sIf1, sIf2, sDrop, sDrop1, sBrk, sCnt, sSet, sSet1, sAsg, sAsg1, gN, gT, gPut, put_nil, put_cons, sAug, sAug1, sAug2, xFr, xFr1, xfLst, sOwn, sOwn1, sApp, sApp1, sApp2, sThaw, sThaw1, sThaw2, sThaw3, xPeek, xPeek1, xPeekd, xPeek2, xPeekT, xPeekT1, xPeekTd, sSetIx, sSetIx1, sSetIx2, sSetIx3, sSetIx4, iSq, iSqL, iSqT, iEn, iEnL, iEnT, iR1, iR11, iR2, iR21, sFor, xComp, sPenN, sPenR, sOwnD, sDSet, sDSet1, sDSet2, sDSet3, sDSet5, dKi, dKs, sThawD, sThawD1, iIt, iIt1, gPn, gPt, gPs0, gPs1, gPs2, sTry, sTry1, sTryN, sTryR, sTryR2, sTryB, sTryC, sRaise, nOw0, nOw1, nOw2, fld0, fld1, xIsX1, xIsX2, xIsNotX, xIsNX, U.l0, U.l1, U.s0, U.s1, wS0, wS1, beq_self_eq_true, sSet2, sSet21, sPar, sPar1, sOwnM, sOwnM1, sExt, sExt1, sExt2, sWh1, sWh2, xIsNI, xIsNNo, xIsNotI, xIsNotNo, xIsNotL, xIsNotT, xIsNotS, xIsS, xIsL, xIsT, xNeS, sRetO, sRetO1, sRetF, xCallF, xCallF1, xCallFK, xCallFK1, List.getD_cons_zero, List.getD_cons_succ, Bool.not_true, Bool.not_false, Bool.not_not, xLt, xLe, xGt, xGe, xEqI, xEqS, xNeI, xLenS, xLenL, xLenT, xAddI, xAddS, xAddL, xAddT, xSubI, xMulI, xMulL, xMulT, xDivI, xModI, xPowI, xNegI, xIntI, xIntB, xAbsI, xMin2, xMax2, xListL, xListT, xTupleL, xTupleT, xCutL, xCutT, xIsN, xIsB, xIsNotB, xIx0T, xIx1T, xIx2T, xIx3T, xIx0L, xIx1L, Int.reduceSub, Int.reduceAdd, Int.reduceMul, Int.reduceToNat, Int.reducePow, Int.reduceNeg]
      simpa [btw, h1] using hQ
    · simp only [iSt, iSt1, xSplit, xRmPre, xInSg, xFs, xFs0, xFs1, xFs2, xFs3, xFmt, xFmtI, xFmtS, xStrI, xStrS, xM1, xM11, xM12, xInK, xNotInK, xfSorted, xVar, xVar1, xC, xN, xOp, xOp1, xOp2, xUn, xUn1, xNil, xCons, xCons1, xCons2, xTup, xTup1, xLst, xLst1, xTru, xTru1, xOb, tru_non, tru_bl, tru_int, tru_lst, tru_tup, xTB, xTB1, xAndT, xAndT1, xAndT2, xOrT, xOrT1, xOrT2, xNotT, xNotT1, xAnd, xAnd1, xAnd2, xOr, xOr1, xOr2, xNot, xNot1, xIfE, xIfE1, xIfE2, xCh, xCh1, xCh2, xCh3, xCh3b, xCh4, xNoP, xPart, xPart1, xCut, xCut1, xCut2, xCut3, xB, xB1, xCall, xCall1, xCallK, xCallK1, perm_nil, perm_cons, xCat, xCat1, xCat2, xRev, xRevL, xRevT, sSkip, sSeq, sRet, sRetN, sIf, sIf1, sIf2, sDrop, sDrop1, sBrk, sCnt, sSet, sSet1, sAsg, sAsg1, gN, gT, gPut, put_nil, put_cons, sAug, sAug1, sAug2, xFr, xFr1, xfLst, sOwn, sOwn1, sApp, sApp1, sApp2, sThaw, sThaw1, sThaw2, sThaw3, xPeek, xPeek1, xPeekd, xPeek2, xPeekT, xPeekT1, xPeekTd, sSetIx, sSetIx1, sSetIx2, sSetIx3, sSetIx4, iSq, iSqL, iSqT, iEn, iEnL, iEnT, iR1, iR11, iR2, iR21, sFor, xComp, sPenN, sPenR, sOwnD, sDSet, sDSet1, sDSet2, sDSet3, sDSet5, dKi, dKs, sThawD, sThawD1, iIt, iIt1, gPn, gPt, gPs0, gPs1, gPs2, sTry, sTry1, sTryN, sTryR, sTryR2, sTryB, sTryC, sRaise, nOw0, nOw1, nOw2, fld0, fld1, xIsX1, xIsX2, xIsNotX, xIsNX, U.l0, U.l1, U.s0, U.s1, wS0, wS1, beq_self_eq_true, sSet2, sSet21, sPar, sPar1, sOwnM, sOwnM1, sExt, sExt1, sExt2, sWh1, sWh2, xIsNI, xIsNNo, xIsNotI, xIsNotNo, xIsNotL, xIsNotT, xIsNotS, xIsS, xIsL, xIsT, xNeS, sRetO, sRetO1, sRetF, xCallF, xCallF1, xCallFK, xCallFK1, List.getD_cons_zero, List.getD_cons_succ, Bool.not_true, Bool.not_false, Bool.not_not, xLt, xLe, xGt, xGe, xEqI, xEqS, xNeI, xLenS, xLenL, xLenT, xAddI, xAddS, xAddL, xAddT, xSubI, xMulI, xMulL, xMulT, xDivI, xModI, xPowI, xNegI, xIntI, xIntB, xAbsI, xMin2, xMax2, xListL, xListT, xTupleL, xTupleT, xCutL, xCutT, xIsN, xIsB, xIsNotB, xIx0T, xIx1T, xIx2T, xIx3T, xIx0L, xIx1L, Int.reduceSub, Int.reduceAdd, Int.reduceMul, Int.reduceToNat, Int.reducePow, Int.reduceNeg]
      simpa [btw, h1] using hQ
  | _ =>
    simp only [iSt, iSt1, xSplit, xRmPre, xInSg, xFs, xFs0, xFs1, xFs2, xFs3, xFmt, xFmtI, xFmtS, xStrI, xStrS, xM1, xM11, xM12, xInK, xNotInK, xfSorted, xVar, xVar1, xC, xN, xOp, xOp1, xOp2, xUn, xUn1, xNil, xCons, xCons1, xCons2, xTup, xTup1, xLst, xLst1, xTru, xTru1, xOb, tru_non, tru_bl, tru_int, tru_lst, tru_tup, xTB, xTB1, xAndT, xAndT1, xAndT2, xOrT, xOrT1, xOrT2, xNotT, xNotT1, xAnd, xAnd1, xAnd2, xOr, xOr1, xOr2, xNot, xNot1, xIfE, xIfE1, xIfE2, xCh, xCh1, xCh2, xCh3, xCh3b, xCh4, xNoP, xPart, xPart1, xCut, xCut1, xCut2, xCut3, xB, xB1, xCall, xCall1, xCallK, xCallK1, perm_nil, perm_cons, xCat, xCat1, xCat2, xRev, xRevL, xRevT, sSkip, sSeq, sRet, sRetN, sIf, sIf1, sIf2, sDrop, sDrop1, sBrk, sCnt, sSet, sSet1, sAsg, sAsg1, gN, gT, gPut, put_nil, put_cons, sAug, sAug1, sAug2, xFr, xFr1, xfLst, sOwn, sOwn1, sApp, sApp1, sApp2, sThaw, sThaw1, sThaw2, sThaw3, xPeek, xPeek1, xPeekd, xPeek2, xPeekT, xPeekT1, xPeekTd, sSetIx, sSetIx1, sSetIx2, sSetIx3, sSetIx4, iSq, iSqL, iSqT, iEn, iEnL, iEnT, iR1, iR11, iR2, iR21, sFor, xComp, sPenN, sPenR, sOwnD, sDSet, sDSet1, sDSet2, sDSet3, sDSet5, dKi, dKs, sThawD, sThawD1, iIt, iIt1, gPn, gPt, gPs0, gPs1, gPs2, sTry, sTry1, sTryN, sTryR, sTryR2, sTryB, sTryC, sRaise, nOw0, nOw1, nOw2, fld0, fld1, xIsX1, xIsX2, xIsNotX, xIsNX, U.l0, U.l1, U.s0, U.s1, wS0, wS1, beq_self_eq_true, sSet2, sSet21, sPar, sPar1, sOwnM, sOwnM1, sExt, sExt1, sExt2, sWh1, sWh2, xIsNI, xIsNNo, xIsNotI, xIsNotNo, xIsNotL, xIsNotT, xIsNotS, xIsS, xIsL, xIsT, xNeS, sRetO, sRetO1, sRetF, xCallF, xCallF1, xCallFK, xCallFK1, List.getD_cons_zero, List.getD_cons_succ, Bool.not_true, Bool.not_false, Bool.not_not, xLt, xLe, xGt, xGe, xEqI, xEqS, xNeI, xLenS, xLenL, xLenT, xAddI, xAddS, xAddL, xAddT, xSubI, xMulI, xMulL, xMulT, xDivI, xModI, xPowI, xNegI, xIntI, xIntB, xAbsI, xMin2, xMax2, xListL, xListT, xTupleL, xTupleT, xCutL, xCutT, xIsN, xIsB, xIsNotB, xIx0T, xIx1T, xIx2T, xIx3T, xIx0L, xIx1L, Int.reduceSub, Int.reduceAdd, Int.reduceMul, Int.reduceToNat, Int.reducePow, Int.reduceNeg]
    exact hQ
theorem pure_is_factor {pen : PenT} {PX : UX → Nat → Prop} : ∀ ds n (Q : D → Nat → Prop), sp_is_factor ds pen n Q PX → u_is_factor (Wd pen PX) { nx := fun ρ => Q .non ρ.fuel, rt := Q } ⟨startU N_is_factor ds, pen, n⟩ := by
  refine run_is_factor fun x y n Q ⟨⟨hx, hy⟩, hQ⟩ => ?_
  unfold u_is_factor
  simp only [iSt, iSt1, xSplit, xRmPre, xInSg, xFs, xFs0, xFs1, xFs2, xFs3, xFmt, xFmtI, xFmtS, xStrI, xStrS, xM1, xM11, xM12, xInK, xNotInK, xfSorted, xVar, xVar1, xC, xN, xOp, xOp1, xOp2, xUn, xUn1, xNil, xCons, xCons1, xCons2, xTup, xTup1, xLst, xLst1, xTru, xTru1, xOb, tru_non, tru_bl, tru_int, tru_lst, tru_tup, xTB, xTB1, xAndT, xAndT1, xAndT2, xOrT, xOrT1, xOrT2, xNotT, xNotT1, xAnd, xAnd1, xAnd2, xOr, xOr1, xOr2, xNot, xNot1, xIfE, xIfE1, xIfE2, xCh, xCh1, xCh2, xCh3, xCh3b, xCh4, xNoP, xPart, xPart1, xCut, xCut1, xCut2, xCut3, xB, xB1, xCall, xCall1, xCallK, xCallK1, perm_nil, perm_cons, xCat, xCat1, xCat2, xRev, xRevL, xRevT, sSkip, sSeq, sRet, sRetN, sIf, sIf1, sIf2, sDrop, sDrop1, sBrk, sCnt, sSet, sSet1, sAsg, sAsg1, gN, gT, gPut, put_nil, put_cons, sAug, sAug1, sAug2, xFr, xFr1, xfLst, sOwn, sOwn1, sApp, sApp1, sApp2, sThaw, sThaw1, sThaw2, sThaw3, xPeek, xPeek1, xPeekd, xPeek2, xPeekT, xPeekT1, xPeekTd, sSetIx, sSetIx1, sSetIx2, sSetIx3, sSetIx4, iSq, iSqL, iSqT, iEn, iEnL, iEnT, iR1, iR11, iR2, iR21, sFor, xComp, sPenN, sPenR, sOwnD, sDSet, sDSet1, sDSet2, sDSet3, sDSet5, dKi, dKs, sThawD, sThawD1, iIt, iIt1, gPn, gPt, gPs0, gPs1, gPs2, sTry, sTry1, sTryN, sTryR, sTryR2, sTryB, sTryC, sRaise, nOw0, nOw1, nOw2, fld0, fld1, xIsX1, xIsX2, xIsNotX, xIsNX, U.l0, U.l1, U.s0, U.s1, wS0, wS1, beq_self_eq_true, sSet2, sSet21, sPar, sPar1, sOwnM, sOwnM1, sExt, sExt1, sExt2, sWh1, sWh2, xIsNI, xIsNNo, xIsNotI, xIsNotNo, xIsNotL, xIsNotT, xIsNotS, xIsS, xIsL, xIsT, xNeS, sRetO, sRetO1, sRetF, xCallF, xCallF1, xCallFK, xCallFK1, List.getD_cons_zero, List.getD_cons_succ, Bool.not_true, Bool.not_false, Bool.not_not, xLt, xLe, xGt, xGe, xEqI, xEqS, xNeI, xLenS, xLenL, xLenT, xAddI, xAddS, xAddL, xAddT, xSubI, xMulI, xMulL, xMulT, xDivI, xModI, xPowI, xNegI, xIntI, xIntB, xAbsI, xMin2, xMax2, xListL, xListT, xTupleL, xTupleT, xCutL, xCutT, xIsN, xIsB, xIsNotB, xIx0T, xIx1T, xIx2T, xIx3T, xIx0L, xIx1L, Int.reduceSub, Int.reduceAdd, Int.reduceMul, Int.reduceToNat, Int.reducePow, Int.reduceNeg, sp_is_between]
  refine ⟨hx, ?_⟩
  cases h1 : btw x 1 100
  · simp only [iSt, iSt1, xSplit, xRmPre, xInSg, xFs, xFs0, xFs1, xFs2, xFs3, xFmt, xFmtI, xFmtS, xStrI, xStrS, xM1, xM11, xM12, xInK, xNotInK, xfSorted, xVar, xVar1, xC, xN, xOp, xOp1, xOp2, xUn, xUn1, xNil, xCons, xCons1, xCons2, xTup, xTup1, xLst, xLst1, xTru, xTru1, xOb, tru_non, tru_bl, tru_int, tru_lst, tru_tup, xTB, xTB1, xAndT, xAndT1, xAndT2, xOrT, xOrT1, xOrT2, xNotT, xNotT1, xAnd, xAnd1, xAnd2, xOr, xOr1, xOr2, xNot, xNot1, xIfE, xIfE1, xIfE2, xCh, xCh1, xCh2, xCh3, xCh3b, xCh4, xNoP, xPart, xPart1, xCut, xCut1, xCut2, xCut3, xB, xB1, xCall, xCall1, xCallK, xCallK1, perm_nil, perm_cons, xCat, xCat1, xCat2, xRev, xRevL, xRevT, sSkip, sSeq, sRet, sRetN, sIf, sIf1, sIf2, sDrop, sDrop1, sBrk, sCnt, sSet, sSet1, sAsg, sAsg1, gN, gT, gPut, put_nil, put_cons, sAug, sAug1, sAug2, xFr, xFr1, xfLst, sOwn, sOwn1, sApp, sApp1, sApp2, sThaw, sThaw1, sThaw2, sThaw3, xPeek, xPeek1, xPeekd, xPeek2, xPeekT, xPeekT1, xPeekTd, sSetIx, sSetIx1, sSetIx2, sSetIx3, sSetIx4, iSq, iSqL, iSqT, iEn, iEnL, iEnT, iR1, iR11, iR2, iR21, sFor, xComp, sPenN, sPenR, sOwnD, sDSet, sDSet1, sDSet2, sDSet3, sDSet5, dKi, dKs, sThawD, sThawD1, iIt, iIt1, gPn, gPt, gPs0, gPs1, gPs2, sTry, sTry1, sTryN, sTryR, sTryR2, sTryB, sTryC, sRaise, nOw0, nOw1, nOw2, fld0, fld1, xIsX1, xIsX2, xIsNotX, xIsNX, U.l0, U.l1, U.s0, U.s1, wS0, wS1, beq_self_eq_true, sSet2, sSet21, sPar, sPar1, sOwnM, sOwnM1, sExt, sExt1, sExt2, sWh1, sWh2, xIsNI, xIsNNo, xIsNotI, xIsNotNo, xIsNotL, xIsNotT, xIsNotS, xIsS, xIsL, xIsT, xNeS, sRetO, sRetO1, sRetF, xCallF, xCallF1, xCallFK, xCallFK1, List.getD_cons_zero, List.getD_cons_succ, Bool.not_true, Bool.not_false, Bool.not_not, xLt, xLe, xGt, xGe, xEqI, xEqS, xNeI, xLenS, xLenL, xLenT, xAddI, xAddS, xAddL, xAddT, xSubI, xMulI, xMulL, xMulT, xDivI, xModI, xPowI, xNegI, xIntI, xIntB, xAbsI, xMin2, xMax2, xListL, xListT, xTupleL, xTupleT, xCutL, xCutT, xIsN, xIsB, xIsNotB, xIx0T, xIx1T, xIx2T, xIx3T, xIx0L, xIx1L, Int.reduceSub, Int.reduceAdd, Int.reduceMul, Int.reduceToNat, Int.reducePow, Int.reduceNeg]
    have e : facD x y = false := by cases x <;> cases y <;> simp_all [facD]
    rw [e] at hQ
    exact hQ
  · simp only [iSt, iSt1, xSplit, xRmPre, xInSg, xFs, xFs0, xFs1, xFs2, xFs3, xFmt, xFmtI, xFmtS, xStrI, xStrS, xM1, xM11, xM12, xInK, xNotInK, xfSorted, xVar, xVar1, xC, xN, xOp, xOp1, xOp2, xUn, xUn1, xNil, xCons, xCons1, xCons2, xTup, xTup1, xLst, xLst1, xTru, xTru1, xOb, tru_non, tru_bl, tru_int, tru_lst, tru_tup, xTB, xTB1, xAndT, xAndT1, xAndT2, xOrT, xOrT1, xOrT2, xNotT, xNotT1, xAnd, xAnd1, xAnd2, xOr, xOr1, xOr2, xNot, xNot1, xIfE, xIfE1, xIfE2, xCh, xCh1, xCh2, xCh3, xCh3b, xCh4, xNoP, xPart, xPart1, xCut, xCut1, xCut2, xCut3, xB, xB1, xCall, xCall1, xCallK, xCallK1, perm_nil, perm_cons, xCat, xCat1, xCat2, xRev, xRevL, xRevT, sSkip, sSeq, sRet, sRetN, sIf, sIf1, sIf2, sDrop, sDrop1, sBrk, sCnt, sSet, sSet1, sAsg, sAsg1, gN, gT, gPut, put_nil, put_cons, sAug, sAug1, sAug2, xFr, xFr1, xfLst, sOwn, sOwn1, sApp, sApp1, sApp2, sThaw, sThaw1, sThaw2, sThaw3, xPeek, xPeek1, xPeekd, xPeek2, xPeekT, xPeekT1, xPeekTd, sSetIx, sSetIx1, sSetIx2, sSetIx3, sSetIx4, iSq, iSqL, iSqT, iEn, iEnL, iEnT, iR1, iR11, iR2, iR21, sFor, xComp, sPenN, sPenR, sOwnD, sDSet, sDSet1, sDSet2, sDSet3, sDSet5, dKi, dKs, sThawD, sThawD1, iIt, iIt1, gPn, gPt, gPs0, gPs1, gPs2, sTry, sTry1, sTryN, sTryR, sTryR2, sTryB, sTryC, sRaise, nOw0, nOw1, nOw2, fld0, fld1, xIsX1, xIsX2, xIsNotX, xIsNX, U.l0, U.l1, U.s0, U.s1, wS0, wS1, beq_self_eq_true, sSet2, sSet21, sPar, sPar1, sOwnM, sOwnM1, sExt, sExt1, sExt2, sWh1, sWh2, xIsNI, xIsNNo, xIsNotI, xIsNotNo, xIsNotL, xIsNotT, xIsNotS, xIsS, xIsL, xIsT, xNeS, sRetO, sRetO1, sRetF, xCallF, xCallF1, xCallFK, xCallFK1, List.getD_cons_zero, List.getD_cons_succ, Bool.not_true, Bool.not_false, Bool.not_not, xLt, xLe, xGt, xGe, xEqI, xEqS, xNeI, xLenS, xLenL, xLenT, xAddI, xAddS, xAddL, xAddT, xSubI, xMulI, xMulL, xMulT, xDivI, xModI, xPowI, xNegI, xIntI, xIntB, xAbsI, xMin2, xMax2, xListL, xListT, xTupleL, xTupleT, xCutL, xCutT, xIsN, xIsB, xIsNotB, xIx0T, xIx1T, xIx2T, xIx3T, xIx0L, xIx1L, Int.reduceSub, Int.reduceAdd, Int.reduceMul, Int.reduceToNat, Int.reducePow, Int.reduceNeg]
    refine ⟨hy, ?_⟩
    cases h2 : btw y 1 100
    · simp only [iSt, iSt1, xSplit, xRmPre, xInSg, xFs, xFs0, xFs1, xFs2, xFs3, xFmt, xFmtI, xFmtS, xStrI, xStrS, xM1, xM11, xM12, xInK, xNotInK, xfSorted, xVar, xVar1, xC, xN, xOp, xOp1, xOp2, xUn, xUn1, xNil, xCons, xCons1, xCons2, xTup, xTup1, xLst, xLst1, xTru, xTru1, xOb, tru_non, tru_bl, tru_int, tru_lst, tru_tup, xTB, xTB1, xAndT, xAndT1, xAndT2, xOrT, xOrT1, xOrT2, xNotT, xNotT1, xAnd, xAnd1, xAnd2, xOr, xOr1, xOr2, xNot, xNot1, xIfE, xIfE1, xIfE2, xCh, xCh1, xCh2, xCh3, xCh3b, xCh4, xNoP, xPart, xPart1, xCut, xCut1, xCut2, xCut3, xB, xB1, xCall, xCall1, xCallK, xCallK1, perm_nil, perm_cons, xCat, xCat1, xCat2, xRev, xRevL, xRevT, sSkip, sSeq, sRet, sRetN, sIf, sIf1, sIf2, sDrop, sDrop1, sBrk, sCnt, sSet, sSet1, sAsg, sAsg1, gN, gT, gPut, put_nil, put_cons, sAug, sAug1, sAug2, xFr, xFr1, xfLst, sOwn, sOwn1, sApp, sApp1, sApp2, sThaw, sThaw1, sThaw2, sThaw3, xPeek, xPeek1, xPeekd, xPeek2, xPeekT, xPeekT1, xPeekTd, sSetIx, sSetIx1, sSetIx2, sSetIx3, sSetIx4, iSq, iSqL, iSqT, iEn, iEnL, iEnT, iR1, iR11, iR2, iR21, sFor, xComp, sPenN, sPenR, sOwnD, sDSet, sDSet1, sDSet2, sDSet3, sDSet5, dKi, dKs, sThawD, sThawD1, iIt, iIt1, gPn, gPt, gPs0, gPs1, gPs2, sTry, sTry1, sTryN, sTryR, sTryR2, sTryB, sTryC, sRaise, nOw0, nOw1, nOw2, fld0, fld1, xIsX1, xIsX2, xIsNotX, xIsNX, U.l0, U.l1, U.s0, U.s1, wS0, wS1, beq_self_eq_true, sSet2, sSet21, sPar, sPar1, sOwnM, sOwnM1, sExt, sExt1, sExt2, sWh1, sWh2, xIsNI, xIsNNo, xIsNotI, xIsNotNo, xIsNotL, xIsNotT, xIsNotS, xIsS, xIsL, xIsT, xNeS, sRetO, sRetO1, sRetF, xCallF, xCallF1, xCallFK, xCallFK1, List.getD_cons_zero, List.getD_cons_succ, Bool.not_true, Bool.not_false, Bool.not_not, xLt, xLe, xGt, xGe, xEqI, xEqS, xNeI, xLenS, xLenL, xLenT, xAddI, xAddS, xAddL, xAddT, xSubI, xMulI, xMulL, xMulT, xDivI, xModI, xPowI, xNegI, xIntI, xIntB, xAbsI, xMin2, xMax2, xListL, xListT, xTupleL, xTupleT, xCutL, xCutT, xIsN, xIsB, xIsNotB, xIx0T, xIx1T, xIx2T, xIx3T, xIx0L, xIx1L, Int.reduceSub, Int.reduceAdd, Int.reduceMul, Int.reduceToNat, Int.reducePow, Int.reduceNeg]
      have e : facD x y = false := by cases x <;> cases y <;> simp_all [facD]
      rw [e] at hQ
      exact hQ
    · cases x <;> first | exact absurd h1 Bool.false_ne_true | skip
      cases y <;> first | exact absurd h2 Bool.false_ne_true | skip
      simp only [iSt, iSt1, xSplit, xRmPre, xInSg, xFs, xFs0, xFs1, xFs2, xFs3, xFmt, xFmtI, xFmtS, xStrI, xStrS, xM1, xM11, xM12, xInK, xNotInK, xfSorted, xVar, xVar1, xC, xN, xOp, xOp1, xOp2, xUn, xUn1, xNil, xCons, xCons1, xCons2, xTup, xTup1, xLst, xLst1, xTru, xTru1, xOb, tru_non, tru_bl, tru_int, tru_lst, tru_tup, xTB, xTB1, xAndT, xAndT1, xAndT2, xOrT, xOrT1, xOrT2, xNotT, xNotT1, xAnd, xAnd1, xAnd2, xOr, xOr1, xOr2, xNot, xNot1, xIfE, xIfE1, xIfE2, xCh, xCh1, xCh2, xCh3, xCh3b, xCh4, xNoP, xPart, xPart1, xCut, xCut1, xCut2, xCut3, xB, xB1, xCall, xCall1, xCallK, xCallK1, perm_nil, perm_cons, xCat, xCat1, xCat2, xRev, xRevL, xRevT, sSkip, sSeq, sRet, sRetN, sIf, sIf1, sIf2, sDrop, sDrop1, sBrk, sCnt, sSet, sSet1, sAsg, sAsg1, gN, gT, gPut, put_nil, put_cons, sAug, sAug1, sAug2, xFr, xFr1, xfLst, sOwn, sOwn1, sApp, sApp1, sApp2, sThaw, sThaw1, sThaw2, sThaw3, xPeek, xPeek1, xPeekd, xPeek2, xPeekT, xPeekT1, xPeekTd, sSetIx, sSetIx1, sSetIx2, sSetIx3, sSetIx4, iSq, iSqL, iSqT, iEn, iEnL, iEnT, iR1, iR11, iR2, iR21, sFor, xComp, sPenN, sPenR, sOwnD, sDSet, sDSet1, sDSet2, sDSet3, sDSet5, dKi, dKs, sThawD, sThawD1, iIt, iIt1, gPn, gPt, gPs0, gPs1, gPs2, sTry, sTry1, sTryN, sTryR, sTryR2, sTryB, sTryC, sRaise, nOw0, nOw1, nOw2, fld0, fld1, xIsX1, xIsX2, xIsNotX, xIsNX, U.l0, U.l1, U.s0, U.s1, wS0, wS1, beq_self_eq_true, sSet2, sSet21, sPar, sPar1, sOwnM, sOwnM1, sExt, sExt1, sExt2, sWh1, sWh2, xIsNI, xIsNNo, xIsNotI, xIsNotNo, xIsNotL, xIsNotT, xIsNotS, xIsS, xIsL, xIsT, xNeS, sRetO, sRetO1, sRetF, xCallF, xCallF1, xCallFK, xCallFK1, List.getD_cons_zero, List.getD_cons_succ, Bool.not_true, Bool.not_false, Bool.not_not, xLt, xLe, xGt, xGe, xEqI, xEqS, xNeI, xLenS, xLenL, xLenT, xAddI, xAddS, xAddL, xAddT, xSubI, xMulI, xMulL, xMulT, xDivI, xModI, xPowI, xNegI, xIntI, xIntB, xAbsI, xMin2, xMax2, xListL, xListT, xTupleL, xTupleT, xCutL, xCutT, xIsN, xIsB, xIsNotB, xIx0T, xIx1T, xIx2T, xIx3T, xIx0L, xIx1L, Int.reduceSub, Int.reduceAdd, Int.reduceMul, Int.reduceToNat, Int.reducePow, Int.reduceNeg]
      refine ⟨.inl (by decide), .inl (by decide), ?_⟩
      simpa [facD, h1, h2] using hQ
theorem pure_are_entries {pen : PenT} {PX : UX → Nat → Prop} : ∀ ds n (Q : D → Nat → Prop), sp_are_entries ds pen n Q PX → u_are_entries (Wd pen PX) { nx := fun ρ => Q .non ρ.fuel, rt := Q } ⟨startU N_are_entries ds, pen, n⟩ := by
  refine run_are_entries fun x n Q ⟨⟨k, hk⟩, hQ⟩ => ?_
  have hx := fit_tyn hk
  unfold u_are_entries
  simp only [iSt, iSt1, xSplit, xRmPre, xInSg, xFs, xFs0, xFs1, xFs2, xFs3, xFmt, xFmtI, xFmtS, xStrI, xStrS, xM1, xM11, xM12, xInK, xNotInK, xfSorted, xVar, xVar1, xC, xN, xOp, xOp1, xOp2, xUn, xUn1, xNil, xCons, xCons1, xCons2, xTup, xTup1, xLst, xLst1, xTru, xTru1, xOb, tru_non, tru_bl, tru_int, tru_lst, tru_tup, xTB, xTB1, xAndT, xAndT1, xAndT2, xOrT, xOrT1, xOrT2, xNotT, xNotT1, xAnd, xAnd1, xAnd2, xOr, xOr1, xOr2, xNot, xNot1, xIfE, xIfE1, xIfE2, xCh, xCh1, xCh2, xCh3, xCh3b, xCh4, xNoP, xPart, xPart1, xCut, xCut1, xCut2, xCut3, xB, xB1, xCall, xCall1, xCallK, xCallK1, perm_nil, perm_cons, xCat, xCat1, xCat2, xRev, xRevL, xRevT, sSkip, sSeq, sRet, sRetN, sIf, sIf1, sIf2, sDrop, sDrop1, sBrk, sCnt, sSet, sSet1, sAsg, sAsg1, gN, gT, gPut, put_nil, put_cons, sAug, sAug1, sAug2, xFr, xFr1, xfLst, sOwn, sOwn1, sApp, sApp1, sApp2, sThaw, sThaw1, sThaw2, sThaw3, xPeek, xPeek1, xPeekd, xPeek2, xPeekT, xPeekT1, xPeekTd, sSetIx, sSetIx1, sSetIx2, sSetIx3, sSetIx4, iSq, iSqL, iSqT, iEn, iEnL, iEnT, iR1, iR11, iR2, iR21, sFor, xComp, sPenN, sPenR, sOwnD, sDSet, sDSet1, sDSet2, sDSet3, sDSet5, dKi, dKs, sThawD, sThawD1, iIt, iIt1, gPn, gPt, gPs0, gPs1, gPs2, sTry, sTry1, sTryN, sTryR, sTryR2, sTryB, sTryC, sRaise, nOw0, nOw1, nOw2, fld0, fld1, xIsX1, xIsX2, xIsNotX, xIsNX, U.l0, U.l1, U.s0, U.s1, wS0, wS1, beq_self_eq_true, sSet2, sSet21, sPar, sPar1, sOwnM, sOwnM1, sExt, sExt1, sExt2, sWh1, sWh2, xIsNI, xIsNNo, xIsNotI, xIsNotNo, xIsNotL, xIsNotT, xIsNotS, xIsS, xIsL, xIsT, xNeS, sRetO, sRetO1, sRetF, xCallF, xCallF1, xCallFK, xCallFK1, List.getD_cons_zero, List.getD_cons_succ, Bool.not_true, Bool.not_false, Bool.not_not, xLt, xLe, xGt, xGe, xEqI, xEqS, xNeI, xLenS, xLenL, xLenT, xAddI, xAddS, xAddL, xAddT, xSubI, xMulI, xMulL, xMulT, xDivI, xModI, xPowI, xNegI, xIntI, xIntB, xAbsI, xMin2, xMax2, xListL, xListT, xTupleL, xTupleT, xCutL, xCutT, xIsN, xIsB, xIsNotB, xIx0T, xIx1T, xIx2T, xIx3T, xIx0L, xIx1L, Int.reduceSub, Int.reduceAdd, Int.reduceMul, Int.reduceToNat, Int.reducePow, Int.reduceNeg, xIsiT hx]
  cases x with
  | tup ds =>
    simp only [D.isT, iSt, iSt1, xSplit, xRmPre, xInSg, xFs, xFs0, xFs1, xFs2, xFs3, xFmt, xFmtI, xFmtS, xStrI, xStrS, xM1, xM11, xM12, xInK, xNotInK, xfSorted, xVar, xVar1, xC, xN, xOp, xOp1, xOp2, xUn, xUn1, xNil, xCons, xCons1, xCons2, xTup, xTup1, xLst, xLst1, xTru, xTru1, xOb, tru_non, tru_bl, tru_int, tru_lst, tru_tup, xTB, xTB1, xAndT, xAndT1, xAndT2, xOrT, xOrT1, xOrT2, xNotT, xNotT1, xAnd, xAnd1, xAnd2, xOr, xOr1, xOr2, xNot, xNot1, xIfE, xIfE1, xIfE2, xCh, xCh1, xCh2, xCh3, xCh3b, xCh4, xNoP, xPart, xPart1, xCut, xCut1, xCut2, xCut3, xB, xB1, xCall, xCall1, xCallK, xCallK1, perm_nil, perm_cons, xCat, xCat1, xCat2, xRev, xRevL, xRevT, sSkip, sSeq, sRet, sRetN, sIf, sIf1, sIf2, sDrop, sDrop1, sBrk, sCnt, sSet, sSet1, sAsg, sAsg1, gN, gT, gPut, put_nil, put_cons, sAug, sAug1, sAug2, xFr, xFr1, xfLst, sOwn, sOwn1, sApp, sApp1, sApp2, sThaw, sThaw1, sThaw2, sThaw3, xPeek, xPeek1, xPeekd, xPeek2, xPeekT, xPeekT1, xPeekTd, sSetIx, sSetIx1, sSetIx2, sSetIx3, sSetIx4, iSq, iSqL, iSqT, iEn, iEnL, iEnT, iR1, iR11, iR2, iR21, sFor, xComp, sPenN, sPenR, sOwnD, sDSet, sDSet1, sDSet2, sDSet3, sDSet5, dKi, dKs, sThawD, sThawD1, iIt, iIt1, gPn, gPt, gPs0, gPs1, gPs2, sTry, sTry1, sTryN, sTryR, sTryR2, sTryB, sTryC, sRaise, nOw0, nOw1, nOw2, fld0, fld1, xIsX1, xIsX2, xIsNotX, xIsNX, U.l0, U.l1, U.s0, U.s1, wS0, wS1, beq_self_eq_true, sSet2, sSet21, sPar, sPar1, sOwnM, sOwnM1, sExt, sExt1, sExt2, sWh1, sWh2, xIsNI, xIsNNo, xIsNotI, xIsNotNo, xIsNotL, xIsNotT, xIsNotS, xIsS, xIsL, xIsT, xNeS, sRetO, sRetO1, sRetF, xCallF, xCallF1, xCallFK, xCallFK1, List.getD_cons_zero, List.getD_cons_succ, Bool.not_true, Bool.not_false, Bool.not_not, xLt, xLe, xGt, xGe, xEqI, xEqS, xNeI, xLenS, xLenL, xLenT, xAddI, xAddS, xAddL, xAddT, xSubI, xMulI, xMulL, xMulT, xDivI, xModI, xPowI, xNegI, xIntI, xIntB, xAbsI, xMin2, xMax2, xListL, xListT, xTupleL, xTupleT, xCutL, xCutT, xIsN, xIsB, xIsNotB, xIx0T, xIx1T, xIx2T, xIx3T, xIx0L, xIx1L, Int.reduceSub, Int.reduceAdd, Int.reduceMul, Int.reduceToNat, Int.reducePow, Int.reduceNeg]
    refine sIfk.mpr ⟨fun hc => ?_, fun hc => ?_⟩
    · simp only [iSt, iSt1, xSplit, xRmPre, xInSg, xFs, xFs0, xFs1, xFs2, xFs3, xFmt, xFmtI, xFmtS, xStrI, xStrS, xM1, xM11, xM12, xInK, xNotInK, xfSorted, xVar, xVar1, xC, xN, xOp, xOp1, xOp2, xUn, xUn1, xNil, xCons, xCons1, xCons2, xTup, xTup1, xLst, xLst1, xTru, xTru1, xOb, tru_non, tru_bl, tru_int, tru_lst, tru_tup, xTB, xTB1, xAndT, xAndT1, xAndT2, xOrT, xOrT1, xOrT2, xNotT, xNotT1, xAnd, xAnd1, xAnd2, xOr, xOr1, xOr2, xNot, xNot1, xIfE, xIfE1, xIfE2, xCh, xCh1, xCh2, xCh3, xCh3b, xCh4, xNoP, xPart, xPart1, xCut, xCut1, xCut2, xCut3, xB, xB1, xCall, xCall1, xCallK, xCallK1, perm_nil, perm_cons, xCat, xCat1, xCat2, xRev, xRevL, xRevT, sSkip, sSeq, sRet, sRetN, sIf, sIf1, sIf2, sDrop, sDrop1, sBrk, sCnt, sSet, sSet1, sAsg, sAsg1, gN, gT, gPut, put_nil, put_cons, sAug, sAug1, sAug2, xFr, xFr1, xfLst, sOwn, sOwn1, sApp, sApp1, sApp2, sThaw, sThaw1, sThaw2, sThaw3, xPeek, xPeek1, xPeekd, xPeek2, xPeekT, xPeekT1, xPeekTd, sSetIx, sSetIx1, sSetIx2, sSetIx3, sSetIx4, iSq, iSqL, iSqT, iEn, iEnL, iEnT, iR1, iR11, iR2, iR21, sFor, xComp, sPenN, sPenR, sOwnD, sDSet, sDSet1, sDSet2, sDSet3, sDSet5, dKi, dKs, sThawD, sThawD1, iIt, iIt1, gPn, gPt, gPs0, gPs1, gPs2, sTry, sTry1, sTryN, sTryR, sTryR2, sTryB, sTryC, sRaise, nOw0, nOw1, nOw2, fld0, fld1, xIsX1, xIsX2, xIsNotX, xIsNX, U.l0, U.l1, U.s0, U.s1, wS0, wS1, beq_self_eq_true, sSet2, sSet21, sPar, sPar1, sOwnM, sOwnM1, sExt, sExt1, sExt2, sWh1, sWh2, xIsNI, xIsNNo, xIsNotI, xIsNotNo, xIsNotL, xIsNotT, xIsNotS, xIsS, xIsL, xIsT, xNeS, sRetO, sRetO1, sRetF, xCallF, xCallF1, xCallFK, xCallFK1, List.getD_cons_zero, List.getD_cons_succ, Bool.not_true, Bool.not_false, Bool.not_not, xLt, xLe, xGt, xGe, xEqI, xEqS, xNeI, xLenS, xLenL, xLenT, xAddI, xAddS, xAddL, xAddT, xSubI, xMulI, xMulL, xMulT, xDivI, xModI, xPowI, xNegI, xIntI, xIntB, xAbsI, xMin2, xMax2, xListL, xListT, xTupleL, xTupleT, xCutL, xCutT, xIsN, xIsB, xIsNotB, xIx0T, xIx1T, xIx2T, xIx3T, xIx0L, xIx1L, Int.reduceSub, Int.reduceAdd, Int.reduceMul, Int.reduceToNat, Int.reducePow, Int.reduceNeg]
      have e : entD (.tup ds) = false := by
        have : ¬ ds.length ≤ 60 := by have := of_decide_eq_true hc; omega
        simp [entD, this]
      rw [e] at hQ
      exact hQ
    · simp only [iSt, iSt1, xSplit, xRmPre, xInSg, xFs, xFs0, xFs1, xFs2, xFs3, xFmt, xFmtI, xFmtS, xStrI, xStrS, xM1, xM11, xM12, xInK, xNotInK, xfSorted, xVar, xVar1, xC, xN, xOp, xOp1, xOp2, xUn, xUn1, xNil, xCons, xCons1, xCons2, xTup, xTup1, xLst, xLst1, xTru, xTru1, xOb, tru_non, tru_bl, tru_int, tru_lst, tru_tup, xTB, xTB1, xAndT, xAndT1, xAndT2, xOrT, xOrT1, xOrT2, xNotT, xNotT1, xAnd, xAnd1, xAnd2, xOr, xOr1, xOr2, xNot, xNot1, xIfE, xIfE1, xIfE2, xCh, xCh1, xCh2, xCh3, xCh3b, xCh4, xNoP, xPart, xPart1, xCut, xCut1, xCut2, xCut3, xB, xB1, xCall, xCall1, xCallK, xCallK1, perm_nil, perm_cons, xCat, xCat1, xCat2, xRev, xRevL, xRevT, sSkip, sSeq, sRet, sRetN, sIf, sIf1, sIf2, sDrop, sDrop1, sBrk, sCnt, sSet, sSet1, sAsg, sAsg1, gN, gT, gPut, put_nil, put_cons, sAug, sAug1, sAug2, xFr, xFr1, xfLst, sOwn, sOwn1, sApp, sApp1, sApp2, sThaw, sThaw1, sThaw2, sThaw3, xPeek, xPeek1, xPeekd, xPeek2, xPeekT, xPeekT1, xPeekTd, sSetIx, sSetIx1, sSetIx2, sSetIx3, sSetIx4, iSq, iSqL, iSqT, iEn, iEnL, iEnT, iR1, iR11, iR2, iR21, sFor, xComp, sPenN, sPenR, sOwnD, sDSet, sDSet1, sDSet2, sDSet3, sDSet5, dKi, dKs, sThawD, sThawD1, iIt, iIt1, gPn, gPt, gPs0, gPs1, gPs2, sTry, sTry1, sTryN, sTryR, sTryR2, sTryB, sTryC, sRaise, nOw0, nOw1, nOw2, fld0, fld1, xIsX1, xIsX2, xIsNotX, xIsNX, U.l0, U.l1, U.s0, U.s1, wS0, wS1, beq_self_eq_true, sSet2, sSet21, sPar, sPar1, sOwnM, sOwnM1, sExt, sExt1, sExt2, sWh1, sWh2, xIsNI, xIsNNo, xIsNotI, xIsNotNo, xIsNotL, xIsNotT, xIsNotS, xIsS, xIsL, xIsT, xNeS, sRetO, sRetO1, sRetF, xCallF, xCallF1, xCallFK, xCallFK1, List.getD_cons_zero, List.getD_cons_succ, Bool.not_true, Bool.not_false, Bool.not_not, xLt, xLe, xGt, xGe, xEqI, xEqS, xNeI, xLenS, xLenL, xLenT, xAddI, xAddS, xAddL, xAddT, xSubI, xMulI, xMulL, xMulT, xDivI, xModI, xPowI, xNegI, xIntI, xIntB, xAbsI, xMin2, xMax2, xListL, xListT, xTupleL, xTupleT, xCutL, xCutT, xIsN, xIsB, xIsNotB, xIx0T, xIx1T, xIx2T, xIx3T, xIx0L, xIx1L, Int.reduceSub, Int.reduceAdd, Int.reduceMul, Int.reduceToNat, Int.reducePow, Int.reduceNeg]
      have hl : ds.length ≤ 60 := by have := of_decide_eq_false hc; omega
      have eD : entD (.tup ds) = entL 0 ds := by simp [entD, hl]
      rw [eD] at hQ
      have hf : ∃ j, D.fits j ds = true := by
        cases k with
        | zero => simp [D.fit] at hk
        | succ j => exact ⟨j, by simpa [D.fit] using hk⟩
      obtain ⟨j, hf⟩ := hf
      refine sFor1 (fun r ρ => ∃ lo y, ρ = ⟨[.dat (.tup ds), .dat (.int lo), y], pen, n⟩ ∧ entL lo r = entL 0 ds ∧ D.fits j r = true) ⟨0, _, rfl, rfl, hf⟩ ?_ ?_
      · rintro ρ ⟨lo, y, rfl, e, _⟩
        simp only [iSt, iSt1, xSplit, xRmPre, xInSg, xFs, xFs0, xFs1, xFs2, xFs3, xFmt, xFmtI, xFmtS, xStrI, xStrS, xM1, xM11, xM12, xInK, xNotInK, xfSorted, xVar, xVar1, xC, xN, xOp, xOp1, xOp2, xUn, xUn1, xNil, xCons, xCons1, xCons2, xTup, xTup1, xLst, xLst1, xTru, xTru1, xOb, tru_non, tru_bl, tru_int, tru_lst, tru_tup, xTB, xTB1, xAndT, xAndT1, xAndT2, xOrT, xOrT1, xOrT2, xNotT, xNotT1, xAnd, xAnd1, xAnd2, xOr, xOr1, xOr2, xNot, xNot1, xIfE, xIfE1, xIfE2, xCh, xCh1, xCh2, xCh3, xCh3b, xCh4, xNoP, xPart, xPart1, xCut, xCut1, xCut2, xCut3, xB, xB1, xCall, xCall1, xCallK, xCallK1, perm_nil, perm_cons, xCat, xCat1, xCat2, xRev, xRevL, xRevT, sSkip, sSeq, sRet, sRetN, sIf, sIf1, sIf2, sDrop, sDrop1, sBrk, sCnt, sSet, sSet1, sAsg, sAsg1, gN, gT, gPut, put_nil, put_cons, sAug, sAug1, sAug2, xFr, xFr1, xfLst, sOwn, sOwn1, sApp, sApp1, sApp2, sThaw, sThaw1, sThaw2, sThaw3, xPeek, xPeek1, xPeekd, xPeek2, xPeekT, xPeekT1, xPeekTd, sSetIx, sSetIx1, sSetIx2, sSetIx3, sSetIx4, iSq, iSqL, iSqT, iEn, iEnL, iEnT, iR1, iR11, iR2, iR21, sFor, xComp, sPenN, sPenR, sOwnD, sDSet, sDSet1, sDSet2, sDSet3, sDSet5, dKi, dKs, sThawD, sThawD1, iIt, iIt1, gPn, gPt, gPs0, gPs1, gPs2, sTry, sTry1, sTryN, sTryR, sTryR2, sTryB, sTryC, sRaise, nOw0, nOw1, nOw2, fld0, fld1, xIsX1, xIsX2, xIsNotX, xIsNX, U.l0, U.l1, U.s0, U.s1, wS0, wS1, beq_self_eq_true, sSet2, sSet21, sPar, sPar1, sOwnM, sOwnM1, sExt, sExt1, sExt2, sWh1, sWh2, xIsNI, xIsNNo, xIsNotI, xIsNotNo, xIsNotL, xIsNotT, xIsNotS, xIsS, xIsL, xIsT, xNeS, sRetO, sRetO1, sRetF, xCallF, xCallF1, xCallFK, xCallFK1, List.getD_cons_zero, List.getD_cons_succ, Bool.not_true, Bool.not_false, Bool.not_not, xLt, xLe, xGt, xGe, xEqI, xEqS, xNeI, xLenS, xLenL, xLenT, xAddI, xAddS, xAddL, xAddT, xSubI, xMulI, xMulL, xMulT, xDivI, xModI, xPowI, xNegI, xIntI, xIntB, xAbsI, xMin2, xMax2, xListL, xListT, xTupleL, xTupleT, xCutL, xCutT, xIsN, xIsB, xIsNotB, xIx0T, xIx1T, xIx2T, xIx3T, xIx0L, xIx1L, Int.reduceSub, Int.reduceAdd, Int.reduceMul, Int.reduceToNat, Int.reducePow, Int.reduceNeg]
        rw [← e] at hQ
        exact hQ
      · rintro d r ρ ⟨lo, y, rfl, e, hfr⟩
        simp only [D.fits, Bool.and_eq_true] at hfr
        have hd := fit_tyn hfr.1
        simp only [iSt, iSt1, xSplit, xRmPre, xInSg, xFs, xFs0, xFs1, xFs2, xFs3, xFmt, xFmtI, xFmtS, xStrI, xStrS, xM1, xM11, xM12, xInK, xNotInK, xfSorted, xVar, xVar1, xC, xN, xOp, xOp1, xOp2, xUn, xUn1, xNil, xCons, xCons1, xCons2, xTup, xTup1, xLst, xLst1, xTru, xTru1, xOb, tru_non, tru_bl, tru_int, tru_lst, tru_tup, xTB, xTB1, xAndT, xAndT1, xAndT2, xOrT, xOrT1, xOrT2, xNotT, xNotT1, xAnd, xAnd1, xAnd2, xOr, xOr1, xOr2, xNot, xNot1, xIfE, xIfE1, xIfE2, xCh, xCh1, xCh2, xCh3, xCh3b, xCh4, xNoP, xPart, xPart1, xCut, xCut1, xCut2, xCut3, xB, xB1, xCall, xCall1, xCallK, xCallK1, perm_nil, perm_cons, xCat, xCat1, xCat2, xRev, xRevL, xRevT, sSkip, sSeq, sRet, sRetN, sIf, sIf1, sIf2, sDrop, sDrop1, sBrk, sCnt, sSet, sSet1, sAsg, sAsg1, gN, gT, gPut, put_nil, put_cons, sAug, sAug1, sAug2, xFr, xFr1, xfLst, sOwn, sOwn1, sApp, sApp1, sApp2, sThaw, sThaw1, sThaw2, sThaw3, xPeek, xPeek1, xPeekd, xPeek2, xPeekT, xPeekT1, xPeekTd, sSetIx, sSetIx1, sSetIx2, sSetIx3, sSetIx4, iSq, iSqL, iSqT, iEn, iEnL, iEnT, iR1, iR11, iR2, iR21, sFor, xComp, sPenN, sPenR, sOwnD, sDSet, sDSet1, sDSet2, sDSet3, sDSet5, dKi, dKs, sThawD, sThawD1, iIt, iIt1, gPn, gPt, gPs0, gPs1, gPs2, sTry, sTry1, sTryN, sTryR, sTryR2, sTryB, sTryC, sRaise, nOw0, nOw1, nOw2, fld0, fld1, xIsX1, xIsX2, xIsNotX, xIsNX, U.l0, U.l1, U.s0, U.s1, wS0, wS1, beq_self_eq_true, sSet2, sSet21, sPar, sPar1, sOwnM, sOwnM1, sExt, sExt1, sExt2, sWh1, sWh2, xIsNI, xIsNNo, xIsNotI, xIsNotNo, xIsNotL, xIsNotT, xIsNotS, xIsS, xIsL, xIsT, xNeS, sRetO, sRetO1, sRetF, xCallF, xCallF1, xCallFK, xCallFK1, List.getD_cons_zero, List.getD_cons_succ, Bool.not_true, Bool.not_false, Bool.not_not, xLt, xLe, xGt, xGe, xEqI, xEqS, xNeI, xLenS, xLenL, xLenT, xAddI, xAddS, xAddL, xAddT, xSubI, xMulI, xMulL, xMulT, xDivI, xModI, xPowI, xNegI, xIntI, xIntB, xAbsI, xMin2, xMax2, xListL, xListT, xTupleL, xTupleT, xCutL, xCutT, xIsN, xIsB, xIsNotB, xIx0T, xIx1T, xIx2T, xIx3T, xIx0L, xIx1L, Int.reduceSub, Int.reduceAdd, Int.reduceMul, Int.reduceToNat, Int.reducePow, Int.reduceNeg, xIsiT hd]
        cases d with
        | tup es =>
          simp only [D.isT, iSt, iSt1, xSplit, xRmPre, xInSg, xFs, xFs0, xFs1, xFs2, xFs3, xFmt, xFmtI, xFmtS, xStrI, xStrS, xM1, xM11, xM12, xInK, xNotInK, xfSorted, xVar, xVar1, xC, xN, xOp, xOp1, xOp2, xUn, xUn1, xNil, xCons, xCons1, xCons2, xTup, xTup1, xLst, xLst1, xTru, xTru1, xOb, tru_non, tru_bl, tru_int, tru_lst, tru_tup, xTB, xTB1, xAndT, xAndT1, xAndT2, xOrT, xOrT1, xOrT2, xNotT, xNotT1, xAnd, xAnd1, xAnd2, xOr, xOr1, xOr2, xNot, xNot1, xIfE, xIfE1, xIfE2, xCh, xCh1, xCh2, xCh3, xCh3b, xCh4, xNoP, xPart, xPart1, xCut, xCut1, xCut2, xCut3, xB, xB1, xCall, xCall1, xCallK, xCallK1, perm_nil, perm_cons, xCat, xCat1, xCat2, xRev, xRevL, xRevT, sSkip, sSeq, sRet, sRetN, sIf, sIf1, sIf2, sDrop, sDrop1, sBrk, sCnt, sSet, sSet1, sAsg, sAsg1, gN, gT, gPut, put_nil, put_cons, sAug, sAug1, sAug2, xFr, xFr1, xfLst, sOwn, sOwn1, sApp, sApp1, sApp2, sThaw, sThaw1, sThaw2, sThaw3, xPeek, xPeek1, xPeekd, xPeek2, xPeekT, xPeekT1, xPeekTd, sSetIx, sSetIx1, sSetIx2, sSetIx3, sSetIx4, iSq, iSqL, iSqT, iEn, iEnL, iEnT, iR1, iR11, iR2, iR21, sFor, xComp, sPenN, sPenR, sOwnD, sDSet, sDSet1, sDSet2, sDSet3, sDSet5, dKi, dKs, sThawD, sThawD1, iIt, iIt1, gPn, gPt, gPs0, gPs1, gPs2, sTry, sTry1, sTryN, sTryR, sTryR2, sTryB, sTryC, sRaise, nOw0, nOw1, nOw2, fld0, fld1, xIsX1, xIsX2, xIsNotX, xIsNX, U.l0, U.l1, U.s0, U.s1, wS0, wS1, beq_self_eq_true, sSet2, sSet21, sPar, sPar1, sOwnM, sOwnM1, sExt, sExt1, sExt2, sWh1, sWh2, xIsNI, xIsNNo, xIsNotI, xIsNotNo, xIsNotL, xIsNotT, xIsNotS, xIsS, xIsL, xIsT, xNeS, sRetO, sRetO1, sRetF, xCallF, xCallF1, xCallFK, xCallFK1, List.getD_cons_zero, List.getD_cons_succ, Bool.not_true, Bool.not_false, Bool.not_not, xLt, xLe, xGt, xGe, xEqI, xEqS, xNeI, xLenS, xLenL, xLenT, xAddI, xAddS, xAddL, xAddT, xSubI, xMulI, xMulL, xMulT, xDivI, xModI, xPowI, xNegI, xIntI, xIntB, xAbsI, xMin2, xMax2, xListL, xListT, xTupleL, xTupleT, xCutL, xCutT, xIsN, xIsB, xIsNotB, xIx0T, xIx1T, xIx2T, xIx3T, xIx0L, xIx1L, Int.reduceSub, Int.reduceAdd, Int.reduceMul, Int.reduceToNat, Int.reducePow, Int.reduceNeg]
          refine sIfk.mpr ⟨fun hc => ?_, fun hc => ?_⟩
          · simp only [iSt, iSt1, xSplit, xRmPre, xInSg, xFs, xFs0, xFs1, xFs2, xFs3, xFmt, xFmtI, xFmtS, xStrI, xStrS, xM1, xM11, xM12, xInK, xNotInK, xfSorted, xVar, xVar1, xC, xN, xOp, xOp1, xOp2, xUn, xUn1, xNil, xCons, xCons1, xCons2, xTup, xTup1, xLst, xLst1, xTru, xTru1, xOb, tru_non, tru_bl, tru_int, tru_lst, tru_tup, xTB, xTB1, xAndT, xAndT1, xAndT2, xOrT, xOrT1, xOrT2, xNotT, xNotT1, xAnd, xAnd1, xAnd2, xOr, xOr1, xOr2, xNot, xNot1, xIfE, xIfE1, xIfE2, xCh, xCh1, xCh2, xCh3, xCh3b, xCh4, xNoP, xPart, xPart1, xCut, xCut1, xCut2, xCut3, xB, xB1, xCall, xCall1, xCallK, xCallK1, perm_nil, perm_cons, xCat, xCat1, xCat2, xRev, xRevL, xRevT, sSkip, sSeq, sRet, sRetN, sIf, sIf1, sIf2, sDrop, sDrop1, sBrk, sCnt, sSet, sSet1, sAsg, sAsg1, gN, gT, gPut, put_nil, put_cons, sAug, sAug1, sAug2, xFr, xFr1, xfLst, sOwn, sOwn1, sApp, sApp1, sApp2, sThaw, sThaw1, sThaw2, sThaw3, xPeek, xPeek1, xPeekd, xPeek2, xPeekT, xPeekT1, xPeekTd, sSetIx, sSetIx1, sSetIx2, sSetIx3, sSetIx4, iSq, iSqL, iSqT, iEn, iEnL, iEnT, iR1, iR11, iR2, iR21, sFor, xComp, sPenN, sPenR, sOwnD, sDSet, sDSet1, sDSet2, sDSet3, sDSet5, dKi, dKs, sThawD, sThawD1, iIt, iIt1, gPn, gPt, gPs0, gPs1, gPs2, sTry, sTry1, sTryN, sTryR, sTryR2, sTryB, sTryC, sRaise, nOw0, nOw1, nOw2, fld0, fld1, xIsX1, xIsX2, xIsNotX, xIsNX, U.l0, U.l1, U.s0, U.s1, wS0, wS1, beq_self_eq_true, sSet2, sSet21, sPar, sPar1, sOwnM, sOwnM1, sExt, sExt1, sExt2, sWh1, sWh2, xIsNI, xIsNNo, xIsNotI, xIsNotNo, xIsNotL, xIsNotT, xIsNotS, xIsS, xIsL, xIsT, xNeS, sRetO, sRetO1, sRetF, xCallF, xCallF1, xCallFK, xCallFK1, List.getD_cons_zero, List.getD_cons_succ, Bool.not_true, Bool.not_false, Bool.not_not, xLt, xLe, xGt, xGe, xEqI, xEqS, xNeI, xLenS, xLenL, xLenT, xAddI, xAddS, xAddL, xAddT, xSubI, xMulI, xMulL, xMulT, xDivI, xModI, xPowI, xNegI, xIntI, xIntB, xAbsI, xMin2, xMax2, xListL, xListT, xTupleL, xTupleT, xCutL, xCutT, xIsN, xIsB, xIsNotB, xIx0T, xIx1T, xIx2T, xIx3T, xIx0L, xIx1L, Int.reduceSub, Int.reduceAdd, Int.reduceMul, Int.reduceToNat, Int.reducePow, Int.reduceNeg]
            have : entL lo (.tup es :: r) = false := by
              match es, hc with
              | [], _ => simp [entL]
              | [_], _ => simp [entL]
              | _ :: _ :: _ :: _, _ => simp [entL]
              | [a, b], hc => simp at hc
            rw [← e, this] at hQ
            exact hQ
          · match es, hc, hfr with
            | [], hc, _ => simp at hc
            | [_], hc, _ => simp at hc
            | _ :: _ :: _ :: _, hc, _ => simp at hc; omega
            | [a, b], _, hfr =>
              simp only [iSt, iSt1, xSplit, xRmPre, xInSg, xFs, xFs0, xFs1, xFs2, xFs3, xFmt, xFmtI, xFmtS, xStrI, xStrS, xM1, xM11, xM12, xInK, xNotInK, xfSorted, xVar, xVar1, xC, xN, xOp, xOp1, xOp2, xUn, xUn1, xNil, xCons, xCons1, xCons2, xTup, xTup1, xLst, xLst1, xTru, xTru1, xOb, tru_non, tru_bl, tru_int, tru_lst, tru_tup, xTB, xTB1, xAndT, xAndT1, xAndT2, xOrT, xOrT1, xOrT2, xNotT, xNotT1, xAnd, xAnd1, xAnd2, xOr, xOr1, xOr2, xNot, xNot1, xIfE, xIfE1, xIfE2, xCh, xCh1, xCh2, xCh3, xCh3b, xCh4, xNoP, xPart, xPart1, xCut, xCut1, xCut2, xCut3, xB, xB1, xCall, xCall1, xCallK, xCallK1, perm_nil, perm_cons, xCat, xCat1, xCat2, xRev, xRevL, xRevT, sSkip, sSeq, sRet, sRetN, sIf, sIf1, sIf2, sDrop, sDrop1, sBrk, sCnt, sSet, sSet1, sAsg, sAsg1, gN, gT, gPut, put_nil, put_cons, sAug, sAug1, sAug2, xFr, xFr1, xfLst, sOwn, sOwn1, sApp, sApp1, sApp2, sThaw, sThaw1, sThaw2, sThaw3, xPeek, xPeek1, xPeekd, xPeek2, xPeekT, xPeekT1, xPeekTd, sSetIx, sSetIx1, sSetIx2, sSetIx3, sSetIx4, iSq, iSqL, iSqT, iEn, iEnL, iEnT, iR1, iR11, iR2, iR21, sFor, xComp, sPenN, sPenR, sOwnD, sDSet, sDSet1, sDSet2, sDSet3, sDSet5, dKi, dKs, sThawD, sThawD1, iIt, iIt1, gPn, gPt, gPs0, gPs1, gPs2, sTry, sTry1, sTryN, sTryR, sTryR2, sTryB, sTryC, sRaise, nOw0, nOw1, nOw2, fld0, fld1, xIsX1, xIsX2, xIsNotX, xIsNX, U.l0, U.l1, U.s0, U.s1, wS0, wS1, beq_self_eq_true, sSet2, sSet21, sPar, sPar1, sOwnM, sOwnM1, sExt, sExt1, sExt2, sWh1, sWh2, xIsNI, xIsNNo, xIsNotI, xIsNotNo, xIsNotL, xIsNotT, xIsNotS, xIsS, xIsL, xIsT, xNeS, sRetO, sRetO1, sRetF, xCallF, xCallF1, xCallFK, xCallFK1, List.getD_cons_zero, List.getD_cons_succ, Bool.not_true, Bool.not_false, Bool.not_not, xLt, xLe, xGt, xGe, xEqI, xEqS, xNeI, xLenS, xLenL, xLenT, xAddI, xAddS, xAddL, xAddT, xSubI, xMulI, xMulL, xMulT, xDivI, xModI, xPowI, xNegI, xIntI, xIntB, xAbsI, xMin2, xMax2, xListL, xListT, xTupleL, xTupleT, xCutL, xCutT, xIsN, xIsB, xIsNotB, xIx0T, xIx1T, xIx2T, xIx3T, xIx0L, xIx1L, Int.reduceSub, Int.reduceAdd, Int.reduceMul, Int.reduceToNat, Int.reducePow, Int.reduceNeg, sp_is_between]
              have ha : a.tyn.isSome = true ∧ b.tyn.isSome = true := by
                cases j with
                | zero => simp [D.fit] at hfr
                | succ j =>
                  have := hfr.1
                  simp only [D.fit, D.fits, Bool.and_eq_true] at this
                  exact ⟨fit_tyn this.1, fit_tyn this.2.1⟩
              refine ⟨ha.1, ?_⟩
              cases h1 : btw a lo 59
              · simp only [iSt, iSt1, xSplit, xRmPre, xInSg, xFs, xFs0, xFs1, xFs2, xFs3, xFmt, xFmtI, xFmtS, xStrI, xStrS, xM1, xM11, xM12, xInK, xNotInK, xfSorted, xVar, xVar1, xC, xN, xOp, xOp1, xOp2, xUn, xUn1, xNil, xCons, xCons1, xCons2, xTup, xTup1, xLst, xLst1, xTru, xTru1, xOb, tru_non, tru_bl, tru_int, tru_lst, tru_tup, xTB, xTB1, xAndT, xAndT1, xAndT2, xOrT, xOrT1, xOrT2, xNotT, xNotT1, xAnd, xAnd1, xAnd2, xOr, xOr1, xOr2, xNot, xNot1, xIfE, xIfE1, xIfE2, xCh, xCh1, xCh2, xCh3, xCh3b, xCh4, xNoP, xPart, xPart1, xCut, xCut1, xCut2, xCut3, xB, xB1, xCall, xCall1, xCallK, xCallK1, perm_nil, perm_cons, xCat, xCat1, xCat2, xRev, xRevL, xRevT, sSkip, sSeq, sRet, sRetN, sIf, sIf1, sIf2, sDrop, sDrop1, sBrk, sCnt, sSet, sSet1, sAsg, sAsg1, gN, gT, gPut, put_nil, put_cons, sAug, sAug1, sAug2, xFr, xFr1, xfLst, sOwn, sOwn1, sApp, sApp1, sApp2, sThaw, sThaw1, sThaw2, sThaw3, xPeek, xPeek1, xPeekd, xPeek2, xPeekT, xPeekT1, xPeekTd, sSetIx, sSetIx1, sSetIx2, sSetIx3, sSetIx4, iSq, iSqL, iSqT, iEn, iEnL, iEnT, iR1, iR11, iR2, iR21, sFor, xComp, sPenN, sPenR, sOwnD, sDSet, sDSet1, sDSet2, sDSet3, sDSet5, dKi, dKs, sThawD, sThawD1, iIt, iIt1, gPn, gPt, gPs0, gPs1, gPs2, sTry, sTry1, sTryN, sTryR, sTryR2, sTryB, sTryC, sRaise, nOw0, nOw1, nOw2, fld0, fld1, xIsX1, xIsX2, xIsNotX, xIsNX, U.l0, U.l1, U.s0, U.s1, wS0, wS1, beq_self_eq_true, sSet2, sSet21, sPar, sPar1, sOwnM, sOwnM1, sExt, sExt1, sExt2, sWh1, sWh2, xIsNI, xIsNNo, xIsNotI, xIsNotNo, xIsNotL, xIsNotT, xIsNotS, xIsS, xIsL, xIsT, xNeS, sRetO, sRetO1, sRetF, xCallF, xCallF1, xCallFK, xCallFK1, List.getD_cons_zero, List.getD_cons_succ, Bool.not_true, Bool.not_false, Bool.not_not, xLt, xLe, xGt, xGe, xEqI, xEqS, xNeI, xLenS, xLenL, xLenT, xAddI, xAddS, xAddL, xAddT, xSubI, xMulI, xMulL, xMulT, xDivI, xModI, xPowI, xNegI, xIntI, xIntB, xAbsI, xMin2, xMax2, xListL, xListT, xTupleL, xTupleT, xCutL, xCutT, xIsN, xIsB, xIsNotB, xIx0T, xIx1T, xIx2T, xIx3T, xIx0L, xIx1L, Int.reduceSub, Int.reduceAdd, Int.reduceMul, Int.reduceToNat, Int.reducePow, Int.reduceNeg]
                have : entL lo (.tup [a, b] :: r) = false := by
                  cases a <;> simp_all [entL]
                rw [← e, this] at hQ
                exact hQ
              · simp only [iSt, iSt1, xSplit, xRmPre, xInSg, xFs, xFs0, xFs1, xFs2, xFs3, xFmt, xFmtI, xFmtS, xStrI, xStrS, xM1, xM11, xM12, xInK, xNotInK, xfSorted, xVar, xVar1, xC, xN, xOp, xOp1, xOp2, xUn, xUn1, xNil, xCons, xCons1, xCons2, xTup, xTup1, xLst, xLst1, xTru, xTru1, xOb, tru_non, tru_bl, tru_int, tru_lst, tru_tup, xTB, xTB1, xAndT, xAndT1, xAndT2, xOrT, xOrT1, xOrT2, xNotT, xNotT1, xAnd, xAnd1, xAnd2, xOr, xOr1, xOr2, xNot, xNot1, xIfE, xIfE1, xIfE2, xCh, xCh1, xCh2, xCh3, xCh3b, xCh4, xNoP, xPart, xPart1, xCut, xCut1, xCut2, xCut3, xB, xB1, xCall, xCall1, xCallK, xCallK1, perm_nil, perm_cons, xCat, xCat1, xCat2, xRev, xRevL, xRevT, sSkip, sSeq, sRet, sRetN, sIf, sIf1, sIf2, sDrop, sDrop1, sBrk, sCnt, sSet, sSet1, sAsg, sAsg1, gN, gT, gPut, put_nil, put_cons, sAug, sAug1, sAug2, xFr, xFr1, xfLst, sOwn, sOwn1, sApp, sApp1, sApp2, sThaw, sThaw1, sThaw2, sThaw3, xPeek, xPeek1, xPeekd, xPeek2, xPeekT, xPeekT1, xPeekTd, sSetIx, sSetIx1, sSetIx2, sSetIx3, sSetIx4, iSq, iSqL, iSqT, iEn, iEnL, iEnT, iR1, iR11, iR2, iR21, sFor, xComp, sPenN, sPenR, sOwnD, sDSet, sDSet1, sDSet2, sDSet3, sDSet5, dKi, dKs, sThawD, sThawD1, iIt, iIt1, gPn, gPt, gPs0, gPs1, gPs2, sTry, sTry1, sTryN, sTryR, sTryR2, sTryB, sTryC, sRaise, nOw0, nOw1, nOw2, fld0, fld1, xIsX1, xIsX2, xIsNotX, xIsNX, U.l0, U.l1, U.s0, U.s1, wS0, wS1, beq_self_eq_true, sSet2, sSet21, sPar, sPar1, sOwnM, sOwnM1, sExt, sExt1, sExt2, sWh1, sWh2, xIsNI, xIsNNo, xIsNotI, xIsNotNo, xIsNotL, xIsNotT, xIsNotS, xIsS, xIsL, xIsT, xNeS, sRetO, sRetO1, sRetF, xCallF, xCallF1, xCallFK, xCallFK1, List.getD_cons_zero, List.getD_cons_succ, Bool.not_true, Bool.not_false, Bool.not_not, xLt, xLe, xGt, xGe, xEqI, xEqS, xNeI, xLenS, xLenL, xLenT, xAddI, xAddS, xAddL, xAddT, xSubI, xMulI, xMulL, xMulT, xDivI, xModI, xPowI, xNegI, xIntI, xIntB, xAbsI, xMin2, xMax2, xListL, xListT, xTupleL, xTupleT, xCutL, xCutT, xIsN, xIsB, xIsNotB, xIx0T, xIx1T, xIx2T, xIx3T, xIx0L, xIx1L, Int.reduceSub, Int.reduceAdd, Int.reduceMul, Int.reduceToNat, Int.reducePow, Int.reduceNeg]
                refine ⟨ha.2, ?_⟩
                obtain ⟨i, rfl⟩ : ∃ i, a = .int i := by
                  cases a with
                  | int i => exact ⟨i, rfl⟩
                  | _ => exact absurd h1 Bool.false_ne_true
                cases h2 : btw b 0 9999999999999999999999999999999999999999
                · simp only [iSt, iSt1, xSplit, xRmPre, xInSg, xFs, xFs0, xFs1, xFs2, xFs3, xFmt, xFmtI, xFmtS, xStrI, xStrS, xM1, xM11, xM12, xInK, xNotInK, xfSorted, xVar, xVar1, xC, xN, xOp, xOp1, xOp2, xUn, xUn1, xNil, xCons, xCons1, xCons2, xTup, xTup1, xLst, xLst1, xTru, xTru1, xOb, tru_non, tru_bl, tru_int, tru_lst, tru_tup, xTB, xTB1, xAndT, xAndT1, xAndT2, xOrT, xOrT1, xOrT2, xNotT, xNotT1, xAnd, xAnd1, xAnd2, xOr, xOr1, xOr2, xNot, xNot1, xIfE, xIfE1, xIfE2, xCh, xCh1, xCh2, xCh3, xCh3b, xCh4, xNoP, xPart, xPart1, xCut, xCut1, xCut2, xCut3, xB, xB1, xCall, xCall1, xCallK, xCallK1, perm_nil, perm_cons, xCat, xCat1, xCat2, xRev, xRevL, xRevT, sSkip, sSeq, sRet, sRetN, sIf, sIf1, sIf2, sDrop, sDrop1, sBrk, sCnt, sSet, sSet1, sAsg, sAsg1, gN, gT, gPut, put_nil, put_cons, sAug, sAug1, sAug2, xFr, xFr1, xfLst, sOwn, sOwn1, sApp, sApp1, sApp2, sThaw, sThaw1, sThaw2, sThaw3, xPeek, xPeek1, xPeekd, xPeek2, xPeekT, xPeekT1, xPeekTd, sSetIx, sSetIx1, sSetIx2, sSetIx3, sSetIx4, iSq, iSqL, iSqT, iEn, iEnL, iEnT, iR1, iR11, iR2, iR21, sFor, xComp, sPenN, sPenR, sOwnD, sDSet, sDSet1, sDSet2, sDSet3, sDSet5, dKi, dKs, sThawD, sThawD1, iIt, iIt1, gPn, gPt, gPs0, gPs1, gPs2, sTry, sTry1, sTryN, sTryR, sTryR2, sTryB, sTryC, sRaise, nOw0, nOw1, nOw2, fld0, fld1, xIsX1, xIsX2, xIsNotX, xIsNX, U.l0, U.l1, U.s0, U.s1, wS0, wS1, beq_self_eq_true, sSet2, sSet21, sPar, sPar1, sOwnM, sOwnM1, sExt, sExt1, sExt2, sWh1, sWh2, xIsNI, xIsNNo, xIsNotI, xIsNotNo, xIsNotL, xIsNotT, xIsNotS, xIsS, xIsL, xIsT, xNeS, sRetO, sRetO1, sRetF, xCallF, xCallF1, xCallFK, xCallFK1, List.getD_cons_zero, List.getD_cons_succ, Bool.not_true, Bool.not_false, Bool.not_not, xLt, xLe, xGt, xGe, xEqI, xEqS, xNeI, xLenS, xLenL, xLenT, xAddI, xAddS, xAddL, xAddT, xSubI, xMulI, xMulL, xMulT, xDivI, xModI, xPowI, xNegI, xIntI, xIntB, xAbsI, xMin2, xMax2, xListL, xListT, xTupleL, xTupleT, xCutL, xCutT, xIsN, xIsB, xIsNotB, xIx0T, xIx1T, xIx2T, xIx3T, xIx0L, xIx1L, Int.reduceSub, Int.reduceAdd, Int.reduceMul, Int.reduceToNat, Int.reducePow, Int.reduceNeg]
                  have : entL lo (.tup [.int i, b] :: r) = false := by simp [entL, h1, h2]
                  rw [← e, this] at hQ
                  exact hQ
                · simp only [iSt, iSt1, xSplit, xRmPre, xInSg, xFs, xFs0, xFs1, xFs2, xFs3, xFmt, xFmtI, xFmtS, xStrI, xStrS, xM1, xM11, xM12, xInK, xNotInK, xfSorted, xVar, xVar1, xC, xN, xOp, xOp1, xOp2, xUn, xUn1, xNil, xCons, xCons1, xCons2, xTup, xTup1, xLst, xLst1, xTru, xTru1, xOb, tru_non, tru_bl, tru_int, tru_lst, tru_tup, xTB, xTB1, xAndT, xAndT1, xAndT2, xOrT, xOrT1, xOrT2, xNotT, xNotT1, xAnd, xAnd1, xAnd2, xOr, xOr1, xOr2, xNot, xNot1, xIfE, xIfE1, xIfE2, xCh, xCh1, xCh2, xCh3, xCh3b, xCh4, xNoP, xPart, xPart1, xCut, xCut1, xCut2, xCut3, xB, xB1, xCall, xCall1, xCallK, xCallK1, perm_nil, perm_cons, xCat, xCat1, xCat2, xRev, xRevL, xRevT, sSkip, sSeq, sRet, sRetN, sIf, sIf1, sIf2, sDrop, sDrop1, sBrk, sCnt, sSet, sSet1, sAsg, sAsg1, gN, gT, gPut, put_nil, put_cons, sAug, sAug1, sAug2, xFr, xFr1, xfLst, sOwn, sOwn1, sApp, sApp1, sApp2, sThaw, sThaw1, sThaw2, sThaw3, xPeek, xPeek1, xPeekd, xPeek2, xPeekT, xPeekT1, xPeekTd, sSetIx, sSetIx1, sSetIx2, sSetIx3, sSetIx4, iSq, iSqL, iSqT, iEn, iEnL, iEnT, iR1, iR11, iR2, iR21, sFor, xComp, sPenN, sPenR, sOwnD, sDSet, sDSet1, sDSet2, sDSet3, sDSet5, dKi, dKs, sThawD, sThawD1, iIt, iIt1, gPn, gPt, gPs0, gPs1, gPs2, sTry, sTry1, sTryN, sTryR, sTryR2, sTryB, sTryC, sRaise, nOw0, nOw1, nOw2, fld0, fld1, xIsX1, xIsX2, xIsNotX, xIsNX, U.l0, U.l1, U.s0, U.s1, wS0, wS1, beq_self_eq_true, sSet2, sSet21, sPar, sPar1, sOwnM, sOwnM1, sExt, sExt1, sExt2, sWh1, sWh2, xIsNI, xIsNNo, xIsNotI, xIsNotNo, xIsNotL, xIsNotT, xIsNotS, xIsS, xIsL, xIsT, xNeS, sRetO, sRetO1, sRetF, xCallF, xCallF1, xCallFK, xCallFK1, List.getD_cons_zero, List.getD_cons_succ, Bool.not_true, Bool.not_false, Bool.not_not, xLt, xLe, xGt, xGe, xEqI, xEqS, xNeI, xLenS, xLenL, xLenT, xAddI, xAddS, xAddL, xAddT, xSubI, xMulI, xMulL, xMulT, xDivI, xModI, xPowI, xNegI, xIntI, xIntB, xAbsI, xMin2, xMax2, xListL, xListT, xTupleL, xTupleT, xCutL, xCutT, xIsN, xIsB, xIsNotB, xIx0T, xIx1T, xIx2T, xIx3T, xIx0L, xIx1L, Int.reduceSub, Int.reduceAdd, Int.reduceMul, Int.reduceToNat, Int.reducePow, Int.reduceNeg]
                  exact ⟨i + 1, _, rfl, by rw [← e]; simp [entL, h1, h2], hfr.2⟩
        | _ =>
          simp only [D.isT, iSt, iSt1, xSplit, xRmPre, xInSg, xFs, xFs0, xFs1, xFs2, xFs3, xFmt, xFmtI, xFmtS, xStrI, xStrS, xM1, xM11, xM12, xInK, xNotInK, xfSorted, xVar, xVar1, xC, xN, xOp, xOp1, xOp2, xUn, xUn1, xNil, xCons, xCons1, xCons2, xTup, xTup1, xLst, xLst1, xTru, xTru1, xOb, tru_non, tru_bl, tru_int, tru_lst, tru_tup, xTB, xTB1, xAndT, xAndT1, xAndT2, xOrT, xOrT1, xOrT2, xNotT, xNotT1, xAnd, xAnd1, xAnd2, xOr, xOr1, xOr2, xNot, xNot1, xIfE, xIfE1, xIfE2, xCh, xCh1, xCh2, xCh3, xCh3b, xCh4, xNoP, xPart, xPart1, xCut, xCut1, xCut2, xCut3, xB, xB1, xCall, xCall1, xCallK, xCallK1, perm_nil, perm_cons, xCat, xCat1, xCat2, xRev, xRevL, xRevT, sSkip, sSeq, sRet, sRetN, sIf, sIf1, sIf2, sDrop, sDrop1, sBrk, sCnt, sSet, sSet1, sAsg, sAsg1, gN, gT, gPut, put_nil, put_cons, sAug, sAug1, sAug2, xFr, xFr1, xfLst, sOwn, sOwn1, sApp, sApp1, sApp2, sThaw, sThaw1, sThaw2, sThaw3, xPeek, xPeek1, xPeekd, xPeek2, xPeekT, xPeekT1, xPeekTd, sSetIx, sSetIx1, sSetIx2, sSetIx3, sSetIx4, iSq, iSqL, iSqT, iEn, iEnL, iEnT, iR1, iR11, iR2, iR21, sFor, xComp, sPenN, sPenR, sOwnD, sDSet, sDSet1, sDSet2, sDSet3, sDSet5, dKi, dKs, sThawD, sThawD1, iIt, iIt1, gPn, gPt, gPs0, gPs1, gPs2, sTry, sTry1, sTryN, sTryR, sTryR2, sTryB, sTryC, sRaise, nOw0, nOw1, nOw2, fld0, fld1, xIsX1, xIsX2, xIsNotX, xIsNX, U.l0, U.l1, U.s0, U.s1, wS0, wS1, beq_self_eq_true, sSet2, sSet21, sPar, sPar1, sOwnM, sOwnM1, sExt, sExt1, sExt2, sWh1, sWh2, xIsNI, xIsNNo, xIsNotI, xIsNotNo, xIsNotL, xIsNotT, xIsNotS, xIsS, xIsL, xIsT, xNeS, sRetO, sRetO1, sRetF, xCallF, xCallF1, xCallFK, xCallFK1, List.getD_cons_zero, List.getD_cons_succ, Bool.not_true, Bool.not_false, Bool.not_not, xLt, xLe, xGt, xGe, xEqI, xEqS, xNeI, xLenS, xLenL, xLenT, xAddI, xAddS, xAddL, xAddT, xSubI, xMulI, xMulL, xMulT, xDivI, xModI, xPowI, xNegI, xIntI, xIntB, xAbsI, xMin2, xMax2, xListL, xListT, xTupleL, xTupleT, xCutL, xCutT, xIsN, xIsB, xIsNotB, xIx0T, xIx1T, xIx2T, xIx3T, xIx0L, xIx1L, Int.reduceSub, Int.reduceAdd, Int.reduceMul, Int.reduceToNat, Int.reducePow, Int.reduceNeg]
          rw [← e] at hQ
          first | exact hQ | exact absurd hd Bool.false_ne_true
  | _ =>
    simp only [D.isT, iSt, iSt1, xSplit, xRmPre, xInSg, xFs, xFs0, xFs1, xFs2, xFs3, xFmt, xFmtI, xFmtS, xStrI, xStrS, xM1, xM11, xM12, xInK, xNotInK, xfSorted, xVar, xVar1, xC, xN, xOp, xOp1, xOp2, xUn, xUn1, xNil, xCons, xCons1, xCons2, xTup, xTup1, xLst, xLst1, xTru, xTru1, xOb, tru_non, tru_bl, tru_int, tru_lst, tru_tup, xTB, xTB1, xAndT, xAndT1, xAndT2, xOrT, xOrT1, xOrT2, xNotT, xNotT1, xAnd, xAnd1, xAnd2, xOr, xOr1, xOr2, xNot, xNot1, xIfE, xIfE1, xIfE2, xCh, xCh1, xCh2, xCh3, xCh3b, xCh4, xNoP, xPart, xPart1, xCut, xCut1, xCut2, xCut3, xB, xB1, xCall, xCall1, xCallK, xCallK1, perm_nil, perm_cons, xCat, xCat1, xCat2, xRev, xRevL, xRevT, sSkip, sSeq, sRet, sRetN, sIf, sIf1, sIf2, sDrop, sDrop1, sBrk, sCnt, sSet, sSet1, sAsg, sAsg1, gN, gT, gPut, put_nil, put_cons, sAug, sAug1, sAug2, xFr, xFr1, xfLst, sOwn, sOwn1, sApp, sApp1, sApp2, sThaw, sThaw1, sThaw2, sThaw3, xPeek, xPeek1, xPeekd, xPeek2, xPeekT, xPeekT1, xPeekTd, sSetIx, sSetIx1, sSetIx2, sSetIx3, sSetIx4, iSq, iSqL, iSqT, iEn, iEnL, iEnT, iR1, iR11, iR2, iR21, sFor, xComp, sPenN, sPenR, sOwnD, sDSet, sDSet1, sDSet2, sDSet3, sDSet5, dKi, dKs, sThawD, sThawD1, iIt, iIt1, gPn, gPt, gPs0, gPs1, gPs2, sTry, sTry1, sTryN, sTryR, sTryR2, sTryB, sTryC, sRaise, nOw0, nOw1, nOw2, fld0, fld1, xIsX1, xIsX2, xIsNotX, xIsNX, U.l0, U.l1, U.s0, U.s1, wS0, wS1, beq_self_eq_true, sSet2, sSet21, sPar, sPar1, sOwnM, sOwnM1, sExt, sExt1, sExt2, sWh1, sWh2, xIsNI, xIsNNo, xIsNotI, xIsNotNo, xIsNotL, xIsNotT, xIsNotS, xIsS, xIsL, xIsT, xNeS, sRetO, sRetO1, sRetF, xCallF, xCallF1, xCallFK, xCallFK1, List.getD_cons_zero, List.getD_cons_succ, Bool.not_true, Bool.not_false, Bool.not_not, xLt, xLe, xGt, xGe, xEqI, xEqS, xNeI, xLenS, xLenL, xLenT, xAddI, xAddS, xAddL, xAddT, xSubI, xMulI, xMulL, xMulT, xDivI, xModI, xPowI, xNegI, xIntI, xIntB, xAbsI, xMin2, xMax2, xListL, xListT, xTupleL, xTupleT, xCutL, xCutT, xIsN, xIsB, xIsNotB, xIx0T, xIx1T, xIx2T, xIx3T, xIx0L, xIx1L, Int.reduceSub, Int.reduceAdd, Int.reduceMul, Int.reduceToNat, Int.reducePow, Int.reduceNeg]
    first | exact hQ | exact absurd hx Bool.false_ne_true
theorem sq_exact_endless : ((("exact" : Str) == "endless") : Bool) = false := by decide
theorem sq_exact_table : ((("exact" : Str) == "table") : Bool) = false := by decide
theorem sq_exact_step : ((("exact" : Str) == "step") : Bool) = false := by decide
theorem sq_exact_factor : ((("exact" : Str) == "factor") : Bool) = false := by decide
theorem sq_endless_exact : ((("endless" : Str) == "exact") : Bool) = false := by decide
theorem sq_endless_table : ((("endless" : Str) == "table") : Bool) = false := by decide
theorem sq_endless_step : ((("endless" : Str) == "step") : Bool) = false := by decide
theorem sq_endless_factor : ((("endless" : Str) == "factor") : Bool) = false := by decide
theorem sq_table_exact : ((("table" : Str) == "exact") : Bool) = false := by decide
theorem sq_table_endless : ((("table" : Str) == "endless") : Bool) = false := by decide
theorem sq_table_step : ((("table" : Str) == "step") : Bool) = false := by decide
theorem sq_table_factor : ((("table" : Str) == "factor") : Bool) = false := by decide
theorem sq_step_exact : ((("step" : Str) == "exact") : Bool) = false := by decide
theorem sq_step_endless : ((("step" : Str) == "endless") : Bool) = false := by decide
theorem sq_step_table : ((("step" : Str) == "table") : Bool) = false := by decide
theorem sq_step_factor : ((("step" : Str) == "factor") : Bool) = false := by decide
theorem sq_factor_exact : ((("factor" : Str) == "exact") : Bool) = false := by decide
theorem sq_factor_endless : ((("factor" : Str) == "endless") : Bool) = false := by decide
theorem sq_factor_table : ((("factor" : Str) == "table") : Bool) = false := by decide
theorem sq_factor_step : ((("factor" : Str) == "step") : Bool) = false := by decide
theorem str_cases (s : Str) : s = "exact" ∨ s = "endless" ∨ s = "table" ∨ s = "step" ∨ s = "factor" ∨ (((s == "exact") = false ∧ (s == "endless") = false ∧ (s == "table") = false ∧ (s == "step") = false ∧ (s == "factor") = false) ∧ ((("exact" : Str) == s) = false ∧ (("endless" : Str) == s) = false)) := by
  by_cases h1 : s = "exact"
  · exact .inl h1
  by_cases h2 : s = "endless"
  · exact .inr (.inl h2)
  by_cases h3 : s = "table"
  · exact .inr (.inr (.inl h3))
  by_cases h4 : s = "step"
  · exact .inr (.inr (.inr (.inl h4)))
  by_cases h5 : s = "factor"
  · exact .inr (.inr (.inr (.inr (.inl h5))))
  refine .inr (.inr (.inr (.inr (.inr ⟨⟨?_, ?_, ?_, ?_, ?_⟩, ?_, ?_⟩)))) <;> simp [*] <;> intro z <;> simp_all
theorem polD_str {x : D} (h : ∀ s r, x ≠ .tup (.str s :: r)) : polD x = false := by
  unfold polD
  split
  · rename_i s r
    exact absurd rfl (h s r)
  · rfl
theorem fit_tup {k : Nat} {ds : List D} (h : D.fit k (.tup ds) = true) : ∃ j, D.fits j ds = true := by
  cases k with
  | zero => simp [D.fit] at h
  | succ j => exact ⟨j, by simpa [D.fit] using h⟩
theorem pure_is_policy {pen : PenT} {PX : UX → Nat → Prop} : ∀ ds n (Q : D → Nat → Prop), sp_is_policy ds pen n Q PX → u_is_policy (Wd pen PX) { nx := fun ρ => Q .non ρ.fuel, rt := Q } ⟨startU N_is_policy ds, pen, n⟩ := by
  refine run_is_policy fun x n Q ⟨⟨k, hk⟩, hQ⟩ => ?_
  have hx := fit_tyn hk
  unfold u_is_policy
  simp only [iSt, iSt1, xSplit, xRmPre, xInSg, xFs, xFs0, xFs1, xFs2, xFs3, xFmt, xFmtI, xFmtS, xStrI, xStrS, xM1, xM11, xM12, xInK, xNotInK, xfSorted, xVar, xVar1, xC, xN, xOp, xOp1, xOp2, xUn, xUn1, xNil, xCons, xCons1, xCons2, xTup, xTup1, xLst, xLst1, xTru, xTru1, xOb, tru_non, tru_bl, tru_int, tru_lst, tru_tup, xTB, xTB1, xAndT, xAndT1, xAndT2, xOrT, xOrT1, xOrT2, xNotT, xNotT1, xAnd, xAnd1, xAnd2, xOr, xOr1, xOr2, xNot, xNot1, xIfE, xIfE1, xIfE2, xCh, xCh1, xCh2, xCh3, xCh3b, xCh4, xNoP, xPart, xPart1, xCut, xCut1, xCut2, xCut3, xB, xB1, xCall, xCall1, xCallK, xCallK1, perm_nil, perm_cons, xCat, xCat1, xCat2, xRev, xRevL, xRevT, sSkip, sSeq, sRet, sRetN, sIf, sIf1, sIf2, sDrop, sDrop1, sBrk, sCnt, sSet, sSet1, sAsg, sAsg1, gN, gT, gPut, put_nil, put_cons, sAug, sAug1, sAug2, xFr, xFr1, xfLst, sOwn, sOwn1, sApp, sApp1, sApp2, sThaw, sThaw1, sThaw2, sThaw3, xPeek, xPeek1, xPeekd, xPeek2, xPeekT, xPeekT1, xPeekTd, sSetIx, sSetIx1, sSetIx2, sSetIx3, sSetIx4, iSq, iSqL, iSqT, iEn, iEnL, iEnT, iR1, iR11, iR2, iR21, sFor, xComp, sPenN, sPenR, sOwnD, sDSet, sDSet1, sDSet2, sDSet3, sDSet5, dKi, dKs, sThawD, sThawD1, iIt, iIt1, gPn, gPt, gPs0, gPs1, gPs2, sTry, sTry1, sTryN, sTryR, sTryR2, sTryB, sTryC, sRaise, nOw0, nOw1, nOw2, fld0, fld1, xIsX1, xIsX2, xIsNotX, xIsNX, U.l0, U.l1, U.s0, U.s1, wS0, wS1, beq_self_eq_true, sSet2, sSet21, sPar, sPar1, sOwnM, sOwnM1, sExt, sExt1, sExt2, sWh1, sWh2, xIsNI, xIsNNo, xIsNotI, xIsNotNo, xIsNotL, xIsNotT, xIsNotS, xIsS, xIsL, xIsT, xNeS, sRetO, sRetO1, sRetF, xCallF, xCallF1, xCallFK, xCallFK1, List.getD_cons_zero, List.getD_cons_succ, Bool.not_true, Bool.not_false, Bool.not_not, xLt, xLe, xGt, xGe, xEqI, xEqS, xNeI, xLenS, xLenL, xLenT, xAddI, xAddS, xAddL, xAddT, xSubI, xMulI, xMulL, xMulT, xDivI, xModI, xPowI, xNegI, xIntI, xIntB, xAbsI, xMin2, xMax2, xListL, xListT, xTupleL, xTupleT, xCutL, xCutT, xIsN, xIsB, xIsNotB, xIx0T, xIx1T, xIx2T, xIx3T, xIx0L, xIx1L, Int.reduceSub, Int.reduceAdd, Int.reduceMul, Int.reduceToNat, Int.reducePow, Int.reduceNeg, xIsiT hx]
  cases x with
  | tup ds =>
    obtain ⟨j, hf⟩ := fit_tup hk
    simp only [D.isT, iSt, iSt1, xSplit, xRmPre, xInSg, xFs, xFs0, xFs1, xFs2, xFs3, xFmt, xFmtI, xFmtS, xStrI, xStrS, xM1, xM11, xM12, xInK, xNotInK, xfSorted, xVar, xVar1, xC, xN, xOp, xOp1, xOp2, xUn, xUn1, xNil, xCons, xCons1, xCons2, xTup, xTup1, xLst, xLst1, xTru, xTru1, xOb, tru_non, tru_bl, tru_int, tru_lst, tru_tup, xTB, xTB1, xAndT, xAndT1, xAndT2, xOrT, xOrT1, xOrT2, xNotT, xNotT1, xAnd, xAnd1, xAnd2, xOr, xOr1, xOr2, xNot, xNot1, xIfE, xIfE1, xIfE2, xCh, xCh1, xCh2, xCh3, xCh3b, xCh4, xNoP, xPart, xPart1, xCut, xCut1, xCut2, xCut3, xB, xB1, xCall, xCall1, xCallK, xCallK1, perm_nil, perm_cons, xCat, xCat1, xCat2, xRev, xRevL, xRevT, sSkip, sSeq, sRet, sRetN, sIf, sIf1, sIf2, sDrop, sDrop1, sBrk, sCnt, sSet, sSet1, sAsg, sAsg1, gN, gT, gPut, put_nil, put_cons, sAug, sAug1, sAug2, xFr, xFr1, xfLst, sOwn, sOwn1, sApp, sApp1, sApp2, sThaw, sThaw1, sThaw2, sThaw3, xPeek, xPeek1, xPeekd, xPeek2, xPeekT, xPeekT1, xPeekTd, sSetIx, sSetIx1, sSetIx2, sSetIx3, sSetIx4, iSq, iSqL, iSqT, iEn, iEnL, iEnT, iR1, iR11, iR2, iR21, sFor, xComp, sPenN, sPenR, sOwnD, sDSet, sDSet1, sDSet2, sDSet3, sDSet5, dKi, dKs, sThawD, sThawD1, iIt, iIt1, gPn, gPt, gPs0, gPs1, gPs2, sTry, sTry1, sTryN, sTryR, sTryR2, sTryB, sTryC, sRaise, nOw0, nOw1, nOw2, fld0, fld1, xIsX1, xIsX2, xIsNotX, xIsNX, U.l0, U.l1, U.s0, U.s1, wS0, wS1, beq_self_eq_true, sSet2, sSet21, sPar, sPar1, sOwnM, sOwnM1, sExt, sExt1, sExt2, sWh1, sWh2, xIsNI, xIsNNo, xIsNotI, xIsNotNo, xIsNotL, xIsNotT, xIsNotS, xIsS, xIsL, xIsT, xNeS, sRetO, sRetO1, sRetF, xCallF, xCallF1, xCallFK, xCallFK1, List.getD_cons_zero, List.getD_cons_succ, Bool.not_true, Bool.not_false, Bool.not_not, xLt, xLe, xGt, xGe, xEqI, xEqS, xNeI, xLenS, xLenL, xLenT, xAddI, xAddS, xAddL, xAddT, xSubI, xMulI, xMulL, xMulT, xDivI, xModI, xPowI, xNegI, xIntI, xIntB, xAbsI, xMin2, xMax2, xListL, xListT, xTupleL, xTupleT, xCutL, xCutT, xIsN, xIsB, xIsNotB, xIx0T, xIx1T, xIx2T, xIx3T, xIx0L, xIx1L, Int.reduceSub, Int.reduceAdd, Int.reduceMul, Int.reduceToNat, Int.reducePow, Int.reduceNeg]
    cases ds with
    | nil =>
      rw [show decide ((([] : List D).length : Int) = 0) = true from rfl]
      simp only [iSt, iSt1, xSplit, xRmPre, xInSg, xFs, xFs0, xFs1, xFs2, xFs3, xFmt, xFmtI, xFmtS, xStrI, xStrS, xM1, xM11, xM12, xInK, xNotInK, xfSorted, xVar, xVar1, xC, xN, xOp, xOp1, xOp2, xUn, xUn1, xNil, xCons, xCons1, xCons2, xTup, xTup1, xLst, xLst1, xTru, xTru1, xOb, tru_non, tru_bl, tru_int, tru_lst, tru_tup, xTB, xTB1, xAndT, xAndT1, xAndT2, xOrT, xOrT1, xOrT2, xNotT, xNotT1, xAnd, xAnd1, xAnd2, xOr, xOr1, xOr2, xNot, xNot1, xIfE, xIfE1, xIfE2, xCh, xCh1, xCh2, xCh3, xCh3b, xCh4, xNoP, xPart, xPart1, xCut, xCut1, xCut2, xCut3, xB, xB1, xCall, xCall1, xCallK, xCallK1, perm_nil, perm_cons, xCat, xCat1, xCat2, xRev, xRevL, xRevT, sSkip, sSeq, sRet, sRetN, sIf, sIf1, sIf2, sDrop, sDrop1, sBrk, sCnt, sSet, sSet1, sAsg, sAsg1, gN, gT, gPut, put_nil, put_cons, sAug, sAug1, sAug2, xFr, xFr1, xfLst, sOwn, sOwn1, sApp, sApp1, sApp2, sThaw, sThaw1, sThaw2, sThaw3, xPeek, xPeek1, xPeekd, xPeek2, xPeekT, xPeekT1, xPeekTd, sSetIx, sSetIx1, sSetIx2, sSetIx3, sSetIx4, iSq, iSqL, iSqT, iEn, iEnL, iEnT, iR1, iR11, iR2, iR21, sFor, xComp, sPenN, sPenR, sOwnD, sDSet, sDSet1, sDSet2, sDSet3, sDSet5, dKi, dKs, sThawD, sThawD1, iIt, iIt1, gPn, gPt, gPs0, gPs1, gPs2, sTry, sTry1, sTryN, sTryR, sTryR2, sTryB, sTryC, sRaise, nOw0, nOw1, nOw2, fld0, fld1, xIsX1, xIsX2, xIsNotX, xIsNX, U.l0, U.l1, U.s0, U.s1, wS0, wS1, beq_self_eq_true, sSet2, sSet21, sPar, sPar1, sOwnM, sOwnM1, sExt, sExt1, sExt2, sWh1, sWh2, xIsNI, xIsNNo, xIsNotI, xIsNotNo, xIsNotL, xIsNotT, xIsNotS, xIsS, xIsL, xIsT, xNeS, sRetO, sRetO1, sRetF, xCallF, xCallF1, xCallFK, xCallFK1, List.getD_cons_zero, List.getD_cons_succ, Bool.not_true, Bool.not_false, Bool.not_not, xLt, xLe, xGt, xGe, xEqI, xEqS, xNeI, xLenS, xLenL, xLenT, xAddI, xAddS, xAddL, xAddT, xSubI, xMulI, xMulL, xMulT, xDivI, xModI, xPowI, xNegI, xIntI, xIntB, xAbsI, xMin2, xMax2, xListL, xListT, xTupleL, xTupleT, xCutL, xCutT, xIsN, xIsB, xIsNotB, xIx0T, xIx1T, xIx2T, xIx3T, xIx0L, xIx1L, Int.reduceSub, Int.reduceAdd, Int.reduceMul, Int.reduceToNat, Int.reducePow, Int.reduceNeg]
      exact hQ
    | cons a r =>
      simp only [D.fits, Bool.and_eq_true] at hf
      have ha := fit_tyn hf.1
      have el : (((a :: r).length : Nat) : Int) = r.length + 1 := by rw [List.length_cons]; omega
      rw [el, decide_eq_false (by omega : ¬ ((r.length : Int) + 1 = 0))]
      simp only [iSt, iSt1, xSplit, xRmPre, xInSg, xFs, xFs0, xFs1, xFs2, xFs3, xFmt, xFmtI, xFmtS, xStrI, xStrS, xM1, xM11, xM12, xInK, xNotInK, xfSorted, xVar, xVar1, xC, xN, xOp, xOp1, xOp2, xUn, xUn1, xNil, xCons, xCons1, xCons2, xTup, xTup1, xLst, xLst1, xTru, xTru1, xOb, tru_non, tru_bl, tru_int, tru_lst, tru_tup, xTB, xTB1, xAndT, xAndT1, xAndT2, xOrT, xOrT1, xOrT2, xNotT, xNotT1, xAnd, xAnd1, xAnd2, xOr, xOr1, xOr2, xNot, xNot1, xIfE, xIfE1, xIfE2, xCh, xCh1, xCh2, xCh3, xCh3b, xCh4, xNoP, xPart, xPart1, xCut, xCut1, xCut2, xCut3, xB, xB1, xCall, xCall1, xCallK, xCallK1, perm_nil, perm_cons, xCat, xCat1, xCat2, xRev, xRevL, xRevT, sSkip, sSeq, sRet, sRetN, sIf, sIf1, sIf2, sDrop, sDrop1, sBrk, sCnt, sSet, sSet1, sAsg, sAsg1, gN, gT, gPut, put_nil, put_cons, sAug, sAug1, sAug2, xFr, xFr1, xfLst, sOwn, sOwn1, sApp, sApp1, sApp2, sThaw, sThaw1, sThaw2, sThaw3, xPeek, xPeek1, xPeekd, xPeek2, xPeekT, xPeekT1, xPeekTd, sSetIx, sSetIx1, sSetIx2, sSetIx3, sSetIx4, iSq, iSqL, iSqT, iEn, iEnL, iEnT, iR1, iR11, iR2, iR21, sFor, xComp, sPenN, sPenR, sOwnD, sDSet, sDSet1, sDSet2, sDSet3, sDSet5, dKi, dKs, sThawD, sThawD1, iIt, iIt1, gPn, gPt, gPs0, gPs1, gPs2, sTry, sTry1, sTryN, sTryR, sTryR2, sTryB, sTryC, sRaise, nOw0, nOw1, nOw2, fld0, fld1, xIsX1, xIsX2, xIsNotX, xIsNX, U.l0, U.l1, U.s0, U.s1, wS0, wS1, beq_self_eq_true, sSet2, sSet21, sPar, sPar1, sOwnM, sOwnM1, sExt, sExt1, sExt2, sWh1, sWh2, xIsNI, xIsNNo, xIsNotI, xIsNotNo, xIsNotL, xIsNotT, xIsNotS, xIsS, xIsL, xIsT, xNeS, sRetO, sRetO1, sRetF, xCallF, xCallF1, xCallFK, xCallFK1, List.getD_cons_zero, List.getD_cons_succ, Bool.not_true, Bool.not_false, Bool.not_not, xLt, xLe, xGt, xGe, xEqI, xEqS, xNeI, xLenS, xLenL, xLenT, xAddI, xAddS, xAddL, xAddT, xSubI, xMulI, xMulL, xMulT, xDivI, xModI, xPowI, xNegI, xIntI, xIntB, xAbsI, xMin2, xMax2, xListL, xListT, xTupleL, xTupleT, xCutL, xCutT, xIsN, xIsB, xIsNotB, xIx0T, xIx1T, xIx2T, xIx3T, xIx0L, xIx1L, Int.reduceSub, Int.reduceAdd, Int.reduceMul, Int.reduceToNat, Int.reducePow, Int.reduceNeg, xIsiS ha]
      cases a with
      | str s =>
        have hs : PyData.strOk s = true := by have := hf.1; cases j <;> simpa [D.fit] using this
        simp only [D.isS, iSt, iSt1, xSplit, xRmPre, xInSg, xFs, xFs0, xFs1, xFs2, xFs3, xFmt, xFmtI, xFmtS, xStrI, xStrS, xM1, xM11, xM12, xInK, xNotInK, xfSorted, xVar, xVar1, xC, xN, xOp, xOp1, xOp2, xUn, xUn1, xNil, xCons, xCons1, xCons2, xTup, xTup1, xLst, xLst1, xTru, xTru1, xOb, tru_non, tru_bl, tru_int, tru_lst, tru_tup, xTB, xTB1, xAndT, xAndT1, xAndT2, xOrT, xOrT1, xOrT2, xNotT, xNotT1, xAnd, xAnd1, xAnd2, xOr, xOr1, xOr2, xNot, xNot1, xIfE, xIfE1, xIfE2, xCh, xCh1, xCh2, xCh3, xCh3b, xCh4, xNoP, xPart, xPart1, xCut, xCut1, xCut2, xCut3, xB, xB1, xCall, xCall1, xCallK, xCallK1, perm_nil, perm_cons, xCat, xCat1, xCat2, xRev, xRevL, xRevT, sSkip, sSeq, sRet, sRetN, sIf, sIf1, sIf2, sDrop, sDrop1, sBrk, sCnt, sSet, sSet1, sAsg, sAsg1, gN, gT, gPut, put_nil, put_cons, sAug, sAug1, sAug2, xFr, xFr1, xfLst, sOwn, sOwn1, sApp, sApp1, sApp2, sThaw, sThaw1, sThaw2, sThaw3, xPeek, xPeek1, xPeekd, xPeek2, xPeekT, xPeekT1, xPeekTd, sSetIx, sSetIx1, sSetIx2, sSetIx3, sSetIx4, iSq, iSqL, iSqT, iEn, iEnL, iEnT, iR1, iR11, iR2, iR21, sFor, xComp, sPenN, sPenR, sOwnD, sDSet, sDSet1, sDSet2, sDSet3, sDSet5, dKi, dKs, sThawD, sThawD1, iIt, iIt1, gPn, gPt, gPs0, gPs1, gPs2, sTry, sTry1, sTryN, sTryR, sTryR2, sTryB, sTryC, sRaise, nOw0, nOw1, nOw2, fld0, fld1, xIsX1, xIsX2, xIsNotX, xIsNX, U.l0, U.l1, U.s0, U.s1, wS0, wS1, beq_self_eq_true, sSet2, sSet21, sPar, sPar1, sOwnM, sOwnM1, sExt, sExt1, sExt2, sWh1, sWh2, xIsNI, xIsNNo, xIsNotI, xIsNotNo, xIsNotL, xIsNotT, xIsNotS, xIsS, xIsL, xIsT, xNeS, sRetO, sRetO1, sRetF, xCallF, xCallF1, xCallFK, xCallFK1, List.getD_cons_zero, List.getD_cons_succ, Bool.not_true, Bool.not_false, Bool.not_not, xLt, xLe, xGt, xGe, xEqI, xEqS, xNeI, xLenS, xLenL, xLenT, xAddI, xAddS, xAddL, xAddT, xSubI, xMulI, xMulL, xMulT, xDivI, xModI, xPowI, xNegI, xIntI, xIntB, xAbsI, xMin2, xMax2, xListL, xListT, xTupleL, xTupleT, xCutL, xCutT, xIsN, xIsB, xIsNotB, xIx0T, xIx1T, xIx2T, xIx3T, xIx0L, xIx1L, Int.reduceSub, Int.reduceAdd, Int.reduceMul, Int.reduceToNat, Int.reducePow, Int.reduceNeg]
        refine (xInT (strs_in (ws := ["exact", "endless"]) hs (by decide +kernel))).mpr ?_
        have eP : polD (.tup (.str s :: r)) = polL s r := rfl
        rw [eP] at hQ
        show kN _ n (.bl (((["exact", "endless"] : List Str).map D.str).any fun d => D.eqv d (.str s)))
        simp only [List.map_cons, List.map_nil, List.any_cons, List.any_nil, eqv_str, Bool.or_false]
        rcases str_cases s with rfl | rfl | rfl | rfl | rfl | ⟨⟨n1, n2, n3, n4, n5⟩, n6, n7⟩
        all_goals simp only [iSt, iSt1, xSplit, xRmPre, xInSg, xFs, xFs0, xFs1, xFs2, xFs3, xFmt, xFmtI, xFmtS, xStrI, xStrS, xM1, xM11, xM12, xInK, xNotInK, xfSorted, xVar, xVar1, xC, xN, xOp, xOp1, xOp2, xUn, xUn1, xNil, xCons, xCons1, xCons2, xTup, xTup1, xLst, xLst1, xTru, xTru1, xOb, tru_non, tru_bl, tru_int, tru_lst, tru_tup, xTB, xTB1, xAndT, xAndT1, xAndT2, xOrT, xOrT1, xOrT2, xNotT, xNotT1, xAnd, xAnd1, xAnd2, xOr, xOr1, xOr2, xNot, xNot1, xIfE, xIfE1, xIfE2, xCh, xCh1, xCh2, xCh3, xCh3b, xCh4, xNoP, xPart, xPart1, xCut, xCut1, xCut2, xCut3, xB, xB1, xCall, xCall1, xCallK, xCallK1, perm_nil, perm_cons, xCat, xCat1, xCat2, xRev, xRevL, xRevT, sSkip, sSeq, sRet, sRetN, sIf, sIf1, sIf2, sDrop, sDrop1, sBrk, sCnt, sSet, sSet1, sAsg, sAsg1, gN, gT, gPut, put_nil, put_cons, sAug, sAug1, sAug2, xFr, xFr1, xfLst, sOwn, sOwn1, sApp, sApp1, sApp2, sThaw, sThaw1, sThaw2, sThaw3, xPeek, xPeek1, xPeekd, xPeek2, xPeekT, xPeekT1, xPeekTd, sSetIx, sSetIx1, sSetIx2, sSetIx3, sSetIx4, iSq, iSqL, iSqT, iEn, iEnL, iEnT, iR1, iR11, iR2, iR21, sFor, xComp, sPenN, sPenR, sOwnD, sDSet, sDSet1, sDSet2, sDSet3, sDSet5, dKi, dKs, sThawD, sThawD1, iIt, iIt1, gPn, gPt, gPs0, gPs1, gPs2, sTry, sTry1, sTryN, sTryR, sTryR2, sTryB, sTryC, sRaise, nOw0, nOw1, nOw2, fld0, fld1, xIsX1, xIsX2, xIsNotX, xIsNX, U.l0, U.l1, U.s0, U.s1, wS0, wS1, beq_self_eq_true, sSet2, sSet21, sPar, sPar1, sOwnM, sOwnM1, sExt, sExt1, sExt2, sWh1, sWh2, xIsNI, xIsNNo, xIsNotI, xIsNotNo, xIsNotL, xIsNotT, xIsNotS, xIsS, xIsL, xIsT, xNeS, sRetO, sRetO1, sRetF, xCallF, xCallF1, xCallFK, xCallFK1, List.getD_cons_zero, List.getD_cons_succ, Bool.not_true, Bool.not_false, Bool.not_not, xLt, xLe, xGt, xGe, xEqI, xEqS, xNeI, xLenS, xLenL, xLenT, xAddI, xAddS, xAddL, xAddT, xSubI, xMulI, xMulL, xMulT, xDivI, xModI, xPowI, xNegI, xIntI, xIntB, xAbsI, xMin2, xMax2, xListL, xListT, xTupleL, xTupleT, xCutL, xCutT, xIsN, xIsB, xIsNotB, xIx0T, xIx1T, xIx2T, xIx3T, xIx0L, xIx1L, Int.reduceSub, Int.reduceAdd, Int.reduceMul, Int.reduceToNat, Int.reducePow, Int.reduceNeg, sq_exact_endless, sq_exact_table, sq_exact_step, sq_exact_factor, sq_endless_exact, sq_endless_table, sq_endless_step, sq_endless_factor, sq_table_exact, sq_table_endless, sq_table_step, sq_table_factor, sq_step_exact, sq_step_endless, sq_step_table, sq_step_factor, sq_factor_exact, sq_factor_endless, sq_factor_table, sq_factor_step, beq_self_eq_true, Bool.or_false, Bool.or_true, Bool.false_or, Bool.true_or, el]
        · cases r with
          | nil => exact hQ
          | cons b r =>
            have : polL "exact" (b :: r) = false := by
              cases r with
              | nil => simp only [polL, sq_exact_endless, sq_exact_table, sq_exact_step, sq_exact_factor, sq_endless_exact, sq_endless_table, sq_endless_step, sq_endless_factor, sq_table_exact, sq_table_endless, sq_table_step, sq_table_factor, sq_step_exact, sq_step_endless, sq_step_table, sq_step_factor, sq_factor_exact, sq_factor_endless, sq_factor_table, sq_factor_step, Bool.false_and, Bool.or_false]
              | cons c r => cases r <;> simp only [polL, sq_exact_endless, sq_exact_table, sq_exact_step, sq_exact_factor, sq_endless_exact, sq_endless_table, sq_endless_step, sq_endless_factor, sq_table_exact, sq_table_endless, sq_table_step, sq_table_factor, sq_step_exact, sq_step_endless, sq_step_table, sq_step_factor, sq_factor_exact, sq_factor_endless, sq_factor_table, sq_factor_step, Bool.false_and]
            rw [this] at hQ
            rw [decide_eq_false (by rw [List.length_cons]; omega)]
            exact hQ
        · cases r with
          | nil => exact hQ
          | cons b r =>
            have : polL "endless" (b :: r) = false := by
              cases r with
              | nil => simp only [polL, sq_exact_endless, sq_exact_table, sq_exact_step, sq_exact_factor, sq_endless_exact, sq_endless_table, sq_endless_step, sq_endless_factor, sq_table_exact, sq_table_endless, sq_table_step, sq_table_factor, sq_step_exact, sq_step_endless, sq_step_table, sq_step_factor, sq_factor_exact, sq_factor_endless, sq_factor_table, sq_factor_step, Bool.false_and, Bool.or_false]
              | cons c r => cases r <;> simp only [polL, sq_exact_endless, sq_exact_table, sq_exact_step, sq_exact_factor, sq_endless_exact, sq_endless_table, sq_endless_step, sq_endless_factor, sq_table_exact, sq_table_endless, sq_table_step, sq_table_factor, sq_step_exact, sq_step_endless, sq_step_table, sq_step_factor, sq_factor_exact, sq_factor_endless, sq_factor_table, sq_factor_step, Bool.false_and]
            rw [this] at hQ
            rw [decide_eq_false (by rw [List.length_cons]; omega)]
            exact hQ
        · match r, hf, hQ with
          | [], _, hQ => exact hQ
          | [b], hf, hQ =>
            rw [decide_eq_true (by simp)]
            simp only [iSt, iSt1, xSplit, xRmPre, xInSg, xFs, xFs0, xFs1, xFs2, xFs3, xFmt, xFmtI, xFmtS, xStrI, xStrS, xM1, xM11, xM12, xInK, xNotInK, xfSorted, xVar, xVar1, xC, xN, xOp, xOp1, xOp2, xUn, xUn1, xNil, xCons, xCons1, xCons2, xTup, xTup1, xLst, xLst1, xTru, xTru1, xOb, tru_non, tru_bl, tru_int, tru_lst, tru_tup, xTB, xTB1, xAndT, xAndT1, xAndT2, xOrT, xOrT1, xOrT2, xNotT, xNotT1, xAnd, xAnd1, xAnd2, xOr, xOr1, xOr2, xNot, xNot1, xIfE, xIfE1, xIfE2, xCh, xCh1, xCh2, xCh3, xCh3b, xCh4, xNoP, xPart, xPart1, xCut, xCut1, xCut2, xCut3, xB, xB1, xCall, xCall1, xCallK, xCallK1, perm_nil, perm_cons, xCat, xCat1, xCat2, xRev, xRevL, xRevT, sSkip, sSeq, sRet, sRetN, sIf, sIf1, sIf2, sDrop, sDrop1, sBrk, sCnt, sSet, sSet1, sAsg, sAsg1, gN, gT, gPut, put_nil, put_cons, sAug, sAug1, sAug2, xFr, xFr1, xfLst, sOwn, sOwn1, sApp, sApp1, sApp2, sThaw, sThaw1, sThaw2, sThaw3, xPeek, xPeek1, xPeekd, xPeek2, xPeekT, xPeekT1, xPeekTd, sSetIx, sSetIx1, sSetIx2, sSetIx3, sSetIx4, iSq, iSqL, iSqT, iEn, iEnL, iEnT, iR1, iR11, iR2, iR21, sFor, xComp, sPenN, sPenR, sOwnD, sDSet, sDSet1, sDSet2, sDSet3, sDSet5, dKi, dKs, sThawD, sThawD1, iIt, iIt1, gPn, gPt, gPs0, gPs1, gPs2, sTry, sTry1, sTryN, sTryR, sTryR2, sTryB, sTryC, sRaise, nOw0, nOw1, nOw2, fld0, fld1, xIsX1, xIsX2, xIsNotX, xIsNX, U.l0, U.l1, U.s0, U.s1, wS0, wS1, beq_self_eq_true, sSet2, sSet21, sPar, sPar1, sOwnM, sOwnM1, sExt, sExt1, sExt2, sWh1, sWh2, xIsNI, xIsNNo, xIsNotI, xIsNotNo, xIsNotL, xIsNotT, xIsNotS, xIsS, xIsL, xIsT, xNeS, sRetO, sRetO1, sRetF, xCallF, xCallF1, xCallFK, xCallFK1, List.getD_cons_zero, List.getD_cons_succ, Bool.not_true, Bool.not_false, Bool.not_not, xLt, xLe, xGt, xGe, xEqI, xEqS, xNeI, xLenS, xLenL, xLenT, xAddI, xAddS, xAddL, xAddT, xSubI, xMulI, xMulL, xMulT, xDivI, xModI, xPowI, xNegI, xIntI, xIntB, xAbsI, xMin2, xMax2, xListL, xListT, xTupleL, xTupleT, xCutL, xCutT, xIsN, xIsB, xIsNotB, xIx0T, xIx1T, xIx2T, xIx3T, xIx0L, xIx1L, Int.reduceSub, Int.reduceAdd, Int.reduceMul, Int.reduceToNat, Int.reducePow, Int.reduceNeg, sp_are_entries]
            simp only [D.fits, Bool.and_eq_true] at hf
            refine ⟨⟨j, hf.2.1⟩, ?_⟩
            simpa only [polL, sq_exact_endless, sq_exact_table, sq_exact_step, sq_exact_factor, sq_endless_exact, sq_endless_table, sq_endless_step, sq_endless_factor, sq_table_exact, sq_table_endless, sq_table_step, sq_table_factor, sq_step_exact, sq_step_endless, sq_step_table, sq_step_factor, sq_factor_exact, sq_factor_endless, sq_factor_table, sq_factor_step, beq_self_eq_true, Bool.true_and, Bool.false_and, Bool.or_false] using hQ
          | b :: c :: r, _, hQ =>
            rw [decide_eq_false (by rw [List.length_cons, List.length_cons]; omega)]
            simp only [iSt, iSt1, xSplit, xRmPre, xInSg, xFs, xFs0, xFs1, xFs2, xFs3, xFmt, xFmtI, xFmtS, xStrI, xStrS, xM1, xM11, xM12, xInK, xNotInK, xfSorted, xVar, xVar1, xC, xN, xOp, xOp1, xOp2, xUn, xUn1, xNil, xCons, xCons1, xCons2, xTup, xTup1, xLst, xLst1, xTru, xTru1, xOb, tru_non, tru_bl, tru_int, tru_lst, tru_tup, xTB, xTB1, xAndT, xAndT1, xAndT2, xOrT, xOrT1, xOrT2, xNotT, xNotT1, xAnd, xAnd1, xAnd2, xOr, xOr1, xOr2, xNot, xNot1, xIfE, xIfE1, xIfE2, xCh, xCh1, xCh2, xCh3, xCh3b, xCh4, xNoP, xPart, xPart1, xCut, xCut1, xCut2, xCut3, xB, xB1, xCall, xCall1, xCallK, xCallK1, perm_nil, perm_cons, xCat, xCat1, xCat2, xRev, xRevL, xRevT, sSkip, sSeq, sRet, sRetN, sIf, sIf1, sIf2, sDrop, sDrop1, sBrk, sCnt, sSet, sSet1, sAsg, sAsg1, gN, gT, gPut, put_nil, put_cons, sAug, sAug1, sAug2, xFr, xFr1, xfLst, sOwn, sOwn1, sApp, sApp1, sApp2, sThaw, sThaw1, sThaw2, sThaw3, xPeek, xPeek1, xPeekd, xPeek2, xPeekT, xPeekT1, xPeekTd, sSetIx, sSetIx1, sSetIx2, sSetIx3, sSetIx4, iSq, iSqL, iSqT, iEn, iEnL, iEnT, iR1, iR11, iR2, iR21, sFor, xComp, sPenN, sPenR, sOwnD, sDSet, sDSet1, sDSet2, sDSet3, sDSet5, dKi, dKs, sThawD, sThawD1, iIt, iIt1, gPn, gPt, gPs0, gPs1, gPs2, sTry, sTry1, sTryN, sTryR, sTryR2, sTryB, sTryC, sRaise, nOw0, nOw1, nOw2, fld0, fld1, xIsX1, xIsX2, xIsNotX, xIsNX, U.l0, U.l1, U.s0, U.s1, wS0, wS1, beq_self_eq_true, sSet2, sSet21, sPar, sPar1, sOwnM, sOwnM1, sExt, sExt1, sExt2, sWh1, sWh2, xIsNI, xIsNNo, xIsNotI, xIsNotNo, xIsNotL, xIsNotT, xIsNotS, xIsS, xIsL, xIsT, xNeS, sRetO, sRetO1, sRetF, xCallF, xCallF1, xCallFK, xCallFK1, List.getD_cons_zero, List.getD_cons_succ, Bool.not_true, Bool.not_false, Bool.not_not, xLt, xLe, xGt, xGe, xEqI, xEqS, xNeI, xLenS, xLenL, xLenT, xAddI, xAddS, xAddL, xAddT, xSubI, xMulI, xMulL, xMulT, xDivI, xModI, xPowI, xNegI, xIntI, xIntB, xAbsI, xMin2, xMax2, xListL, xListT, xTupleL, xTupleT, xCutL, xCutT, xIsN, xIsB, xIsNotB, xIx0T, xIx1T, xIx2T, xIx3T, xIx0L, xIx1L, Int.reduceSub, Int.reduceAdd, Int.reduceMul, Int.reduceToNat, Int.reducePow, Int.reduceNeg]
            have : polL "table" (b :: c :: r) = false := by cases r <;> simp only [polL, sq_exact_endless, sq_exact_table, sq_exact_step, sq_exact_factor, sq_endless_exact, sq_endless_table, sq_endless_step, sq_endless_factor, sq_table_exact, sq_table_endless, sq_table_step, sq_table_factor, sq_step_exact, sq_step_endless, sq_step_table, sq_step_factor, sq_factor_exact, sq_factor_endless, sq_factor_table, sq_factor_step, Bool.false_and]
            rw [this] at hQ
            exact hQ
        · match r, hf, hQ with
          | [], _, hQ => exact hQ
          | [b], hf, hQ =>
            rw [decide_eq_true (by simp)]
            simp only [iSt, iSt1, xSplit, xRmPre, xInSg, xFs, xFs0, xFs1, xFs2, xFs3, xFmt, xFmtI, xFmtS, xStrI, xStrS, xM1, xM11, xM12, xInK, xNotInK, xfSorted, xVar, xVar1, xC, xN, xOp, xOp1, xOp2, xUn, xUn1, xNil, xCons, xCons1, xCons2, xTup, xTup1, xLst, xLst1, xTru, xTru1, xOb, tru_non, tru_bl, tru_int, tru_lst, tru_tup, xTB, xTB1, xAndT, xAndT1, xAndT2, xOrT, xOrT1, xOrT2, xNotT, xNotT1, xAnd, xAnd1, xAnd2, xOr, xOr1, xOr2, xNot, xNot1, xIfE, xIfE1, xIfE2, xCh, xCh1, xCh2, xCh3, xCh3b, xCh4, xNoP, xPart, xPart1, xCut, xCut1, xCut2, xCut3, xB, xB1, xCall, xCall1, xCallK, xCallK1, perm_nil, perm_cons, xCat, xCat1, xCat2, xRev, xRevL, xRevT, sSkip, sSeq, sRet, sRetN, sIf, sIf1, sIf2, sDrop, sDrop1, sBrk, sCnt, sSet, sSet1, sAsg, sAsg1, gN, gT, gPut, put_nil, put_cons, sAug, sAug1, sAug2, xFr, xFr1, xfLst, sOwn, sOwn1, sApp, sApp1, sApp2, sThaw, sThaw1, sThaw2, sThaw3, xPeek, xPeek1, xPeekd, xPeek2, xPeekT, xPeekT1, xPeekTd, sSetIx, sSetIx1, sSetIx2, sSetIx3, sSetIx4, iSq, iSqL, iSqT, iEn, iEnL, iEnT, iR1, iR11, iR2, iR21, sFor, xComp, sPenN, sPenR, sOwnD, sDSet, sDSet1, sDSet2, sDSet3, sDSet5, dKi, dKs, sThawD, sThawD1, iIt, iIt1, gPn, gPt, gPs0, gPs1, gPs2, sTry, sTry1, sTryN, sTryR, sTryR2, sTryB, sTryC, sRaise, nOw0, nOw1, nOw2, fld0, fld1, xIsX1, xIsX2, xIsNotX, xIsNX, U.l0, U.l1, U.s0, U.s1, wS0, wS1, beq_self_eq_true, sSet2, sSet21, sPar, sPar1, sOwnM, sOwnM1, sExt, sExt1, sExt2, sWh1, sWh2, xIsNI, xIsNNo, xIsNotI, xIsNotNo, xIsNotL, xIsNotT, xIsNotS, xIsS, xIsL, xIsT, xNeS, sRetO, sRetO1, sRetF, xCallF, xCallF1, xCallFK, xCallFK1, List.getD_cons_zero, List.getD_cons_succ, Bool.not_true, Bool.not_false, Bool.not_not, xLt, xLe, xGt, xGe, xEqI, xEqS, xNeI, xLenS, xLenL, xLenT, xAddI, xAddS, xAddL, xAddT, xSubI, xMulI, xMulL, xMulT, xDivI, xModI, xPowI, xNegI, xIntI, xIntB, xAbsI, xMin2, xMax2, xListL, xListT, xTupleL, xTupleT, xCutL, xCutT, xIsN, xIsB, xIsNotB, xIx0T, xIx1T, xIx2T, xIx3T, xIx0L, xIx1L, Int.reduceSub, Int.reduceAdd, Int.reduceMul, Int.reduceToNat, Int.reducePow, Int.reduceNeg, sp_is_between]
            simp only [D.fits, Bool.and_eq_true] at hf
            refine ⟨fit_tyn hf.2.1, ?_⟩
            simpa only [polL, sq_exact_endless, sq_exact_table, sq_exact_step, sq_exact_factor, sq_endless_exact, sq_endless_table, sq_endless_step, sq_endless_factor, sq_table_exact, sq_table_endless, sq_table_step, sq_table_factor, sq_step_exact, sq_step_endless, sq_step_table, sq_step_factor, sq_factor_exact, sq_factor_endless, sq_factor_table, sq_factor_step, beq_self_eq_true, Bool.true_and, Bool.false_and, Bool.false_or] using hQ
          | b :: c :: r, _, hQ =>
            rw [decide_eq_false (by rw [List.length_cons, List.length_cons]; omega)]
            simp only [iSt, iSt1, xSplit, xRmPre, xInSg, xFs, xFs0, xFs1, xFs2, xFs3, xFmt, xFmtI, xFmtS, xStrI, xStrS, xM1, xM11, xM12, xInK, xNotInK, xfSorted, xVar, xVar1, xC, xN, xOp, xOp1, xOp2, xUn, xUn1, xNil, xCons, xCons1, xCons2, xTup, xTup1, xLst, xLst1, xTru, xTru1, xOb, tru_non, tru_bl, tru_int, tru_lst, tru_tup, xTB, xTB1, xAndT, xAndT1, xAndT2, xOrT, xOrT1, xOrT2, xNotT, xNotT1, xAnd, xAnd1, xAnd2, xOr, xOr1, xOr2, xNot, xNot1, xIfE, xIfE1, xIfE2, xCh, xCh1, xCh2, xCh3, xCh3b, xCh4, xNoP, xPart, xPart1, xCut, xCut1, xCut2, xCut3, xB, xB1, xCall, xCall1, xCallK, xCallK1, perm_nil, perm_cons, xCat, xCat1, xCat2, xRev, xRevL, xRevT, sSkip, sSeq, sRet, sRetN, sIf, sIf1, sIf2, sDrop, sDrop1, sBrk, sCnt, sSet, sSet1, sAsg, sAsg1, gN, gT, gPut, put_nil, put_cons, sAug, sAug1, sAug2, xFr, xFr1, xfLst, sOwn, sOwn1, sApp, sApp1, sApp2, sThaw, sThaw1, sThaw2, sThaw3, xPeek, xPeek1, xPeekd, xPeek2, xPeekT, xPeekT1, xPeekTd, sSetIx, sSetIx1, sSetIx2, sSetIx3, sSetIx4, iSq, iSqL, iSqT, iEn, iEnL, iEnT, iR1, iR11, iR2, iR21, sFor, xComp, sPenN, sPenR, sOwnD, sDSet, sDSet1, sDSet2, sDSet3, sDSet5, dKi, dKs, sThawD, sThawD1, iIt, iIt1, gPn, gPt, gPs0, gPs1, gPs2, sTry, sTry1, sTryN, sTryR, sTryR2, sTryB, sTryC, sRaise, nOw0, nOw1, nOw2, fld0, fld1, xIsX1, xIsX2, xIsNotX, xIsNX, U.l0, U.l1, U.s0, U.s1, wS0, wS1, beq_self_eq_true, sSet2, sSet21, sPar, sPar1, sOwnM, sOwnM1, sExt, sExt1, sExt2, sWh1, sWh2, xIsNI, xIsNNo, xIsNotI, xIsNotNo, xIsNotL, xIsNotT, xIsNotS, xIsS, xIsL, xIsT, xNeS, sRetO, sRetO1, sRetF, xCallF, xCallF1, xCallFK, xCallFK1, List.getD_cons_zero, List.getD_cons_succ, Bool.not_true, Bool.not_false, Bool.not_not, xLt, xLe, xGt, xGe, xEqI, xEqS, xNeI, xLenS, xLenL, xLenT, xAddI, xAddS, xAddL, xAddT, xSubI, xMulI, xMulL, xMulT, xDivI, xModI, xPowI, xNegI, xIntI, xIntB, xAbsI, xMin2, xMax2, xListL, xListT, xTupleL, xTupleT, xCutL, xCutT, xIsN, xIsB, xIsNotB, xIx0T, xIx1T, xIx2T, xIx3T, xIx0L, xIx1L, Int.reduceSub, Int.reduceAdd, Int.reduceMul, Int.reduceToNat, Int.reducePow, Int.reduceNeg]
            have : polL "step" (b :: c :: r) = false := by cases r <;> simp only [polL, sq_exact_endless, sq_exact_table, sq_exact_step, sq_exact_factor, sq_endless_exact, sq_endless_table, sq_endless_step, sq_endless_factor, sq_table_exact, sq_table_endless, sq_table_step, sq_table_factor, sq_step_exact, sq_step_endless, sq_step_table, sq_step_factor, sq_factor_exact, sq_factor_endless, sq_factor_table, sq_factor_step, Bool.false_and]
            rw [this] at hQ
            exact hQ
        · match r, hf, hQ with
          | [], _, hQ => exact hQ
          | [b], hf, hQ =>
            have : polL "factor" [b] = false := by simp only [polL, sq_exact_endless, sq_exact_table, sq_exact_step, sq_exact_factor, sq_endless_exact, sq_endless_table, sq_endless_step, sq_endless_factor, sq_table_exact, sq_table_endless, sq_table_step, sq_table_factor, sq_step_exact, sq_step_endless, sq_step_table, sq_step_factor, sq_factor_exact, sq_factor_endless, sq_factor_table, sq_factor_step, Bool.false_and, Bool.or_false]
            rw [this] at hQ
            exact hQ
          | [b, c], hf, hQ =>
            rw [decide_eq_true (by simp)]
            simp only [iSt, iSt1, xSplit, xRmPre, xInSg, xFs, xFs0, xFs1, xFs2, xFs3, xFmt, xFmtI, xFmtS, xStrI, xStrS, xM1, xM11, xM12, xInK, xNotInK, xfSorted, xVar, xVar1, xC, xN, xOp, xOp1, xOp2, xUn, xUn1, xNil, xCons, xCons1, xCons2, xTup, xTup1, xLst, xLst1, xTru, xTru1, xOb, tru_non, tru_bl, tru_int, tru_lst, tru_tup, xTB, xTB1, xAndT, xAndT1, xAndT2, xOrT, xOrT1, xOrT2, xNotT, xNotT1, xAnd, xAnd1, xAnd2, xOr, xOr1, xOr2, xNot, xNot1, xIfE, xIfE1, xIfE2, xCh, xCh1, xCh2, xCh3, xCh3b, xCh4, xNoP, xPart, xPart1, xCut, xCut1, xCut2, xCut3, xB, xB1, xCall, xCall1, xCallK, xCallK1, perm_nil, perm_cons, xCat, xCat1, xCat2, xRev, xRevL, xRevT, sSkip, sSeq, sRet, sRetN, sIf, sIf1, sIf2, sDrop, sDrop1, sBrk, sCnt, sSet, sSet1, sAsg, sAsg1, gN, gT, gPut, put_nil, put_cons, sAug, sAug1, sAug2, xFr, xFr1, xfLst, sOwn, sOwn1, sApp, sApp1, sApp2, sThaw, sThaw1, sThaw2, sThaw3, xPeek, xPeek1, xPeekd, xPeek2, xPeekT, xPeekT1, xPeekTd, sSetIx, sSetIx1, sSetIx2, sSetIx3, sSetIx4, iSq, iSqL, iSqT, iEn, iEnL, iEnT, iR1, iR11, iR2, iR21, sFor, xComp, sPenN, sPenR, sOwnD, sDSet, sDSet1, sDSet2, sDSet3, sDSet5, dKi, dKs, sThawD, sThawD1, iIt, iIt1, gPn, gPt, gPs0, gPs1, gPs2, sTry, sTry1, sTryN, sTryR, sTryR2, sTryB, sTryC, sRaise, nOw0, nOw1, nOw2, fld0, fld1, xIsX1, xIsX2, xIsNotX, xIsNX, U.l0, U.l1, U.s0, U.s1, wS0, wS1, beq_self_eq_true, sSet2, sSet21, sPar, sPar1, sOwnM, sOwnM1, sExt, sExt1, sExt2, sWh1, sWh2, xIsNI, xIsNNo, xIsNotI, xIsNotNo, xIsNotL, xIsNotT, xIsNotS, xIsS, xIsL, xIsT, xNeS, sRetO, sRetO1, sRetF, xCallF, xCallF1, xCallFK, xCallFK1, List.getD_cons_zero, List.getD_cons_succ, Bool.not_true, Bool.not_false, Bool.not_not, xLt, xLe, xGt, xGe, xEqI, xEqS, xNeI, xLenS, xLenL, xLenT, xAddI, xAddS, xAddL, xAddT, xSubI, xMulI, xMulL, xMulT, xDivI, xModI, xPowI, xNegI, xIntI, xIntB, xAbsI, xMin2, xMax2, xListL, xListT, xTupleL, xTupleT, xCutL, xCutT, xIsN, xIsB, xIsNotB, xIx0T, xIx1T, xIx2T, xIx3T, xIx0L, xIx1L, Int.reduceSub, Int.reduceAdd, Int.reduceMul, Int.reduceToNat, Int.reducePow, Int.reduceNeg, sp_is_factor]
            simp only [D.fits, Bool.and_eq_true] at hf
            refine ⟨⟨fit_tyn hf.2.1, fit_tyn hf.2.2.1⟩, ?_⟩
            simpa only [polL, beq_self_eq_true, Bool.true_and] using hQ
          | b :: c :: d :: r, _, hQ =>
            rw [decide_eq_false (by rw [List.length_cons, List.length_cons, List.length_cons]; omega)]
            simp only [iSt, iSt1, xSplit, xRmPre, xInSg, xFs, xFs0, xFs1, xFs2, xFs3, xFmt, xFmtI, xFmtS, xStrI, xStrS, xM1, xM11, xM12, xInK, xNotInK, xfSorted, xVar, xVar1, xC, xN, xOp, xOp1, xOp2, xUn, xUn1, xNil, xCons, xCons1, xCons2, xTup, xTup1, xLst, xLst1, xTru, xTru1, xOb, tru_non, tru_bl, tru_int, tru_lst, tru_tup, xTB, xTB1, xAndT, xAndT1, xAndT2, xOrT, xOrT1, xOrT2, xNotT, xNotT1, xAnd, xAnd1, xAnd2, xOr, xOr1, xOr2, xNot, xNot1, xIfE, xIfE1, xIfE2, xCh, xCh1, xCh2, xCh3, xCh3b, xCh4, xNoP, xPart, xPart1, xCut, xCut1, xCut2, xCut3, xB, xB1, xCall, xCall1, xCallK, xCallK1, perm_nil, perm_cons, xCat, xCat1, xCat2, xRev, xRevL, xRevT, sSkip, sSeq, sRet, sRetN, sIf, sIf1, sIf2, sDrop, sDrop1, sBrk, sCnt, sSet, sSet1, sAsg, sAsg1, gN, gT, gPut, put_nil, put_cons, sAug, sAug1, sAug2, xFr, xFr1, xfLst, sOwn, sOwn1, sApp, sApp1, sApp2, sThaw, sThaw1, sThaw2, sThaw3, xPeek, xPeek1, xPeekd, xPeek2, xPeekT, xPeekT1, xPeekTd, sSetIx, sSetIx1, sSetIx2, sSetIx3, sSetIx4, iSq, iSqL, iSqT, iEn, iEnL, iEnT, iR1, iR11, iR2, iR21, sFor, xComp, sPenN, sPenR, sOwnD, sDSet, sDSet1, sDSet2, sDSet3, sDSet5, dKi, dKs, sThawD, sThawD1, iIt, iIt1, gPn, gPt, gPs0, gPs1, gPs2, sTry, sTry1, sTryN, sTryR, sTryR2, sTryB, sTryC, sRaise, nOw0, nOw1, nOw2, fld0, fld1, xIsX1, xIsX2, xIsNotX, xIsNX, U.l0, U.l1, U.s0, U.s1, wS0, wS1, beq_self_eq_true, sSet2, sSet21, sPar, sPar1, sOwnM, sOwnM1, sExt, sExt1, sExt2, sWh1, sWh2, xIsNI, xIsNNo, xIsNotI, xIsNotNo, xIsNotL, xIsNotT, xIsNotS, xIsS, xIsL, xIsT, xNeS, sRetO, sRetO1, sRetF, xCallF, xCallF1, xCallFK, xCallFK1, List.getD_cons_zero, List.getD_cons_succ, Bool.not_true, Bool.not_false, Bool.not_not, xLt, xLe, xGt, xGe, xEqI, xEqS, xNeI, xLenS, xLenL, xLenT, xAddI, xAddS, xAddL, xAddT, xSubI, xMulI, xMulL, xMulT, xDivI, xModI, xPowI, xNegI, xIntI, xIntB, xAbsI, xMin2, xMax2, xListL, xListT, xTupleL, xTupleT, xCutL, xCutT, xIsN, xIsB, xIsNotB, xIx0T, xIx1T, xIx2T, xIx3T, xIx0L, xIx1L, Int.reduceSub, Int.reduceAdd, Int.reduceMul, Int.reduceToNat, Int.reducePow, Int.reduceNeg]
            exact hQ
        · simp only [iSt, iSt1, xSplit, xRmPre, xInSg, xFs, xFs0, xFs1, xFs2, xFs3, xFmt, xFmtI, xFmtS, xStrI, xStrS, xM1, xM11, xM12, xInK, xNotInK, xfSorted, xVar, xVar1, xC, xN, xOp, xOp1, xOp2, xUn, xUn1, xNil, xCons, xCons1, xCons2, xTup, xTup1, xLst, xLst1, xTru, xTru1, xOb, tru_non, tru_bl, tru_int, tru_lst, tru_tup, xTB, xTB1, xAndT, xAndT1, xAndT2, xOrT, xOrT1, xOrT2, xNotT, xNotT1, xAnd, xAnd1, xAnd2, xOr, xOr1, xOr2, xNot, xNot1, xIfE, xIfE1, xIfE2, xCh, xCh1, xCh2, xCh3, xCh3b, xCh4, xNoP, xPart, xPart1, xCut, xCut1, xCut2, xCut3, xB, xB1, xCall, xCall1, xCallK, xCallK1, perm_nil, perm_cons, xCat, xCat1, xCat2, xRev, xRevL, xRevT, sSkip, sSeq, sRet, sRetN, sIf, sIf1, sIf2, sDrop, sDrop1, sBrk, sCnt, sSet, sSet1, sAsg, sAsg1, gN, gT, gPut, put_nil, put_cons, sAug, sAug1, sAug2, xFr, xFr1, xfLst, sOwn, sOwn1, sApp, sApp1, sApp2, sThaw, sThaw1, sThaw2, sThaw3, xPeek, xPeek1, xPeekd, xPeek2, xPeekT, xPeekT1, xPeekTd, sSetIx, sSetIx1, sSetIx2, sSetIx3, sSetIx4, iSq, iSqL, iSqT, iEn, iEnL, iEnT, iR1, iR11, iR2, iR21, sFor, xComp, sPenN, sPenR, sOwnD, sDSet, sDSet1, sDSet2, sDSet3, sDSet5, dKi, dKs, sThawD, sThawD1, iIt, iIt1, gPn, gPt, gPs0, gPs1, gPs2, sTry, sTry1, sTryN, sTryR, sTryR2, sTryB, sTryC, sRaise, nOw0, nOw1, nOw2, fld0, fld1, xIsX1, xIsX2, xIsNotX, xIsNX, U.l0, U.l1, U.s0, U.s1, wS0, wS1, beq_self_eq_true, sSet2, sSet21, sPar, sPar1, sOwnM, sOwnM1, sExt, sExt1, sExt2, sWh1, sWh2, xIsNI, xIsNNo, xIsNotI, xIsNotNo, xIsNotL, xIsNotT, xIsNotS, xIsS, xIsL, xIsT, xNeS, sRetO, sRetO1, sRetF, xCallF, xCallF1, xCallFK, xCallFK1, List.getD_cons_zero, List.getD_cons_succ, Bool.not_true, Bool.not_false, Bool.not_not, xLt, xLe, xGt, xGe, xEqI, xEqS, xNeI, xLenS, xLenL, xLenT, xAddI, xAddS, xAddL, xAddT, xSubI, xMulI, xMulL, xMulT, xDivI, xModI, xPowI, xNegI, xIntI, xIntB, xAbsI, xMin2, xMax2, xListL, xListT, xTupleL, xTupleT, xCutL, xCutT, xIsN, xIsB, xIsNotB, xIx0T, xIx1T, xIx2T, xIx3T, xIx0L, xIx1L, Int.reduceSub, Int.reduceAdd, Int.reduceMul, Int.reduceToNat, Int.reducePow, Int.reduceNeg, n1, n2, n3, n4, n5, n6, n7, Bool.or_false]
          have : polL s r = false := by
            match r with
            | [] => simp only [polL, n1, n2, Bool.or_false]
            | [_] => simp only [polL, n3, n4, Bool.or_false, Bool.false_and]
            | [_, _] => simp only [polL, n5, Bool.false_and]
            | _ :: _ :: _ :: _ => rfl
          rw [this] at hQ
          exact hQ
      | _ =>
        simp only [D.isS, iSt, iSt1, xSplit, xRmPre, xInSg, xFs, xFs0, xFs1, xFs2, xFs3, xFmt, xFmtI, xFmtS, xStrI, xStrS, xM1, xM11, xM12, xInK, xNotInK, xfSorted, xVar, xVar1, xC, xN, xOp, xOp1, xOp2, xUn, xUn1, xNil, xCons, xCons1, xCons2, xTup, xTup1, xLst, xLst1, xTru, xTru1, xOb, tru_non, tru_bl, tru_int, tru_lst, tru_tup, xTB, xTB1, xAndT, xAndT1, xAndT2, xOrT, xOrT1, xOrT2, xNotT, xNotT1, xAnd, xAnd1, xAnd2, xOr, xOr1, xOr2, xNot, xNot1, xIfE, xIfE1, xIfE2, xCh, xCh1, xCh2, xCh3, xCh3b, xCh4, xNoP, xPart, xPart1, xCut, xCut1, xCut2, xCut3, xB, xB1, xCall, xCall1, xCallK, xCallK1, perm_nil, perm_cons, xCat, xCat1, xCat2, xRev, xRevL, xRevT, sSkip, sSeq, sRet, sRetN, sIf, sIf1, sIf2, sDrop, sDrop1, sBrk, sCnt, sSet, sSet1, sAsg, sAsg1, gN, gT, gPut, put_nil, put_cons, sAug, sAug1, sAug2, xFr, xFr1, xfLst, sOwn, sOwn1, sApp, sApp1, sApp2, sThaw, sThaw1, sThaw2, sThaw3, xPeek, xPeek1, xPeekd, xPeek2, xPeekT, xPeekT1, xPeekTd, sSetIx, sSetIx1, sSetIx2, sSetIx3, sSetIx4, iSq, iSqL, iSqT, iEn, iEnL, iEnT, iR1, iR11, iR2, iR21, sFor, xComp, sPenN, sPenR, sOwnD, sDSet, sDSet1, sDSet2, sDSet3, sDSet5, dKi, dKs, sThawD, sThawD1, iIt, iIt1, gPn, gPt, gPs0, gPs1, gPs2, sTry, sTry1, sTryN, sTryR, sTryR2, sTryB, sTryC, sRaise, nOw0, nOw1, nOw2, fld0, fld1, xIsX1, xIsX2, xIsNotX, xIsNX, U.l0, U.l1, U.s0, U.s1, wS0, wS1, beq_self_eq_true, sSet2, sSet21, sPar, sPar1, sOwnM, sOwnM1, sExt, sExt1, sExt2, sWh1, sWh2, xIsNI, xIsNNo, xIsNotI, xIsNotNo, xIsNotL, xIsNotT, xIsNotS, xIsS, xIsL, xIsT, xNeS, sRetO, sRetO1, sRetF, xCallF, xCallF1, xCallFK, xCallFK1, List.getD_cons_zero, List.getD_cons_succ, Bool.not_true, Bool.not_false, Bool.not_not, xLt, xLe, xGt, xGe, xEqI, xEqS, xNeI, xLenS, xLenL, xLenT, xAddI, xAddS, xAddL, xAddT, xSubI, xMulI, xMulL, xMulT, xDivI, xModI, xPowI, xNegI, xIntI, xIntB, xAbsI, xMin2, xMax2, xListL, xListT, xTupleL, xTupleT, xCutL, xCutT, xIsN, xIsB, xIsNotB, xIx0T, xIx1T, xIx2T, xIx3T, xIx0L, xIx1L, Int.reduceSub, Int.reduceAdd, Int.reduceMul, Int.reduceToNat, Int.reducePow, Int.reduceNeg]
        first | exact hQ | exact absurd ha Bool.false_ne_true
  | _ =>
    simp only [D.isT, iSt, iSt1, xSplit, xRmPre, xInSg, xFs, xFs0, xFs1, xFs2, xFs3, xFmt, xFmtI, xFmtS, xStrI, xStrS, xM1, xM11, xM12, xInK, xNotInK, xfSorted, xVar, xVar1, xC, xN, xOp, xOp1, xOp2, xUn, xUn1, xNil, xCons, xCons1, xCons2, xTup, xTup1, xLst, xLst1, xTru, xTru1, xOb, tru_non, tru_bl, tru_int, tru_lst, tru_tup, xTB, xTB1, xAndT, xAndT1, xAndT2, xOrT, xOrT1, xOrT2, xNotT, xNotT1, xAnd, xAnd1, xAnd2, xOr, xOr1, xOr2, xNot, xNot1, xIfE, xIfE1, xIfE2, xCh, xCh1, xCh2, xCh3, xCh3b, xCh4, xNoP, xPart, xPart1, xCut, xCut1, xCut2, xCut3, xB, xB1, xCall, xCall1, xCallK, xCallK1, perm_nil, perm_cons, xCat, xCat1, xCat2, xRev, xRevL, xRevT, sSkip, sSeq, sRet, sRetN, sIf, sIf1, sIf2, sDrop, sDrop1, sBrk, sCnt, sSet, sSet1, sAsg, sAsg1, gN, gT, gPut, put_nil, put_cons, sAug, sAug1, sAug2, xFr, xFr1, xfLst, sOwn, sOwn1, sApp, sApp1, sApp2, sThaw, sThaw1, sThaw2, sThaw3, xPeek, xPeek1, xPeekd, xPeek2, xPeekT, xPeekT1, xPeekTd, sSetIx, sSetIx1, sSetIx2, sSetIx3, sSetIx4, iSq, iSqL, iSqT, iEn, iEnL, iEnT, iR1, iR11, iR2, iR21, sFor, xComp, sPenN, sPenR, sOwnD, sDSet, sDSet1, sDSet2, sDSet3, sDSet5, dKi, dKs, sThawD, sThawD1, iIt, iIt1, gPn, gPt, gPs0, gPs1, gPs2, sTry, sTry1, sTryN, sTryR, sTryR2, sTryB, sTryC, sRaise, nOw0, nOw1, nOw2, fld0, fld1, xIsX1, xIsX2, xIsNotX, xIsNX, U.l0, U.l1, U.s0, U.s1, wS0, wS1, beq_self_eq_true, sSet2, sSet21, sPar, sPar1, sOwnM, sOwnM1, sExt, sExt1, sExt2, sWh1, sWh2, xIsNI, xIsNNo, xIsNotI, xIsNotNo, xIsNotL, xIsNotT, xIsNotS, xIsS, xIsL, xIsT, xNeS, sRetO, sRetO1, sRetF, xCallF, xCallF1, xCallFK, xCallFK1, List.getD_cons_zero, List.getD_cons_succ, Bool.not_true, Bool.not_false, Bool.not_not, xLt, xLe, xGt, xGe, xEqI, xEqS, xNeI, xLenS, xLenL, xLenT, xAddI, xAddS, xAddL, xAddT, xSubI, xMulI, xMulL, xMulT, xDivI, xModI, xPowI, xNegI, xIntI, xIntB, xAbsI, xMin2, xMax2, xListL, xListT, xTupleL, xTupleT, xCutL, xCutT, xIsN, xIsB, xIsNotB, xIx0T, xIx1T, xIx2T, xIx3T, xIx0L, xIx1L, Int.reduceSub, Int.reduceAdd, Int.reduceMul, Int.reduceToNat, Int.reducePow, Int.reduceNeg]
    first | exact hQ | exact absurd hx Bool.false_ne_true


end Lw


set_option Elab.async false
set_option linter.all false
set_option maxRecDepth 100000
set_option maxHeartbeats 0
namespace Lw
open PySem PySem.Spec L2 U
open PyProof.Rows hiding St
theorem list1 {α : Type} {a x : α} (h : [a] = [x]) : a = x := by simpa using h
theorem mem2 {α : Type} {x a b : α} (h : x ∈ [a, b]) : x = a ∨ x = b := by simpa using h
theorem nS_foldP (i : Int) : Str.ofString (toString i) = nS i := rfl
def numF : D → D
  | .str s => (match PySem.intText? s with
    | some i => .int i
    | none => .non)
  | d => d
theorem numF_nS {i : Int} (h : natI i) : numF (.str (nS i)) = .int i := by
  show (match PySem.intText? (nS i) with | some i => D.int i | none => .non) = _
  rw [nS_int h]
def entF : D → D
  | .str w => (match Txt.split w ":" with
    | [a, b] => .tup [numF (.str a), numF (.str b)]
    | _ => .non)
  | d => d
theorem ent_split {e : Int × Int} (h : natI e.1 ∧ natI e.2) : Txt.split (entT e) ":" = [nS e.1, nS e.2] := two_split co_tl (by decide) (nS_free h.1 (by decide)) (nS_free h.2 (by decide))
theorem entF_ent {e : Int × Int} (h : natI e.1 ∧ natI e.2) : entF (.str (entT e)) = enD e := by
  show (match Txt.split (entT e) ":" with | [a, b] => D.tup [numF (.str a), numF (.str b)] | _ => .non) = _
  rw [ent_split h]
  show D.tup [numF (.str (nS e.1)), numF (.str (nS e.2))] = _
  rw [numF_nS h.1, numF_nS h.2]; rfl
def entD2 : D → D
  | .tup [.int a, .int b] => .str (entT (a, b))
  | d => d
theorem pure_number_in {pen : PenT} {PX : UX → Nat → Prop} : ∀ ds n (Q : D → Nat → Prop), sp_number_in ds pen n Q PX → u_number_in (Wd pen PX) { nx := fun ρ => Q .non ρ.fuel, rt := Q } ⟨startU N_number_in ds, pen, n⟩ := by
  refine run_number_in ?_
  rintro x n Q ⟨i, e, hi, hQ⟩
  obtain rfl := list1 e
  unfold u_number_in
  have l40 := nS_l40 hi
  have lp := nS_pos i
  have er : Txt.removeprefix (nS i) (Str.ofString "-") = nS i := by rw [lit1 mi_tl]; exact rmpre_none (nS_free hi (by decide))
  have d1 : decide ((1 : Int) ≤ ((nS i).length : Int)) = true := decide_eq_true (by omega)
  have d2 : decide (((nS i).length : Int) ≤ 40) = true := decide_eq_true (by omega)
  simp only [iSt, iSt1, xSplit, xRmPre, xInSg, xFs, xFs0, xFs1, xFs2, xFs3, xFmt, xFmtI, xFmtS, xStrI, xStrS, xM1, xM11, xM12, xInK, xNotInK, xfSorted, xVar, xVar1, xC, xN, xOp, xOp1, xOp2, xUn, xUn1, xNil, xCons, xCons1, xCons2, xTup, xTup1, xLst, xLst1, xTru, xTru1, xOb, tru_non, tru_bl, tru_int, tru_lst, tru_tup, xTB, xTB1, xAndT, xAndT1, xAndT2, xOrT, xOrT1, xOrT2, xNotT, xNotT1, xAnd, xAnd1, xAnd2, xOr, xOr1, xOr2, xNot, xNot1, xIfE, xIfE1, xIfE2, xCh, xCh1, xCh2, xCh3, xCh3b, xCh4, xNoP, xPart, xPart1, xCut, xCut1, xCut2, xCut3, xB, xB1, xCall, xCall1, xCallK, xCallK1, perm_nil, perm_cons, xCat, xCat1, xCat2, xRev, xRevL, xRevT, sSkip, sSeq, sRet, sRetN, sIf, sIf1, sIf2, sDrop, sDrop1, sBrk, sCnt, sSet, sSet1, sAsg, sAsg1, gN, gT, gPut, put_nil, put_cons, sAug, sAug1, sAug2, xFr, xFr1, xfLst, sOwn, sOwn1, sApp, sApp1, sApp2, sThaw, sThaw1, sThaw2, sThaw3, xPeek, xPeek1, xPeekd, xPeek2, xPeekT, xPeekT1, xPeekTd, sSetIx, sSetIx1, sSetIx2, sSetIx3, sSetIx4, iSq, iSqL, iSqT, iEn, iEnL, iEnT, iR1, iR11, iR2, iR21, sFor, xComp, sPenN, sPenR, sOwnD, sDSet, sDSet1, sDSet2, sDSet3, sDSet5, dKi, dKs, sThawD, sThawD1, iIt, iIt1, gPn, gPt, gPs0, gPs1, gPs2, sTry, sTry1, sTryN, sTryR, sTryR2, sTryB, sTryC, sRaise, nOw0, nOw1, nOw2, fld0, fld1, xIsX1, xIsX2, xIsNotX, xIsNX, U.l0, U.l1, U.s0, U.s1, wS0, wS1, beq_self_eq_true, sSet2, sSet21, sPar, sPar1, sOwnM, sOwnM1, sExt, sExt1, sExt2, sWh1, sWh2, xIsNI, xIsNNo, xIsNotI, xIsNotNo, xIsNotL, xIsNotT, xIsNotS, xIsS, xIsL, xIsT, xNeS, sRetO, sRetO1, sRetF, xCallF, xCallF1, xCallFK, xCallFK1, List.getD_cons_zero, List.getD_cons_succ, Bool.not_true, Bool.not_false, Bool.not_not, xLt, xLe, xGt, xGe, xEqI, xEqS, xNeI, xLenS, xLenL, xLenT, xAddI, xAddS, xAddL, xAddT, xSubI, xMulI, xMulL, xMulT, xDivI, xModI, xPowI, xNegI, xIntI, xIntB, xAbsI, xMin2, xMax2, xListL, xListT, xTupleL, xTupleT, xCutL, xCutT, xIsN, xIsB, xIsNotB, xIx0T, xIx1T, xIx2T, xIx3T, xIx0L, xIx1L, Int.reduceSub, Int.reduceAdd, Int.reduceMul, Int.reduceToNat, Int.reducePow, Int.reduceNeg, er, d1, d2]
  refine ⟨lim5 (by omega), lim5 (by omega), ?_⟩
  refine xMap (fun _ => .bl true) ?_ (by rfl) (fun d hd m T hT => ?_) ?_
  · unfold signsD
    rw [List.length_map, ← TL.len_tl]
    exact lim5 (by omega)
  · unfold signsD at hd
    obtain ⟨c, hc, rfl⟩ := List.mem_map.mp hd
    simp only [iSt, iSt1, xSplit, xRmPre, xInSg, xFs, xFs0, xFs1, xFs2, xFs3, xFmt, xFmtI, xFmtS, xStrI, xStrS, xM1, xM11, xM12, xInK, xNotInK, xfSorted, xVar, xVar1, xC, xN, xOp, xOp1, xOp2, xUn, xUn1, xNil, xCons, xCons1, xCons2, xTup, xTup1, xLst, xLst1, xTru, xTru1, xOb, tru_non, tru_bl, tru_int, tru_lst, tru_tup, xTB, xTB1, xAndT, xAndT1, xAndT2, xOrT, xOrT1, xOrT2, xNotT, xNotT1, xAnd, xAnd1, xAnd2, xOr, xOr1, xOr2, xNot, xNot1, xIfE, xIfE1, xIfE2, xCh, xCh1, xCh2, xCh3, xCh3b, xCh4, xNoP, xPart, xPart1, xCut, xCut1, xCut2, xCut3, xB, xB1, xCall, xCall1, xCallK, xCallK1, perm_nil, perm_cons, xCat, xCat1, xCat2, xRev, xRevL, xRevT, sSkip, sSeq, sRet, sRetN, sIf, sIf1, sIf2, sDrop, sDrop1, sBrk, sCnt, sSet, sSet1, sAsg, sAsg1, gN, gT, gPut, put_nil, put_cons, sAug, sAug1, sAug2, xFr, xFr1, xfLst, sOwn, sOwn1, sApp, sApp1, sApp2, sThaw, sThaw1, sThaw2, sThaw3, xPeek, xPeek1, xPeekd, xPeek2, xPeekT, xPeekT1, xPeekTd, sSetIx, sSetIx1, sSetIx2, sSetIx3, sSetIx4, iSq, iSqL, iSqT, iEn, iEnL, iEnT, iR1, iR11, iR2, iR21, sFor, xComp, sPenN, sPenR, sOwnD, sDSet, sDSet1, sDSet2, sDSet3, sDSet5, dKi, dKs, sThawD, sThawD1, iIt, iIt1, gPn, gPt, gPs0, gPs1, gPs2, sTry, sTry1, sTryN, sTryR, sTryR2, sTryB, sTryC, sRaise, nOw0, nOw1, nOw2, fld0, fld1, xIsX1, xIsX2, xIsNotX, xIsNX, U.l0, U.l1, U.s0, U.s1, wS0, wS1, beq_self_eq_true, sSet2, sSet21, sPar, sPar1, sOwnM, sOwnM1, sExt, sExt1, sExt2, sWh1, sWh2, xIsNI, xIsNNo, xIsNotI, xIsNotNo, xIsNotL, xIsNotT, xIsNotS, xIsS, xIsL, xIsT, xNeS, sRetO, sRetO1, sRetF, xCallF, xCallF1, xCallFK, xCallFK1, List.getD_cons_zero, List.getD_cons_succ, Bool.not_true, Bool.not_false, Bool.not_not, xLt, xLe, xGt, xGe, xEqI, xEqS, xNeI, xLenS, xLenL, xLenT, xAddI, xAddS, xAddL, xAddT, xSubI, xMulI, xMulL, xMulT, xDivI, xModI, xPowI, xNegI, xIntI, xIntB, xAbsI, xMin2, xMax2, xListL, xListT, xTupleL, xTupleT, xCutL, xCutT, xIsN, xIsB, xIsNotB, xIx0T, xIx1T, xIx2T, xIx3T, xIx0L, xIx1L, Int.reduceSub, Int.reduceAdd, Int.reduceMul, Int.reduceToNat, Int.reducePow, Int.reduceNeg, decide_eq_true (nS_digits hi c hc)]
    exact hT
  · have e : ((signsD (nS i)).map fun _ => D.bl true) = ((signsD (nS i)).map fun _ => true).map D.bl := by rw [List.map_map]; rfl
    have e2 : ((signsD (nS i)).map fun _ => true).all id = true := by
      rw [List.all_map, List.all_eq_true]
      exact fun _ _ => rfl
    rw [e]
    simp only [iSt, iSt1, xSplit, xRmPre, xInSg, xFs, xFs0, xFs1, xFs2, xFs3, xFmt, xFmtI, xFmtS, xStrI, xStrS, xM1, xM11, xM12, xInK, xNotInK, xfSorted, xVar, xVar1, xC, xN, xOp, xOp1, xOp2, xUn, xUn1, xNil, xCons, xCons1, xCons2, xTup, xTup1, xLst, xLst1, xTru, xTru1, xOb, tru_non, tru_bl, tru_int, tru_lst, tru_tup, xTB, xTB1, xAndT, xAndT1, xAndT2, xOrT, xOrT1, xOrT2, xNotT, xNotT1, xAnd, xAnd1, xAnd2, xOr, xOr1, xOr2, xNot, xNot1, xIfE, xIfE1, xIfE2, xCh, xCh1, xCh2, xCh3, xCh3b, xCh4, xNoP, xPart, xPart1, xCut, xCut1, xCut2, xCut3, xB, xB1, xCall, xCall1, xCallK, xCallK1, perm_nil, perm_cons, xCat, xCat1, xCat2, xRev, xRevL, xRevT, sSkip, sSeq, sRet, sRetN, sIf, sIf1, sIf2, sDrop, sDrop1, sBrk, sCnt, sSet, sSet1, sAsg, sAsg1, gN, gT, gPut, put_nil, put_cons, sAug, sAug1, sAug2, xFr, xFr1, xfLst, sOwn, sOwn1, sApp, sApp1, sApp2, sThaw, sThaw1, sThaw2, sThaw3, xPeek, xPeek1, xPeekd, xPeek2, xPeekT, xPeekT1, xPeekTd, sSetIx, sSetIx1, sSetIx2, sSetIx3, sSetIx4, iSq, iSqL, iSqT, iEn, iEnL, iEnT, iR1, iR11, iR2, iR21, sFor, xComp, sPenN, sPenR, sOwnD, sDSet, sDSet1, sDSet2, sDSet3, sDSet5, dKi, dKs, sThawD, sThawD1, iIt, iIt1, gPn, gPt, gPs0, gPs1, gPs2, sTry, sTry1, sTryN, sTryR, sTryR2, sTryB, sTryC, sRaise, nOw0, nOw1, nOw2, fld0, fld1, xIsX1, xIsX2, xIsNotX, xIsNX, U.l0, U.l1, U.s0, U.s1, wS0, wS1, beq_self_eq_true, sSet2, sSet21, sPar, sPar1, sOwnM, sOwnM1, sExt, sExt1, sExt2, sWh1, sWh2, xIsNI, xIsNNo, xIsNotI, xIsNotNo, xIsNotL, xIsNotT, xIsNotS, xIsS, xIsL, xIsT, xNeS, sRetO, sRetO1, sRetF, xCallF, xCallF1, xCallFK, xCallFK1, List.getD_cons_zero, List.getD_cons_succ, Bool.not_true, Bool.not_false, Bool.not_not, xLt, xLe, xGt, xGe, xEqI, xEqS, xNeI, xLenS, xLenL, xLenT, xAddI, xAddS, xAddL, xAddT, xSubI, xMulI, xMulL, xMulT, xDivI, xModI, xPowI, xNegI, xIntI, xIntB, xAbsI, xMin2, xMax2, xListL, xListT, xTupleL, xTupleT, xCutL, xCutT, xIsN, xIsB, xIsNotB, xIx0T, xIx1T, xIx2T, xIx3T, xIx0L, xIx1L, Int.reduceSub, Int.reduceAdd, Int.reduceMul, Int.reduceToNat, Int.reducePow, Int.reduceNeg, xAll, e2, xIntT (nS_int hi) (show (nS i).length ≤ 640 by omega)]
    exact hQ
theorem pure_numbers_in {pen : PenT} {PX : UX → Nat → Prop} : ∀ ds n (Q : D → Nat → Prop), sp_numbers_in ds pen n Q PX → u_numbers_in (Wd pen PX) { nx := fun ρ => Q .non ρ.fuel, rt := Q } ⟨startU N_numbers_in ds, pen, n⟩ := by
  refine run_numbers_in ?_
  rintro x n Q ⟨ns, e, hl, hn, hQ⟩
  obtain rfl := list1 e
  unfold u_numbers_in
  (try simp only [iSt, iSt1, xSplit, xRmPre, xInSg, xFs, xFs0, xFs1, xFs2, xFs3, xFmt, xFmtI, xFmtS, xStrI, xStrS, xM1, xM11, xM12, xInK, xNotInK, xfSorted, xVar, xVar1, xC, xN, xOp, xOp1, xOp2, xUn, xUn1, xNil, xCons, xCons1, xCons2, xTup, xTup1, xLst, xLst1, xTru, xTru1, xOb, tru_non, tru_bl, tru_int, tru_lst, tru_tup, xTB, xTB1, xAndT, xAndT1, xAndT2, xOrT, xOrT1, xOrT2, xNotT, xNotT1, xAnd, xAnd1, xAnd2, xOr, xOr1, xOr2, xNot, xNot1, xIfE, xIfE1, xIfE2, xCh, xCh1, xCh2, xCh3, xCh3b, xCh4, xNoP, xPart, xPart1, xCut, xCut1, xCut2, xCut3, xB, xB1, xCall, xCall1, xCallK, xCallK1, perm_nil, perm_cons, xCat, xCat1, xCat2, xRev, xRevL, xRevT, sSkip, sSeq, sRet, sRetN, sIf, sIf1, sIf2, sDrop, sDrop1, sBrk, sCnt, sSet, sSet1, sAsg, sAsg1, gN, gT, gPut, put_nil, put_cons, sAug, sAug1, sAug2, xFr, xFr1, xfLst, sOwn, sOwn1, sApp, sApp1, sApp2, sThaw, sThaw1, sThaw2, sThaw3, xPeek, xPeek1, xPeekd, xPeek2, xPeekT, xPeekT1, xPeekTd, sSetIx, sSetIx1, sSetIx2, sSetIx3, sSetIx4, iSq, iSqL, iSqT, iEn, iEnL, iEnT, iR1, iR11, iR2, iR21, sFor, xComp, sPenN, sPenR, sOwnD, sDSet, sDSet1, sDSet2, sDSet3, sDSet5, dKi, dKs, sThawD, sThawD1, iIt, iIt1, gPn, gPt, gPs0, gPs1, gPs2, sTry, sTry1, sTryN, sTryR, sTryR2, sTryB, sTryC, sRaise, nOw0, nOw1, nOw2, fld0, fld1, xIsX1, xIsX2, xIsNotX, xIsNX, U.l0, U.l1, U.s0, U.s1, wS0, wS1, beq_self_eq_true, sSet2, sSet21, sPar, sPar1, sOwnM, sOwnM1, sExt, sExt1, sExt2, sWh1, sWh2, xIsNI, xIsNNo, xIsNotI, xIsNotNo, xIsNotL, xIsNotT, xIsNotS, xIsS, xIsL, xIsT, xNeS, sRetO, sRetO1, sRetF, xCallF, xCallF1, xCallFK, xCallFK1, List.getD_cons_zero, List.getD_cons_succ, Bool.not_true, Bool.not_false, Bool.not_not, xLt, xLe, xGt, xGe, xEqI, xEqS, xNeI, xLenS, xLenL, xLenT, xAddI, xAddS, xAddL, xAddT, xSubI, xMulI, xMulL, xMulT, xDivI, xModI, xPowI, xNegI, xIntI, xIntB, xAbsI, xMin2, xMax2, xListL, xListT, xTupleL, xTupleT, xCutL, xCutT, xIsN, xIsB, xIsNotB, xIx0T, xIx1T, xIx2T, xIx3T, xIx0L, xIx1L, Int.reduceSub, Int.reduceAdd, Int.reduceMul, Int.reduceToNat, Int.reducePow, Int.reduceNeg])
  refine xMap numF (lim5 (by rw [List.length_map]; omega)) (by rfl) (fun d hd m T hT => ?_) ?_
  · obtain ⟨i, hi, rfl⟩ := List.mem_map.mp hd
    rw [numF_nS (hn i hi)] at hT
    (try simp only [iSt, iSt1, xSplit, xRmPre, xInSg, xFs, xFs0, xFs1, xFs2, xFs3, xFmt, xFmtI, xFmtS, xStrI, xStrS, xM1, xM11, xM12, xInK, xNotInK, xfSorted, xVar, xVar1, xC, xN, xOp, xOp1, xOp2, xUn, xUn1, xNil, xCons, xCons1, xCons2, xTup, xTup1, xLst, xLst1, xTru, xTru1, xOb, tru_non, tru_bl, tru_int, tru_lst, tru_tup, xTB, xTB1, xAndT, xAndT1, xAndT2, xOrT, xOrT1, xOrT2, xNotT, xNotT1, xAnd, xAnd1, xAnd2, xOr, xOr1, xOr2, xNot, xNot1, xIfE, xIfE1, xIfE2, xCh, xCh1, xCh2, xCh3, xCh3b, xCh4, xNoP, xPart, xPart1, xCut, xCut1, xCut2, xCut3, xB, xB1, xCall, xCall1, xCallK, xCallK1, perm_nil, perm_cons, xCat, xCat1, xCat2, xRev, xRevL, xRevT, sSkip, sSeq, sRet, sRetN, sIf, sIf1, sIf2, sDrop, sDrop1, sBrk, sCnt, sSet, sSet1, sAsg, sAsg1, gN, gT, gPut, put_nil, put_cons, sAug, sAug1, sAug2, xFr, xFr1, xfLst, sOwn, sOwn1, sApp, sApp1, sApp2, sThaw, sThaw1, sThaw2, sThaw3, xPeek, xPeek1, xPeekd, xPeek2, xPeekT, xPeekT1, xPeekTd, sSetIx, sSetIx1, sSetIx2, sSetIx3, sSetIx4, iSq, iSqL, iSqT, iEn, iEnL, iEnT, iR1, iR11, iR2, iR21, sFor, xComp, sPenN, sPenR, sOwnD, sDSet, sDSet1, sDSet2, sDSet3, sDSet5, dKi, dKs, sThawD, sThawD1, iIt, iIt1, gPn, gPt, gPs0, gPs1, gPs2, sTry, sTry1, sTryN, sTryR, sTryR2, sTryB, sTryC, sRaise, nOw0, nOw1, nOw2, fld0, fld1, xIsX1, xIsX2, xIsNotX, xIsNX, U.l0, U.l1, U.s0, U.s1, wS0, wS1, beq_self_eq_true, sSet2, sSet21, sPar, sPar1, sOwnM, sOwnM1, sExt, sExt1, sExt2, sWh1, sWh2, xIsNI, xIsNNo, xIsNotI, xIsNotNo, xIsNotL, xIsNotT, xIsNotS, xIsS, xIsL, xIsT, xNeS, sRetO, sRetO1, sRetF, xCallF, xCallF1, xCallFK, xCallFK1, List.getD_cons_zero, List.getD_cons_succ, Bool.not_true, Bool.not_false, Bool.not_not, xLt, xLe, xGt, xGe, xEqI, xEqS, xNeI, xLenS, xLenL, xLenT, xAddI, xAddS, xAddL, xAddT, xSubI, xMulI, xMulL, xMulT, xDivI, xModI, xPowI, xNegI, xIntI, xIntB, xAbsI, xMin2, xMax2, xListL, xListT, xTupleL, xTupleT, xCutL, xCutT, xIsN, xIsB, xIsNotB, xIx0T, xIx1T, xIx2T, xIx3T, xIx0L, xIx1L, Int.reduceSub, Int.reduceAdd, Int.reduceMul, Int.reduceToNat, Int.reducePow, Int.reduceNeg])
    exact ⟨i, rfl, hn i hi, hT⟩
  · have e : (ns.map fun i => D.str (nS i)).map numF = ns.map D.int := by
      rw [List.map_map]
      exact List.map_congr_left fun i hi => numF_nS (hn i hi)
    rw [e]
    (try simp only [iSt, iSt1, xSplit, xRmPre, xInSg, xFs, xFs0, xFs1, xFs2, xFs3, xFmt, xFmtI, xFmtS, xStrI, xStrS, xM1, xM11, xM12, xInK, xNotInK, xfSorted, xVar, xVar1, xC, xN, xOp, xOp1, xOp2, xUn, xUn1, xNil, xCons, xCons1, xCons2, xTup, xTup1, xLst, xLst1, xTru, xTru1, xOb, tru_non, tru_bl, tru_int, tru_lst, tru_tup, xTB, xTB1, xAndT, xAndT1, xAndT2, xOrT, xOrT1, xOrT2, xNotT, xNotT1, xAnd, xAnd1, xAnd2, xOr, xOr1, xOr2, xNot, xNot1, xIfE, xIfE1, xIfE2, xCh, xCh1, xCh2, xCh3, xCh3b, xCh4, xNoP, xPart, xPart1, xCut, xCut1, xCut2, xCut3, xB, xB1, xCall, xCall1, xCallK, xCallK1, perm_nil, perm_cons, xCat, xCat1, xCat2, xRev, xRevL, xRevT, sSkip, sSeq, sRet, sRetN, sIf, sIf1, sIf2, sDrop, sDrop1, sBrk, sCnt, sSet, sSet1, sAsg, sAsg1, gN, gT, gPut, put_nil, put_cons, sAug, sAug1, sAug2, xFr, xFr1, xfLst, sOwn, sOwn1, sApp, sApp1, sApp2, sThaw, sThaw1, sThaw2, sThaw3, xPeek, xPeek1, xPeekd, xPeek2, xPeekT, xPeekT1, xPeekTd, sSetIx, sSetIx1, sSetIx2, sSetIx3, sSetIx4, iSq, iSqL, iSqT, iEn, iEnL, iEnT, iR1, iR11, iR2, iR21, sFor, xComp, sPenN, sPenR, sOwnD, sDSet, sDSet1, sDSet2, sDSet3, sDSet5, dKi, dKs, sThawD, sThawD1, iIt, iIt1, gPn, gPt, gPs0, gPs1, gPs2, sTry, sTry1, sTryN, sTryR, sTryR2, sTryB, sTryC, sRaise, nOw0, nOw1, nOw2, fld0, fld1, xIsX1, xIsX2, xIsNotX, xIsNX, U.l0, U.l1, U.s0, U.s1, wS0, wS1, beq_self_eq_true, sSet2, sSet21, sPar, sPar1, sOwnM, sOwnM1, sExt, sExt1, sExt2, sWh1, sWh2, xIsNI, xIsNNo, xIsNotI, xIsNotNo, xIsNotL, xIsNotT, xIsNotS, xIsS, xIsL, xIsT, xNeS, sRetO, sRetO1, sRetF, xCallF, xCallF1, xCallFK, xCallFK1, List.getD_cons_zero, List.getD_cons_succ, Bool.not_true, Bool.not_false, Bool.not_not, xLt, xLe, xGt, xGe, xEqI, xEqS, xNeI, xLenS, xLenL, xLenT, xAddI, xAddS, xAddL, xAddT, xSubI, xMulI, xMulL, xMulT, xDivI, xModI, xPowI, xNegI, xIntI, xIntB, xAbsI, xMin2, xMax2, xListL, xListT, xTupleL, xTupleT, xCutL, xCutT, xIsN, xIsB, xIsNotB, xIx0T, xIx1T, xIx2T, xIx3T, xIx0L, xIx1L, Int.reduceSub, Int.reduceAdd, Int.reduceMul, Int.reduceToNat, Int.reducePow, Int.reduceNeg])
    exact hQ
theorem pure_entries_in {pen : PenT} {PX : UX → Nat → Prop} : ∀ ds n (Q : D → Nat → Prop), sp_entries_in ds pen n Q PX → u_entries_in (Wd pen PX) { nx := fun ρ => Q .non ρ.fuel, rt := Q } ⟨startU N_entries_in ds, pen, n⟩ := by
  refine run_entries_in ?_
  rintro x n Q ⟨es, e, hl, hn, hQ⟩
  obtain rfl := list1 e
  unfold u_entries_in
  (try simp only [iSt, iSt1, xSplit, xRmPre, xInSg, xFs, xFs0, xFs1, xFs2, xFs3, xFmt, xFmtI, xFmtS, xStrI, xStrS, xM1, xM11, xM12, xInK, xNotInK, xfSorted, xVar, xVar1, xC, xN, xOp, xOp1, xOp2, xUn, xUn1, xNil, xCons, xCons1, xCons2, xTup, xTup1, xLst, xLst1, xTru, xTru1, xOb, tru_non, tru_bl, tru_int, tru_lst, tru_tup, xTB, xTB1, xAndT, xAndT1, xAndT2, xOrT, xOrT1, xOrT2, xNotT, xNotT1, xAnd, xAnd1, xAnd2, xOr, xOr1, xOr2, xNot, xNot1, xIfE, xIfE1, xIfE2, xCh, xCh1, xCh2, xCh3, xCh3b, xCh4, xNoP, xPart, xPart1, xCut, xCut1, xCut2, xCut3, xB, xB1, xCall, xCall1, xCallK, xCallK1, perm_nil, perm_cons, xCat, xCat1, xCat2, xRev, xRevL, xRevT, sSkip, sSeq, sRet, sRetN, sIf, sIf1, sIf2, sDrop, sDrop1, sBrk, sCnt, sSet, sSet1, sAsg, sAsg1, gN, gT, gPut, put_nil, put_cons, sAug, sAug1, sAug2, xFr, xFr1, xfLst, sOwn, sOwn1, sApp, sApp1, sApp2, sThaw, sThaw1, sThaw2, sThaw3, xPeek, xPeek1, xPeekd, xPeek2, xPeekT, xPeekT1, xPeekTd, sSetIx, sSetIx1, sSetIx2, sSetIx3, sSetIx4, iSq, iSqL, iSqT, iEn, iEnL, iEnT, iR1, iR11, iR2, iR21, sFor, xComp, sPenN, sPenR, sOwnD, sDSet, sDSet1, sDSet2, sDSet3, sDSet5, dKi, dKs, sThawD, sThawD1, iIt, iIt1, gPn, gPt, gPs0, gPs1, gPs2, sTry, sTry1, sTryN, sTryR, sTryR2, sTryB, sTryC, sRaise, nOw0, nOw1, nOw2, fld0, fld1, xIsX1, xIsX2, xIsNotX, xIsNX, U.l0, U.l1, U.s0, U.s1, wS0, wS1, beq_self_eq_true, sSet2, sSet21, sPar, sPar1, sOwnM, sOwnM1, sExt, sExt1, sExt2, sWh1, sWh2, xIsNI, xIsNNo, xIsNotI, xIsNotNo, xIsNotL, xIsNotT, xIsNotS, xIsS, xIsL, xIsT, xNeS, sRetO, sRetO1, sRetF, xCallF, xCallF1, xCallFK, xCallFK1, List.getD_cons_zero, List.getD_cons_succ, Bool.not_true, Bool.not_false, Bool.not_not, xLt, xLe, xGt, xGe, xEqI, xEqS, xNeI, xLenS, xLenL, xLenT, xAddI, xAddS, xAddL, xAddT, xSubI, xMulI, xMulL, xMulT, xDivI, xModI, xPowI, xNegI, xIntI, xIntB, xAbsI, xMin2, xMax2, xListL, xListT, xTupleL, xTupleT, xCutL, xCutT, xIsN, xIsB, xIsNotB, xIx0T, xIx1T, xIx2T, xIx3T, xIx0L, xIx1L, Int.reduceSub, Int.reduceAdd, Int.reduceMul, Int.reduceToNat, Int.reducePow, Int.reduceNeg])
  refine xMap entF (lim5 (by rw [List.length_map]; omega)) (by rfl) (fun d hd m T hT => ?_) ?_
  · obtain ⟨e, he, rfl⟩ := List.mem_map.mp hd
    obtain ⟨h1, h2⟩ := hn e he
    rw [entF_ent ⟨h1, h2⟩] at hT
    have l1 := nS_l40 h1
    have l2 := nS_l40 h2
    have hz : ((Str.ofString ":").length == 0) = false := by decide +kernel
    simp only [iSt, iSt1, xSplit, xRmPre, xInSg, xFs, xFs0, xFs1, xFs2, xFs3, xFmt, xFmtI, xFmtS, xStrI, xStrS, xM1, xM11, xM12, xInK, xNotInK, xfSorted, xVar, xVar1, xC, xN, xOp, xOp1, xOp2, xUn, xUn1, xNil, xCons, xCons1, xCons2, xTup, xTup1, xLst, xLst1, xTru, xTru1, xOb, tru_non, tru_bl, tru_int, tru_lst, tru_tup, xTB, xTB1, xAndT, xAndT1, xAndT2, xOrT, xOrT1, xOrT2, xNotT, xNotT1, xAnd, xAnd1, xAnd2, xOr, xOr1, xOr2, xNot, xNot1, xIfE, xIfE1, xIfE2, xCh, xCh1, xCh2, xCh3, xCh3b, xCh4, xNoP, xPart, xPart1, xCut, xCut1, xCut2, xCut3, xB, xB1, xCall, xCall1, xCallK, xCallK1, perm_nil, perm_cons, xCat, xCat1, xCat2, xRev, xRevL, xRevT, sSkip, sSeq, sRet, sRetN, sIf, sIf1, sIf2, sDrop, sDrop1, sBrk, sCnt, sSet, sSet1, sAsg, sAsg1, gN, gT, gPut, put_nil, put_cons, sAug, sAug1, sAug2, xFr, xFr1, xfLst, sOwn, sOwn1, sApp, sApp1, sApp2, sThaw, sThaw1, sThaw2, sThaw3, xPeek, xPeek1, xPeekd, xPeek2, xPeekT, xPeekT1, xPeekTd, sSetIx, sSetIx1, sSetIx2, sSetIx3, sSetIx4, iSq, iSqL, iSqT, iEn, iEnL, iEnT, iR1, iR11, iR2, iR21, sFor, xComp, sPenN, sPenR, sOwnD, sDSet, sDSet1, sDSet2, sDSet3, sDSet5, dKi, dKs, sThawD, sThawD1, iIt, iIt1, gPn, gPt, gPs0, gPs1, gPs2, sTry, sTry1, sTryN, sTryR, sTryR2, sTryB, sTryC, sRaise, nOw0, nOw1, nOw2, fld0, fld1, xIsX1, xIsX2, xIsNotX, xIsNX, U.l0, U.l1, U.s0, U.s1, wS0, wS1, beq_self_eq_true, sSet2, sSet21, sPar, sPar1, sOwnM, sOwnM1, sExt, sExt1, sExt2, sWh1, sWh2, xIsNI, xIsNNo, xIsNotI, xIsNotNo, xIsNotL, xIsNotT, xIsNotS, xIsS, xIsL, xIsT, xNeS, sRetO, sRetO1, sRetF, xCallF, xCallF1, xCallFK, xCallFK1, List.getD_cons_zero, List.getD_cons_succ, Bool.not_true, Bool.not_false, Bool.not_not, xLt, xLe, xGt, xGe, xEqI, xEqS, xNeI, xLenS, xLenL, xLenT, xAddI, xAddS, xAddL, xAddT, xSubI, xMulI, xMulL, xMulT, xDivI, xModI, xPowI, xNegI, xIntI, xIntB, xAbsI, xMin2, xMax2, xListL, xListT, xTupleL, xTupleT, xCutL, xCutT, xIsN, xIsB, xIsNotB, xIx0T, xIx1T, xIx2T, xIx3T, xIx0L, xIx1L, Int.reduceSub, Int.reduceAdd, Int.reduceMul, Int.reduceToNat, Int.reducePow, Int.reduceNeg, xSplit, ent_split ⟨h1, h2⟩]
    refine ⟨⟨hz, lim5 ?_⟩, [e.1, e.2], rfl, by simp, fun i hi => ?_, hT⟩
    · unfold entT
      rw [strLen_append, strLen_append, PySem.ofString_length]
      have : ":".length = 1 := rfl
      omega
    · rcases mem2 hi with rfl | rfl
      · exact h1
      · exact h2
  · have e : (es.map fun e => D.str (entT e)).map entF = es.map enD := by
      rw [List.map_map]
      exact List.map_congr_left fun e he => entF_ent (hn e he)
    rw [e]
    (try simp only [iSt, iSt1, xSplit, xRmPre, xInSg, xFs, xFs0, xFs1, xFs2, xFs3, xFmt, xFmtI, xFmtS, xStrI, xStrS, xM1, xM11, xM12, xInK, xNotInK, xfSorted, xVar, xVar1, xC, xN, xOp, xOp1, xOp2, xUn, xUn1, xNil, xCons, xCons1, xCons2, xTup, xTup1, xLst, xLst1, xTru, xTru1, xOb, tru_non, tru_bl, tru_int, tru_lst, tru_tup, xTB, xTB1, xAndT, xAndT1, xAndT2, xOrT, xOrT1, xOrT2, xNotT, xNotT1, xAnd, xAnd1, xAnd2, xOr, xOr1, xOr2, xNot, xNot1, xIfE, xIfE1, xIfE2, xCh, xCh1, xCh2, xCh3, xCh3b, xCh4, xNoP, xPart, xPart1, xCut, xCut1, xCut2, xCut3, xB, xB1, xCall, xCall1, xCallK, xCallK1, perm_nil, perm_cons, xCat, xCat1, xCat2, xRev, xRevL, xRevT, sSkip, sSeq, sRet, sRetN, sIf, sIf1, sIf2, sDrop, sDrop1, sBrk, sCnt, sSet, sSet1, sAsg, sAsg1, gN, gT, gPut, put_nil, put_cons, sAug, sAug1, sAug2, xFr, xFr1, xfLst, sOwn, sOwn1, sApp, sApp1, sApp2, sThaw, sThaw1, sThaw2, sThaw3, xPeek, xPeek1, xPeekd, xPeek2, xPeekT, xPeekT1, xPeekTd, sSetIx, sSetIx1, sSetIx2, sSetIx3, sSetIx4, iSq, iSqL, iSqT, iEn, iEnL, iEnT, iR1, iR11, iR2, iR21, sFor, xComp, sPenN, sPenR, sOwnD, sDSet, sDSet1, sDSet2, sDSet3, sDSet5, dKi, dKs, sThawD, sThawD1, iIt, iIt1, gPn, gPt, gPs0, gPs1, gPs2, sTry, sTry1, sTryN, sTryR, sTryR2, sTryB, sTryC, sRaise, nOw0, nOw1, nOw2, fld0, fld1, xIsX1, xIsX2, xIsNotX, xIsNX, U.l0, U.l1, U.s0, U.s1, wS0, wS1, beq_self_eq_true, sSet2, sSet21, sPar, sPar1, sOwnM, sOwnM1, sExt, sExt1, sExt2, sWh1, sWh2, xIsNI, xIsNNo, xIsNotI, xIsNotNo, xIsNotL, xIsNotT, xIsNotS, xIsS, xIsL, xIsT, xNeS, sRetO, sRetO1, sRetF, xCallF, xCallF1, xCallFK, xCallFK1, List.getD_cons_zero, List.getD_cons_succ, Bool.not_true, Bool.not_false, Bool.not_not, xLt, xLe, xGt, xGe, xEqI, xEqS, xNeI, xLenS, xLenL, xLenT, xAddI, xAddS, xAddL, xAddT, xSubI, xMulI, xMulL, xMulT, xDivI, xModI, xPowI, xNegI, xIntI, xIntB, xAbsI, xMin2, xMax2, xListL, xListT, xTupleL, xTupleT, xCutL, xCutT, xIsN, xIsB, xIsNotB, xIx0T, xIx1T, xIx2T, xIx3T, xIx0L, xIx1L, Int.reduceSub, Int.reduceAdd, Int.reduceMul, Int.reduceToNat, Int.reducePow, Int.reduceNeg])
    exact hQ
theorem pure_policy_in {pen : PenT} {PX : UX → Nat → Prop} : ∀ ds n (Q : D → Nat → Prop), sp_policy_in ds pen n Q PX → u_policy_in (Wd pen PX) { nx := fun ρ => Q .non ρ.fuel, rt := Q } ⟨startU N_policy_in ds, pen, n⟩ := by
  refine run_policy_in ?_
  rintro x n Q ⟨P, e, ok, hQ⟩
  obtain rfl := list1 e
  unfold u_policy_in
  cases P with
  | exact => simp only [polW, List.map_cons, List.map_nil, iSt, iSt1, xSplit, xRmPre, xInSg, xFs, xFs0, xFs1, xFs2, xFs3, xFmt, xFmtI, xFmtS, xStrI, xStrS, xM1, xM11, xM12, xInK, xNotInK, xfSorted, xVar, xVar1, xC, xN, xOp, xOp1, xOp2, xUn, xUn1, xNil, xCons, xCons1, xCons2, xTup, xTup1, xLst, xLst1, xTru, xTru1, xOb, tru_non, tru_bl, tru_int, tru_lst, tru_tup, xTB, xTB1, xAndT, xAndT1, xAndT2, xOrT, xOrT1, xOrT2, xNotT, xNotT1, xAnd, xAnd1, xAnd2, xOr, xOr1, xOr2, xNot, xNot1, xIfE, xIfE1, xIfE2, xCh, xCh1, xCh2, xCh3, xCh3b, xCh4, xNoP, xPart, xPart1, xCut, xCut1, xCut2, xCut3, xB, xB1, xCall, xCall1, xCallK, xCallK1, perm_nil, perm_cons, xCat, xCat1, xCat2, xRev, xRevL, xRevT, sSkip, sSeq, sRet, sRetN, sIf, sIf1, sIf2, sDrop, sDrop1, sBrk, sCnt, sSet, sSet1, sAsg, sAsg1, gN, gT, gPut, put_nil, put_cons, sAug, sAug1, sAug2, xFr, xFr1, xfLst, sOwn, sOwn1, sApp, sApp1, sApp2, sThaw, sThaw1, sThaw2, sThaw3, xPeek, xPeek1, xPeekd, xPeek2, xPeekT, xPeekT1, xPeekTd, sSetIx, sSetIx1, sSetIx2, sSetIx3, sSetIx4, iSq, iSqL, iSqT, iEn, iEnL, iEnT, iR1, iR11, iR2, iR21, sFor, xComp, sPenN, sPenR, sOwnD, sDSet, sDSet1, sDSet2, sDSet3, sDSet5, dKi, dKs, sThawD, sThawD1, iIt, iIt1, gPn, gPt, gPs0, gPs1, gPs2, sTry, sTry1, sTryN, sTryR, sTryR2, sTryB, sTryC, sRaise, nOw0, nOw1, nOw2, fld0, fld1, xIsX1, xIsX2, xIsNotX, xIsNX, U.l0, U.l1, U.s0, U.s1, wS0, wS1, beq_self_eq_true, sSet2, sSet21, sPar, sPar1, sOwnM, sOwnM1, sExt, sExt1, sExt2, sWh1, sWh2, xIsNI, xIsNNo, xIsNotI, xIsNotNo, xIsNotL, xIsNotT, xIsNotS, xIsS, xIsL, xIsT, xNeS, sRetO, sRetO1, sRetF, xCallF, xCallF1, xCallFK, xCallFK1, List.getD_cons_zero, List.getD_cons_succ, Bool.not_true, Bool.not_false, Bool.not_not, xLt, xLe, xGt, xGe, xEqI, xEqS, xNeI, xLenS, xLenL, xLenT, xAddI, xAddS, xAddL, xAddT, xSubI, xMulI, xMulL, xMulT, xDivI, xModI, xPowI, xNegI, xIntI, xIntB, xAbsI, xMin2, xMax2, xListL, xListT, xTupleL, xTupleT, xCutL, xCutT, xIsN, xIsB, xIsNotB, xIx0T, xIx1T, xIx2T, xIx3T, xIx0L, xIx1L, Int.reduceSub, Int.reduceAdd, Int.reduceMul, Int.reduceToNat, Int.reducePow, Int.reduceNeg, sq_exact_endless, sq_exact_table, sq_exact_step, sq_exact_factor, sq_endless_exact, sq_endless_table, sq_endless_step, sq_endless_factor, sq_table_exact, sq_table_endless, sq_table_step, sq_table_factor, sq_step_exact, sq_step_endless, sq_step_table, sq_step_factor, sq_factor_exact, sq_factor_endless, sq_factor_table, sq_factor_step]; exact hQ
  | endless => simp only [polW, List.map_cons, List.map_nil, iSt, iSt1, xSplit, xRmPre, xInSg, xFs, xFs0, xFs1, xFs2, xFs3, xFmt, xFmtI, xFmtS, xStrI, xStrS, xM1, xM11, xM12, xInK, xNotInK, xfSorted, xVar, xVar1, xC, xN, xOp, xOp1, xOp2, xUn, xUn1, xNil, xCons, xCons1, xCons2, xTup, xTup1, xLst, xLst1, xTru, xTru1, xOb, tru_non, tru_bl, tru_int, tru_lst, tru_tup, xTB, xTB1, xAndT, xAndT1, xAndT2, xOrT, xOrT1, xOrT2, xNotT, xNotT1, xAnd, xAnd1, xAnd2, xOr, xOr1, xOr2, xNot, xNot1, xIfE, xIfE1, xIfE2, xCh, xCh1, xCh2, xCh3, xCh3b, xCh4, xNoP, xPart, xPart1, xCut, xCut1, xCut2, xCut3, xB, xB1, xCall, xCall1, xCallK, xCallK1, perm_nil, perm_cons, xCat, xCat1, xCat2, xRev, xRevL, xRevT, sSkip, sSeq, sRet, sRetN, sIf, sIf1, sIf2, sDrop, sDrop1, sBrk, sCnt, sSet, sSet1, sAsg, sAsg1, gN, gT, gPut, put_nil, put_cons, sAug, sAug1, sAug2, xFr, xFr1, xfLst, sOwn, sOwn1, sApp, sApp1, sApp2, sThaw, sThaw1, sThaw2, sThaw3, xPeek, xPeek1, xPeekd, xPeek2, xPeekT, xPeekT1, xPeekTd, sSetIx, sSetIx1, sSetIx2, sSetIx3, sSetIx4, iSq, iSqL, iSqT, iEn, iEnL, iEnT, iR1, iR11, iR2, iR21, sFor, xComp, sPenN, sPenR, sOwnD, sDSet, sDSet1, sDSet2, sDSet3, sDSet5, dKi, dKs, sThawD, sThawD1, iIt, iIt1, gPn, gPt, gPs0, gPs1, gPs2, sTry, sTry1, sTryN, sTryR, sTryR2, sTryB, sTryC, sRaise, nOw0, nOw1, nOw2, fld0, fld1, xIsX1, xIsX2, xIsNotX, xIsNX, U.l0, U.l1, U.s0, U.s1, wS0, wS1, beq_self_eq_true, sSet2, sSet21, sPar, sPar1, sOwnM, sOwnM1, sExt, sExt1, sExt2, sWh1, sWh2, xIsNI, xIsNNo, xIsNotI, xIsNotNo, xIsNotL, xIsNotT, xIsNotS, xIsS, xIsL, xIsT, xNeS, sRetO, sRetO1, sRetF, xCallF, xCallF1, xCallFK, xCallFK1, List.getD_cons_zero, List.getD_cons_succ, Bool.not_true, Bool.not_false, Bool.not_not, xLt, xLe, xGt, xGe, xEqI, xEqS, xNeI, xLenS, xLenL, xLenT, xAddI, xAddS, xAddL, xAddT, xSubI, xMulI, xMulL, xMulT, xDivI, xModI, xPowI, xNegI, xIntI, xIntB, xAbsI, xMin2, xMax2, xListL, xListT, xTupleL, xTupleT, xCutL, xCutT, xIsN, xIsB, xIsNotB, xIx0T, xIx1T, xIx2T, xIx3T, xIx0L, xIx1L, Int.reduceSub, Int.reduceAdd, Int.reduceMul, Int.reduceToNat, Int.reducePow, Int.reduceNeg, sq_exact_endless, sq_exact_table, sq_exact_step, sq_exact_factor, sq_endless_exact, sq_endless_table, sq_endless_step, sq_endless_factor, sq_table_exact, sq_table_endless, sq_table_step, sq_table_factor, sq_step_exact, sq_step_endless, sq_step_table, sq_step_factor, sq_factor_exact, sq_factor_endless, sq_factor_table, sq_factor_step]; exact hQ
  | step s =>
    simp only [polW, List.map_cons, List.map_nil, iSt, iSt1, xSplit, xRmPre, xInSg, xFs, xFs0, xFs1, xFs2, xFs3, xFmt, xFmtI, xFmtS, xStrI, xStrS, xM1, xM11, xM12, xInK, xNotInK, xfSorted, xVar, xVar1, xC, xN, xOp, xOp1, xOp2, xUn, xUn1, xNil, xCons, xCons1, xCons2, xTup, xTup1, xLst, xLst1, xTru, xTru1, xOb, tru_non, tru_bl, tru_int, tru_lst, tru_tup, xTB, xTB1, xAndT, xAndT1, xAndT2, xOrT, xOrT1, xOrT2, xNotT, xNotT1, xAnd, xAnd1, xAnd2, xOr, xOr1, xOr2, xNot, xNot1, xIfE, xIfE1, xIfE2, xCh, xCh1, xCh2, xCh3, xCh3b, xCh4, xNoP, xPart, xPart1, xCut, xCut1, xCut2, xCut3, xB, xB1, xCall, xCall1, xCallK, xCallK1, perm_nil, perm_cons, xCat, xCat1, xCat2, xRev, xRevL, xRevT, sSkip, sSeq, sRet, sRetN, sIf, sIf1, sIf2, sDrop, sDrop1, sBrk, sCnt, sSet, sSet1, sAsg, sAsg1, gN, gT, gPut, put_nil, put_cons, sAug, sAug1, sAug2, xFr, xFr1, xfLst, sOwn, sOwn1, sApp, sApp1, sApp2, sThaw, sThaw1, sThaw2, sThaw3, xPeek, xPeek1, xPeekd, xPeek2, xPeekT, xPeekT1, xPeekTd, sSetIx, sSetIx1, sSetIx2, sSetIx3, sSetIx4, iSq, iSqL, iSqT, iEn, iEnL, iEnT, iR1, iR11, iR2, iR21, sFor, xComp, sPenN, sPenR, sOwnD, sDSet, sDSet1, sDSet2, sDSet3, sDSet5, dKi, dKs, sThawD, sThawD1, iIt, iIt1, gPn, gPt, gPs0, gPs1, gPs2, sTry, sTry1, sTryN, sTryR, sTryR2, sTryB, sTryC, sRaise, nOw0, nOw1, nOw2, fld0, fld1, xIsX1, xIsX2, xIsNotX, xIsNX, U.l0, U.l1, U.s0, U.s1, wS0, wS1, beq_self_eq_true, sSet2, sSet21, sPar, sPar1, sOwnM, sOwnM1, sExt, sExt1, sExt2, sWh1, sWh2, xIsNI, xIsNNo, xIsNotI, xIsNotNo, xIsNotL, xIsNotT, xIsNotS, xIsS, xIsL, xIsT, xNeS, sRetO, sRetO1, sRetF, xCallF, xCallF1, xCallFK, xCallFK1, List.getD_cons_zero, List.getD_cons_succ, Bool.not_true, Bool.not_false, Bool.not_not, xLt, xLe, xGt, xGe, xEqI, xEqS, xNeI, xLenS, xLenL, xLenT, xAddI, xAddS, xAddL, xAddT, xSubI, xMulI, xMulL, xMulT, xDivI, xModI, xPowI, xNegI, xIntI, xIntB, xAbsI, xMin2, xMax2, xListL, xListT, xTupleL, xTupleT, xCutL, xCutT, xIsN, xIsB, xIsNotB, xIx0T, xIx1T, xIx2T, xIx3T, xIx0L, xIx1L, Int.reduceSub, Int.reduceAdd, Int.reduceMul, Int.reduceToNat, Int.reducePow, Int.reduceNeg, sq_exact_endless, sq_exact_table, sq_exact_step, sq_exact_factor, sq_endless_exact, sq_endless_table, sq_endless_step, sq_endless_factor, sq_table_exact, sq_table_endless, sq_table_step, sq_table_factor, sq_step_exact, sq_step_endless, sq_step_table, sq_step_factor, sq_factor_exact, sq_factor_endless, sq_factor_table, sq_factor_step]
    refine ⟨[s], rfl, by simp, fun i hi => by rw [List.mem_singleton.mp hi]; exact step_nat ok, ?_⟩
    (try simp only [iSt, iSt1, xSplit, xRmPre, xInSg, xFs, xFs0, xFs1, xFs2, xFs3, xFmt, xFmtI, xFmtS, xStrI, xStrS, xM1, xM11, xM12, xInK, xNotInK, xfSorted, xVar, xVar1, xC, xN, xOp, xOp1, xOp2, xUn, xUn1, xNil, xCons, xCons1, xCons2, xTup, xTup1, xLst, xLst1, xTru, xTru1, xOb, tru_non, tru_bl, tru_int, tru_lst, tru_tup, xTB, xTB1, xAndT, xAndT1, xAndT2, xOrT, xOrT1, xOrT2, xNotT, xNotT1, xAnd, xAnd1, xAnd2, xOr, xOr1, xOr2, xNot, xNot1, xIfE, xIfE1, xIfE2, xCh, xCh1, xCh2, xCh3, xCh3b, xCh4, xNoP, xPart, xPart1, xCut, xCut1, xCut2, xCut3, xB, xB1, xCall, xCall1, xCallK, xCallK1, perm_nil, perm_cons, xCat, xCat1, xCat2, xRev, xRevL, xRevT, sSkip, sSeq, sRet, sRetN, sIf, sIf1, sIf2, sDrop, sDrop1, sBrk, sCnt, sSet, sSet1, sAsg, sAsg1, gN, gT, gPut, put_nil, put_cons, sAug, sAug1, sAug2, xFr, xFr1, xfLst, sOwn, sOwn1, sApp, sApp1, sApp2, sThaw, sThaw1, sThaw2, sThaw3, xPeek, xPeek1, xPeekd, xPeek2, xPeekT, xPeekT1, xPeekTd, sSetIx, sSetIx1, sSetIx2, sSetIx3, sSetIx4, iSq, iSqL, iSqT, iEn, iEnL, iEnT, iR1, iR11, iR2, iR21, sFor, xComp, sPenN, sPenR, sOwnD, sDSet, sDSet1, sDSet2, sDSet3, sDSet5, dKi, dKs, sThawD, sThawD1, iIt, iIt1, gPn, gPt, gPs0, gPs1, gPs2, sTry, sTry1, sTryN, sTryR, sTryR2, sTryB, sTryC, sRaise, nOw0, nOw1, nOw2, fld0, fld1, xIsX1, xIsX2, xIsNotX, xIsNX, U.l0, U.l1, U.s0, U.s1, wS0, wS1, beq_self_eq_true, sSet2, sSet21, sPar, sPar1, sOwnM, sOwnM1, sExt, sExt1, sExt2, sWh1, sWh2, xIsNI, xIsNNo, xIsNotI, xIsNotNo, xIsNotL, xIsNotT, xIsNotS, xIsS, xIsL, xIsT, xNeS, sRetO, sRetO1, sRetF, xCallF, xCallF1, xCallFK, xCallFK1, List.getD_cons_zero, List.getD_cons_succ, Bool.not_true, Bool.not_false, Bool.not_not, xLt, xLe, xGt, xGe, xEqI, xEqS, xNeI, xLenS, xLenL, xLenT, xAddI, xAddS, xAddL, xAddT, xSubI, xMulI, xMulL, xMulT, xDivI, xModI, xPowI, xNegI, xIntI, xIntB, xAbsI, xMin2, xMax2, xListL, xListT, xTupleL, xTupleT, xCutL, xCutT, xIsN, xIsB, xIsNotB, xIx0T, xIx1T, xIx2T, xIx3T, xIx0L, xIx1L, Int.reduceSub, Int.reduceAdd, Int.reduceMul, Int.reduceToNat, Int.reducePow, Int.reduceNeg])
    exact ⟨lim5 (by simp), hQ⟩
  | factor t b =>
    have h1 := small_nI ⟨ok.1, ok.2.1⟩
    have h2 := small_nI ⟨ok.2.2.1, ok.2.2.2.1⟩
    have l1 := nS_l40 h1
    have l2 := nS_l40 h2
    have hz : ((Str.ofString "/").length == 0) = false := by decide +kernel
    have es : Txt.split (nS t ++ (Str.ofString "/" ++ nS b)) (Str.ofString "/") = [nS t, nS b] := two_split sl_tl (by decide) (nS_free h1 (by decide)) (nS_free h2 (by decide))
    have hd : decide (((([D.str (Str.ofString "factor"), D.str (nS t ++ (Str.ofString "/" ++ nS b))] : List D).length : Nat) : Int) = 2) = true := rfl
    simp only [polW, List.map_cons, List.map_nil, iSt, iSt1, xSplit, xRmPre, xInSg, xFs, xFs0, xFs1, xFs2, xFs3, xFmt, xFmtI, xFmtS, xStrI, xStrS, xM1, xM11, xM12, xInK, xNotInK, xfSorted, xVar, xVar1, xC, xN, xOp, xOp1, xOp2, xUn, xUn1, xNil, xCons, xCons1, xCons2, xTup, xTup1, xLst, xLst1, xTru, xTru1, xOb, tru_non, tru_bl, tru_int, tru_lst, tru_tup, xTB, xTB1, xAndT, xAndT1, xAndT2, xOrT, xOrT1, xOrT2, xNotT, xNotT1, xAnd, xAnd1, xAnd2, xOr, xOr1, xOr2, xNot, xNot1, xIfE, xIfE1, xIfE2, xCh, xCh1, xCh2, xCh3, xCh3b, xCh4, xNoP, xPart, xPart1, xCut, xCut1, xCut2, xCut3, xB, xB1, xCall, xCall1, xCallK, xCallK1, perm_nil, perm_cons, xCat, xCat1, xCat2, xRev, xRevL, xRevT, sSkip, sSeq, sRet, sRetN, sIf, sIf1, sIf2, sDrop, sDrop1, sBrk, sCnt, sSet, sSet1, sAsg, sAsg1, gN, gT, gPut, put_nil, put_cons, sAug, sAug1, sAug2, xFr, xFr1, xfLst, sOwn, sOwn1, sApp, sApp1, sApp2, sThaw, sThaw1, sThaw2, sThaw3, xPeek, xPeek1, xPeekd, xPeek2, xPeekT, xPeekT1, xPeekTd, sSetIx, sSetIx1, sSetIx2, sSetIx3, sSetIx4, iSq, iSqL, iSqT, iEn, iEnL, iEnT, iR1, iR11, iR2, iR21, sFor, xComp, sPenN, sPenR, sOwnD, sDSet, sDSet1, sDSet2, sDSet3, sDSet5, dKi, dKs, sThawD, sThawD1, iIt, iIt1, gPn, gPt, gPs0, gPs1, gPs2, sTry, sTry1, sTryN, sTryR, sTryR2, sTryB, sTryC, sRaise, nOw0, nOw1, nOw2, fld0, fld1, xIsX1, xIsX2, xIsNotX, xIsNX, U.l0, U.l1, U.s0, U.s1, wS0, wS1, beq_self_eq_true, sSet2, sSet21, sPar, sPar1, sOwnM, sOwnM1, sExt, sExt1, sExt2, sWh1, sWh2, xIsNI, xIsNNo, xIsNotI, xIsNotNo, xIsNotL, xIsNotT, xIsNotS, xIsS, xIsL, xIsT, xNeS, sRetO, sRetO1, sRetF, xCallF, xCallF1, xCallFK, xCallFK1, List.getD_cons_zero, List.getD_cons_succ, Bool.not_true, Bool.not_false, Bool.not_not, xLt, xLe, xGt, xGe, xEqI, xEqS, xNeI, xLenS, xLenL, xLenT, xAddI, xAddS, xAddL, xAddT, xSubI, xMulI, xMulL, xMulT, xDivI, xModI, xPowI, xNegI, xIntI, xIntB, xAbsI, xMin2, xMax2, xListL, xListT, xTupleL, xTupleT, xCutL, xCutT, xIsN, xIsB, xIsNotB, xIx0T, xIx1T, xIx2T, xIx3T, xIx0L, xIx1L, Int.reduceSub, Int.reduceAdd, Int.reduceMul, Int.reduceToNat, Int.reducePow, Int.reduceNeg, sq_exact_endless, sq_exact_table, sq_exact_step, sq_exact_factor, sq_endless_exact, sq_endless_table, sq_endless_step, sq_endless_factor, sq_table_exact, sq_table_endless, sq_table_step, sq_table_factor, sq_step_exact, sq_step_endless, sq_step_table, sq_step_factor, sq_factor_exact, sq_factor_endless, sq_factor_table, sq_factor_step, hd, xSplit, es]
    refine ⟨⟨hz, lim5 ?_⟩, [t, b], rfl, by simp, fun i hi => ?_, ?_⟩
    · rw [strLen_append, strLen_append, PySem.ofString_length]
      have : "/".length = 1 := rfl
      omega
    · rcases mem2 hi with rfl | rfl
      · exact h1
      · exact h2
    · (try simp only [iSt, iSt1, xSplit, xRmPre, xInSg, xFs, xFs0, xFs1, xFs2, xFs3, xFmt, xFmtI, xFmtS, xStrI, xStrS, xM1, xM11, xM12, xInK, xNotInK, xfSorted, xVar, xVar1, xC, xN, xOp, xOp1, xOp2, xUn, xUn1, xNil, xCons, xCons1, xCons2, xTup, xTup1, xLst, xLst1, xTru, xTru1, xOb, tru_non, tru_bl, tru_int, tru_lst, tru_tup, xTB, xTB1, xAndT, xAndT1, xAndT2, xOrT, xOrT1, xOrT2, xNotT, xNotT1, xAnd, xAnd1, xAnd2, xOr, xOr1, xOr2, xNot, xNot1, xIfE, xIfE1, xIfE2, xCh, xCh1, xCh2, xCh3, xCh3b, xCh4, xNoP, xPart, xPart1, xCut, xCut1, xCut2, xCut3, xB, xB1, xCall, xCall1, xCallK, xCallK1, perm_nil, perm_cons, xCat, xCat1, xCat2, xRev, xRevL, xRevT, sSkip, sSeq, sRet, sRetN, sIf, sIf1, sIf2, sDrop, sDrop1, sBrk, sCnt, sSet, sSet1, sAsg, sAsg1, gN, gT, gPut, put_nil, put_cons, sAug, sAug1, sAug2, xFr, xFr1, xfLst, sOwn, sOwn1, sApp, sApp1, sApp2, sThaw, sThaw1, sThaw2, sThaw3, xPeek, xPeek1, xPeekd, xPeek2, xPeekT, xPeekT1, xPeekTd, sSetIx, sSetIx1, sSetIx2, sSetIx3, sSetIx4, iSq, iSqL, iSqT, iEn, iEnL, iEnT, iR1, iR11, iR2, iR21, sFor, xComp, sPenN, sPenR, sOwnD, sDSet, sDSet1, sDSet2, sDSet3, sDSet5, dKi, dKs, sThawD, sThawD1, iIt, iIt1, gPn, gPt, gPs0, gPs1, gPs2, sTry, sTry1, sTryN, sTryR, sTryR2, sTryB, sTryC, sRaise, nOw0, nOw1, nOw2, fld0, fld1, xIsX1, xIsX2, xIsNotX, xIsNX, U.l0, U.l1, U.s0, U.s1, wS0, wS1, beq_self_eq_true, sSet2, sSet21, sPar, sPar1, sOwnM, sOwnM1, sExt, sExt1, sExt2, sWh1, sWh2, xIsNI, xIsNNo, xIsNotI, xIsNotNo, xIsNotL, xIsNotT, xIsNotS, xIsS, xIsL, xIsT, xNeS, sRetO, sRetO1, sRetF, xCallF, xCallF1, xCallFK, xCallFK1, List.getD_cons_zero, List.getD_cons_succ, Bool.not_true, Bool.not_false, Bool.not_not, xLt, xLe, xGt, xGe, xEqI, xEqS, xNeI, xLenS, xLenL, xLenT, xAddI, xAddS, xAddL, xAddT, xSubI, xMulI, xMulL, xMulT, xDivI, xModI, xPowI, xNegI, xIntI, xIntB, xAbsI, xMin2, xMax2, xListL, xListT, xTupleL, xTupleT, xCutL, xCutT, xIsN, xIsB, xIsNotB, xIx0T, xIx1T, xIx2T, xIx3T, xIx0L, xIx1L, Int.reduceSub, Int.reduceAdd, Int.reduceMul, Int.reduceToNat, Int.reducePow, Int.reduceNeg])
      exact ⟨lim5 (by simp), hQ⟩
  | table es =>
    simp only [polW, List.map_cons, List.map_nil, iSt, iSt1, xSplit, xRmPre, xInSg, xFs, xFs0, xFs1, xFs2, xFs3, xFmt, xFmtI, xFmtS, xStrI, xStrS, xM1, xM11, xM12, xInK, xNotInK, xfSorted, xVar, xVar1, xC, xN, xOp, xOp1, xOp2, xUn, xUn1, xNil, xCons, xCons1, xCons2, xTup, xTup1, xLst, xLst1, xTru, xTru1, xOb, tru_non, tru_bl, tru_int, tru_lst, tru_tup, xTB, xTB1, xAndT, xAndT1, xAndT2, xOrT, xOrT1, xOrT2, xNotT, xNotT1, xAnd, xAnd1, xAnd2, xOr, xOr1, xOr2, xNot, xNot1, xIfE, xIfE1, xIfE2, xCh, xCh1, xCh2, xCh3, xCh3b, xCh4, xNoP, xPart, xPart1, xCut, xCut1, xCut2, xCut3, xB, xB1, xCall, xCall1, xCallK, xCallK1, perm_nil, perm_cons, xCat, xCat1, xCat2, xRev, xRevL, xRevT, sSkip, sSeq, sRet, sRetN, sIf, sIf1, sIf2, sDrop, sDrop1, sBrk, sCnt, sSet, sSet1, sAsg, sAsg1, gN, gT, gPut, put_nil, put_cons, sAug, sAug1, sAug2, xFr, xFr1, xfLst, sOwn, sOwn1, sApp, sApp1, sApp2, sThaw, sThaw1, sThaw2, sThaw3, xPeek, xPeek1, xPeekd, xPeek2, xPeekT, xPeekT1, xPeekTd, sSetIx, sSetIx1, sSetIx2, sSetIx3, sSetIx4, iSq, iSqL, iSqT, iEn, iEnL, iEnT, iR1, iR11, iR2, iR21, sFor, xComp, sPenN, sPenR, sOwnD, sDSet, sDSet1, sDSet2, sDSet3, sDSet5, dKi, dKs, sThawD, sThawD1, iIt, iIt1, gPn, gPt, gPs0, gPs1, gPs2, sTry, sTry1, sTryN, sTryR, sTryR2, sTryB, sTryC, sRaise, nOw0, nOw1, nOw2, fld0, fld1, xIsX1, xIsX2, xIsNotX, xIsNX, U.l0, U.l1, U.s0, U.s1, wS0, wS1, beq_self_eq_true, sSet2, sSet21, sPar, sPar1, sOwnM, sOwnM1, sExt, sExt1, sExt2, sWh1, sWh2, xIsNI, xIsNNo, xIsNotI, xIsNotNo, xIsNotL, xIsNotT, xIsNotS, xIsS, xIsL, xIsT, xNeS, sRetO, sRetO1, sRetF, xCallF, xCallF1, xCallFK, xCallFK1, List.getD_cons_zero, List.getD_cons_succ, Bool.not_true, Bool.not_false, Bool.not_not, xLt, xLe, xGt, xGe, xEqI, xEqS, xNeI, xLenS, xLenL, xLenT, xAddI, xAddS, xAddL, xAddT, xSubI, xMulI, xMulL, xMulT, xDivI, xModI, xPowI, xNegI, xIntI, xIntB, xAbsI, xMin2, xMax2, xListL, xListT, xTupleL, xTupleT, xCutL, xCutT, xIsN, xIsB, xIsNotB, xIx0T, xIx1T, xIx2T, xIx3T, xIx0L, xIx1L, Int.reduceSub, Int.reduceAdd, Int.reduceMul, Int.reduceToNat, Int.reducePow, Int.reduceNeg, sq_exact_endless, sq_exact_table, sq_exact_step, sq_exact_factor, sq_endless_exact, sq_endless_table, sq_endless_step, sq_endless_factor, sq_table_exact, sq_table_endless, sq_table_step, sq_table_factor, sq_step_exact, sq_step_endless, sq_step_table, sq_step_factor, sq_factor_exact, sq_factor_endless, sq_factor_table, sq_factor_step]
    refine ⟨es, ?_, by have := ok.1; omega, ent_nat ok.2, ?_⟩
    · rw [cut_from (by decide), List.map_map]; rfl
    · (try simp only [iSt, iSt1, xSplit, xRmPre, xInSg, xFs, xFs0, xFs1, xFs2, xFs3, xFmt, xFmtI, xFmtS, xStrI, xStrS, xM1, xM11, xM12, xInK, xNotInK, xfSorted, xVar, xVar1, xC, xN, xOp, xOp1, xOp2, xUn, xUn1, xNil, xCons, xCons1, xCons2, xTup, xTup1, xLst, xLst1, xTru, xTru1, xOb, tru_non, tru_bl, tru_int, tru_lst, tru_tup, xTB, xTB1, xAndT, xAndT1, xAndT2, xOrT, xOrT1, xOrT2, xNotT, xNotT1, xAnd, xAnd1, xAnd2, xOr, xOr1, xOr2, xNot, xNot1, xIfE, xIfE1, xIfE2, xCh, xCh1, xCh2, xCh3, xCh3b, xCh4, xNoP, xPart, xPart1, xCut, xCut1, xCut2, xCut3, xB, xB1, xCall, xCall1, xCallK, xCallK1, perm_nil, perm_cons, xCat, xCat1, xCat2, xRev, xRevL, xRevT, sSkip, sSeq, sRet, sRetN, sIf, sIf1, sIf2, sDrop, sDrop1, sBrk, sCnt, sSet, sSet1, sAsg, sAsg1, gN, gT, gPut, put_nil, put_cons, sAug, sAug1, sAug2, xFr, xFr1, xfLst, sOwn, sOwn1, sApp, sApp1, sApp2, sThaw, sThaw1, sThaw2, sThaw3, xPeek, xPeek1, xPeekd, xPeek2, xPeekT, xPeekT1, xPeekTd, sSetIx, sSetIx1, sSetIx2, sSetIx3, sSetIx4, iSq, iSqL, iSqT, iEn, iEnL, iEnT, iR1, iR11, iR2, iR21, sFor, xComp, sPenN, sPenR, sOwnD, sDSet, sDSet1, sDSet2, sDSet3, sDSet5, dKi, dKs, sThawD, sThawD1, iIt, iIt1, gPn, gPt, gPs0, gPs1, gPs2, sTry, sTry1, sTryN, sTryR, sTryR2, sTryB, sTryC, sRaise, nOw0, nOw1, nOw2, fld0, fld1, xIsX1, xIsX2, xIsNotX, xIsNX, U.l0, U.l1, U.s0, U.s1, wS0, wS1, beq_self_eq_true, sSet2, sSet21, sPar, sPar1, sOwnM, sOwnM1, sExt, sExt1, sExt2, sWh1, sWh2, xIsNI, xIsNNo, xIsNotI, xIsNotNo, xIsNotL, xIsNotT, xIsNotS, xIsS, xIsL, xIsT, xNeS, sRetO, sRetO1, sRetF, xCallF, xCallF1, xCallFK, xCallFK1, List.getD_cons_zero, List.getD_cons_succ, Bool.not_true, Bool.not_false, Bool.not_not, xLt, xLe, xGt, xGe, xEqI, xEqS, xNeI, xLenS, xLenL, xLenT, xAddI, xAddS, xAddL, xAddT, xSubI, xMulI, xMulL, xMulT, xDivI, xModI, xPowI, xNegI, xIntI, xIntB, xAbsI, xMin2, xMax2, xListL, xListT, xTupleL, xTupleT, xCutL, xCutT, xIsN, xIsB, xIsNotB, xIx0T, xIx1T, xIx2T, xIx3T, xIx0L, xIx1L, Int.reduceSub, Int.reduceAdd, Int.reduceMul, Int.reduceToNat, Int.reducePow, Int.reduceNeg])
      exact hQ
theorem entM (es : List (Int × Int)) : (es.map enD).map entD2 = (es.map entT).map D.str := by rw [List.map_map, List.map_map]; rfl
theorem step_lit : (Str.ofString "step " : Str) = Str.ofString "step" ++ Str.ofString " " := by decide +kernel
theorem factor_lit : (Str.ofString "factor " : Str) = Str.ofString "factor" ++ Str.ofString " " := by decide +kernel
theorem polT_step (s : Int) : polT (.step s) = Str.ofString "step " ++ nS s := by rw [step_lit]; rfl
theorem polT_factor (t b : Int) : polT (.factor t b) = Str.ofString "factor " ++ (nS t ++ (Str.ofString "/" ++ nS b)) := by rw [factor_lit]; rfl
theorem pol_sz {P : Py} (ok : P.ok) : joinSz " " (polW P) := by
  have l := pol_len ok
  exact join_sz (j := 1) (k := 130) (by decide) (fun y hy => (word_tx ok y hy).2) (by omega)
theorem pure_policy_text {pen : PenT} {PX : UX → Nat → Prop} : ∀ ds n (Q : D → Nat → Prop), sp_policy_text ds pen n Q PX → u_policy_text (Wd pen PX) { nx := fun ρ => Q .non ρ.fuel, rt := Q } ⟨startU N_policy_text ds, pen, n⟩ := by
  refine run_policy_text ?_
  rintro x n Q ⟨P, e, ok, hQ⟩
  obtain rfl := list1 e
  unfold u_policy_text
  cases P with
  | exact => simp only [Py.d, iSt, iSt1, xSplit, xRmPre, xInSg, xFs, xFs0, xFs1, xFs2, xFs3, xFmt, xFmtI, xFmtS, xStrI, xStrS, xM1, xM11, xM12, xInK, xNotInK, xfSorted, xVar, xVar1, xC, xN, xOp, xOp1, xOp2, xUn, xUn1, xNil, xCons, xCons1, xCons2, xTup, xTup1, xLst, xLst1, xTru, xTru1, xOb, tru_non, tru_bl, tru_int, tru_lst, tru_tup, xTB, xTB1, xAndT, xAndT1, xAndT2, xOrT, xOrT1, xOrT2, xNotT, xNotT1, xAnd, xAnd1, xAnd2, xOr, xOr1, xOr2, xNot, xNot1, xIfE, xIfE1, xIfE2, xCh, xCh1, xCh2, xCh3, xCh3b, xCh4, xNoP, xPart, xPart1, xCut, xCut1, xCut2, xCut3, xB, xB1, xCall, xCall1, xCallK, xCallK1, perm_nil, perm_cons, xCat, xCat1, xCat2, xRev, xRevL, xRevT, sSkip, sSeq, sRet, sRetN, sIf, sIf1, sIf2, sDrop, sDrop1, sBrk, sCnt, sSet, sSet1, sAsg, sAsg1, gN, gT, gPut, put_nil, put_cons, sAug, sAug1, sAug2, xFr, xFr1, xfLst, sOwn, sOwn1, sApp, sApp1, sApp2, sThaw, sThaw1, sThaw2, sThaw3, xPeek, xPeek1, xPeekd, xPeek2, xPeekT, xPeekT1, xPeekTd, sSetIx, sSetIx1, sSetIx2, sSetIx3, sSetIx4, iSq, iSqL, iSqT, iEn, iEnL, iEnT, iR1, iR11, iR2, iR21, sFor, xComp, sPenN, sPenR, sOwnD, sDSet, sDSet1, sDSet2, sDSet3, sDSet5, dKi, dKs, sThawD, sThawD1, iIt, iIt1, gPn, gPt, gPs0, gPs1, gPs2, sTry, sTry1, sTryN, sTryR, sTryR2, sTryB, sTryC, sRaise, nOw0, nOw1, nOw2, fld0, fld1, xIsX1, xIsX2, xIsNotX, xIsNX, U.l0, U.l1, U.s0, U.s1, wS0, wS1, beq_self_eq_true, sSet2, sSet21, sPar, sPar1, sOwnM, sOwnM1, sExt, sExt1, sExt2, sWh1, sWh2, xIsNI, xIsNNo, xIsNotI, xIsNotNo, xIsNotL, xIsNotT, xIsNotS, xIsS, xIsL, xIsT, xNeS, sRetO, sRetO1, sRetF, xCallF, xCallF1, xCallFK, xCallFK1, List.getD_cons_zero, List.getD_cons_succ, Bool.not_true, Bool.not_false, Bool.not_not, xLt, xLe, xGt, xGe, xEqI, xEqS, xNeI, xLenS, xLenL, xLenT, xAddI, xAddS, xAddL, xAddT, xSubI, xMulI, xMulL, xMulT, xDivI, xModI, xPowI, xNegI, xIntI, xIntB, xAbsI, xMin2, xMax2, xListL, xListT, xTupleL, xTupleT, xCutL, xCutT, xIsN, xIsB, xIsNotB, xIx0T, xIx1T, xIx2T, xIx3T, xIx0L, xIx1L, Int.reduceSub, Int.reduceAdd, Int.reduceMul, Int.reduceToNat, Int.reducePow, Int.reduceNeg, sq_exact_endless, sq_exact_table, sq_exact_step, sq_exact_factor, sq_endless_exact, sq_endless_table, sq_endless_step, sq_endless_factor, sq_table_exact, sq_table_endless, sq_table_step, sq_table_factor, sq_step_exact, sq_step_endless, sq_step_table, sq_step_factor, sq_factor_exact, sq_factor_endless, sq_factor_table, sq_factor_step]; exact hQ
  | endless => simp only [Py.d, iSt, iSt1, xSplit, xRmPre, xInSg, xFs, xFs0, xFs1, xFs2, xFs3, xFmt, xFmtI, xFmtS, xStrI, xStrS, xM1, xM11, xM12, xInK, xNotInK, xfSorted, xVar, xVar1, xC, xN, xOp, xOp1, xOp2, xUn, xUn1, xNil, xCons, xCons1, xCons2, xTup, xTup1, xLst, xLst1, xTru, xTru1, xOb, tru_non, tru_bl, tru_int, tru_lst, tru_tup, xTB, xTB1, xAndT, xAndT1, xAndT2, xOrT, xOrT1, xOrT2, xNotT, xNotT1, xAnd, xAnd1, xAnd2, xOr, xOr1, xOr2, xNot, xNot1, xIfE, xIfE1, xIfE2, xCh, xCh1, xCh2, xCh3, xCh3b, xCh4, xNoP, xPart, xPart1, xCut, xCut1, xCut2, xCut3, xB, xB1, xCall, xCall1, xCallK, xCallK1, perm_nil, perm_cons, xCat, xCat1, xCat2, xRev, xRevL, xRevT, sSkip, sSeq, sRet, sRetN, sIf, sIf1, sIf2, sDrop, sDrop1, sBrk, sCnt, sSet, sSet1, sAsg, sAsg1, gN, gT, gPut, put_nil, put_cons, sAug, sAug1, sAug2, xFr, xFr1, xfLst, sOwn, sOwn1, sApp, sApp1, sApp2, sThaw, sThaw1, sThaw2, sThaw3, xPeek, xPeek1, xPeekd, xPeek2, xPeekT, xPeekT1, xPeekTd, sSetIx, sSetIx1, sSetIx2, sSetIx3, sSetIx4, iSq, iSqL, iSqT, iEn, iEnL, iEnT, iR1, iR11, iR2, iR21, sFor, xComp, sPenN, sPenR, sOwnD, sDSet, sDSet1, sDSet2, sDSet3, sDSet5, dKi, dKs, sThawD, sThawD1, iIt, iIt1, gPn, gPt, gPs0, gPs1, gPs2, sTry, sTry1, sTryN, sTryR, sTryR2, sTryB, sTryC, sRaise, nOw0, nOw1, nOw2, fld0, fld1, xIsX1, xIsX2, xIsNotX, xIsNX, U.l0, U.l1, U.s0, U.s1, wS0, wS1, beq_self_eq_true, sSet2, sSet21, sPar, sPar1, sOwnM, sOwnM1, sExt, sExt1, sExt2, sWh1, sWh2, xIsNI, xIsNNo, xIsNotI, xIsNotNo, xIsNotL, xIsNotT, xIsNotS, xIsS, xIsL, xIsT, xNeS, sRetO, sRetO1, sRetF, xCallF, xCallF1, xCallFK, xCallFK1, List.getD_cons_zero, List.getD_cons_succ, Bool.not_true, Bool.not_false, Bool.not_not, xLt, xLe, xGt, xGe, xEqI, xEqS, xNeI, xLenS, xLenL, xLenT, xAddI, xAddS, xAddL, xAddT, xSubI, xMulI, xMulL, xMulT, xDivI, xModI, xPowI, xNegI, xIntI, xIntB, xAbsI, xMin2, xMax2, xListL, xListT, xTupleL, xTupleT, xCutL, xCutT, xIsN, xIsB, xIsNotB, xIx0T, xIx1T, xIx2T, xIx3T, xIx0L, xIx1L, Int.reduceSub, Int.reduceAdd, Int.reduceMul, Int.reduceToNat, Int.reducePow, Int.reduceNeg, sq_exact_endless, sq_exact_table, sq_exact_step, sq_exact_factor, sq_endless_exact, sq_endless_table, sq_endless_step, sq_endless_factor, sq_table_exact, sq_table_endless, sq_table_step, sq_table_factor, sq_step_exact, sq_step_endless, sq_step_table, sq_step_factor, sq_factor_exact, sq_factor_endless, sq_factor_table, sq_factor_step]; exact hQ
  | step s =>
    have h1 := step_nat ok
    have l1 := nS_l40 h1
    have g1 := small_log (nat_small h1)
    have z : (Str.ofString "step ").length = 5 := by rw [PySem.ofString_length]; rfl
    have z0 : Str.empty.length = 0 := rfl
    rw [polT_step] at hQ
    simp only [Py.d, iSt, iSt1, xSplit, xRmPre, xInSg, xFs, xFs0, xFs1, xFs2, xFs3, xFmt, xFmtI, xFmtS, xStrI, xStrS, xM1, xM11, xM12, xInK, xNotInK, xfSorted, xVar, xVar1, xC, xN, xOp, xOp1, xOp2, xUn, xUn1, xNil, xCons, xCons1, xCons2, xTup, xTup1, xLst, xLst1, xTru, xTru1, xOb, tru_non, tru_bl, tru_int, tru_lst, tru_tup, xTB, xTB1, xAndT, xAndT1, xAndT2, xOrT, xOrT1, xOrT2, xNotT, xNotT1, xAnd, xAnd1, xAnd2, xOr, xOr1, xOr2, xNot, xNot1, xIfE, xIfE1, xIfE2, xCh, xCh1, xCh2, xCh3, xCh3b, xCh4, xNoP, xPart, xPart1, xCut, xCut1, xCut2, xCut3, xB, xB1, xCall, xCall1, xCallK, xCallK1, perm_nil, perm_cons, xCat, xCat1, xCat2, xRev, xRevL, xRevT, sSkip, sSeq, sRet, sRetN, sIf, sIf1, sIf2, sDrop, sDrop1, sBrk, sCnt, sSet, sSet1, sAsg, sAsg1, gN, gT, gPut, put_nil, put_cons, sAug, sAug1, sAug2, xFr, xFr1, xfLst, sOwn, sOwn1, sApp, sApp1, sApp2, sThaw, sThaw1, sThaw2, sThaw3, xPeek, xPeek1, xPeekd, xPeek2, xPeekT, xPeekT1, xPeekTd, sSetIx, sSetIx1, sSetIx2, sSetIx3, sSetIx4, iSq, iSqL, iSqT, iEn, iEnL, iEnT, iR1, iR11, iR2, iR21, sFor, xComp, sPenN, sPenR, sOwnD, sDSet, sDSet1, sDSet2, sDSet3, sDSet5, dKi, dKs, sThawD, sThawD1, iIt, iIt1, gPn, gPt, gPs0, gPs1, gPs2, sTry, sTry1, sTryN, sTryR, sTryR2, sTryB, sTryC, sRaise, nOw0, nOw1, nOw2, fld0, fld1, xIsX1, xIsX2, xIsNotX, xIsNX, U.l0, U.l1, U.s0, U.s1, wS0, wS1, beq_self_eq_true, sSet2, sSet21, sPar, sPar1, sOwnM, sOwnM1, sExt, sExt1, sExt2, sWh1, sWh2, xIsNI, xIsNNo, xIsNotI, xIsNotNo, xIsNotL, xIsNotT, xIsNotS, xIsS, xIsL, xIsT, xNeS, sRetO, sRetO1, sRetF, xCallF, xCallF1, xCallFK, xCallFK1, List.getD_cons_zero, List.getD_cons_succ, Bool.not_true, Bool.not_false, Bool.not_not, xLt, xLe, xGt, xGe, xEqI, xEqS, xNeI, xLenS, xLenL, xLenT, xAddI, xAddS, xAddL, xAddT, xSubI, xMulI, xMulL, xMulT, xDivI, xModI, xPowI, xNegI, xIntI, xIntB, xAbsI, xMin2, xMax2, xListL, xListT, xTupleL, xTupleT, xCutL, xCutT, xIsN, xIsB, xIsNotB, xIx0T, xIx1T, xIx2T, xIx3T, xIx0L, xIx1L, Int.reduceSub, Int.reduceAdd, Int.reduceMul, Int.reduceToNat, Int.reducePow, Int.reduceNeg, sq_exact_endless, sq_exact_table, sq_exact_step, sq_exact_factor, sq_endless_exact, sq_endless_table, sq_endless_step, sq_endless_factor, sq_table_exact, sq_table_endless, sq_table_step, sq_table_factor, sq_step_exact, sq_step_endless, sq_step_table, sq_step_factor, sq_factor_exact, sq_factor_endless, sq_factor_table, sq_factor_step, nS_foldP, empty_app, strLen_append, z, z0]
    exact ⟨lim5 (by omega), g1, lim5 (by omega), hQ⟩
  | factor t b =>
    have h1 := small_nI ⟨ok.1, ok.2.1⟩
    have h2 := small_nI ⟨ok.2.2.1, ok.2.2.2.1⟩
    have l1 := nS_l40 h1
    have l2 := nS_l40 h2
    have g1 := small_log (nat_small h1)
    have g2 := small_log (nat_small h2)
    have z : (Str.ofString "factor ").length = 7 := by rw [PySem.ofString_length]; rfl
    have z1 : (Str.ofString "/").length = 1 := by rw [PySem.ofString_length]; rfl
    have z0 : Str.empty.length = 0 := rfl
    rw [polT_factor] at hQ
    simp only [Py.d, iSt, iSt1, xSplit, xRmPre, xInSg, xFs, xFs0, xFs1, xFs2, xFs3, xFmt, xFmtI, xFmtS, xStrI, xStrS, xM1, xM11, xM12, xInK, xNotInK, xfSorted, xVar, xVar1, xC, xN, xOp, xOp1, xOp2, xUn, xUn1, xNil, xCons, xCons1, xCons2, xTup, xTup1, xLst, xLst1, xTru, xTru1, xOb, tru_non, tru_bl, tru_int, tru_lst, tru_tup, xTB, xTB1, xAndT, xAndT1, xAndT2, xOrT, xOrT1, xOrT2, xNotT, xNotT1, xAnd, xAnd1, xAnd2, xOr, xOr1, xOr2, xNot, xNot1, xIfE, xIfE1, xIfE2, xCh, xCh1, xCh2, xCh3, xCh3b, xCh4, xNoP, xPart, xPart1, xCut, xCut1, xCut2, xCut3, xB, xB1, xCall, xCall1, xCallK, xCallK1, perm_nil, perm_cons, xCat, xCat1, xCat2, xRev, xRevL, xRevT, sSkip, sSeq, sRet, sRetN, sIf, sIf1, sIf2, sDrop, sDrop1, sBrk, sCnt, sSet, sSet1, sAsg, sAsg1, gN, gT, gPut, put_nil, put_cons, sAug, sAug1, sAug2, xFr, xFr1, xfLst, sOwn, sOwn1, sApp, sApp1, sApp2, sThaw, sThaw1, sThaw2, sThaw3, xPeek, xPeek1, xPeekd, xPeek2, xPeekT, xPeekT1, xPeekTd, sSetIx, sSetIx1, sSetIx2, sSetIx3, sSetIx4, iSq, iSqL, iSqT, iEn, iEnL, iEnT, iR1, iR11, iR2, iR21, sFor, xComp, sPenN, sPenR, sOwnD, sDSet, sDSet1, sDSet2, sDSet3, sDSet5, dKi, dKs, sThawD, sThawD1, iIt, iIt1, gPn, gPt, gPs0, gPs1, gPs2, sTry, sTry1, sTryN, sTryR, sTryR2, sTryB, sTryC, sRaise, nOw0, nOw1, nOw2, fld0, fld1, xIsX1, xIsX2, xIsNotX, xIsNX, U.l0, U.l1, U.s0, U.s1, wS0, wS1, beq_self_eq_true, sSet2, sSet21, sPar, sPar1, sOwnM, sOwnM1, sExt, sExt1, sExt2, sWh1, sWh2, xIsNI, xIsNNo, xIsNotI, xIsNotNo, xIsNotL, xIsNotT, xIsNotS, xIsS, xIsL, xIsT, xNeS, sRetO, sRetO1, sRetF, xCallF, xCallF1, xCallFK, xCallFK1, List.getD_cons_zero, List.getD_cons_succ, Bool.not_true, Bool.not_false, Bool.not_not, xLt, xLe, xGt, xGe, xEqI, xEqS, xNeI, xLenS, xLenL, xLenT, xAddI, xAddS, xAddL, xAddT, xSubI, xMulI, xMulL, xMulT, xDivI, xModI, xPowI, xNegI, xIntI, xIntB, xAbsI, xMin2, xMax2, xListL, xListT, xTupleL, xTupleT, xCutL, xCutT, xIsN, xIsB, xIsNotB, xIx0T, xIx1T, xIx2T, xIx3T, xIx0L, xIx1L, Int.reduceSub, Int.reduceAdd, Int.reduceMul, Int.reduceToNat, Int.reducePow, Int.reduceNeg, sq_exact_endless, sq_exact_table, sq_exact_step, sq_exact_factor, sq_endless_exact, sq_endless_table, sq_endless_step, sq_endless_factor, sq_table_exact, sq_table_endless, sq_table_step, sq_table_factor, sq_step_exact, sq_step_endless, sq_step_table, sq_step_factor, sq_factor_exact, sq_factor_endless, sq_factor_table, sq_factor_step, nS_foldP, empty_app, sapp_assoc, strLen_append, z, z0, z1]
    exact ⟨lim5 (by omega), g1, lim5 (by omega), lim5 (by omega), g2, lim5 (by omega), hQ⟩
  | table es =>
    simp only [Py.d, iSt, iSt1, xSplit, xRmPre, xInSg, xFs, xFs0, xFs1, xFs2, xFs3, xFmt, xFmtI, xFmtS, xStrI, xStrS, xM1, xM11, xM12, xInK, xNotInK, xfSorted, xVar, xVar1, xC, xN, xOp, xOp1, xOp2, xUn, xUn1, xNil, xCons, xCons1, xCons2, xTup, xTup1, xLst, xLst1, xTru, xTru1, xOb, tru_non, tru_bl, tru_int, tru_lst, tru_tup, xTB, xTB1, xAndT, xAndT1, xAndT2, xOrT, xOrT1, xOrT2, xNotT, xNotT1, xAnd, xAnd1, xAnd2, xOr, xOr1, xOr2, xNot, xNot1, xIfE, xIfE1, xIfE2, xCh, xCh1, xCh2, xCh3, xCh3b, xCh4, xNoP, xPart, xPart1, xCut, xCut1, xCut2, xCut3, xB, xB1, xCall, xCall1, xCallK, xCallK1, perm_nil, perm_cons, xCat, xCat1, xCat2, xRev, xRevL, xRevT, sSkip, sSeq, sRet, sRetN, sIf, sIf1, sIf2, sDrop, sDrop1, sBrk, sCnt, sSet, sSet1, sAsg, sAsg1, gN, gT, gPut, put_nil, put_cons, sAug, sAug1, sAug2, xFr, xFr1, xfLst, sOwn, sOwn1, sApp, sApp1, sApp2, sThaw, sThaw1, sThaw2, sThaw3, xPeek, xPeek1, xPeekd, xPeek2, xPeekT, xPeekT1, xPeekTd, sSetIx, sSetIx1, sSetIx2, sSetIx3, sSetIx4, iSq, iSqL, iSqT, iEn, iEnL, iEnT, iR1, iR11, iR2, iR21, sFor, xComp, sPenN, sPenR, sOwnD, sDSet, sDSet1, sDSet2, sDSet3, sDSet5, dKi, dKs, sThawD, sThawD1, iIt, iIt1, gPn, gPt, gPs0, gPs1, gPs2, sTry, sTry1, sTryN, sTryR, sTryR2, sTryB, sTryC, sRaise, nOw0, nOw1, nOw2, fld0, fld1, xIsX1, xIsX2, xIsNotX, xIsNX, U.l0, U.l1, U.s0, U.s1, wS0, wS1, beq_self_eq_true, sSet2, sSet21, sPar, sPar1, sOwnM, sOwnM1, sExt, sExt1, sExt2, sWh1, sWh2, xIsNI, xIsNNo, xIsNotI, xIsNotNo, xIsNotL, xIsNotT, xIsNotS, xIsS, xIsL, xIsT, xNeS, sRetO, sRetO1, sRetF, xCallF, xCallF1, xCallFK, xCallFK1, List.getD_cons_zero, List.getD_cons_succ, Bool.not_true, Bool.not_false, Bool.not_not, xLt, xLe, xGt, xGe, xEqI, xEqS, xNeI, xLenS, xLenL, xLenT, xAddI, xAddS, xAddL, xAddT, xSubI, xMulI, xMulL, xMulT, xDivI, xModI, xPowI, xNegI, xIntI, xIntB, xAbsI, xMin2, xMax2, xListL, xListT, xTupleL, xTupleT, xCutL, xCutT, xIsN, xIsB, xIsNotB, xIx0T, xIx1T, xIx2T, xIx3T, xIx0L, xIx1L, Int.reduceSub, Int.reduceAdd, Int.reduceMul, Int.reduceToNat, Int.reducePow, Int.reduceNeg, sq_exact_endless, sq_exact_table, sq_exact_step, sq_exact_factor, sq_endless_exact, sq_endless_table, sq_endless_step, sq_endless_factor, sq_table_exact, sq_table_endless, sq_table_step, sq_table_factor, sq_step_exact, sq_step_endless, sq_step_table, sq_step_factor, sq_factor_exact, sq_factor_endless, sq_factor_table, sq_factor_step]
    refine xMap entD2 (lim5 (by rw [List.length_map]; have := ok.1; omega)) (by rfl) (fun d hd m T hT => ?_) ?_
    · obtain ⟨e, he, rfl⟩ := List.mem_map.mp hd
      obtain ⟨h1, h2⟩ := ent_nat ok.2 e he
      have l1 := nS_l40 h1
      have l2 := nS_l40 h2
      have g1 := small_log (nat_small h1)
      have g2 := small_log (nat_small h2)
      have z1 : (Str.ofString ":").length = 1 := by rw [PySem.ofString_length]; rfl
      have z0 : Str.empty.length = 0 := rfl
      have hT : T (.str (nS e.1 ++ (Str.ofString ":" ++ nS e.2))) m := hT
      simp only [enD, iSt, iSt1, xSplit, xRmPre, xInSg, xFs, xFs0, xFs1, xFs2, xFs3, xFmt, xFmtI, xFmtS, xStrI, xStrS, xM1, xM11, xM12, xInK, xNotInK, xfSorted, xVar, xVar1, xC, xN, xOp, xOp1, xOp2, xUn, xUn1, xNil, xCons, xCons1, xCons2, xTup, xTup1, xLst, xLst1, xTru, xTru1, xOb, tru_non, tru_bl, tru_int, tru_lst, tru_tup, xTB, xTB1, xAndT, xAndT1, xAndT2, xOrT, xOrT1, xOrT2, xNotT, xNotT1, xAnd, xAnd1, xAnd2, xOr, xOr1, xOr2, xNot, xNot1, xIfE, xIfE1, xIfE2, xCh, xCh1, xCh2, xCh3, xCh3b, xCh4, xNoP, xPart, xPart1, xCut, xCut1, xCut2, xCut3, xB, xB1, xCall, xCall1, xCallK, xCallK1, perm_nil, perm_cons, xCat, xCat1, xCat2, xRev, xRevL, xRevT, sSkip, sSeq, sRet, sRetN, sIf, sIf1, sIf2, sDrop, sDrop1, sBrk, sCnt, sSet, sSet1, sAsg, sAsg1, gN, gT, gPut, put_nil, put_cons, sAug, sAug1, sAug2, xFr, xFr1, xfLst, sOwn, sOwn1, sApp, sApp1, sApp2, sThaw, sThaw1, sThaw2, sThaw3, xPeek, xPeek1, xPeekd, xPeek2, xPeekT, xPeekT1, xPeekTd, sSetIx, sSetIx1, sSetIx2, sSetIx3, sSetIx4, iSq, iSqL, iSqT, iEn, iEnL, iEnT, iR1, iR11, iR2, iR21, sFor, xComp, sPenN, sPenR, sOwnD, sDSet, sDSet1, sDSet2, sDSet3, sDSet5, dKi, dKs, sThawD, sThawD1, iIt, iIt1, gPn, gPt, gPs0, gPs1, gPs2, sTry, sTry1, sTryN, sTryR, sTryR2, sTryB, sTryC, sRaise, nOw0, nOw1, nOw2, fld0, fld1, xIsX1, xIsX2, xIsNotX, xIsNX, U.l0, U.l1, U.s0, U.s1, wS0, wS1, beq_self_eq_true, sSet2, sSet21, sPar, sPar1, sOwnM, sOwnM1, sExt, sExt1, sExt2, sWh1, sWh2, xIsNI, xIsNNo, xIsNotI, xIsNotNo, xIsNotL, xIsNotT, xIsNotS, xIsS, xIsL, xIsT, xNeS, sRetO, sRetO1, sRetF, xCallF, xCallF1, xCallFK, xCallFK1, List.getD_cons_zero, List.getD_cons_succ, Bool.not_true, Bool.not_false, Bool.not_not, xLt, xLe, xGt, xGe, xEqI, xEqS, xNeI, xLenS, xLenL, xLenT, xAddI, xAddS, xAddL, xAddT, xSubI, xMulI, xMulL, xMulT, xDivI, xModI, xPowI, xNegI, xIntI, xIntB, xAbsI, xMin2, xMax2, xListL, xListT, xTupleL, xTupleT, xCutL, xCutT, xIsN, xIsB, xIsNotB, xIx0T, xIx1T, xIx2T, xIx3T, xIx0L, xIx1L, Int.reduceSub, Int.reduceAdd, Int.reduceMul, Int.reduceToNat, Int.reducePow, Int.reduceNeg, nS_foldP, empty_app, sapp_assoc, strLen_append, z0, z1]
      exact ⟨g1, lim5 (by omega), lim5 (by omega), g2, lim5 (by omega), hT⟩
    · rw [entM]
      (try simp only [iSt, iSt1, xSplit, xRmPre, xInSg, xFs, xFs0, xFs1, xFs2, xFs3, xFmt, xFmtI, xFmtS, xStrI, xStrS, xM1, xM11, xM12, xInK, xNotInK, xfSorted, xVar, xVar1, xC, xN, xOp, xOp1, xOp2, xUn, xUn1, xNil, xCons, xCons1, xCons2, xTup, xTup1, xLst, xLst1, xTru, xTru1, xOb, tru_non, tru_bl, tru_int, tru_lst, tru_tup, xTB, xTB1, xAndT, xAndT1, xAndT2, xOrT, xOrT1, xOrT2, xNotT, xNotT1, xAnd, xAnd1, xAnd2, xOr, xOr1, xOr2, xNot, xNot1, xIfE, xIfE1, xIfE2, xCh, xCh1, xCh2, xCh3, xCh3b, xCh4, xNoP, xPart, xPart1, xCut, xCut1, xCut2, xCut3, xB, xB1, xCall, xCall1, xCallK, xCallK1, perm_nil, perm_cons, xCat, xCat1, xCat2, xRev, xRevL, xRevT, sSkip, sSeq, sRet, sRetN, sIf, sIf1, sIf2, sDrop, sDrop1, sBrk, sCnt, sSet, sSet1, sAsg, sAsg1, gN, gT, gPut, put_nil, put_cons, sAug, sAug1, sAug2, xFr, xFr1, xfLst, sOwn, sOwn1, sApp, sApp1, sApp2, sThaw, sThaw1, sThaw2, sThaw3, xPeek, xPeek1, xPeekd, xPeek2, xPeekT, xPeekT1, xPeekTd, sSetIx, sSetIx1, sSetIx2, sSetIx3, sSetIx4, iSq, iSqL, iSqT, iEn, iEnL, iEnT, iR1, iR11, iR2, iR21, sFor, xComp, sPenN, sPenR, sOwnD, sDSet, sDSet1, sDSet2, sDSet3, sDSet5, dKi, dKs, sThawD, sThawD1, iIt, iIt1, gPn, gPt, gPs0, gPs1, gPs2, sTry, sTry1, sTryN, sTryR, sTryR2, sTryB, sTryC, sRaise, nOw0, nOw1, nOw2, fld0, fld1, xIsX1, xIsX2, xIsNotX, xIsNX, U.l0, U.l1, U.s0, U.s1, wS0, wS1, beq_self_eq_true, sSet2, sSet21, sPar, sPar1, sOwnM, sOwnM1, sExt, sExt1, sExt2, sWh1, sWh2, xIsNI, xIsNNo, xIsNotI, xIsNotNo, xIsNotL, xIsNotT, xIsNotS, xIsS, xIsL, xIsT, xNeS, sRetO, sRetO1, sRetF, xCallF, xCallF1, xCallFK, xCallFK1, List.getD_cons_zero, List.getD_cons_succ, Bool.not_true, Bool.not_false, Bool.not_not, xLt, xLe, xGt, xGe, xEqI, xEqS, xNeI, xLenS, xLenL, xLenT, xAddI, xAddS, xAddL, xAddT, xSubI, xMulI, xMulL, xMulT, xDivI, xModI, xPowI, xNegI, xIntI, xIntB, xAbsI, xMin2, xMax2, xListL, xListT, xTupleL, xTupleT, xCutL, xCutT, xIsN, xIsB, xIsNotB, xIx0T, xIx1T, xIx2T, xIx3T, xIx0L, xIx1L, Int.reduceSub, Int.reduceAdd, Int.reduceMul, Int.reduceToNat, Int.reducePow, Int.reduceNeg])
      refine ⟨lim5 (by rw [List.length_map, List.length_map]; have := ok.1; simp; omega), ?_⟩
      rw [show ([D.str (Str.ofString "table")] ++ (es.map entT).map D.str) = (polW (.table es)).map D.str from rfl]
      rw [xJoinL rfl]
      exact ⟨pol_sz ok, hQ⟩
theorem pure_read_policy {pen : PenT} {PX : UX → Nat → Prop} : ∀ ds n (Q : D → Nat → Prop), sp_read_policy ds pen n Q PX → u_read_policy (Wd pen PX) { nx := fun ρ => Q .non ρ.fuel, rt := Q } ⟨startU N_read_policy ds, pen, n⟩ := by
  refine run_read_policy ?_
  rintro x n Q ⟨P, e, ok, hQ⟩
  obtain rfl := list1 e
  unfold u_read_policy
  have hx : (D.str (polT P)).tyn.isSome = true := rfl
  have hz : ((Str.ofString " ").length == 0) = false := by decide +kernel
  simp only [iSt, iSt1, xSplit, xRmPre, xInSg, xFs, xFs0, xFs1, xFs2, xFs3, xFmt, xFmtI, xFmtS, xStrI, xStrS, xM1, xM11, xM12, xInK, xNotInK, xfSorted, xVar, xVar1, xC, xN, xOp, xOp1, xOp2, xUn, xUn1, xNil, xCons, xCons1, xCons2, xTup, xTup1, xLst, xLst1, xTru, xTru1, xOb, tru_non, tru_bl, tru_int, tru_lst, tru_tup, xTB, xTB1, xAndT, xAndT1, xAndT2, xOrT, xOrT1, xOrT2, xNotT, xNotT1, xAnd, xAnd1, xAnd2, xOr, xOr1, xOr2, xNot, xNot1, xIfE, xIfE1, xIfE2, xCh, xCh1, xCh2, xCh3, xCh3b, xCh4, xNoP, xPart, xPart1, xCut, xCut1, xCut2, xCut3, xB, xB1, xCall, xCall1, xCallK, xCallK1, perm_nil, perm_cons, xCat, xCat1, xCat2, xRev, xRevL, xRevT, sSkip, sSeq, sRet, sRetN, sIf, sIf1, sIf2, sDrop, sDrop1, sBrk, sCnt, sSet, sSet1, sAsg, sAsg1, gN, gT, gPut, put_nil, put_cons, sAug, sAug1, sAug2, xFr, xFr1, xfLst, sOwn, sOwn1, sApp, sApp1, sApp2, sThaw, sThaw1, sThaw2, sThaw3, xPeek, xPeek1, xPeekd, xPeek2, xPeekT, xPeekT1, xPeekTd, sSetIx, sSetIx1, sSetIx2, sSetIx3, sSetIx4, iSq, iSqL, iSqT, iEn, iEnL, iEnT, iR1, iR11, iR2, iR21, sFor, xComp, sPenN, sPenR, sOwnD, sDSet, sDSet1, sDSet2, sDSet3, sDSet5, dKi, dKs, sThawD, sThawD1, iIt, iIt1, gPn, gPt, gPs0, gPs1, gPs2, sTry, sTry1, sTryN, sTryR, sTryR2, sTryB, sTryC, sRaise, nOw0, nOw1, nOw2, fld0, fld1, xIsX1, xIsX2, xIsNotX, xIsNX, U.l0, U.l1, U.s0, U.s1, wS0, wS1, beq_self_eq_true, sSet2, sSet21, sPar, sPar1, sOwnM, sOwnM1, sExt, sExt1, sExt2, sWh1, sWh2, xIsNI, xIsNNo, xIsNotI, xIsNotNo, xIsNotL, xIsNotT, xIsNotS, xIsS, xIsL, xIsT, xNeS, sRetO, sRetO1, sRetF, xCallF, xCallF1, xCallFK, xCallFK1, List.getD_cons_zero, List.getD_cons_succ, Bool.not_true, Bool.not_false, Bool.not_not, xLt, xLe, xGt, xGe, xEqI, xEqS, xNeI, xLenS, xLenL, xLenT, xAddI, xAddS, xAddL, xAddT, xSubI, xMulI, xMulL, xMulT, xDivI, xModI, xPowI, xNegI, xIntI, xIntB, xAbsI, xMin2, xMax2, xListL, xListT, xTupleL, xTupleT, xCutL, xCutT, xIsN, xIsB, xIsNotB, xIx0T, xIx1T, xIx2T, xIx3T, xIx0L, xIx1L, Int.reduceSub, Int.reduceAdd, Int.reduceMul, Int.reduceToNat, Int.reducePow, Int.reduceNeg, xIsiS hx, D.isS, xSplit, words_split ok]
  refine ⟨⟨hz, lim5 (by have := (polT_tx ok).2; omega)⟩, P, rfl, ok, ?_⟩
  simp only [iSt, iSt1, xSplit, xRmPre, xInSg, xFs, xFs0, xFs1, xFs2, xFs3, xFmt, xFmtI, xFmtS, xStrI, xStrS, xM1, xM11, xM12, xInK, xNotInK, xfSorted, xVar, xVar1, xC, xN, xOp, xOp1, xOp2, xUn, xUn1, xNil, xCons, xCons1, xCons2, xTup, xTup1, xLst, xLst1, xTru, xTru1, xOb, tru_non, tru_bl, tru_int, tru_lst, tru_tup, xTB, xTB1, xAndT, xAndT1, xAndT2, xOrT, xOrT1, xOrT2, xNotT, xNotT1, xAnd, xAnd1, xAnd2, xOr, xOr1, xOr2, xNot, xNot1, xIfE, xIfE1, xIfE2, xCh, xCh1, xCh2, xCh3, xCh3b, xCh4, xNoP, xPart, xPart1, xCut, xCut1, xCut2, xCut3, xB, xB1, xCall, xCall1, xCallK, xCallK1, perm_nil, perm_cons, xCat, xCat1, xCat2, xRev, xRevL, xRevT, sSkip, sSeq, sRet, sRetN, sIf, sIf1, sIf2, sDrop, sDrop1, sBrk, sCnt, sSet, sSet1, sAsg, sAsg1, gN, gT, gPut, put_nil, put_cons, sAug, sAug1, sAug2, xFr, xFr1, xfLst, sOwn, sOwn1, sApp, sApp1, sApp2, sThaw, sThaw1, sThaw2, sThaw3, xPeek, xPeek1, xPeekd, xPeek2, xPeekT, xPeekT1, xPeekTd, sSetIx, sSetIx1, sSetIx2, sSetIx3, sSetIx4, iSq, iSqL, iSqT, iEn, iEnL, iEnT, iR1, iR11, iR2, iR21, sFor, xComp, sPenN, sPenR, sOwnD, sDSet, sDSet1, sDSet2, sDSet3, sDSet5, dKi, dKs, sThawD, sThawD1, iIt, iIt1, gPn, gPt, gPs0, gPs1, gPs2, sTry, sTry1, sTryN, sTryR, sTryR2, sTryB, sTryC, sRaise, nOw0, nOw1, nOw2, fld0, fld1, xIsX1, xIsX2, xIsNotX, xIsNX, U.l0, U.l1, U.s0, U.s1, wS0, wS1, beq_self_eq_true, sSet2, sSet21, sPar, sPar1, sOwnM, sOwnM1, sExt, sExt1, sExt2, sWh1, sWh2, xIsNI, xIsNNo, xIsNotI, xIsNotNo, xIsNotL, xIsNotT, xIsNotS, xIsS, xIsL, xIsT, xNeS, sRetO, sRetO1, sRetF, xCallF, xCallF1, xCallFK, xCallFK1, List.getD_cons_zero, List.getD_cons_succ, Bool.not_true, Bool.not_false, Bool.not_not, xLt, xLe, xGt, xGe, xEqI, xEqS, xNeI, xLenS, xLenL, xLenT, xAddI, xAddS, xAddL, xAddT, xSubI, xMulI, xMulL, xMulT, xDivI, xModI, xPowI, xNegI, xIntI, xIntB, xAbsI, xMin2, xMax2, xListL, xListT, xTupleL, xTupleT, xCutL, xCutT, xIsN, xIsB, xIsNotB, xIx0T, xIx1T, xIx2T, xIx3T, xIx0L, xIx1L, Int.reduceSub, Int.reduceAdd, Int.reduceMul, Int.reduceToNat, Int.reducePow, Int.reduceNeg, sp_is_policy]
  refine ⟨⟨3, fit_py ok⟩, ?_⟩
  rw [pol_py ok]
  (try simp only [iSt, iSt1, xSplit, xRmPre, xInSg, xFs, xFs0, xFs1, xFs2, xFs3, xFmt, xFmtI, xFmtS, xStrI, xStrS, xM1, xM11, xM12, xInK, xNotInK, xfSorted, xVar, xVar1, xC, xN, xOp, xOp1, xOp2, xUn, xUn1, xNil, xCons, xCons1, xCons2, xTup, xTup1, xLst, xLst1, xTru, xTru1, xOb, tru_non, tru_bl, tru_int, tru_lst, tru_tup, xTB, xTB1, xAndT, xAndT1, xAndT2, xOrT, xOrT1, xOrT2, xNotT, xNotT1, xAnd, xAnd1, xAnd2, xOr, xOr1, xOr2, xNot, xNot1, xIfE, xIfE1, xIfE2, xCh, xCh1, xCh2, xCh3, xCh3b, xCh4, xNoP, xPart, xPart1, xCut, xCut1, xCut2, xCut3, xB, xB1, xCall, xCall1, xCallK, xCallK1, perm_nil, perm_cons, xCat, xCat1, xCat2, xRev, xRevL, xRevT, sSkip, sSeq, sRet, sRetN, sIf, sIf1, sIf2, sDrop, sDrop1, sBrk, sCnt, sSet, sSet1, sAsg, sAsg1, gN, gT, gPut, put_nil, put_cons, sAug, sAug1, sAug2, xFr, xFr1, xfLst, sOwn, sOwn1, sApp, sApp1, sApp2, sThaw, sThaw1, sThaw2, sThaw3, xPeek, xPeek1, xPeekd, xPeek2, xPeekT, xPeekT1, xPeekTd, sSetIx, sSetIx1, sSetIx2, sSetIx3, sSetIx4, iSq, iSqL, iSqT, iEn, iEnL, iEnT, iR1, iR11, iR2, iR21, sFor, xComp, sPenN, sPenR, sOwnD, sDSet, sDSet1, sDSet2, sDSet3, sDSet5, dKi, dKs, sThawD, sThawD1, iIt, iIt1, gPn, gPt, gPs0, gPs1, gPs2, sTry, sTry1, sTryN, sTryR, sTryR2, sTryB, sTryC, sRaise, nOw0, nOw1, nOw2, fld0, fld1, xIsX1, xIsX2, xIsNotX, xIsNX, U.l0, U.l1, U.s0, U.s1, wS0, wS1, beq_self_eq_true, sSet2, sSet21, sPar, sPar1, sOwnM, sOwnM1, sExt, sExt1, sExt2, sWh1, sWh2, xIsNI, xIsNNo, xIsNotI, xIsNotNo, xIsNotL, xIsNotT, xIsNotS, xIsS, xIsL, xIsT, xNeS, sRetO, sRetO1, sRetF, xCallF, xCallF1, xCallFK, xCallFK1, List.getD_cons_zero, List.getD_cons_succ, Bool.not_true, Bool.not_false, Bool.not_not, xLt, xLe, xGt, xGe, xEqI, xEqS, xNeI, xLenS, xLenL, xLenT, xAddI, xAddS, xAddL, xAddT, xSubI, xMulI, xMulL, xMulT, xDivI, xModI, xPowI, xNegI, xIntI, xIntB, xAbsI, xMin2, xMax2, xListL, xListT, xTupleL, xTupleT, xCutL, xCutT, xIsN, xIsB, xIsNotB, xIx0T, xIx1T, xIx2T, xIx3T, xIx0L, xIx1L, Int.reduceSub, Int.reduceAdd, Int.reduceMul, Int.reduceToNat, Int.reducePow, Int.reduceNeg])
  refine ⟨P, rfl, ok, ?_⟩
  (try simp only [iSt, iSt1, xSplit, xRmPre, xInSg, xFs, xFs0, xFs1, xFs2, xFs3, xFmt, xFmtI, xFmtS, xStrI, xStrS, xM1, xM11, xM12, xInK, xNotInK, xfSorted, xVar, xVar1, xC, xN, xOp, xOp1, xOp2, xUn, xUn1, xNil, xCons, xCons1, xCons2, xTup, xTup1, xLst, xLst1, xTru, xTru1, xOb, tru_non, tru_bl, tru_int, tru_lst, tru_tup, xTB, xTB1, xAndT, xAndT1, xAndT2, xOrT, xOrT1, xOrT2, xNotT, xNotT1, xAnd, xAnd1, xAnd2, xOr, xOr1, xOr2, xNot, xNot1, xIfE, xIfE1, xIfE2, xCh, xCh1, xCh2, xCh3, xCh3b, xCh4, xNoP, xPart, xPart1, xCut, xCut1, xCut2, xCut3, xB, xB1, xCall, xCall1, xCallK, xCallK1, perm_nil, perm_cons, xCat, xCat1, xCat2, xRev, xRevL, xRevT, sSkip, sSeq, sRet, sRetN, sIf, sIf1, sIf2, sDrop, sDrop1, sBrk, sCnt, sSet, sSet1, sAsg, sAsg1, gN, gT, gPut, put_nil, put_cons, sAug, sAug1, sAug2, xFr, xFr1, xfLst, sOwn, sOwn1, sApp, sApp1, sApp2, sThaw, sThaw1, sThaw2, sThaw3, xPeek, xPeek1, xPeekd, xPeek2, xPeekT, xPeekT1, xPeekTd, sSetIx, sSetIx1, sSetIx2, sSetIx3, sSetIx4, iSq, iSqL, iSqT, iEn, iEnL, iEnT, iR1, iR11, iR2, iR21, sFor, xComp, sPenN, sPenR, sOwnD, sDSet, sDSet1, sDSet2, sDSet3, sDSet5, dKi, dKs, sThawD, sThawD1, iIt, iIt1, gPn, gPt, gPs0, gPs1, gPs2, sTry, sTry1, sTryN, sTryR, sTryR2, sTryB, sTryC, sRaise, nOw0, nOw1, nOw2, fld0, fld1, xIsX1, xIsX2, xIsNotX, xIsNX, U.l0, U.l1, U.s0, U.s1, wS0, wS1, beq_self_eq_true, sSet2, sSet21, sPar, sPar1, sOwnM, sOwnM1, sExt, sExt1, sExt2, sWh1, sWh2, xIsNI, xIsNNo, xIsNotI, xIsNotNo, xIsNotL, xIsNotT, xIsNotS, xIsS, xIsL, xIsT, xNeS, sRetO, sRetO1, sRetF, xCallF, xCallF1, xCallFK, xCallFK1, List.getD_cons_zero, List.getD_cons_succ, Bool.not_true, Bool.not_false, Bool.not_not, xLt, xLe, xGt, xGe, xEqI, xEqS, xNeI, xLenS, xLenL, xLenT, xAddI, xAddS, xAddL, xAddT, xSubI, xMulI, xMulL, xMulT, xDivI, xModI, xPowI, xNegI, xIntI, xIntB, xAbsI, xMin2, xMax2, xListL, xListT, xTupleL, xTupleT, xCutL, xCutT, xIsN, xIsB, xIsNotB, xIx0T, xIx1T, xIx2T, xIx3T, xIx0L, xIx1L, Int.reduceSub, Int.reduceAdd, Int.reduceMul, Int.reduceToNat, Int.reducePow, Int.reduceNeg])
  exact hQ

end Lw


set_option Elab.async false
set_option linter.all false
set_option maxRecDepth 100000
set_option maxHeartbeats 0
namespace Lw
open PySem PySem.Spec L2 U
open PyProof.Rows hiding St
theorem list3 {α : Type} {a b c x y z : α} (h : [a, b, c] = [x, y, z]) : a = x ∧ b = y ∧ c = z := by simpa using h
theorem asc_snoc : ∀ {es : List (Int × Int)} {lo l c : Int}, asc lo es → (∀ e ∈ es, e.1 < l) → lo ≤ l → l ≤ 59 → 0 ≤ c → c ≤ 9999999999999999999999999999999999999999 → asc lo (es ++ [(l, c)])
  | [], lo, l, c, _, _, h1, h2, h3, h4 => ⟨h1, h2, h3, h4, trivial⟩
  | e :: r, lo, l, c, h, hm, h1, h2, h3, h4 => ⟨h.1, h.2.1, h.2.2.1, h.2.2.2.1, asc_snoc h.2.2.2.2 (fun x hx => hm x (List.mem_cons_of_mem _ hx)) (by have := hm e List.mem_cons_self; omega) h2 h3 h4⟩
theorem pure__law_policy {pen : PenT} {PX : UX → Nat → Prop} : ∀ ds n (Q : D → Nat → Prop), sp__law_policy ds pen n Q PX → u__law_policy (Wd pen PX) { nx := fun ρ => Q .non ρ.fuel, rt := Q } ⟨startU N__law_policy ds, pen, n⟩ := by
  refine run__law_policy fun x n Q ⟨hp, hn, hQ⟩ => ?_
  unfold u__law_policy
  simp only [iSt, iSt1, xSplit, xRmPre, xInSg, xFs, xFs0, xFs1, xFs2, xFs3, xFmt, xFmtI, xFmtS, xStrI, xStrS, xM1, xM11, xM12, xInK, xNotInK, xfSorted, xVar, xVar1, xC, xN, xOp, xOp1, xOp2, xUn, xUn1, xNil, xCons, xCons1, xCons2, xTup, xTup1, xLst, xLst1, xTru, xTru1, xOb, tru_non, tru_bl, tru_int, tru_lst, tru_tup, xTB, xTB1, xAndT, xAndT1, xAndT2, xOrT, xOrT1, xOrT2, xNotT, xNotT1, xAnd, xAnd1, xAnd2, xOr, xOr1, xOr2, xNot, xNot1, xIfE, xIfE1, xIfE2, xCh, xCh1, xCh2, xCh3, xCh3b, xCh4, xNoP, xPart, xPart1, xCut, xCut1, xCut2, xCut3, xB, xB1, xCall, xCall1, xCallK, xCallK1, perm_nil, perm_cons, xCat, xCat1, xCat2, xRev, xRevL, xRevT, sSkip, sSeq, sRet, sRetN, sIf, sIf1, sIf2, sDrop, sDrop1, sBrk, sCnt, sSet, sSet1, sAsg, sAsg1, gN, gT, gPut, put_nil, put_cons, sAug, sAug1, sAug2, xFr, xFr1, xfLst, sOwn, sOwn1, sApp, sApp1, sApp2, sThaw, sThaw1, sThaw2, sThaw3, xPeek, xPeek1, xPeekd, xPeek2, xPeekT, xPeekT1, xPeekTd, sSetIx, sSetIx1, sSetIx2, sSetIx3, sSetIx4, iSq, iSqL, iSqT, iEn, iEnL, iEnT, iR1, iR11, iR2, iR21, sFor, xComp, sPenN, sPenR, sOwnD, sDSet, sDSet1, sDSet2, sDSet3, sDSet5, dKi, dKs, sThawD, sThawD1, iIt, iIt1, gPn, gPt, gPs0, gPs1, gPs2, sTry, sTry1, sTryN, sTryR, sTryR2, sTryB, sTryC, sRaise, nOw0, nOw1, nOw2, fld0, fld1, xIsX1, xIsX2, xIsNotX, xIsNX, U.l0, U.l1, U.s0, U.s1, wS0, wS1, beq_self_eq_true, sSet2, sSet21, sPar, sPar1, sOwnM, sOwnM1, sExt, sExt1, sExt2, sWh1, sWh2, xIsNI, xIsNNo, xIsNotI, xIsNotNo, xIsNotL, xIsNotT, xIsNotS, xIsS, xIsL, xIsT, xNeS, sRetO, sRetO1, sRetF, xCallF, xCallF1, xCallFK, xCallFK1, List.getD_cons_zero, List.getD_cons_succ, Bool.not_true, Bool.not_false, Bool.not_not, xLt, xLe, xGt, xGe, xEqI, xEqS, xNeI, xLenS, xLenL, xLenT, xAddI, xAddS, xAddL, xAddT, xSubI, xMulI, xMulL, xMulT, xDivI, xModI, xPowI, xNegI, xIntI, xIntB, xAbsI, xMin2, xMax2, xListL, xListT, xTupleL, xTupleT, xCutL, xCutT, xIsN, xIsB, xIsNotB, xIx0T, xIx1T, xIx2T, xIx3T, xIx0L, xIx1L, Int.reduceSub, Int.reduceAdd, Int.reduceMul, Int.reduceToNat, Int.reducePow, Int.reduceNeg]
  refine draw_use hp (by decide) (by decide) (by omega) fun w h0 h1 => ?_
  simp only [iSt, iSt1, xSplit, xRmPre, xInSg, xFs, xFs0, xFs1, xFs2, xFs3, xFmt, xFmtI, xFmtS, xStrI, xStrS, xM1, xM11, xM12, xInK, xNotInK, xfSorted, xVar, xVar1, xC, xN, xOp, xOp1, xOp2, xUn, xUn1, xNil, xCons, xCons1, xCons2, xTup, xTup1, xLst, xLst1, xTru, xTru1, xOb, tru_non, tru_bl, tru_int, tru_lst, tru_tup, xTB, xTB1, xAndT, xAndT1, xAndT2, xOrT, xOrT1, xOrT2, xNotT, xNotT1, xAnd, xAnd1, xAnd2, xOr, xOr1, xOr2, xNot, xNot1, xIfE, xIfE1, xIfE2, xCh, xCh1, xCh2, xCh3, xCh3b, xCh4, xNoP, xPart, xPart1, xCut, xCut1, xCut2, xCut3, xB, xB1, xCall, xCall1, xCallK, xCallK1, perm_nil, perm_cons, xCat, xCat1, xCat2, xRev, xRevL, xRevT, sSkip, sSeq, sRet, sRetN, sIf, sIf1, sIf2, sDrop, sDrop1, sBrk, sCnt, sSet, sSet1, sAsg, sAsg1, gN, gT, gPut, put_nil, put_cons, sAug, sAug1, sAug2, xFr, xFr1, xfLst, sOwn, sOwn1, sApp, sApp1, sApp2, sThaw, sThaw1, sThaw2, sThaw3, xPeek, xPeek1, xPeekd, xPeek2, xPeekT, xPeekT1, xPeekTd, sSetIx, sSetIx1, sSetIx2, sSetIx3, sSetIx4, iSq, iSqL, iSqT, iEn, iEnL, iEnT, iR1, iR11, iR2, iR21, sFor, xComp, sPenN, sPenR, sOwnD, sDSet, sDSet1, sDSet2, sDSet3, sDSet5, dKi, dKs, sThawD, sThawD1, iIt, iIt1, gPn, gPt, gPs0, gPs1, gPs2, sTry, sTry1, sTryN, sTryR, sTryR2, sTryB, sTryC, sRaise, nOw0, nOw1, nOw2, fld0, fld1, xIsX1, xIsX2, xIsNotX, xIsNX, U.l0, U.l1, U.s0, U.s1, wS0, wS1, beq_self_eq_true, sSet2, sSet21, sPar, sPar1, sOwnM, sOwnM1, sExt, sExt1, sExt2, sWh1, sWh2, xIsNI, xIsNNo, xIsNotI, xIsNotNo, xIsNotL, xIsNotT, xIsNotS, xIsS, xIsL, xIsT, xNeS, sRetO, sRetO1, sRetF, xCallF, xCallF1, xCallFK, xCallFK1, List.getD_cons_zero, List.getD_cons_succ, Bool.not_true, Bool.not_false, Bool.not_not, xLt, xLe, xGt, xGe, xEqI, xEqS, xNeI, xLenS, xLenL, xLenT, xAddI, xAddS, xAddL, xAddT, xSubI, xMulI, xMulL, xMulT, xDivI, xModI, xPowI, xNegI, xIntI, xIntB, xAbsI, xMin2, xMax2, xListL, xListT, xTupleL, xTupleT, xCutL, xCutT, xIsN, xIsB, xIsNotB, xIx0T, xIx1T, xIx2T, xIx3T, xIx0L, xIx1L, Int.reduceSub, Int.reduceAdd, Int.reduceMul, Int.reduceToNat, Int.reducePow, Int.reduceNeg]
  refine sIfk.mpr ⟨fun hc => ?_, fun hc => ?_⟩
  · simp only [iSt, iSt1, xSplit, xRmPre, xInSg, xFs, xFs0, xFs1, xFs2, xFs3, xFmt, xFmtI, xFmtS, xStrI, xStrS, xM1, xM11, xM12, xInK, xNotInK, xfSorted, xVar, xVar1, xC, xN, xOp, xOp1, xOp2, xUn, xUn1, xNil, xCons, xCons1, xCons2, xTup, xTup1, xLst, xLst1, xTru, xTru1, xOb, tru_non, tru_bl, tru_int, tru_lst, tru_tup, xTB, xTB1, xAndT, xAndT1, xAndT2, xOrT, xOrT1, xOrT2, xNotT, xNotT1, xAnd, xAnd1, xAnd2, xOr, xOr1, xOr2, xNot, xNot1, xIfE, xIfE1, xIfE2, xCh, xCh1, xCh2, xCh3, xCh3b, xCh4, xNoP, xPart, xPart1, xCut, xCut1, xCut2, xCut3, xB, xB1, xCall, xCall1, xCallK, xCallK1, perm_nil, perm_cons, xCat, xCat1, xCat2, xRev, xRevL, xRevT, sSkip, sSeq, sRet, sRetN, sIf, sIf1, sIf2, sDrop, sDrop1, sBrk, sCnt, sSet, sSet1, sAsg, sAsg1, gN, gT, gPut, put_nil, put_cons, sAug, sAug1, sAug2, xFr, xFr1, xfLst, sOwn, sOwn1, sApp, sApp1, sApp2, sThaw, sThaw1, sThaw2, sThaw3, xPeek, xPeek1, xPeekd, xPeek2, xPeekT, xPeekT1, xPeekTd, sSetIx, sSetIx1, sSetIx2, sSetIx3, sSetIx4, iSq, iSqL, iSqT, iEn, iEnL, iEnT, iR1, iR11, iR2, iR21, sFor, xComp, sPenN, sPenR, sOwnD, sDSet, sDSet1, sDSet2, sDSet3, sDSet5, dKi, dKs, sThawD, sThawD1, iIt, iIt1, gPn, gPt, gPs0, gPs1, gPs2, sTry, sTry1, sTryN, sTryR, sTryR2, sTryB, sTryC, sRaise, nOw0, nOw1, nOw2, fld0, fld1, xIsX1, xIsX2, xIsNotX, xIsNX, U.l0, U.l1, U.s0, U.s1, wS0, wS1, beq_self_eq_true, sSet2, sSet21, sPar, sPar1, sOwnM, sOwnM1, sExt, sExt1, sExt2, sWh1, sWh2, xIsNI, xIsNNo, xIsNotI, xIsNotNo, xIsNotL, xIsNotT, xIsNotS, xIsS, xIsL, xIsT, xNeS, sRetO, sRetO1, sRetF, xCallF, xCallF1, xCallFK, xCallFK1, List.getD_cons_zero, List.getD_cons_succ, Bool.not_true, Bool.not_false, Bool.not_not, xLt, xLe, xGt, xGe, xEqI, xEqS, xNeI, xLenS, xLenL, xLenT, xAddI, xAddS, xAddL, xAddT, xSubI, xMulI, xMulL, xMulT, xDivI, xModI, xPowI, xNegI, xIntI, xIntB, xAbsI, xMin2, xMax2, xListL, xListT, xTupleL, xTupleT, xCutL, xCutT, xIsN, xIsB, xIsNotB, xIx0T, xIx1T, xIx2T, xIx3T, xIx0L, xIx1L, Int.reduceSub, Int.reduceAdd, Int.reduceMul, Int.reduceToNat, Int.reducePow, Int.reduceNeg]
    exact hQ .exact _ trivial (by omega)
  simp only [iSt, iSt1, xSplit, xRmPre, xInSg, xFs, xFs0, xFs1, xFs2, xFs3, xFmt, xFmtI, xFmtS, xStrI, xStrS, xM1, xM11, xM12, xInK, xNotInK, xfSorted, xVar, xVar1, xC, xN, xOp, xOp1, xOp2, xUn, xUn1, xNil, xCons, xCons1, xCons2, xTup, xTup1, xLst, xLst1, xTru, xTru1, xOb, tru_non, tru_bl, tru_int, tru_lst, tru_tup, xTB, xTB1, xAndT, xAndT1, xAndT2, xOrT, xOrT1, xOrT2, xNotT, xNotT1, xAnd, xAnd1, xAnd2, xOr, xOr1, xOr2, xNot, xNot1, xIfE, xIfE1, xIfE2, xCh, xCh1, xCh2, xCh3, xCh3b, xCh4, xNoP, xPart, xPart1, xCut, xCut1, xCut2, xCut3, xB, xB1, xCall, xCall1, xCallK, xCallK1, perm_nil, perm_cons, xCat, xCat1, xCat2, xRev, xRevL, xRevT, sSkip, sSeq, sRet, sRetN, sIf, sIf1, sIf2, sDrop, sDrop1, sBrk, sCnt, sSet, sSet1, sAsg, sAsg1, gN, gT, gPut, put_nil, put_cons, sAug, sAug1, sAug2, xFr, xFr1, xfLst, sOwn, sOwn1, sApp, sApp1, sApp2, sThaw, sThaw1, sThaw2, sThaw3, xPeek, xPeek1, xPeekd, xPeek2, xPeekT, xPeekT1, xPeekTd, sSetIx, sSetIx1, sSetIx2, sSetIx3, sSetIx4, iSq, iSqL, iSqT, iEn, iEnL, iEnT, iR1, iR11, iR2, iR21, sFor, xComp, sPenN, sPenR, sOwnD, sDSet, sDSet1, sDSet2, sDSet3, sDSet5, dKi, dKs, sThawD, sThawD1, iIt, iIt1, gPn, gPt, gPs0, gPs1, gPs2, sTry, sTry1, sTryN, sTryR, sTryR2, sTryB, sTryC, sRaise, nOw0, nOw1, nOw2, fld0, fld1, xIsX1, xIsX2, xIsNotX, xIsNX, U.l0, U.l1, U.s0, U.s1, wS0, wS1, beq_self_eq_true, sSet2, sSet21, sPar, sPar1, sOwnM, sOwnM1, sExt, sExt1, sExt2, sWh1, sWh2, xIsNI, xIsNNo, xIsNotI, xIsNotNo, xIsNotL, xIsNotT, xIsNotS, xIsS, xIsL, xIsT, xNeS, sRetO, sRetO1, sRetF, xCallF, xCallF1, xCallFK, xCallFK1, List.getD_cons_zero, List.getD_cons_succ, Bool.not_true, Bool.not_false, Bool.not_not, xLt, xLe, xGt, xGe, xEqI, xEqS, xNeI, xLenS, xLenL, xLenT, xAddI, xAddS, xAddL, xAddT, xSubI, xMulI, xMulL, xMulT, xDivI, xModI, xPowI, xNegI, xIntI, xIntB, xAbsI, xMin2, xMax2, xListL, xListT, xTupleL, xTupleT, xCutL, xCutT, xIsN, xIsB, xIsNotB, xIx0T, xIx1T, xIx2T, xIx3T, xIx0L, xIx1L, Int.reduceSub, Int.reduceAdd, Int.reduceMul, Int.reduceToNat, Int.reducePow, Int.reduceNeg]
  refine sIfk.mpr ⟨fun hc => ?_, fun hc => ?_⟩
  · simp only [iSt, iSt1, xSplit, xRmPre, xInSg, xFs, xFs0, xFs1, xFs2, xFs3, xFmt, xFmtI, xFmtS, xStrI, xStrS, xM1, xM11, xM12, xInK, xNotInK, xfSorted, xVar, xVar1, xC, xN, xOp, xOp1, xOp2, xUn, xUn1, xNil, xCons, xCons1, xCons2, xTup, xTup1, xLst, xLst1, xTru, xTru1, xOb, tru_non, tru_bl, tru_int, tru_lst, tru_tup, xTB, xTB1, xAndT, xAndT1, xAndT2, xOrT, xOrT1, xOrT2, xNotT, xNotT1, xAnd, xAnd1, xAnd2, xOr, xOr1, xOr2, xNot, xNot1, xIfE, xIfE1, xIfE2, xCh, xCh1, xCh2, xCh3, xCh3b, xCh4, xNoP, xPart, xPart1, xCut, xCut1, xCut2, xCut3, xB, xB1, xCall, xCall1, xCallK, xCallK1, perm_nil, perm_cons, xCat, xCat1, xCat2, xRev, xRevL, xRevT, sSkip, sSeq, sRet, sRetN, sIf, sIf1, sIf2, sDrop, sDrop1, sBrk, sCnt, sSet, sSet1, sAsg, sAsg1, gN, gT, gPut, put_nil, put_cons, sAug, sAug1, sAug2, xFr, xFr1, xfLst, sOwn, sOwn1, sApp, sApp1, sApp2, sThaw, sThaw1, sThaw2, sThaw3, xPeek, xPeek1, xPeekd, xPeek2, xPeekT, xPeekT1, xPeekTd, sSetIx, sSetIx1, sSetIx2, sSetIx3, sSetIx4, iSq, iSqL, iSqT, iEn, iEnL, iEnT, iR1, iR11, iR2, iR21, sFor, xComp, sPenN, sPenR, sOwnD, sDSet, sDSet1, sDSet2, sDSet3, sDSet5, dKi, dKs, sThawD, sThawD1, iIt, iIt1, gPn, gPt, gPs0, gPs1, gPs2, sTry, sTry1, sTryN, sTryR, sTryR2, sTryB, sTryC, sRaise, nOw0, nOw1, nOw2, fld0, fld1, xIsX1, xIsX2, xIsNotX, xIsNX, U.l0, U.l1, U.s0, U.s1, wS0, wS1, beq_self_eq_true, sSet2, sSet21, sPar, sPar1, sOwnM, sOwnM1, sExt, sExt1, sExt2, sWh1, sWh2, xIsNI, xIsNNo, xIsNotI, xIsNotNo, xIsNotL, xIsNotT, xIsNotS, xIsS, xIsL, xIsT, xNeS, sRetO, sRetO1, sRetF, xCallF, xCallF1, xCallFK, xCallFK1, List.getD_cons_zero, List.getD_cons_succ, Bool.not_true, Bool.not_false, Bool.not_not, xLt, xLe, xGt, xGe, xEqI, xEqS, xNeI, xLenS, xLenL, xLenT, xAddI, xAddS, xAddL, xAddT, xSubI, xMulI, xMulL, xMulT, xDivI, xModI, xPowI, xNegI, xIntI, xIntB, xAbsI, xMin2, xMax2, xListL, xListT, xTupleL, xTupleT, xCutL, xCutT, xIsN, xIsB, xIsNotB, xIx0T, xIx1T, xIx2T, xIx3T, xIx0L, xIx1L, Int.reduceSub, Int.reduceAdd, Int.reduceMul, Int.reduceToNat, Int.reducePow, Int.reduceNeg]
    exact hQ .endless _ trivial (by omega)
  simp only [iSt, iSt1, xSplit, xRmPre, xInSg, xFs, xFs0, xFs1, xFs2, xFs3, xFmt, xFmtI, xFmtS, xStrI, xStrS, xM1, xM11, xM12, xInK, xNotInK, xfSorted, xVar, xVar1, xC, xN, xOp, xOp1, xOp2, xUn, xUn1, xNil, xCons, xCons1, xCons2, xTup, xTup1, xLst, xLst1, xTru, xTru1, xOb, tru_non, tru_bl, tru_int, tru_lst, tru_tup, xTB, xTB1, xAndT, xAndT1, xAndT2, xOrT, xOrT1, xOrT2, xNotT, xNotT1, xAnd, xAnd1, xAnd2, xOr, xOr1, xOr2, xNot, xNot1, xIfE, xIfE1, xIfE2, xCh, xCh1, xCh2, xCh3, xCh3b, xCh4, xNoP, xPart, xPart1, xCut, xCut1, xCut2, xCut3, xB, xB1, xCall, xCall1, xCallK, xCallK1, perm_nil, perm_cons, xCat, xCat1, xCat2, xRev, xRevL, xRevT, sSkip, sSeq, sRet, sRetN, sIf, sIf1, sIf2, sDrop, sDrop1, sBrk, sCnt, sSet, sSet1, sAsg, sAsg1, gN, gT, gPut, put_nil, put_cons, sAug, sAug1, sAug2, xFr, xFr1, xfLst, sOwn, sOwn1, sApp, sApp1, sApp2, sThaw, sThaw1, sThaw2, sThaw3, xPeek, xPeek1, xPeekd, xPeek2, xPeekT, xPeekT1, xPeekTd, sSetIx, sSetIx1, sSetIx2, sSetIx3, sSetIx4, iSq, iSqL, iSqT, iEn, iEnL, iEnT, iR1, iR11, iR2, iR21, sFor, xComp, sPenN, sPenR, sOwnD, sDSet, sDSet1, sDSet2, sDSet3, sDSet5, dKi, dKs, sThawD, sThawD1, iIt, iIt1, gPn, gPt, gPs0, gPs1, gPs2, sTry, sTry1, sTryN, sTryR, sTryR2, sTryB, sTryC, sRaise, nOw0, nOw1, nOw2, fld0, fld1, xIsX1, xIsX2, xIsNotX, xIsNX, U.l0, U.l1, U.s0, U.s1, wS0, wS1, beq_self_eq_true, sSet2, sSet21, sPar, sPar1, sOwnM, sOwnM1, sExt, sExt1, sExt2, sWh1, sWh2, xIsNI, xIsNNo, xIsNotI, xIsNotNo, xIsNotL, xIsNotT, xIsNotS, xIsS, xIsL, xIsT, xNeS, sRetO, sRetO1, sRetF, xCallF, xCallF1, xCallFK, xCallFK1, List.getD_cons_zero, List.getD_cons_succ, Bool.not_true, Bool.not_false, Bool.not_not, xLt, xLe, xGt, xGe, xEqI, xEqS, xNeI, xLenS, xLenL, xLenT, xAddI, xAddS, xAddL, xAddT, xSubI, xMulI, xMulL, xMulT, xDivI, xModI, xPowI, xNegI, xIntI, xIntB, xAbsI, xMin2, xMax2, xListL, xListT, xTupleL, xTupleT, xCutL, xCutT, xIsN, xIsB, xIsNotB, xIx0T, xIx1T, xIx2T, xIx3T, xIx0L, xIx1L, Int.reduceSub, Int.reduceAdd, Int.reduceMul, Int.reduceToNat, Int.reducePow, Int.reduceNeg]
  refine sIfk.mpr ⟨fun hc => ?_, fun hc => ?_⟩
  · simp only [iSt, iSt1, xSplit, xRmPre, xInSg, xFs, xFs0, xFs1, xFs2, xFs3, xFmt, xFmtI, xFmtS, xStrI, xStrS, xM1, xM11, xM12, xInK, xNotInK, xfSorted, xVar, xVar1, xC, xN, xOp, xOp1, xOp2, xUn, xUn1, xNil, xCons, xCons1, xCons2, xTup, xTup1, xLst, xLst1, xTru, xTru1, xOb, tru_non, tru_bl, tru_int, tru_lst, tru_tup, xTB, xTB1, xAndT, xAndT1, xAndT2, xOrT, xOrT1, xOrT2, xNotT, xNotT1, xAnd, xAnd1, xAnd2, xOr, xOr1, xOr2, xNot, xNot1, xIfE, xIfE1, xIfE2, xCh, xCh1, xCh2, xCh3, xCh3b, xCh4, xNoP, xPart, xPart1, xCut, xCut1, xCut2, xCut3, xB, xB1, xCall, xCall1, xCallK, xCallK1, perm_nil, perm_cons, xCat, xCat1, xCat2, xRev, xRevL, xRevT, sSkip, sSeq, sRet, sRetN, sIf, sIf1, sIf2, sDrop, sDrop1, sBrk, sCnt, sSet, sSet1, sAsg, sAsg1, gN, gT, gPut, put_nil, put_cons, sAug, sAug1, sAug2, xFr, xFr1, xfLst, sOwn, sOwn1, sApp, sApp1, sApp2, sThaw, sThaw1, sThaw2, sThaw3, xPeek, xPeek1, xPeekd, xPeek2, xPeekT, xPeekT1, xPeekTd, sSetIx, sSetIx1, sSetIx2, sSetIx3, sSetIx4, iSq, iSqL, iSqT, iEn, iEnL, iEnT, iR1, iR11, iR2, iR21, sFor, xComp, sPenN, sPenR, sOwnD, sDSet, sDSet1, sDSet2, sDSet3, sDSet5, dKi, dKs, sThawD, sThawD1, iIt, iIt1, gPn, gPt, gPs0, gPs1, gPs2, sTry, sTry1, sTryN, sTryR, sTryR2, sTryB, sTryC, sRaise, nOw0, nOw1, nOw2, fld0, fld1, xIsX1, xIsX2, xIsNotX, xIsNX, U.l0, U.l1, U.s0, U.s1, wS0, wS1, beq_self_eq_true, sSet2, sSet21, sPar, sPar1, sOwnM, sOwnM1, sExt, sExt1, sExt2, sWh1, sWh2, xIsNI, xIsNNo, xIsNotI, xIsNotNo, xIsNotL, xIsNotT, xIsNotS, xIsS, xIsL, xIsT, xNeS, sRetO, sRetO1, sRetF, xCallF, xCallF1, xCallFK, xCallFK1, List.getD_cons_zero, List.getD_cons_succ, Bool.not_true, Bool.not_false, Bool.not_not, xLt, xLe, xGt, xGe, xEqI, xEqS, xNeI, xLenS, xLenL, xLenT, xAddI, xAddS, xAddL, xAddT, xSubI, xMulI, xMulL, xMulT, xDivI, xModI, xPowI, xNegI, xIntI, xIntB, xAbsI, xMin2, xMax2, xListL, xListT, xTupleL, xTupleT, xCutL, xCutT, xIsN, xIsB, xIsNotB, xIx0T, xIx1T, xIx2T, xIx3T, xIx0L, xIx1L, Int.reduceSub, Int.reduceAdd, Int.reduceMul, Int.reduceToNat, Int.reducePow, Int.reduceNeg]
    refine draw_use hp (by decide) (by decide) (by omega) fun v h2 h3 => ?_
    simp only [iSt, iSt1, xSplit, xRmPre, xInSg, xFs, xFs0, xFs1, xFs2, xFs3, xFmt, xFmtI, xFmtS, xStrI, xStrS, xM1, xM11, xM12, xInK, xNotInK, xfSorted, xVar, xVar1, xC, xN, xOp, xOp1, xOp2, xUn, xUn1, xNil, xCons, xCons1, xCons2, xTup, xTup1, xLst, xLst1, xTru, xTru1, xOb, tru_non, tru_bl, tru_int, tru_lst, tru_tup, xTB, xTB1, xAndT, xAndT1, xAndT2, xOrT, xOrT1, xOrT2, xNotT, xNotT1, xAnd, xAnd1, xAnd2, xOr, xOr1, xOr2, xNot, xNot1, xIfE, xIfE1, xIfE2, xCh, xCh1, xCh2, xCh3, xCh3b, xCh4, xNoP, xPart, xPart1, xCut, xCut1, xCut2, xCut3, xB, xB1, xCall, xCall1, xCallK, xCallK1, perm_nil, perm_cons, xCat, xCat1, xCat2, xRev, xRevL, xRevT, sSkip, sSeq, sRet, sRetN, sIf, sIf1, sIf2, sDrop, sDrop1, sBrk, sCnt, sSet, sSet1, sAsg, sAsg1, gN, gT, gPut, put_nil, put_cons, sAug, sAug1, sAug2, xFr, xFr1, xfLst, sOwn, sOwn1, sApp, sApp1, sApp2, sThaw, sThaw1, sThaw2, sThaw3, xPeek, xPeek1, xPeekd, xPeek2, xPeekT, xPeekT1, xPeekTd, sSetIx, sSetIx1, sSetIx2, sSetIx3, sSetIx4, iSq, iSqL, iSqT, iEn, iEnL, iEnT, iR1, iR11, iR2, iR21, sFor, xComp, sPenN, sPenR, sOwnD, sDSet, sDSet1, sDSet2, sDSet3, sDSet5, dKi, dKs, sThawD, sThawD1, iIt, iIt1, gPn, gPt, gPs0, gPs1, gPs2, sTry, sTry1, sTryN, sTryR, sTryR2, sTryB, sTryC, sRaise, nOw0, nOw1, nOw2, fld0, fld1, xIsX1, xIsX2, xIsNotX, xIsNX, U.l0, U.l1, U.s0, U.s1, wS0, wS1, beq_self_eq_true, sSet2, sSet21, sPar, sPar1, sOwnM, sOwnM1, sExt, sExt1, sExt2, sWh1, sWh2, xIsNI, xIsNNo, xIsNotI, xIsNotNo, xIsNotL, xIsNotT, xIsNotS, xIsS, xIsL, xIsT, xNeS, sRetO, sRetO1, sRetF, xCallF, xCallF1, xCallFK, xCallFK1, List.getD_cons_zero, List.getD_cons_succ, Bool.not_true, Bool.not_false, Bool.not_not, xLt, xLe, xGt, xGe, xEqI, xEqS, xNeI, xLenS, xLenL, xLenT, xAddI, xAddS, xAddL, xAddT, xSubI, xMulI, xMulL, xMulT, xDivI, xModI, xPowI, xNegI, xIntI, xIntB, xAbsI, xMin2, xMax2, xListL, xListT, xTupleL, xTupleT, xCutL, xCutT, xIsN, xIsB, xIsNotB, xIx0T, xIx1T, xIx2T, xIx3T, xIx0L, xIx1L, Int.reduceSub, Int.reduceAdd, Int.reduceMul, Int.reduceToNat, Int.reducePow, Int.reduceNeg]
    refine ⟨by decide, draw_use hp (by decide) (by decide) (by omega) fun j h4 h5 => ?_⟩
    simp only [iSt, iSt1, xSplit, xRmPre, xInSg, xFs, xFs0, xFs1, xFs2, xFs3, xFmt, xFmtI, xFmtS, xStrI, xStrS, xM1, xM11, xM12, xInK, xNotInK, xfSorted, xVar, xVar1, xC, xN, xOp, xOp1, xOp2, xUn, xUn1, xNil, xCons, xCons1, xCons2, xTup, xTup1, xLst, xLst1, xTru, xTru1, xOb, tru_non, tru_bl, tru_int, tru_lst, tru_tup, xTB, xTB1, xAndT, xAndT1, xAndT2, xOrT, xOrT1, xOrT2, xNotT, xNotT1, xAnd, xAnd1, xAnd2, xOr, xOr1, xOr2, xNot, xNot1, xIfE, xIfE1, xIfE2, xCh, xCh1, xCh2, xCh3, xCh3b, xCh4, xNoP, xPart, xPart1, xCut, xCut1, xCut2, xCut3, xB, xB1, xCall, xCall1, xCallK, xCallK1, perm_nil, perm_cons, xCat, xCat1, xCat2, xRev, xRevL, xRevT, sSkip, sSeq, sRet, sRetN, sIf, sIf1, sIf2, sDrop, sDrop1, sBrk, sCnt, sSet, sSet1, sAsg, sAsg1, gN, gT, gPut, put_nil, put_cons, sAug, sAug1, sAug2, xFr, xFr1, xfLst, sOwn, sOwn1, sApp, sApp1, sApp2, sThaw, sThaw1, sThaw2, sThaw3, xPeek, xPeek1, xPeekd, xPeek2, xPeekT, xPeekT1, xPeekTd, sSetIx, sSetIx1, sSetIx2, sSetIx3, sSetIx4, iSq, iSqL, iSqT, iEn, iEnL, iEnT, iR1, iR11, iR2, iR21, sFor, xComp, sPenN, sPenR, sOwnD, sDSet, sDSet1, sDSet2, sDSet3, sDSet5, dKi, dKs, sThawD, sThawD1, iIt, iIt1, gPn, gPt, gPs0, gPs1, gPs2, sTry, sTry1, sTryN, sTryR, sTryR2, sTryB, sTryC, sRaise, nOw0, nOw1, nOw2, fld0, fld1, xIsX1, xIsX2, xIsNotX, xIsNX, U.l0, U.l1, U.s0, U.s1, wS0, wS1, beq_self_eq_true, sSet2, sSet21, sPar, sPar1, sOwnM, sOwnM1, sExt, sExt1, sExt2, sWh1, sWh2, xIsNI, xIsNNo, xIsNotI, xIsNotNo, xIsNotL, xIsNotT, xIsNotS, xIsS, xIsL, xIsT, xNeS, sRetO, sRetO1, sRetF, xCallF, xCallF1, xCallFK, xCallFK1, List.getD_cons_zero, List.getD_cons_succ, Bool.not_true, Bool.not_false, Bool.not_not, xLt, xLe, xGt, xGe, xEqI, xEqS, xNeI, xLenS, xLenL, xLenT, xAddI, xAddS, xAddL, xAddT, xSubI, xMulI, xMulL, xMulT, xDivI, xModI, xPowI, xNegI, xIntI, xIntB, xAbsI, xMin2, xMax2, xListL, xListT, xTupleL, xTupleT, xCutL, xCutT, xIsN, xIsB, xIsNotB, xIx0T, xIx1T, xIx2T, xIx3T, xIx0L, xIx1L, Int.reduceSub, Int.reduceAdd, Int.reduceMul, Int.reduceToNat, Int.reducePow, Int.reduceNeg]
    refine gIx_lst h4 h5 fun e he => ?_
    obtain ⟨z, rfl, z0, z1⟩ : ∃ z : Int, e = .int z ∧ 0 ≤ z ∧ z ≤ 1000000000000000000000000000000 := by
      simp only [List.mem_cons, List.not_mem_nil, or_false] at he
      rcases he with rfl | rfl | rfl | rfl | rfl | rfl <;> exact ⟨_, rfl, by omega, by omega⟩
    simp only [iSt, iSt1, xSplit, xRmPre, xInSg, xFs, xFs0, xFs1, xFs2, xFs3, xFmt, xFmtI, xFmtS, xStrI, xStrS, xM1, xM11, xM12, xInK, xNotInK, xfSorted, xVar, xVar1, xC, xN, xOp, xOp1, xOp2, xUn, xUn1, xNil, xCons, xCons1, xCons2, xTup, xTup1, xLst, xLst1, xTru, xTru1, xOb, tru_non, tru_bl, tru_int, tru_lst, tru_tup, xTB, xTB1, xAndT, xAndT1, xAndT2, xOrT, xOrT1, xOrT2, xNotT, xNotT1, xAnd, xAnd1, xAnd2, xOr, xOr1, xOr2, xNot, xNot1, xIfE, xIfE1, xIfE2, xCh, xCh1, xCh2, xCh3, xCh3b, xCh4, xNoP, xPart, xPart1, xCut, xCut1, xCut2, xCut3, xB, xB1, xCall, xCall1, xCallK, xCallK1, perm_nil, perm_cons, xCat, xCat1, xCat2, xRev, xRevL, xRevT, sSkip, sSeq, sRet, sRetN, sIf, sIf1, sIf2, sDrop, sDrop1, sBrk, sCnt, sSet, sSet1, sAsg, sAsg1, gN, gT, gPut, put_nil, put_cons, sAug, sAug1, sAug2, xFr, xFr1, xfLst, sOwn, sOwn1, sApp, sApp1, sApp2, sThaw, sThaw1, sThaw2, sThaw3, xPeek, xPeek1, xPeekd, xPeek2, xPeekT, xPeekT1, xPeekTd, sSetIx, sSetIx1, sSetIx2, sSetIx3, sSetIx4, iSq, iSqL, iSqT, iEn, iEnL, iEnT, iR1, iR11, iR2, iR21, sFor, xComp, sPenN, sPenR, sOwnD, sDSet, sDSet1, sDSet2, sDSet3, sDSet5, dKi, dKs, sThawD, sThawD1, iIt, iIt1, gPn, gPt, gPs0, gPs1, gPs2, sTry, sTry1, sTryN, sTryR, sTryR2, sTryB, sTryC, sRaise, nOw0, nOw1, nOw2, fld0, fld1, xIsX1, xIsX2, xIsNotX, xIsNX, U.l0, U.l1, U.s0, U.s1, wS0, wS1, beq_self_eq_true, sSet2, sSet21, sPar, sPar1, sOwnM, sOwnM1, sExt, sExt1, sExt2, sWh1, sWh2, xIsNI, xIsNNo, xIsNotI, xIsNotNo, xIsNotL, xIsNotT, xIsNotS, xIsS, xIsL, xIsT, xNeS, sRetO, sRetO1, sRetF, xCallF, xCallF1, xCallFK, xCallFK1, List.getD_cons_zero, List.getD_cons_succ, Bool.not_true, Bool.not_false, Bool.not_not, xLt, xLe, xGt, xGe, xEqI, xEqS, xNeI, xLenS, xLenL, xLenT, xAddI, xAddS, xAddL, xAddT, xSubI, xMulI, xMulL, xMulT, xDivI, xModI, xPowI, xNegI, xIntI, xIntB, xAbsI, xMin2, xMax2, xListL, xListT, xTupleL, xTupleT, xCutL, xCutT, xIsN, xIsB, xIsNotB, xIx0T, xIx1T, xIx2T, xIx3T, xIx0L, xIx1L, Int.reduceSub, Int.reduceAdd, Int.reduceMul, Int.reduceToNat, Int.reducePow, Int.reduceNeg]
    exact hQ (.step z) _ ⟨z0, z1⟩ (by omega)
  simp only [iSt, iSt1, xSplit, xRmPre, xInSg, xFs, xFs0, xFs1, xFs2, xFs3, xFmt, xFmtI, xFmtS, xStrI, xStrS, xM1, xM11, xM12, xInK, xNotInK, xfSorted, xVar, xVar1, xC, xN, xOp, xOp1, xOp2, xUn, xUn1, xNil, xCons, xCons1, xCons2, xTup, xTup1, xLst, xLst1, xTru, xTru1, xOb, tru_non, tru_bl, tru_int, tru_lst, tru_tup, xTB, xTB1, xAndT, xAndT1, xAndT2, xOrT, xOrT1, xOrT2, xNotT, xNotT1, xAnd, xAnd1, xAnd2, xOr, xOr1, xOr2, xNot, xNot1, xIfE, xIfE1, xIfE2, xCh, xCh1, xCh2, xCh3, xCh3b, xCh4, xNoP, xPart, xPart1, xCut, xCut1, xCut2, xCut3, xB, xB1, xCall, xCall1, xCallK, xCallK1, perm_nil, perm_cons, xCat, xCat1, xCat2, xRev, xRevL, xRevT, sSkip, sSeq, sRet, sRetN, sIf, sIf1, sIf2, sDrop, sDrop1, sBrk, sCnt, sSet, sSet1, sAsg, sAsg1, gN, gT, gPut, put_nil, put_cons, sAug, sAug1, sAug2, xFr, xFr1, xfLst, sOwn, sOwn1, sApp, sApp1, sApp2, sThaw, sThaw1, sThaw2, sThaw3, xPeek, xPeek1, xPeekd, xPeek2, xPeekT, xPeekT1, xPeekTd, sSetIx, sSetIx1, sSetIx2, sSetIx3, sSetIx4, iSq, iSqL, iSqT, iEn, iEnL, iEnT, iR1, iR11, iR2, iR21, sFor, xComp, sPenN, sPenR, sOwnD, sDSet, sDSet1, sDSet2, sDSet3, sDSet5, dKi, dKs, sThawD, sThawD1, iIt, iIt1, gPn, gPt, gPs0, gPs1, gPs2, sTry, sTry1, sTryN, sTryR, sTryR2, sTryB, sTryC, sRaise, nOw0, nOw1, nOw2, fld0, fld1, xIsX1, xIsX2, xIsNotX, xIsNX, U.l0, U.l1, U.s0, U.s1, wS0, wS1, beq_self_eq_true, sSet2, sSet21, sPar, sPar1, sOwnM, sOwnM1, sExt, sExt1, sExt2, sWh1, sWh2, xIsNI, xIsNNo, xIsNotI, xIsNotNo, xIsNotL, xIsNotT, xIsNotS, xIsS, xIsL, xIsT, xNeS, sRetO, sRetO1, sRetF, xCallF, xCallF1, xCallFK, xCallFK1, List.getD_cons_zero, List.getD_cons_succ, Bool.not_true, Bool.not_false, Bool.not_not, xLt, xLe, xGt, xGe, xEqI, xEqS, xNeI, xLenS, xLenL, xLenT, xAddI, xAddS, xAddL, xAddT, xSubI, xMulI, xMulL, xMulT, xDivI, xModI, xPowI, xNegI, xIntI, xIntB, xAbsI, xMin2, xMax2, xListL, xListT, xTupleL, xTupleT, xCutL, xCutT, xIsN, xIsB, xIsNotB, xIx0T, xIx1T, xIx2T, xIx3T, xIx0L, xIx1L, Int.reduceSub, Int.reduceAdd, Int.reduceMul, Int.reduceToNat, Int.reducePow, Int.reduceNeg]
  refine sIfk.mpr ⟨fun hc => ?_, fun hc => ?_⟩
  · simp only [iSt, iSt1, xSplit, xRmPre, xInSg, xFs, xFs0, xFs1, xFs2, xFs3, xFmt, xFmtI, xFmtS, xStrI, xStrS, xM1, xM11, xM12, xInK, xNotInK, xfSorted, xVar, xVar1, xC, xN, xOp, xOp1, xOp2, xUn, xUn1, xNil, xCons, xCons1, xCons2, xTup, xTup1, xLst, xLst1, xTru, xTru1, xOb, tru_non, tru_bl, tru_int, tru_lst, tru_tup, xTB, xTB1, xAndT, xAndT1, xAndT2, xOrT, xOrT1, xOrT2, xNotT, xNotT1, xAnd, xAnd1, xAnd2, xOr, xOr1, xOr2, xNot, xNot1, xIfE, xIfE1, xIfE2, xCh, xCh1, xCh2, xCh3, xCh3b, xCh4, xNoP, xPart, xPart1, xCut, xCut1, xCut2, xCut3, xB, xB1, xCall, xCall1, xCallK, xCallK1, perm_nil, perm_cons, xCat, xCat1, xCat2, xRev, xRevL, xRevT, sSkip, sSeq, sRet, sRetN, sIf, sIf1, sIf2, sDrop, sDrop1, sBrk, sCnt, sSet, sSet1, sAsg, sAsg1, gN, gT, gPut, put_nil, put_cons, sAug, sAug1, sAug2, xFr, xFr1, xfLst, sOwn, sOwn1, sApp, sApp1, sApp2, sThaw, sThaw1, sThaw2, sThaw3, xPeek, xPeek1, xPeekd, xPeek2, xPeekT, xPeekT1, xPeekTd, sSetIx, sSetIx1, sSetIx2, sSetIx3, sSetIx4, iSq, iSqL, iSqT, iEn, iEnL, iEnT, iR1, iR11, iR2, iR21, sFor, xComp, sPenN, sPenR, sOwnD, sDSet, sDSet1, sDSet2, sDSet3, sDSet5, dKi, dKs, sThawD, sThawD1, iIt, iIt1, gPn, gPt, gPs0, gPs1, gPs2, sTry, sTry1, sTryN, sTryR, sTryR2, sTryB, sTryC, sRaise, nOw0, nOw1, nOw2, fld0, fld1, xIsX1, xIsX2, xIsNotX, xIsNX, U.l0, U.l1, U.s0, U.s1, wS0, wS1, beq_self_eq_true, sSet2, sSet21, sPar, sPar1, sOwnM, sOwnM1, sExt, sExt1, sExt2, sWh1, sWh2, xIsNI, xIsNNo, xIsNotI, xIsNotNo, xIsNotL, xIsNotT, xIsNotS, xIsS, xIsL, xIsT, xNeS, sRetO, sRetO1, sRetF, xCallF, xCallF1, xCallFK, xCallFK1, List.getD_cons_zero, List.getD_cons_succ, Bool.not_true, Bool.not_false, Bool.not_not, xLt, xLe, xGt, xGe, xEqI, xEqS, xNeI, xLenS, xLenL, xLenT, xAddI, xAddS, xAddL, xAddT, xSubI, xMulI, xMulL, xMulT, xDivI, xModI, xPowI, xNegI, xIntI, xIntB, xAbsI, xMin2, xMax2, xListL, xListT, xTupleL, xTupleT, xCutL, xCutT, xIsN, xIsB, xIsNotB, xIx0T, xIx1T, xIx2T, xIx3T, xIx0L, xIx1L, Int.reduceSub, Int.reduceAdd, Int.reduceMul, Int.reduceToNat, Int.reducePow, Int.reduceNeg]
    refine draw_use hp (by decide) (by decide) (by omega) fun j h2 h3 => ?_
    simp only [iSt, iSt1, xSplit, xRmPre, xInSg, xFs, xFs0, xFs1, xFs2, xFs3, xFmt, xFmtI, xFmtS, xStrI, xStrS, xM1, xM11, xM12, xInK, xNotInK, xfSorted, xVar, xVar1, xC, xN, xOp, xOp1, xOp2, xUn, xUn1, xNil, xCons, xCons1, xCons2, xTup, xTup1, xLst, xLst1, xTru, xTru1, xOb, tru_non, tru_bl, tru_int, tru_lst, tru_tup, xTB, xTB1, xAndT, xAndT1, xAndT2, xOrT, xOrT1, xOrT2, xNotT, xNotT1, xAnd, xAnd1, xAnd2, xOr, xOr1, xOr2, xNot, xNot1, xIfE, xIfE1, xIfE2, xCh, xCh1, xCh2, xCh3, xCh3b, xCh4, xNoP, xPart, xPart1, xCut, xCut1, xCut2, xCut3, xB, xB1, xCall, xCall1, xCallK, xCallK1, perm_nil, perm_cons, xCat, xCat1, xCat2, xRev, xRevL, xRevT, sSkip, sSeq, sRet, sRetN, sIf, sIf1, sIf2, sDrop, sDrop1, sBrk, sCnt, sSet, sSet1, sAsg, sAsg1, gN, gT, gPut, put_nil, put_cons, sAug, sAug1, sAug2, xFr, xFr1, xfLst, sOwn, sOwn1, sApp, sApp1, sApp2, sThaw, sThaw1, sThaw2, sThaw3, xPeek, xPeek1, xPeekd, xPeek2, xPeekT, xPeekT1, xPeekTd, sSetIx, sSetIx1, sSetIx2, sSetIx3, sSetIx4, iSq, iSqL, iSqT, iEn, iEnL, iEnT, iR1, iR11, iR2, iR21, sFor, xComp, sPenN, sPenR, sOwnD, sDSet, sDSet1, sDSet2, sDSet3, sDSet5, dKi, dKs, sThawD, sThawD1, iIt, iIt1, gPn, gPt, gPs0, gPs1, gPs2, sTry, sTry1, sTryN, sTryR, sTryR2, sTryB, sTryC, sRaise, nOw0, nOw1, nOw2, fld0, fld1, xIsX1, xIsX2, xIsNotX, xIsNX, U.l0, U.l1, U.s0, U.s1, wS0, wS1, beq_self_eq_true, sSet2, sSet21, sPar, sPar1, sOwnM, sOwnM1, sExt, sExt1, sExt2, sWh1, sWh2, xIsNI, xIsNNo, xIsNotI, xIsNotNo, xIsNotL, xIsNotT, xIsNotS, xIsS, xIsL, xIsT, xNeS, sRetO, sRetO1, sRetF, xCallF, xCallF1, xCallFK, xCallFK1, List.getD_cons_zero, List.getD_cons_succ, Bool.not_true, Bool.not_false, Bool.not_not, xLt, xLe, xGt, xGe, xEqI, xEqS, xNeI, xLenS, xLenL, xLenT, xAddI, xAddS, xAddL, xAddT, xSubI, xMulI, xMulL, xMulT, xDivI, xModI, xPowI, xNegI, xIntI, xIntB, xAbsI, xMin2, xMax2, xListL, xListT, xTupleL, xTupleT, xCutL, xCutT, xIsN, xIsB, xIsNotB, xIx0T, xIx1T, xIx2T, xIx3T, xIx0L, xIx1L, Int.reduceSub, Int.reduceAdd, Int.reduceMul, Int.reduceToNat, Int.reducePow, Int.reduceNeg]
    refine gIx_lst h2 h3 fun e he => ?_
    obtain ⟨z, rfl, z0, z1⟩ : ∃ z : Int, e = .int z ∧ 0 < z ∧ z ≤ 80 := by
      simp only [List.mem_cons, List.not_mem_nil, or_false] at he
      rcases he with rfl | rfl <;> exact ⟨_, rfl, by omega, by omega⟩
    simp only [iSt, iSt1, xSplit, xRmPre, xInSg, xFs, xFs0, xFs1, xFs2, xFs3, xFmt, xFmtI, xFmtS, xStrI, xStrS, xM1, xM11, xM12, xInK, xNotInK, xfSorted, xVar, xVar1, xC, xN, xOp, xOp1, xOp2, xUn, xUn1, xNil, xCons, xCons1, xCons2, xTup, xTup1, xLst, xLst1, xTru, xTru1, xOb, tru_non, tru_bl, tru_int, tru_lst, tru_tup, xTB, xTB1, xAndT, xAndT1, xAndT2, xOrT, xOrT1, xOrT2, xNotT, xNotT1, xAnd, xAnd1, xAnd2, xOr, xOr1, xOr2, xNot, xNot1, xIfE, xIfE1, xIfE2, xCh, xCh1, xCh2, xCh3, xCh3b, xCh4, xNoP, xPart, xPart1, xCut, xCut1, xCut2, xCut3, xB, xB1, xCall, xCall1, xCallK, xCallK1, perm_nil, perm_cons, xCat, xCat1, xCat2, xRev, xRevL, xRevT, sSkip, sSeq, sRet, sRetN, sIf, sIf1, sIf2, sDrop, sDrop1, sBrk, sCnt, sSet, sSet1, sAsg, sAsg1, gN, gT, gPut, put_nil, put_cons, sAug, sAug1, sAug2, xFr, xFr1, xfLst, sOwn, sOwn1, sApp, sApp1, sApp2, sThaw, sThaw1, sThaw2, sThaw3, xPeek, xPeek1, xPeekd, xPeek2, xPeekT, xPeekT1, xPeekTd, sSetIx, sSetIx1, sSetIx2, sSetIx3, sSetIx4, iSq, iSqL, iSqT, iEn, iEnL, iEnT, iR1, iR11, iR2, iR21, sFor, xComp, sPenN, sPenR, sOwnD, sDSet, sDSet1, sDSet2, sDSet3, sDSet5, dKi, dKs, sThawD, sThawD1, iIt, iIt1, gPn, gPt, gPs0, gPs1, gPs2, sTry, sTry1, sTryN, sTryR, sTryR2, sTryB, sTryC, sRaise, nOw0, nOw1, nOw2, fld0, fld1, xIsX1, xIsX2, xIsNotX, xIsNX, U.l0, U.l1, U.s0, U.s1, wS0, wS1, beq_self_eq_true, sSet2, sSet21, sPar, sPar1, sOwnM, sOwnM1, sExt, sExt1, sExt2, sWh1, sWh2, xIsNI, xIsNNo, xIsNotI, xIsNotNo, xIsNotL, xIsNotT, xIsNotS, xIsS, xIsL, xIsT, xNeS, sRetO, sRetO1, sRetF, xCallF, xCallF1, xCallFK, xCallFK1, List.getD_cons_zero, List.getD_cons_succ, Bool.not_true, Bool.not_false, Bool.not_not, xLt, xLe, xGt, xGe, xEqI, xEqS, xNeI, xLenS, xLenL, xLenT, xAddI, xAddS, xAddL, xAddT, xSubI, xMulI, xMulL, xMulT, xDivI, xModI, xPowI, xNegI, xIntI, xIntB, xAbsI, xMin2, xMax2, xListL, xListT, xTupleL, xTupleT, xCutL, xCutT, xIsN, xIsB, xIsNotB, xIx0T, xIx1T, xIx2T, xIx3T, xIx0L, xIx1L, Int.reduceSub, Int.reduceAdd, Int.reduceMul, Int.reduceToNat, Int.reducePow, Int.reduceNeg]
    refine draw_use hp z0 (by omega) (by omega) fun v h4 h5 => ?_
    simp only [iSt, iSt1, xSplit, xRmPre, xInSg, xFs, xFs0, xFs1, xFs2, xFs3, xFmt, xFmtI, xFmtS, xStrI, xStrS, xM1, xM11, xM12, xInK, xNotInK, xfSorted, xVar, xVar1, xC, xN, xOp, xOp1, xOp2, xUn, xUn1, xNil, xCons, xCons1, xCons2, xTup, xTup1, xLst, xLst1, xTru, xTru1, xOb, tru_non, tru_bl, tru_int, tru_lst, tru_tup, xTB, xTB1, xAndT, xAndT1, xAndT2, xOrT, xOrT1, xOrT2, xNotT, xNotT1, xAnd, xAnd1, xAnd2, xOr, xOr1, xOr2, xNot, xNot1, xIfE, xIfE1, xIfE2, xCh, xCh1, xCh2, xCh3, xCh3b, xCh4, xNoP, xPart, xPart1, xCut, xCut1, xCut2, xCut3, xB, xB1, xCall, xCall1, xCallK, xCallK1, perm_nil, perm_cons, xCat, xCat1, xCat2, xRev, xRevL, xRevT, sSkip, sSeq, sRet, sRetN, sIf, sIf1, sIf2, sDrop, sDrop1, sBrk, sCnt, sSet, sSet1, sAsg, sAsg1, gN, gT, gPut, put_nil, put_cons, sAug, sAug1, sAug2, xFr, xFr1, xfLst, sOwn, sOwn1, sApp, sApp1, sApp2, sThaw, sThaw1, sThaw2, sThaw3, xPeek, xPeek1, xPeekd, xPeek2, xPeekT, xPeekT1, xPeekTd, sSetIx, sSetIx1, sSetIx2, sSetIx3, sSetIx4, iSq, iSqL, iSqT, iEn, iEnL, iEnT, iR1, iR11, iR2, iR21, sFor, xComp, sPenN, sPenR, sOwnD, sDSet, sDSet1, sDSet2, sDSet3, sDSet5, dKi, dKs, sThawD, sThawD1, iIt, iIt1, gPn, gPt, gPs0, gPs1, gPs2, sTry, sTry1, sTryN, sTryR, sTryR2, sTryB, sTryC, sRaise, nOw0, nOw1, nOw2, fld0, fld1, xIsX1, xIsX2, xIsNotX, xIsNX, U.l0, U.l1, U.s0, U.s1, wS0, wS1, beq_self_eq_true, sSet2, sSet21, sPar, sPar1, sOwnM, sOwnM1, sExt, sExt1, sExt2, sWh1, sWh2, xIsNI, xIsNNo, xIsNotI, xIsNotNo, xIsNotL, xIsNotT, xIsNotS, xIsS, xIsL, xIsT, xNeS, sRetO, sRetO1, sRetF, xCallF, xCallF1, xCallFK, xCallFK1, List.getD_cons_zero, List.getD_cons_succ, Bool.not_true, Bool.not_false, Bool.not_not, xLt, xLe, xGt, xGe, xEqI, xEqS, xNeI, xLenS, xLenL, xLenT, xAddI, xAddS, xAddL, xAddT, xSubI, xMulI, xMulL, xMulT, xDivI, xModI, xPowI, xNegI, xIntI, xIntB, xAbsI, xMin2, xMax2, xListL, xListT, xTupleL, xTupleT, xCutL, xCutT, xIsN, xIsB, xIsNotB, xIx0T, xIx1T, xIx2T, xIx3T, xIx0L, xIx1L, Int.reduceSub, Int.reduceAdd, Int.reduceMul, Int.reduceToNat, Int.reducePow, Int.reduceNeg]
    refine ⟨.inl (by decide), ⟨by decide, by decide⟩, ?_⟩
    refine draw_use hp (by decide) (by decide) (by omega) fun j2 h6 h7 => ?_
    simp only [iSt, iSt1, xSplit, xRmPre, xInSg, xFs, xFs0, xFs1, xFs2, xFs3, xFmt, xFmtI, xFmtS, xStrI, xStrS, xM1, xM11, xM12, xInK, xNotInK, xfSorted, xVar, xVar1, xC, xN, xOp, xOp1, xOp2, xUn, xUn1, xNil, xCons, xCons1, xCons2, xTup, xTup1, xLst, xLst1, xTru, xTru1, xOb, tru_non, tru_bl, tru_int, tru_lst, tru_tup, xTB, xTB1, xAndT, xAndT1, xAndT2, xOrT, xOrT1, xOrT2, xNotT, xNotT1, xAnd, xAnd1, xAnd2, xOr, xOr1, xOr2, xNot, xNot1, xIfE, xIfE1, xIfE2, xCh, xCh1, xCh2, xCh3, xCh3b, xCh4, xNoP, xPart, xPart1, xCut, xCut1, xCut2, xCut3, xB, xB1, xCall, xCall1, xCallK, xCallK1, perm_nil, perm_cons, xCat, xCat1, xCat2, xRev, xRevL, xRevT, sSkip, sSeq, sRet, sRetN, sIf, sIf1, sIf2, sDrop, sDrop1, sBrk, sCnt, sSet, sSet1, sAsg, sAsg1, gN, gT, gPut, put_nil, put_cons, sAug, sAug1, sAug2, xFr, xFr1, xfLst, sOwn, sOwn1, sApp, sApp1, sApp2, sThaw, sThaw1, sThaw2, sThaw3, xPeek, xPeek1, xPeekd, xPeek2, xPeekT, xPeekT1, xPeekTd, sSetIx, sSetIx1, sSetIx2, sSetIx3, sSetIx4, iSq, iSqL, iSqT, iEn, iEnL, iEnT, iR1, iR11, iR2, iR21, sFor, xComp, sPenN, sPenR, sOwnD, sDSet, sDSet1, sDSet2, sDSet3, sDSet5, dKi, dKs, sThawD, sThawD1, iIt, iIt1, gPn, gPt, gPs0, gPs1, gPs2, sTry, sTry1, sTryN, sTryR, sTryR2, sTryB, sTryC, sRaise, nOw0, nOw1, nOw2, fld0, fld1, xIsX1, xIsX2, xIsNotX, xIsNX, U.l0, U.l1, U.s0, U.s1, wS0, wS1, beq_self_eq_true, sSet2, sSet21, sPar, sPar1, sOwnM, sOwnM1, sExt, sExt1, sExt2, sWh1, sWh2, xIsNI, xIsNNo, xIsNotI, xIsNotNo, xIsNotL, xIsNotT, xIsNotS, xIsS, xIsL, xIsT, xNeS, sRetO, sRetO1, sRetF, xCallF, xCallF1, xCallFK, xCallFK1, List.getD_cons_zero, List.getD_cons_succ, Bool.not_true, Bool.not_false, Bool.not_not, xLt, xLe, xGt, xGe, xEqI, xEqS, xNeI, xLenS, xLenL, xLenT, xAddI, xAddS, xAddL, xAddT, xSubI, xMulI, xMulL, xMulT, xDivI, xModI, xPowI, xNegI, xIntI, xIntB, xAbsI, xMin2, xMax2, xListL, xListT, xTupleL, xTupleT, xCutL, xCutT, xIsN, xIsB, xIsNotB, xIx0T, xIx1T, xIx2T, xIx3T, xIx0L, xIx1L, Int.reduceSub, Int.reduceAdd, Int.reduceMul, Int.reduceToNat, Int.reducePow, Int.reduceNeg]
    refine gIx_lst h6 h7 fun e he => ?_
    obtain ⟨y, rfl, y0, y1⟩ : ∃ z : Int, e = .int z ∧ 0 < z ∧ z ≤ 40 := by
      simp only [List.mem_cons, List.not_mem_nil, or_false] at he
      rcases he with rfl | rfl | rfl <;> exact ⟨_, rfl, by omega, by omega⟩
    simp only [iSt, iSt1, xSplit, xRmPre, xInSg, xFs, xFs0, xFs1, xFs2, xFs3, xFmt, xFmtI, xFmtS, xStrI, xStrS, xM1, xM11, xM12, xInK, xNotInK, xfSorted, xVar, xVar1, xC, xN, xOp, xOp1, xOp2, xUn, xUn1, xNil, xCons, xCons1, xCons2, xTup, xTup1, xLst, xLst1, xTru, xTru1, xOb, tru_non, tru_bl, tru_int, tru_lst, tru_tup, xTB, xTB1, xAndT, xAndT1, xAndT2, xOrT, xOrT1, xOrT2, xNotT, xNotT1, xAnd, xAnd1, xAnd2, xOr, xOr1, xOr2, xNot, xNot1, xIfE, xIfE1, xIfE2, xCh, xCh1, xCh2, xCh3, xCh3b, xCh4, xNoP, xPart, xPart1, xCut, xCut1, xCut2, xCut3, xB, xB1, xCall, xCall1, xCallK, xCallK1, perm_nil, perm_cons, xCat, xCat1, xCat2, xRev, xRevL, xRevT, sSkip, sSeq, sRet, sRetN, sIf, sIf1, sIf2, sDrop, sDrop1, sBrk, sCnt, sSet, sSet1, sAsg, sAsg1, gN, gT, gPut, put_nil, put_cons, sAug, sAug1, sAug2, xFr, xFr1, xfLst, sOwn, sOwn1, sApp, sApp1, sApp2, sThaw, sThaw1, sThaw2, sThaw3, xPeek, xPeek1, xPeekd, xPeek2, xPeekT, xPeekT1, xPeekTd, sSetIx, sSetIx1, sSetIx2, sSetIx3, sSetIx4, iSq, iSqL, iSqT, iEn, iEnL, iEnT, iR1, iR11, iR2, iR21, sFor, xComp, sPenN, sPenR, sOwnD, sDSet, sDSet1, sDSet2, sDSet3, sDSet5, dKi, dKs, sThawD, sThawD1, iIt, iIt1, gPn, gPt, gPs0, gPs1, gPs2, sTry, sTry1, sTryN, sTryR, sTryR2, sTryB, sTryC, sRaise, nOw0, nOw1, nOw2, fld0, fld1, xIsX1, xIsX2, xIsNotX, xIsNX, U.l0, U.l1, U.s0, U.s1, wS0, wS1, beq_self_eq_true, sSet2, sSet21, sPar, sPar1, sOwnM, sOwnM1, sExt, sExt1, sExt2, sWh1, sWh2, xIsNI, xIsNNo, xIsNotI, xIsNotNo, xIsNotL, xIsNotT, xIsNotS, xIsS, xIsL, xIsT, xNeS, sRetO, sRetO1, sRetF, xCallF, xCallF1, xCallFK, xCallFK1, List.getD_cons_zero, List.getD_cons_succ, Bool.not_true, Bool.not_false, Bool.not_not, xLt, xLe, xGt, xGe, xEqI, xEqS, xNeI, xLenS, xLenL, xLenT, xAddI, xAddS, xAddL, xAddT, xSubI, xMulI, xMulL, xMulT, xDivI, xModI, xPowI, xNegI, xIntI, xIntB, xAbsI, xMin2, xMax2, xListL, xListT, xTupleL, xTupleT, xCutL, xCutT, xIsN, xIsB, xIsNotB, xIx0T, xIx1T, xIx2T, xIx3T, xIx0L, xIx1L, Int.reduceSub, Int.reduceAdd, Int.reduceMul, Int.reduceToNat, Int.reducePow, Int.reduceNeg]
    refine draw_use hp y0 (by omega) (by omega) fun u h8 h9 => ?_
    simp only [iSt, iSt1, xSplit, xRmPre, xInSg, xFs, xFs0, xFs1, xFs2, xFs3, xFmt, xFmtI, xFmtS, xStrI, xStrS, xM1, xM11, xM12, xInK, xNotInK, xfSorted, xVar, xVar1, xC, xN, xOp, xOp1, xOp2, xUn, xUn1, xNil, xCons, xCons1, xCons2, xTup, xTup1, xLst, xLst1, xTru, xTru1, xOb, tru_non, tru_bl, tru_int, tru_lst, tru_tup, xTB, xTB1, xAndT, xAndT1, xAndT2, xOrT, xOrT1, xOrT2, xNotT, xNotT1, xAnd, xAnd1, xAnd2, xOr, xOr1, xOr2, xNot, xNot1, xIfE, xIfE1, xIfE2, xCh, xCh1, xCh2, xCh3, xCh3b, xCh4, xNoP, xPart, xPart1, xCut, xCut1, xCut2, xCut3, xB, xB1, xCall, xCall1, xCallK, xCallK1, perm_nil, perm_cons, xCat, xCat1, xCat2, xRev, xRevL, xRevT, sSkip, sSeq, sRet, sRetN, sIf, sIf1, sIf2, sDrop, sDrop1, sBrk, sCnt, sSet, sSet1, sAsg, sAsg1, gN, gT, gPut, put_nil, put_cons, sAug, sAug1, sAug2, xFr, xFr1, xfLst, sOwn, sOwn1, sApp, sApp1, sApp2, sThaw, sThaw1, sThaw2, sThaw3, xPeek, xPeek1, xPeekd, xPeek2, xPeekT, xPeekT1, xPeekTd, sSetIx, sSetIx1, sSetIx2, sSetIx3, sSetIx4, iSq, iSqL, iSqT, iEn, iEnL, iEnT, iR1, iR11, iR2, iR21, sFor, xComp, sPenN, sPenR, sOwnD, sDSet, sDSet1, sDSet2, sDSet3, sDSet5, dKi, dKs, sThawD, sThawD1, iIt, iIt1, gPn, gPt, gPs0, gPs1, gPs2, sTry, sTry1, sTryN, sTryR, sTryR2, sTryB, sTryC, sRaise, nOw0, nOw1, nOw2, fld0, fld1, xIsX1, xIsX2, xIsNotX, xIsNX, U.l0, U.l1, U.s0, U.s1, wS0, wS1, beq_self_eq_true, sSet2, sSet21, sPar, sPar1, sOwnM, sOwnM1, sExt, sExt1, sExt2, sWh1, sWh2, xIsNI, xIsNNo, xIsNotI, xIsNotNo, xIsNotL, xIsNotT, xIsNotS, xIsS, xIsL, xIsT, xNeS, sRetO, sRetO1, sRetF, xCallF, xCallF1, xCallFK, xCallFK1, List.getD_cons_zero, List.getD_cons_succ, Bool.not_true, Bool.not_false, Bool.not_not, xLt, xLe, xGt, xGe, xEqI, xEqS, xNeI, xLenS, xLenL, xLenT, xAddI, xAddS, xAddL, xAddT, xSubI, xMulI, xMulL, xMulT, xDivI, xModI, xPowI, xNegI, xIntI, xIntB, xAbsI, xMin2, xMax2, xListL, xListT, xTupleL, xTupleT, xCutL, xCutT, xIsN, xIsB, xIsNotB, xIx0T, xIx1T, xIx2T, xIx3T, xIx0L, xIx1L, Int.reduceSub, Int.reduceAdd, Int.reduceMul, Int.reduceToNat, Int.reducePow, Int.reduceNeg]
    refine hQ (.factor _ _) _ ⟨?_, ?_, ?_, ?_, ?_⟩ (by omega)
    · split <;> omega
    · split <;> omega
    · omega
    · omega
    · split <;> omega
  simp only [iSt, iSt1, xSplit, xRmPre, xInSg, xFs, xFs0, xFs1, xFs2, xFs3, xFmt, xFmtI, xFmtS, xStrI, xStrS, xM1, xM11, xM12, xInK, xNotInK, xfSorted, xVar, xVar1, xC, xN, xOp, xOp1, xOp2, xUn, xUn1, xNil, xCons, xCons1, xCons2, xTup, xTup1, xLst, xLst1, xTru, xTru1, xOb, tru_non, tru_bl, tru_int, tru_lst, tru_tup, xTB, xTB1, xAndT, xAndT1, xAndT2, xOrT, xOrT1, xOrT2, xNotT, xNotT1, xAnd, xAnd1, xAnd2, xOr, xOr1, xOr2, xNot, xNot1, xIfE, xIfE1, xIfE2, xCh, xCh1, xCh2, xCh3, xCh3b, xCh4, xNoP, xPart, xPart1, xCut, xCut1, xCut2, xCut3, xB, xB1, xCall, xCall1, xCallK, xCallK1, perm_nil, perm_cons, xCat, xCat1, xCat2, xRev, xRevL, xRevT, sSkip, sSeq, sRet, sRetN, sIf, sIf1, sIf2, sDrop, sDrop1, sBrk, sCnt, sSet, sSet1, sAsg, sAsg1, gN, gT, gPut, put_nil, put_cons, sAug, sAug1, sAug2, xFr, xFr1, xfLst, sOwn, sOwn1, sApp, sApp1, sApp2, sThaw, sThaw1, sThaw2, sThaw3, xPeek, xPeek1, xPeekd, xPeek2, xPeekT, xPeekT1, xPeekTd, sSetIx, sSetIx1, sSetIx2, sSetIx3, sSetIx4, iSq, iSqL, iSqT, iEn, iEnL, iEnT, iR1, iR11, iR2, iR21, sFor, xComp, sPenN, sPenR, sOwnD, sDSet, sDSet1, sDSet2, sDSet3, sDSet5, dKi, dKs, sThawD, sThawD1, iIt, iIt1, gPn, gPt, gPs0, gPs1, gPs2, sTry, sTry1, sTryN, sTryR, sTryR2, sTryB, sTryC, sRaise, nOw0, nOw1, nOw2, fld0, fld1, xIsX1, xIsX2, xIsNotX, xIsNX, U.l0, U.l1, U.s0, U.s1, wS0, wS1, beq_self_eq_true, sSet2, sSet21, sPar, sPar1, sOwnM, sOwnM1, sExt, sExt1, sExt2, sWh1, sWh2, xIsNI, xIsNNo, xIsNotI, xIsNotNo, xIsNotL, xIsNotT, xIsNotS, xIsS, xIsL, xIsT, xNeS, sRetO, sRetO1, sRetF, xCallF, xCallF1, xCallFK, xCallFK1, List.getD_cons_zero, List.getD_cons_succ, Bool.not_true, Bool.not_false, Bool.not_not, xLt, xLe, xGt, xGe, xEqI, xEqS, xNeI, xLenS, xLenL, xLenT, xAddI, xAddS, xAddL, xAddT, xSubI, xMulI, xMulL, xMulT, xDivI, xModI, xPowI, xNegI, xIntI, xIntB, xAbsI, xMin2, xMax2, xListL, xListT, xTupleL, xTupleT, xCutL, xCutT, xIsN, xIsB, xIsNotB, xIx0T, xIx1T, xIx2T, xIx3T, xIx0L, xIx1L, Int.reduceSub, Int.reduceAdd, Int.reduceMul, Int.reduceToNat, Int.reducePow, Int.reduceNeg]
  intro a
  refine draw_use hp (by decide) (by decide) (by omega) fun l0 h2 h3 => ?_
  simp only [iSt, iSt1, xSplit, xRmPre, xInSg, xFs, xFs0, xFs1, xFs2, xFs3, xFmt, xFmtI, xFmtS, xStrI, xStrS, xM1, xM11, xM12, xInK, xNotInK, xfSorted, xVar, xVar1, xC, xN, xOp, xOp1, xOp2, xUn, xUn1, xNil, xCons, xCons1, xCons2, xTup, xTup1, xLst, xLst1, xTru, xTru1, xOb, tru_non, tru_bl, tru_int, tru_lst, tru_tup, xTB, xTB1, xAndT, xAndT1, xAndT2, xOrT, xOrT1, xOrT2, xNotT, xNotT1, xAnd, xAnd1, xAnd2, xOr, xOr1, xOr2, xNot, xNot1, xIfE, xIfE1, xIfE2, xCh, xCh1, xCh2, xCh3, xCh3b, xCh4, xNoP, xPart, xPart1, xCut, xCut1, xCut2, xCut3, xB, xB1, xCall, xCall1, xCallK, xCallK1, perm_nil, perm_cons, xCat, xCat1, xCat2, xRev, xRevL, xRevT, sSkip, sSeq, sRet, sRetN, sIf, sIf1, sIf2, sDrop, sDrop1, sBrk, sCnt, sSet, sSet1, sAsg, sAsg1, gN, gT, gPut, put_nil, put_cons, sAug, sAug1, sAug2, xFr, xFr1, xfLst, sOwn, sOwn1, sApp, sApp1, sApp2, sThaw, sThaw1, sThaw2, sThaw3, xPeek, xPeek1, xPeekd, xPeek2, xPeekT, xPeekT1, xPeekTd, sSetIx, sSetIx1, sSetIx2, sSetIx3, sSetIx4, iSq, iSqL, iSqT, iEn, iEnL, iEnT, iR1, iR11, iR2, iR21, sFor, xComp, sPenN, sPenR, sOwnD, sDSet, sDSet1, sDSet2, sDSet3, sDSet5, dKi, dKs, sThawD, sThawD1, iIt, iIt1, gPn, gPt, gPs0, gPs1, gPs2, sTry, sTry1, sTryN, sTryR, sTryR2, sTryB, sTryC, sRaise, nOw0, nOw1, nOw2, fld0, fld1, xIsX1, xIsX2, xIsNotX, xIsNX, U.l0, U.l1, U.s0, U.s1, wS0, wS1, beq_self_eq_true, sSet2, sSet21, sPar, sPar1, sOwnM, sOwnM1, sExt, sExt1, sExt2, sWh1, sWh2, xIsNI, xIsNNo, xIsNotI, xIsNotNo, xIsNotL, xIsNotT, xIsNotS, xIsS, xIsL, xIsT, xNeS, sRetO, sRetO1, sRetF, xCallF, xCallF1, xCallFK, xCallFK1, List.getD_cons_zero, List.getD_cons_succ, Bool.not_true, Bool.not_false, Bool.not_not, xLt, xLe, xGt, xGe, xEqI, xEqS, xNeI, xLenS, xLenL, xLenT, xAddI, xAddS, xAddL, xAddT, xSubI, xMulI, xMulL, xMulT, xDivI, xModI, xPowI, xNegI, xIntI, xIntB, xAbsI, xMin2, xMax2, xListL, xListT, xTupleL, xTupleT, xCutL, xCutT, xIsN, xIsB, xIsNotB, xIx0T, xIx1T, xIx2T, xIx3T, xIx0L, xIx1L, Int.reduceSub, Int.reduceAdd, Int.reduceMul, Int.reduceToNat, Int.reducePow, Int.reduceNeg]
  refine draw_use hp (by decide) (by decide) (by omega) fun j h4 h5 => ?_
  simp only [iSt, iSt1, xSplit, xRmPre, xInSg, xFs, xFs0, xFs1, xFs2, xFs3, xFmt, xFmtI, xFmtS, xStrI, xStrS, xM1, xM11, xM12, xInK, xNotInK, xfSorted, xVar, xVar1, xC, xN, xOp, xOp1, xOp2, xUn, xUn1, xNil, xCons, xCons1, xCons2, xTup, xTup1, xLst, xLst1, xTru, xTru1, xOb, tru_non, tru_bl, tru_int, tru_lst, tru_tup, xTB, xTB1, xAndT, xAndT1, xAndT2, xOrT, xOrT1, xOrT2, xNotT, xNotT1, xAnd, xAnd1, xAnd2, xOr, xOr1, xOr2, xNot, xNot1, xIfE, xIfE1, xIfE2, xCh, xCh1, xCh2, xCh3, xCh3b, xCh4, xNoP, xPart, xPart1, xCut, xCut1, xCut2, xCut3, xB, xB1, xCall, xCall1, xCallK, xCallK1, perm_nil, perm_cons, xCat, xCat1, xCat2, xRev, xRevL, xRevT, sSkip, sSeq, sRet, sRetN, sIf, sIf1, sIf2, sDrop, sDrop1, sBrk, sCnt, sSet, sSet1, sAsg, sAsg1, gN, gT, gPut, put_nil, put_cons, sAug, sAug1, sAug2, xFr, xFr1, xfLst, sOwn, sOwn1, sApp, sApp1, sApp2, sThaw, sThaw1, sThaw2, sThaw3, xPeek, xPeek1, xPeekd, xPeek2, xPeekT, xPeekT1, xPeekTd, sSetIx, sSetIx1, sSetIx2, sSetIx3, sSetIx4, iSq, iSqL, iSqT, iEn, iEnL, iEnT, iR1, iR11, iR2, iR21, sFor, xComp, sPenN, sPenR, sOwnD, sDSet, sDSet1, sDSet2, sDSet3, sDSet5, dKi, dKs, sThawD, sThawD1, iIt, iIt1, gPn, gPt, gPs0, gPs1, gPs2, sTry, sTry1, sTryN, sTryR, sTryR2, sTryB, sTryC, sRaise, nOw0, nOw1, nOw2, fld0, fld1, xIsX1, xIsX2, xIsNotX, xIsNX, U.l0, U.l1, U.s0, U.s1, wS0, wS1, beq_self_eq_true, sSet2, sSet21, sPar, sPar1, sOwnM, sOwnM1, sExt, sExt1, sExt2, sWh1, sWh2, xIsNI, xIsNNo, xIsNotI, xIsNotNo, xIsNotL, xIsNotT, xIsNotS, xIsS, xIsL, xIsT, xNeS, sRetO, sRetO1, sRetF, xCallF, xCallF1, xCallFK, xCallFK1, List.getD_cons_zero, List.getD_cons_succ, Bool.not_true, Bool.not_false, Bool.not_not, xLt, xLe, xGt, xGe, xEqI, xEqS, xNeI, xLenS, xLenL, xLenT, xAddI, xAddS, xAddL, xAddT, xSubI, xMulI, xMulL, xMulT, xDivI, xModI, xPowI, xNegI, xIntI, xIntB, xAbsI, xMin2, xMax2, xListL, xListT, xTupleL, xTupleT, xCutL, xCutT, xIsN, xIsB, xIsNotB, xIx0T, xIx1T, xIx2T, xIx3T, xIx0L, xIx1L, Int.reduceSub, Int.reduceAdd, Int.reduceMul, Int.reduceToNat, Int.reducePow, Int.reduceNeg]
  refine gIx_lst h4 h5 fun e he => ?_
  obtain ⟨z, rfl, z0, z1⟩ : ∃ z : Int, e = .int z ∧ 0 ≤ z ∧ z ≤ 60 := by
    simp only [List.mem_cons, List.not_mem_nil, or_false] at he
    rcases he with rfl | rfl | rfl | rfl <;> exact ⟨_, rfl, by omega, by omega⟩
  simp only [iSt, iSt1, xSplit, xRmPre, xInSg, xFs, xFs0, xFs1, xFs2, xFs3, xFmt, xFmtI, xFmtS, xStrI, xStrS, xM1, xM11, xM12, xInK, xNotInK, xfSorted, xVar, xVar1, xC, xN, xOp, xOp1, xOp2, xUn, xUn1, xNil, xCons, xCons1, xCons2, xTup, xTup1, xLst, xLst1, xTru, xTru1, xOb, tru_non, tru_bl, tru_int, tru_lst, tru_tup, xTB, xTB1, xAndT, xAndT1, xAndT2, xOrT, xOrT1, xOrT2, xNotT, xNotT1, xAnd, xAnd1, xAnd2, xOr, xOr1, xOr2, xNot, xNot1, xIfE, xIfE1, xIfE2, xCh, xCh1, xCh2, xCh3, xCh3b, xCh4, xNoP, xPart, xPart1, xCut, xCut1, xCut2, xCut3, xB, xB1, xCall, xCall1, xCallK, xCallK1, perm_nil, perm_cons, xCat, xCat1, xCat2, xRev, xRevL, xRevT, sSkip, sSeq, sRet, sRetN, sIf, sIf1, sIf2, sDrop, sDrop1, sBrk, sCnt, sSet, sSet1, sAsg, sAsg1, gN, gT, gPut, put_nil, put_cons, sAug, sAug1, sAug2, xFr, xFr1, xfLst, sOwn, sOwn1, sApp, sApp1, sApp2, sThaw, sThaw1, sThaw2, sThaw3, xPeek, xPeek1, xPeekd, xPeek2, xPeekT, xPeekT1, xPeekTd, sSetIx, sSetIx1, sSetIx2, sSetIx3, sSetIx4, iSq, iSqL, iSqT, iEn, iEnL, iEnT, iR1, iR11, iR2, iR21, sFor, xComp, sPenN, sPenR, sOwnD, sDSet, sDSet1, sDSet2, sDSet3, sDSet5, dKi, dKs, sThawD, sThawD1, iIt, iIt1, gPn, gPt, gPs0, gPs1, gPs2, sTry, sTry1, sTryN, sTryR, sTryR2, sTryB, sTryC, sRaise, nOw0, nOw1, nOw2, fld0, fld1, xIsX1, xIsX2, xIsNotX, xIsNX, U.l0, U.l1, U.s0, U.s1, wS0, wS1, beq_self_eq_true, sSet2, sSet21, sPar, sPar1, sOwnM, sOwnM1, sExt, sExt1, sExt2, sWh1, sWh2, xIsNI, xIsNNo, xIsNotI, xIsNotNo, xIsNotL, xIsNotT, xIsNotS, xIsS, xIsL, xIsT, xNeS, sRetO, sRetO1, sRetF, xCallF, xCallF1, xCallFK, xCallFK1, List.getD_cons_zero, List.getD_cons_succ, Bool.not_true, Bool.not_false, Bool.not_not, xLt, xLe, xGt, xGe, xEqI, xEqS, xNeI, xLenS, xLenL, xLenT, xAddI, xAddS, xAddL, xAddT, xSubI, xMulI, xMulL, xMulT, xDivI, xModI, xPowI, xNegI, xIntI, xIntB, xAbsI, xMin2, xMax2, xListL, xListT, xTupleL, xTupleT, xCutL, xCutT, xIsN, xIsB, xIsNotB, xIx0T, xIx1T, xIx2T, xIx3T, xIx0L, xIx1L, Int.reduceSub, Int.reduceAdd, Int.reduceMul, Int.reduceToNat, Int.reducePow, Int.reduceNeg]
  refine ⟨⟨by omega, by omega⟩, ?_⟩
  have rl : (rngD 0 z.toNat).length = z.toNat := by unfold rngD; simp
  refine sFor1 (fun r ρ => ∃ (es : List (Int × Int)) (l : Int) (y s1 s2 : Sl) (m : Nat), ρ = ⟨[.dat x, .dat (.int w), .own a (es.map enD), .dat (.int l), y, s1, s2], pen, m⟩ ∧ (asc 0 es ∧ (∀ e ∈ es, e.1 < l) ∧ (es.length : Int) ≤ l ∧ es.length ≤ 60) ∧ 0 ≤ l ∧ r.length ≤ 60 ∧ n ≤ m + 3 * (60 - r.length) + 10 ∧ 1000 ≤ n ∧ r.length * 3 + 100 ≤ m) ⟨[], l0, _, _, _, _, rfl, ⟨trivial, (fun _ z => nomatch z), (by simpa using h2), (by simp)⟩, h2, by rw [rl]; omega, by rw [rl]; omega, hn, by rw [rl]; omega⟩ ?_ ?_
  · rintro ρ ⟨es, l, y, s1, s2, m, rfl, hE, h6, h7, h8, h9, h10⟩
    simp only [iSt, iSt1, xSplit, xRmPre, xInSg, xFs, xFs0, xFs1, xFs2, xFs3, xFmt, xFmtI, xFmtS, xStrI, xStrS, xM1, xM11, xM12, xInK, xNotInK, xfSorted, xVar, xVar1, xC, xN, xOp, xOp1, xOp2, xUn, xUn1, xNil, xCons, xCons1, xCons2, xTup, xTup1, xLst, xLst1, xTru, xTru1, xOb, tru_non, tru_bl, tru_int, tru_lst, tru_tup, xTB, xTB1, xAndT, xAndT1, xAndT2, xOrT, xOrT1, xOrT2, xNotT, xNotT1, xAnd, xAnd1, xAnd2, xOr, xOr1, xOr2, xNot, xNot1, xIfE, xIfE1, xIfE2, xCh, xCh1, xCh2, xCh3, xCh3b, xCh4, xNoP, xPart, xPart1, xCut, xCut1, xCut2, xCut3, xB, xB1, xCall, xCall1, xCallK, xCallK1, perm_nil, perm_cons, xCat, xCat1, xCat2, xRev, xRevL, xRevT, sSkip, sSeq, sRet, sRetN, sIf, sIf1, sIf2, sDrop, sDrop1, sBrk, sCnt, sSet, sSet1, sAsg, sAsg1, gN, gT, gPut, put_nil, put_cons, sAug, sAug1, sAug2, xFr, xFr1, xfLst, sOwn, sOwn1, sApp, sApp1, sApp2, sThaw, sThaw1, sThaw2, sThaw3, xPeek, xPeek1, xPeekd, xPeek2, xPeekT, xPeekT1, xPeekTd, sSetIx, sSetIx1, sSetIx2, sSetIx3, sSetIx4, iSq, iSqL, iSqT, iEn, iEnL, iEnT, iR1, iR11, iR2, iR21, sFor, xComp, sPenN, sPenR, sOwnD, sDSet, sDSet1, sDSet2, sDSet3, sDSet5, dKi, dKs, sThawD, sThawD1, iIt, iIt1, gPn, gPt, gPs0, gPs1, gPs2, sTry, sTry1, sTryN, sTryR, sTryR2, sTryB, sTryC, sRaise, nOw0, nOw1, nOw2, fld0, fld1, xIsX1, xIsX2, xIsNotX, xIsNX, U.l0, U.l1, U.s0, U.s1, wS0, wS1, beq_self_eq_true, sSet2, sSet21, sPar, sPar1, sOwnM, sOwnM1, sExt, sExt1, sExt2, sWh1, sWh2, xIsNI, xIsNNo, xIsNotI, xIsNotNo, xIsNotL, xIsNotT, xIsNotS, xIsS, xIsL, xIsT, xNeS, sRetO, sRetO1, sRetF, xCallF, xCallF1, xCallFK, xCallFK1, List.getD_cons_zero, List.getD_cons_succ, Bool.not_true, Bool.not_false, Bool.not_not, xLt, xLe, xGt, xGe, xEqI, xEqS, xNeI, xLenS, xLenL, xLenT, xAddI, xAddS, xAddL, xAddT, xSubI, xMulI, xMulL, xMulT, xDivI, xModI, xPowI, xNegI, xIntI, xIntB, xAbsI, xMin2, xMax2, xListL, xListT, xTupleL, xTupleT, xCutL, xCutT, xIsN, xIsB, xIsNotB, xIx0T, xIx1T, xIx2T, xIx3T, xIx0L, xIx1L, Int.reduceSub, Int.reduceAdd, Int.reduceMul, Int.reduceToNat, Int.reducePow, Int.reduceNeg]
    exact hQ (.table es) _ ⟨hE.2.2.2, hE.1⟩ (by simp at h8; omega)
  · rintro d r ρ ⟨es, l, y, s1, s2, m, rfl, ⟨hE1, hE2, hE3, hE4⟩, h6, h7, h8, h9, h10⟩
    rw [List.length_cons] at h7 h8 h10
    simp only [iSt, iSt1, xSplit, xRmPre, xInSg, xFs, xFs0, xFs1, xFs2, xFs3, xFmt, xFmtI, xFmtS, xStrI, xStrS, xM1, xM11, xM12, xInK, xNotInK, xfSorted, xVar, xVar1, xC, xN, xOp, xOp1, xOp2, xUn, xUn1, xNil, xCons, xCons1, xCons2, xTup, xTup1, xLst, xLst1, xTru, xTru1, xOb, tru_non, tru_bl, tru_int, tru_lst, tru_tup, xTB, xTB1, xAndT, xAndT1, xAndT2, xOrT, xOrT1, xOrT2, xNotT, xNotT1, xAnd, xAnd1, xAnd2, xOr, xOr1, xOr2, xNot, xNot1, xIfE, xIfE1, xIfE2, xCh, xCh1, xCh2, xCh3, xCh3b, xCh4, xNoP, xPart, xPart1, xCut, xCut1, xCut2, xCut3, xB, xB1, xCall, xCall1, xCallK, xCallK1, perm_nil, perm_cons, xCat, xCat1, xCat2, xRev, xRevL, xRevT, sSkip, sSeq, sRet, sRetN, sIf, sIf1, sIf2, sDrop, sDrop1, sBrk, sCnt, sSet, sSet1, sAsg, sAsg1, gN, gT, gPut, put_nil, put_cons, sAug, sAug1, sAug2, xFr, xFr1, xfLst, sOwn, sOwn1, sApp, sApp1, sApp2, sThaw, sThaw1, sThaw2, sThaw3, xPeek, xPeek1, xPeekd, xPeek2, xPeekT, xPeekT1, xPeekTd, sSetIx, sSetIx1, sSetIx2, sSetIx3, sSetIx4, iSq, iSqL, iSqT, iEn, iEnL, iEnT, iR1, iR11, iR2, iR21, sFor, xComp, sPenN, sPenR, sOwnD, sDSet, sDSet1, sDSet2, sDSet3, sDSet5, dKi, dKs, sThawD, sThawD1, iIt, iIt1, gPn, gPt, gPs0, gPs1, gPs2, sTry, sTry1, sTryN, sTryR, sTryR2, sTryB, sTryC, sRaise, nOw0, nOw1, nOw2, fld0, fld1, xIsX1, xIsX2, xIsNotX, xIsNX, U.l0, U.l1, U.s0, U.s1, wS0, wS1, beq_self_eq_true, sSet2, sSet21, sPar, sPar1, sOwnM, sOwnM1, sExt, sExt1, sExt2, sWh1, sWh2, xIsNI, xIsNNo, xIsNotI, xIsNotNo, xIsNotL, xIsNotT, xIsNotS, xIsS, xIsL, xIsT, xNeS, sRetO, sRetO1, sRetF, xCallF, xCallF1, xCallFK, xCallFK1, List.getD_cons_zero, List.getD_cons_succ, Bool.not_true, Bool.not_false, Bool.not_not, xLt, xLe, xGt, xGe, xEqI, xEqS, xNeI, xLenS, xLenL, xLenT, xAddI, xAddS, xAddL, xAddT, xSubI, xMulI, xMulL, xMulT, xDivI, xModI, xPowI, xNegI, xIntI, xIntB, xAbsI, xMin2, xMax2, xListL, xListT, xTupleL, xTupleT, xCutL, xCutT, xIsN, xIsB, xIsNotB, xIx0T, xIx1T, xIx2T, xIx3T, xIx0L, xIx1L, Int.reduceSub, Int.reduceAdd, Int.reduceMul, Int.reduceToNat, Int.reducePow, Int.reduceNeg]
    refine sIfk.mpr ⟨fun hl => ?_, fun hl => ?_⟩
    · simp only [iSt, iSt1, xSplit, xRmPre, xInSg, xFs, xFs0, xFs1, xFs2, xFs3, xFmt, xFmtI, xFmtS, xStrI, xStrS, xM1, xM11, xM12, xInK, xNotInK, xfSorted, xVar, xVar1, xC, xN, xOp, xOp1, xOp2, xUn, xUn1, xNil, xCons, xCons1, xCons2, xTup, xTup1, xLst, xLst1, xTru, xTru1, xOb, tru_non, tru_bl, tru_int, tru_lst, tru_tup, xTB, xTB1, xAndT, xAndT1, xAndT2, xOrT, xOrT1, xOrT2, xNotT, xNotT1, xAnd, xAnd1, xAnd2, xOr, xOr1, xOr2, xNot, xNot1, xIfE, xIfE1, xIfE2, xCh, xCh1, xCh2, xCh3, xCh3b, xCh4, xNoP, xPart, xPart1, xCut, xCut1, xCut2, xCut3, xB, xB1, xCall, xCall1, xCallK, xCallK1, perm_nil, perm_cons, xCat, xCat1, xCat2, xRev, xRevL, xRevT, sSkip, sSeq, sRet, sRetN, sIf, sIf1, sIf2, sDrop, sDrop1, sBrk, sCnt, sSet, sSet1, sAsg, sAsg1, gN, gT, gPut, put_nil, put_cons, sAug, sAug1, sAug2, xFr, xFr1, xfLst, sOwn, sOwn1, sApp, sApp1, sApp2, sThaw, sThaw1, sThaw2, sThaw3, xPeek, xPeek1, xPeekd, xPeek2, xPeekT, xPeekT1, xPeekTd, sSetIx, sSetIx1, sSetIx2, sSetIx3, sSetIx4, iSq, iSqL, iSqT, iEn, iEnL, iEnT, iR1, iR11, iR2, iR21, sFor, xComp, sPenN, sPenR, sOwnD, sDSet, sDSet1, sDSet2, sDSet3, sDSet5, dKi, dKs, sThawD, sThawD1, iIt, iIt1, gPn, gPt, gPs0, gPs1, gPs2, sTry, sTry1, sTryN, sTryR, sTryR2, sTryB, sTryC, sRaise, nOw0, nOw1, nOw2, fld0, fld1, xIsX1, xIsX2, xIsNotX, xIsNX, U.l0, U.l1, U.s0, U.s1, wS0, wS1, beq_self_eq_true, sSet2, sSet21, sPar, sPar1, sOwnM, sOwnM1, sExt, sExt1, sExt2, sWh1, sWh2, xIsNI, xIsNNo, xIsNotI, xIsNotNo, xIsNotL, xIsNotT, xIsNotS, xIsS, xIsL, xIsT, xNeS, sRetO, sRetO1, sRetF, xCallF, xCallF1, xCallFK, xCallFK1, List.getD_cons_zero, List.getD_cons_succ, Bool.not_true, Bool.not_false, Bool.not_not, xLt, xLe, xGt, xGe, xEqI, xEqS, xNeI, xLenS, xLenL, xLenT, xAddI, xAddS, xAddL, xAddT, xSubI, xMulI, xMulL, xMulT, xDivI, xModI, xPowI, xNegI, xIntI, xIntB, xAbsI, xMin2, xMax2, xListL, xListT, xTupleL, xTupleT, xCutL, xCutT, xIsN, xIsB, xIsNotB, xIx0T, xIx1T, xIx2T, xIx3T, xIx0L, xIx1L, Int.reduceSub, Int.reduceAdd, Int.reduceMul, Int.reduceToNat, Int.reducePow, Int.reduceNeg]
      refine draw_use hp (by decide) (by decide) (by omega) fun v1 g1 g2 => ?_
      simp only [iSt, iSt1, xSplit, xRmPre, xInSg, xFs, xFs0, xFs1, xFs2, xFs3, xFmt, xFmtI, xFmtS, xStrI, xStrS, xM1, xM11, xM12, xInK, xNotInK, xfSorted, xVar, xVar1, xC, xN, xOp, xOp1, xOp2, xUn, xUn1, xNil, xCons, xCons1, xCons2, xTup, xTup1, xLst, xLst1, xTru, xTru1, xOb, tru_non, tru_bl, tru_int, tru_lst, tru_tup, xTB, xTB1, xAndT, xAndT1, xAndT2, xOrT, xOrT1, xOrT2, xNotT, xNotT1, xAnd, xAnd1, xAnd2, xOr, xOr1, xOr2, xNot, xNot1, xIfE, xIfE1, xIfE2, xCh, xCh1, xCh2, xCh3, xCh3b, xCh4, xNoP, xPart, xPart1, xCut, xCut1, xCut2, xCut3, xB, xB1, xCall, xCall1, xCallK, xCallK1, perm_nil, perm_cons, xCat, xCat1, xCat2, xRev, xRevL, xRevT, sSkip, sSeq, sRet, sRetN, sIf, sIf1, sIf2, sDrop, sDrop1, sBrk, sCnt, sSet, sSet1, sAsg, sAsg1, gN, gT, gPut, put_nil, put_cons, sAug, sAug1, sAug2, xFr, xFr1, xfLst, sOwn, sOwn1, sApp, sApp1, sApp2, sThaw, sThaw1, sThaw2, sThaw3, xPeek, xPeek1, xPeekd, xPeek2, xPeekT, xPeekT1, xPeekTd, sSetIx, sSetIx1, sSetIx2, sSetIx3, sSetIx4, iSq, iSqL, iSqT, iEn, iEnL, iEnT, iR1, iR11, iR2, iR21, sFor, xComp, sPenN, sPenR, sOwnD, sDSet, sDSet1, sDSet2, sDSet3, sDSet5, dKi, dKs, sThawD, sThawD1, iIt, iIt1, gPn, gPt, gPs0, gPs1, gPs2, sTry, sTry1, sTryN, sTryR, sTryR2, sTryB, sTryC, sRaise, nOw0, nOw1, nOw2, fld0, fld1, xIsX1, xIsX2, xIsNotX, xIsNX, U.l0, U.l1, U.s0, U.s1, wS0, wS1, beq_self_eq_true, sSet2, sSet21, sPar, sPar1, sOwnM, sOwnM1, sExt, sExt1, sExt2, sWh1, sWh2, xIsNI, xIsNNo, xIsNotI, xIsNotNo, xIsNotL, xIsNotT, xIsNotS, xIsS, xIsL, xIsT, xNeS, sRetO, sRetO1, sRetF, xCallF, xCallF1, xCallFK, xCallFK1, List.getD_cons_zero, List.getD_cons_succ, Bool.not_true, Bool.not_false, Bool.not_not, xLt, xLe, xGt, xGe, xEqI, xEqS, xNeI, xLenS, xLenL, xLenT, xAddI, xAddS, xAddL, xAddT, xSubI, xMulI, xMulL, xMulT, xDivI, xModI, xPowI, xNegI, xIntI, xIntB, xAbsI, xMin2, xMax2, xListL, xListT, xTupleL, xTupleT, xCutL, xCutT, xIsN, xIsB, xIsNotB, xIx0T, xIx1T, xIx2T, xIx3T, xIx0L, xIx1L, Int.reduceSub, Int.reduceAdd, Int.reduceMul, Int.reduceToNat, Int.reducePow, Int.reduceNeg]
      refine ⟨by decide, draw_use hp (by decide) (by decide) (by omega) fun v2 g3 g4 => ?_⟩
      simp only [iSt, iSt1, xSplit, xRmPre, xInSg, xFs, xFs0, xFs1, xFs2, xFs3, xFmt, xFmtI, xFmtS, xStrI, xStrS, xM1, xM11, xM12, xInK, xNotInK, xfSorted, xVar, xVar1, xC, xN, xOp, xOp1, xOp2, xUn, xUn1, xNil, xCons, xCons1, xCons2, xTup, xTup1, xLst, xLst1, xTru, xTru1, xOb, tru_non, tru_bl, tru_int, tru_lst, tru_tup, xTB, xTB1, xAndT, xAndT1, xAndT2, xOrT, xOrT1, xOrT2, xNotT, xNotT1, xAnd, xAnd1, xAnd2, xOr, xOr1, xOr2, xNot, xNot1, xIfE, xIfE1, xIfE2, xCh, xCh1, xCh2, xCh3, xCh3b, xCh4, xNoP, xPart, xPart1, xCut, xCut1, xCut2, xCut3, xB, xB1, xCall, xCall1, xCallK, xCallK1, perm_nil, perm_cons, xCat, xCat1, xCat2, xRev, xRevL, xRevT, sSkip, sSeq, sRet, sRetN, sIf, sIf1, sIf2, sDrop, sDrop1, sBrk, sCnt, sSet, sSet1, sAsg, sAsg1, gN, gT, gPut, put_nil, put_cons, sAug, sAug1, sAug2, xFr, xFr1, xfLst, sOwn, sOwn1, sApp, sApp1, sApp2, sThaw, sThaw1, sThaw2, sThaw3, xPeek, xPeek1, xPeekd, xPeek2, xPeekT, xPeekT1, xPeekTd, sSetIx, sSetIx1, sSetIx2, sSetIx3, sSetIx4, iSq, iSqL, iSqT, iEn, iEnL, iEnT, iR1, iR11, iR2, iR21, sFor, xComp, sPenN, sPenR, sOwnD, sDSet, sDSet1, sDSet2, sDSet3, sDSet5, dKi, dKs, sThawD, sThawD1, iIt, iIt1, gPn, gPt, gPs0, gPs1, gPs2, sTry, sTry1, sTryN, sTryR, sTryR2, sTryB, sTryC, sRaise, nOw0, nOw1, nOw2, fld0, fld1, xIsX1, xIsX2, xIsNotX, xIsNX, U.l0, U.l1, U.s0, U.s1, wS0, wS1, beq_self_eq_true, sSet2, sSet21, sPar, sPar1, sOwnM, sOwnM1, sExt, sExt1, sExt2, sWh1, sWh2, xIsNI, xIsNNo, xIsNotI, xIsNotNo, xIsNotL, xIsNotT, xIsNotS, xIsS, xIsL, xIsT, xNeS, sRetO, sRetO1, sRetF, xCallF, xCallF1, xCallFK, xCallFK1, List.getD_cons_zero, List.getD_cons_succ, Bool.not_true, Bool.not_false, Bool.not_not, xLt, xLe, xGt, xGe, xEqI, xEqS, xNeI, xLenS, xLenL, xLenT, xAddI, xAddS, xAddL, xAddT, xSubI, xMulI, xMulL, xMulT, xDivI, xModI, xPowI, xNegI, xIntI, xIntB, xAbsI, xMin2, xMax2, xListL, xListT, xTupleL, xTupleT, xCutL, xCutT, xIsN, xIsB, xIsNotB, xIx0T, xIx1T, xIx2T, xIx3T, xIx0L, xIx1L, Int.reduceSub, Int.reduceAdd, Int.reduceMul, Int.reduceToNat, Int.reducePow, Int.reduceNeg]
      refine gIx_lst g3 g4 fun e he => ?_
      obtain ⟨c, rfl, c0, c1⟩ : ∃ z : Int, e = .int z ∧ 0 ≤ z ∧ z ≤ 9999999999999999999999999999999999999999 := by
        simp only [List.mem_cons, List.not_mem_nil, or_false] at he
        rcases he with rfl | rfl | rfl | rfl | rfl | rfl <;> exact ⟨_, rfl, by omega, by omega⟩
      have hl' := of_decide_eq_true hl
      have hlen : (es.map enD).length < sizeLine := lim6 (by rw [List.length_map]; omega)
      simp only [iSt, iSt1, xSplit, xRmPre, xInSg, xFs, xFs0, xFs1, xFs2, xFs3, xFmt, xFmtI, xFmtS, xStrI, xStrS, xM1, xM11, xM12, xInK, xNotInK, xfSorted, xVar, xVar1, xC, xN, xOp, xOp1, xOp2, xUn, xUn1, xNil, xCons, xCons1, xCons2, xTup, xTup1, xLst, xLst1, xTru, xTru1, xOb, tru_non, tru_bl, tru_int, tru_lst, tru_tup, xTB, xTB1, xAndT, xAndT1, xAndT2, xOrT, xOrT1, xOrT2, xNotT, xNotT1, xAnd, xAnd1, xAnd2, xOr, xOr1, xOr2, xNot, xNot1, xIfE, xIfE1, xIfE2, xCh, xCh1, xCh2, xCh3, xCh3b, xCh4, xNoP, xPart, xPart1, xCut, xCut1, xCut2, xCut3, xB, xB1, xCall, xCall1, xCallK, xCallK1, perm_nil, perm_cons, xCat, xCat1, xCat2, xRev, xRevL, xRevT, sSkip, sSeq, sRet, sRetN, sIf, sIf1, sIf2, sDrop, sDrop1, sBrk, sCnt, sSet, sSet1, sAsg, sAsg1, gN, gT, gPut, put_nil, put_cons, sAug, sAug1, sAug2, xFr, xFr1, xfLst, sOwn, sOwn1, sApp, sApp1, sApp2, sThaw, sThaw1, sThaw2, sThaw3, xPeek, xPeek1, xPeekd, xPeek2, xPeekT, xPeekT1, xPeekTd, sSetIx, sSetIx1, sSetIx2, sSetIx3, sSetIx4, iSq, iSqL, iSqT, iEn, iEnL, iEnT, iR1, iR11, iR2, iR21, sFor, xComp, sPenN, sPenR, sOwnD, sDSet, sDSet1, sDSet2, sDSet3, sDSet5, dKi, dKs, sThawD, sThawD1, iIt, iIt1, gPn, gPt, gPs0, gPs1, gPs2, sTry, sTry1, sTryN, sTryR, sTryR2, sTryB, sTryC, sRaise, nOw0, nOw1, nOw2, fld0, fld1, xIsX1, xIsX2, xIsNotX, xIsNX, U.l0, U.l1, U.s0, U.s1, wS0, wS1, beq_self_eq_true, sSet2, sSet21, sPar, sPar1, sOwnM, sOwnM1, sExt, sExt1, sExt2, sWh1, sWh2, xIsNI, xIsNNo, xIsNotI, xIsNotNo, xIsNotL, xIsNotT, xIsNotS, xIsS, xIsL, xIsT, xNeS, sRetO, sRetO1, sRetF, xCallF, xCallF1, xCallFK, xCallFK1, List.getD_cons_zero, List.getD_cons_succ, Bool.not_true, Bool.not_false, Bool.not_not, xLt, xLe, xGt, xGe, xEqI, xEqS, xNeI, xLenS, xLenL, xLenT, xAddI, xAddS, xAddL, xAddT, xSubI, xMulI, xMulL, xMulT, xDivI, xModI, xPowI, xNegI, xIntI, xIntB, xAbsI, xMin2, xMax2, xListL, xListT, xTupleL, xTupleT, xCutL, xCutT, xIsN, xIsB, xIsNotB, xIx0T, xIx1T, xIx2T, xIx3T, xIx0L, xIx1L, Int.reduceSub, Int.reduceAdd, Int.reduceMul, Int.reduceToNat, Int.reducePow, Int.reduceNeg]
      refine ⟨hlen, ?_⟩
      refine draw_use hp (by decide) (by decide) (by omega) fun v3 g5 g6 => ?_
      simp only [iSt, iSt1, xSplit, xRmPre, xInSg, xFs, xFs0, xFs1, xFs2, xFs3, xFmt, xFmtI, xFmtS, xStrI, xStrS, xM1, xM11, xM12, xInK, xNotInK, xfSorted, xVar, xVar1, xC, xN, xOp, xOp1, xOp2, xUn, xUn1, xNil, xCons, xCons1, xCons2, xTup, xTup1, xLst, xLst1, xTru, xTru1, xOb, tru_non, tru_bl, tru_int, tru_lst, tru_tup, xTB, xTB1, xAndT, xAndT1, xAndT2, xOrT, xOrT1, xOrT2, xNotT, xNotT1, xAnd, xAnd1, xAnd2, xOr, xOr1, xOr2, xNot, xNot1, xIfE, xIfE1, xIfE2, xCh, xCh1, xCh2, xCh3, xCh3b, xCh4, xNoP, xPart, xPart1, xCut, xCut1, xCut2, xCut3, xB, xB1, xCall, xCall1, xCallK, xCallK1, perm_nil, perm_cons, xCat, xCat1, xCat2, xRev, xRevL, xRevT, sSkip, sSeq, sRet, sRetN, sIf, sIf1, sIf2, sDrop, sDrop1, sBrk, sCnt, sSet, sSet1, sAsg, sAsg1, gN, gT, gPut, put_nil, put_cons, sAug, sAug1, sAug2, xFr, xFr1, xfLst, sOwn, sOwn1, sApp, sApp1, sApp2, sThaw, sThaw1, sThaw2, sThaw3, xPeek, xPeek1, xPeekd, xPeek2, xPeekT, xPeekT1, xPeekTd, sSetIx, sSetIx1, sSetIx2, sSetIx3, sSetIx4, iSq, iSqL, iSqT, iEn, iEnL, iEnT, iR1, iR11, iR2, iR21, sFor, xComp, sPenN, sPenR, sOwnD, sDSet, sDSet1, sDSet2, sDSet3, sDSet5, dKi, dKs, sThawD, sThawD1, iIt, iIt1, gPn, gPt, gPs0, gPs1, gPs2, sTry, sTry1, sTryN, sTryR, sTryR2, sTryB, sTryC, sRaise, nOw0, nOw1, nOw2, fld0, fld1, xIsX1, xIsX2, xIsNotX, xIsNX, U.l0, U.l1, U.s0, U.s1, wS0, wS1, beq_self_eq_true, sSet2, sSet21, sPar, sPar1, sOwnM, sOwnM1, sExt, sExt1, sExt2, sWh1, sWh2, xIsNI, xIsNNo, xIsNotI, xIsNotNo, xIsNotL, xIsNotT, xIsNotS, xIsS, xIsL, xIsT, xNeS, sRetO, sRetO1, sRetF, xCallF, xCallF1, xCallFK, xCallFK1, List.getD_cons_zero, List.getD_cons_succ, Bool.not_true, Bool.not_false, Bool.not_not, xLt, xLe, xGt, xGe, xEqI, xEqS, xNeI, xLenS, xLenL, xLenT, xAddI, xAddS, xAddL, xAddT, xSubI, xMulI, xMulL, xMulT, xDivI, xModI, xPowI, xNegI, xIntI, xIntB, xAbsI, xMin2, xMax2, xListL, xListT, xTupleL, xTupleT, xCutL, xCutT, xIsN, xIsB, xIsNotB, xIx0T, xIx1T, xIx2T, xIx3T, xIx0L, xIx1L, Int.reduceSub, Int.reduceAdd, Int.reduceMul, Int.reduceToNat, Int.reducePow, Int.reduceNeg]
      refine ⟨es ++ [(l, c)], _, _, _, _, _, by rw [List.map_append]; rfl, ⟨asc_snoc hE1 hE2 h6 (by omega) c0 c1, fun e he => ?_, by simp; omega, by simp; omega⟩, by omega, by omega, by omega, h9, by omega⟩
      rcases List.mem_append.mp he with he | he
      · have := hE2 e he; omega
      · have : e = (l, c) := by simpa using he
        rw [this]
        show l < _
        omega
    · simp only [iSt, iSt1, xSplit, xRmPre, xInSg, xFs, xFs0, xFs1, xFs2, xFs3, xFmt, xFmtI, xFmtS, xStrI, xStrS, xM1, xM11, xM12, xInK, xNotInK, xfSorted, xVar, xVar1, xC, xN, xOp, xOp1, xOp2, xUn, xUn1, xNil, xCons, xCons1, xCons2, xTup, xTup1, xLst, xLst1, xTru, xTru1, xOb, tru_non, tru_bl, tru_int, tru_lst, tru_tup, xTB, xTB1, xAndT, xAndT1, xAndT2, xOrT, xOrT1, xOrT2, xNotT, xNotT1, xAnd, xAnd1, xAnd2, xOr, xOr1, xOr2, xNot, xNot1, xIfE, xIfE1, xIfE2, xCh, xCh1, xCh2, xCh3, xCh3b, xCh4, xNoP, xPart, xPart1, xCut, xCut1, xCut2, xCut3, xB, xB1, xCall, xCall1, xCallK, xCallK1, perm_nil, perm_cons, xCat, xCat1, xCat2, xRev, xRevL, xRevT, sSkip, sSeq, sRet, sRetN, sIf, sIf1, sIf2, sDrop, sDrop1, sBrk, sCnt, sSet, sSet1, sAsg, sAsg1, gN, gT, gPut, put_nil, put_cons, sAug, sAug1, sAug2, xFr, xFr1, xfLst, sOwn, sOwn1, sApp, sApp1, sApp2, sThaw, sThaw1, sThaw2, sThaw3, xPeek, xPeek1, xPeekd, xPeek2, xPeekT, xPeekT1, xPeekTd, sSetIx, sSetIx1, sSetIx2, sSetIx3, sSetIx4, iSq, iSqL, iSqT, iEn, iEnL, iEnT, iR1, iR11, iR2, iR21, sFor, xComp, sPenN, sPenR, sOwnD, sDSet, sDSet1, sDSet2, sDSet3, sDSet5, dKi, dKs, sThawD, sThawD1, iIt, iIt1, gPn, gPt, gPs0, gPs1, gPs2, sTry, sTry1, sTryN, sTryR, sTryR2, sTryB, sTryC, sRaise, nOw0, nOw1, nOw2, fld0, fld1, xIsX1, xIsX2, xIsNotX, xIsNX, U.l0, U.l1, U.s0, U.s1, wS0, wS1, beq_self_eq_true, sSet2, sSet21, sPar, sPar1, sOwnM, sOwnM1, sExt, sExt1, sExt2, sWh1, sWh2, xIsNI, xIsNNo, xIsNotI, xIsNotNo, xIsNotL, xIsNotT, xIsNotS, xIsS, xIsL, xIsT, xNeS, sRetO, sRetO1, sRetF, xCallF, xCallF1, xCallFK, xCallFK1, List.getD_cons_zero, List.getD_cons_succ, Bool.not_true, Bool.not_false, Bool.not_not, xLt, xLe, xGt, xGe, xEqI, xEqS, xNeI, xLenS, xLenL, xLenT, xAddI, xAddS, xAddL, xAddT, xSubI, xMulI, xMulL, xMulT, xDivI, xModI, xPowI, xNegI, xIntI, xIntB, xAbsI, xMin2, xMax2, xListL, xListT, xTupleL, xTupleT, xCutL, xCutT, xIsN, xIsB, xIsNotB, xIx0T, xIx1T, xIx2T, xIx3T, xIx0L, xIx1L, Int.reduceSub, Int.reduceAdd, Int.reduceMul, Int.reduceToNat, Int.reducePow, Int.reduceNeg]
      refine draw_use hp (by decide) (by decide) (by omega) fun v3 g5 g6 => ?_
      simp only [iSt, iSt1, xSplit, xRmPre, xInSg, xFs, xFs0, xFs1, xFs2, xFs3, xFmt, xFmtI, xFmtS, xStrI, xStrS, xM1, xM11, xM12, xInK, xNotInK, xfSorted, xVar, xVar1, xC, xN, xOp, xOp1, xOp2, xUn, xUn1, xNil, xCons, xCons1, xCons2, xTup, xTup1, xLst, xLst1, xTru, xTru1, xOb, tru_non, tru_bl, tru_int, tru_lst, tru_tup, xTB, xTB1, xAndT, xAndT1, xAndT2, xOrT, xOrT1, xOrT2, xNotT, xNotT1, xAnd, xAnd1, xAnd2, xOr, xOr1, xOr2, xNot, xNot1, xIfE, xIfE1, xIfE2, xCh, xCh1, xCh2, xCh3, xCh3b, xCh4, xNoP, xPart, xPart1, xCut, xCut1, xCut2, xCut3, xB, xB1, xCall, xCall1, xCallK, xCallK1, perm_nil, perm_cons, xCat, xCat1, xCat2, xRev, xRevL, xRevT, sSkip, sSeq, sRet, sRetN, sIf, sIf1, sIf2, sDrop, sDrop1, sBrk, sCnt, sSet, sSet1, sAsg, sAsg1, gN, gT, gPut, put_nil, put_cons, sAug, sAug1, sAug2, xFr, xFr1, xfLst, sOwn, sOwn1, sApp, sApp1, sApp2, sThaw, sThaw1, sThaw2, sThaw3, xPeek, xPeek1, xPeekd, xPeek2, xPeekT, xPeekT1, xPeekTd, sSetIx, sSetIx1, sSetIx2, sSetIx3, sSetIx4, iSq, iSqL, iSqT, iEn, iEnL, iEnT, iR1, iR11, iR2, iR21, sFor, xComp, sPenN, sPenR, sOwnD, sDSet, sDSet1, sDSet2, sDSet3, sDSet5, dKi, dKs, sThawD, sThawD1, iIt, iIt1, gPn, gPt, gPs0, gPs1, gPs2, sTry, sTry1, sTryN, sTryR, sTryR2, sTryB, sTryC, sRaise, nOw0, nOw1, nOw2, fld0, fld1, xIsX1, xIsX2, xIsNotX, xIsNX, U.l0, U.l1, U.s0, U.s1, wS0, wS1, beq_self_eq_true, sSet2, sSet21, sPar, sPar1, sOwnM, sOwnM1, sExt, sExt1, sExt2, sWh1, sWh2, xIsNI, xIsNNo, xIsNotI, xIsNotNo, xIsNotL, xIsNotT, xIsNotS, xIsS, xIsL, xIsT, xNeS, sRetO, sRetO1, sRetF, xCallF, xCallF1, xCallFK, xCallFK1, List.getD_cons_zero, List.getD_cons_succ, Bool.not_true, Bool.not_false, Bool.not_not, xLt, xLe, xGt, xGe, xEqI, xEqS, xNeI, xLenS, xLenL, xLenT, xAddI, xAddS, xAddL, xAddT, xSubI, xMulI, xMulL, xMulT, xDivI, xModI, xPowI, xNegI, xIntI, xIntB, xAbsI, xMin2, xMax2, xListL, xListT, xTupleL, xTupleT, xCutL, xCutT, xIsN, xIsB, xIsNotB, xIx0T, xIx1T, xIx2T, xIx3T, xIx0L, xIx1L, Int.reduceSub, Int.reduceAdd, Int.reduceMul, Int.reduceToNat, Int.reducePow, Int.reduceNeg]
      exact ⟨es, _, _, _, _, _, rfl, ⟨hE1, fun e he => by have := hE2 e he; omega, by omega, hE4⟩, by omega, by omega, by omega, h9, by omega⟩

theorem pure__law_words {pen : PenT} {PX : UX → Nat → Prop} : ∀ ds n (Q : D → Nat → Prop), sp__law_words ds pen n Q PX → u__law_words (Wd pen PX) { nx := fun ρ => Q .non ρ.fuel, rt := Q } ⟨startU N__law_words ds, pen, n⟩ := by
  refine run__law_words ?_
  rintro x n Q ⟨P, e, ok, hQ⟩
  obtain rfl := list1 e
  unfold u__law_words
  cases P with
  | exact => simp only [Py.d, iSt, iSt1, xSplit, xRmPre, xInSg, xFs, xFs0, xFs1, xFs2, xFs3, xFmt, xFmtI, xFmtS, xStrI, xStrS, xM1, xM11, xM12, xInK, xNotInK, xfSorted, xVar, xVar1, xC, xN, xOp, xOp1, xOp2, xUn, xUn1, xNil, xCons, xCons1, xCons2, xTup, xTup1, xLst, xLst1, xTru, xTru1, xOb, tru_non, tru_bl, tru_int, tru_lst, tru_tup, xTB, xTB1, xAndT, xAndT1, xAndT2, xOrT, xOrT1, xOrT2, xNotT, xNotT1, xAnd, xAnd1, xAnd2, xOr, xOr1, xOr2, xNot, xNot1, xIfE, xIfE1, xIfE2, xCh, xCh1, xCh2, xCh3, xCh3b, xCh4, xNoP, xPart, xPart1, xCut, xCut1, xCut2, xCut3, xB, xB1, xCall, xCall1, xCallK, xCallK1, perm_nil, perm_cons, xCat, xCat1, xCat2, xRev, xRevL, xRevT, sSkip, sSeq, sRet, sRetN, sIf, sIf1, sIf2, sDrop, sDrop1, sBrk, sCnt, sSet, sSet1, sAsg, sAsg1, gN, gT, gPut, put_nil, put_cons, sAug, sAug1, sAug2, xFr, xFr1, xfLst, sOwn, sOwn1, sApp, sApp1, sApp2, sThaw, sThaw1, sThaw2, sThaw3, xPeek, xPeek1, xPeekd, xPeek2, xPeekT, xPeekT1, xPeekTd, sSetIx, sSetIx1, sSetIx2, sSetIx3, sSetIx4, iSq, iSqL, iSqT, iEn, iEnL, iEnT, iR1, iR11, iR2, iR21, sFor, xComp, sPenN, sPenR, sOwnD, sDSet, sDSet1, sDSet2, sDSet3, sDSet5, dKi, dKs, sThawD, sThawD1, iIt, iIt1, gPn, gPt, gPs0, gPs1, gPs2, sTry, sTry1, sTryN, sTryR, sTryR2, sTryB, sTryC, sRaise, nOw0, nOw1, nOw2, fld0, fld1, xIsX1, xIsX2, xIsNotX, xIsNX, U.l0, U.l1, U.s0, U.s1, wS0, wS1, beq_self_eq_true, sSet2, sSet21, sPar, sPar1, sOwnM, sOwnM1, sExt, sExt1, sExt2, sWh1, sWh2, xIsNI, xIsNNo, xIsNotI, xIsNotNo, xIsNotL, xIsNotT, xIsNotS, xIsS, xIsL, xIsT, xNeS, sRetO, sRetO1, sRetF, xCallF, xCallF1, xCallFK, xCallFK1, List.getD_cons_zero, List.getD_cons_succ, Bool.not_true, Bool.not_false, Bool.not_not, xLt, xLe, xGt, xGe, xEqI, xEqS, xNeI, xLenS, xLenL, xLenT, xAddI, xAddS, xAddL, xAddT, xSubI, xMulI, xMulL, xMulT, xDivI, xModI, xPowI, xNegI, xIntI, xIntB, xAbsI, xMin2, xMax2, xListL, xListT, xTupleL, xTupleT, xCutL, xCutT, xIsN, xIsB, xIsNotB, xIx0T, xIx1T, xIx2T, xIx3T, xIx0L, xIx1L, Int.reduceSub, Int.reduceAdd, Int.reduceMul, Int.reduceToNat, Int.reducePow, Int.reduceNeg, sq_exact_endless, sq_exact_table, sq_exact_step, sq_exact_factor, sq_endless_exact, sq_endless_table, sq_endless_step, sq_endless_factor, sq_table_exact, sq_table_endless, sq_table_step, sq_table_factor, sq_step_exact, sq_step_endless, sq_step_table, sq_step_factor, sq_factor_exact, sq_factor_endless, sq_factor_table, sq_factor_step]; exact hQ
  | endless => simp only [Py.d, iSt, iSt1, xSplit, xRmPre, xInSg, xFs, xFs0, xFs1, xFs2, xFs3, xFmt, xFmtI, xFmtS, xStrI, xStrS, xM1, xM11, xM12, xInK, xNotInK, xfSorted, xVar, xVar1, xC, xN, xOp, xOp1, xOp2, xUn, xUn1, xNil, xCons, xCons1, xCons2, xTup, xTup1, xLst, xLst1, xTru, xTru1, xOb, tru_non, tru_bl, tru_int, tru_lst, tru_tup, xTB, xTB1, xAndT, xAndT1, xAndT2, xOrT, xOrT1, xOrT2, xNotT, xNotT1, xAnd, xAnd1, xAnd2, xOr, xOr1, xOr2, xNot, xNot1, xIfE, xIfE1, xIfE2, xCh, xCh1, xCh2, xCh3, xCh3b, xCh4, xNoP, xPart, xPart1, xCut, xCut1, xCut2, xCut3, xB, xB1, xCall, xCall1, xCallK, xCallK1, perm_nil, perm_cons, xCat, xCat1, xCat2, xRev, xRevL, xRevT, sSkip, sSeq, sRet, sRetN, sIf, sIf1, sIf2, sDrop, sDrop1, sBrk, sCnt, sSet, sSet1, sAsg, sAsg1, gN, gT, gPut, put_nil, put_cons, sAug, sAug1, sAug2, xFr, xFr1, xfLst, sOwn, sOwn1, sApp, sApp1, sApp2, sThaw, sThaw1, sThaw2, sThaw3, xPeek, xPeek1, xPeekd, xPeek2, xPeekT, xPeekT1, xPeekTd, sSetIx, sSetIx1, sSetIx2, sSetIx3, sSetIx4, iSq, iSqL, iSqT, iEn, iEnL, iEnT, iR1, iR11, iR2, iR21, sFor, xComp, sPenN, sPenR, sOwnD, sDSet, sDSet1, sDSet2, sDSet3, sDSet5, dKi, dKs, sThawD, sThawD1, iIt, iIt1, gPn, gPt, gPs0, gPs1, gPs2, sTry, sTry1, sTryN, sTryR, sTryR2, sTryB, sTryC, sRaise, nOw0, nOw1, nOw2, fld0, fld1, xIsX1, xIsX2, xIsNotX, xIsNX, U.l0, U.l1, U.s0, U.s1, wS0, wS1, beq_self_eq_true, sSet2, sSet21, sPar, sPar1, sOwnM, sOwnM1, sExt, sExt1, sExt2, sWh1, sWh2, xIsNI, xIsNNo, xIsNotI, xIsNotNo, xIsNotL, xIsNotT, xIsNotS, xIsS, xIsL, xIsT, xNeS, sRetO, sRetO1, sRetF, xCallF, xCallF1, xCallFK, xCallFK1, List.getD_cons_zero, List.getD_cons_succ, Bool.not_true, Bool.not_false, Bool.not_not, xLt, xLe, xGt, xGe, xEqI, xEqS, xNeI, xLenS, xLenL, xLenT, xAddI, xAddS, xAddL, xAddT, xSubI, xMulI, xMulL, xMulT, xDivI, xModI, xPowI, xNegI, xIntI, xIntB, xAbsI, xMin2, xMax2, xListL, xListT, xTupleL, xTupleT, xCutL, xCutT, xIsN, xIsB, xIsNotB, xIx0T, xIx1T, xIx2T, xIx3T, xIx0L, xIx1L, Int.reduceSub, Int.reduceAdd, Int.reduceMul, Int.reduceToNat, Int.reducePow, Int.reduceNeg, sq_exact_endless, sq_exact_table, sq_exact_step, sq_exact_factor, sq_endless_exact, sq_endless_table, sq_endless_step, sq_endless_factor, sq_table_exact, sq_table_endless, sq_table_step, sq_table_factor, sq_step_exact, sq_step_endless, sq_step_table, sq_step_factor, sq_factor_exact, sq_factor_endless, sq_factor_table, sq_factor_step]; exact hQ
  | step s =>
    have h1 := step_nat ok
    have l1 := nS_l40 h1
    have g1 := small_log (nat_small h1)
    have z : (Str.ofString "step ").length = 5 := by rw [PySem.ofString_length]; rfl
    rw [polT_step] at hQ
    simp only [Py.d, iSt, iSt1, xSplit, xRmPre, xInSg, xFs, xFs0, xFs1, xFs2, xFs3, xFmt, xFmtI, xFmtS, xStrI, xStrS, xM1, xM11, xM12, xInK, xNotInK, xfSorted, xVar, xVar1, xC, xN, xOp, xOp1, xOp2, xUn, xUn1, xNil, xCons, xCons1, xCons2, xTup, xTup1, xLst, xLst1, xTru, xTru1, xOb, tru_non, tru_bl, tru_int, tru_lst, tru_tup, xTB, xTB1, xAndT, xAndT1, xAndT2, xOrT, xOrT1, xOrT2, xNotT, xNotT1, xAnd, xAnd1, xAnd2, xOr, xOr1, xOr2, xNot, xNot1, xIfE, xIfE1, xIfE2, xCh, xCh1, xCh2, xCh3, xCh3b, xCh4, xNoP, xPart, xPart1, xCut, xCut1, xCut2, xCut3, xB, xB1, xCall, xCall1, xCallK, xCallK1, perm_nil, perm_cons, xCat, xCat1, xCat2, xRev, xRevL, xRevT, sSkip, sSeq, sRet, sRetN, sIf, sIf1, sIf2, sDrop, sDrop1, sBrk, sCnt, sSet, sSet1, sAsg, sAsg1, gN, gT, gPut, put_nil, put_cons, sAug, sAug1, sAug2, xFr, xFr1, xfLst, sOwn, sOwn1, sApp, sApp1, sApp2, sThaw, sThaw1, sThaw2, sThaw3, xPeek, xPeek1, xPeekd, xPeek2, xPeekT, xPeekT1, xPeekTd, sSetIx, sSetIx1, sSetIx2, sSetIx3, sSetIx4, iSq, iSqL, iSqT, iEn, iEnL, iEnT, iR1, iR11, iR2, iR21, sFor, xComp, sPenN, sPenR, sOwnD, sDSet, sDSet1, sDSet2, sDSet3, sDSet5, dKi, dKs, sThawD, sThawD1, iIt, iIt1, gPn, gPt, gPs0, gPs1, gPs2, sTry, sTry1, sTryN, sTryR, sTryR2, sTryB, sTryC, sRaise, nOw0, nOw1, nOw2, fld0, fld1, xIsX1, xIsX2, xIsNotX, xIsNX, U.l0, U.l1, U.s0, U.s1, wS0, wS1, beq_self_eq_true, sSet2, sSet21, sPar, sPar1, sOwnM, sOwnM1, sExt, sExt1, sExt2, sWh1, sWh2, xIsNI, xIsNNo, xIsNotI, xIsNotNo, xIsNotL, xIsNotT, xIsNotS, xIsS, xIsL, xIsT, xNeS, sRetO, sRetO1, sRetF, xCallF, xCallF1, xCallFK, xCallFK1, List.getD_cons_zero, List.getD_cons_succ, Bool.not_true, Bool.not_false, Bool.not_not, xLt, xLe, xGt, xGe, xEqI, xEqS, xNeI, xLenS, xLenL, xLenT, xAddI, xAddS, xAddL, xAddT, xSubI, xMulI, xMulL, xMulT, xDivI, xModI, xPowI, xNegI, xIntI, xIntB, xAbsI, xMin2, xMax2, xListL, xListT, xTupleL, xTupleT, xCutL, xCutT, xIsN, xIsB, xIsNotB, xIx0T, xIx1T, xIx2T, xIx3T, xIx0L, xIx1L, Int.reduceSub, Int.reduceAdd, Int.reduceMul, Int.reduceToNat, Int.reducePow, Int.reduceNeg, sq_exact_endless, sq_exact_table, sq_exact_step, sq_exact_factor, sq_endless_exact, sq_endless_table, sq_endless_step, sq_endless_factor, sq_table_exact, sq_table_endless, sq_table_step, sq_table_factor, sq_step_exact, sq_step_endless, sq_step_table, sq_step_factor, sq_factor_exact, sq_factor_endless, sq_factor_table, sq_factor_step, nS_foldP, z]
    exact ⟨g1, lim5 (by omega), hQ⟩
  | factor t b =>
    have h1 := small_nI ⟨ok.1, ok.2.1⟩
    have h2 := small_nI ⟨ok.2.2.1, ok.2.2.2.1⟩
    have l1 := nS_l40 h1
    have l2 := nS_l40 h2
    have g1 := small_log (nat_small h1)
    have g2 := small_log (nat_small h2)
    have z : (Str.ofString "factor ").length = 7 := by rw [PySem.ofString_length]; rfl
    have z1 : (Str.ofString "/").length = 1 := by rw [PySem.ofString_length]; rfl
    rw [polT_factor] at hQ
    simp only [Py.d, iSt, iSt1, xSplit, xRmPre, xInSg, xFs, xFs0, xFs1, xFs2, xFs3, xFmt, xFmtI, xFmtS, xStrI, xStrS, xM1, xM11, xM12, xInK, xNotInK, xfSorted, xVar, xVar1, xC, xN, xOp, xOp1, xOp2, xUn, xUn1, xNil, xCons, xCons1, xCons2, xTup, xTup1, xLst, xLst1, xTru, xTru1, xOb, tru_non, tru_bl, tru_int, tru_lst, tru_tup, xTB, xTB1, xAndT, xAndT1, xAndT2, xOrT, xOrT1, xOrT2, xNotT, xNotT1, xAnd, xAnd1, xAnd2, xOr, xOr1, xOr2, xNot, xNot1, xIfE, xIfE1, xIfE2, xCh, xCh1, xCh2, xCh3, xCh3b, xCh4, xNoP, xPart, xPart1, xCut, xCut1, xCut2, xCut3, xB, xB1, xCall, xCall1, xCallK, xCallK1, perm_nil, perm_cons, xCat, xCat1, xCat2, xRev, xRevL, xRevT, sSkip, sSeq, sRet, sRetN, sIf, sIf1, sIf2, sDrop, sDrop1, sBrk, sCnt, sSet, sSet1, sAsg, sAsg1, gN, gT, gPut, put_nil, put_cons, sAug, sAug1, sAug2, xFr, xFr1, xfLst, sOwn, sOwn1, sApp, sApp1, sApp2, sThaw, sThaw1, sThaw2, sThaw3, xPeek, xPeek1, xPeekd, xPeek2, xPeekT, xPeekT1, xPeekTd, sSetIx, sSetIx1, sSetIx2, sSetIx3, sSetIx4, iSq, iSqL, iSqT, iEn, iEnL, iEnT, iR1, iR11, iR2, iR21, sFor, xComp, sPenN, sPenR, sOwnD, sDSet, sDSet1, sDSet2, sDSet3, sDSet5, dKi, dKs, sThawD, sThawD1, iIt, iIt1, gPn, gPt, gPs0, gPs1, gPs2, sTry, sTry1, sTryN, sTryR, sTryR2, sTryB, sTryC, sRaise, nOw0, nOw1, nOw2, fld0, fld1, xIsX1, xIsX2, xIsNotX, xIsNX, U.l0, U.l1, U.s0, U.s1, wS0, wS1, beq_self_eq_true, sSet2, sSet21, sPar, sPar1, sOwnM, sOwnM1, sExt, sExt1, sExt2, sWh1, sWh2, xIsNI, xIsNNo, xIsNotI, xIsNotNo, xIsNotL, xIsNotT, xIsNotS, xIsS, xIsL, xIsT, xNeS, sRetO, sRetO1, sRetF, xCallF, xCallF1, xCallFK, xCallFK1, List.getD_cons_zero, List.getD_cons_succ, Bool.not_true, Bool.not_false, Bool.not_not, xLt, xLe, xGt, xGe, xEqI, xEqS, xNeI, xLenS, xLenL, xLenT, xAddI, xAddS, xAddL, xAddT, xSubI, xMulI, xMulL, xMulT, xDivI, xModI, xPowI, xNegI, xIntI, xIntB, xAbsI, xMin2, xMax2, xListL, xListT, xTupleL, xTupleT, xCutL, xCutT, xIsN, xIsB, xIsNotB, xIx0T, xIx1T, xIx2T, xIx3T, xIx0L, xIx1L, Int.reduceSub, Int.reduceAdd, Int.reduceMul, Int.reduceToNat, Int.reducePow, Int.reduceNeg, sq_exact_endless, sq_exact_table, sq_exact_step, sq_exact_factor, sq_endless_exact, sq_endless_table, sq_endless_step, sq_endless_factor, sq_table_exact, sq_table_endless, sq_table_step, sq_table_factor, sq_step_exact, sq_step_endless, sq_step_table, sq_step_factor, sq_factor_exact, sq_factor_endless, sq_factor_table, sq_factor_step, nS_foldP, sapp_assoc, strLen_append, z, z1]
    exact ⟨g1, lim5 (by omega), lim5 (by omega), g2, lim5 (by omega), hQ⟩
  | table es =>
    simp only [Py.d, iSt, iSt1, xSplit, xRmPre, xInSg, xFs, xFs0, xFs1, xFs2, xFs3, xFmt, xFmtI, xFmtS, xStrI, xStrS, xM1, xM11, xM12, xInK, xNotInK, xfSorted, xVar, xVar1, xC, xN, xOp, xOp1, xOp2, xUn, xUn1, xNil, xCons, xCons1, xCons2, xTup, xTup1, xLst, xLst1, xTru, xTru1, xOb, tru_non, tru_bl, tru_int, tru_lst, tru_tup, xTB, xTB1, xAndT, xAndT1, xAndT2, xOrT, xOrT1, xOrT2, xNotT, xNotT1, xAnd, xAnd1, xAnd2, xOr, xOr1, xOr2, xNot, xNot1, xIfE, xIfE1, xIfE2, xCh, xCh1, xCh2, xCh3, xCh3b, xCh4, xNoP, xPart, xPart1, xCut, xCut1, xCut2, xCut3, xB, xB1, xCall, xCall1, xCallK, xCallK1, perm_nil, perm_cons, xCat, xCat1, xCat2, xRev, xRevL, xRevT, sSkip, sSeq, sRet, sRetN, sIf, sIf1, sIf2, sDrop, sDrop1, sBrk, sCnt, sSet, sSet1, sAsg, sAsg1, gN, gT, gPut, put_nil, put_cons, sAug, sAug1, sAug2, xFr, xFr1, xfLst, sOwn, sOwn1, sApp, sApp1, sApp2, sThaw, sThaw1, sThaw2, sThaw3, xPeek, xPeek1, xPeekd, xPeek2, xPeekT, xPeekT1, xPeekTd, sSetIx, sSetIx1, sSetIx2, sSetIx3, sSetIx4, iSq, iSqL, iSqT, iEn, iEnL, iEnT, iR1, iR11, iR2, iR21, sFor, xComp, sPenN, sPenR, sOwnD, sDSet, sDSet1, sDSet2, sDSet3, sDSet5, dKi, dKs, sThawD, sThawD1, iIt, iIt1, gPn, gPt, gPs0, gPs1, gPs2, sTry, sTry1, sTryN, sTryR, sTryR2, sTryB, sTryC, sRaise, nOw0, nOw1, nOw2, fld0, fld1, xIsX1, xIsX2, xIsNotX, xIsNX, U.l0, U.l1, U.s0, U.s1, wS0, wS1, beq_self_eq_true, sSet2, sSet21, sPar, sPar1, sOwnM, sOwnM1, sExt, sExt1, sExt2, sWh1, sWh2, xIsNI, xIsNNo, xIsNotI, xIsNotNo, xIsNotL, xIsNotT, xIsNotS, xIsS, xIsL, xIsT, xNeS, sRetO, sRetO1, sRetF, xCallF, xCallF1, xCallFK, xCallFK1, List.getD_cons_zero, List.getD_cons_succ, Bool.not_true, Bool.not_false, Bool.not_not, xLt, xLe, xGt, xGe, xEqI, xEqS, xNeI, xLenS, xLenL, xLenT, xAddI, xAddS, xAddL, xAddT, xSubI, xMulI, xMulL, xMulT, xDivI, xModI, xPowI, xNegI, xIntI, xIntB, xAbsI, xMin2, xMax2, xListL, xListT, xTupleL, xTupleT, xCutL, xCutT, xIsN, xIsB, xIsNotB, xIx0T, xIx1T, xIx2T, xIx3T, xIx0L, xIx1L, Int.reduceSub, Int.reduceAdd, Int.reduceMul, Int.reduceToNat, Int.reducePow, Int.reduceNeg, sq_exact_endless, sq_exact_table, sq_exact_step, sq_exact_factor, sq_endless_exact, sq_endless_table, sq_endless_step, sq_endless_factor, sq_table_exact, sq_table_endless, sq_table_step, sq_table_factor, sq_step_exact, sq_step_endless, sq_step_table, sq_step_factor, sq_factor_exact, sq_factor_endless, sq_factor_table, sq_factor_step]
    refine sFor1 (fun ds ρ => ∃ (e1 r : List (Int × Int)) (s2 s3 : Sl), ds = r.map enD ∧ ρ = ⟨[.dat (.tup [.str "table", .tup (es.map enD)]), .dat (.str (Str.join " " ("table" :: e1.map entT))), s2, s3], pen, n⟩ ∧ e1 ++ r = es) ⟨[], es, _, _, rfl, rfl, rfl⟩ ?_ ?_
    · rintro ρ ⟨e1, r, s2, s3, ed, rfl, he⟩
      cases r with
      | cons y r => cases ed
      | nil =>
        rw [List.append_nil] at he
        subst he
        (try simp only [iSt, iSt1, xSplit, xRmPre, xInSg, xFs, xFs0, xFs1, xFs2, xFs3, xFmt, xFmtI, xFmtS, xStrI, xStrS, xM1, xM11, xM12, xInK, xNotInK, xfSorted, xVar, xVar1, xC, xN, xOp, xOp1, xOp2, xUn, xUn1, xNil, xCons, xCons1, xCons2, xTup, xTup1, xLst, xLst1, xTru, xTru1, xOb, tru_non, tru_bl, tru_int, tru_lst, tru_tup, xTB, xTB1, xAndT, xAndT1, xAndT2, xOrT, xOrT1, xOrT2, xNotT, xNotT1, xAnd, xAnd1, xAnd2, xOr, xOr1, xOr2, xNot, xNot1, xIfE, xIfE1, xIfE2, xCh, xCh1, xCh2, xCh3, xCh3b, xCh4, xNoP, xPart, xPart1, xCut, xCut1, xCut2, xCut3, xB, xB1, xCall, xCall1, xCallK, xCallK1, perm_nil, perm_cons, xCat, xCat1, xCat2, xRev, xRevL, xRevT, sSkip, sSeq, sRet, sRetN, sIf, sIf1, sIf2, sDrop, sDrop1, sBrk, sCnt, sSet, sSet1, sAsg, sAsg1, gN, gT, gPut, put_nil, put_cons, sAug, sAug1, sAug2, xFr, xFr1, xfLst, sOwn, sOwn1, sApp, sApp1, sApp2, sThaw, sThaw1, sThaw2, sThaw3, xPeek, xPeek1, xPeekd, xPeek2, xPeekT, xPeekT1, xPeekTd, sSetIx, sSetIx1, sSetIx2, sSetIx3, sSetIx4, iSq, iSqL, iSqT, iEn, iEnL, iEnT, iR1, iR11, iR2, iR21, sFor, xComp, sPenN, sPenR, sOwnD, sDSet, sDSet1, sDSet2, sDSet3, sDSet5, dKi, dKs, sThawD, sThawD1, iIt, iIt1, gPn, gPt, gPs0, gPs1, gPs2, sTry, sTry1, sTryN, sTryR, sTryR2, sTryB, sTryC, sRaise, nOw0, nOw1, nOw2, fld0, fld1, xIsX1, xIsX2, xIsNotX, xIsNX, U.l0, U.l1, U.s0, U.s1, wS0, wS1, beq_self_eq_true, sSet2, sSet21, sPar, sPar1, sOwnM, sOwnM1, sExt, sExt1, sExt2, sWh1, sWh2, xIsNI, xIsNNo, xIsNotI, xIsNotNo, xIsNotL, xIsNotT, xIsNotS, xIsS, xIsL, xIsT, xNeS, sRetO, sRetO1, sRetF, xCallF, xCallF1, xCallFK, xCallFK1, List.getD_cons_zero, List.getD_cons_succ, Bool.not_true, Bool.not_false, Bool.not_not, xLt, xLe, xGt, xGe, xEqI, xEqS, xNeI, xLenS, xLenL, xLenT, xAddI, xAddS, xAddL, xAddT, xSubI, xMulI, xMulL, xMulT, xDivI, xModI, xPowI, xNegI, xIntI, xIntB, xAbsI, xMin2, xMax2, xListL, xListT, xTupleL, xTupleT, xCutL, xCutT, xIsN, xIsB, xIsNotB, xIx0T, xIx1T, xIx2T, xIx3T, xIx0L, xIx1L, Int.reduceSub, Int.reduceAdd, Int.reduceMul, Int.reduceToNat, Int.reducePow, Int.reduceNeg])
        exact hQ
    · rintro d r' ρ ⟨e1, r, s2, s3, ed, rfl, he⟩
      cases r with
      | nil => cases ed
      | cons y r =>
        cases ed
        have hn := ent_nat ok.2
        obtain ⟨h1, h2⟩ := hn y (by rw [← he]; simp)
        have l1 := nS_l40 h1
        have l2 := nS_l40 h2
        have g1 := small_log (nat_small h1)
        have g2 := small_log (nat_small h2)
        have z0 : (Str.ofString " ").length = 1 := by rw [PySem.ofString_length]; rfl
        have z1 : (Str.ofString ":").length = 1 := by rw [PySem.ofString_length]; rfl
        have tx : (Str.join " " ("table" :: e1.map entT)).length ≤ 8000 := by
          have := tx_join (a := Str.ofString " ") (tx_lit (s := " ") 1 (by decide)) (k := 130) (ys := (Str.ofString "table") :: e1.map entT) fun w hw => by
            refine word_tx ok w ?_
            rcases List.mem_cons.mp hw with rfl | hw
            · exact List.mem_cons_self
            · refine List.mem_cons_of_mem _ ?_
              obtain ⟨e, hx, rfl⟩ := List.mem_map.mp hw
              exact List.mem_map_of_mem (by rw [← he]; simp [hx])
          have l := ok.1
          rw [← he, List.length_append] at l
          refine (this.le ?_).2
          simp only [List.length_cons, List.length_map]
          omega
        have sn : Str.join " " ("table" :: (e1 ++ [y]).map entT) = Str.join " " ("table" :: e1.map entT) ++ (Str.ofString " " ++ (nS y.1 ++ (Str.ofString ":" ++ nS y.2))) := by
          rw [List.map_append, ← List.cons_append, List.map_cons, List.map_nil, join_snoc _ _ _ (by simp), sapp_assoc]; rfl
        simp only [enD, iSt, iSt1, xSplit, xRmPre, xInSg, xFs, xFs0, xFs1, xFs2, xFs3, xFmt, xFmtI, xFmtS, xStrI, xStrS, xM1, xM11, xM12, xInK, xNotInK, xfSorted, xVar, xVar1, xC, xN, xOp, xOp1, xOp2, xUn, xUn1, xNil, xCons, xCons1, xCons2, xTup, xTup1, xLst, xLst1, xTru, xTru1, xOb, tru_non, tru_bl, tru_int, tru_lst, tru_tup, xTB, xTB1, xAndT, xAndT1, xAndT2, xOrT, xOrT1, xOrT2, xNotT, xNotT1, xAnd, xAnd1, xAnd2, xOr, xOr1, xOr2, xNot, xNot1, xIfE, xIfE1, xIfE2, xCh, xCh1, xCh2, xCh3, xCh3b, xCh4, xNoP, xPart, xPart1, xCut, xCut1, xCut2, xCut3, xB, xB1, xCall, xCall1, xCallK, xCallK1, perm_nil, perm_cons, xCat, xCat1, xCat2, xRev, xRevL, xRevT, sSkip, sSeq, sRet, sRetN, sIf, sIf1, sIf2, sDrop, sDrop1, sBrk, sCnt, sSet, sSet1, sAsg, sAsg1, gN, gT, gPut, put_nil, put_cons, sAug, sAug1, sAug2, xFr, xFr1, xfLst, sOwn, sOwn1, sApp, sApp1, sApp2, sThaw, sThaw1, sThaw2, sThaw3, xPeek, xPeek1, xPeekd, xPeek2, xPeekT, xPeekT1, xPeekTd, sSetIx, sSetIx1, sSetIx2, sSetIx3, sSetIx4, iSq, iSqL, iSqT, iEn, iEnL, iEnT, iR1, iR11, iR2, iR21, sFor, xComp, sPenN, sPenR, sOwnD, sDSet, sDSet1, sDSet2, sDSet3, sDSet5, dKi, dKs, sThawD, sThawD1, iIt, iIt1, gPn, gPt, gPs0, gPs1, gPs2, sTry, sTry1, sTryN, sTryR, sTryR2, sTryB, sTryC, sRaise, nOw0, nOw1, nOw2, fld0, fld1, xIsX1, xIsX2, xIsNotX, xIsNX, U.l0, U.l1, U.s0, U.s1, wS0, wS1, beq_self_eq_true, sSet2, sSet21, sPar, sPar1, sOwnM, sOwnM1, sExt, sExt1, sExt2, sWh1, sWh2, xIsNI, xIsNNo, xIsNotI, xIsNotNo, xIsNotL, xIsNotT, xIsNotS, xIsS, xIsL, xIsT, xNeS, sRetO, sRetO1, sRetF, xCallF, xCallF1, xCallFK, xCallFK1, List.getD_cons_zero, List.getD_cons_succ, Bool.not_true, Bool.not_false, Bool.not_not, xLt, xLe, xGt, xGe, xEqI, xEqS, xNeI, xLenS, xLenL, xLenT, xAddI, xAddS, xAddL, xAddT, xSubI, xMulI, xMulL, xMulT, xDivI, xModI, xPowI, xNegI, xIntI, xIntB, xAbsI, xMin2, xMax2, xListL, xListT, xTupleL, xTupleT, xCutL, xCutT, xIsN, xIsB, xIsNotB, xIx0T, xIx1T, xIx2T, xIx3T, xIx0L, xIx1L, Int.reduceSub, Int.reduceAdd, Int.reduceMul, Int.reduceToNat, Int.reducePow, Int.reduceNeg, nS_foldP, sapp_assoc, strLen_append, z0, z1]
        exact ⟨lim5 (by omega), g1, lim5 (by omega), lim5 (by omega), g2, lim5 (by omega), e1 ++ [y], r, _, _, rfl, by rw [sn], by rw [← he]; simp⟩
theorem shw_str {k : Nat} {s : Str} (h : Tx k s) (hk : k ≤ 1600000) : Shw (.str s) := Shw.of (n := 1) (by simpa [D.fit] using h.1) (by decide) (by simp only [D.sz]; have := h.2; omega) (.inl rfl)
theorem py_shw {P : Py} (ok : P.ok) : Shw P.d := by
  have hf := fit_py ok
  have w : ∀ s ∈ ([("exact" : Str), "endless", "step", "factor", "table"]), s.length ≤ 7 := by decide +kernel
  cases P with
  | exact => exact Shw.of (n := 3) hf (by decide) (by decide +kernel) (.inl rfl)
  | endless => exact Shw.of (n := 3) hf (by decide) (by decide +kernel) (.inl rfl)
  | step s =>
    have := w "step" (by simp)
    exact Shw.of (n := 3) hf (by decide) (by simp only [Py.d, D.sz, D.szs]; omega) (.inl rfl)
  | factor t b =>
    have := w "factor" (by simp)
    exact Shw.of (n := 3) hf (by decide) (by simp only [Py.d, D.sz, D.szs]; omega) (.inl rfl)
  | table es =>
    have := w "table" (by simp)
    have l := ok.1
    have s := szs_le (a := es.map enD) (B := 130) fun d hd => by obtain ⟨e, _, rfl⟩ := List.mem_map.mp hd; simp only [enD, D.sz, D.szs]; decide
    rw [List.length_map] at s
    refine Shw.of (n := 3) hf (by decide) (by simp only [Py.d, D.sz, D.szs]; omega) (.inl ?_)
    simp only [Py.d, D.noDc, D.noDcs, Bool.true_and, Bool.and_true]
    exact noDcs_iff.mpr fun d hd => by obtain ⟨e, _, rfl⟩ := List.mem_map.mp hd; rfl
theorem pure__law_is_right {pen : PenT} {PX : UX → Nat → Prop} : ∀ ds n (Q : D → Nat → Prop), sp__law_is_right ds pen n Q PX → u__law_is_right (Wd pen PX) { nx := fun ρ => Q .non ρ.fuel, rt := Q } ⟨startU N__law_is_right ds, pen, n⟩ := by
  refine run__law_is_right ?_
  rintro x n Q ⟨P, e, ok, hQ⟩
  obtain rfl := list1 e
  have ps := py_shw ok
  have ts := shw_str (polT_tx ok) (by decide)
  unfold u__law_is_right
  (try simp only [iSt, iSt1, xSplit, xRmPre, xInSg, xFs, xFs0, xFs1, xFs2, xFs3, xFmt, xFmtI, xFmtS, xStrI, xStrS, xM1, xM11, xM12, xInK, xNotInK, xfSorted, xVar, xVar1, xC, xN, xOp, xOp1, xOp2, xUn, xUn1, xNil, xCons, xCons1, xCons2, xTup, xTup1, xLst, xLst1, xTru, xTru1, xOb, tru_non, tru_bl, tru_int, tru_lst, tru_tup, xTB, xTB1, xAndT, xAndT1, xAndT2, xOrT, xOrT1, xOrT2, xNotT, xNotT1, xAnd, xAnd1, xAnd2, xOr, xOr1, xOr2, xNot, xNot1, xIfE, xIfE1, xIfE2, xCh, xCh1, xCh2, xCh3, xCh3b, xCh4, xNoP, xPart, xPart1, xCut, xCut1, xCut2, xCut3, xB, xB1, xCall, xCall1, xCallK, xCallK1, perm_nil, perm_cons, xCat, xCat1, xCat2, xRev, xRevL, xRevT, sSkip, sSeq, sRet, sRetN, sIf, sIf1, sIf2, sDrop, sDrop1, sBrk, sCnt, sSet, sSet1, sAsg, sAsg1, gN, gT, gPut, put_nil, put_cons, sAug, sAug1, sAug2, xFr, xFr1, xfLst, sOwn, sOwn1, sApp, sApp1, sApp2, sThaw, sThaw1, sThaw2, sThaw3, xPeek, xPeek1, xPeekd, xPeek2, xPeekT, xPeekT1, xPeekTd, sSetIx, sSetIx1, sSetIx2, sSetIx3, sSetIx4, iSq, iSqL, iSqT, iEn, iEnL, iEnT, iR1, iR11, iR2, iR21, sFor, xComp, sPenN, sPenR, sOwnD, sDSet, sDSet1, sDSet2, sDSet3, sDSet5, dKi, dKs, sThawD, sThawD1, iIt, iIt1, gPn, gPt, gPs0, gPs1, gPs2, sTry, sTry1, sTryN, sTryR, sTryR2, sTryB, sTryC, sRaise, nOw0, nOw1, nOw2, fld0, fld1, xIsX1, xIsX2, xIsNotX, xIsNX, U.l0, U.l1, U.s0, U.s1, wS0, wS1, beq_self_eq_true, sSet2, sSet21, sPar, sPar1, sOwnM, sOwnM1, sExt, sExt1, sExt2, sWh1, sWh2, xIsNI, xIsNNo, xIsNotI, xIsNotNo, xIsNotL, xIsNotT, xIsNotS, xIsS, xIsL, xIsT, xNeS, sRetO, sRetO1, sRetF, xCallF, xCallF1, xCallFK, xCallFK1, List.getD_cons_zero, List.getD_cons_succ, Bool.not_true, Bool.not_false, Bool.not_not, xLt, xLe, xGt, xGe, xEqI, xEqS, xNeI, xLenS, xLenL, xLenT, xAddI, xAddS, xAddL, xAddT, xSubI, xMulI, xMulL, xMulT, xDivI, xModI, xPowI, xNegI, xIntI, xIntB, xAbsI, xMin2, xMax2, xListL, xListT, xTupleL, xTupleT, xCutL, xCutT, xIsN, xIsB, xIsNotB, xIx0T, xIx1T, xIx2T, xIx3T, xIx0L, xIx1L, Int.reduceSub, Int.reduceAdd, Int.reduceMul, Int.reduceToNat, Int.reducePow, Int.reduceNeg])
  refine ⟨P, rfl, ok, ?_⟩
  (try simp only [iSt, iSt1, xSplit, xRmPre, xInSg, xFs, xFs0, xFs1, xFs2, xFs3, xFmt, xFmtI, xFmtS, xStrI, xStrS, xM1, xM11, xM12, xInK, xNotInK, xfSorted, xVar, xVar1, xC, xN, xOp, xOp1, xOp2, xUn, xUn1, xNil, xCons, xCons1, xCons2, xTup, xTup1, xLst, xLst1, xTru, xTru1, xOb, tru_non, tru_bl, tru_int, tru_lst, tru_tup, xTB, xTB1, xAndT, xAndT1, xAndT2, xOrT, xOrT1, xOrT2, xNotT, xNotT1, xAnd, xAnd1, xAnd2, xOr, xOr1, xOr2, xNot, xNot1, xIfE, xIfE1, xIfE2, xCh, xCh1, xCh2, xCh3, xCh3b, xCh4, xNoP, xPart, xPart1, xCut, xCut1, xCut2, xCut3, xB, xB1, xCall, xCall1, xCallK, xCallK1, perm_nil, perm_cons, xCat, xCat1, xCat2, xRev, xRevL, xRevT, sSkip, sSeq, sRet, sRetN, sIf, sIf1, sIf2, sDrop, sDrop1, sBrk, sCnt, sSet, sSet1, sAsg, sAsg1, gN, gT, gPut, put_nil, put_cons, sAug, sAug1, sAug2, xFr, xFr1, xfLst, sOwn, sOwn1, sApp, sApp1, sApp2, sThaw, sThaw1, sThaw2, sThaw3, xPeek, xPeek1, xPeekd, xPeek2, xPeekT, xPeekT1, xPeekTd, sSetIx, sSetIx1, sSetIx2, sSetIx3, sSetIx4, iSq, iSqL, iSqT, iEn, iEnL, iEnT, iR1, iR11, iR2, iR21, sFor, xComp, sPenN, sPenR, sOwnD, sDSet, sDSet1, sDSet2, sDSet3, sDSet5, dKi, dKs, sThawD, sThawD1, iIt, iIt1, gPn, gPt, gPs0, gPs1, gPs2, sTry, sTry1, sTryN, sTryR, sTryR2, sTryB, sTryC, sRaise, nOw0, nOw1, nOw2, fld0, fld1, xIsX1, xIsX2, xIsNotX, xIsNX, U.l0, U.l1, U.s0, U.s1, wS0, wS1, beq_self_eq_true, sSet2, sSet21, sPar, sPar1, sOwnM, sOwnM1, sExt, sExt1, sExt2, sWh1, sWh2, xIsNI, xIsNNo, xIsNotI, xIsNotNo, xIsNotL, xIsNotT, xIsNotS, xIsS, xIsL, xIsT, xNeS, sRetO, sRetO1, sRetF, xCallF, xCallF1, xCallFK, xCallFK1, List.getD_cons_zero, List.getD_cons_succ, Bool.not_true, Bool.not_false, Bool.not_not, xLt, xLe, xGt, xGe, xEqI, xEqS, xNeI, xLenS, xLenL, xLenT, xAddI, xAddS, xAddL, xAddT, xSubI, xMulI, xMulL, xMulT, xDivI, xModI, xPowI, xNegI, xIntI, xIntB, xAbsI, xMin2, xMax2, xListL, xListT, xTupleL, xTupleT, xCutL, xCutT, xIsN, xIsB, xIsNotB, xIx0T, xIx1T, xIx2T, xIx3T, xIx0L, xIx1L, Int.reduceSub, Int.reduceAdd, Int.reduceMul, Int.reduceToNat, Int.reducePow, Int.reduceNeg])
  refine ⟨by decide, ?_⟩
  refine sFor1 (fun ds ρ => ∃ (s2 : Sl), ρ = ⟨[.dat P.d, .dat (.str (polT P)), s2], pen, n⟩) ⟨_, rfl⟩ ?_ ?_
  · rintro ρ ⟨s2, rfl⟩
    (try simp only [iSt, iSt1, xSplit, xRmPre, xInSg, xFs, xFs0, xFs1, xFs2, xFs3, xFmt, xFmtI, xFmtS, xStrI, xStrS, xM1, xM11, xM12, xInK, xNotInK, xfSorted, xVar, xVar1, xC, xN, xOp, xOp1, xOp2, xUn, xUn1, xNil, xCons, xCons1, xCons2, xTup, xTup1, xLst, xLst1, xTru, xTru1, xOb, tru_non, tru_bl, tru_int, tru_lst, tru_tup, xTB, xTB1, xAndT, xAndT1, xAndT2, xOrT, xOrT1, xOrT2, xNotT, xNotT1, xAnd, xAnd1, xAnd2, xOr, xOr1, xOr2, xNot, xNot1, xIfE, xIfE1, xIfE2, xCh, xCh1, xCh2, xCh3, xCh3b, xCh4, xNoP, xPart, xPart1, xCut, xCut1, xCut2, xCut3, xB, xB1, xCall, xCall1, xCallK, xCallK1, perm_nil, perm_cons, xCat, xCat1, xCat2, xRev, xRevL, xRevT, sSkip, sSeq, sRet, sRetN, sIf, sIf1, sIf2, sDrop, sDrop1, sBrk, sCnt, sSet, sSet1, sAsg, sAsg1, gN, gT, gPut, put_nil, put_cons, sAug, sAug1, sAug2, xFr, xFr1, xfLst, sOwn, sOwn1, sApp, sApp1, sApp2, sThaw, sThaw1, sThaw2, sThaw3, xPeek, xPeek1, xPeekd, xPeek2, xPeekT, xPeekT1, xPeekTd, sSetIx, sSetIx1, sSetIx2, sSetIx3, sSetIx4, iSq, iSqL, iSqT, iEn, iEnL, iEnT, iR1, iR11, iR2, iR21, sFor, xComp, sPenN, sPenR, sOwnD, sDSet, sDSet1, sDSet2, sDSet3, sDSet5, dKi, dKs, sThawD, sThawD1, iIt, iIt1, gPn, gPt, gPs0, gPs1, gPs2, sTry, sTry1, sTryN, sTryR, sTryR2, sTryB, sTryC, sRaise, nOw0, nOw1, nOw2, fld0, fld1, xIsX1, xIsX2, xIsNotX, xIsNX, U.l0, U.l1, U.s0, U.s1, wS0, wS1, beq_self_eq_true, sSet2, sSet21, sPar, sPar1, sOwnM, sOwnM1, sExt, sExt1, sExt2, sWh1, sWh2, xIsNI, xIsNNo, xIsNotI, xIsNotNo, xIsNotL, xIsNotT, xIsNotS, xIsS, xIsL, xIsT, xNeS, sRetO, sRetO1, sRetF, xCallF, xCallF1, xCallFK, xCallFK1, List.getD_cons_zero, List.getD_cons_succ, Bool.not_true, Bool.not_false, Bool.not_not, xLt, xLe, xGt, xGe, xEqI, xEqS, xNeI, xLenS, xLenL, xLenT, xAddI, xAddS, xAddL, xAddT, xSubI, xMulI, xMulL, xMulT, xDivI, xModI, xPowI, xNegI, xIntI, xIntB, xAbsI, xMin2, xMax2, xListL, xListT, xTupleL, xTupleT, xCutL, xCutT, xIsN, xIsB, xIsNotB, xIx0T, xIx1T, xIx2T, xIx3T, xIx0L, xIx1L, Int.reduceSub, Int.reduceAdd, Int.reduceMul, Int.reduceToNat, Int.reducePow, Int.reduceNeg])
    refine ⟨P, rfl, ok, ?_⟩
    (try simp only [iSt, iSt1, xSplit, xRmPre, xInSg, xFs, xFs0, xFs1, xFs2, xFs3, xFmt, xFmtI, xFmtS, xStrI, xStrS, xM1, xM11, xM12, xInK, xNotInK, xfSorted, xVar, xVar1, xC, xN, xOp, xOp1, xOp2, xUn, xUn1, xNil, xCons, xCons1, xCons2, xTup, xTup1, xLst, xLst1, xTru, xTru1, xOb, tru_non, tru_bl, tru_int, tru_lst, tru_tup, xTB, xTB1, xAndT, xAndT1, xAndT2, xOrT, xOrT1, xOrT2, xNotT, xNotT1, xAnd, xAnd1, xAnd2, xOr, xOr1, xOr2, xNot, xNot1, xIfE, xIfE1, xIfE2, xCh, xCh1, xCh2, xCh3, xCh3b, xCh4, xNoP, xPart, xPart1, xCut, xCut1, xCut2, xCut3, xB, xB1, xCall, xCall1, xCallK, xCallK1, perm_nil, perm_cons, xCat, xCat1, xCat2, xRev, xRevL, xRevT, sSkip, sSeq, sRet, sRetN, sIf, sIf1, sIf2, sDrop, sDrop1, sBrk, sCnt, sSet, sSet1, sAsg, sAsg1, gN, gT, gPut, put_nil, put_cons, sAug, sAug1, sAug2, xFr, xFr1, xfLst, sOwn, sOwn1, sApp, sApp1, sApp2, sThaw, sThaw1, sThaw2, sThaw3, xPeek, xPeek1, xPeekd, xPeek2, xPeekT, xPeekT1, xPeekTd, sSetIx, sSetIx1, sSetIx2, sSetIx3, sSetIx4, iSq, iSqL, iSqT, iEn, iEnL, iEnT, iR1, iR11, iR2, iR21, sFor, xComp, sPenN, sPenR, sOwnD, sDSet, sDSet1, sDSet2, sDSet3, sDSet5, dKi, dKs, sThawD, sThawD1, iIt, iIt1, gPn, gPt, gPs0, gPs1, gPs2, sTry, sTry1, sTryN, sTryR, sTryR2, sTryB, sTryC, sRaise, nOw0, nOw1, nOw2, fld0, fld1, xIsX1, xIsX2, xIsNotX, xIsNX, U.l0, U.l1, U.s0, U.s1, wS0, wS1, beq_self_eq_true, sSet2, sSet21, sPar, sPar1, sOwnM, sOwnM1, sExt, sExt1, sExt2, sWh1, sWh2, xIsNI, xIsNNo, xIsNotI, xIsNotNo, xIsNotL, xIsNotT, xIsNotS, xIsS, xIsL, xIsT, xNeS, sRetO, sRetO1, sRetF, xCallF, xCallF1, xCallFK, xCallFK1, List.getD_cons_zero, List.getD_cons_succ, Bool.not_true, Bool.not_false, Bool.not_not, xLt, xLe, xGt, xGe, xEqI, xEqS, xNeI, xLenS, xLenL, xLenT, xAddI, xAddS, xAddL, xAddT, xSubI, xMulI, xMulL, xMulT, xDivI, xModI, xPowI, xNegI, xIntI, xIntB, xAbsI, xMin2, xMax2, xListL, xListT, xTupleL, xTupleT, xCutL, xCutT, xIsN, xIsB, xIsNotB, xIx0T, xIx1T, xIx2T, xIx3T, xIx0L, xIx1L, Int.reduceSub, Int.reduceAdd, Int.reduceMul, Int.reduceToNat, Int.reducePow, Int.reduceNeg])
    refine ⟨P, rfl, ok, ?_⟩
    simp only [iSt, iSt1, xSplit, xRmPre, xInSg, xFs, xFs0, xFs1, xFs2, xFs3, xFmt, xFmtI, xFmtS, xStrI, xStrS, xM1, xM11, xM12, xInK, xNotInK, xfSorted, xVar, xVar1, xC, xN, xOp, xOp1, xOp2, xUn, xUn1, xNil, xCons, xCons1, xCons2, xTup, xTup1, xLst, xLst1, xTru, xTru1, xOb, tru_non, tru_bl, tru_int, tru_lst, tru_tup, xTB, xTB1, xAndT, xAndT1, xAndT2, xOrT, xOrT1, xOrT2, xNotT, xNotT1, xAnd, xAnd1, xAnd2, xOr, xOr1, xOr2, xNot, xNot1, xIfE, xIfE1, xIfE2, xCh, xCh1, xCh2, xCh3, xCh3b, xCh4, xNoP, xPart, xPart1, xCut, xCut1, xCut2, xCut3, xB, xB1, xCall, xCall1, xCallK, xCallK1, perm_nil, perm_cons, xCat, xCat1, xCat2, xRev, xRevL, xRevT, sSkip, sSeq, sRet, sRetN, sIf, sIf1, sIf2, sDrop, sDrop1, sBrk, sCnt, sSet, sSet1, sAsg, sAsg1, gN, gT, gPut, put_nil, put_cons, sAug, sAug1, sAug2, xFr, xFr1, xfLst, sOwn, sOwn1, sApp, sApp1, sApp2, sThaw, sThaw1, sThaw2, sThaw3, xPeek, xPeek1, xPeekd, xPeek2, xPeekT, xPeekT1, xPeekTd, sSetIx, sSetIx1, sSetIx2, sSetIx3, sSetIx4, iSq, iSqL, iSqT, iEn, iEnL, iEnT, iR1, iR11, iR2, iR21, sFor, xComp, sPenN, sPenR, sOwnD, sDSet, sDSet1, sDSet2, sDSet3, sDSet5, dKi, dKs, sThawD, sThawD1, iIt, iIt1, gPn, gPt, gPs0, gPs1, gPs2, sTry, sTry1, sTryN, sTryR, sTryR2, sTryB, sTryC, sRaise, nOw0, nOw1, nOw2, fld0, fld1, xIsX1, xIsX2, xIsNotX, xIsNX, U.l0, U.l1, U.s0, U.s1, wS0, wS1, beq_self_eq_true, sSet2, sSet21, sPar, sPar1, sOwnM, sOwnM1, sExt, sExt1, sExt2, sWh1, sWh2, xIsNI, xIsNNo, xIsNotI, xIsNotNo, xIsNotL, xIsNotT, xIsNotS, xIsS, xIsL, xIsT, xNeS, sRetO, sRetO1, sRetF, xCallF, xCallF1, xCallFK, xCallFK1, List.getD_cons_zero, List.getD_cons_succ, Bool.not_true, Bool.not_false, Bool.not_not, xLt, xLe, xGt, xGe, xEqI, xEqS, xNeI, xLenS, xLenL, xLenT, xAddI, xAddS, xAddL, xAddT, xSubI, xMulI, xMulL, xMulT, xDivI, xModI, xPowI, xNegI, xIntI, xIntB, xAbsI, xMin2, xMax2, xListL, xListT, xTupleL, xTupleT, xCutL, xCutT, xIsN, xIsB, xIsNotB, xIx0T, xIx1T, xIx2T, xIx3T, xIx0L, xIx1L, Int.reduceSub, Int.reduceAdd, Int.reduceMul, Int.reduceToNat, Int.reducePow, Int.reduceNeg, xRepr]
    exact ⟨ps, ps, hQ⟩
  · rintro d r' ρ ⟨s2, rfl⟩
    (try simp only [iSt, iSt1, xSplit, xRmPre, xInSg, xFs, xFs0, xFs1, xFs2, xFs3, xFmt, xFmtI, xFmtS, xStrI, xStrS, xM1, xM11, xM12, xInK, xNotInK, xfSorted, xVar, xVar1, xC, xN, xOp, xOp1, xOp2, xUn, xUn1, xNil, xCons, xCons1, xCons2, xTup, xTup1, xLst, xLst1, xTru, xTru1, xOb, tru_non, tru_bl, tru_int, tru_lst, tru_tup, xTB, xTB1, xAndT, xAndT1, xAndT2, xOrT, xOrT1, xOrT2, xNotT, xNotT1, xAnd, xAnd1, xAnd2, xOr, xOr1, xOr2, xNot, xNot1, xIfE, xIfE1, xIfE2, xCh, xCh1, xCh2, xCh3, xCh3b, xCh4, xNoP, xPart, xPart1, xCut, xCut1, xCut2, xCut3, xB, xB1, xCall, xCall1, xCallK, xCallK1, perm_nil, perm_cons, xCat, xCat1, xCat2, xRev, xRevL, xRevT, sSkip, sSeq, sRet, sRetN, sIf, sIf1, sIf2, sDrop, sDrop1, sBrk, sCnt, sSet, sSet1, sAsg, sAsg1, gN, gT, gPut, put_nil, put_cons, sAug, sAug1, sAug2, xFr, xFr1, xfLst, sOwn, sOwn1, sApp, sApp1, sApp2, sThaw, sThaw1, sThaw2, sThaw3, xPeek, xPeek1, xPeekd, xPeek2, xPeekT, xPeekT1, xPeekTd, sSetIx, sSetIx1, sSetIx2, sSetIx3, sSetIx4, iSq, iSqL, iSqT, iEn, iEnL, iEnT, iR1, iR11, iR2, iR21, sFor, xComp, sPenN, sPenR, sOwnD, sDSet, sDSet1, sDSet2, sDSet3, sDSet5, dKi, dKs, sThawD, sThawD1, iIt, iIt1, gPn, gPt, gPs0, gPs1, gPs2, sTry, sTry1, sTryN, sTryR, sTryR2, sTryB, sTryC, sRaise, nOw0, nOw1, nOw2, fld0, fld1, xIsX1, xIsX2, xIsNotX, xIsNX, U.l0, U.l1, U.s0, U.s1, wS0, wS1, beq_self_eq_true, sSet2, sSet21, sPar, sPar1, sOwnM, sOwnM1, sExt, sExt1, sExt2, sWh1, sWh2, xIsNI, xIsNNo, xIsNotI, xIsNotNo, xIsNotL, xIsNotT, xIsNotS, xIsS, xIsL, xIsT, xNeS, sRetO, sRetO1, sRetF, xCallF, xCallF1, xCallFK, xCallFK1, List.getD_cons_zero, List.getD_cons_succ, Bool.not_true, Bool.not_false, Bool.not_not, xLt, xLe, xGt, xGe, xEqI, xEqS, xNeI, xLenS, xLenL, xLenT, xAddI, xAddS, xAddL, xAddT, xSubI, xMulI, xMulL, xMulT, xDivI, xModI, xPowI, xNegI, xIntI, xIntB, xAbsI, xMin2, xMax2, xListL, xListT, xTupleL, xTupleT, xCutL, xCutT, xIsN, xIsB, xIsNotB, xIx0T, xIx1T, xIx2T, xIx3T, xIx0L, xIx1L, Int.reduceSub, Int.reduceAdd, Int.reduceMul, Int.reduceToNat, Int.reducePow, Int.reduceNeg])
    refine ⟨P, rfl, ok, ?_⟩
    simp only [iSt, iSt1, xSplit, xRmPre, xInSg, xFs, xFs0, xFs1, xFs2, xFs3, xFmt, xFmtI, xFmtS, xStrI, xStrS, xM1, xM11, xM12, xInK, xNotInK, xfSorted, xVar, xVar1, xC, xN, xOp, xOp1, xOp2, xUn, xUn1, xNil, xCons, xCons1, xCons2, xTup, xTup1, xLst, xLst1, xTru, xTru1, xOb, tru_non, tru_bl, tru_int, tru_lst, tru_tup, xTB, xTB1, xAndT, xAndT1, xAndT2, xOrT, xOrT1, xOrT2, xNotT, xNotT1, xAnd, xAnd1, xAnd2, xOr, xOr1, xOr2, xNot, xNot1, xIfE, xIfE1, xIfE2, xCh, xCh1, xCh2, xCh3, xCh3b, xCh4, xNoP, xPart, xPart1, xCut, xCut1, xCut2, xCut3, xB, xB1, xCall, xCall1, xCallK, xCallK1, perm_nil, perm_cons, xCat, xCat1, xCat2, xRev, xRevL, xRevT, sSkip, sSeq, sRet, sRetN, sIf, sIf1, sIf2, sDrop, sDrop1, sBrk, sCnt, sSet, sSet1, sAsg, sAsg1, gN, gT, gPut, put_nil, put_cons, sAug, sAug1, sAug2, xFr, xFr1, xfLst, sOwn, sOwn1, sApp, sApp1, sApp2, sThaw, sThaw1, sThaw2, sThaw3, xPeek, xPeek1, xPeekd, xPeek2, xPeekT, xPeekT1, xPeekTd, sSetIx, sSetIx1, sSetIx2, sSetIx3, sSetIx4, iSq, iSqL, iSqT, iEn, iEnL, iEnT, iR1, iR11, iR2, iR21, sFor, xComp, sPenN, sPenR, sOwnD, sDSet, sDSet1, sDSet2, sDSet3, sDSet5, dKi, dKs, sThawD, sThawD1, iIt, iIt1, gPn, gPt, gPs0, gPs1, gPs2, sTry, sTry1, sTryN, sTryR, sTryR2, sTryB, sTryC, sRaise, nOw0, nOw1, nOw2, fld0, fld1, xIsX1, xIsX2, xIsNotX, xIsNX, U.l0, U.l1, U.s0, U.s1, wS0, wS1, beq_self_eq_true, sSet2, sSet21, sPar, sPar1, sOwnM, sOwnM1, sExt, sExt1, sExt2, sWh1, sWh2, xIsNI, xIsNNo, xIsNotI, xIsNotNo, xIsNotL, xIsNotT, xIsNotS, xIsS, xIsL, xIsT, xNeS, sRetO, sRetO1, sRetF, xCallF, xCallF1, xCallFK, xCallFK1, List.getD_cons_zero, List.getD_cons_succ, Bool.not_true, Bool.not_false, Bool.not_not, xLt, xLe, xGt, xGe, xEqI, xEqS, xNeI, xLenS, xLenL, xLenT, xAddI, xAddS, xAddL, xAddT, xSubI, xMulI, xMulL, xMulT, xDivI, xModI, xPowI, xNegI, xIntI, xIntB, xAbsI, xMin2, xMax2, xListL, xListT, xTupleL, xTupleT, xCutL, xCutT, xIsN, xIsB, xIsNotB, xIx0T, xIx1T, xIx2T, xIx3T, xIx0L, xIx1L, Int.reduceSub, Int.reduceAdd, Int.reduceMul, Int.reduceToNat, Int.reducePow, Int.reduceNeg, xRepr]
    refine ⟨ts, ts, P, rfl, ok, ?_⟩
    simp only [iSt, iSt1, xSplit, xRmPre, xInSg, xFs, xFs0, xFs1, xFs2, xFs3, xFmt, xFmtI, xFmtS, xStrI, xStrS, xM1, xM11, xM12, xInK, xNotInK, xfSorted, xVar, xVar1, xC, xN, xOp, xOp1, xOp2, xUn, xUn1, xNil, xCons, xCons1, xCons2, xTup, xTup1, xLst, xLst1, xTru, xTru1, xOb, tru_non, tru_bl, tru_int, tru_lst, tru_tup, xTB, xTB1, xAndT, xAndT1, xAndT2, xOrT, xOrT1, xOrT2, xNotT, xNotT1, xAnd, xAnd1, xAnd2, xOr, xOr1, xOr2, xNot, xNot1, xIfE, xIfE1, xIfE2, xCh, xCh1, xCh2, xCh3, xCh3b, xCh4, xNoP, xPart, xPart1, xCut, xCut1, xCut2, xCut3, xB, xB1, xCall, xCall1, xCallK, xCallK1, perm_nil, perm_cons, xCat, xCat1, xCat2, xRev, xRevL, xRevT, sSkip, sSeq, sRet, sRetN, sIf, sIf1, sIf2, sDrop, sDrop1, sBrk, sCnt, sSet, sSet1, sAsg, sAsg1, gN, gT, gPut, put_nil, put_cons, sAug, sAug1, sAug2, xFr, xFr1, xfLst, sOwn, sOwn1, sApp, sApp1, sApp2, sThaw, sThaw1, sThaw2, sThaw3, xPeek, xPeek1, xPeekd, xPeek2, xPeekT, xPeekT1, xPeekTd, sSetIx, sSetIx1, sSetIx2, sSetIx3, sSetIx4, iSq, iSqL, iSqT, iEn, iEnL, iEnT, iR1, iR11, iR2, iR21, sFor, xComp, sPenN, sPenR, sOwnD, sDSet, sDSet1, sDSet2, sDSet3, sDSet5, dKi, dKs, sThawD, sThawD1, iIt, iIt1, gPn, gPt, gPs0, gPs1, gPs2, sTry, sTry1, sTryN, sTryR, sTryR2, sTryB, sTryC, sRaise, nOw0, nOw1, nOw2, fld0, fld1, xIsX1, xIsX2, xIsNotX, xIsNX, U.l0, U.l1, U.s0, U.s1, wS0, wS1, beq_self_eq_true, sSet2, sSet21, sPar, sPar1, sOwnM, sOwnM1, sExt, sExt1, sExt2, sWh1, sWh2, xIsNI, xIsNNo, xIsNotI, xIsNotNo, xIsNotL, xIsNotT, xIsNotS, xIsS, xIsL, xIsT, xNeS, sRetO, sRetO1, sRetF, xCallF, xCallF1, xCallFK, xCallFK1, List.getD_cons_zero, List.getD_cons_succ, Bool.not_true, Bool.not_false, Bool.not_not, xLt, xLe, xGt, xGe, xEqI, xEqS, xNeI, xLenS, xLenL, xLenT, xAddI, xAddS, xAddL, xAddT, xSubI, xMulI, xMulL, xMulT, xDivI, xModI, xPowI, xNegI, xIntI, xIntB, xAbsI, xMin2, xMax2, xListL, xListT, xTupleL, xTupleT, xCutL, xCutT, xIsN, xIsB, xIsNotB, xIx0T, xIx1T, xIx2T, xIx3T, xIx0L, xIx1L, Int.reduceSub, Int.reduceAdd, Int.reduceMul, Int.reduceToNat, Int.reducePow, Int.reduceNeg, xRepr]
    exact ⟨ps, ps, _, rfl⟩
end Lw


set_option Elab.async false
set_option linter.all false
set_option maxRecDepth 100000
set_option maxHeartbeats 0
namespace Lw
open PySem PySem.Spec L2 U
open PyProof.Rows hiding St
theorem con_asc : ∀ {es : List (Int × Int)} {k : Nat}, (∀ i e, es[i]? = some e → e.1 = ((k + i : Nat) : Int) ∧ 0 ≤ e.2 ∧ e.2 ≤ 9999999999999999999999999999999999999999) → k + es.length ≤ 60 → asc (k : Int) es
  | [], _, _, _ => trivial
  | e :: r, k, h, hl => by
    simp only [List.length_cons] at hl
    obtain ⟨h1, h2, h3⟩ := h 0 e rfl
    refine ⟨by omega, by omega, h2, h3, ?_⟩
    have := con_asc (es := r) (k := k + 1) (fun i x hx => by
      have := h (i + 1) x (by simpa using hx)
      rw [show k + 1 + i = k + (i + 1) by omega]
      exact this) (by omega)
    rw [h1]
    have e2 : ((k + 0 : Nat) : Int) + 1 = ((k + 1 : Nat) : Int) := by omega
    rw [e2]
    exact this
theorem xIdx {ug : UG} {te : UE} {ds : List D} {vs : List Nat} {L : List D → Nat → Prop} {sl : List Sl} {pn : PenT} {fu n : Nat} (I : List D → List D → Nat → Prop) (h0 : ds.length ≤ sizeLine) (h1 : noOwn ⟨sl, pn, fu⟩ vs = true) (init : I ds [] n)
    (h : ∀ d r acc m (T : D → Nat → Prop), I (d :: r) acc m → (∀ y l, I r (acc ++ [y]) l → T y l) → ug d ⟨wipeS sl vs, pn, m⟩ fun ρ' => te ρ' T) (hL : ∀ acc m, I [] acc m → L acc m) : kComp vs ug uYes te ⟨sl, pn, fu⟩ L ds n := by
  refine ⟨⟨h0, h1⟩, I, init, hL, fun d r acc m hI => ?_⟩
  have w : (wipeR ⟨sl, pn, fu⟩ vs).f m = ⟨wipeS sl vs, pn, m⟩ := by rw [wipeR_S]
  rw [w]
  exact h d r acc m (fun y l => I r (acc ++ [y]) l) hI fun _ _ q => q
theorem rngD_cons (lo : Int) (n : Nat) : rngD lo (n + 1) = .int lo :: rngD (lo + 1) n := by
  unfold rngD
  rw [List.range_succ_eq_map, List.map_cons, List.map_map]
  congr 1
  · simp
  · refine List.map_congr_left fun i _ => ?_
    show D.int (lo + ((i + 1 : Nat) : Int)) = D.int (lo + 1 + (i : Int))
    congr 1; omega
theorem r60 : (rngD 0 60).length = 60 := by simp [rngD]
theorem fin_t : (polT (.table [(1, 4), (12, 30)]) == Str.ofString "table 1:4 12:30") = true := by decide +kernel
theorem pure_law : ∀ a p (c : PenC), c.ns.length ≤ 63 → c.dk = false → u_law W0 { nx := fun _ => False, rt := fun d _ => d = .bl true } ⟨lawSl N_law 1 a p, some (p, c), 1048576⟩ := by
  intro a p c hl hk
  have hp : isPen false (some (p, c)) (.ref p) := isPen_of hk
  show u_law W0 _ ⟨[.dat (.ref a), .dat (.ref p), .emp, .emp, .emp, .emp], some (p, c), 1048576⟩
  unfold u_law
  (try simp only [iSt, iSt1, xSplit, xRmPre, xInSg, xFs, xFs0, xFs1, xFs2, xFs3, xFmt, xFmtI, xFmtS, xStrI, xStrS, xM1, xM11, xM12, xInK, xNotInK, xfSorted, xVar, xVar1, xC, xN, xOp, xOp1, xOp2, xUn, xUn1, xNil, xCons, xCons1, xCons2, xTup, xTup1, xLst, xLst1, xTru, xTru1, xOb, tru_non, tru_bl, tru_int, tru_lst, tru_tup, xTB, xTB1, xAndT, xAndT1, xAndT2, xOrT, xOrT1, xOrT2, xNotT, xNotT1, xAnd, xAnd1, xAnd2, xOr, xOr1, xOr2, xNot, xNot1, xIfE, xIfE1, xIfE2, xCh, xCh1, xCh2, xCh3, xCh3b, xCh4, xNoP, xPart, xPart1, xCut, xCut1, xCut2, xCut3, xB, xB1, xCall, xCall1, xCallK, xCallK1, perm_nil, perm_cons, xCat, xCat1, xCat2, xRev, xRevL, xRevT, sSkip, sSeq, sRet, sRetN, sIf, sIf1, sIf2, sDrop, sDrop1, sBrk, sCnt, sSet, sSet1, sAsg, sAsg1, gN, gT, gPut, put_nil, put_cons, sAug, sAug1, sAug2, xFr, xFr1, xfLst, sOwn, sOwn1, sApp, sApp1, sApp2, sThaw, sThaw1, sThaw2, sThaw3, xPeek, xPeek1, xPeekd, xPeek2, xPeekT, xPeekT1, xPeekTd, sSetIx, sSetIx1, sSetIx2, sSetIx3, sSetIx4, iSq, iSqL, iSqT, iEn, iEnL, iEnT, iR1, iR11, iR2, iR21, sFor, xComp, sPenN, sPenR, sOwnD, sDSet, sDSet1, sDSet2, sDSet3, sDSet5, dKi, dKs, sThawD, sThawD1, iIt, iIt1, gPn, gPt, gPs0, gPs1, gPs2, sTry, sTry1, sTryN, sTryR, sTryR2, sTryB, sTryC, sRaise, nOw0, nOw1, nOw2, fld0, fld1, xIsX1, xIsX2, xIsNotX, xIsNX, U.l0, U.l1, U.s0, U.s1, wS0, wS1, beq_self_eq_true, sSet2, sSet21, sPar, sPar1, sOwnM, sOwnM1, sExt, sExt1, sExt2, sWh1, sWh2, xIsNI, xIsNNo, xIsNotI, xIsNotNo, xIsNotL, xIsNotT, xIsNotS, xIsS, xIsL, xIsT, xNeS, sRetO, sRetO1, sRetF, xCallF, xCallF1, xCallFK, xCallFK1, List.getD_cons_zero, List.getD_cons_succ, Bool.not_true, Bool.not_false, Bool.not_not, xLt, xLe, xGt, xGe, xEqI, xEqS, xNeI, xLenS, xLenL, xLenT, xAddI, xAddS, xAddL, xAddT, xSubI, xMulI, xMulL, xMulT, xDivI, xModI, xPowI, xNegI, xIntI, xIntB, xAbsI, xMin2, xMax2, xListL, xListT, xTupleL, xTupleT, xCutL, xCutT, xIsN, xIsB, xIsNotB, xIx0T, xIx1T, xIx2T, xIx3T, xIx0L, xIx1L, Int.reduceSub, Int.reduceAdd, Int.reduceMul, Int.reduceToNat, Int.reducePow, Int.reduceNeg])
  refine ⟨by decide, ?_⟩
  refine sFor1 (fun ds ρ => ∃ (s2 : Sl) (n : Nat), ρ = ⟨[.dat (.ref a), .dat (.ref p), s2, .emp, .emp, .emp], some (p, c), n⟩ ∧ 1000 * ds.length + 1000 ≤ n) ⟨_, _, rfl, by simp [rngD]⟩ ?_ ?_
  · rintro ρ ⟨s2, n, rfl, hn⟩
    simp only [List.length_nil] at hn
    (try simp only [iSt, iSt1, xSplit, xRmPre, xInSg, xFs, xFs0, xFs1, xFs2, xFs3, xFmt, xFmtI, xFmtS, xStrI, xStrS, xM1, xM11, xM12, xInK, xNotInK, xfSorted, xVar, xVar1, xC, xN, xOp, xOp1, xOp2, xUn, xUn1, xNil, xCons, xCons1, xCons2, xTup, xTup1, xLst, xLst1, xTru, xTru1, xOb, tru_non, tru_bl, tru_int, tru_lst, tru_tup, xTB, xTB1, xAndT, xAndT1, xAndT2, xOrT, xOrT1, xOrT2, xNotT, xNotT1, xAnd, xAnd1, xAnd2, xOr, xOr1, xOr2, xNot, xNot1, xIfE, xIfE1, xIfE2, xCh, xCh1, xCh2, xCh3, xCh3b, xCh4, xNoP, xPart, xPart1, xCut, xCut1, xCut2, xCut3, xB, xB1, xCall, xCall1, xCallK, xCallK1, perm_nil, perm_cons, xCat, xCat1, xCat2, xRev, xRevL, xRevT, sSkip, sSeq, sRet, sRetN, sIf, sIf1, sIf2, sDrop, sDrop1, sBrk, sCnt, sSet, sSet1, sAsg, sAsg1, gN, gT, gPut, put_nil, put_cons, sAug, sAug1, sAug2, xFr, xFr1, xfLst, sOwn, sOwn1, sApp, sApp1, sApp2, sThaw, sThaw1, sThaw2, sThaw3, xPeek, xPeek1, xPeekd, xPeek2, xPeekT, xPeekT1, xPeekTd, sSetIx, sSetIx1, sSetIx2, sSetIx3, sSetIx4, iSq, iSqL, iSqT, iEn, iEnL, iEnT, iR1, iR11, iR2, iR21, sFor, xComp, sPenN, sPenR, sOwnD, sDSet, sDSet1, sDSet2, sDSet3, sDSet5, dKi, dKs, sThawD, sThawD1, iIt, iIt1, gPn, gPt, gPs0, gPs1, gPs2, sTry, sTry1, sTryN, sTryR, sTryR2, sTryB, sTryC, sRaise, nOw0, nOw1, nOw2, fld0, fld1, xIsX1, xIsX2, xIsNotX, xIsNX, U.l0, U.l1, U.s0, U.s1, wS0, wS1, beq_self_eq_true, sSet2, sSet21, sPar, sPar1, sOwnM, sOwnM1, sExt, sExt1, sExt2, sWh1, sWh2, xIsNI, xIsNNo, xIsNotI, xIsNotNo, xIsNotL, xIsNotT, xIsNotS, xIsS, xIsL, xIsT, xNeS, sRetO, sRetO1, sRetF, xCallF, xCallF1, xCallFK, xCallFK1, List.getD_cons_zero, List.getD_cons_succ, Bool.not_true, Bool.not_false, Bool.not_not, xLt, xLe, xGt, xGe, xEqI, xEqS, xNeI, xLenS, xLenL, xLenT, xAddI, xAddS, xAddL, xAddT, xSubI, xMulI, xMulL, xMulT, xDivI, xModI, xPowI, xNegI, xIntI, xIntB, xAbsI, xMin2, xMax2, xListL, xListT, xTupleL, xTupleT, xCutL, xCutT, xIsN, xIsB, xIsNotB, xIx0T, xIx1T, xIx2T, xIx3T, xIx0L, xIx1L, Int.reduceSub, Int.reduceAdd, Int.reduceMul, Int.reduceToNat, Int.reducePow, Int.reduceNeg])
    refine ⟨by decide, ?_⟩
    refine xIdx (fun r acc m => ∃ es : List (Int × Int), acc = es.map enD ∧ r = rngD (es.length : Int) r.length ∧ es.length + r.length = 60 ∧ (∀ i e, es[i]? = some e → e.1 = ((0 + i : Nat) : Int) ∧ 0 ≤ e.2 ∧ e.2 ≤ 9999999999999999999999999999999999999999) ∧ 2 * r.length + 100 ≤ m) (by decide +kernel) (by rfl) ⟨[], rfl, by rw [r60]; rfl, by rw [r60]; rfl, fun i e h => by simp at h, ?_⟩ (fun d r acc m T hI hT => ?_) fun acc m hI => ?_
    · rw [r60]; omega
    · obtain ⟨es, rfl, er, hle, hcon, hm⟩ := hI
      simp only [List.length_cons] at er hle hm
      rw [rngD_cons] at er
      injection er with e1 e2
      subst e1
      (try simp only [iSt, iSt1, xSplit, xRmPre, xInSg, xFs, xFs0, xFs1, xFs2, xFs3, xFmt, xFmtI, xFmtS, xStrI, xStrS, xM1, xM11, xM12, xInK, xNotInK, xfSorted, xVar, xVar1, xC, xN, xOp, xOp1, xOp2, xUn, xUn1, xNil, xCons, xCons1, xCons2, xTup, xTup1, xLst, xLst1, xTru, xTru1, xOb, tru_non, tru_bl, tru_int, tru_lst, tru_tup, xTB, xTB1, xAndT, xAndT1, xAndT2, xOrT, xOrT1, xOrT2, xNotT, xNotT1, xAnd, xAnd1, xAnd2, xOr, xOr1, xOr2, xNot, xNot1, xIfE, xIfE1, xIfE2, xCh, xCh1, xCh2, xCh3, xCh3b, xCh4, xNoP, xPart, xPart1, xCut, xCut1, xCut2, xCut3, xB, xB1, xCall, xCall1, xCallK, xCallK1, perm_nil, perm_cons, xCat, xCat1, xCat2, xRev, xRevL, xRevT, sSkip, sSeq, sRet, sRetN, sIf, sIf1, sIf2, sDrop, sDrop1, sBrk, sCnt, sSet, sSet1, sAsg, sAsg1, gN, gT, gPut, put_nil, put_cons, sAug, sAug1, sAug2, xFr, xFr1, xfLst, sOwn, sOwn1, sApp, sApp1, sApp2, sThaw, sThaw1, sThaw2, sThaw3, xPeek, xPeek1, xPeekd, xPeek2, xPeekT, xPeekT1, xPeekTd, sSetIx, sSetIx1, sSetIx2, sSetIx3, sSetIx4, iSq, iSqL, iSqT, iEn, iEnL, iEnT, iR1, iR11, iR2, iR21, sFor, xComp, sPenN, sPenR, sOwnD, sDSet, sDSet1, sDSet2, sDSet3, sDSet5, dKi, dKs, sThawD, sThawD1, iIt, iIt1, gPn, gPt, gPs0, gPs1, gPs2, sTry, sTry1, sTryN, sTryR, sTryR2, sTryB, sTryC, sRaise, nOw0, nOw1, nOw2, fld0, fld1, xIsX1, xIsX2, xIsNotX, xIsNX, U.l0, U.l1, U.s0, U.s1, wS0, wS1, beq_self_eq_true, sSet2, sSet21, sPar, sPar1, sOwnM, sOwnM1, sExt, sExt1, sExt2, sWh1, sWh2, xIsNI, xIsNNo, xIsNotI, xIsNotNo, xIsNotL, xIsNotT, xIsNotS, xIsS, xIsL, xIsT, xNeS, sRetO, sRetO1, sRetF, xCallF, xCallF1, xCallFK, xCallFK1, List.getD_cons_zero, List.getD_cons_succ, Bool.not_true, Bool.not_false, Bool.not_not, xLt, xLe, xGt, xGe, xEqI, xEqS, xNeI, xLenS, xLenL, xLenT, xAddI, xAddS, xAddL, xAddT, xSubI, xMulI, xMulL, xMulT, xDivI, xModI, xPowI, xNegI, xIntI, xIntB, xAbsI, xMin2, xMax2, xListL, xListT, xTupleL, xTupleT, xCutL, xCutT, xIsN, xIsB, xIsNotB, xIx0T, xIx1T, xIx2T, xIx3T, xIx0L, xIx1L, Int.reduceSub, Int.reduceAdd, Int.reduceMul, Int.reduceToNat, Int.reducePow, Int.reduceNeg])
      refine ⟨by decide, by decide, ?_⟩
      refine draw_use hp (by decide) (by decide) (by omega) fun q q0 q1 => ?_
      have b0 : 0 ≤ (es.length : Int) * q := Int.mul_nonneg (by omega) q0
      have b1 : (es.length : Int) * q ≤ 60 * 1000000 := Int.mul_le_mul (by omega) (by omega) q0 (by decide)
      (try simp only [iSt, iSt1, xSplit, xRmPre, xInSg, xFs, xFs0, xFs1, xFs2, xFs3, xFmt, xFmtI, xFmtS, xStrI, xStrS, xM1, xM11, xM12, xInK, xNotInK, xfSorted, xVar, xVar1, xC, xN, xOp, xOp1, xOp2, xUn, xUn1, xNil, xCons, xCons1, xCons2, xTup, xTup1, xLst, xLst1, xTru, xTru1, xOb, tru_non, tru_bl, tru_int, tru_lst, tru_tup, xTB, xTB1, xAndT, xAndT1, xAndT2, xOrT, xOrT1, xOrT2, xNotT, xNotT1, xAnd, xAnd1, xAnd2, xOr, xOr1, xOr2, xNot, xNot1, xIfE, xIfE1, xIfE2, xCh, xCh1, xCh2, xCh3, xCh3b, xCh4, xNoP, xPart, xPart1, xCut, xCut1, xCut2, xCut3, xB, xB1, xCall, xCall1, xCallK, xCallK1, perm_nil, perm_cons, xCat, xCat1, xCat2, xRev, xRevL, xRevT, sSkip, sSeq, sRet, sRetN, sIf, sIf1, sIf2, sDrop, sDrop1, sBrk, sCnt, sSet, sSet1, sAsg, sAsg1, gN, gT, gPut, put_nil, put_cons, sAug, sAug1, sAug2, xFr, xFr1, xfLst, sOwn, sOwn1, sApp, sApp1, sApp2, sThaw, sThaw1, sThaw2, sThaw3, xPeek, xPeek1, xPeekd, xPeek2, xPeekT, xPeekT1, xPeekTd, sSetIx, sSetIx1, sSetIx2, sSetIx3, sSetIx4, iSq, iSqL, iSqT, iEn, iEnL, iEnT, iR1, iR11, iR2, iR21, sFor, xComp, sPenN, sPenR, sOwnD, sDSet, sDSet1, sDSet2, sDSet3, sDSet5, dKi, dKs, sThawD, sThawD1, iIt, iIt1, gPn, gPt, gPs0, gPs1, gPs2, sTry, sTry1, sTryN, sTryR, sTryR2, sTryB, sTryC, sRaise, nOw0, nOw1, nOw2, fld0, fld1, xIsX1, xIsX2, xIsNotX, xIsNX, U.l0, U.l1, U.s0, U.s1, wS0, wS1, beq_self_eq_true, sSet2, sSet21, sPar, sPar1, sOwnM, sOwnM1, sExt, sExt1, sExt2, sWh1, sWh2, xIsNI, xIsNNo, xIsNotI, xIsNotNo, xIsNotL, xIsNotT, xIsNotS, xIsS, xIsL, xIsT, xNeS, sRetO, sRetO1, sRetF, xCallF, xCallF1, xCallFK, xCallFK1, List.getD_cons_zero, List.getD_cons_succ, Bool.not_true, Bool.not_false, Bool.not_not, xLt, xLe, xGt, xGe, xEqI, xEqS, xNeI, xLenS, xLenL, xLenT, xAddI, xAddS, xAddL, xAddT, xSubI, xMulI, xMulL, xMulT, xDivI, xModI, xPowI, xNegI, xIntI, xIntB, xAbsI, xMin2, xMax2, xListL, xListT, xTupleL, xTupleT, xCutL, xCutT, xIsN, xIsB, xIsNotB, xIx0T, xIx1T, xIx2T, xIx3T, xIx0L, xIx1L, Int.reduceSub, Int.reduceAdd, Int.reduceMul, Int.reduceToNat, Int.reducePow, Int.reduceNeg])
      refine ⟨.inl (by omega), ?_⟩
      generalize (es.length : Int) * q = z at b0 b1
      refine hT _ _ ⟨es ++ [((es.length : Int), 9999999999999999999999999999999999999999 - z)], by rw [List.map_append]; rfl, ?_, by simp; omega, fun i e h => ?_, by omega⟩
      · rw [List.length_append]
        simpa using e2
      · by_cases hi : i < es.length
        · rw [List.getElem?_append_left hi] at h
          exact hcon i e h
        · rw [List.getElem?_append_right (by omega)] at h
          have hi2 : i - es.length = 0 := by
            cases hk2 : i - es.length with
            | zero => rfl
            | succ j => rw [hk2] at h; simp at h
          rw [hi2] at h
          simp at h
          subst h
          exact ⟨by dsimp only; omega, by dsimp only; omega, by dsimp only; omega⟩
    · obtain ⟨es, rfl, _, hle, hcon, hm⟩ := hI
      have l60 : es.length = 60 := by simpa using hle
      have asc0 : asc 0 es := con_asc (k := 0) hcon (by omega)
      (try simp only [iSt, iSt1, xSplit, xRmPre, xInSg, xFs, xFs0, xFs1, xFs2, xFs3, xFmt, xFmtI, xFmtS, xStrI, xStrS, xM1, xM11, xM12, xInK, xNotInK, xfSorted, xVar, xVar1, xC, xN, xOp, xOp1, xOp2, xUn, xUn1, xNil, xCons, xCons1, xCons2, xTup, xTup1, xLst, xLst1, xTru, xTru1, xOb, tru_non, tru_bl, tru_int, tru_lst, tru_tup, xTB, xTB1, xAndT, xAndT1, xAndT2, xOrT, xOrT1, xOrT2, xNotT, xNotT1, xAnd, xAnd1, xAnd2, xOr, xOr1, xOr2, xNot, xNot1, xIfE, xIfE1, xIfE2, xCh, xCh1, xCh2, xCh3, xCh3b, xCh4, xNoP, xPart, xPart1, xCut, xCut1, xCut2, xCut3, xB, xB1, xCall, xCall1, xCallK, xCallK1, perm_nil, perm_cons, xCat, xCat1, xCat2, xRev, xRevL, xRevT, sSkip, sSeq, sRet, sRetN, sIf, sIf1, sIf2, sDrop, sDrop1, sBrk, sCnt, sSet, sSet1, sAsg, sAsg1, gN, gT, gPut, put_nil, put_cons, sAug, sAug1, sAug2, xFr, xFr1, xfLst, sOwn, sOwn1, sApp, sApp1, sApp2, sThaw, sThaw1, sThaw2, sThaw3, xPeek, xPeek1, xPeekd, xPeek2, xPeekT, xPeekT1, xPeekTd, sSetIx, sSetIx1, sSetIx2, sSetIx3, sSetIx4, iSq, iSqL, iSqT, iEn, iEnL, iEnT, iR1, iR11, iR2, iR21, sFor, xComp, sPenN, sPenR, sOwnD, sDSet, sDSet1, sDSet2, sDSet3, sDSet5, dKi, dKs, sThawD, sThawD1, iIt, iIt1, gPn, gPt, gPs0, gPs1, gPs2, sTry, sTry1, sTryN, sTryR, sTryR2, sTryB, sTryC, sRaise, nOw0, nOw1, nOw2, fld0, fld1, xIsX1, xIsX2, xIsNotX, xIsNX, U.l0, U.l1, U.s0, U.s1, wS0, wS1, beq_self_eq_true, sSet2, sSet21, sPar, sPar1, sOwnM, sOwnM1, sExt, sExt1, sExt2, sWh1, sWh2, xIsNI, xIsNNo, xIsNotI, xIsNotNo, xIsNotL, xIsNotT, xIsNotS, xIsS, xIsL, xIsT, xNeS, sRetO, sRetO1, sRetF, xCallF, xCallF1, xCallFK, xCallFK1, List.getD_cons_zero, List.getD_cons_succ, Bool.not_true, Bool.not_false, Bool.not_not, xLt, xLe, xGt, xGe, xEqI, xEqS, xNeI, xLenS, xLenL, xLenT, xAddI, xAddS, xAddL, xAddT, xSubI, xMulI, xMulL, xMulT, xDivI, xModI, xPowI, xNegI, xIntI, xIntB, xAbsI, xMin2, xMax2, xListL, xListT, xTupleL, xTupleT, xCutL, xCutT, xIsN, xIsB, xIsNotB, xIx0T, xIx1T, xIx2T, xIx3T, xIx0L, xIx1L, Int.reduceSub, Int.reduceAdd, Int.reduceMul, Int.reduceToNat, Int.reducePow, Int.reduceNeg])
      refine ⟨by decide, ?_⟩
      refine sFor1 (fun ds ρ => ∃ (r : List Py) (s4 : Sl), ds = r.map Py.d ∧ (∀ P ∈ r, P.ok) ∧ ρ = ⟨[.dat (.ref a), .dat (.ref p), s2, .dat (.tup (es.map enD)), s4, .emp], some (p, c), m⟩) ⟨[.table es, .table [], .factor 100 80, .factor 6 4, .step 1000000000000000000000000000000], _, rfl, fun P hP => ?_, rfl⟩ ?_ ?_
      · simp only [List.mem_cons, List.not_mem_nil, or_false] at hP
        rcases hP with rfl | rfl | rfl | rfl | rfl
        · exact ⟨by omega, asc0⟩
        · exact ⟨by decide, trivial⟩
        · exact ⟨by decide, by decide, by decide, by decide, by decide⟩
        · exact ⟨by decide, by decide, by decide, by decide, by decide⟩
        · exact ⟨by decide, by decide⟩
      · rintro ρ ⟨r, s4, _, _, rfl⟩
        (try simp only [iSt, iSt1, xSplit, xRmPre, xInSg, xFs, xFs0, xFs1, xFs2, xFs3, xFmt, xFmtI, xFmtS, xStrI, xStrS, xM1, xM11, xM12, xInK, xNotInK, xfSorted, xVar, xVar1, xC, xN, xOp, xOp1, xOp2, xUn, xUn1, xNil, xCons, xCons1, xCons2, xTup, xTup1, xLst, xLst1, xTru, xTru1, xOb, tru_non, tru_bl, tru_int, tru_lst, tru_tup, xTB, xTB1, xAndT, xAndT1, xAndT2, xOrT, xOrT1, xOrT2, xNotT, xNotT1, xAnd, xAnd1, xAnd2, xOr, xOr1, xOr2, xNot, xNot1, xIfE, xIfE1, xIfE2, xCh, xCh1, xCh2, xCh3, xCh3b, xCh4, xNoP, xPart, xPart1, xCut, xCut1, xCut2, xCut3, xB, xB1, xCall, xCall1, xCallK, xCallK1, perm_nil, perm_cons, xCat, xCat1, xCat2, xRev, xRevL, xRevT, sSkip, sSeq, sRet, sRetN, sIf, sIf1, sIf2, sDrop, sDrop1, sBrk, sCnt, sSet, sSet1, sAsg, sAsg1, gN, gT, gPut, put_nil, put_cons, sAug, sAug1, sAug2, xFr, xFr1, xfLst, sOwn, sOwn1, sApp, sApp1, sApp2, sThaw, sThaw1, sThaw2, sThaw3, xPeek, xPeek1, xPeekd, xPeek2, xPeekT, xPeekT1, xPeekTd, sSetIx, sSetIx1, sSetIx2, sSetIx3, sSetIx4, iSq, iSqL, iSqT, iEn, iEnL, iEnT, iR1, iR11, iR2, iR21, sFor, xComp, sPenN, sPenR, sOwnD, sDSet, sDSet1, sDSet2, sDSet3, sDSet5, dKi, dKs, sThawD, sThawD1, iIt, iIt1, gPn, gPt, gPs0, gPs1, gPs2, sTry, sTry1, sTryN, sTryR, sTryR2, sTryB, sTryC, sRaise, nOw0, nOw1, nOw2, fld0, fld1, xIsX1, xIsX2, xIsNotX, xIsNX, U.l0, U.l1, U.s0, U.s1, wS0, wS1, beq_self_eq_true, sSet2, sSet21, sPar, sPar1, sOwnM, sOwnM1, sExt, sExt1, sExt2, sWh1, sWh2, xIsNI, xIsNNo, xIsNotI, xIsNotNo, xIsNotL, xIsNotT, xIsNotS, xIsS, xIsL, xIsT, xNeS, sRetO, sRetO1, sRetF, xCallF, xCallF1, xCallFK, xCallFK1, List.getD_cons_zero, List.getD_cons_succ, Bool.not_true, Bool.not_false, Bool.not_not, xLt, xLe, xGt, xGe, xEqI, xEqS, xNeI, xLenS, xLenL, xLenT, xAddI, xAddS, xAddL, xAddT, xSubI, xMulI, xMulL, xMulT, xDivI, xModI, xPowI, xNegI, xIntI, xIntB, xAbsI, xMin2, xMax2, xListL, xListT, xTupleL, xTupleT, xCutL, xCutT, xIsN, xIsB, xIsNotB, xIx0T, xIx1T, xIx2T, xIx3T, xIx0L, xIx1L, Int.reduceSub, Int.reduceAdd, Int.reduceMul, Int.reduceToNat, Int.reducePow, Int.reduceNeg])
        refine ⟨.table [(1, 4), (12, 30)], rfl, ⟨by decide, by decide, by decide, by decide, by decide, by decide, by decide, by decide, by decide, trivial⟩, ?_⟩
        (try simp only [iSt, iSt1, xSplit, xRmPre, xInSg, xFs, xFs0, xFs1, xFs2, xFs3, xFmt, xFmtI, xFmtS, xStrI, xStrS, xM1, xM11, xM12, xInK, xNotInK, xfSorted, xVar, xVar1, xC, xN, xOp, xOp1, xOp2, xUn, xUn1, xNil, xCons, xCons1, xCons2, xTup, xTup1, xLst, xLst1, xTru, xTru1, xOb, tru_non, tru_bl, tru_int, tru_lst, tru_tup, xTB, xTB1, xAndT, xAndT1, xAndT2, xOrT, xOrT1, xOrT2, xNotT, xNotT1, xAnd, xAnd1, xAnd2, xOr, xOr1, xOr2, xNot, xNot1, xIfE, xIfE1, xIfE2, xCh, xCh1, xCh2, xCh3, xCh3b, xCh4, xNoP, xPart, xPart1, xCut, xCut1, xCut2, xCut3, xB, xB1, xCall, xCall1, xCallK, xCallK1, perm_nil, perm_cons, xCat, xCat1, xCat2, xRev, xRevL, xRevT, sSkip, sSeq, sRet, sRetN, sIf, sIf1, sIf2, sDrop, sDrop1, sBrk, sCnt, sSet, sSet1, sAsg, sAsg1, gN, gT, gPut, put_nil, put_cons, sAug, sAug1, sAug2, xFr, xFr1, xfLst, sOwn, sOwn1, sApp, sApp1, sApp2, sThaw, sThaw1, sThaw2, sThaw3, xPeek, xPeek1, xPeekd, xPeek2, xPeekT, xPeekT1, xPeekTd, sSetIx, sSetIx1, sSetIx2, sSetIx3, sSetIx4, iSq, iSqL, iSqT, iEn, iEnL, iEnT, iR1, iR11, iR2, iR21, sFor, xComp, sPenN, sPenR, sOwnD, sDSet, sDSet1, sDSet2, sDSet3, sDSet5, dKi, dKs, sThawD, sThawD1, iIt, iIt1, gPn, gPt, gPs0, gPs1, gPs2, sTry, sTry1, sTryN, sTryR, sTryR2, sTryB, sTryC, sRaise, nOw0, nOw1, nOw2, fld0, fld1, xIsX1, xIsX2, xIsNotX, xIsNX, U.l0, U.l1, U.s0, U.s1, wS0, wS1, beq_self_eq_true, sSet2, sSet21, sPar, sPar1, sOwnM, sOwnM1, sExt, sExt1, sExt2, sWh1, sWh2, xIsNI, xIsNNo, xIsNotI, xIsNotNo, xIsNotL, xIsNotT, xIsNotS, xIsS, xIsL, xIsT, xNeS, sRetO, sRetO1, sRetF, xCallF, xCallF1, xCallFK, xCallFK1, List.getD_cons_zero, List.getD_cons_succ, Bool.not_true, Bool.not_false, Bool.not_not, xLt, xLe, xGt, xGe, xEqI, xEqS, xNeI, xLenS, xLenL, xLenT, xAddI, xAddS, xAddL, xAddT, xSubI, xMulI, xMulL, xMulT, xDivI, xModI, xPowI, xNegI, xIntI, xIntB, xAbsI, xMin2, xMax2, xListL, xListT, xTupleL, xTupleT, xCutL, xCutT, xIsN, xIsB, xIsNotB, xIx0T, xIx1T, xIx2T, xIx3T, xIx0L, xIx1L, Int.reduceSub, Int.reduceAdd, Int.reduceMul, Int.reduceToNat, Int.reducePow, Int.reduceNeg])
        rw [fin_t]
        (try simp only [iSt, iSt1, xSplit, xRmPre, xInSg, xFs, xFs0, xFs1, xFs2, xFs3, xFmt, xFmtI, xFmtS, xStrI, xStrS, xM1, xM11, xM12, xInK, xNotInK, xfSorted, xVar, xVar1, xC, xN, xOp, xOp1, xOp2, xUn, xUn1, xNil, xCons, xCons1, xCons2, xTup, xTup1, xLst, xLst1, xTru, xTru1, xOb, tru_non, tru_bl, tru_int, tru_lst, tru_tup, xTB, xTB1, xAndT, xAndT1, xAndT2, xOrT, xOrT1, xOrT2, xNotT, xNotT1, xAnd, xAnd1, xAnd2, xOr, xOr1, xOr2, xNot, xNot1, xIfE, xIfE1, xIfE2, xCh, xCh1, xCh2, xCh3, xCh3b, xCh4, xNoP, xPart, xPart1, xCut, xCut1, xCut2, xCut3, xB, xB1, xCall, xCall1, xCallK, xCallK1, perm_nil, perm_cons, xCat, xCat1, xCat2, xRev, xRevL, xRevT, sSkip, sSeq, sRet, sRetN, sIf, sIf1, sIf2, sDrop, sDrop1, sBrk, sCnt, sSet, sSet1, sAsg, sAsg1, gN, gT, gPut, put_nil, put_cons, sAug, sAug1, sAug2, xFr, xFr1, xfLst, sOwn, sOwn1, sApp, sApp1, sApp2, sThaw, sThaw1, sThaw2, sThaw3, xPeek, xPeek1, xPeekd, xPeek2, xPeekT, xPeekT1, xPeekTd, sSetIx, sSetIx1, sSetIx2, sSetIx3, sSetIx4, iSq, iSqL, iSqT, iEn, iEnL, iEnT, iR1, iR11, iR2, iR21, sFor, xComp, sPenN, sPenR, sOwnD, sDSet, sDSet1, sDSet2, sDSet3, sDSet5, dKi, dKs, sThawD, sThawD1, iIt, iIt1, gPn, gPt, gPs0, gPs1, gPs2, sTry, sTry1, sTryN, sTryR, sTryR2, sTryB, sTryC, sRaise, nOw0, nOw1, nOw2, fld0, fld1, xIsX1, xIsX2, xIsNotX, xIsNX, U.l0, U.l1, U.s0, U.s1, wS0, wS1, beq_self_eq_true, sSet2, sSet21, sPar, sPar1, sOwnM, sOwnM1, sExt, sExt1, sExt2, sWh1, sWh2, xIsNI, xIsNNo, xIsNotI, xIsNotNo, xIsNotL, xIsNotT, xIsNotS, xIsS, xIsL, xIsT, xNeS, sRetO, sRetO1, sRetF, xCallF, xCallF1, xCallFK, xCallFK1, List.getD_cons_zero, List.getD_cons_succ, Bool.not_true, Bool.not_false, Bool.not_not, xLt, xLe, xGt, xGe, xEqI, xEqS, xNeI, xLenS, xLenL, xLenT, xAddI, xAddS, xAddL, xAddT, xSubI, xMulI, xMulL, xMulT, xDivI, xModI, xPowI, xNegI, xIntI, xIntB, xAbsI, xMin2, xMax2, xListL, xListT, xTupleL, xTupleT, xCutL, xCutT, xIsN, xIsB, xIsNotB, xIx0T, xIx1T, xIx2T, xIx3T, xIx0L, xIx1L, Int.reduceSub, Int.reduceAdd, Int.reduceMul, Int.reduceToNat, Int.reducePow, Int.reduceNeg])
        refine ⟨.exact, rfl, trivial, ?_⟩
        simp only [Py.d, iSt, iSt1, xSplit, xRmPre, xInSg, xFs, xFs0, xFs1, xFs2, xFs3, xFmt, xFmtI, xFmtS, xStrI, xStrS, xM1, xM11, xM12, xInK, xNotInK, xfSorted, xVar, xVar1, xC, xN, xOp, xOp1, xOp2, xUn, xUn1, xNil, xCons, xCons1, xCons2, xTup, xTup1, xLst, xLst1, xTru, xTru1, xOb, tru_non, tru_bl, tru_int, tru_lst, tru_tup, xTB, xTB1, xAndT, xAndT1, xAndT2, xOrT, xOrT1, xOrT2, xNotT, xNotT1, xAnd, xAnd1, xAnd2, xOr, xOr1, xOr2, xNot, xNot1, xIfE, xIfE1, xIfE2, xCh, xCh1, xCh2, xCh3, xCh3b, xCh4, xNoP, xPart, xPart1, xCut, xCut1, xCut2, xCut3, xB, xB1, xCall, xCall1, xCallK, xCallK1, perm_nil, perm_cons, xCat, xCat1, xCat2, xRev, xRevL, xRevT, sSkip, sSeq, sRet, sRetN, sIf, sIf1, sIf2, sDrop, sDrop1, sBrk, sCnt, sSet, sSet1, sAsg, sAsg1, gN, gT, gPut, put_nil, put_cons, sAug, sAug1, sAug2, xFr, xFr1, xfLst, sOwn, sOwn1, sApp, sApp1, sApp2, sThaw, sThaw1, sThaw2, sThaw3, xPeek, xPeek1, xPeekd, xPeek2, xPeekT, xPeekT1, xPeekTd, sSetIx, sSetIx1, sSetIx2, sSetIx3, sSetIx4, iSq, iSqL, iSqT, iEn, iEnL, iEnT, iR1, iR11, iR2, iR21, sFor, xComp, sPenN, sPenR, sOwnD, sDSet, sDSet1, sDSet2, sDSet3, sDSet5, dKi, dKs, sThawD, sThawD1, iIt, iIt1, gPn, gPt, gPs0, gPs1, gPs2, sTry, sTry1, sTryN, sTryR, sTryR2, sTryB, sTryC, sRaise, nOw0, nOw1, nOw2, fld0, fld1, xIsX1, xIsX2, xIsNotX, xIsNX, U.l0, U.l1, U.s0, U.s1, wS0, wS1, beq_self_eq_true, sSet2, sSet21, sPar, sPar1, sOwnM, sOwnM1, sExt, sExt1, sExt2, sWh1, sWh2, xIsNI, xIsNNo, xIsNotI, xIsNotNo, xIsNotL, xIsNotT, xIsNotS, xIsS, xIsL, xIsT, xNeS, sRetO, sRetO1, sRetF, xCallF, xCallF1, xCallFK, xCallFK1, List.getD_cons_zero, List.getD_cons_succ, Bool.not_true, Bool.not_false, Bool.not_not, xLt, xLe, xGt, xGe, xEqI, xEqS, xNeI, xLenS, xLenL, xLenT, xAddI, xAddS, xAddL, xAddT, xSubI, xMulI, xMulL, xMulT, xDivI, xModI, xPowI, xNegI, xIntI, xIntB, xAbsI, xMin2, xMax2, xListL, xListT, xTupleL, xTupleT, xCutL, xCutT, xIsN, xIsB, xIsNotB, xIx0T, xIx1T, xIx2T, xIx3T, xIx0L, xIx1L, Int.reduceSub, Int.reduceAdd, Int.reduceMul, Int.reduceToNat, Int.reducePow, Int.reduceNeg]
        refine (xEqF (by decide +kernel) (by decide +kernel)).mpr ?_
        exact congrArg D.bl (by decide +kernel)
      · rintro d r' ρ ⟨r, s4, ed, hok, rfl⟩
        cases r with
        | nil => cases ed
        | cons P r =>
          cases ed
          (try simp only [iSt, iSt1, xSplit, xRmPre, xInSg, xFs, xFs0, xFs1, xFs2, xFs3, xFmt, xFmtI, xFmtS, xStrI, xStrS, xM1, xM11, xM12, xInK, xNotInK, xfSorted, xVar, xVar1, xC, xN, xOp, xOp1, xOp2, xUn, xUn1, xNil, xCons, xCons1, xCons2, xTup, xTup1, xLst, xLst1, xTru, xTru1, xOb, tru_non, tru_bl, tru_int, tru_lst, tru_tup, xTB, xTB1, xAndT, xAndT1, xAndT2, xOrT, xOrT1, xOrT2, xNotT, xNotT1, xAnd, xAnd1, xAnd2, xOr, xOr1, xOr2, xNot, xNot1, xIfE, xIfE1, xIfE2, xCh, xCh1, xCh2, xCh3, xCh3b, xCh4, xNoP, xPart, xPart1, xCut, xCut1, xCut2, xCut3, xB, xB1, xCall, xCall1, xCallK, xCallK1, perm_nil, perm_cons, xCat, xCat1, xCat2, xRev, xRevL, xRevT, sSkip, sSeq, sRet, sRetN, sIf, sIf1, sIf2, sDrop, sDrop1, sBrk, sCnt, sSet, sSet1, sAsg, sAsg1, gN, gT, gPut, put_nil, put_cons, sAug, sAug1, sAug2, xFr, xFr1, xfLst, sOwn, sOwn1, sApp, sApp1, sApp2, sThaw, sThaw1, sThaw2, sThaw3, xPeek, xPeek1, xPeekd, xPeek2, xPeekT, xPeekT1, xPeekTd, sSetIx, sSetIx1, sSetIx2, sSetIx3, sSetIx4, iSq, iSqL, iSqT, iEn, iEnL, iEnT, iR1, iR11, iR2, iR21, sFor, xComp, sPenN, sPenR, sOwnD, sDSet, sDSet1, sDSet2, sDSet3, sDSet5, dKi, dKs, sThawD, sThawD1, iIt, iIt1, gPn, gPt, gPs0, gPs1, gPs2, sTry, sTry1, sTryN, sTryR, sTryR2, sTryB, sTryC, sRaise, nOw0, nOw1, nOw2, fld0, fld1, xIsX1, xIsX2, xIsNotX, xIsNX, U.l0, U.l1, U.s0, U.s1, wS0, wS1, beq_self_eq_true, sSet2, sSet21, sPar, sPar1, sOwnM, sOwnM1, sExt, sExt1, sExt2, sWh1, sWh2, xIsNI, xIsNNo, xIsNotI, xIsNotNo, xIsNotL, xIsNotT, xIsNotS, xIsS, xIsL, xIsT, xNeS, sRetO, sRetO1, sRetF, xCallF, xCallF1, xCallFK, xCallFK1, List.getD_cons_zero, List.getD_cons_succ, Bool.not_true, Bool.not_false, Bool.not_not, xLt, xLe, xGt, xGe, xEqI, xEqS, xNeI, xLenS, xLenL, xLenT, xAddI, xAddS, xAddL, xAddT, xSubI, xMulI, xMulL, xMulT, xDivI, xModI, xPowI, xNegI, xIntI, xIntB, xAbsI, xMin2, xMax2, xListL, xListT, xTupleL, xTupleT, xCutL, xCutT, xIsN, xIsB, xIsNotB, xIx0T, xIx1T, xIx2T, xIx3T, xIx0L, xIx1L, Int.reduceSub, Int.reduceAdd, Int.reduceMul, Int.reduceToNat, Int.reducePow, Int.reduceNeg])
          refine ⟨P, rfl, hok P List.mem_cons_self, ?_⟩
          (try simp only [iSt, iSt1, xSplit, xRmPre, xInSg, xFs, xFs0, xFs1, xFs2, xFs3, xFmt, xFmtI, xFmtS, xStrI, xStrS, xM1, xM11, xM12, xInK, xNotInK, xfSorted, xVar, xVar1, xC, xN, xOp, xOp1, xOp2, xUn, xUn1, xNil, xCons, xCons1, xCons2, xTup, xTup1, xLst, xLst1, xTru, xTru1, xOb, tru_non, tru_bl, tru_int, tru_lst, tru_tup, xTB, xTB1, xAndT, xAndT1, xAndT2, xOrT, xOrT1, xOrT2, xNotT, xNotT1, xAnd, xAnd1, xAnd2, xOr, xOr1, xOr2, xNot, xNot1, xIfE, xIfE1, xIfE2, xCh, xCh1, xCh2, xCh3, xCh3b, xCh4, xNoP, xPart, xPart1, xCut, xCut1, xCut2, xCut3, xB, xB1, xCall, xCall1, xCallK, xCallK1, perm_nil, perm_cons, xCat, xCat1, xCat2, xRev, xRevL, xRevT, sSkip, sSeq, sRet, sRetN, sIf, sIf1, sIf2, sDrop, sDrop1, sBrk, sCnt, sSet, sSet1, sAsg, sAsg1, gN, gT, gPut, put_nil, put_cons, sAug, sAug1, sAug2, xFr, xFr1, xfLst, sOwn, sOwn1, sApp, sApp1, sApp2, sThaw, sThaw1, sThaw2, sThaw3, xPeek, xPeek1, xPeekd, xPeek2, xPeekT, xPeekT1, xPeekTd, sSetIx, sSetIx1, sSetIx2, sSetIx3, sSetIx4, iSq, iSqL, iSqT, iEn, iEnL, iEnT, iR1, iR11, iR2, iR21, sFor, xComp, sPenN, sPenR, sOwnD, sDSet, sDSet1, sDSet2, sDSet3, sDSet5, dKi, dKs, sThawD, sThawD1, iIt, iIt1, gPn, gPt, gPs0, gPs1, gPs2, sTry, sTry1, sTryN, sTryR, sTryR2, sTryB, sTryC, sRaise, nOw0, nOw1, nOw2, fld0, fld1, xIsX1, xIsX2, xIsNotX, xIsNX, U.l0, U.l1, U.s0, U.s1, wS0, wS1, beq_self_eq_true, sSet2, sSet21, sPar, sPar1, sOwnM, sOwnM1, sExt, sExt1, sExt2, sWh1, sWh2, xIsNI, xIsNNo, xIsNotI, xIsNotNo, xIsNotL, xIsNotT, xIsNotS, xIsS, xIsL, xIsT, xNeS, sRetO, sRetO1, sRetF, xCallF, xCallF1, xCallFK, xCallFK1, List.getD_cons_zero, List.getD_cons_succ, Bool.not_true, Bool.not_false, Bool.not_not, xLt, xLe, xGt, xGe, xEqI, xEqS, xNeI, xLenS, xLenL, xLenT, xAddI, xAddS, xAddL, xAddT, xSubI, xMulI, xMulL, xMulT, xDivI, xModI, xPowI, xNegI, xIntI, xIntB, xAbsI, xMin2, xMax2, xListL, xListT, xTupleL, xTupleT, xCutL, xCutT, xIsN, xIsB, xIsNotB, xIx0T, xIx1T, xIx2T, xIx3T, xIx0L, xIx1L, Int.reduceSub, Int.reduceAdd, Int.reduceMul, Int.reduceToNat, Int.reducePow, Int.reduceNeg])
          exact ⟨r, _, rfl, fun P hP => hok P (List.mem_cons_of_mem _ hP), rfl⟩
  · rintro d rr ρ ⟨s2, n, rfl, hn⟩
    simp only [List.length_cons] at hn
    simp only [iSt, iSt1, xSplit, xRmPre, xInSg, xFs, xFs0, xFs1, xFs2, xFs3, xFmt, xFmtI, xFmtS, xStrI, xStrS, xM1, xM11, xM12, xInK, xNotInK, xfSorted, xVar, xVar1, xC, xN, xOp, xOp1, xOp2, xUn, xUn1, xNil, xCons, xCons1, xCons2, xTup, xTup1, xLst, xLst1, xTru, xTru1, xOb, tru_non, tru_bl, tru_int, tru_lst, tru_tup, xTB, xTB1, xAndT, xAndT1, xAndT2, xOrT, xOrT1, xOrT2, xNotT, xNotT1, xAnd, xAnd1, xAnd2, xOr, xOr1, xOr2, xNot, xNot1, xIfE, xIfE1, xIfE2, xCh, xCh1, xCh2, xCh3, xCh3b, xCh4, xNoP, xPart, xPart1, xCut, xCut1, xCut2, xCut3, xB, xB1, xCall, xCall1, xCallK, xCallK1, perm_nil, perm_cons, xCat, xCat1, xCat2, xRev, xRevL, xRevT, sSkip, sSeq, sRet, sRetN, sIf, sIf1, sIf2, sDrop, sDrop1, sBrk, sCnt, sSet, sSet1, sAsg, sAsg1, gN, gT, gPut, put_nil, put_cons, sAug, sAug1, sAug2, xFr, xFr1, xfLst, sOwn, sOwn1, sApp, sApp1, sApp2, sThaw, sThaw1, sThaw2, sThaw3, xPeek, xPeek1, xPeekd, xPeek2, xPeekT, xPeekT1, xPeekTd, sSetIx, sSetIx1, sSetIx2, sSetIx3, sSetIx4, iSq, iSqL, iSqT, iEn, iEnL, iEnT, iR1, iR11, iR2, iR21, sFor, xComp, sPenN, sPenR, sOwnD, sDSet, sDSet1, sDSet2, sDSet3, sDSet5, dKi, dKs, sThawD, sThawD1, iIt, iIt1, gPn, gPt, gPs0, gPs1, gPs2, sTry, sTry1, sTryN, sTryR, sTryR2, sTryB, sTryC, sRaise, nOw0, nOw1, nOw2, fld0, fld1, xIsX1, xIsX2, xIsNotX, xIsNX, U.l0, U.l1, U.s0, U.s1, wS0, wS1, beq_self_eq_true, sSet2, sSet21, sPar, sPar1, sOwnM, sOwnM1, sExt, sExt1, sExt2, sWh1, sWh2, xIsNI, xIsNNo, xIsNotI, xIsNotNo, xIsNotL, xIsNotT, xIsNotS, xIsS, xIsL, xIsT, xNeS, sRetO, sRetO1, sRetF, xCallF, xCallF1, xCallFK, xCallFK1, List.getD_cons_zero, List.getD_cons_succ, Bool.not_true, Bool.not_false, Bool.not_not, xLt, xLe, xGt, xGe, xEqI, xEqS, xNeI, xLenS, xLenL, xLenT, xAddI, xAddS, xAddL, xAddT, xSubI, xMulI, xMulL, xMulT, xDivI, xModI, xPowI, xNegI, xIntI, xIntB, xAbsI, xMin2, xMax2, xListL, xListT, xTupleL, xTupleT, xCutL, xCutT, xIsN, xIsB, xIsNotB, xIx0T, xIx1T, xIx2T, xIx3T, xIx0L, xIx1L, Int.reduceSub, Int.reduceAdd, Int.reduceMul, Int.reduceToNat, Int.reducePow, Int.reduceNeg, sp__law_policy]
    refine ⟨hp, by omega, fun P m ok hm => ?_⟩
    (try simp only [iSt, iSt1, xSplit, xRmPre, xInSg, xFs, xFs0, xFs1, xFs2, xFs3, xFmt, xFmtI, xFmtS, xStrI, xStrS, xM1, xM11, xM12, xInK, xNotInK, xfSorted, xVar, xVar1, xC, xN, xOp, xOp1, xOp2, xUn, xUn1, xNil, xCons, xCons1, xCons2, xTup, xTup1, xLst, xLst1, xTru, xTru1, xOb, tru_non, tru_bl, tru_int, tru_lst, tru_tup, xTB, xTB1, xAndT, xAndT1, xAndT2, xOrT, xOrT1, xOrT2, xNotT, xNotT1, xAnd, xAnd1, xAnd2, xOr, xOr1, xOr2, xNot, xNot1, xIfE, xIfE1, xIfE2, xCh, xCh1, xCh2, xCh3, xCh3b, xCh4, xNoP, xPart, xPart1, xCut, xCut1, xCut2, xCut3, xB, xB1, xCall, xCall1, xCallK, xCallK1, perm_nil, perm_cons, xCat, xCat1, xCat2, xRev, xRevL, xRevT, sSkip, sSeq, sRet, sRetN, sIf, sIf1, sIf2, sDrop, sDrop1, sBrk, sCnt, sSet, sSet1, sAsg, sAsg1, gN, gT, gPut, put_nil, put_cons, sAug, sAug1, sAug2, xFr, xFr1, xfLst, sOwn, sOwn1, sApp, sApp1, sApp2, sThaw, sThaw1, sThaw2, sThaw3, xPeek, xPeek1, xPeekd, xPeek2, xPeekT, xPeekT1, xPeekTd, sSetIx, sSetIx1, sSetIx2, sSetIx3, sSetIx4, iSq, iSqL, iSqT, iEn, iEnL, iEnT, iR1, iR11, iR2, iR21, sFor, xComp, sPenN, sPenR, sOwnD, sDSet, sDSet1, sDSet2, sDSet3, sDSet5, dKi, dKs, sThawD, sThawD1, iIt, iIt1, gPn, gPt, gPs0, gPs1, gPs2, sTry, sTry1, sTryN, sTryR, sTryR2, sTryB, sTryC, sRaise, nOw0, nOw1, nOw2, fld0, fld1, xIsX1, xIsX2, xIsNotX, xIsNX, U.l0, U.l1, U.s0, U.s1, wS0, wS1, beq_self_eq_true, sSet2, sSet21, sPar, sPar1, sOwnM, sOwnM1, sExt, sExt1, sExt2, sWh1, sWh2, xIsNI, xIsNNo, xIsNotI, xIsNotNo, xIsNotL, xIsNotT, xIsNotS, xIsS, xIsL, xIsT, xNeS, sRetO, sRetO1, sRetF, xCallF, xCallF1, xCallFK, xCallFK1, List.getD_cons_zero, List.getD_cons_succ, Bool.not_true, Bool.not_false, Bool.not_not, xLt, xLe, xGt, xGe, xEqI, xEqS, xNeI, xLenS, xLenL, xLenT, xAddI, xAddS, xAddL, xAddT, xSubI, xMulI, xMulL, xMulT, xDivI, xModI, xPowI, xNegI, xIntI, xIntB, xAbsI, xMin2, xMax2, xListL, xListT, xTupleL, xTupleT, xCutL, xCutT, xIsN, xIsB, xIsNotB, xIx0T, xIx1T, xIx2T, xIx3T, xIx0L, xIx1L, Int.reduceSub, Int.reduceAdd, Int.reduceMul, Int.reduceToNat, Int.reducePow, Int.reduceNeg])
    refine ⟨P, rfl, ok, ?_⟩
    (try simp only [iSt, iSt1, xSplit, xRmPre, xInSg, xFs, xFs0, xFs1, xFs2, xFs3, xFmt, xFmtI, xFmtS, xStrI, xStrS, xM1, xM11, xM12, xInK, xNotInK, xfSorted, xVar, xVar1, xC, xN, xOp, xOp1, xOp2, xUn, xUn1, xNil, xCons, xCons1, xCons2, xTup, xTup1, xLst, xLst1, xTru, xTru1, xOb, tru_non, tru_bl, tru_int, tru_lst, tru_tup, xTB, xTB1, xAndT, xAndT1, xAndT2, xOrT, xOrT1, xOrT2, xNotT, xNotT1, xAnd, xAnd1, xAnd2, xOr, xOr1, xOr2, xNot, xNot1, xIfE, xIfE1, xIfE2, xCh, xCh1, xCh2, xCh3, xCh3b, xCh4, xNoP, xPart, xPart1, xCut, xCut1, xCut2, xCut3, xB, xB1, xCall, xCall1, xCallK, xCallK1, perm_nil, perm_cons, xCat, xCat1, xCat2, xRev, xRevL, xRevT, sSkip, sSeq, sRet, sRetN, sIf, sIf1, sIf2, sDrop, sDrop1, sBrk, sCnt, sSet, sSet1, sAsg, sAsg1, gN, gT, gPut, put_nil, put_cons, sAug, sAug1, sAug2, xFr, xFr1, xfLst, sOwn, sOwn1, sApp, sApp1, sApp2, sThaw, sThaw1, sThaw2, sThaw3, xPeek, xPeek1, xPeekd, xPeek2, xPeekT, xPeekT1, xPeekTd, sSetIx, sSetIx1, sSetIx2, sSetIx3, sSetIx4, iSq, iSqL, iSqT, iEn, iEnL, iEnT, iR1, iR11, iR2, iR21, sFor, xComp, sPenN, sPenR, sOwnD, sDSet, sDSet1, sDSet2, sDSet3, sDSet5, dKi, dKs, sThawD, sThawD1, iIt, iIt1, gPn, gPt, gPs0, gPs1, gPs2, sTry, sTry1, sTryN, sTryR, sTryR2, sTryB, sTryC, sRaise, nOw0, nOw1, nOw2, fld0, fld1, xIsX1, xIsX2, xIsNotX, xIsNX, U.l0, U.l1, U.s0, U.s1, wS0, wS1, beq_self_eq_true, sSet2, sSet21, sPar, sPar1, sOwnM, sOwnM1, sExt, sExt1, sExt2, sWh1, sWh2, xIsNI, xIsNNo, xIsNotI, xIsNotNo, xIsNotL, xIsNotT, xIsNotS, xIsS, xIsL, xIsT, xNeS, sRetO, sRetO1, sRetF, xCallF, xCallF1, xCallFK, xCallFK1, List.getD_cons_zero, List.getD_cons_succ, Bool.not_true, Bool.not_false, Bool.not_not, xLt, xLe, xGt, xGe, xEqI, xEqS, xNeI, xLenS, xLenL, xLenT, xAddI, xAddS, xAddL, xAddT, xSubI, xMulI, xMulL, xMulT, xDivI, xModI, xPowI, xNegI, xIntI, xIntB, xAbsI, xMin2, xMax2, xListL, xListT, xTupleL, xTupleT, xCutL, xCutT, xIsN, xIsB, xIsNotB, xIx0T, xIx1T, xIx2T, xIx3T, xIx0L, xIx1L, Int.reduceSub, Int.reduceAdd, Int.reduceMul, Int.reduceToNat, Int.reducePow, Int.reduceNeg])
    exact ⟨_, m, rfl, by omega⟩
end Lw


set_option Elab.async false
set_option linter.all false
set_option maxRecDepth 100000
set_option maxHeartbeats 0

namespace Lw
open PySem PySem.Spec L2 U
open PyProof.Rows hiding St
section
variable {P : Program} {w : World} {K : PySem.W.Frag} {mg : Str → Option Value} {base : Heap}
theorem sc_is_integer : FnScope ["thing"] ["thing"] (defScope s_is_integer) := ⟨rfl, rfl, rfl, by decide +kernel, rfl, by decide +kernel, by decide +kernel⟩
theorem ok_is_integer (T : Txt K mg) : Fn P w K mg base 1 "is_integer" s_is_integer ["thing"] sp_is_integer := by
  obtain ⟨fd, F⟩ := T.F_is_integer
  refine fn_mk (k := 0) F T.g_is_integer sc_is_integer (F.bindsN fun _ _ _ _ _ _ us hl => match us, hl with | [_], _ => rfl) len_is_integer ?_
  intro cdv A outer s H E O0 pen PX hr tk
  have hu := hu_of hr
  exact ⟨u_is_integer (Wd pen PX), (ub_one (us_ret (up_and (up_callB call_isiU (by rfl) T.n_isinstance boot_isinstance (ul_cons (up_var (pv 0)) (ul_cons (up_bt rfl T.n_int boot_int) ul_nil))) (up_one (up_not (up_callB call_isiU (by rfl) T.n_isinstance boot_isinstance (ul_cons (up_var (pv 0)) (ul_cons (up_bt rfl T.n_bool boot_bool) ul_nil)))))))), pure_is_integer⟩
theorem sc_is_between : FnScope ["thing", "least", "most"] ["thing", "least", "most"] (defScope s_is_between) := ⟨rfl, rfl, rfl, by decide +kernel, rfl, by decide +kernel, by decide +kernel⟩
theorem ok_is_between (T : Txt K mg) : Fn P w K mg base 2 "is_between" s_is_between ["thing", "least", "most"] sp_is_between := by
  have h_is_integer := ok_is_integer T (P := P) (w := w) (base := base)
  obtain ⟨fd, F⟩ := T.F_is_between
  refine fn_mk (k := 1) F T.g_is_between sc_is_between (F.bindsN fun _ _ _ _ _ _ us hl => match us, hl with | [_, _, _], _ => rfl) len_is_between ?_
  intro cdv A outer s H E O0 pen PX hr tk
  have hu := hu_of hr
  exact ⟨u_is_between (Wd pen PX), (ub_one (us_ret (up_and (up_fn h_is_integer hr (by decide) (by rfl) tk (ul_cons (up_var (pv 0)) ul_nil)) (up_one (up_chain op_leU op_leU (up_var (pv 1)) (up_var (pv 0)) (up_var (pv 2))))))), pure_is_between⟩
theorem sc_policy_text : FnScope ["policy", "statement", "capacity"] ["policy"] (defScope s_policy_text) := ⟨rfl, rfl, rfl, by decide +kernel, rfl, by decide +kernel, by decide +kernel⟩
theorem ok_policy_text (T : Txt K mg) : Fn P w K mg base 1 "policy_text" s_policy_text ["policy"] sp_policy_text := by
  obtain ⟨fd, F⟩ := T.F_policy_text
  refine fn_mk (k := 0) F T.g_policy_text sc_policy_text (F.bindsN fun _ _ _ _ _ _ us hl => match us, hl with | [_], _ => rfl) len_policy_text ?_
  intro cdv A outer s H E O0 pen PX hr tk
  have hu := hu_of hr
  exact ⟨u_policy_text (Wd pen PX), (ub_cons (us_if (ut_cmp (op_eqV hu) (up_ix (up_var (pv 0)) up_int) up_str (nomark _)) (ub_one (us_ret (up_joined (.cons up_str (.cons (up_fmt (up_ix (up_var (pv 0)) up_int)) UPJ.nil))))) ub_nil) (ub_cons (us_if (ut_cmp (op_eqV hu) (up_ix (up_var (pv 0)) up_int) up_str (nomark _)) (ub_one (us_ret (up_joined (.cons up_str (.cons (up_fmt (up_ix (up_var (pv 0)) up_int)) (.cons up_str (.cons (up_fmt (up_ix (up_var (pv 0)) up_int)) UPJ.nil))))))) ub_nil) (ub_cons (us_if (ut_cmp (op_eqV hu) (up_ix (up_var (pv 0)) up_int) up_str (nomark _)) (ub_one (us_ret (up_join up_str (up_op op_addU (up_lst (ul_cons up_str ul_nil)) (uf_val (uf_comp (own := [("statement", 1), ("capacity", 2)]) (g := ugT [1, 2]) rfl sc_policy_text.nd (ui_seq (up_ix (up_var (pv 0)) up_int)) (blkOk_by (by kernel_rfl)) (gok_tup (by decide)) (fun _ _ _ _ _ => pg_tup rfl (pgs_cons (pg_name (i := 1) sc_policy_text.nd rfl (Or.inl rfl)) (pgs_cons (pg_name (i := 2) sc_policy_text.nd rfl (Or.inl rfl)) pgs_nil))) (fun _ _ _ _ _ => uts_nil) (fun _ _ _ _ _ _ => (up_joined (.cons (up_fmt (up_var (pv 1))) (.cons up_str (.cons (up_fmt (up_var (pv 2))) UPJ.nil))))))))))) ub_nil) (ub_one (us_ret (up_ix (up_var (pv 0)) up_int)))))), pure_policy_text⟩
theorem sc_are_entries : FnScope ["thing", "least", "entry"] ["thing"] (defScope s_are_entries) := ⟨rfl, rfl, rfl, by decide +kernel, rfl, by decide +kernel, by decide +kernel⟩
theorem ok_are_entries (T : Txt K mg) : Fn P w K mg base 3 "are_entries" s_are_entries ["thing"] sp_are_entries := by
  have h_is_between := ok_is_between T (P := P) (w := w) (base := base)
  obtain ⟨fd, F⟩ := T.F_are_entries
  refine fn_mk (k := 2) F T.g_are_entries sc_are_entries (F.bindsN fun _ _ _ _ _ _ us hl => match us, hl with | [_], _ => rfl) len_are_entries ?_
  intro cdv A outer s H E O0 pen PX hr tk
  have hu := hu_of hr
  exact ⟨u_are_entries (Wd pen PX), (ub_cons (us_if (PW.pt (uw_or (ut_not (ut_tru (up_callB call_isiU (by rfl) T.n_isinstance boot_isinstance (ul_cons (up_var (pv 0)) (ul_cons (up_bt rfl T.n_tuple boot_tuple) ul_nil))) (fun _ => rfl))) (uw_or1 (ut_cmp op_gtU (up_callB call_lenU (by rfl) T.n_len PySem.boot_len (ul_cons (up_var (pv 0)) ul_nil)) (up_gi rfl T.i_MOST_STATEMENTS) (nomark _))))) (ub_one (us_ret up_bl)) ub_nil) (ub_cons (us_set (i := 1) sc_are_entries.nd rfl (Or.inl rfl) up_int) (ub_cons (us_for (passes_of rfl) rfl (ui_seq (up_var (pv 0))) (ug_name (pg_name (i := 2) sc_are_entries.nd rfl (Or.inl rfl))) (ub_cons (us_if (PW.pt (uw_or (ut_not (ut_tru (up_callB call_isiU (by rfl) T.n_isinstance boot_isinstance (ul_cons (up_var (pv 2)) (ul_cons (up_bt rfl T.n_tuple boot_tuple) ul_nil))) (fun _ => rfl))) (uw_or1 (ut_cmp (op_neU hu) (up_callB call_lenU (by rfl) T.n_len PySem.boot_len (ul_cons (up_var (pv 2)) ul_nil)) up_int (nomark _))))) (ub_one (us_ret up_bl)) ub_nil) (ub_cons (us_if (PW.pt (uw_or (ut_not (ut_tru (up_fn h_is_between hr (by decide) (by rfl) tk (ul_cons (up_ix (up_var (pv 2)) up_int) (ul_cons (up_var (pv 1)) (ul_cons (up_op op_subU (up_gi rfl T.i_MOST_STATEMENTS) up_int) ul_nil)))) (fun _ => rfl))) (uw_or1 (ut_not (ut_tru (up_fn h_is_between hr (by decide) (by rfl) tk (ul_cons (up_ix (up_var (pv 2)) up_int) (ul_cons up_int (ul_cons (up_op op_subU (up_gi rfl T.i_CAPACITY_LIMIT) up_int) ul_nil)))) (fun _ => rfl)))))) (ub_one (us_ret up_bl)) ub_nil) (ub_one (us_set (i := 1) sc_are_entries.nd rfl (Or.inl rfl) (up_op op_addU (up_ix (up_var (pv 2)) up_int) up_int)))))) (ub_one (us_ret up_bl))))), pure_are_entries⟩
theorem sc_is_factor : FnScope ["top", "bottom"] ["top", "bottom"] (defScope s_is_factor) := ⟨rfl, rfl, rfl, by decide +kernel, rfl, by decide +kernel, by decide +kernel⟩
theorem ok_is_factor (T : Txt K mg) : Fn P w K mg base 3 "is_factor" s_is_factor ["top", "bottom"] sp_is_factor := by
  have h_is_between := ok_is_between T (P := P) (w := w) (base := base)
  obtain ⟨fd, F⟩ := T.F_is_factor
  refine fn_mk (k := 2) F T.g_is_factor sc_is_factor (F.bindsN fun _ _ _ _ _ _ us hl => match us, hl with | [_, _], _ => rfl) len_is_factor ?_
  intro cdv A outer s H E O0 pen PX hr tk
  have hu := hu_of hr
  exact ⟨u_is_factor (Wd pen PX), (ub_one (us_ret (up_and (up_fn h_is_between hr (by decide) (by rfl) tk (ul_cons (up_var (pv 0)) (ul_cons up_int (ul_cons (up_gi rfl T.i_MOST_PART) ul_nil)))) (up_and (up_fn h_is_between hr (by decide) (by rfl) tk (ul_cons (up_var (pv 1)) (ul_cons up_int (ul_cons (up_gi rfl T.i_MOST_PART) ul_nil)))) (up_one (up_cmp op_geU (up_op op_mulU up_int (up_var (pv 0))) (up_op op_mulU up_int (up_var (pv 1))) (nomark _))))))), pure_is_factor⟩
theorem sc_is_policy : FnScope ["thing"] ["thing"] (defScope s_is_policy) := ⟨rfl, rfl, rfl, by decide +kernel, rfl, by decide +kernel, by decide +kernel⟩
theorem ok_is_policy (T : Txt K mg) : Fn P w K mg base 4 "is_policy" s_is_policy ["thing"] sp_is_policy := by
  have h_are_entries := ok_are_entries T (P := P) (w := w) (base := base)
  have h_is_between := ok_is_between T (P := P) (w := w) (base := base)
  have h_is_factor := ok_is_factor T (P := P) (w := w) (base := base)
  obtain ⟨fd, F⟩ := T.F_is_policy
  refine fn_mk (k := 3) F T.g_is_policy sc_is_policy (F.bindsN fun _ _ _ _ _ _ us hl => match us, hl with | [_], _ => rfl) len_is_policy ?_
  intro cdv A outer s H E O0 pen PX hr tk
  have hu := hu_of hr
  exact ⟨u_is_policy (Wd pen PX), (ub_cons (us_if (PW.pt (uw_or (ut_not (ut_tru (up_callB call_isiU (by rfl) T.n_isinstance boot_isinstance (ul_cons (up_var (pv 0)) (ul_cons (up_bt rfl T.n_tuple boot_tuple) ul_nil))) (fun _ => rfl))) (uw_or (ut_cmp (op_eqV hu) (up_callB call_lenU (by rfl) T.n_len PySem.boot_len (ul_cons (up_var (pv 0)) ul_nil)) up_int (nomark _)) (uw_or1 (ut_not (ut_tru (up_callB call_isiU (by rfl) T.n_isinstance boot_isinstance (ul_cons (up_ix (up_var (pv 0)) up_int) (ul_cons (up_bt rfl T.n_str boot_str) ul_nil))) (fun _ => rfl))))))) (ub_one (us_ret up_bl)) ub_nil) (ub_cons (us_if (ut_cmp (op_inU hr) (up_ix (up_var (pv 0)) up_int) (up_tup (ul_cons up_str (ul_cons up_str ul_nil))) (by rfl)) (ub_one (us_ret (up_cmp (op_eqV hu) (up_callB call_lenU (by rfl) T.n_len PySem.boot_len (ul_cons (up_var (pv 0)) ul_nil)) up_int (nomark _)))) ub_nil) (ub_cons (us_if (ut_cmp (op_eqV hu) (up_ix (up_var (pv 0)) up_int) up_str (nomark _)) (ub_one (us_ret (up_and (up_cmp (op_eqV hu) (up_callB call_lenU (by rfl) T.n_len PySem.boot_len (ul_cons (up_var (pv 0)) ul_nil)) up_int (nomark _)) (up_one (up_fn h_are_entries hr (by decide) (by rfl) tk (ul_cons (up_ix (up_var (pv 0)) up_int) ul_nil)))))) ub_nil) (ub_cons (us_if (ut_cmp (op_eqV hu) (up_ix (up_var (pv 0)) up_int) up_str (nomark _)) (ub_one (us_ret (up_and (up_cmp (op_eqV hu) (up_callB call_lenU (by rfl) T.n_len PySem.boot_len (ul_cons (up_var (pv 0)) ul_nil)) up_int (nomark _)) (up_one (up_fn h_is_between hr (by decide) (by rfl) tk (ul_cons (up_ix (up_var (pv 0)) up_int) (ul_cons up_int (ul_cons (up_gi rfl T.i_MOST_CELLS) ul_nil)))))))) ub_nil) (ub_one (us_ret (up_and (up_cmp (op_eqV hu) (up_ix (up_var (pv 0)) up_int) up_str (nomark _)) (up_and (up_cmp (op_eqV hu) (up_callB call_lenU (by rfl) T.n_len PySem.boot_len (ul_cons (up_var (pv 0)) ul_nil)) up_int (nomark _)) (up_one (up_fn h_is_factor hr (by decide) (by rfl) tk (ul_cons (up_ix (up_var (pv 0)) up_int) (ul_cons (up_ix (up_var (pv 0)) up_int) ul_nil)))))))))))), pure_is_policy⟩
theorem sc_number_in : FnScope ["text", "digits", "sign"] ["text"] (defScope s_number_in) := ⟨rfl, rfl, rfl, by decide +kernel, rfl, by decide +kernel, by decide +kernel⟩
theorem ok_number_in (T : Txt K mg) : Fn P w K mg base 1 "number_in" s_number_in ["text"] sp_number_in := by
  obtain ⟨fd, F⟩ := T.F_number_in
  refine fn_mk (k := 0) F T.g_number_in sc_number_in (F.bindsN fun _ _ _ _ _ _ us hl => match us, hl with | [_], _ => rfl) len_number_in ?_
  intro cdv A outer s H E O0 pen PX hr tk
  have hu := hu_of hr
  exact ⟨u_number_in (Wd pen PX), (ub_cons (us_set (i := 1) sc_number_in.nd rfl (Or.inl rfl) (up_rmpre (up_var (pv 0)) up_str)) (ub_cons (us_if (PW.pt (uw_or (ut_not (ut_chain op_leU op_leU up_int (up_callB call_lenU (by rfl) T.n_len PySem.boot_len (ul_cons (up_var (pv 1)) ul_nil)) (up_gi rfl T.i_MOST_DIGITS))) (uw_or1 (ut_not (ut_tru (up_callB (call_AllU rfl) (by rfl) T.n_all boot_all (ul_cons (uf_val (uf_comp (own := [("sign", 2)]) (g := ugN 2) rfl sc_number_in.nd (ui_str (up_var (pv 1))) (blkOk_by (by kernel_rfl)) (gok_name (by decide)) (fun _ _ _ _ _ => pg_name (i := 2) sc_number_in.nd rfl (Or.inl rfl)) (fun _ _ _ _ _ => uts_nil) (fun _ _ _ _ _ _ => (up_cmp op_inSg (up_var (pv 2)) (up_gs rfl T.i_DIGITS) (by rfl))))) ul_nil)) (fun _ => rfl)))))) (ub_one (us_ret up_non)) ub_nil) (ub_one (us_ret (up_callTy call_intT (by rfl) T.n_int boot_int (ul_cons (up_var (pv 0)) ul_nil)))))), pure_number_in⟩
theorem sc_numbers_in : FnScope ["words", "word"] ["words"] (defScope s_numbers_in) := ⟨rfl, rfl, rfl, by decide +kernel, rfl, by decide +kernel, by decide +kernel⟩
theorem ok_numbers_in (T : Txt K mg) : Fn P w K mg base 2 "numbers_in" s_numbers_in ["words"] sp_numbers_in := by
  have h_number_in := ok_number_in T (P := P) (w := w) (base := base)
  obtain ⟨fd, F⟩ := T.F_numbers_in
  refine fn_mk (k := 1) F T.g_numbers_in sc_numbers_in (F.bindsN fun _ _ _ _ _ _ us hl => match us, hl with | [_], _ => rfl) len_numbers_in ?_
  intro cdv A outer s H E O0 pen PX hr tk
  have hu := hu_of hr
  exact ⟨u_numbers_in (Wd pen PX), (ub_one (us_ret (up_callTy call_tupleU (by rfl) T.n_tuple boot_tuple (ul_cons (uf_val (uf_comp (own := [("word", 1)]) (g := ugN 1) rfl sc_numbers_in.nd (ui_seq (up_var (pv 0))) (blkOk_by (by kernel_rfl)) (gok_name (by decide)) (fun _ _ _ _ _ => pg_name (i := 1) sc_numbers_in.nd rfl (Or.inl rfl)) (fun _ _ _ _ _ => uts_nil) (fun _ _ _ _ _ _ => (up_fn h_number_in hr (by decide) (by rfl) takesN (ul_cons (up_var (pv 1)) ul_nil))))) ul_nil)))), pure_numbers_in⟩
theorem sc_entries_in : FnScope ["words", "word"] ["words"] (defScope s_entries_in) := ⟨rfl, rfl, rfl, by decide +kernel, rfl, by decide +kernel, by decide +kernel⟩
theorem ok_entries_in (T : Txt K mg) : Fn P w K mg base 3 "entries_in" s_entries_in ["words"] sp_entries_in := by
  have h_numbers_in := ok_numbers_in T (P := P) (w := w) (base := base)
  obtain ⟨fd, F⟩ := T.F_entries_in
  refine fn_mk (k := 2) F T.g_entries_in sc_entries_in (F.bindsN fun _ _ _ _ _ _ us hl => match us, hl with | [_], _ => rfl) len_entries_in ?_
  intro cdv A outer s H E O0 pen PX hr tk
  have hu := hu_of hr
  exact ⟨u_entries_in (Wd pen PX), (ub_one (us_ret (up_callTy call_tupleU (by rfl) T.n_tuple boot_tuple (ul_cons (uf_val (uf_comp (own := [("word", 1)]) (g := ugN 1) rfl sc_entries_in.nd (ui_seq (up_var (pv 0))) (blkOk_by (by kernel_rfl)) (gok_name (by decide)) (fun _ _ _ _ _ => pg_name (i := 1) sc_entries_in.nd rfl (Or.inl rfl)) (fun _ _ _ _ _ => uts_nil) (fun _ _ _ _ _ _ => (up_fn h_numbers_in hr (by decide) (by rfl) takesN (ul_cons (up_split (up_var (pv 1)) up_str) ul_nil))))) ul_nil)))), pure_entries_in⟩
theorem sc_policy_in : FnScope ["words"] ["words"] (defScope s_policy_in) := ⟨rfl, rfl, rfl, by decide +kernel, rfl, by decide +kernel, by decide +kernel⟩
theorem ok_policy_in (T : Txt K mg) : Fn P w K mg base 4 "policy_in" s_policy_in ["words"] sp_policy_in := by
  have h_entries_in := ok_entries_in T (P := P) (w := w) (base := base)
  have h_numbers_in := ok_numbers_in T (P := P) (w := w) (base := base)
  obtain ⟨fd, F⟩ := T.F_policy_in
  refine fn_mk (k := 3) F T.g_policy_in sc_policy_in (F.bindsN fun _ _ _ _ _ _ us hl => match us, hl with | [_], _ => rfl) len_policy_in ?_
  intro cdv A outer s H E O0 pen PX hr tk
  have hu := hu_of hr
  exact ⟨u_policy_in (Wd pen PX), (ub_cons (us_if (ut_cmp (op_eqV hu) (up_ix (up_var (pv 0)) up_int) up_str (nomark _)) (ub_one (us_ret (up_tup (ul_cons up_str (ul_cons (up_fn h_entries_in hr (by decide) (by rfl) tk (ul_cons (up_cut (up_var (pv 0)) (uo_some up_int) uo_none) ul_nil)) ul_nil))))) ub_nil) (ub_cons (us_if (ut_cmp (op_eqV hu) (up_ix (up_var (pv 0)) up_int) up_str (nomark _)) (ub_one (us_ret (up_op op_addU (up_tup (ul_cons up_str ul_nil)) (up_fn h_numbers_in hr (by decide) (by rfl) tk (ul_cons (up_cut (up_var (pv 0)) (uo_some up_int) uo_none) ul_nil))))) ub_nil) (ub_cons (us_if (PW.pt (uw_and (ut_cmp (op_eqV hu) (up_ix (up_var (pv 0)) up_int) up_str (nomark _)) (uw_and1 (ut_cmp (op_eqV hu) (up_callB call_lenU (by rfl) T.n_len PySem.boot_len (ul_cons (up_var (pv 0)) ul_nil)) up_int (nomark _))))) (ub_one (us_ret (up_op op_addU (up_tup (ul_cons up_str ul_nil)) (up_fn h_numbers_in hr (by decide) (by rfl) tk (ul_cons (up_split (up_ix (up_var (pv 0)) up_int) up_str) ul_nil))))) ub_nil) (ub_one (us_ret (up_callTy call_tupleU (by rfl) T.n_tuple boot_tuple (ul_cons (up_var (pv 0)) ul_nil))))))), pure_policy_in⟩
theorem sc_read_policy : FnScope ["text", "policy"] ["text"] (defScope s_read_policy) := ⟨rfl, rfl, rfl, by decide +kernel, rfl, by decide +kernel, by decide +kernel⟩
theorem ok_read_policy (T : Txt K mg) : Fn P w K mg base 5 "read_policy" s_read_policy ["text"] sp_read_policy := by
  have h_is_policy := ok_is_policy T (P := P) (w := w) (base := base)
  have h_policy_in := ok_policy_in T (P := P) (w := w) (base := base)
  have h_policy_text := ok_policy_text T (P := P) (w := w) (base := base)
  obtain ⟨fd, F⟩ := T.F_read_policy
  refine fn_mk (k := 4) F T.g_read_policy sc_read_policy (F.bindsN fun _ _ _ _ _ _ us hl => match us, hl with | [_], _ => rfl) len_read_policy ?_
  intro cdv A outer s H E O0 pen PX hr tk
  have hu := hu_of hr
  exact ⟨u_read_policy (Wd pen PX), (ub_cons (us_if (ut_not (ut_tru (up_callB call_isiU (by rfl) T.n_isinstance boot_isinstance (ul_cons (up_var (pv 0)) (ul_cons (up_bt rfl T.n_str boot_str) ul_nil))) (fun _ => rfl))) (ub_one us_never) ub_nil) (ub_cons (us_set (i := 1) sc_read_policy.nd rfl (Or.inl rfl) (up_fn h_policy_in hr (by decide) (by rfl) tk (ul_cons (up_split (up_var (pv 0)) up_str) ul_nil))) (ub_cons (us_if (PW.pt (uw_or (ut_not (ut_tru (up_fn h_is_policy hr (by decide) (by rfl) tk (ul_cons (up_var (pv 1)) ul_nil)) (fun _ => rfl))) (uw_or1 (ut_cmp (op_neU hu) (up_fn h_policy_text hr (by decide) (by rfl) tk (ul_cons (up_var (pv 1)) ul_nil)) (up_var (pv 0)) (nomark _))))) (ub_one us_never) ub_nil) (ub_one (us_ret (up_var (pv 1))))))), pure_read_policy⟩
theorem sc__law_pen : FnScope ["_law_script"] ["_law_script"] (defScope s__law_pen) := ⟨rfl, rfl, rfl, by decide +kernel, rfl, by decide +kernel, by decide +kernel⟩
theorem ok__law_pen (T : Txt K mg) : ∃ fd, FnG P w K mg base 1 (He.fAd K ("_law_pen", none)) fd ["_law_script"] (spPenK K) ∧ Binds K fd ["_law_script"] [] ∧ PySem.W.keepIn K (.ref (He.fAd K ("_law_pen", none))) = true := by
  obtain ⟨fd, F⟩ := T.F__law_pen
  refine ⟨fd, fnG_mk F sc__law_pen (fun vs H Q E ⟨a, ns, e, _⟩ => by rw [e]; rfl) ?_, F.bindsN fun _ _ _ _ _ _ us hl => match us, hl with | [_], _ => rfl, F.kp⟩
  intro cdv A outer s H vs Q E hr ⟨a, ns, ev, hq, hz, hQ⟩
  subst ev
  exact ⟨_, pen_ps (by rfl) T.n_list (pv 0), a, ns, rfl, hq, hz, hQ⟩
theorem sc__law_draw : FnScope ["_law_pen_here", "_law_size", "_law_turn", "_law_cell", "_law_mixed", "_law_digit", "_law_great"] ["_law_pen_here", "_law_size"] (defScope s__law_draw) := ⟨rfl, rfl, rfl, by decide +kernel, rfl, by decide +kernel, by decide +kernel⟩
theorem ok__law_draw (T : Txt K mg) : Fn P w K mg base 1 "_law_draw" s__law_draw ["_law_pen_here", "_law_size"] sp__law_draw := by
  obtain ⟨fd, F⟩ := T.F__law_draw
  refine fn_mk (k := 0) F T.g__law_draw sc__law_draw (F.bindsN fun _ _ _ _ _ _ us hl => match us, hl with | [_, _], _ => rfl) len__law_draw ?_
  intro cdv A outer s H E O0 pen PX hr tk
  have hu := hu_of hr
  exact ⟨u__law_draw (Wd pen PX), (ub_cons (us_if (ut_cmp op_gtU (up_penL (i := 0) (k := 2) (pe_ix ix_list (pv 0) pe_int (fun _ _ => rfl))) up_int (nomark _)) (ub_cons (us_set (i := 5) sc__law_draw.nd rfl (Or.inl rfl) (up_op op_modU (up_penL (i := 0) (k := 2) (pe_ix ix_list (pv 0) pe_int (fun _ _ => rfl))) (up_var (pv 1)))) (ub_cons (us_penRest (i := 0) (ps_asg (up_op op_divU (up_penL (i := 0) (k := 2) (pe_ix ix_list (pv 0) pe_int (fun _ _ => rfl))) (up_var (pv 1))) (pg_sub (pv 0) pe_int set_list))) (ub_one (us_ret (up_var (pv 5)))))) ub_nil) (ub_cons (us_set (i := 2) sc__law_draw.nd rfl (Or.inl rfl) (up_penL (i := 0) (k := 1) (pe_ix ix_list (pv 0) pe_int (fun _ _ => rfl)))) (ub_cons (us_penNext (i := 0) (ps_asg (up_op op_addU (up_var (pv 2)) up_int) (pg_sub (pv 0) pe_int set_list))) (ub_cons (us_set (i := 3) sc__law_draw.nd rfl (Or.inl rfl) (up_op op_addU (up_op op_mulU up_int (up_var (pv 2))) up_int)) (ub_cons (us_if (ut_cmp (op_neU hu) (up_penL (i := 0) (k := 0) (pe_ix ix_list (pv 0) pe_int (fun _ _ => rfl))) (up_lst ul_nil) (nomark _)) (ub_one (us_set (i := 3) sc__law_draw.nd rfl (Or.inl rfl) (up_ix (up_penL (i := 0) (k := 0) (pe_ix ix_list (pv 0) pe_int (fun _ _ => rfl))) (up_op op_modU (up_var (pv 2)) (up_callB call_lenU (by rfl) T.n_len PySem.boot_len (ul_cons (up_penL (i := 0) (k := 0) (pe_ix ix_list (pv 0) pe_int (fun _ _ => rfl))) ul_nil)))))) ub_nil) (ub_cons (us_if (PW.pt (uw_and (ut_cmp op_ltU (up_var (pv 2)) (up_callB call_lenU (by rfl) T.n_len PySem.boot_len (ul_cons (up_penL (i := 0) (k := 0) (pe_ix ix_list (pv 0) pe_int (fun _ _ => rfl))) ul_nil)) (nomark _)) (uw_and1 (ut_cmp op_geU (up_callB call_absU (by rfl) T.n_abs boot_abs (ul_cons (up_var (pv 3)) ul_nil)) (up_op op_powU up_int up_int) (nomark _))))) (ub_cons (us_set (i := 6) sc__law_draw.nd rfl (Or.inl rfl) (up_op op_addU (up_op op_mulU up_int (up_callB call_absU (by rfl) T.n_abs boot_abs (ul_cons (up_var (pv 3)) ul_nil))) (up_callTy call_intU (by rfl) T.n_int boot_int (ul_cons (up_cmp op_ltU (up_var (pv 3)) up_int (nomark _)) ul_nil)))) (ub_cons (us_penRest (i := 0) (ps_asg (up_op op_divU (up_var (pv 6)) (up_var (pv 1))) (pg_sub (pv 0) pe_int set_list))) (ub_one (us_ret (up_op op_modU (up_var (pv 6)) (up_var (pv 1))))))) ub_nil) (ub_cons (us_set (i := 4) sc__law_draw.nd rfl (Or.inl rfl) (up_op op_modU (up_op op_powU (up_op op_addU (up_op op_addU (up_op op_modU (up_var (pv 3)) up_int) (up_op op_mulU up_int (up_var (pv 2)))) up_int) up_int) up_int)) (ub_cons (us_set (i := 4) sc__law_draw.nd rfl (Or.inl rfl) (up_op op_modU (up_op op_powU (up_op op_addU (up_op op_mulU (up_var (pv 4)) (up_op op_addU (up_var (pv 2)) up_int)) (up_op op_mulU (up_op op_mulU up_int (up_var (pv 2))) (up_var (pv 2)))) up_int) up_int)) (ub_one (us_ret (up_op op_modU (up_op op_divU (up_var (pv 4)) up_int) (up_var (pv 1))))))))))))), pure__law_draw⟩
theorem sc__law_policy : FnScope ["_law_pen_here", "_law_way", "_law_found", "_law_last", "_law_turn", "_law_bottom", "_law_least"] ["_law_pen_here"] (defScope s__law_policy) := ⟨rfl, rfl, rfl, by decide +kernel, rfl, by decide +kernel, by decide +kernel⟩
theorem ok__law_policy (T : Txt K mg) : Fn P w K mg base 2 "_law_policy" s__law_policy ["_law_pen_here"] sp__law_policy := by
  have h__law_draw := ok__law_draw T (P := P) (w := w) (base := base)
  obtain ⟨fd, F⟩ := T.F__law_policy
  refine fn_mk (k := 1) F T.g__law_policy sc__law_policy (F.bindsN fun _ _ _ _ _ _ us hl => match us, hl with | [_], _ => rfl) len__law_policy ?_
  intro cdv A outer s H E O0 pen PX hr tk
  have hu := hu_of hr
  exact ⟨u__law_policy (Wd pen PX), (ub_cons (us_set (i := 1) sc__law_policy.nd rfl (Or.inl rfl) (up_fn h__law_draw hr (by decide) (by rfl) tk (ul_cons (up_var (pv 0)) (ul_cons up_int ul_nil)))) (ub_cons (us_if (ut_cmp (op_eqV hu) (up_var (pv 1)) up_int (nomark _)) (ub_one (us_ret (up_tup (ul_cons up_str ul_nil)))) ub_nil) (ub_cons (us_if (ut_cmp (op_eqV hu) (up_var (pv 1)) up_int (nomark _)) (ub_one (us_ret (up_tup (ul_cons up_str ul_nil)))) ub_nil) (ub_cons (us_if (ut_cmp (op_eqV hu) (up_var (pv 1)) up_int (nomark _)) (ub_one (us_ret (up_tup (ul_cons up_str (ul_cons (up_ix (up_lst (ul_cons up_int (ul_cons up_int (ul_cons up_int (ul_cons up_int (ul_cons (up_fn h__law_draw hr (by decide) (by rfl) tk (ul_cons (up_var (pv 0)) (ul_cons up_int ul_nil))) (ul_cons (up_op op_powU up_int up_int) ul_nil))))))) (up_fn h__law_draw hr (by decide) (by rfl) tk (ul_cons (up_var (pv 0)) (ul_cons up_int ul_nil)))) ul_nil))))) ub_nil) (ub_cons (us_if (ut_cmp (op_eqV hu) (up_var (pv 1)) up_int (nomark _)) (ub_cons (us_set (i := 5) sc__law_policy.nd rfl (Or.inl rfl) (up_op op_addU up_int (up_fn h__law_draw hr (by decide) (by rfl) tk (ul_cons (up_var (pv 0)) (ul_cons (up_ix (up_lst (ul_cons up_int (ul_cons up_int ul_nil))) (up_fn h__law_draw hr (by decide) (by rfl) tk (ul_cons (up_var (pv 0)) (ul_cons up_int ul_nil)))) ul_nil))))) (ub_cons (us_set (i := 6) sc__law_policy.nd rfl (Or.inl rfl) (up_op op_divU (up_op op_addU (up_op op_mulU up_int (up_var (pv 5))) up_int) up_int)) (ub_one (us_ret (up_tup (ul_cons up_str (ul_cons (up_callB (call_min2U rfl) (by rfl) T.n_min boot_min (ul_cons up_int (ul_cons (up_op op_addU (up_var (pv 6)) (up_fn h__law_draw hr (by decide) (by rfl) tk (ul_cons (up_var (pv 0)) (ul_cons (up_ix (up_lst (ul_cons up_int (ul_cons up_int (ul_cons up_int ul_nil)))) (up_fn h__law_draw hr (by decide) (by rfl) tk (ul_cons (up_var (pv 0)) (ul_cons up_int ul_nil)))) ul_nil)))) ul_nil))) (ul_cons (up_var (pv 5)) ul_nil)))))))) ub_nil) (ub_cons (us_own (i := 2) sc__law_policy.nd rfl (Or.inl rfl) (uf_lst ul_nil)) (ub_cons (us_set (i := 3) sc__law_policy.nd rfl (Or.inl rfl) (up_fn h__law_draw hr (by decide) (by rfl) tk (ul_cons (up_var (pv 0)) (ul_cons up_int ul_nil)))) (ub_cons (us_for (passes_of rfl) rfl (ui_rng1 (by rfl) T.n_range (ul_cons (up_ix (up_lst (ul_cons up_int (ul_cons up_int (ul_cons up_int (ul_cons up_int ul_nil))))) (up_fn h__law_draw hr (by decide) (by rfl) tk (ul_cons (up_var (pv 0)) (ul_cons up_int ul_nil)))) ul_nil)) (ug_name (pg_name (i := 4) sc__law_policy.nd rfl (Or.inl rfl))) (ub_cons (us_if (ut_cmp op_ltU (up_var (pv 3)) up_int (nomark _)) (ub_one (us_app (i := 2) (ps_expr (pe_bm PySem.F.plainAttrs_list PySem.F.slot_list_append PySem.F.type_list_append mt_append (pv 2) (pa_cons (up_tup (ul_cons (up_var (pv 3)) (ul_cons (up_ix (up_lst (ul_cons up_int (ul_cons up_int (ul_cons up_int (ul_cons up_int (ul_cons (up_fn h__law_draw hr (by decide) (by rfl) tk (ul_cons (up_var (pv 0)) (ul_cons up_int ul_nil))) (ul_cons (up_op op_subU (up_op op_powU up_int up_int) up_int) ul_nil))))))) (up_fn h__law_draw hr (by decide) (by rfl) tk (ul_cons (up_var (pv 0)) (ul_cons up_int ul_nil)))) ul_nil))) pa_nil))))) ub_nil) (ub_one (us_set (i := 3) sc__law_policy.nd rfl (Or.inl rfl) (up_op op_addU (up_op op_addU (up_var (pv 3)) up_int) (up_fn h__law_draw hr (by decide) (by rfl) tk (ul_cons (up_var (pv 0)) (ul_cons up_int ul_nil)))))))) (ub_one (us_thaw (i := 2) (us_ret (up_tup (ul_cons up_str (ul_cons (up_callTy call_tupleU (by rfl) T.n_tuple boot_tuple (ul_cons (up_var (pv 2)) ul_nil)) ul_nil)))))))))))))), pure__law_policy⟩
theorem sc__law_words : FnScope ["_law_rule", "_law_found", "_law_one", "_law_two"] ["_law_rule"] (defScope s__law_words) := ⟨rfl, rfl, rfl, by decide +kernel, rfl, by decide +kernel, by decide +kernel⟩
theorem ok__law_words (T : Txt K mg) : Fn P w K mg base 1 "_law_words" s__law_words ["_law_rule"] sp__law_words := by
  obtain ⟨fd, F⟩ := T.F__law_words
  refine fn_mk (k := 0) F T.g__law_words sc__law_words (F.bindsN fun _ _ _ _ _ _ us hl => match us, hl with | [_], _ => rfl) len__law_words ?_
  intro cdv A outer s H E O0 pen PX hr tk
  have hu := hu_of hr
  exact ⟨u__law_words (Wd pen PX), (ub_cons (us_if (ut_cmp (op_eqV hu) (up_ix (up_var (pv 0)) up_int) up_str (nomark _)) (ub_one (us_ret (up_op op_addU up_str (up_callTy call_strU (by rfl) T.n_str boot_str (ul_cons (up_ix (up_var (pv 0)) up_int) ul_nil))))) ub_nil) (ub_cons (us_if (ut_cmp (op_eqV hu) (up_ix (up_var (pv 0)) up_int) up_str (nomark _)) (ub_one (us_ret (up_op op_addU (up_op op_addU (up_op op_addU up_str (up_callTy call_strU (by rfl) T.n_str boot_str (ul_cons (up_ix (up_var (pv 0)) up_int) ul_nil))) up_str) (up_callTy call_strU (by rfl) T.n_str boot_str (ul_cons (up_ix (up_var (pv 0)) up_int) ul_nil))))) ub_nil) (ub_cons (us_set (i := 1) sc__law_words.nd rfl (Or.inl rfl) (up_ix (up_var (pv 0)) up_int)) (ub_cons (us_if (ut_cmp (op_eqV hu) (up_ix (up_var (pv 0)) up_int) up_str (nomark _)) (ub_one (us_for (passes_of rfl) rfl (ui_seq (up_ix (up_var (pv 0)) up_int)) (ug_tup (is := [2, 3]) (pg_tup rfl (pgs_cons (pg_name (i := 2) sc__law_words.nd rfl (Or.inl rfl)) (pgs_cons (pg_name (i := 3) sc__law_words.nd rfl (Or.inl rfl)) pgs_nil)))) (ub_one (us_set (i := 1) sc__law_words.nd rfl (Or.inl rfl) (up_op op_addU (up_op op_addU (up_op op_addU (up_op op_addU (up_var (pv 1)) up_str) (up_callTy call_strU (by rfl) T.n_str boot_str (ul_cons (up_var (pv 2)) ul_nil))) up_str) (up_callTy call_strU (by rfl) T.n_str boot_str (ul_cons (up_var (pv 3)) ul_nil))))))) ub_nil) (ub_one (us_ret (up_var (pv 1)))))))), pure__law_words⟩
theorem sc__law_is_right : FnScope ["_law_rule", "_law_due", "_law_time"] ["_law_rule"] (defScope s__law_is_right) := ⟨rfl, rfl, rfl, by decide +kernel, rfl, by decide +kernel, by decide +kernel⟩
theorem kb__law_is_right_0 : KBS "policy_text" s_policy_text ["policy"] ["policy"] 0 1 [0] := fun _ _ _ _ _ _ us ws h1 h2 => match us, ws, h1, h2 with | [], [_], _, _ => rfl
theorem kb__law_is_right_1 : KBS "read_policy" s_read_policy ["text"] ["text"] 0 1 [0] := fun _ _ _ _ _ _ us ws h1 h2 => match us, ws, h1, h2 with | [], [_], _, _ => rfl
theorem ok__law_is_right (T : Txt K mg) : Fn P w K mg base 6 "_law_is_right" s__law_is_right ["_law_rule"] sp__law_is_right := by
  have h__law_words := ok__law_words T (P := P) (w := w) (base := base)
  have h_policy_text := ok_policy_text T (P := P) (w := w) (base := base)
  have h_read_policy := ok_read_policy T (P := P) (w := w) (base := base)
  obtain ⟨fd, F⟩ := T.F__law_is_right
  refine fn_mk (k := 5) F T.g__law_is_right sc__law_is_right (F.bindsN fun _ _ _ _ _ _ us hl => match us, hl with | [_], _ => rfl) len__law_is_right ?_
  intro cdv A outer s H E O0 pen PX hr tk
  have hu := hu_of hr
  exact ⟨u__law_is_right (Wd pen PX), (ub_cons (us_set (i := 1) sc__law_is_right.nd rfl (Or.inl rfl) (up_fn h__law_words hr (by decide) (by rfl) tk (ul_cons (up_var (pv 0)) ul_nil))) (ub_cons (us_for (passes_of rfl) rfl (ui_rng1 (by rfl) T.n_range (ul_cons up_int ul_nil)) (ug_name (pg_name (i := 2) sc__law_is_right.nd rfl (Or.inl rfl))) (ub_one (us_if (PW.pt (uw_or (ut_cmp (op_neU hu) (up_callB (call_reprU hr) (by rfl) T.n_repr boot_repr (ul_cons (up_fn h_policy_text hr (by decide) (by rfl) tk (ul_cons (up_var (pv 0)) ul_nil)) ul_nil)) (up_callB (call_reprU hr) (by rfl) T.n_repr boot_repr (ul_cons (up_var (pv 1)) ul_nil)) (nomark _)) (uw_or1 (ut_cmp (op_neU hu) (up_callB (call_reprU hr) (by rfl) T.n_repr boot_repr (ul_cons (up_fn h_read_policy hr (by decide) (by rfl) tk (ul_cons (up_var (pv 1)) ul_nil)) ul_nil)) (up_callB (call_reprU hr) (by rfl) T.n_repr boot_repr (ul_cons (up_var (pv 0)) ul_nil)) (nomark _))))) (ub_one (us_ret up_bl)) ub_nil))) (ub_one (us_ret (up_and (up_cmp (op_eqV hu) (up_fnK0 h_policy_text hr (by decide) (by rfl) tk kb__law_is_right_0 (uk_cons (up_var (pv 0)) uk_nil)) (up_var (pv 1)) (nomark _)) (up_one (up_cmp (op_eqV hu) (up_callB (call_reprU hr) (by rfl) T.n_repr boot_repr (ul_cons (up_fnK0 h_read_policy hr (by decide) (by rfl) tk kb__law_is_right_1 (uk_cons (up_var (pv 1)) uk_nil)) ul_nil)) (up_callB (call_reprU hr) (by rfl) T.n_repr boot_repr (ul_cons (up_var (pv 0)) ul_nil)) (nomark _)))))))), pure__law_is_right⟩
theorem sc_law : FnScope ["_law_script", "_law_pen_here", "_law_turn", "_law_full", "_law_rule", "_law_k"] ["_law_script"] (defScope s_law) := ⟨rfl, rfl, rfl, by decide +kernel, rfl, by decide +kernel, by decide +kernel⟩
theorem ok_law (T : Txt K mg) {fd : FuncData} (F : F_law K fd) : FnG P w K mg base 7 (He.fAd K ("law", none)) fd ["_law_script"] (spLaw K) := by
  have h__law_draw := ok__law_draw T (P := P) (w := w) (base := base)
  have h__law_is_right := ok__law_is_right T (P := P) (w := w) (base := base)
  have h__law_policy := ok__law_policy T (P := P) (w := w) (base := base)
  have h_policy_text := ok_policy_text T (P := P) (w := w) (base := base)
  have h_read_policy := ok_read_policy T (P := P) (w := w) (base := base)
  obtain ⟨fp, Gp, bp, kp⟩ := ok__law_pen T (P := P) (w := w) (base := base)
  refine law_mk (k := 6) (i := 1) F sc_law (by rfl) (by decide) (by decide) ?_
  intro cdv A outer s H E hr

  have hu := hu_of hr
  exact ⟨u_law W0, fun σ => WE (LW K (fun _ => False) H W0) σ, ps_set (i := 1) sc_law.nd rfl (Or.inr rfl) (pe_callG Gp (hr.mono (by decide)) (by rfl) T.g__law_pen kp bp (passAt takesN) (pa_cons (pv 0) pa_nil)),
    fun O0 H0 => (ub_cons (us_for (passes_of rfl) rfl (ui_rng1 (by rfl) T.n_range (ul_cons up_int ul_nil)) (ug_name (pg_name (i := 2) sc_law.nd rfl (Or.inl rfl))) (ub_one (us_if (ut_not (ut_tru (up_fn h__law_is_right hr (by decide) (by rfl) takesN (ul_cons (up_fn h__law_policy hr (by decide) (by rfl) takesN (ul_cons (up_var (pv 1)) ul_nil)) ul_nil)) (fun _ => rfl))) (ub_one (us_ret up_bl)) ub_nil))) (ub_cons (us_set (i := 3) sc_law.nd rfl (Or.inl rfl) (up_callTy call_tupleU (by rfl) T.n_tuple boot_tuple (ul_cons (uf_val (uf_comp (own := [("_law_k", 5)]) (g := ugN 5) rfl sc_law.nd (ui_rng1 (by rfl) T.n_range (ul_cons up_int ul_nil)) (blkOk_by (by kernel_rfl)) (gok_name (by decide)) (fun _ _ _ _ _ => pg_name (i := 5) sc_law.nd rfl (Or.inl rfl)) (fun _ _ _ _ _ => uts_nil) (fun _ _ _ _ _ _ => (up_tup (ul_cons (up_var (pv 5)) (ul_cons (up_op op_subU (up_op op_subU (up_op op_powU up_int up_int) up_int) (up_op op_mulU (up_var (pv 5)) (up_fn h__law_draw hr (by decide) (by rfl) takesN (ul_cons (up_var (pv 1)) (ul_cons (up_op op_powU up_int up_int) ul_nil))))) ul_nil)))))) ul_nil))) (ub_cons (us_for (passes_of rfl) rfl (ui_seq (up_lst (ul_cons (up_tup (ul_cons up_str (ul_cons (up_var (pv 3)) ul_nil))) (ul_cons (up_tup (ul_cons up_str (ul_cons (up_tup ul_nil) ul_nil))) (ul_cons (up_tup (ul_cons up_str (ul_cons up_int (ul_cons up_int ul_nil)))) (ul_cons (up_tup (ul_cons up_str (ul_cons up_int (ul_cons up_int ul_nil)))) (ul_cons (up_tup (ul_cons up_str (ul_cons (up_op op_powU up_int up_int) ul_nil))) ul_nil))))))) (ug_name (pg_name (i := 4) sc_law.nd rfl (Or.inl rfl))) (ub_one (us_if (ut_not (ut_tru (up_fn h__law_is_right hr (by decide) (by rfl) takesN (ul_cons (up_var (pv 4)) ul_nil)) (fun _ => rfl))) (ub_one (us_ret up_bl)) ub_nil))) (ub_one (us_ret (up_and (up_cmp (op_eqV hu) (up_fn h_policy_text hr (by decide) (by rfl) takesN (ul_cons (up_tup (ul_cons up_str (ul_cons (up_tup (ul_cons (up_tup (ul_cons up_int (ul_cons up_int ul_nil))) (ul_cons (up_tup (ul_cons up_int (ul_cons up_int ul_nil))) ul_nil))) ul_nil))) ul_nil)) up_str (nomark _)) (up_one (up_cmp (op_eqV hu) (up_fn h_read_policy hr (by decide) (by rfl) takesN (ul_cons up_str ul_nil)) (up_tup (ul_cons up_str ul_nil)) (nomark _))))))))), pure_law⟩
end
end Lw

set_option Elab.async false
set_option linter.all false
set_option maxRecDepth 100000
set_option maxHeartbeats 0
open PySem PySem.W PySem.Calls PyProof.Rows
theorem PySem.Challenge.cw_growblind_k67_policies_written_and_read_holds : PySem.Challenge.rw_growblind_k67_policies_written_and_read.Holds := by
  w_on; o_law
  refine HandSHeadRun.head_any (r := OpenLaw.row PySem.Challenge.rw_growblind_k67_policies_written_and_read) (q := view (OpenLaw.row PySem.Challenge.rw_growblind_k67_policies_written_and_read).prog [30]) (H := Lw.hk) (ob := Lw.ob) (M := 4000) (loose := Lw.loose_) (d := HandSHeadRun.topDef (OpenLaw.row PySem.Challenge.rw_growblind_k67_policies_written_and_read).prog 30) (kwd := []) Lw.ob_eq
    (by kernel_rfl) (fun s => by kernel_rfl) Lw.run (by kernel_rfl) (by kernel_rfl) (by kernel_rfl) (by rfl) (by first | assumption | decide +kernel) (by decide +kernel) ⟨rfl, rfl, rfl, rfl, rfl, by decide +kernel⟩ ?hw ?hc
  case hw => w_witness2
  case hc =>
    refine U.walkG (l := PySem.Challenge.rw_growblind_k67_policies_written_and_read) (n := 63) (k := 7) (x := "_law_script") rfl (by decide) (by kernel_rfl) ⟨⟨rfl, by decide, by decide⟩, rfl⟩ ?F
    intro w mg fa h Y G hmg0
    obtain ⟨K, KX, c⟩ := Y
    have hmg : mg ("law" : PySem.Str) = some (.ref fa) := by
      have e : (HandSHeadRun.topDef (OpenLaw.row PySem.Challenge.rw_growblind_k67_policies_written_and_read).prog 30).name = ("law" : PySem.Str) := by kernel_rfl
      rw [← e]
      exact hmg0
    have T := Lw.txt_of KX G c
    have ef := hmg.symm.trans T.g_law
    cases ef
    obtain ⟨fd, F⟩ := T.F_law
    have b := L2.FunD.bindsA (ps := ["_law_script"]) F fun _ _ _ _ _ _ us hl => match us, hl with | [_], _ => rfl
    refine ⟨K, fd, U.spLaw K, KX, fun s v => b s [v] rfl, fun H a ns hl _ hS => ⟨a, ns, rfl, hS, hl, fun _ => rfl⟩, fun base _ _ => Lw.ok_law T F⟩


