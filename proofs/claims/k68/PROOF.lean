import PyProof.Rows.All
import Wide.All
import OpenK.AllK
import Wide.FinOn
import PyProof.EqAt
import PyProof.EqKinds
import PyProof.TupleCall
import HandS.ForMost
import HandS.ForExc
import HandS.Defaults
import HandS.HeadHook1
import HandS.HeadHook4
import HandS.Lambda
import HandS.TupAny
import HandS.TupMul
import HandS.IsInst
import HandS.Wide
import HandS.TupLe
import HandS.CallSlots
import HandS.Flow
import HandS.HeadHook2
import PyProof.ReprRoads
import PyProof.P3Eq
import PyProof.P3In
import KE.KRevSl
import HandS.Style
import HandS.Head0
import HandS.Head1
import HandS.Head2
import HandS.HeadEnd
import PyProof.StrLawsRepr
import PyProof.FitsInt
import KE.GoesEnum
import HandS.ExcIs
import HandS.ExcValue
import HandS.ExcField
import HandS.ExcBuiltin
import HandS.Dict
import HandS.Iter
import HandS.SortRule
import HandS.HeadHook3
import HandS.FStr
import HandS.Text
import HandS.RaiseMore
import HandS.StrMore
import HandS.ExcInit
import KE.KExcInit
import HandS.EndTab
import PyProof.RulesRaise
import PyProof.FactsTree
import HandS.More
import HandS.Small
import HandS.ListItems
import HandS.Zip
import HandS.DictTup
import HandS.MakeKwOnly
import HandS.DictComp
import KE.KMinKey
import HandS.SortKw
import HandS.Set
import HandS.SetFor
import HandS.Strs
import KE.KStateDown
import PySem.Challenge.RW_growblind_k68_texts_of_no_policy
set_option Elab.async false
set_option linter.all false
set_option maxRecDepth 100000
set_option maxHeartbeats 4000000
/-! Calls of defs whose surroundings hold no guard (repr asks for that), and the law's own call. -/
namespace U
open PySem PySem.Spec L2
open PyProof.Rows hiding St

structure RG (k : Nat) (A : Around) : Prop where
  room : Room k A
  gd : A.guards = some []
theorem RG.mono {j k : Nat} {A : Around} (r : RG k A) (h : j ≤ k) : RG j A := ⟨r.room.mono h, r.gd⟩
theorem RG.deep {k : Nat} {A : Around} {env : Env} (r : RG (k + 1) A) : RG k (A.deeper env) := ⟨r.room.deeper env, r.gd⟩

structure FnG (P : Program) (w : World) (K : PySem.W.Frag) (mg : Str → Option Value) (base : Heap)
    (k : Nat) (f : Addr) (fd : FuncData) (ps : List Str) (sp : Sp) : Prop where
  len : ∀ vs H Q E, sp vs H Q E → vs.length = ps.length
  run : ∀ (A : Around) (outer : List Env) (s : Shared) (H : Hp) (args : Args)
    (us : List Value) (vs : List V) (Q : VK) (E : XK),
    RG k A → Env0 P w K mg base A outer s H → BindsTo s fd args (ps.zip us) →
    Vals vs us → sp vs H Q E →
    codeAny (model P w) A (.call (.ref f) args) (CR (L2.CX P w) outer P w H s Q E) s

section
variable {P : Program} {w : World} {K : PySem.W.Frag} {mg : Str → Option Value} {base : Heap}
theorem FnG.mono {j k : Nat} {f : Addr} {fd : FuncData} {ps : List Str} {sp : Sp}
    (F : FnG P w K mg base j f fd ps sp) (h : j ≤ k) : FnG P w K mg base k f fd ps sp :=
  ⟨F.len, fun A outer s H args us vs Q E hr => F.run A outer s H args us vs Q E (hr.mono h)⟩
theorem FnG.imp {k : Nat} {f : Addr} {fd : FuncData} {ps : List Str} {sp sp' : Sp}
    (F : FnG P w K mg base k f fd ps sp) (h : ∀ vs H Q E, sp' vs H Q E → sp vs H Q E) :
    FnG P w K mg base k f fd ps sp' :=
  ⟨fun vs H Q E q => F.len vs H Q E (h _ _ _ _ q),
   fun A outer s H args us vs Q E hr he hb hv hs => F.run A outer s H args us vs Q E hr he hb hv (h _ _ _ _ hs)⟩

/-- a def of the text by its body -/
theorem fnG_mk {x qual : Str} {params : Arguments} {body : List Stmt} {scope : Scope} {dvs : List V} {kws : List (Str × V)} {f : Addr} {fd : FuncData} {N ps : List Str} {k : Nat} {sp : Sp}
    (F : FunD K x qual params body scope dvs kws f fd) (S : FnScope N ps scope)
    (len : ∀ vs H Q E, sp vs H Q E → vs.length = ps.length)
    (hbody : ∀ (cdv : Value) (A : Around) (outer : List Env) (s : Shared) (H : Hp) (vs : List V) (Q : VK) (E : XK),
      RG k (A.deeper (envOfC qual scope s.heap.objs.size f cdv)) → sp vs H Q E →
      ∃ t, PSs (cxOf (L2.CX P w) P w K mg base N qual scope f cdv A outer s H E) body t ∧
        t { nx := fun _ H' => Q .non H', rt := Q } (start N vs) H) :
    FnG P w K mg base (k + 1) f fd ps sp := by
  obtain ⟨oc, od, dV, kV, doc, pm, an, cdv, ct, osl, rfl, lk, hcd, _, _⟩ := F.ex
  refine ⟨len, ?_⟩
  intro A outer s H args us vs Q E hr e0 hb r hsp
  have up : ∀ b o, base.get? b = some o → s.heap.get? b = some o := fun b o e => (e0.bs b o e).1
  have KX : K.In s.heap := e0.mod.kin.keeps up
  have lim := e0.mod.nolimit.keeps up
  refine codeAny_call_function hr.room.depth (KX _ _ lk) rfl S.co S.gen rfl (PySem.W.codeRec_of KX hcd)
    (hb _ _ _ _ (wpAny_newFunctionEnv_cells S.kind ?_ ?_))
  · rintro ⟨n, v⟩ hy
    have hn := (List.of_mem_zip hy).1
    cases S.par n hn with
    | inl q => exact Or.inl q
    | inr q => exact Or.inr ⟨q, PySem.W.cellsFrom_some _ _ _ (Or.inl q)⟩
  · rintro env rfl s1 x
    obtain ⟨t, ht, hq⟩ := hbody cdv A outer s H vs Q E hr.deep hsp
    have I := inv_start (CX := L2.CX P w) (E := E) S hr.room.hd e0 (len _ _ _ _ hsp) r x
    refine ⟨lim.keeps x.toInCall.keep, codeAny_func (wpAny_mono (ht.run [] s1 _ H _ I hq) ?_ (fun _ _ z => z))⟩
    intro fl s' hs
    cases fl with
    | brk => exact hs.elim fun _ z => z.elim fun _ z => z.2.elim
    | cont => exact hs.elim fun _ z => z.elim fun _ z => z.2.elim
    | ret u =>
      obtain ⟨v, _, H', J, rv, q⟩ := hs
      exact ⟨v, H', J.os, J.bare, J.base, J.hok, rv, q⟩
    | next =>
      obtain ⟨_, H', J, q⟩ := hs
      exact ⟨V.non, H', J.os, J.bare, J.base, J.hok, rfl, q⟩
end

section
variable {X : Cx} {k : Nat} {f C : Addr} {fd : FuncData} {ps : List Str} {sp : Sp} {E : St → XK}
/-- the callee runs -/
theorem run_fnG {pins : List (Addr × Obj)} {σ : St} {H : Hp} {s : Shared} {Q : VK} {vs : List V}
    {args : Args} {us' : List Value}
    (F : FnG X.prog X.w X.K X.mg X.base k f fd ps sp) (hr : RG k X.A)
    (hx : PassesAt (L2.CX X.prog X.w) X σ (E σ)) (I : Inv X pins σ H s)
    (hb : BindsTo s fd args (ps.zip us')) (r : Vals vs us') (h : sp vs H Q (E σ)) :
    wpAny (model X.prog X.w) X.A (PySem.call (.ref f) args.pos args.kw) (EP X pins σ Q) X.xe s := by
  refine wpAny_call (codeAny_mono (F.run X.A X.stack s H args us' vs Q (E σ) hr I.env0 hb r h) ?_)
  intro r s' hq
  match r, hq with
  | .error e, hq => exact hx pins H s e s' I hq
  | .ok (.ret u), hq => exact I.after hq
  | .ok .next, hq => exact False.elim hq
  | .ok .brk, hq => exact False.elim hq
  | .ok .cont, hq => exact False.elim hq
end
end U

set_option Elab.async false
set_option linter.all false
set_option maxRecDepth 100000
set_option maxHeartbeats 4000000
/-! The law's own call, from the promise of its def. -/
namespace U
open PySem PySem.Spec L2
open PyProof.Rows hiding St

end U

set_option Elab.async false
set_option linter.all false
set_option maxRecDepth 100000
set_option maxHeartbeats 4000000
/-! Values as data, without addresses. -/
namespace U
open PySem PySem.Spec L2
open PyProof.Rows hiding St

/-- a class by its name: the module's own, a built-in one -/
inductive Cn where | own (x : Str) | blt (n : String)
deriving DecidableEq
def Cn.val (K : PySem.W.Frag) : Cn → Value
  | .own x => .ref (He.ga K x)
  | .blt n => .type n
/-- data; ref: an object that is known by its address alone; exc: a caught exception, its class and its fields; cls: a class of the module -/
inductive D where
  | non | bl (b : Bool) | int (i : Int) | str (x : Str) | lst (ds : List D) | tup (ds : List D)
  | dic (kvs : List (Key × D)) | ref (a : Addr) | ty (n : String) | exc (c : Cn) (fs : List (Str × D)) | cls (x : Str)
/-- an exception object of the class cls with the dict d, at a -/
def ExH (cls : Value) (d : Option Addr) (a : Addr) : HO := .ext fun h => ∃ (oe : Obj) (vs : Array Value), h.get? a = some oe ∧ Zc cls d oe ∧ oe.data = .fields vs
theorem exH_ok {P : Program} {w : World} {H : Hp} {h : Heap} {a : Addr} {cls : Value} {d : Option Addr} {oe : Obj} {vs : Array Value} (e : h.get? a = some oe) (z : Zc cls d oe) (dt : oe.data = .fields vs) : ObjOk P w H h a (ExH cls d a) :=
  ⟨⟨oe, vs, e, z, dt⟩, ⟨oe, e⟩, fun _ _ ⟨o, v, q, r⟩ k => ⟨o, v, k o q, r⟩⟩

abbrev Ad := Addr → Prop
/-- a tuple of the module's written part -/
def KT (K : PySem.W.Frag) (a : Addr) (xs : List V) : Prop :=
  ∃ (o : Obj) (its : Array Value) (n : Nat), K.lookup a = some o ∧ o.cls = .type "tuple" ∧ o.data = .seq its n ∧ its.size ≤ sizeLine ∧ Vals xs its.toList
def Lk (O : Ad) (H : Hp) (a : Addr) (xs : List V) : Prop := ¬ O a ∧ H a = some (.lst xs)
def Tk (K : PySem.W.Frag) (O : Ad) (H : Hp) (a : Addr) (xs : List V) : Prop := (¬ O a ∧ H a = some (.tup xs)) ∨ KT K a xs

mutual
/-- v stands for the data d; nothing of it may be written: no address of O is met -/
inductive Rp (K : PySem.W.Frag) (O : Ad) (H : Hp) : V → D → Prop
  | non : Rp K O H .non .non
  | bl (b : Bool) : Rp K O H (.bl b) (.bl b)
  | int (i : Int) : Rp K O H (.int i) (.int i)
  | str (x : Str) : Rp K O H (.str x) (.str x)
  | ty (n : String) : Rp K O H (.ty n) (.ty n)
  | ref (a : Addr) : Rp K O H (.ref a) (.ref a)
  | lst {a : Addr} {xs : List V} {ds : List D} : Lk O H a xs → RpA K O H xs ds → Rp K O H (.ref a) (.lst ds)
  | tup {a : Addr} {xs : List V} {ds : List D} : Tk K O H a xs → RpA K O H xs ds → Rp K O H (.ref a) (.tup ds)
  | dic {a : Addr} {o : Obj} {kvs : List (Key × V)} {es : List (Key × D)} : ¬ O a → H a = some (.frz o (.dK kvs)) → RpK K O H kvs es → Rp K O H (.ref a) (.dic es)
  | exc {a : Addr} {c : Cn} : ¬ O a → H a = some (ExH (c.val K) none a) → Rp K O H (.ref a) (.exc c [])
  | excf {a dx : Addr} {c : Cn} {vs : List (Str × V)} {fs : List (Str × D)} : ¬ O a → H a = some (ExH (c.val K) (some dx) a) → ¬ O dx → H dx = some (.xd vs) → RpF K O H vs fs → Rp K O H (.ref a) (.exc c fs)
  | cls (x : Str) : Rp K O H (.ref (He.ga K x)) (.cls x)
  | rcd {a : Addr} {kvs : List (Key × V)} {vs : List (Str × V)} {fs : List (Str × D)} : ¬ O a → H a = some (.dK kvs) → (∀ p ∈ vs, (kvs.find? fun e => decide (e.1 = .inr p.1)).map (·.2) = some p.2) → RpF K O H vs fs → Rp K O H (.ref a) (.exc (.blt "{}") fs)
inductive RpA (K : PySem.W.Frag) (O : Ad) (H : Hp) : List V → List D → Prop
  | nil : RpA K O H [] []
  | cons {v : V} {vs : List V} {d : D} {ds : List D} : Rp K O H v d → RpA K O H vs ds → RpA K O H (v :: vs) (d :: ds)
inductive RpK (K : PySem.W.Frag) (O : Ad) (H : Hp) : List (Key × V) → List (Key × D) → Prop
  | nil : RpK K O H [] []
  | cons {k : Key} {v : V} {vs : List (Key × V)} {d : D} {ds : List (Key × D)} : Rp K O H v d → RpK K O H vs ds → RpK K O H ((k, v) :: vs) ((k, d) :: ds)
inductive RpF (K : PySem.W.Frag) (O : Ad) (H : Hp) : List (Str × V) → List (Str × D) → Prop
  | nil : RpF K O H [] []
  | cons {k : Str} {v : V} {vs : List (Str × V)} {d : D} {ds : List (Str × D)} : Rp K O H v d → RpF K O H vs ds → RpF K O H ((k, v) :: vs) ((k, d) :: ds)
end

section
variable {K : PySem.W.Frag} {O O' : Ad} {H H' : Hp}
/-- what data leans on stays -/
structure Keeps (O O' : Ad) (H H' : Hp) : Prop where
  hp : ∀ b o, H b = some o → ¬ O b → H' b = some o
  ow : ∀ b o, H b = some o → ¬ O b → ¬ O' b
theorem Lk.keep {a : Addr} {xs : List V} (k : Keeps O O' H H') (h : Lk O H a xs) : Lk O' H' a xs := ⟨k.ow _ _ h.2 h.1, k.hp _ _ h.2 h.1⟩
theorem Tk.keep {a : Addr} {xs : List V} (k : Keeps O O' H H') (h : Tk K O H a xs) : Tk K O' H' a xs := h.imp (fun h => ⟨k.ow _ _ h.2 h.1, k.hp _ _ h.2 h.1⟩) id
mutual
theorem Rp.keep (k : Keeps O O' H H') : ∀ {v : V} {d : D}, Rp K O H v d → Rp K O' H' v d
  | _, _, .non => .non
  | _, _, .bl b => .bl b
  | _, _, .int i => .int i
  | _, _, .str x => .str x
  | _, _, .ty n => .ty n
  | _, _, .ref a => .ref a
  | _, _, .lst h r => .lst (h.keep k) (RpA.keep k r)
  | _, _, .tup h r => .tup (h.keep k) (RpA.keep k r)
  | _, _, .dic n h r => .dic (k.ow _ _ h n) (k.hp _ _ h n) (RpK.keep k r)
  | _, _, .exc n h => .exc (k.ow _ _ h n) (k.hp _ _ h n)
  | _, _, .excf n h n2 h2 r => .excf (k.ow _ _ h n) (k.hp _ _ h n) (k.ow _ _ h2 n2) (k.hp _ _ h2 n2) (RpF.keep k r)
  | _, _, .rcd n h q r => .rcd (k.ow _ _ h n) (k.hp _ _ h n) q (RpF.keep k r)
  | _, _, .cls x => .cls x
theorem RpA.keep (k : Keeps O O' H H') : ∀ {vs : List V} {ds : List D}, RpA K O H vs ds → RpA K O' H' vs ds
  | _, _, .nil => .nil
  | _, _, .cons h r => .cons (Rp.keep k h) (RpA.keep k r)
theorem RpK.keep (k : Keeps O O' H H') : ∀ {vs : List (Key × V)} {ds : List (Key × D)}, RpK K O H vs ds → RpK K O' H' vs ds
  | _, _, .nil => .nil
  | _, _, .cons h r => .cons (Rp.keep k h) (RpK.keep k r)
theorem RpF.keep (k : Keeps O O' H H') : ∀ {vs : List (Str × V)} {ds : List (Str × D)}, RpF K O H vs ds → RpF K O' H' vs ds
  | _, _, .nil => .nil
  | _, _, .cons h r => .cons (Rp.keep k h) (RpF.keep k r)
end
theorem Keeps.refl : Keeps O O H H := ⟨fun _ _ h _ => h, fun _ _ _ n => n⟩
theorem Keeps.trans {O2 : Ad} {H2 : Hp} (a : Keeps O O' H H') (b : Keeps O' O2 H' H2) : Keeps O O2 H H2 :=
  ⟨fun c o h n => b.hp c o (a.hp c o h n) (a.ow c o h n), fun c o h n => b.ow c o (a.hp c o h n) (a.ow c o h n)⟩
theorem Keeps.same (s : Same H H') : Keeps O O H H' := ⟨fun b o h _ => s b o h, fun _ _ _ n => n⟩
theorem Keeps.less (h : ∀ b, O' b → O b) : Keeps O O' H H := ⟨fun _ _ h _ => h, fun b _ _ n z => n (h b z)⟩
theorem Lk.sq {a : Addr} {xs : List V} (h : Lk O H a xs) : SqL K H a xs := .of h.2
theorem Tk.sq {a : Addr} {xs : List V} (h : Tk K O H a xs) : SqT K H a xs := h.imp (fun h => .inl h.2) id
theorem RpA.length {vs : List V} {ds : List D} (h : RpA K O H vs ds) : vs.length = ds.length := by
  induction ds generalizing vs with
  | nil => cases h; rfl
  | cons d ds ih => cases h with
    | cons a b => rw [List.length_cons, List.length_cons, ih b]
theorem RpA.get {vs : List V} {ds : List D} {i : Nat} {d : D} (h : RpA K O H vs ds) (e : ds[i]? = some d) : ∃ v, vs[i]? = some v ∧ Rp K O H v d := by
  induction ds generalizing vs i with
  | nil => simp at e
  | cons x ds ih => cases h with
    | cons a b => cases i with
      | zero =>
        cases (Option.some.inj e)
        exact ⟨_, rfl, a⟩
      | succ i =>
        obtain ⟨v, e1, r⟩ := ih b (by simpa using e)
        exact ⟨v, by simpa using e1, r⟩
theorem RpA.got {vs : List V} {ds : List D} {i : Nat} {v : V} (h : RpA K O H vs ds) (e : vs[i]? = some v) : ∃ d, ds[i]? = some d ∧ Rp K O H v d := by
  induction ds generalizing vs i with
  | nil => cases h; simp at e
  | cons x ds ih => cases h with
    | cons a b => cases i with
      | zero =>
        cases (Option.some.inj e)
        exact ⟨_, rfl, a⟩
      | succ i =>
        obtain ⟨d, e1, r⟩ := ih b (by simpa using e)
        exact ⟨d, by simpa using e1, r⟩
theorem RpA.append {vs ws : List V} {ds es : List D} (h : RpA K O H vs ds) (g : RpA K O H ws es) : RpA K O H (vs ++ ws) (ds ++ es) := by
  induction ds generalizing vs with
  | nil => cases h; exact g
  | cons d ds ih => cases h with
    | cons a b => exact .cons a (ih b)
theorem RpA.take {vs : List V} {ds : List D} (n : Nat) (h : RpA K O H vs ds) : RpA K O H (vs.take n) (ds.take n) := by
  induction ds generalizing vs n with
  | nil => cases h; rw [List.take_nil, List.take_nil]; exact .nil
  | cons d ds ih => cases h with
    | cons a b => cases n with
      | zero => exact .nil
      | succ n => exact .cons a (ih n b)
theorem RpA.drop {vs : List V} {ds : List D} (n : Nat) (h : RpA K O H vs ds) : RpA K O H (vs.drop n) (ds.drop n) := by
  induction ds generalizing vs n with
  | nil => cases h; rw [List.drop_nil, List.drop_nil]; exact .nil
  | cons d ds ih => cases h with
    | cons a b => cases n with
      | zero => exact .cons a b
      | succ n => exact ih n b
theorem RpA.set {vs : List V} {ds : List D} {v : V} {d : D} (j : Nat) (h : RpA K O H vs ds) (g : Rp K O H v d) : RpA K O H (vs.set j v) (ds.set j d) := by
  induction ds generalizing vs j with
  | nil => cases h; exact .nil
  | cons x ds ih => cases h with
    | cons a b => cases j with
      | zero => exact .cons g b
      | succ j => exact .cons a (ih j b)
theorem RpA.reverse {vs : List V} {ds : List D} (h : RpA K O H vs ds) : RpA K O H vs.reverse ds.reverse := by
  induction ds generalizing vs with
  | nil => cases h; exact .nil
  | cons d ds ih => cases h with
    | cons a b =>
      rw [List.reverse_cons, List.reverse_cons]
      exact (ih b).append (.cons a .nil)
theorem RpA.rep {vs : List V} {ds : List D} (h : RpA K O H vs ds) : ∀ n : Nat, RpA K O H (List.replicate n vs).flatten (List.replicate n ds).flatten
  | 0 => .nil
  | n + 1 => h.append (RpA.rep h n)
theorem RpA.one {v : V} {d : D} (h : Rp K O H v d) : RpA K O H [v] [d] := .cons h .nil
end

/-! ### the frame's slots as data -/
/-- what nobody else holds: a list, a dict -/
inductive OC where | l (ds : List D) | d (es : List (Key × D))
instance : Coe (List D) OC := ⟨OC.l⟩
/-- own a c: an object at a that nobody else holds; tre as d: a tree of objects of one's own, with the content d; as: where they may stand -/
structure TrA where
  rt : Addr
  as : List Addr
instance : Membership Addr TrA := ⟨fun t b => b ∈ t.as⟩
inductive Sl where | emp | dat (d : D) | own (a : Addr) (c : OC) | tre (as : TrA) (d : D)
def Sl.adr : Sl → List Addr
  | .own a _ => [a]
  | .tre as _ => as.as
  | _ => []
def OwnC (K : PySem.W.Frag) (O : Ad) (H : Hp) (a : Addr) : OC → Prop
  | .l ds => ∃ xs, H a = some (.lst xs) ∧ RpA K O H xs ds
  | .d es => ∃ kvs, H a = some (.dK kvs) ∧ RpK K O H kvs es
theorem OwnC.keep {K : PySem.W.Frag} {O O' : Ad} {H H' : Hp} {a : Addr} {c : OC} (k : Keeps O O' H H') (ha : ∀ o, H a = some o → H' a = some o) (h : OwnC K O H a c) : OwnC K O' H' a c := by
  cases c with
  | l ds => exact let ⟨xs, h1, h2⟩ := h; ⟨xs, ha _ h1, h2.keep k⟩
  | d es => exact let ⟨xs, h1, h2⟩ := h; ⟨xs, ha _ h1, RpK.keep k h2⟩
theorem OwnC.some {K : PySem.W.Frag} {O : Ad} {H : Hp} {a : Addr} {c : OC} (h : OwnC K O H a c) : ∃ o, H a = some o := by
  cases c with
  | l ds => exact let ⟨_, h1, _⟩ := h; ⟨_, h1⟩
  | d es => exact let ⟨_, h1, _⟩ := h; ⟨_, h1⟩
mutual
/-- no list within -/
def D.noL : D → Bool
  | .lst _ => false
  | .dic _ => false
  | .exc _ _ => false
  | .tup ds => D.noLs ds
  | _ => true
def D.noLs : List D → Bool
  | [] => true
  | d :: ds => D.noL d && D.noLs ds
end
/-! ### trees of objects of one's own -/
mutual
/-- v stands for d; the lists, dicts and objects of it are one's own, they stand at as, each once -/
inductive Nt (K : PySem.W.Frag) (O : Ad) (H : Hp) : List Addr → V → D → Prop
  | leaf {v : V} {d : D} : D.noL d = true → Rp K O H v d → Nt K O H [] v d
  | lst {as : List Addr} {a : Addr} {vs : List V} {ds : List D} : H a = some (.lst vs) → NtA K O H as vs ds → a ∉ as → Nt K O H (a :: as) (.ref a) (.lst ds)
  | tup {as : List Addr} {a : Addr} {vs : List V} {ds : List D} : Tk K O H a vs → NtA K O H as vs ds → Nt K O H as (.ref a) (.tup ds)
  | dic {as : List Addr} {a : Addr} {kvs : List (Key × V)} {es : List (Key × D)} : H a = some (.dK kvs) → NtK K O H as kvs es → a ∉ as → Nt K O H (a :: as) (.ref a) (.dic es)
  | obj {as : List Addr} {a dx : Addr} {x : Str} {vs : List (Str × V)} {fs : List (Str × D)} : H a = some (.ins (He.ga K x) dx vs) → H dx = some (.own a) → NtF K O H as vs fs → a ≠ dx → a ∉ as → dx ∉ as → Nt K O H (a :: dx :: as) (.ref a) (.exc (.own x) fs)
inductive NtA (K : PySem.W.Frag) (O : Ad) (H : Hp) : List Addr → List V → List D → Prop
  | nil : NtA K O H [] [] []
  | cons {as bs : List Addr} {v : V} {vs : List V} {d : D} {ds : List D} : Nt K O H as v d → NtA K O H bs vs ds → (∀ b ∈ as, b ∉ bs) → NtA K O H (as ++ bs) (v :: vs) (d :: ds)
inductive NtK (K : PySem.W.Frag) (O : Ad) (H : Hp) : List Addr → List (Key × V) → List (Key × D) → Prop
  | nil : NtK K O H [] [] []
  | cons {as bs : List Addr} {k : Key} {v : V} {vs : List (Key × V)} {d : D} {ds : List (Key × D)} : Nt K O H as v d → NtK K O H bs vs ds → (∀ b ∈ as, b ∉ bs) → NtK K O H (as ++ bs) ((k, v) :: vs) ((k, d) :: ds)
inductive NtF (K : PySem.W.Frag) (O : Ad) (H : Hp) : List Addr → List (Str × V) → List (Str × D) → Prop
  | nil : NtF K O H [] [] []
  | cons {as bs : List Addr} {k : Str} {v : V} {vs : List (Str × V)} {d : D} {ds : List (Str × D)} : Nt K O H as v d → NtF K O H bs vs ds → (∀ b ∈ as, b ∉ bs) → NtF K O H (as ++ bs) ((k, v) :: vs) ((k, d) :: ds)
end
section
variable {K : PySem.W.Frag} {O O' : Ad} {H H' : Hp}
mutual
theorem Nt.keep (k : Keeps O O' H H') : ∀ {as : List Addr} {v : V} {d : D}, (∀ b ∈ as, ∀ o, H b = some o → H' b = some o) → Nt K O H as v d → Nt K O' H' as v d
  | _, _, _, _, .leaf h r => .leaf h (r.keep k)
  | _, _, _, ha, .lst h r n => .lst (ha _ List.mem_cons_self _ h) (NtA.keep k (fun b hb => ha b (List.mem_cons_of_mem _ hb)) r) n
  | _, _, _, ha, .tup h r => .tup (h.keep k) (NtA.keep k ha r)
  | _, _, _, ha, .dic h r n => .dic (ha _ List.mem_cons_self _ h) (NtK.keep k (fun b hb => ha b (List.mem_cons_of_mem _ hb)) r) n
  | _, _, _, ha, .obj h h2 r n n1 n2 => .obj (ha _ List.mem_cons_self _ h) (ha _ (List.mem_cons_of_mem _ List.mem_cons_self) _ h2) (NtF.keep k (fun b hb => ha b (List.mem_cons_of_mem _ (List.mem_cons_of_mem _ hb))) r) n n1 n2
theorem NtA.keep (k : Keeps O O' H H') : ∀ {as : List Addr} {v : List V} {d : List D}, (∀ b ∈ as, ∀ o, H b = some o → H' b = some o) → NtA K O H as v d → NtA K O' H' as v d
  | _, _, _, _, .nil => .nil
  | _, _, _, ha, .cons h r n => .cons (Nt.keep k (fun b hb => ha b (List.mem_append_left _ hb)) h) (NtA.keep k (fun b hb => ha b (List.mem_append_right _ hb)) r) n
theorem NtK.keep (k : Keeps O O' H H') : ∀ {as : List Addr} {v : List (Key × V)} {d : List (Key × D)}, (∀ b ∈ as, ∀ o, H b = some o → H' b = some o) → NtK K O H as v d → NtK K O' H' as v d
  | _, _, _, _, .nil => .nil
  | _, _, _, ha, .cons h r n => .cons (Nt.keep k (fun b hb => ha b (List.mem_append_left _ hb)) h) (NtK.keep k (fun b hb => ha b (List.mem_append_right _ hb)) r) n
theorem NtF.keep (k : Keeps O O' H H') : ∀ {as : List Addr} {v : List (Str × V)} {d : List (Str × D)}, (∀ b ∈ as, ∀ o, H b = some o → H' b = some o) → NtF K O H as v d → NtF K O' H' as v d
  | _, _, _, _, .nil => .nil
  | _, _, _, ha, .cons h r n => .cons (Nt.keep k (fun b hb => ha b (List.mem_append_left _ hb)) h) (NtF.keep k (fun b hb => ha b (List.mem_append_right _ hb)) r) n
end
mutual
theorem Nt.there : ∀ {as : List Addr} {v : V} {d : D}, Nt K O H as v d → ∀ b ∈ as, ∃ o, H b = some o
  | _, _, _, .leaf _ _, b, hb => by cases hb
  | _, _, _, .lst h r _, b, hb => by
    rcases List.mem_cons.mp hb with e | hb
    · exact ⟨_, by rw [e]; exact h⟩
    · exact NtA.there r b hb
  | _, _, _, .tup _ r, b, hb => NtA.there r b hb
  | _, _, _, .dic h r _, b, hb => by
    rcases List.mem_cons.mp hb with e | hb
    · exact ⟨_, by rw [e]; exact h⟩
    · exact NtK.there r b hb
  | _, _, _, .obj h h2 r _ _ _, b, hb => by
    rcases List.mem_cons.mp hb with e | hb
    · exact ⟨_, by rw [e]; exact h⟩
    · rcases List.mem_cons.mp hb with e | hb
      · exact ⟨_, by rw [e]; exact h2⟩
      · exact NtF.there r b hb
theorem NtA.there : ∀ {as : List Addr} {v : List V} {d : List D}, NtA K O H as v d → ∀ b ∈ as, ∃ o, H b = some o
  | _, _, _, .nil, b, hb => by cases hb
  | _, _, _, .cons h r _, b, hb => (List.mem_append.mp hb).elim (Nt.there h b) (NtA.there r b)
theorem NtK.there : ∀ {as : List Addr} {v : List (Key × V)} {d : List (Key × D)}, NtK K O H as v d → ∀ b ∈ as, ∃ o, H b = some o
  | _, _, _, .nil, b, hb => by cases hb
  | _, _, _, .cons h r _, b, hb => (List.mem_append.mp hb).elim (Nt.there h b) (NtK.there r b)
theorem NtF.there : ∀ {as : List Addr} {v : List (Str × V)} {d : List (Str × D)}, NtF K O H as v d → ∀ b ∈ as, ∃ o, H b = some o
  | _, _, _, .nil, b, hb => by cases hb
  | _, _, _, .cons h r _, b, hb => (List.mem_append.mp hb).elim (Nt.there h b) (NtF.there r b)
end
end
/-- a tree that stands within S -/
def NtS (K : PySem.W.Frag) (O : Ad) (H : Hp) (S : List Addr) (v : V) (d : D) : Prop := ∃ as, Nt K O H as v d ∧ ∀ b ∈ as, b ∈ S
theorem NtS.keep {K : PySem.W.Frag} {O O' : Ad} {H H' : Hp} {S : List Addr} {v : V} {d : D} (k : Keeps O O' H H') (ha : ∀ b ∈ S, ∀ o, H b = some o → H' b = some o) (h : NtS K O H S v d) : NtS K O' H' S v d :=
  let ⟨as, n, e⟩ := h
  ⟨as, n.keep k fun b hb => ha b (e b hb), e⟩
/-- the pen: its cells' address, the cells, a dict or a list; tb: the defs that make lambdas, the tables of their code objects -/
structure PenC where
  c : Addr
  ns : List Int
  dk : Bool
  tb : List (Str × Addr)
/-- the pen's address, and what it is -/
abbrev PenT := Option (Addr × PenC)
def penO (c : PenC) (t r : Int) : HO := if c.dk = true then .dK [(.inr "cells", .ref c.c), (.inr "next", .int t), (.inr "rest", .int r)] else .lst [.ref c.c, .int t, .int r]
def IsPen (pen : PenT) (b : Addr) : Prop := ∃ p c, pen = some (p, c) ∧ (b = p ∨ ∃ t ∈ c.tb, t.2 = b)
theorem isPen_p {pen : PenT} {p : Addr} {c : PenC} (e : pen = some (p, c)) : IsPen pen p := ⟨p, c, e, .inl rfl⟩
theorem isPen_t {pen : PenT} {p : Addr} {c : PenC} {t : Str × Addr} (e : pen = some (p, c)) (h : t ∈ c.tb) : IsPen pen t.2 := ⟨p, c, e, .inr ⟨t, h, rfl⟩⟩
/-- the name of a lambda of the def x -/
def lamQ (x : Str) : Str := (x ++ ".<locals>.") ++ "<lambda>"
/-- the tables: where they stand, what they tell -/
structure TbOk (K : PySem.W.Frag) (H : Hp) (c : PenC) : Prop where
  adr : ∀ t ∈ c.tb, t.2 = (He.cT K (t.1, none)).2
  inj : ∀ t ∈ c.tb, ∀ u ∈ c.tb, t.2 = u.2 → t.1 = u.1
  tabs : LamX.Tabs (c.tb.map fun t => (t.2, lamQ t.1)) H
theorem TbOk.nil {K : PySem.W.Frag} {H : Hp} {c : PenC} (h : c.tb = []) : TbOk K H c := by
  refine ⟨?_, ?_, ?_⟩
  · rw [h]; exact fun _ z => nomatch z
  · rw [h]; exact fun _ z => nomatch z
  · rw [h]; exact fun _ z => nomatch z
theorem TbOk.same {K : PySem.W.Frag} {H H' : Hp} {c : PenC} (T : TbOk K H c) (s : Same H H') : TbOk K H' c := ⟨T.adr, T.inj, T.tabs.ext s⟩
theorem TbOk.there {K : PySem.W.Frag} {H : Hp} {c : PenC} (T : TbOk K H c) {t : Str × Addr} (h : t ∈ c.tb) : ∃ ps, H t.2 = some (.tbl ps) := let ⟨ps, e, _⟩ := T.tabs _ (List.mem_map.mpr ⟨t, h, rfl⟩); ⟨ps, e⟩
/-- a change where neither a table nor a code object stands -/
theorem TbOk.upd {K : PySem.W.Frag} {H : Hp} {c : PenC} (T : TbOk K H c) {D : Addr} {o0 o : HO} (e : H D = some o0) (n1 : ∀ ps, o0 ≠ .tbl ps) (n2 : ∀ f, o0 ≠ .ext f) : TbOk K (L2.upd H D o) c := by
  refine ⟨T.adr, T.inj, fun p hp => ?_⟩
  obtain ⟨ps, h1, h2, h3⟩ := T.tabs p hp
  have ne : ∀ {b : Addr} {u : HO}, H b = some u → u ≠ o0 → b ≠ D := fun hb hu z => hu (by rw [z, e] at hb; exact (Option.some.inj hb).symm)
  refine ⟨ps, by rw [upd_ne (ne h1 fun z => n1 ps z.symm)]; exact h1, h2, fun pos cv hc => ?_⟩
  obtain ⟨c', e1, e2⟩ := h3 pos cv hc
  exact ⟨c', e1, by rw [upd_ne (ne e2 fun z => n2 _ z.symm)]; exact e2⟩
theorem TbOk.updL {K : PySem.W.Frag} {H : Hp} {c : PenC} (T : TbOk K H c) {D : Addr} {xs : List V} {o : HO} (e : H D = some (.lst xs)) : TbOk K (L2.upd H D o) c := T.upd e (fun _ z => nomatch z) fun _ z => nomatch z
theorem TbOk.updK {K : PySem.W.Frag} {H : Hp} {c : PenC} (T : TbOk K H c) {D : Addr} {xs : List (Key × V)} {o : HO} (e : H D = some (.dK xs)) : TbOk K (L2.upd H D o) c := T.upd e (fun _ z => nomatch z) fun _ z => nomatch z
theorem TbOk.updP {K : PySem.W.Frag} {H : Hp} {c d : PenC} (T : TbOk K H c) {D : Addr} {t r : Int} {o : HO} (e : H D = some (penO d t r)) : TbOk K (L2.upd H D o) c := by
  unfold penO at e
  split at e
  · exact T.updK e
  · exact T.updL e
theorem TbOk.updO {K : PySem.W.Frag} {O : Ad} {H : Hp} {c : PenC} (T : TbOk K H c) {D : Addr} {oc : OC} {o : HO} (e : OwnC K O H D oc) : TbOk K (L2.upd H D o) c := by
  cases oc with
  | l ds => exact let ⟨_, h, _⟩ := e; T.updL h
  | d es => exact let ⟨_, h, _⟩ := e; T.updK h
structure Ro where
  sl : List Sl
  pen : PenT
  fuel : Nat
abbrev Ro.f (ρ : Ro) (n : Nat) : Ro := { ρ with fuel := n }
abbrev Ro.put (ρ : Ro) (i : Nat) (s : Sl) : Ro := { ρ with sl := ρ.sl.set i s }
def OO (O0 : Ad) (ρ : Ro) : Ad := fun b => O0 b ∨ IsPen ρ.pen b ∨ (∃ (i : Nat) (c : OC), ρ.sl[i]? = some (.own b c)) ∨ ∃ (i : Nat) (as : TrA) (d : D), ρ.sl[i]? = some (.tre as d) ∧ b ∈ as
/-- the pen: cells, the number of the next one, the rest of a great one; f draws are left -/
def Pen (K : PySem.W.Frag) (O : Ad) (H : Hp) (pen : PenT) (f : Nat) : Prop := ∀ p c, pen = some (p, c) → ∃ (ns : List Int) (t r : Int),
  H p = some (penO c t r) ∧ H c.c = some (.lst (ns.map V.int)) ∧ ¬ O c.c ∧ (ns = c.ns ∧ ns.length ≤ 63) ∧ 0 ≤ t ∧ t + f ≤ 1048576 ∧ 0 ≤ r ∧ TbOk K H c
/-- the frame: all but the pen -/
def Frm (pen : PenT) (H H' : Hp) : Prop := ∀ b o, H b = some o → ¬ IsPen pen b → H' b = some o
theorem Frm.refl {pen : PenT} {H : Hp} : Frm pen H H := fun _ _ h _ => h
theorem Frm.trans {pen : PenT} {H H1 H2 : Hp} (a : Frm pen H H1) (b : Frm pen H1 H2) : Frm pen H H2 := fun c o h n => b c o (a c o h n) n
theorem Frm.of {pen : PenT} {H H1 : Hp} (s : Same H H1) : Frm pen H H1 := fun c o h _ => s c o h

/-- the trees: content, no address of an outer one, no address of another slot -/
def Trees (K : PySem.W.Frag) (O0 : Ad) (H0 : Hp) (σ : L2.St) (H : Hp) (ρ : Ro) : Prop := ∀ (i : Nat) (as : TrA) (d : D), ρ.sl[i]? = some (.tre as d) →
  (σ[i]? = some (some (.ref as.rt)) ∧ NtS K (OO O0 ρ) H as.as (.ref as.rt) d) ∧ (∀ b ∈ as, ¬ O0 b ∧ H0 b = none ∧ ¬ IsPen ρ.pen b ∧ H b ≠ none) ∧ ∀ (j : Nat) (s : Sl), ρ.sl[j]? = some s → j ≠ i → ∀ b ∈ as, b ∉ s.adr
theorem Trees.move {K : PySem.W.Frag} {O0 O1 : Ad} {H0 H1 : Hp} {σ σ' : L2.St} {H H' : Hp} {ρ ρ' : Ro} (T : Trees K O0 H0 σ H ρ) (k : Keeps (OO O0 ρ) (OO O1 ρ') H H')
    (hs : ∀ (i : Nat) (as : TrA) (d : D), ρ'.sl[i]? = some (.tre as d) → ρ.sl[i]? = some (.tre as d) ∧ σ'[i]? = σ[i]? ∧ ∀ b ∈ as, (∀ o, H b = some o → H' b = some o) ∧ (¬ O0 b → H b ≠ none → ¬ O1 b) ∧ (H0 b = none → H1 b = none) ∧ (¬ IsPen ρ.pen b → ¬ IsPen ρ'.pen b) ∧
      ∀ (j : Nat) (s : Sl), ρ'.sl[j]? = some s → j ≠ i → b ∈ s.adr → ∃ s0, ρ.sl[j]? = some s0 ∧ b ∈ s0.adr) : Trees K O1 H1 σ' H' ρ' := fun i as d e => by
  obtain ⟨e0, es, hb⟩ := hs i as d e
  obtain ⟨⟨e1, n⟩, h2, h3⟩ := T i as d e0
  refine ⟨⟨by rw [es]; exact e1, n.keep k fun b q => (hb b q).1⟩, fun b q => ?_, fun j s ej nj b q z => ?_⟩
  · obtain ⟨a1, a2, a3, a4⟩ := h2 b q
    obtain ⟨b1, b2, b3, b4, _⟩ := hb b q
    refine ⟨b2 a1 a4, b3 a2, b4 a3, fun z => ?_⟩
    cases w : H b with
    | none => exact a4 w
    | some o => rw [b1 o w] at z; cases z
  · obtain ⟨s0, k1, k2⟩ := (hb b q).2.2.2.2 j s ej nj z
    exact h3 j s0 k1 nj b q k2
structure R (K : PySem.W.Frag) (O0 : Ad) (H0 : Hp) (σ : L2.St) (H : Hp) (ρ : Ro) : Prop where
  len : σ.length = ρ.sl.length
  dat : ∀ (i : Nat) d, ρ.sl[i]? = some (.dat d) → ∃ v, σ[i]? = some (some v) ∧ Rp K (OO O0 ρ) H v d
  own : ∀ (i : Nat) a (c : OC), ρ.sl[i]? = some (.own a c) → σ[i]? = some (some (.ref a)) ∧ ¬ O0 a ∧ H0 a = none ∧ ¬ IsPen ρ.pen a ∧ OwnC K (OO O0 ρ) H a c
  inj : ∀ (i j : Nat) a (ds es : OC), ρ.sl[i]? = some (.own a ds) → ρ.sl[j]? = some (.own a es) → i = j
  fr : Frm ρ.pen H0 H
  tr : ∀ b, OO O0 ρ b → H b ≠ none
  pen : Pen K (OO O0 ρ) H ρ.pen ρ.fuel
  tre : Trees K O0 H0 σ H ρ
section
variable {K : PySem.W.Frag} {O0 : Ad} {H0 H H' : Hp} {σ : L2.St} {ρ : Ro}
theorem Trees.none (h : ∀ (i : Nat) (as : TrA) (d : D), ρ.sl[i]? ≠ some (.tre as d)) : Trees K O0 H0 σ H ρ := fun i as d e => absurd e (h i as d)
/-- nothing but the heap changes -/
theorem Trees.heap {n : Nat} (T : Trees K O0 H0 σ H ρ) (k : Keeps (OO O0 ρ) (OO O0 ρ) H H') (h : ∀ (i : Nat) (as : TrA) (d : D), ρ.sl[i]? = some (.tre as d) → ∀ b ∈ as, ∀ o, H b = some o → H' b = some o) : Trees K O0 H0 σ H' (ρ.f n) :=
  T.move k fun i as d e => ⟨e, rfl, fun b q => ⟨h i as d e b q, fun z _ => z, id, id, fun j s ej _ z => ⟨s, ej, z⟩⟩⟩
theorem OO.tre {i : Nat} {as : TrA} {d : D} {b : Addr} (e : ρ.sl[i]? = some (.tre as d)) (h : b ∈ as) : OO O0 ρ b := .inr (.inr (.inr ⟨i, as, d, e, h⟩))
theorem OO.own {i : Nat} {c : OC} {b : Addr} (e : ρ.sl[i]? = some (.own b c)) : OO O0 ρ b := .inr (.inr (.inl ⟨i, c, e⟩))
theorem OO.f (n : Nat) : OO O0 (ρ.f n) = OO O0 ρ := rfl
theorem R.fresh (r : R K O0 H0 σ H ρ) {p : Addr} (h : H p = none) : ¬ OO O0 ρ p := fun z => r.tr p z h
theorem Same.new {p : Addr} {o : HO} (h : H p = none) : Same H (upd H p o) := fun b u e => by
  rw [upd_ne (ne_of_none e h)]
  exact e
/-- behind something that changes nothing -/
theorem R.same (r : R K O0 H0 σ H ρ) (s : Same H H') : R K O0 H0 σ H' ρ where
  len := r.len
  dat := fun i d e => let ⟨v, h1, h2⟩ := r.dat i d e; ⟨v, h1, h2.keep (.same s)⟩
  own := fun i a ds e => let ⟨h1, h2, h3, h4, h5⟩ := r.own i a ds e; ⟨h1, h2, h3, h4, h5.keep (.same s) fun o q => s _ _ q⟩
  inj := r.inj
  fr := r.fr.trans (.of s)
  tr := fun b o z => by
    cases q : H b with
    | none => exact r.tr b o q
    | some u => rw [s b u q] at z; cases z
  pen := fun p c e => by
    obtain ⟨ns, t, r', h1, h2, h3, h4, h5, h6, h7, h8⟩ := r.pen p c e
    exact ⟨ns, t, r', s _ _ h1, s _ _ h2, h3, h4, h5, h6, h7, h8.same s⟩
  tre := r.tre.heap (n := ρ.fuel) (.same s) fun _ _ _ _ b _ o q => s b o q
theorem Frm.keeps {pen : PenT} {O : Ad} (f : Frm pen H H') (ho : ∀ p, IsPen pen p → O p) : Keeps O O H H' := ⟨fun b o h n => f b o h fun z => n (ho b z), fun _ _ _ n => n⟩
theorem OO.pen (b : Addr) (h : IsPen ρ.pen b) : OO O0 ρ b := .inr (.inl h)
theorem Frm.keepsO (f : Frm ρ.pen H H') : Keeps (OO O0 ρ) (OO O0 ρ) H H' := f.keeps fun p h => OO.pen p h
theorem Frm.there {pen : PenT} {O : Ad} {n : Nat} (s : Frm pen H H') (hp : Pen K O H' pen n) {b : Addr} (h : H b ≠ none) : H' b ≠ none := fun z => by
  by_cases e : IsPen pen b
  · obtain ⟨p, c, e, hb⟩ := e
    obtain ⟨ns, t, r', h1, _, _, _, _, _, _, T⟩ := hp p c e
    rcases hb with hb | ⟨t, ht, hb⟩
    · rw [hb, h1] at z; cases z
    · obtain ⟨ps, h2⟩ := T.there ht
      rw [← hb, h2] at z; cases z
  · cases q : H b with
    | none => exact h q
    | some u => rw [s b u q e] at z; cases z
/-- behind a call -/
theorem R.call (r : R K O0 H0 σ H ρ) {n : Nat} (s : Frm ρ.pen H H') (hp : Pen K (OO O0 ρ) H' ρ.pen n) : R K O0 H0 σ H' (ρ.f n) where
  len := r.len
  dat := fun i d e => let ⟨v, h1, h2⟩ := r.dat i d e; ⟨v, h1, h2.keep s.keepsO⟩
  own := fun i a ds e => let ⟨h1, h2, h3, h4, h5⟩ := r.own i a ds e; ⟨h1, h2, h3, h4, h5.keep s.keepsO fun o q => s _ _ q h4⟩
  inj := r.inj
  fr := r.fr.trans s
  tr := fun b o => s.there hp (r.tr b o)
  pen := hp
  tre := r.tre.heap (n := n) s.keepsO fun i as d e b q o z => s b o z ((r.tre i as d e).2.1 b q).2.2.1
end

/-! ### readings -/
abbrev UE := Ro → (D → Nat → Prop) → Prop
abbrev UT := Ro → (Bool → Nat → Prop) → Prop
abbrev UA := Ro → (List D → Nat → Prop) → Prop
def lE (K : PySem.W.Frag) (O0 : Ad) (H0 : Hp) (u : UE) : TE := fun σ H Q => ∃ (ρ : Ro) (P : D → Nat → Prop), R K O0 H0 σ H ρ ∧ u ρ P ∧
  ∀ d n, P d n → ∀ v H', R K O0 H0 σ H' (ρ.f n) → Frm ρ.pen H H' → Rp K (OO O0 ρ) H' v d → Q v H'
def lT (K : PySem.W.Frag) (O0 : Ad) (H0 : Hp) (u : UT) : TT := fun σ H Q => ∃ (ρ : Ro) (P : Bool → Nat → Prop), R K O0 H0 σ H ρ ∧ u ρ P ∧
  ∀ b n, P b n → ∀ H', R K O0 H0 σ H' (ρ.f n) → Frm ρ.pen H H' → Q b H'
def lA (K : PySem.W.Frag) (O0 : Ad) (H0 : Hp) (u : UA) : TA := fun σ H Q => ∃ (ρ : Ro) (P : List D → Nat → Prop), R K O0 H0 σ H ρ ∧ u ρ P ∧
  ∀ ds n, P ds n → ∀ vs H', R K O0 H0 σ H' (ρ.f n) → Frm ρ.pen H H' → RpA K (OO O0 ρ) H' vs ds → Q vs H'
abbrev UPE (X : Cx) (O0 : Ad) (H0 : Hp) (e : Expr) (u : UE) : Prop := PE X e (lE X.K O0 H0 u)
abbrev UPT (X : Cx) (O0 : Ad) (H0 : Hp) (e : Expr) (u : UT) : Prop := PT X e (lT X.K O0 H0 u)
abbrev UPA (X : Cx) (O0 : Ad) (H0 : Hp) (es : List Expr) (u : UA) : Prop := PA X es (lA X.K O0 H0 u)
theorem PE.imp {X : Cx} {e : Expr} {t t' : TE} (h : PE X e t) (hi : ∀ σ H Q, t' σ H Q → t σ H Q) : PE X e t' := ⟨fun pins s σ H Q I q => h.run pins s σ H Q I (hi σ H Q q)⟩
theorem PT.imp {X : Cx} {e : Expr} {t t' : TT} (h : PT X e t) (hi : ∀ σ H Q, t' σ H Q → t σ H Q) : PT X e t' := ⟨fun pins s σ H Q I q => h.run pins s σ H Q I (hi σ H Q q)⟩
theorem PW.imp {X : Cx} {e : Expr} {t t' : TT} (h : PW X e t) (hi : ∀ σ H Q, t' σ H Q → t σ H Q) : PW X e t' := ⟨fun wh pins s σ H Q I q => h.run wh pins s σ H Q I (hi σ H Q q)⟩
theorem PA.imp {X : Cx} {e : List Expr} {t t' : TA} (h : PA X e t) (hi : ∀ σ H Q, t' σ H Q → t σ H Q) : PA X e t' := ⟨fun pos pins s σ H Q I q => h.run pos pins s σ H Q I (hi σ H Q q)⟩
theorem PS.imp {X : Cx} {e : Stmt} {t t' : TS} (h : PS X e t) (hi : ∀ σ H Q, t' Q σ H → t Q σ H) : PS X e t' := ⟨fun pins s σ H Q I q => h.run pins s σ H Q I (hi σ H Q q)⟩
theorem PSs.imp {X : Cx} {e : List Stmt} {t t' : TS} (h : PSs X e t) (hi : ∀ σ H Q, t' Q σ H → t Q σ H) : PSs X e t' := ⟨fun pins s σ H Q I q => h.run pins s σ H Q I (hi σ H Q q)⟩
end U

set_option Elab.async false
set_option linter.all false
set_option maxRecDepth 100000
set_option maxHeartbeats 4000000
/-! Operators over data. -/
namespace U
open PySem PySem.Spec L2
open PyProof.Rows hiding St

/-! ### == -/
mutual
def D.py : D → PyData
  | .non => .none
  | .bl b => .bool b
  | .int i => .int i
  | .str x => .str x
  | .lst ds => .list (D.pys ds)
  | .tup ds => .tuple (D.pys ds)
  | .dic kvs => .dict (D.pyk kvs)
  | .ref _ => .none
  | .ty _ => .none
  | .exc _ _ => .none
  | .cls _ => .none
def D.pys : List D → List PyData
  | [] => []
  | d :: ds => d.py :: D.pys ds
def D.pyk : List (Key × D) → List (PyData × PyData)
  | [] => []
  | (.inl i, d) :: r => (.int i, d.py) :: D.pyk r
  | (.inr x, d) :: r => (.str x, d.py) :: D.pyk r
end
mutual
/-- nested at most n deep, no dicts, no objects -/
def D.flat : Nat → D → Bool
  | _, .non => true
  | _, .bl _ => true
  | _, .int _ => true
  | _, .str x => PyData.strOk x
  | 0, .lst _ => false
  | 0, .tup _ => false
  | n + 1, .lst ds => D.flats n ds
  | n + 1, .tup ds => D.flats n ds
  | _, .dic _ => false
  | _, .ref _ => false
  | _, .ty _ => false
  | _, .exc _ _ => false
  | _, .cls _ => false
def D.flats : Nat → List D → Bool
  | _, [] => true
  | n, d :: ds => D.flat n d && D.flats n ds
end
mutual
theorem flat_le : ∀ (n m : Nat) (d : D), n ≤ m → D.flat n d = true → D.flat m d = true
  | n, m, .non, _, _ => by simp [D.flat]
  | n, m, .bl _, _, _ => by simp [D.flat]
  | n, m, .int _, _, _ => by simp [D.flat]
  | n, m, .str _, _, h => by simpa [D.flat] using h
  | n, m, .dic _, _, h => by simp [D.flat] at h
  | n, m, .ref _, _, h => by simp [D.flat] at h
  | n, m, .ty _, _, h => by simp [D.flat] at h
  | n, m, .exc _ _, _, h => by simp [D.flat] at h
  | n, m, .cls _, _, h => by simp [D.flat] at h
  | 0, m, .lst _, _, h => by simp [D.flat] at h
  | 0, m, .tup _, _, h => by simp [D.flat] at h
  | n + 1, 0, .lst _, h, _ => by omega
  | n + 1, 0, .tup _, h, _ => by omega
  | n + 1, m + 1, .lst ds, hn, h => by
    simp only [D.flat] at h ⊢
    exact flats_le n m ds (by omega) h
  | n + 1, m + 1, .tup ds, hn, h => by
    simp only [D.flat] at h ⊢
    exact flats_le n m ds (by omega) h
theorem flats_le : ∀ (n m : Nat) (ds : List D), n ≤ m → D.flats n ds = true → D.flats m ds = true
  | _, _, [], _, _ => by simp [D.flats]
  | n, m, d :: ds, hn, h => by
    simp only [D.flats, Bool.and_eq_true] at h ⊢
    exact ⟨flat_le n m d hn h.1, flats_le n m ds hn h.2⟩
end
mutual
/-- Python's == -/
def D.eqv : D → D → Bool
  | .non, .non => true
  | .bl a, .bl b => a == b
  | .bl a, .int j => (if a then 1 else 0) == j
  | .int i, .bl b => i == (if b then 1 else 0)
  | .int i, .int j => i == j
  | .str x, .str y => x == y
  | .lst xs, .lst ys => D.eqvs xs ys
  | .tup xs, .tup ys => D.eqvs xs ys
  | _, _ => false
def D.eqvs : List D → List D → Bool
  | [], [] => true
  | x :: xs, y :: ys => D.eqv x y && D.eqvs xs ys
  | [], _ :: _ => false
  | _ :: _, [] => false
end
mutual
theorem eqv_py : ∀ (n m : Nat) (x y : D), D.flat n x = true → D.flat m y = true → PyData.eqv x.py y.py = D.eqv x y
  | _, _, .dic _, _, h, _ => by simp [D.flat] at h
  | _, _, .ref _, _, h, _ => by simp [D.flat] at h
  | _, _, .ty _, _, h, _ => by simp [D.flat] at h
  | _, _, .exc _ _, _, h, _ => by simp [D.flat] at h
  | _, _, .cls _, _, h, _ => by simp [D.flat] at h
  | _, _, .non, y, _, h => by cases y <;> simp_all [D.py, D.eqv, PyData.eqv, D.flat]
  | _, _, .bl _, y, _, h => by cases y <;> simp_all [D.py, D.eqv, PyData.eqv, D.flat]
  | _, _, .int _, y, _, h => by cases y <;> simp_all [D.py, D.eqv, PyData.eqv, D.flat]
  | _, _, .str _, y, _, h => by cases y <;> simp_all [D.py, D.eqv, PyData.eqv, D.flat]
  | n + 1, m, .lst xs, y, h, g => by
    cases y with
    | lst ys =>
      cases m with
      | zero => simp [D.flat] at g
      | succ m =>
        simp only [D.py, D.eqv, PyData.eqv]
        exact eqvs_py n m xs ys (by simpa [D.flat] using h) (by simpa [D.flat] using g)
    | _ => simp_all [D.py, D.eqv, PyData.eqv, D.flat]
  | n + 1, m, .tup xs, y, h, g => by
    cases y with
    | tup ys =>
      cases m with
      | zero => simp [D.flat] at g
      | succ m =>
        simp only [D.py, D.eqv, PyData.eqv]
        exact eqvs_py n m xs ys (by simpa [D.flat] using h) (by simpa [D.flat] using g)
    | _ => simp_all [D.py, D.eqv, PyData.eqv, D.flat]
  | 0, _, .lst _, _, h, _ => by simp [D.flat] at h
  | 0, _, .tup _, _, h, _ => by simp [D.flat] at h
theorem eqvs_py : ∀ (n m : Nat) (xs ys : List D), D.flats n xs = true → D.flats m ys = true → PyData.eqvAll (D.pys xs) (D.pys ys) = D.eqvs xs ys
  | _, _, [], [], _, _ => by simp [D.pys, D.eqvs, PyData.eqvAll]
  | _, _, [], _ :: _, _, _ => by simp [D.pys, D.eqvs, PyData.eqvAll]
  | _, _, _ :: _, [], _, _ => by simp [D.pys, D.eqvs, PyData.eqvAll]
  | n, m, x :: xs, y :: ys, h, g => by
    simp only [D.flats, Bool.and_eq_true] at h g
    simp only [D.pys, D.eqvs, PyData.eqvAll]
    rw [eqv_py n m x y h.1 g.1, eqvs_py n m xs ys h.2 g.2]
end
mutual
theorem flat_lay : ∀ (n : Nat) (d : D), D.flat n d = true → d.py.canLay0 = true ∧ d.py.depth ≤ n + 1
  | n, .non, _ => by simp [D.py, PyData.canLay0, PyData.depth]
  | n, .bl _, _ => by simp [D.py, PyData.canLay0, PyData.depth]
  | n, .int _, _ => by simp [D.py, PyData.canLay0, PyData.depth]
  | n, .str _, h => by simpa [D.py, PyData.canLay0, PyData.depth, D.flat] using h
  | n, .dic _, h => by simp [D.flat] at h
  | n, .ref _, h => by simp [D.flat] at h
  | n, .ty _, h => by simp [D.flat] at h
  | n, .exc _ _, h => by simp [D.flat] at h
  | n, .cls _, h => by simp [D.flat] at h
  | 0, .lst _, h => by simp [D.flat] at h
  | 0, .tup _, h => by simp [D.flat] at h
  | n + 1, .lst ds, h => by
    obtain ⟨h1, h2⟩ := flats_lay n ds (by simpa [D.flat] using h)
    simp only [D.py, PyData.canLay0, PyData.depth]
    exact ⟨h1, by omega⟩
  | n + 1, .tup ds, h => by
    obtain ⟨h1, h2⟩ := flats_lay n ds (by simpa [D.flat] using h)
    simp only [D.py, PyData.canLay0, PyData.depth]
    exact ⟨h1, by omega⟩
theorem flats_lay : ∀ (n : Nat) (ds : List D), D.flats n ds = true → PyData.canLayAll0 (D.pys ds) = true ∧ PyData.depthAll (D.pys ds) ≤ n + 1
  | n, [], _ => by simp [D.pys, PyData.canLayAll0, PyData.depthAll]
  | n, d :: ds, h => by
    simp only [D.flats, Bool.and_eq_true] at h
    obtain ⟨a1, a2⟩ := flat_lay n d h.1
    obtain ⟨b1, b2⟩ := flats_lay n ds h.2
    simp only [D.pys, PyData.canLayAll0, PyData.depthAll, a1, b1, Bool.and_self, true_and]
    omega
end
theorem flat_shaped {n : Nat} {d : D} (h : D.flat n d = true) (hn : n ≤ 60) : SeqAt.shaped d.py = true := by
  obtain ⟨a, b⟩ := flat_lay n d h
  unfold SeqAt.shaped
  rw [a]
  exact decide_eq_true (by omega)
section
variable {K : PySem.W.Frag} {O : Ad} {H : Hp}
mutual
theorem Rp.dp : ∀ (n : Nat) (d : D) (v : V), D.flat n d = true → Rp K O H v d → Dp K H v d.py
  | _, .non, _, _, .non => by simp only [D.py]; exact .non
  | _, .bl _, _, _, .bl _ => by simp only [D.py]; exact .bl _
  | _, .int _, _, _, .int _ => by simp only [D.py]; exact .int _
  | _, .str _, _, _, .str _ => by simp only [D.py]; exact .str _
  | n + 1, .lst ds, _, h, .lst hl hr => by
    simp only [D.py]
    exact .lst hl.sq (RpA.dp n ds _ (by simpa [D.flat] using h) hr)
  | n + 1, .tup ds, _, h, .tup hl hr => by
    simp only [D.py]
    exact .tup hl.sq (RpA.dp n ds _ (by simpa [D.flat] using h) hr)
  | 0, .lst _, _, h, _ => by simp [D.flat] at h
  | 0, .tup _, _, h, _ => by simp [D.flat] at h
  | _, .dic _, _, h, _ => by simp [D.flat] at h
  | _, .ref _, _, h, _ => by simp [D.flat] at h
  | _, .ty _, _, h, _ => by simp [D.flat] at h
  | _, .exc _ _, _, h, _ => by simp [D.flat] at h
  | _, .cls _, _, h, _ => by simp [D.flat] at h
theorem RpA.dp : ∀ (n : Nat) (ds : List D) (vs : List V), D.flats n ds = true → RpA K O H vs ds → DpAll K H vs (D.pys ds)
  | _, [], _, _, .nil => by simp only [D.pys]; exact .nil
  | n, d :: ds, _, h, .cons a b => by
    simp only [D.flats, Bool.and_eq_true] at h
    simp only [D.pys]
    exact .cons (Rp.dp n d _ h.1 a) (RpA.dp n ds _ h.2 b)
end
end

/-! ### operators: what of two data -/
abbrev G2 := D → D → (D → Prop) → Prop
def lR2 (K : PySem.W.Frag) (g : G2) : R2 := fun x y H Q => ∃ (O : Ad) (dx dy : D) (P : D → Prop), (∀ b, O b → H b ≠ none) ∧ Rp K O H x dx ∧ Rp K O H y dy ∧ g dx dy P ∧
  ∀ d, P d → ∀ v H', Same H H' → Rp K O H' v d → Q v H'
theorem nofree {O : Ad} {H : Hp} (t : ∀ b, O b → H b ≠ none) {p : Addr} (h : H p = none) : ¬ O p := fun z => t p z h
def gAdd : G2
  | .int i, .int j, Q => Q (.int (i + j))
  | .str a, .str b, Q => a.length + b.length ≤ sizeLine ∧ Q (.str (a ++ b))
  | .lst a, .lst b, Q => a.length + b.length ≤ sizeLine ∧ Q (.lst (a ++ b))
  | .tup a, .tup b, Q => a.length + b.length ≤ sizeLine ∧ Q (.tup (a ++ b))
  | _, _, _ => False
def gSub : G2
  | .int i, .int j, Q => Q (.int (i - j))
  | _, _, _ => False
/-- the factors: one below 2 ^ 64, or both below 2 ^ 100000 -/
def MulOk (i j : Int) : Prop := (-(2 ^ 64) < i ∧ i < 2 ^ 64) ∨ (-(2 ^ 64) < j ∧ j < 2 ^ 64) ∨ (i.natAbs.log2 + j.natAbs.log2 < 1000000)
def gMul : G2
  | .int i, .int j, Q => MulOk i j ∧ Q (.int (i * j))
  | .lst a, .int k, Q => (-(2 ^ 63) ≤ k ∧ k < 2 ^ 63 ∧ a.length * k.toNat ≤ sizeLine) ∧ Q (.lst (List.replicate k.toNat a).flatten)
  | .tup a, .int k, Q => (a ≠ [] ∧ 2 ≤ k ∧ k ≤ 1000 ∧ a.length ≤ 1000) ∧ Q (.tup (List.replicate k.toNat a).flatten)
  | _, _, _ => False
def gDiv : G2
  | .int i, .int j, Q => (0 < j ∧ j.natAbs.log2 < 9000) ∧ Q (.int (i / j))
  | _, _, _ => False
def gMod : G2
  | .int i, .int j, Q => 0 < j ∧ Q (.int (i % j))
  | _, _, _ => False
def gPow : G2
  | .int i, .int j, Q => (0 ≤ j ∧ j ≤ 1000000 ∧ i.natAbs < 2 ^ 64) ∧ Q (.int (i ^ j.toNat))
  | _, _, _ => False
def gEq : G2
  | .str a, .str b, Q => Q (.bl (a == b))
  | x, y, Q => (D.flat 60 x = true ∧ D.flat 60 y = true) ∧ Q (.bl (D.eqv x y))
def gNe : G2
  | .str a, .str b, Q => Q (.bl (!(a == b)))
  | x, y, Q => (D.flat 60 x = true ∧ D.flat 60 y = true) ∧ Q (.bl (!D.eqv x y))
def gCmp (p : Int → Int → Bool) : G2
  | .int i, .int j, Q => Q (.bl (p i j))
  | _, _, _ => False
abbrev gLt : G2 := gCmp fun i j => decide (i < j)
abbrev gLe : G2 := gCmp fun i j => decide (i ≤ j)
abbrev gGt : G2 := gCmp fun i j => decide (j < i)
abbrev gGe : G2 := gCmp fun i j => decide (j ≤ i)
/-- is, of None and of truth values -/
def gIs : G2
  | x, .non, Q => Q (.bl (match x with | .non => true | _ => false))
  | .bl a, .bl b, Q => Q (.bl (a == b))
  | _, _, _ => False
def gIsNot : G2
  | x, .non, Q => Q (.bl (match x with | .non => false | _ => true))
  | .bl a, .bl b, Q => Q (.bl (!(a == b)))
  | _, _, _ => False

section
variable {X : Cx}
theorem op_addU : OpR X (binaryOp .Add) (lR2 X.K gAdd) := by
  intro pins s σ H x y v u Q I rx ry ⟨O, dx, dy, P, tr, hx, hy, hg, hP⟩
  cases dx <;> cases dy <;> try exact hg.elim
  · cases hx; cases hy
    exact op_add pins s σ H _ _ v u Q I rx ry ⟨_, _, rfl, rfl, hP _ hg _ _ (Same.refl _) (.int _)⟩
  · cases hx; cases hy
    exact op_add_str pins s σ H _ _ v u Q I rx ry ⟨_, _, rfl, rfl, hg.1, hP _ hg.2 _ _ (Same.refl _) (.str _)⟩
  · cases hx with
    | lst lx ax =>
      cases hy with
      | lst ly ay =>
        refine op_cat pins s σ H _ _ v u Q I rx ry ⟨_, _, _, _, rfl, rfl, lx.2, ly.2, ?_, fun p hp => ?_⟩
        · rw [ax.length, ay.length]; exact hg.1
        · have sm := fun o => Same.new (o := o) hp
          exact hP _ hg.2 _ _ (sm _) (.lst ⟨nofree tr hp, upd_same⟩ ((ax.append ay).keep (.same (sm _))))
  · cases hx with
    | tup lx ax =>
      cases hy with
      | tup ly ay =>
        refine op_catA pins s σ H _ _ v u Q I rx ry ⟨_, _, _, _, rfl, rfl, lx.sq, ly.sq, ?_, fun e => ?_, fun e e2 => ?_, fun _ _ p hp => ?_⟩
        · rw [ax.length, ay.length]; exact hg.1
        · subst e
          cases ax
          exact hP _ hg.2 _ _ (Same.refl _) (.tup ly ay)
        · subst e2
          cases ay
          have z := hg.2
          rw [List.append_nil] at z
          exact hP _ z _ _ (Same.refl _) (.tup lx ax)
        · have sm := fun o => Same.new (o := o) hp
          exact hP _ hg.2 _ _ (sm _) (.tup (.inl ⟨nofree tr hp, upd_same⟩) ((ax.append ay).keep (.same (sm _))))
theorem op_subU : OpR X (binaryOp .Sub) (lR2 X.K gSub) := by
  intro pins s σ H x y v u Q I rx ry ⟨O, dx, dy, P, tr, hx, hy, hg, hP⟩
  cases dx <;> cases dy <;> try exact hg.elim
  cases hx; cases hy
  exact op_sub pins s σ H _ _ v u Q I rx ry ⟨_, _, rfl, rfl, hP _ hg _ _ (Same.refl _) (.int _)⟩
theorem op_mulU : OpR X (binaryOp .Mult) (lR2 X.K gMul) := by
  intro pins s σ H x y v u Q I rx ry ⟨O, dx, dy, P, tr, hx, hy, hg, hP⟩
  cases dx <;> cases dy <;> try exact hg.elim
  · cases hx; cases hy
    obtain ⟨hc, hg⟩ := hg
    rcases hc with hc | hc | hc
    · exact op_mul pins s σ H _ _ v u Q I rx ry ⟨_, _, rfl, rfl, .inl hc, hP _ hg _ _ (Same.refl _) (.int _)⟩
    · exact op_mul pins s σ H _ _ v u Q I rx ry ⟨_, _, rfl, rfl, .inr hc, hP _ hg _ _ (Same.refl _) (.int _)⟩
    · exact op_mulW pins s σ H _ _ v u Q I rx ry ⟨_, _, rfl, rfl, hc, hP _ hg _ _ (Same.refl _) (.int _)⟩
  · cases hx with
    | lst lx ax =>
      cases hy
      obtain ⟨⟨h1, h2, h3⟩, hg⟩ := hg
      refine op_rep pins s σ H _ _ v u Q I rx ry ⟨_, _, _, rfl, rfl, lx.2, h1, h2, ?_, fun p hp => ?_⟩
      · rw [ax.length]; exact h3
      · have sm := fun o => Same.new (o := o) hp
        exact hP _ hg _ _ (sm _) (.lst ⟨nofree tr hp, upd_same⟩ ((ax.rep _).keep (.same (sm _))))
  · cases hx with
    | tup lx ax =>
      cases hy
      obtain ⟨⟨h1, h2, h3, h4⟩, hg⟩ := hg
      refine op_repT pins s σ H _ _ v u Q I rx ry ⟨_, _, _, rfl, rfl, lx.sq, ?_, h2, h3, ?_, fun p hp => ?_⟩
      · rintro rfl
        cases ax
        exact h1 rfl
      · rw [ax.length]; exact h4
      · have sm := fun o => Same.new (o := o) hp
        exact hP _ hg _ _ (sm _) (.tup (.inl ⟨nofree tr hp, upd_same⟩) ((ax.rep _).keep (.same (sm _))))
theorem op_divU : OpR X (binaryOp .FloorDiv) (lR2 X.K gDiv) := by
  intro pins s σ H x y v u Q I rx ry ⟨O, dx, dy, P, tr, hx, hy, hg, hP⟩
  cases dx <;> cases dy <;> try exact hg.elim
  cases hx; cases hy
  exact op_fdivW pins s σ H _ _ v u Q I rx ry ⟨_, _, rfl, rfl, hg.1, hP _ hg.2 _ _ (Same.refl _) (.int _)⟩
theorem op_modU : OpR X (binaryOp .Mod) (lR2 X.K gMod) := by
  intro pins s σ H x y v u Q I rx ry ⟨O, dx, dy, P, tr, hx, hy, hg, hP⟩
  cases dx <;> cases dy <;> try exact hg.elim
  cases hx; cases hy
  exact op_mod pins s σ H _ _ v u Q I rx ry ⟨_, _, rfl, rfl, hg.1, hP _ hg.2 _ _ (Same.refl _) (.int _)⟩
theorem op_powU : OpR X (binaryOp .Pow) (lR2 X.K gPow) := by
  intro pins s σ H x y v u Q I rx ry ⟨O, dx, dy, P, tr, hx, hy, hg, hP⟩
  cases dx <;> cases dy <;> try exact hg.elim
  cases hx; cases hy
  exact op_pow pins s σ H _ _ v u Q I rx ry ⟨_, _, rfl, rfl, hg.1, hP _ hg.2 _ _ (Same.refl _) (.int _)⟩
theorem op_eqU (hu : X.A.units + 64 < cLine) : OpR X (compareOp .Eq) (lR2 X.K gEq) := by
  intro pins s σ H x y v u Q I rx ry ⟨O, dx, dy, P, tr, hx, hy, hg, hP⟩
  have gen : D.flat 60 dx = true → D.flat 60 dy = true → P (.bl (D.eqv dx dy)) → wpAny (model X.prog X.w) X.A (compareOp .Eq v u) (EP X pins σ Q) X.xe s := by
    intro fx fy hg
    refine op_eqD hu pins s σ H _ _ v u Q I rx ry ⟨_, _, hx.dp 60 _ _ fx, hy.dp 60 _ _ fy, flat_shaped fx (Nat.le_refl _), flat_shaped fy (Nat.le_refl _), ?_⟩
    rw [eqv_py 60 60 _ _ fx fy]
    exact hP _ hg _ _ (Same.refl _) (.bl _)
  cases dx <;> cases dy <;> first
    | exact gen hg.1.1 hg.1.2 hg.2
    | (cases hx; cases hy
       refine op_eq pins s σ H _ _ v u Q I rx ry ⟨rfl, ?_⟩
       rw [dec_str]
       exact hP _ hg _ _ (Same.refl _) (.bl _))
theorem op_neU (hu : X.A.units + 64 < cLine) : OpR X (compareOp .NotEq) (lR2 X.K gNe) := by
  intro pins s σ H x y v u Q I rx ry ⟨O, dx, dy, P, tr, hx, hy, hg, hP⟩
  have gen : D.flat 60 dx = true → D.flat 60 dy = true → P (.bl (!D.eqv dx dy)) → wpAny (model X.prog X.w) X.A (compareOp .NotEq v u) (EP X pins σ Q) X.xe s := by
    intro fx fy hg
    refine op_neD hu pins s σ H _ _ v u Q I rx ry ⟨_, _, hx.dp 60 _ _ fx, hy.dp 60 _ _ fy, flat_shaped fx (Nat.le_refl _), flat_shaped fy (Nat.le_refl _), ?_⟩
    rw [eqv_py 60 60 _ _ fx fy]
    exact hP _ hg _ _ (Same.refl _) (.bl _)
  cases dx <;> cases dy <;> first
    | exact gen hg.1.1 hg.1.2 hg.2
    | (cases hx; cases hy
       refine op_ne pins s σ H _ _ v u Q I rx ry ⟨rfl, ?_⟩
       rw [dec_str]
       exact hP _ hg _ _ (Same.refl _) (.bl _))
theorem op_cmpU {op : CmpOp} {p : Int → Int → Bool} (h : OpR X (compareOp op) (rI0 fun i j => .bl (p i j))) : OpR X (compareOp op) (lR2 X.K (gCmp p)) := by
  intro pins s σ H x y v u Q I rx ry ⟨O, dx, dy, P, tr, hx, hy, hg, hP⟩
  cases dx <;> cases dy <;> try exact hg.elim
  cases hx; cases hy
  exact h pins s σ H _ _ v u Q I rx ry ⟨_, _, rfl, rfl, hP _ hg _ _ (Same.refl _) (.bl _)⟩
theorem op_ltU : OpR X (compareOp .Lt) (lR2 X.K gLt) := op_cmpU op_lt
theorem op_leU : OpR X (compareOp .LtE) (lR2 X.K gLe) := op_cmpU op_le
theorem op_gtU : OpR X (compareOp .Gt) (lR2 X.K gGt) := op_cmpU op_gt
theorem op_geU : OpR X (compareOp .GtE) (lR2 X.K gGe) := op_cmpU op_ge
theorem op_isU : OpR X (compareOp .Is) (lR2 X.K gIs) := by
  intro pins s σ H x y v u Q I rx ry ⟨O, dx, dy, P, tr, hx, hy, hg, hP⟩
  have none_ : dy = .non → OpR X (compareOp .Is) (fun x y H Q => y = .non ∧ Q (.bl (decide (x = .non))) H) → wpAny (model X.prog X.w) X.A (compareOp .Is v u) (EP X pins σ Q) X.xe s := by
    intro e h
    subst e
    cases hy
    have hg' : P (.bl (match dx with | .non => true | _ => false)) := by cases dx <;> exact hg
    refine h pins s σ H _ _ v u Q I rx ry ⟨rfl, ?_⟩
    have := hP _ hg' (.bl (decide (x = .non))) H (Same.refl _) (by
      cases hx <;> simp <;> exact .bl _)
    exact this
  cases dx <;> cases dy <;> first
    | exact none_ rfl op_isN
    | exact False.elim hg
    | (cases hx; cases hy
       refine op_is_bl pins s σ H _ _ v u Q I rx ry ⟨_, _, rfl, rfl, ?_⟩
       rw [show ∀ a b : Bool, decide (a = b) = (a == b) from by decide]
       exact hP _ hg _ _ (Same.refl _) (.bl _))
end
end U

set_option Elab.async false
set_option linter.all false
set_option maxRecDepth 100000
set_option maxHeartbeats 4000000
/-! Expressions over data. -/
namespace U
open PySem PySem.Spec L2
open PyProof.Rows hiding St

def uVar (i : Nat) : UE := fun ρ Q => match ρ.sl[i]? with
  | some (.dat d) => Q d ρ.fuel
  | _ => False
def uC (d : D) : UE := fun ρ Q => Q d ρ.fuel
def uOp (g : G2) (a b : UE) : UE := fun ρ Q => a ρ fun x n => b (ρ.f n) fun y m => g x y fun z => Q z m
def uUn (g : D → (D → Prop) → Prop) (a : UE) : UE := fun ρ Q => a ρ fun x n => g x fun z => Q z n
def gNeg : D → (D → Prop) → Prop
  | .int i, Q => Q (.int (-i))
  | _, _ => False
def uNil : UA := fun ρ Q => Q [] ρ.fuel
def uCons (a : UE) (r : UA) : UA := fun ρ Q => a ρ fun x n => r (ρ.f n) fun xs m => Q (x :: xs) m
def uTup (a : UA) : UE := fun ρ Q => a ρ fun ds n => Q (.tup ds) n
def uLst (a : UA) : UE := fun ρ Q => a ρ fun ds n => Q (.lst ds) n
/-- a test by a value -/
def D.tru : D → Option Bool
  | .non => some false
  | .bl b => some b
  | .int i => some (i != 0)
  | .str x => if x.length ≤ sizeLine then some ((x.length : Int) != 0) else none
  | .lst ds => some (!ds.isEmpty)
  | .tup ds => some (!ds.isEmpty)
  | .dic _ => none
  | _ => none
def uTru (a : UE) : UT := fun ρ Q => a ρ fun x n => match x.tru with
  | some b => Q b n
  | none => False
def uTB (a : UE) : UT := fun ρ Q => a ρ fun x n => match x with
  | .bl b => Q b n
  | _ => False
def uAndT (a b : UT) : UT := fun ρ Q => a ρ fun c n => if c = true then b (ρ.f n) Q else Q false n
def uOrT (a b : UT) : UT := fun ρ Q => a ρ fun c n => if c = true then Q true n else b (ρ.f n) Q
def uNotT (a : UT) : UT := fun ρ Q => a ρ fun c n => Q (!c) n
def uAnd (a b : UE) : UE := fun ρ Q => a ρ fun x n => match x with
  | .bl true => b (ρ.f n) Q
  | .bl false => Q (.bl false) n
  | _ => False
def uOr (a b : UE) : UE := fun ρ Q => a ρ fun x n => match x with
  | .bl true => Q (.bl true) n
  | .bl false => b (ρ.f n) Q
  | _ => False
def uNot (a : UE) : UE := fun ρ Q => a ρ fun x n => match x with
  | .bl c => Q (.bl (!c)) n
  | _ => False
def uIf (c : UT) (a b : UE) : UE := fun ρ Q => c ρ fun k n => if k = true then a (ρ.f n) Q else b (ρ.f n) Q
def uChain (g g' : G2) (a b c : UE) : UE := fun ρ Q => a ρ fun x n => b (ρ.f n) fun y m => g x y fun z => match z with
  | .bl true => c (ρ.f m) fun w k => g' y w fun z' => Q z' k
  | .bl false => Q (.bl false) m
  | _ => False

section
variable {X : Cx} {O0 : Ad} {H0 : Hp} {a b c e : Expr} {ua ub uc : UE} {pos : Pos}
theorem up_var {i : Nat} {x : Str} (h : PE X (.Name x pos) (tVar i)) : UPE X O0 H0 (.Name x pos) (uVar i) := PE.imp h fun σ H Q ⟨ρ, P, r, hu, hP⟩ => by
  unfold uVar at hu
  split at hu
  · rename_i d e
    obtain ⟨v, e1, rv⟩ := r.dat i d e
    exact ⟨v, e1, hP d ρ.fuel hu v H r Frm.refl rv⟩
  · exact hu.elim
theorem up_c {v : V} {d : D} (h : PE X e (tC v)) (hd : ∀ O H, Rp X.K O H v d) : UPE X O0 H0 e (uC d) := PE.imp h fun σ H Q ⟨ρ, P, r, hu, hP⟩ =>
  hP d ρ.fuel hu v H r Frm.refl (hd _ _)
theorem up_int {i j} : UPE X O0 H0 (.Constant (.int i) j pos) (uC (.int i)) := up_c pe_int fun _ _ => .int i
theorem up_bl {i j} : UPE X O0 H0 (.Constant (.bool i) j pos) (uC (.bl i)) := up_c pe_bl fun _ _ => .bl i
theorem up_non {j} : UPE X O0 H0 (.Constant .none j pos) (uC .non) := up_c pe_non fun _ _ => .non
theorem up_str {x j} : UPE X O0 H0 (.Constant (.str x) j pos) (uC (.str x)) := up_c pe_str fun _ _ => .str x
/-- a global constant, a class -/
theorem up_glob {x : Str} {v : V} {d : D} {u : Value} (hg : Gl X x) (hm : X.mg x = some u) (r : RelV v u) (hd : ∀ O H, Rp X.K O H v d) (hdb : (x == ("__debug__" : Str)) = false := by decide) : UPE X O0 H0 (.Name x pos) (uC d) :=
  up_c (pe_glob hg hm r hdb) hd
theorem up_bltn {x : Str} {v : V} {d : D} {u : Value} (hg : Gl X x) (hm : X.mg x = none) (hv : bootBuiltins x = some u) (r : RelV v u) (hd : ∀ O H, Rp X.K O H v d) (hn : x ≠ "__name__" := by decide) (hdb : (x == ("__debug__" : Str)) = false := by decide) : UPE X O0 H0 (.Name x pos) (uC d) :=
  up_c (pe_bltn hg hm hv r hn hdb) hd
/-- the shape of all two-place rules -/
theorem two {g : G2} {σ : L2.St} {H : Hp} {Q : VK} (h : lE X.K O0 H0 (uOp g ua ub) σ H Q) : tOp (lR2 X.K g) (lE X.K O0 H0 ua) (lE X.K O0 H0 ub) σ H Q := by
  obtain ⟨ρ, P, r, hu, hP⟩ := h
  refine ⟨ρ, _, r, hu, fun dx n hx v H1 r1 f1 p1 => ⟨ρ.f n, _, r1, hx, fun dy m hy w H2 r2 f2 p2 => ?_⟩⟩
  refine ⟨OO O0 ρ, dx, dy, _, r2.tr, p1.keep (Frm.keepsO (ρ := ρ) f2), p2, hy, fun d hd v' H3 sm p3 => ?_⟩
  exact hP d m hd v' H3 (r2.same sm) ((f1.trans f2).trans (.of sm)) p3
theorem up_op {op : Operator} {g : G2} (ho : OpR X (binaryOp op) (lR2 X.K g)) (ha : UPE X O0 H0 a ua) (hb : UPE X O0 H0 b ub) : UPE X O0 H0 (.BinOp a op b pos) (uOp g ua ub) :=
  PE.imp (pe_op ho ha hb) fun _ _ _ h => two h
theorem up_cmp {op : CmpOp} {g : G2} (ho : OpR X (compareOp op) (lR2 X.K g)) (ha : UPE X O0 H0 a ua) (hb : UPE X O0 H0 b ub) (hm : behindInMarks op b = false) : UPE X O0 H0 (.Compare a [op] [b] pos) (uOp g ua ub) :=
  PE.imp (pe_cmpR ho ha hb hm) fun _ _ _ h => two h
/-- a value that is a truth value, as a test -/
theorem tb {σ : L2.St} {H : Hp} {Q : Bool → Hp → Prop} (h : lT X.K O0 H0 (uTB ua) σ H Q) : lE X.K O0 H0 ua σ H fun x H' => ∃ k, x = .bl k ∧ Q k H' := by
  obtain ⟨ρ, P, r, hu, hP⟩ := h
  refine ⟨ρ, _, r, hu, fun d n hd v H1 r1 f1 p1 => ?_⟩
  cases p1 with
  | bl k => exact ⟨k, rfl, hP k n hd H1 r1 f1⟩
  | _ => exact hd.elim
theorem ut_cmp {op : CmpOp} {g : G2} (ho : OpR X (compareOp op) (lR2 X.K g)) (ha : UPE X O0 H0 a ua) (hb : UPE X O0 H0 b ub) (hm : behindInMarks op b = false) : UPT X O0 H0 (.Compare a [op] [b] pos) (uTB (uOp g ua ub)) :=
  PT.imp (pt_cmpR ho ha hb hm) fun _ _ _ h => by
    obtain ⟨ρ, P, r, hu, hP⟩ := tb h
    exact two ⟨ρ, P, r, hu, hP⟩
theorem up_un {op : UnaryOp} {g : D → (D → Prop) → Prop} (ho : UnR X (unaryOp op) (fun x H Q => ∃ (O : Ad) (dx : D) (P : D → Prop), Rp X.K O H x dx ∧ g dx P ∧ ∀ d, P d → ∀ v, Rp X.K O H v d → Q v H)) (ha : UPE X O0 H0 a ua) :
    UPE X O0 H0 (.UnaryOp op a pos) (uUn g ua) := PE.imp (pe_un ho ha) fun σ H Q ⟨ρ, P, r, hu, hP⟩ =>
  ⟨ρ, _, r, hu, fun d n hd v H1 r1 f1 p1 => ⟨OO O0 ρ, d, _, p1, hd, fun d' hd' v' p' => hP d' n hd' v' H1 r1 f1 p'⟩⟩
theorem un_negU : UnR X (unaryOp .USub) (fun x H Q => ∃ (O : Ad) (dx : D) (P : D → Prop), Rp X.K O H x dx ∧ gNeg dx P ∧ ∀ d, P d → ∀ v, Rp X.K O H v d → Q v H) := by
  intro pins s σ H x v Q I rx ⟨O, dx, P, hx, hg, hP⟩
  cases dx <;> try exact hg.elim
  cases hx
  exact un_neg pins s σ H _ v Q I rx ⟨_, rfl, hP _ hg _ (.int _)⟩
theorem up_neg (ha : UPE X O0 H0 a ua) : UPE X O0 H0 (.UnaryOp .USub a pos) (uUn gNeg ua) := up_un un_negU ha
theorem up_chain {op op' : CmpOp} {g g' : G2} (ho : OpR X (compareOp op) (lR2 X.K g)) (ho' : OpR X (compareOp op') (lR2 X.K g')) (ha : UPE X O0 H0 a ua) (hb : UPE X O0 H0 b ub) (hc : UPE X O0 H0 c uc)
    (hm : lastMarks [op, op'] [b, c] = false := by with_unfolding_all rfl) : UPE X O0 H0 (.Compare a [op, op'] [b, c] pos) (uChain g g' ua ub uc) := PE.imp (pe_chain ho ho' ha hb hc hm) fun σ H Q h => by
  obtain ⟨ρ, P, r, hu, hP⟩ := h
  refine ⟨ρ, _, r, hu, fun dx n hx v H1 r1 f1 p1 => ⟨ρ.f n, _, r1, hx, fun dy m hy w H2 r2 f2 p2 => ?_⟩⟩
  refine ⟨OO O0 ρ, dx, dy, _, r2.tr, p1.keep (Frm.keepsO (ρ := ρ) f2), p2, hy, fun d hd v' H3 sm p3 => ?_⟩
  have r3 := r2.same sm
  have f3 : Frm ρ.pen H H3 := (f1.trans f2).trans (.of sm)
  cases p3 with
  | bl k => cases k with
    | true =>
      refine ⟨true, rfl, iteT ⟨ρ.f m, _, r3, hd, fun dw q hw w2 H4 r4 f4 p4 => ?_⟩⟩
      refine ⟨OO O0 ρ, dy, dw, _, r4.tr, (p2.keep (.same sm)).keep (Frm.keepsO (ρ := ρ) f4), p4, hw, fun d' hd' v2 H5 sm2 p5 => ?_⟩
      exact hP d' q hd' v2 H5 (r4.same sm2) ((f3.trans f4).trans (.of sm2)) p5
    | false => exact ⟨false, rfl, iteF (hP (.bl false) m hd _ H3 r3 f3 (.bl false))⟩
  | _ => exact hd.elim
theorem ut_chain {op op' : CmpOp} {g g' : G2} (ho : OpR X (compareOp op) (lR2 X.K g)) (ho' : OpR X (compareOp op') (lR2 X.K g')) (ha : UPE X O0 H0 a ua) (hb : UPE X O0 H0 b ub) (hc : UPE X O0 H0 c uc)
    (hm : lastMarks [op, op'] [b, c] = false := by with_unfolding_all rfl) : UPT X O0 H0 (.Compare a [op, op'] [b, c] pos) (uTB (uChain g g' ua ub uc)) := PT.imp (pt_chain ho ho' ha hb hc hm) fun σ H Q h => by
  obtain ⟨ρ, P, r, hu, hP⟩ := tb h
  refine ⟨ρ, _, r, hu, fun dx n hx v H1 r1 f1 p1 => ⟨ρ.f n, _, r1, hx, fun dy m hy w H2 r2 f2 p2 => ?_⟩⟩
  refine ⟨OO O0 ρ, dx, dy, _, r2.tr, p1.keep (Frm.keepsO (ρ := ρ) f2), p2, hy, fun d hd v' H3 sm p3 => ?_⟩
  have r3 := r2.same sm
  have f3 : Frm ρ.pen H H3 := (f1.trans f2).trans (.of sm)
  cases p3 with
  | bl k => cases k with
    | true =>
      refine ⟨true, rfl, iteT ⟨ρ.f m, _, r3, hd, fun dw q hw w2 H4 r4 f4 p4 => ?_⟩⟩
      refine ⟨OO O0 ρ, dy, dw, _, r4.tr, (p2.keep (.same sm)).keep (Frm.keepsO (ρ := ρ) f4), p4, hw, fun d' hd' v2 H5 sm2 p5 => ?_⟩
      exact hP d' q hd' v2 H5 (r4.same sm2) ((f3.trans f4).trans (.of sm2)) p5
    | false => exact ⟨false, rfl, iteF (hP (.bl false) m hd _ H3 r3 f3 (.bl false))⟩
  | _ => exact hd.elim

/-! ### truth -/
theorem Rp.tru {K : PySem.W.Frag} {O : Ad} {H : Hp} {v : V} {d : D} {k : Bool} (h : Rp K O H v d) (e : d.tru = some k) : TruV K v H k := by
  have len0 : ∀ {vs : List V} {ds : List D}, RpA K O H vs ds → vs.isEmpty = ds.isEmpty := fun h => by cases h <;> rfl
  cases h with
  | non => cases e; rfl
  | bl b => cases e; rfl
  | int i => cases e; rfl
  | str x =>
    have e' : (if x.length ≤ sizeLine then some ((x.length : Int) != 0) else none) = some k := e
    by_cases hz : x.length ≤ sizeLine
    · rw [if_pos hz] at e'
      cases e'
      exact ⟨hz, rfl⟩
    · rw [if_neg hz] at e'
      cases e'
  | lst l a => cases e; exact .inl ⟨_, l.sq, by rw [len0 a]⟩
  | tup l a => cases e; exact .inr (.inl ⟨_, l.sq, by rw [len0 a]⟩)
  | dic n h r => cases e
  | ref _ => cases e
  | ty _ => cases e
  | exc _ _ => cases e
  | excf _ _ _ _ _ => cases e
  | rcd _ _ _ _ => cases e
  | cls _ => cases e
theorem ut_tru (ha : UPE X O0 H0 a ua) (he : ∀ whole, isTrue a X.env whole = (do let v ← whole; standAt a.pos; holding [v] (truthy v))) : UPT X O0 H0 a (uTru ua) :=
  PT.imp (pt_truth ha he) fun σ H Q ⟨ρ, P, r, hu, hP⟩ => ⟨ρ, _, r, hu, fun d n hd v H1 r1 f1 p1 => by
    split at hd
    · rename_i b e
      exact ⟨b, p1.tru e, hP b n hd H1 r1 f1⟩
    · exact hd.elim⟩
abbrev UPW (X : Cx) (O0 : Ad) (H0 : Hp) (e : Expr) (u : UT) : Prop := PW X e (lT X.K O0 H0 u)
variable {ta tb' : UT} {rest : List Expr}
theorem uw_and1 (ha : UPT X O0 H0 a ta) : UPW X O0 H0 (.BoolOp .And [a] pos) ta := pw_and1 ha
theorem uw_or1 (ha : UPT X O0 H0 a ta) : UPW X O0 H0 (.BoolOp .Or [a] pos) ta := pw_or1 ha
theorem uw_and (ha : UPT X O0 H0 a ta) (hb : UPW X O0 H0 (.BoolOp .And (b :: rest) pos) tb') : UPW X O0 H0 (.BoolOp .And (a :: b :: rest) pos) (uAndT ta tb') :=
  PW.imp (pw_and ha hb) fun σ H Q ⟨ρ, P, r, hu, hP⟩ => ⟨ρ, _, r, hu, fun k n hk H1 r1 f1 => by
    cases k with
    | true => exact iteT ⟨ρ.f n, _, r1, hk, fun k2 m hk2 H2 r2 f2 => hP k2 m hk2 H2 r2 (f1.trans f2)⟩
    | false => exact iteF (hP false n hk H1 r1 f1)⟩
theorem uw_or (ha : UPT X O0 H0 a ta) (hb : UPW X O0 H0 (.BoolOp .Or (b :: rest) pos) tb') : UPW X O0 H0 (.BoolOp .Or (a :: b :: rest) pos) (uOrT ta tb') :=
  PW.imp (pw_or ha hb) fun σ H Q ⟨ρ, P, r, hu, hP⟩ => ⟨ρ, _, r, hu, fun k n hk H1 r1 f1 => by
    cases k with
    | true => exact iteT (hP true n hk H1 r1 f1)
    | false => exact iteF ⟨ρ.f n, _, r1, hk, fun k2 m hk2 H2 r2 f2 => hP k2 m hk2 H2 r2 (f1.trans f2)⟩⟩
theorem ut_not (ha : UPT X O0 H0 a ta) : UPT X O0 H0 (.UnaryOp .Not a pos) (uNotT ta) :=
  PT.imp (pt_not ha) fun σ H Q ⟨ρ, P, r, hu, hP⟩ => ⟨ρ, _, r, hu, fun k n hk H1 r1 f1 => hP (!k) n hk H1 r1 f1⟩
theorem up_one {op} (ha : UPE X O0 H0 a ua) : UPE X O0 H0 (.BoolOp op [a] pos) ua := pe_one ha
theorem up_and (ha : UPE X O0 H0 a ua) (hb : UPE X O0 H0 (.BoolOp .And (b :: rest) pos) ub) : UPE X O0 H0 (.BoolOp .And (a :: b :: rest) pos) (uAnd ua ub) :=
  PE.imp (pe_and ha hb) fun σ H Q ⟨ρ, P, r, hu, hP⟩ => ⟨ρ, _, r, hu, fun d n hd v H1 r1 f1 p1 => by
    cases p1 with
    | bl k => cases k with
      | true => exact ⟨true, rfl, iteT ⟨ρ.f n, _, r1, hd, fun d2 m hd2 v2 H2 r2 f2 p2 => hP d2 m hd2 v2 H2 r2 (f1.trans f2) p2⟩⟩
      | false => exact ⟨false, rfl, iteF (hP _ n hd _ H1 r1 f1 (.bl false))⟩
    | _ => exact hd.elim⟩
theorem up_not (ha : UPE X O0 H0 a ua) : UPE X O0 H0 (.UnaryOp .Not a pos) (uNot ua) :=
  PE.imp (pe_not ha) fun σ H Q ⟨ρ, P, r, hu, hP⟩ => ⟨ρ, _, r, hu, fun d n hd v H1 r1 f1 p1 => by
    cases p1 with
    | bl k => exact ⟨k, rfl, hP _ n hd _ H1 r1 f1 (.bl (!k))⟩
    | _ => exact hd.elim⟩
/-! ### argument lists, displays -/
def UPL (X : Cx) (O0 : Ad) (H0 : Hp) (es : List Expr) (u : UA) : Prop := ∃ t, PA X es t ∧ ∀ σ H Q, lA X.K O0 H0 u σ H (fun vs H1 => vs.length = es.length → Q vs H1) → t σ H Q
theorem UPL.run {es : List Expr} {u : UA} (h : UPL X O0 H0 es u) : UPA X O0 H0 es u := by
  obtain ⟨t, ht, hi⟩ := h
  exact PA.imp ht fun σ H Q q => hi σ H Q (by
    obtain ⟨ρ, P, r, hu, hP⟩ := q
    exact ⟨ρ, P, r, hu, fun ds n hd vs H1 r1 f1 p1 _ => hP ds n hd vs H1 r1 f1 p1⟩)
theorem ul_nil : UPL X O0 H0 [] uNil := ⟨_, pa_nil, fun σ H Q ⟨ρ, P, r, hu, hP⟩ => hP [] ρ.fuel hu [] H r Frm.refl .nil rfl⟩
theorem ul_cons {es : List Expr} {ur : UA} (ha : UPE X O0 H0 e ua) (hr : UPL X O0 H0 es ur) (hs : starEach (e :: es) X.env = (false, eval e X.env) :: starEach es X.env := by rfl) : UPL X O0 H0 (e :: es) (uCons ua ur) := by
  obtain ⟨t, ht, hi⟩ := hr
  refine ⟨_, pa_cons ha ht hs, fun σ H Q ⟨ρ, P, r, hu, hP⟩ => ⟨ρ, _, r, hu, fun d n hd v H1 r1 f1 p1 => ?_⟩⟩
  refine hi σ H1 (fun vs H2 => Q (v :: vs) H2) ⟨ρ.f n, _, r1, hd, fun ds m hds vs H2 r2 f2 p2 hl => ?_⟩
  exact hP (d :: ds) m hds (v :: vs) H2 r2 (f1.trans f2) (.cons (p1.keep (Frm.keepsO (ρ := ρ) f2)) p2) (by rw [List.length_cons, List.length_cons, hl])
theorem up_tup {es : List Expr} {ur : UA} {x1} (h : UPL X O0 H0 es ur) (hl : es.length ≤ sizeLine := by decide) : UPE X O0 H0 (.Tuple es x1 pos) (uTup ur) := by
  obtain ⟨t, ht, hi⟩ := h
  refine PE.imp (pe_tup ht) fun σ H Q ⟨ρ, P, r, hu, hP⟩ => hi σ H _ ⟨ρ, _, r, hu, fun ds n hd vs H1 r1 f1 p1 hn => ⟨by rw [hn]; exact hl, fun p hp => ?_⟩⟩
  have sm := Same.new (o := HO.tup vs) hp
  exact hP (.tup ds) n hd _ _ (r1.same sm) (f1.trans (.of sm)) (.tup (.inl ⟨r1.fresh hp, upd_same⟩) (p1.keep (.same sm)))
theorem up_lst {es : List Expr} {ur : UA} (h : UPL X O0 H0 es ur) (hl : es.length ≤ sizeLine := by decide) : UPE X O0 H0 (.List es pos) (uLst ur) := by
  obtain ⟨t, ht, hi⟩ := h
  refine PE.imp (pe_lst ht) fun σ H Q ⟨ρ, P, r, hu, hP⟩ => hi σ H _ ⟨ρ, _, r, hu, fun ds n hd vs H1 r1 f1 p1 hn => ⟨by rw [hn]; exact hl, fun p hp => ?_⟩⟩
  have sm := Same.new (o := HO.lst vs) hp
  exact hP (.lst ds) n hd _ _ (r1.same sm) (f1.trans (.of sm)) (.lst ⟨r1.fresh hp, upd_same⟩ (p1.keep (.same sm)))

/-! ### subscripts, slices -/
def gIx : G2
  | .lst ds, .int i, Q => match atI ds i with
    | some d => Q d
    | none => False
  | .tup ds, .int i, Q => match atI ds i with
    | some d => Q d
    | none => False
  | .str z, .int i, Q => z.length ≤ sizeLine ∧ match atI z.cps.toList i with
    | some c => Q (.str ⟨#[c]⟩)
    | none => False
  | _, _, _ => False
theorem RpA.atI {K : PySem.W.Frag} {O : Ad} {H : Hp} {vs : List V} {ds : List D} {i : Int} {d : D} (h : RpA K O H vs ds) (e : L2.atI ds i = some d) : ∃ v, L2.atI vs i = some v ∧ Rp K O H v d := by
  unfold L2.atI at e ⊢
  rw [h.length]
  cases q : ixN ds.length i with
  | none => rw [q] at e; cases e
  | some j =>
    rw [q] at e
    exact h.get (i := j) e
theorem ix_U : IxR X (lR2 X.K gIx) := by
  intro value slice pins s σ H x y v u Q I rx ry ⟨O, dx, dy, P, tr, hx, hy, hg, hP⟩ hs
  cases dx <;> cases dy <;> try exact hg.elim
  · rename_i z i
    cases hx; cases hy
    obtain ⟨hz, hg⟩ := hg
    split at hg
    · rename_i c e
      exact ix_str value slice pins s σ H _ _ v u Q I rx ry ⟨z, i, c, rfl, rfl, hz, e, hP _ hg _ _ (Same.refl _) (.str _)⟩ hs
    · exact hg.elim
  · rename_i ds i
    cases hx with
    | lst lx ax =>
      cases hy
      dsimp only [gIx] at hg
      split at hg
      · rename_i d e
        obtain ⟨w, e1, rw1⟩ := ax.atI e
        exact ix_list value slice pins s σ H _ _ v u Q I rx ry ⟨_, _, _, w, rfl, rfl, lx.sq, e1, hP _ hg _ _ (Same.refl _) rw1⟩ hs
      · exact hg.elim
  · rename_i ds i
    cases hx with
    | tup lx ax =>
      cases hy
      dsimp only [gIx] at hg
      split at hg
      · rename_i d e
        obtain ⟨w, e1, rw1⟩ := ax.atI e
        exact ix_tup value slice pins s σ H _ _ v u Q I rx ry ⟨_, _, _, w, rfl, rfl, lx.sq, e1, hP _ hg _ _ (Same.refl _) rw1⟩ hs
      · exact hg.elim
theorem up_ix (ha : UPE X O0 H0 a ua) (hb : UPE X O0 H0 b ub) (hs : PlainIx b := by exact fun _ _ => rfl) : UPE X O0 H0 (.Subscript a b pos) (uOp gIx ua ub) :=
  PE.imp (pe_ix ix_U ha hb hs) fun _ _ _ h => two h
/-- the part of a list between two places -/
def cutD {α : Type} (xs : List α) (lo hi : Option Int) : List α := (xs.drop (HT.sIx xs.length 0 lo)).take (HT.sIx xs.length xs.length hi - HT.sIx xs.length 0 lo)
theorem RpA.cut {K : PySem.W.Frag} {O : Ad} {H : Hp} {vs : List V} {ds : List D} (lo hi : Option Int) (h : RpA K O H vs ds) : RpA K O H (cutV vs lo hi) (cutD ds lo hi) := by
  unfold cutV cutD
  rw [h.length]
  exact (h.drop _).take _
def gCut : D → Option Int → Option Int → (D → Prop) → Prop
  | .lst ds, lo, hi, Q => Q (.lst (cutD ds lo hi))
  | .tup ds, lo, hi, Q => Q (.tup (cutD ds lo hi))
  | _, _, _, _ => False
def lSl (K : PySem.W.Frag) : V → Option Int → Option Int → Hp → VK → Prop := fun x lo hi H Q => ∃ (O : Ad) (dx : D) (P : D → Prop), (∀ b, O b → H b ≠ none) ∧ Rp K O H x dx ∧ gCut dx lo hi P ∧ ∀ d, P d → ∀ v H', Same H H' → Rp K O H' v d → Q v H'
theorem cutD_whole {α : Type} {xs : List α} {lo hi : Option Int} (h : HT.sIx xs.length 0 lo = 0 ∧ HT.sIx xs.length xs.length hi = xs.length) : cutD xs lo hi = xs := by
  unfold cutD
  rw [h.1, h.2]
  simp
theorem sl_U : SlR X (lSl X.K) := by
  intro pins s σ H x v vl vu lo hi sl Q I rx hs pl pu ⟨O, dx, P, tr, hx, hg, hP⟩
  cases dx <;> try exact hg.elim
  · cases hx with
    | lst lx ax =>
      refine sl_list pins s σ H _ v vl vu lo hi sl Q I rx hs pl pu ⟨_, _, rfl, lx.sq, fun p hp => ?_⟩
      have sm := fun o => Same.new (o := o) hp
      exact hP _ hg _ _ (sm _) (.lst ⟨nofree tr hp, upd_same⟩ ((ax.cut lo hi).keep (.same (sm _))))
  · cases hx with
    | tup lx ax =>
      refine sl_tupA pins s σ H _ v vl vu lo hi sl Q I rx hs pl pu ⟨_, _, rfl, lx.sq, fun e => ?_, fun _ p hp => ?_⟩
      · rw [ax.length] at e
        have z := hg
        dsimp only [gCut] at z
        rw [cutD_whole e] at z
        exact hP _ z _ _ (Same.refl _) (.tup lx ax)
      · have sm := fun o => Same.new (o := o) hp
        exact hP _ hg _ _ (sm _) (.tup (.inl ⟨nofree tr hp, upd_same⟩) ((ax.cut lo hi).keep (.same (sm _))))
abbrev UO := Ro → (Option Int → Nat → Prop) → Prop
def uNoP : UO := fun ρ Q => Q none ρ.fuel
def uPart (u : UE) : UO := fun ρ Q => u ρ fun d n => match d with
  | .int i => Q (some i) n
  | _ => False
def lO (K : PySem.W.Frag) (O0 : Ad) (H0 : Hp) (u : UO) : TO := fun σ H Q => ∃ (ρ : Ro) (P : Option Int → Nat → Prop), R K O0 H0 σ H ρ ∧ u ρ P ∧
  ∀ d n, P d n → ∀ H', R K O0 H0 σ H' (ρ.f n) → Frm ρ.pen H H' → Q d H'
theorem PO.imp {X : Cx} {e : Option Expr} {t t' : TO} (h : PO X e t) (hi : ∀ σ H Q, t' σ H Q → t σ H Q) : PO X e t' := by
  obtain ⟨run⟩ := h
  constructor
  intros
  rename_i q
  exact run _ _ _ _ _ (by assumption) (hi _ _ _ q)
abbrev UPO (X : Cx) (O0 : Ad) (H0 : Hp) (e : Option Expr) (u : UO) : Prop := PO X e (lO X.K O0 H0 u)
theorem uo_none : UPO X O0 H0 none uNoP := PO.imp po_none fun σ H Q ⟨ρ, P, r, hu, hP⟩ => hP none ρ.fuel hu H r Frm.refl
theorem uo_some (h : UPE X O0 H0 e ua) : UPO X O0 H0 (some e) (uPart ua) := PO.imp (po_some h) fun σ H Q ⟨ρ, P, r, hu, hP⟩ => ⟨ρ, _, r, hu, fun d n hd v H1 r1 f1 p1 => by
  cases p1 with
  | int i => exact ⟨i, rfl, hP (some i) n hd H1 r1 f1⟩
  | _ => exact hd.elim⟩
def uCut (a : UE) (l h : UO) : UE := fun ρ Q => a ρ fun x n => l (ρ.f n) fun lo m => h (ρ.f m) fun hi k => gCut x lo hi fun z => Q z k
theorem up_cut {lo hi : Option Expr} {ul uh : UO} {p2 : Pos} (ha : UPE X O0 H0 a ua) (hl : UPO X O0 H0 lo ul) (hh : UPO X O0 H0 hi uh) : UPE X O0 H0 (.Subscript a (.Slice lo hi none p2) pos) (uCut ua ul uh) :=
  PE.imp (pe_slice sl_U ha hl hh) fun σ H Q ⟨ρ, P, r, hu, hP⟩ => by
    refine ⟨ρ, _, r, hu, fun dx n hx v H1 r1 f1 p1 => ⟨ρ.f n, _, r1, hx, fun o1 m h1 H2 r2 f2 => ⟨ρ.f m, _, r2, h1, fun o2 k h2 H3 r3 f3 => ?_⟩⟩⟩
    refine ⟨OO O0 ρ, dx, _, r3.tr, (p1.keep (Frm.keepsO (ρ := ρ) f2)).keep (Frm.keepsO (ρ := ρ) f3), h2, fun d hd v' H4 sm p4 => ?_⟩
    exact hP d k hd v' H4 (r3.same sm) (((f1.trans f2).trans f3).trans (.of sm)) p4

/-! ### calls of what is built in -/
abbrev GL := List D → (D → Prop) → Prop
def lCR (K : PySem.W.Frag) (g : GL) : List V → Hp → VK → Prop := fun vs H Q => ∃ (O : Ad) (ds : List D) (P : D → Prop), (∀ b, O b → H b ≠ none) ∧ RpA K O H vs ds ∧ g ds P ∧ ∀ d, P d → ∀ v H', Same H H' → Rp K O H' v d → Q v H'
def uB (g : GL) (a : UA) : UE := fun ρ Q => a ρ fun ds n => g ds fun z => Q z n
theorem cb {es : List Expr} {u : UA} {g : GL} (h : UPL X O0 H0 es u) : ∃ t, PA X es t ∧ ∀ σ H Q, lE X.K O0 H0 (uB g u) σ H Q → tCB (lCR X.K g) t σ H Q := by
  obtain ⟨t, ht, hi⟩ := h
  refine ⟨t, ht, fun σ H Q ⟨ρ, P, r, hu, hP⟩ => hi σ H _ ⟨ρ, _, r, hu, fun ds n hd vs H1 r1 f1 p1 _ => ?_⟩⟩
  exact ⟨OO O0 ρ, ds, _, r1.tr, p1, hd, fun d hd' v' H2 sm p2 => hP d n hd' v' H2 (r1.same sm) (f1.trans (.of sm)) p2⟩
theorem up_callB {id : String} {x : Str} {p : Pos} {es : List Expr} {u : UA} {g : GL} (hc : CallR X (.builtin id) (lCR X.K g)) (hg : Gl X x) (hm : X.mg x = none) (hv : bootBuiltins x = some (.builtin id)) (ha : UPL X O0 H0 (e :: es) u)
    (hn : x ≠ "__name__" := by decide) (hdb : (x == ("__debug__" : Str)) = false := by decide) (he : starEach (e :: es) X.env = (false, eval e X.env) :: starEach es X.env := by rfl) (hpl : (backTo pos (starEach es X.env)).any (·.1) = false := by rfl) :
    UPE X O0 H0 (.Call (.Name x p) (e :: es) [] pos) (uB g u) := by
  obtain ⟨t, ht, hi⟩ := cb (g := g) ha
  exact PE.imp (pe_callB hc hg hm hv ht hn hdb he hpl) hi
theorem up_callTy {T : String} {x : Str} {p : Pos} {es : List Expr} {u : UA} {g : GL} (hc : CallR X (.type T) (lCR X.K g)) (hg : Gl X x) (hm : X.mg x = none) (hv : bootBuiltins x = some (.type T)) (ha : UPL X O0 H0 (e :: es) u)
    (hn : x ≠ "__name__" := by decide) (hdb : (x == ("__debug__" : Str)) = false := by decide) (he : starEach (e :: es) X.env = (false, eval e X.env) :: starEach es X.env := by rfl) (hpl : (backTo pos (starEach es X.env)).any (·.1) = false := by rfl) :
    UPE X O0 H0 (.Call (.Name x p) (e :: es) [] pos) (uB g u) := by
  obtain ⟨t, ht, hi⟩ := cb (g := g) ha
  exact PE.imp (pe_callTy hc hg hm hv ht hn hdb he hpl) hi

def gLen : GL
  | [.str s], Q => s.length ≤ sizeLine ∧ Q (.int s.length)
  | [.lst ds], Q => Q (.int ds.length)
  | [.tup ds], Q => Q (.int ds.length)
  | _, _ => False
theorem call_lenU : CallR X (.builtin "len") (lCR X.K gLen) := by
  intro pins s σ H xs us Q I rx ⟨O, ds, P, tr, ha, hg, hP⟩
  unfold gLen at hg
  split at hg
  · cases ha with
    | cons h t => cases t; cases h; exact call_len pins s σ H _ us Q I rx ⟨_, _, rfl, ⟨hg.1, rfl⟩, hP _ hg.2 _ _ (Same.refl _) (.int _)⟩
  · cases ha with
    | cons h t =>
      cases t
      cases h with
      | lst l a => exact call_len pins s σ H _ us Q I rx ⟨_, _, rfl, .inl ⟨_, l.sq, rfl⟩, hP _ (by rw [a.length]; exact hg) _ _ (Same.refl _) (.int _)⟩
  · cases ha with
    | cons h t =>
      cases t
      cases h with
      | tup l a => exact call_len pins s σ H _ us Q I rx ⟨_, _, rfl, .inr ⟨_, l.sq, rfl⟩, hP _ (by rw [a.length]; exact hg) _ _ (Same.refl _) (.int _)⟩
  · exact hg.elim
def gAbs : GL
  | [.int i], Q => Q (.int (if i < 0 then -i else i))
  | _, _ => False
theorem call_absU : CallR X (.builtin "abs") (lCR X.K gAbs) := by
  intro pins s σ H xs us Q I rx ⟨O, ds, P, tr, ha, hg, hP⟩
  unfold gAbs at hg
  split at hg
  · cases ha with
    | cons h t => cases t; cases h; exact call_abs pins s σ H _ us Q I rx ⟨_, rfl, hP _ hg _ _ (Same.refl _) (.int _)⟩
  · exact hg.elim
def gMax2 : GL
  | [.int i, .int j], Q => Q (.int (if j > i then j else i))
  | _, _ => False
def gMin2 : GL
  | [.int i, .int j], Q => Q (.int (if j < i then j else i))
  | _, _ => False
theorem call_min2U (hc : X.calm = true) : CallR X (.builtin "min") (lCR X.K gMin2) := by
  intro pins s σ H xs us Q I rx ⟨O, ds, P, tr, ha, hg, hP⟩
  unfold gMin2 at hg
  split at hg
  · cases ha with
    | cons h t => cases t with
      | cons h2 t => cases t; cases h; cases h2; exact call_min2 hc pins s σ H _ us Q I rx ⟨_, _, rfl, hP _ hg _ _ (Same.refl _) (.int _)⟩
  · exact hg.elim
def gInt : GL
  | [.int i], Q => Q (.int i)
  | [.bl b], Q => Q (.int (if b then 1 else 0))
  | _, _ => False
theorem call_intU : CallR X (.type "int") (lCR X.K gInt) := by
  intro pins s σ H xs us Q I rx ⟨O, ds, P, tr, ha, hg, hP⟩
  unfold gInt at hg
  split at hg
  · cases ha with
    | cons h t => cases t; cases h; exact call_int1 pins s σ H _ us Q I rx (.inl ⟨_, rfl, hP _ hg _ _ (Same.refl _) (.int _)⟩)
  · cases ha with
    | cons h t => cases t; cases h; exact call_int1 pins s σ H _ us Q I rx (.inr ⟨_, rfl, hP _ hg _ _ (Same.refl _) (.int _)⟩)
  · exact hg.elim
def gList : GL
  | [.lst ds], Q => Q (.lst ds)
  | [.tup ds], Q => Q (.lst ds)
  | _, _ => False
def gTuple : GL
  | [.lst ds], Q => Q (.tup ds)
  | [.tup ds], Q => Q (.tup ds)
  | _, _ => False
theorem call_tupleU : CallR X (.type "tuple") (lCR X.K gTuple) := by
  intro pins s σ H xs us Q I rx ⟨O, ds, P, tr, ha, hg, hP⟩
  unfold gTuple at hg
  split at hg
  · cases ha with
    | cons h t =>
      cases t
      cases h with
      | lst l a =>
        refine call_tuple_of pins s σ H _ us Q I rx ⟨_, _, rfl, .inl ⟨l.sq, fun p hp => ?_⟩⟩
        have sm := fun o => Same.new (o := o) hp
        exact hP _ hg _ _ (sm _) (.tup (.inl ⟨nofree tr hp, upd_same⟩) (a.keep (.same (sm _))))
  · cases ha with
    | cons h t =>
      cases t
      cases h with
      | tup l a => exact call_tuple_of pins s σ H _ us Q I rx ⟨_, _, rfl, .inr ⟨l.sq, hP _ hg _ _ (Same.refl _) (.tup l a)⟩⟩
  · exact hg.elim
/-! ### isinstance of data -/
def D.tyn : D → Option String
  | .non => some "NoneType"
  | .bl _ => some "bool"
  | .int _ => some "int"
  | .str _ => some "str"
  | .lst _ => some "list"
  | .tup _ => some "tuple"
  | .dic _ => some "dict"
  | _ => none
def isTy (t n : String) : Bool := t == n || (t == "bool" && n == "int")
def tyNames : List String := ["int", "bool", "str", "list", "tuple", "dict"]
theorem kit_all : (["NoneType", "bool", "int", "str", "list", "tuple", "dict"].all fun t => tyNames.all fun n => decide (kitB t n = some (isTy t n))) = true := by decide +kernel
theorem tyn_in {d : D} {t : String} (h : d.tyn = some t) : t ∈ ["NoneType", "bool", "int", "str", "list", "tuple", "dict"] := by
  cases d <;> cases h <;> simp
theorem kit_of_ty {t n : String} (h : t ∈ ["NoneType", "bool", "int", "str", "list", "tuple", "dict"]) (hn : n ∈ tyNames) : kitB t n = some (isTy t n) := by
  have a := List.all_eq_true.mp kit_all t h
  exact of_decide_eq_true (List.all_eq_true.mp a n hn)
theorem Rp.tyx {K : PySem.W.Frag} {O : Ad} {H : Hp} {v : V} {d : D} {t : String} (h : Rp K O H v d) (e : d.tyn = some t) : TyX K H v (.type t) := by
  cases h with
  | non => cases e; exact .base .non
  | bl b => cases e; exact .base (.bl b)
  | int i => cases e; exact .base (.int i)
  | str x => cases e; exact .base (.str x)
  | lst l a => cases e; exact .base (.lst l.2)
  | tup l a =>
    cases e
    rcases l with l | ⟨o, its, n, h1, h2, _⟩
    · exact .base (.tup l.2)
    · exact .kTuple h1 h2
  | dic n h r => cases e; exact .fDict h
  | ref _ => cases e
  | ty _ => cases e
  | exc _ _ => cases e
  | excf _ _ _ _ _ => cases e
  | rcd _ _ _ _ => cases e
  | cls _ => cases e
/-- isinstance(x, T), isinstance(x, (T1, ..)), T built in -/
def isD (d : D) (n : String) : Bool := match d.tyn with
  | some t => isTy t n
  | none => false
def tyOf : List D → Option (List String)
  | [] => some []
  | .ty n :: r => (tyOf r).map (n :: ·)
  | _ => none
def gIsi : GL
  | [x, .ty n], Q => (x.tyn.isSome = true ∧ n ∈ tyNames) ∧ Q (.bl (isD x n))
  | [x, .tup cs], Q => match tyOf cs with
    | some ns => (x.tyn.isSome = true ∧ ∀ n ∈ ns, n ∈ tyNames) ∧ Q (.bl (ns.any (isD x)))
    | none => False
  | _, _ => False
theorem tyOf_ok {K : PySem.W.Frag} {O : Ad} {H : Hp} : ∀ {cs : List D} {ns : List String} {vs : List V}, tyOf cs = some ns → RpA K O H vs cs → Paired ClsV vs (ns.map Value.type)
  | [], _, _, e, .nil => by cases e; exact .nil
  | .ty n :: r, ns, _, e, .cons h t => by
    have e' : (tyOf r).map (n :: ·) = some ns := e
    cases q : tyOf r with
    | none => rw [q] at e'; cases e'
    | some ms =>
      rw [q] at e'
      cases e'
      cases h
      exact .cons (.ty n) (tyOf_ok q t)
  | .non :: _, _, _, e, _ => by cases e
  | .bl _ :: _, _, _, e, _ => by cases e
  | .int _ :: _, _, _, e, _ => by cases e
  | .str _ :: _, _, _, e, _ => by cases e
  | .lst _ :: _, _, _, e, _ => by cases e
  | .tup _ :: _, _, _, e, _ => by cases e
  | .dic _ :: _, _, _, e, _ => by cases e
  | .ref _ :: _, _, _, e, _ => by cases e
  | .exc _ _ :: _, _, _, e, _ => by cases e
  | .cls _ :: _, _, _, e, _ => by cases e
theorem kitAny_ty {K : PySem.W.Frag} {t : String} (h : t ∈ ["NoneType", "bool", "int", "str", "list", "tuple", "dict"]) : ∀ ns : List String, (∀ n ∈ ns, n ∈ tyNames) → PySem.W.kitAny K (.type t) (ns.map Value.type) = some (ns.any fun n => isTy t n)
  | [], _ => kitAny_nil
  | n :: ns, hn => by
    refine kitAny_cons (kit_ty (kit_of_ty h (hn n List.mem_cons_self))) (fun e => ?_) fun e => ?_
    · rw [List.any_cons, e, Bool.false_or]
      exact kitAny_ty h ns fun m hm => hn m (List.mem_cons_of_mem _ hm)
    · rw [List.any_cons, e, Bool.true_or]
theorem call_isiU : CallR X (.builtin "isinstance") (lCR X.K gIsi) := by
  intro pins s σ H xs us Q I rx ⟨O, ds, P, tr, ha, hg, hP⟩
  unfold gIsi at hg
  split at hg
  · rename_i x n
    obtain ⟨⟨h1, h2⟩, hg⟩ := hg
    obtain ⟨t, ht⟩ := Option.isSome_iff_exists.mp h1
    cases ha with
    | cons h a => cases a with
      | cons h' a =>
        cases a
        cases h'
        refine call_isi pins s σ H _ us Q I rx ⟨_, _, _, _, _, rfl, .ty n, h.tyx ht, kit_ty (kit_of_ty (tyn_in ht) h2), ?_⟩
        unfold isD at hg
        rw [ht] at hg
        exact hP _ hg _ _ (Same.refl _) (.bl _)
  · rename_i x cs
    split at hg
    · rename_i ns e
      obtain ⟨⟨h1, h2⟩, hg⟩ := hg
      obtain ⟨t, ht⟩ := Option.isSome_iff_exists.mp h1
      cases ha with
      | cons h a => cases a with
        | cons h' a =>
          cases a
          cases h' with
          | tup l a' =>
            have hq : P (.bl (ns.any fun n => isTy t n)) := by
              have e2 : isD x = fun n => isTy t n := by
                funext n
                unfold isD
                rw [ht]
              rw [e2] at hg
              exact hg
            rcases l with l | ⟨o, its, n, k1, k2, k3, _, k5⟩
            · exact call_isiT pins s σ H _ us Q I rx ⟨_, _, _, _, _, _, rfl, l.2, tyOf_ok e a', h.tyx ht, kitAny_ty (tyn_in ht) ns h2, hP _ hq _ _ (Same.refl _) (.bl _)⟩
            · obtain ⟨oc, od, dt, sl⟩ := o
              simp only at k2 k3
              subst k2 k3
              have e3 := ClsV.all (tyOf_ok e a') k5
              refine call_isiK pins s σ H _ us Q I rx ⟨_, _, od, ns.map Value.type, n, sl, _, _, rfl, ?_, h.tyx ht, kitAny_ty (tyn_in ht) ns h2, hP _ hq _ _ (Same.refl _) (.bl _)⟩
              rw [k1, ← e3]
    · exact hg.elim
  · exact hg.elim
end
end U

set_option Elab.async false
set_option linter.all false
set_option maxRecDepth 100000
set_option maxHeartbeats 4000000
/-! Calls of defs, statements, a def's promise, over data. -/
namespace U
open PySem PySem.Spec L2
open PyProof.Rows hiding St

/-- an exception: its class; the field and its value, if it has its own dict -/
structure UX where
  cls : Cn
  fld : Option (List (Str × D))
abbrev USp := List D → PenT → Nat → (D → Nat → Prop) → (UX → Nat → Prop) → Prop
def XRp (K : PySem.W.Frag) (O : Ad) (H : Hp) (x : UX) (d : Option Addr) : Prop := match x.fld with
  | none => d = none
  | some fs => ∃ a vs, d = some a ∧ ¬ O a ∧ H a = some (.xd vs) ∧ RpF K O H vs fs
theorem XRp.keep {K : PySem.W.Frag} {O O' : Ad} {H H' : Hp} {x : UX} {d : Option Addr} (k : Keeps O O' H H') (h : XRp K O H x d) : XRp K O' H' x d := by
  unfold XRp at h ⊢
  split
  · rename_i e
    rw [e] at h
    exact h
  · rename_i fs e
    rw [e] at h
    obtain ⟨a, vs, e1, n, e2, r⟩ := h
    exact ⟨a, vs, e1, k.ow _ _ e2 n, k.hp _ _ e2 n, r.keep k⟩
/-- what a def promises, over data -/
def LSp (K : PySem.W.Frag) (usp : USp) : Sp := fun vs H Q E => ∃ (ds : List D) (O : Ad) (pen : PenT) (n : Nat) (P : D → Nat → Prop) (PX : UX → Nat → Prop),
  RpA K O H vs ds ∧ (∀ b, O b → H b ≠ none) ∧ (∀ p, IsPen pen p → O p) ∧ Pen K O H pen n ∧ usp ds pen n P PX ∧
  (∀ d m, P d m → ∀ v H', Frm pen H H' → Pen K O H' pen m → Rp K O H' v d → Q v H') ∧
  ∀ x m, PX x m → ∀ d H', Frm pen H H' → Pen K O H' pen m → XRp K O H' x d → E (x.cls.val K) d H'
/-- the wish about exceptions at the caller's slots -/
abbrev WU := UX → Ro → Prop
def LW (K : PySem.W.Frag) (O0 : Ad) (H0 : Hp) (W : WU) : WX := fun cls d σ H => ∃ (ρ : Ro) (x : UX), R K O0 H0 σ H ρ ∧ x.cls.val K = cls ∧ XRp K (OO O0 ρ) H x d ∧ W x ρ
abbrev W0 : WU := fun _ _ => False
theorem takesN {X : Cx} {O0 : Ad} {H0 : Hp} : Takes X (LW X.K O0 H0 W0) := (takes0 (X := X)).imp fun _ _ _ _ ⟨_, _, _, _, _, z⟩ => z
def uCall (usp : USp) (dfl : List D) (W : WU) (a : UA) : UE := fun ρ Q => a ρ fun ds n => usp (ds ++ dfl) ρ.pen n Q fun x m => W x (ρ.f m)
section
variable {X : Cx} {O0 : Ad} {H0 : Hp} {a b c e : Expr} {ua ub uc : UE} {pos p : Pos} {W : WU}
theorem call_data {usp : USp} {σ : L2.St} {H1 : Hp} {Q : VK} {ρ : Ro} {vs : List V} {ds : List D} {n : Nat} {P : D → Nat → Prop}
    (r1 : R X.K O0 H0 σ H1 (ρ.f n)) (p1 : RpA X.K (OO O0 ρ) H1 vs ds) (hu : usp ds ρ.pen n P fun x m => W x (ρ.f m))
    (hQ : ∀ d m, P d m → ∀ v H', R X.K O0 H0 σ H' (ρ.f m) → Frm ρ.pen H1 H' → Rp X.K (OO O0 ρ) H' v d → Q v H') : LSp X.K usp vs H1 Q (WE (LW X.K O0 H0 W) σ) := by
  refine ⟨ds, OO O0 ρ, ρ.pen, n, P, _, p1, r1.tr, fun p e => OO.pen p e, r1.pen, hu, fun d m hd v H' fr pn rp => ?_, fun x m hx d H' fr pn xr => ?_⟩
  · exact hQ d m hd v H' (r1.call (n := m) fr pn) fr rp
  · exact ⟨ρ.f m, x, r1.call (n := m) fr pn, rfl, xr, hx⟩
theorem up_call {k : Nat} {f : Addr} {fd : FuncData} {ps : List Str} {usp : USp} {dfl : List D} {dvs : List V} {dus : List Value} {x : Str} {es : List Expr} {u : UA}
    (F : FnG X.prog X.w X.K X.mg X.base k f fd ps (LSp X.K usp)) (hr : RG k X.A) (hg : Gl X x) (hm : X.mg x = some (.ref f)) (hk : PySem.W.keepIn X.K (.ref f) = true)
    (hb : Binds X.K fd ps dus) (hd : Vals dvs dus) (hdf : ∀ O H, RpA X.K O H dvs dfl) (tk : Takes X (LW X.K O0 H0 W)) (ha : UPL X O0 H0 (e :: es) u)
    (hdb : (x == ("__debug__" : Str)) = false := by decide) (he : starEach (e :: es) X.env = (false, eval e X.env) :: starEach es X.env := by rfl) (hpl : (backTo pos (starEach es X.env)).any (·.1) = false := by rfl) :
    UPE X O0 H0 (.Call (.Name x p) (e :: es) [] pos) (uCall usp dfl W u) := by
  obtain ⟨t, ht, hi⟩ := ha
  refine ⟨fun pins s σ H Q I ⟨ρ, P, r, hu, hP⟩ => ?_⟩
  refine wpAny_Call_Name_kw (ld_glob I hg hm ?_ hdb)
  refine PySem.W.callWith_K (h₀ := X.base) I.ok.mod.kin hk (thn (ht.run pos pins s σ H (fun vs H1 => LSp X.K usp (vs ++ dvs) H1 Q (WE (LW X.K O0 H0 W) σ)) I ?_) ?_) he hpl
  · refine hi σ H _ ⟨ρ, _, r, hu, fun ds n hds vs H1 r1 f1 p1 _ => ?_⟩
    exact call_data (ρ := ρ) r1 (p1.append (hdf _ _)) hds fun d m hd' v H' r2 f2 rp => hP d m hd' v H' r2 (f1.trans f2) rp
  · rintro us s1 ⟨vs, H1, I1, rv, q⟩
    refine ⟨I1.kIn, ?_⟩
    have r2 := rv.append hd
    have hl : (us ++ dus).length = ps.length := by rw [← r2.length]; exact F.len _ _ _ _ q
    exact run_fnG (args := ⟨us, []⟩) F hr (passAt tk σ) I1 (hb s1 us I1.kIn hl) r2 q
/-! ### statements -/
/-- what a def with trees hands back: data, a tree that is no one else's -/
inductive Rv where | dat (d : D) | new (as : List Addr) (d : D)
/-- a tree that is no one's yet, beside ρ -/
def Free (K : PySem.W.Frag) (O0 : Ad) (H0 : Hp) (σ : L2.St) (ρ : Ro) (H : Hp) (ns : List Addr) (v : V) (d : D) : Prop :=
  R K (fun b => O0 b ∨ b ∈ ns) H0 σ H ρ ∧ NtS K (OO (fun b => O0 b ∨ b ∈ ns) ρ) H ns v d ∧ ∀ b ∈ ns, ¬ OO O0 ρ b ∧ H0 b = none ∧ H b ≠ none
def RvOk (K : PySem.W.Frag) (O0 : Ad) (H0 : Hp) (σ : L2.St) (ρ : Ro) (H : Hp) (v : V) : Rv → Prop
  | .dat d => R K O0 H0 σ H ρ ∧ Rp K (OO O0 ρ) H v d
  | .new ns d => Free K O0 H0 σ ρ H ns v d
/-- nx: what follows; rt: what is handed back; rf: a list that is handed back and is no one else's; rn: of a def with trees -/
structure UEnds where
  nx : Ro → Prop
  rt : D → Nat → Prop
  rn : Rv → Ro → Prop := fun _ _ => False
  rf : List D → Nat → Prop := fun _ _ => False
  bk : Ro → Prop := fun _ => False
  ct : Ro → Prop := fun _ => False
abbrev US := UEnds → Ro → Prop
/-- from ρ, H on: what was read stays readable, the pen is the same one -/
structure Tr (O0 : Ad) (ρ : Ro) (H : Hp) (ρ' : Ro) (H' : Hp) : Prop where
  ks : Keeps (OO O0 ρ) (OO O0 ρ') H H'
  pn : ρ'.pen = ρ.pen
theorem Tr.refl {ρ : Ro} {H : Hp} : Tr O0 ρ H ρ H := ⟨.refl, rfl⟩
theorem Tr.trans {ρ ρ1 ρ2 : Ro} {H H1 H2 : Hp} (a : Tr O0 ρ H ρ1 H1) (b : Tr O0 ρ1 H1 ρ2 H2) : Tr O0 ρ H ρ2 H2 := ⟨a.ks.trans b.ks, b.pn.trans a.pn⟩
theorem Tr.frm {ρ : Ro} {n : Nat} {H H' : Hp} (f : Frm ρ.pen H H') : Tr O0 ρ H (ρ.f n) H' := ⟨Frm.keepsO (ρ := ρ) f, rfl⟩
/-- what is handed back is taken -/
structure RtOk (K : PySem.W.Frag) (O0 : Ad) (H0 : Hp) (pen : PenT) (E : UEnds) (D : Ends) : Prop where
  d : ∀ d n, E.rt d n → ∀ v H', Frm pen H0 H' → Pen K (fun b => O0 b ∨ IsPen pen b) H' pen n → Rp K (fun b => O0 b ∨ IsPen pen b) H' v d → D.rt v H'
  f : ∀ ds n, E.rf ds n → ∀ a H', H0 a = none → Frm pen H0 H' → Pen K (fun b => (O0 b ∨ IsPen pen b) ∨ b = a) H' pen n → (∃ xs, H' a = some (.lst xs) ∧ RpA K (fun b => (O0 b ∨ IsPen pen b) ∨ b = a) H' xs ds) → D.rt (.ref a) H'
  n : ∀ x ρ', E.rn x ρ' → ρ'.pen = pen → ∀ σ' v H', RvOk K O0 H0 σ' ρ' H' v x → D.rt v H'
def lS (K : PySem.W.Frag) (O0 : Ad) (H0 : Hp) (u : US) : TS := fun D σ H => ∃ (ρ : Ro) (E : UEnds), R K O0 H0 σ H ρ ∧ u E ρ ∧
  (∀ ρ', E.nx ρ' → ∀ σ' H', R K O0 H0 σ' H' ρ' → Tr O0 ρ H ρ' H' → D.nx σ' H') ∧
  (∀ ρ', E.bk ρ' → ∀ σ' H', R K O0 H0 σ' H' ρ' → Tr O0 ρ H ρ' H' → D.bk σ' H') ∧
  (∀ ρ', E.ct ρ' → ∀ σ' H', R K O0 H0 σ' H' ρ' → Tr O0 ρ H ρ' H' → D.ct σ' H') ∧
  RtOk K O0 H0 ρ.pen E D
theorem RtOk.at_ {K : PySem.W.Frag} {O0 : Ad} {H0 : Hp} {pen pen' : PenT} {E : UEnds} {D : Ends} (h : RtOk K O0 H0 pen E D) (e : pen' = pen) : RtOk K O0 H0 pen' E D := by
  subst e
  exact h
abbrev UPS (X : Cx) (O0 : Ad) (H0 : Hp) (s : Stmt) (u : US) : Prop := PS X s (lS X.K O0 H0 u)
abbrev UPB (X : Cx) (O0 : Ad) (H0 : Hp) (s : List Stmt) (u : US) : Prop := PSs X s (lS X.K O0 H0 u)
theorem Pen.less {K : PySem.W.Frag} {O O' : Ad} {H : Hp} {pen : PenT} {n : Nat} (h : Pen K O H pen n) (hO : ∀ b, O' b → O b) : Pen K O' H pen n := fun p c e => by
  obtain ⟨ns, t, r, h1, h2, h3, h4⟩ := h p c e
  exact ⟨ns, t, r, h1, h2, fun z => h3 (hO _ z), h4⟩
def uSkip : US := fun E ρ => E.nx ρ
def uSeq (a b : US) : US := fun E ρ => a { E with nx := b E } ρ
def uRet (u : UE) : US := fun E ρ => u ρ E.rt
def uRetN : US := fun E ρ => E.rt .non ρ.fuel
def uIfS (c : UT) (a b : US) : US := fun E ρ => c ρ fun k n => if k = true then a E (ρ.f n) else b E (ρ.f n)
def uDrop (u : UE) : US := fun E ρ => u ρ fun _ n => E.nx (ρ.f n)
def uBrk : US := fun E ρ => E.bk ρ
def uCnt : US := fun E ρ => E.ct ρ
variable {st : Stmt} {rest : List Stmt} {u u' : US}
theorem ub_nil : UPB X O0 H0 [] uSkip := PSs.imp pss_nil fun σ H D ⟨ρ, E, r, hu, hn, _⟩ => hn ρ hu σ H r Tr.refl
theorem ub_cons (h1 : UPS X O0 H0 st u) (h2 : UPB X O0 H0 rest u') : UPB X O0 H0 (st :: rest) (uSeq u u') := PSs.imp (pss_cons h1 h2) fun σ H D ⟨ρ, E, r, hu, hn, hb, hc, hr⟩ => by
  refine ⟨ρ, _, r, hu, fun ρ' hx σ' H' r' t' => ?_, hb, hc, ⟨hr.d, hr.f, hr.n⟩⟩
  refine ⟨ρ', E, r', hx, fun ρ2 h2 σ2 H2 r2 t2 => hn ρ2 h2 σ2 H2 r2 (t'.trans t2), fun ρ2 h2 σ2 H2 r2 t2 => hb ρ2 h2 σ2 H2 r2 (t'.trans t2), fun ρ2 h2 σ2 H2 r2 t2 => hc ρ2 h2 σ2 H2 r2 (t'.trans t2), ⟨(hr.at_ t'.pn).d, (hr.at_ t'.pn).f, (hr.at_ t'.pn).n⟩⟩
theorem ub_one (h1 : UPS X O0 H0 st u) : UPB X O0 H0 [st] u := pss_one h1
theorem R.out {K : PySem.W.Frag} {σ : L2.St} {H : Hp} {ρ : Ro} {n : Nat} (r : R K O0 H0 σ H (ρ.f n)) {v : V} {d : D} (rp : Rp K (OO O0 ρ) H v d) :
    Frm ρ.pen H0 H ∧ Pen K (fun b => O0 b ∨ IsPen ρ.pen b) H ρ.pen n ∧ Rp K (fun b => O0 b ∨ IsPen ρ.pen b) H v d := by
  have le : ∀ b, (O0 b ∨ IsPen ρ.pen b) → OO O0 ρ b := fun b h => h.elim .inl fun h => .inr (.inl h)
  exact ⟨r.fr, r.pen.less le, rp.keep (.less le)⟩
theorem us_ret (h : UPE X O0 H0 e ua) : UPS X O0 H0 (.Return (some e) pos) (uRet ua) := PS.imp (ps_ret h) fun σ H D ⟨ρ, E, r, hu, hn, hb, hc, hr⟩ =>
  ⟨ρ, _, r, hu, fun d n hd v H1 r1 f1 p1 => let ⟨a, b, c⟩ := r1.out p1; hr.d d n hd v H1 a b c⟩
theorem us_if {A B : List Stmt} {tc : UT} (hc : UPT X O0 H0 c tc) (ha : UPB X O0 H0 A u) (hb : UPB X O0 H0 B u') : UPS X O0 H0 (.If c A B pos) (uIfS tc u u') := PS.imp (ps_if hc ha hb) fun σ H D ⟨ρ, E, r, hu, hn, hb, hc, hr⟩ => by
  refine ⟨ρ, _, r, hu, fun k n hk H1 r1 f1 => ?_⟩
  have t1 : Tr O0 ρ H (ρ.f n) H1 := Tr.frm f1
  have go : ∀ {w : US}, w E (ρ.f n) → lS X.K O0 H0 w D σ H1 := fun hw =>
    ⟨ρ.f n, E, r1, hw, fun ρ2 h2 σ2 H2 r2 t2 => hn ρ2 h2 σ2 H2 r2 (t1.trans t2), fun ρ2 h2 σ2 H2 r2 t2 => hb ρ2 h2 σ2 H2 r2 (t1.trans t2), fun ρ2 h2 σ2 H2 r2 t2 => hc ρ2 h2 σ2 H2 r2 (t1.trans t2), hr⟩
  cases k with
  | true => exact iteT (go hk)
  | false => exact iteF (go hk)
end
end U

set_option Elab.async false
set_option linter.all false
set_option maxRecDepth 100000
set_option maxHeartbeats 4000000
/-! Stores, loops, comprehensions, over data. -/
namespace U
open PySem PySem.Spec L2
open PyProof.Rows hiding St
section
variable {K : PySem.W.Frag} {O0 : Ad} {H0 H H' : Hp} {σ : L2.St} {ρ : Ro}
theorem set_some {α : Type} {l : List α} {i j : Nat} {x y : α} (h : (l.set i x)[j]? = some y) : (i = j ∧ y = x ∧ i < l.length) ∨ (i ≠ j ∧ l[j]? = some y) := by
  rw [List.getElem?_set] at h
  split at h
  · rename_i e
    split at h
    · rename_i hl
      exact .inl ⟨e, (Option.some.inj h).symm, hl⟩
    · cases h
  · rename_i e
    exact .inr ⟨e, h⟩
theorem setSame {α : Type} {l : List α} {i : Nat} {x : α} (h : l[i]? = some x) : l.set i x = l := by
  apply List.ext_getElem?
  intro j
  by_cases e : i = j
  · subst e
    rw [List.getElem?_set_self (List.getElem?_eq_some_iff.mp h).1, h]
  · rw [List.getElem?_set_ne e]
theorem OO.put_le {i : Nat} {s : Sl} (hs : ∀ b ∈ s.adr, OO O0 ρ b) {b : Addr} (h : OO O0 (ρ.put i s) b) : OO O0 ρ b := by
  rcases h with h | h | ⟨j, ds, h⟩ | ⟨j, as, d, h, m⟩
  · exact .inl h
  · exact .inr (.inl h)
  · rcases set_some h with ⟨_, e2, _⟩ | ⟨_, e2⟩
    · subst e2; exact hs b List.mem_cons_self
    · exact .own e2
  · rcases set_some h with ⟨_, e2, _⟩ | ⟨_, e2⟩
    · subst e2; exact hs b m
    · exact .tre e2 m
theorem OO.put_dat {i : Nat} {d : D} {b : Addr} (h : OO O0 (ρ.put i (.dat d)) b) : OO O0 ρ b := OO.put_le (s := .dat d) (fun _ z => nomatch z) h
/-- a slot is set, to no tree -/
theorem Trees.put {i n : Nat} {s : Sl} {x : Option V} {as0 : List Addr} (T : Trees K O0 H0 σ H ρ) (k : Keeps (OO O0 ρ) (OO O0 (ρ.put i s)) H H') (hs : ∀ as d, s ≠ .tre as d) (ha : ∀ b ∈ s.adr, (∃ s0, ρ.sl[i]? = some s0 ∧ b ∈ s0.adr) ∨ ¬ OO O0 ρ b)
    (h : ∀ (j : Nat) (as : TrA) (d : D), j ≠ i → ρ.sl[j]? = some (.tre as d) → ∀ b ∈ as, ∀ o, H b = some o → H' b = some o) : Trees K O0 H0 (σ.set i x) H' ((ρ.f n).put i s) :=
  T.move k fun j as d e => by
    rcases set_some e with ⟨_, e2, _⟩ | ⟨e1, e2⟩
    · exact absurd e2.symm (hs as d)
    · refine ⟨e2, by rw [List.getElem?_set_ne e1], fun b q => ⟨h j as d (fun z => e1 z.symm) e2 b q, fun z _ => z, id, id, fun l s2 el _ z => ?_⟩⟩
      rcases set_some el with ⟨e3, e4, _⟩ | ⟨_, e4⟩
      · subst e4
        rcases ha b z with w | w
        · rw [← e3]; exact w
        · exact absurd (OO.tre e2 q) w
      · exact ⟨s2, e4, z⟩
/-- a slot gets data -/
theorem R.put (r : R K O0 H0 σ H ρ) {i : Nat} {v : V} {d : D} (rp : Rp K (OO O0 ρ) H v d) : R K O0 H0 (σ.set i (some v)) H (ρ.put i (.dat d)) := by
  have le : ∀ b, OO O0 (ρ.put i (.dat d)) b → OO O0 ρ b := fun b h => OO.put_dat h
  refine ⟨by rw [List.length_set]; show _ = (ρ.sl.set i _).length; rw [List.length_set]; exact r.len, fun j e h => ?_, fun j a ds h => ?_, fun j k a ds es h1 h2 => ?_, r.fr, fun b h => r.tr b (le b h), fun p c e => ?_, ?_⟩
  · rcases set_some h with ⟨e1, e2, hl⟩ | ⟨e1, e2⟩
    · subst e1
      cases e2
      refine ⟨v, ?_, rp.keep (.less le)⟩
      rw [List.getElem?_set_self (by rw [r.len]; exact hl)]
    · obtain ⟨w, h1, h2⟩ := r.dat j e e2
      exact ⟨w, by rw [List.getElem?_set_ne e1]; exact h1, h2.keep (.less le)⟩
  · rcases set_some h with ⟨e1, e2, hl⟩ | ⟨e1, e2⟩
    · cases e2
    · obtain ⟨h1, h2, h3, h4, h5⟩ := r.own j a ds e2
      exact ⟨by rw [List.getElem?_set_ne e1]; exact h1, h2, h3, h4, h5.keep (.less le) fun _ q => q⟩
  · rcases set_some h1 with ⟨e1, e2, _⟩ | ⟨_, e1⟩
    · cases e2
    · rcases set_some h2 with ⟨e3, e4, _⟩ | ⟨_, e3⟩
      · cases e4
      · exact r.inj j k a ds es e1 e3
  · obtain ⟨ns, t, q, h1, h2, h3, h4⟩ := r.pen p c e
    exact ⟨ns, t, q, h1, h2, fun z => h3 (le _ z), h4⟩
  · exact r.tre.put (n := ρ.fuel) (as0 := []) (.less le) (fun _ _ z => nomatch z) (fun _ z => nomatch z) fun _ _ _ _ _ _ _ _ q => q
theorem Tr.put {i : Nat} {d : D} : Tr O0 ρ H (ρ.put i (.dat d)) H := ⟨.less fun b h => OO.put_dat h, rfl⟩
/-- a new list, in no one's hands yet -/
structure New (K : PySem.W.Frag) (O0 : Ad) (ρ : Ro) (H : Hp) (n : Nat) (c : OC) (a : Addr) (H' : Hp) : Prop where
  new : H a = none
  fr : Frm ρ.pen H H'
  pen : Pen K (fun b => OO O0 ρ b ∨ b = a) H' ρ.pen n
  at_ : OwnC K (fun b => OO O0 ρ b ∨ b = a) H' a c
theorem New.r {n : Nat} {ds : OC} {a : Addr} (w : New K O0 ρ H n ds a H') (r : R K O0 H0 σ H ρ) : R K O0 H0 σ H' (ρ.f n) := r.call w.fr (w.pen.less fun b h => .inl h)
theorem New.rp {n : Nat} {ds : List D} {a : Addr} (w : New K O0 ρ H n ds a H') (r : R K O0 H0 σ H ρ) : Rp K (OO O0 ρ) H' (.ref a) (.lst ds) := by
  obtain ⟨xs, h1, h2⟩ := w.at_
  exact .lst ⟨r.fresh w.new, h1⟩ (h2.keep (.less fun b h => .inl h))
/-- a slot gets a list that is its own -/
theorem New.put {n : Nat} {ds : OC} {a : Addr} (w : New K O0 ρ H n ds a H') (r : R K O0 H0 σ H ρ) {i : Nat} (hi : i < σ.length) : R K O0 H0 (σ.set i (some (.ref a))) H' ((ρ.f n).put i (.own a ds)) ∧ Tr O0 ρ H ((ρ.f n).put i (.own a ds)) H' := by
  have r1 := w.r r
  have nO : ¬ OO O0 ρ a := r.fresh w.new
  have hl : i < ρ.sl.length := by rw [← r.len]; exact hi
  have le : ∀ b, OO O0 ((ρ.f n).put i (.own a ds)) b → OO O0 ρ b ∨ b = a := fun b h => by
    rcases h with h | h | ⟨j, es, h⟩ | ⟨j, bs, e, h, m⟩
    · exact .inl (.inl h)
    · exact .inl (.inr (.inl h))
    · rcases set_some h with ⟨_, e2, _⟩ | ⟨_, e2⟩
      · cases e2; exact .inr rfl
      · exact .inl (.own e2)
    · rcases set_some h with ⟨_, e2, _⟩ | ⟨_, e2⟩
      · cases e2
      · exact .inl (.tre e2 m)
  -- what was readable ahead stays readable
  have k0 : Keeps (OO O0 ρ) (OO O0 ((ρ.f n).put i (.own a ds))) H H' := ⟨fun b o h nb => w.fr b o h fun z => nb (OO.pen b z), fun b o h nb z => (le b z).elim nb fun e => by
    rw [e, w.new] at h
    cases h⟩
  refine ⟨⟨?_, fun j e h => ?_, fun j c es h => ?_, fun j k c es fs h1 h2 => ?_, r1.fr, fun b h => ?_, fun p c e => ?_, ?_⟩, ⟨k0, rfl⟩⟩
  · show _ = (ρ.sl.set i _).length
    rw [List.length_set, List.length_set]; exact r.len
  · rcases set_some h with ⟨_, e2, _⟩ | ⟨e1, e2⟩
    · cases e2
    · obtain ⟨v, h1, h2⟩ := r.dat j e e2
      exact ⟨v, by rw [List.getElem?_set_ne e1]; exact h1, h2.keep k0⟩
  · rcases set_some h with ⟨e1, e2, _⟩ | ⟨e1, e2⟩
    · cases e2
      subst e1
      refine ⟨by rw [List.getElem?_set_self hi], fun z => nO (.inl z), ?_, fun z => nO (OO.pen _ z), w.at_.keep (.less le) fun _ q => q⟩
      cases q : H0 a with
      | none => rfl
      | some u =>
        have := r.fr a u q fun z => nO (OO.pen _ z)
        rw [w.new] at this
        cases this
    · obtain ⟨h1, h2, h3, h4, h5⟩ := r.own j c es e2
      exact ⟨by rw [List.getElem?_set_ne e1]; exact h1, h2, h3, h4, h5.keep k0 fun o q => w.fr _ _ q h4⟩
  · have un : ∀ {j : Nat} {es : OC}, ρ.sl[j]? = some (.own a es) → False := fun h => nO (.own h)
    rcases set_some h1 with ⟨a1, a2, _⟩ | ⟨_, a1⟩
    · rcases set_some h2 with ⟨b1, _, _⟩ | ⟨_, b1⟩
      · rw [← a1, ← b1]
      · cases a2; exact (un b1).elim
    · rcases set_some h2 with ⟨b1, b2, _⟩ | ⟨_, b1⟩
      · cases b2; exact (un a1).elim
      · exact r.inj j k c es fs a1 b1
  · rcases le b h with z | z
    · exact r1.tr b z
    · obtain ⟨o, hx⟩ := w.at_.some
      rw [z, hx]; simp
  · obtain ⟨ns, t, q, h1, h2, h3, h4⟩ := w.pen p c e
    exact ⟨ns, t, q, h1, h2, fun z => h3 (le _ z), h4⟩
  · refine r.tre.put (n := n) (as0 := []) k0 (fun _ _ z => nomatch z) (fun b z => ?_) fun j as d _ e b q o z => w.fr b o z ((r.tre j as d e).2.1 b q).2.2.1
    rw [List.mem_singleton.mp z]
    exact .inr nO
/-- what an object of one's own holds -/
def OwnO (K : PySem.W.Frag) (O : Ad) (H : Hp) (o : HO) : OC → Prop
  | .l ds => ∃ xs, o = .lst xs ∧ RpA K O H xs ds
  | .d es => ∃ kvs, o = .dK kvs ∧ RpK K O H kvs es
theorem R.setO (r : R K O0 H0 σ H ρ) {i : Nat} {a : Addr} {ds es : OC} {o0 : HO} (h : ρ.sl[i]? = some (.own a ds)) (ry : OwnO K (OO O0 ρ) H o0 es) :
    R K O0 H0 σ (upd H a o0) (ρ.put i (.own a es)) ∧ Tr O0 ρ H (ρ.put i (.own a es)) (upd H a o0) := by
  obtain ⟨s1, nO, n0, np, _⟩ := r.own i a ds h
  have hO : OO O0 ρ a := .own h
  have hl : i < ρ.sl.length := (List.getElem?_eq_some_iff.mp h).1
  have eq : ∀ b, OO O0 (ρ.put i (.own a es)) b → OO O0 ρ b := fun b z => OO.put_le (s := .own a es) (fun b hb => by rw [List.mem_singleton.mp hb]; exact hO) z
  have k0 : Keeps (OO O0 ρ) (OO O0 (ρ.put i (.own a es))) H (upd H a o0) := ⟨fun b o q nb => by
    rw [upd_ne (fun e => nb (by rw [e]; exact hO))]
    exact q, fun b o q nb z => nb (eq b z)⟩
  refine ⟨⟨?_, fun j e q => ?_, fun j c fs q => ?_, fun j k c fs gs q1 q2 => ?_, fun b o q nb => ?_, fun b z => ?_, fun p c e => ?_, ?_⟩, ⟨k0, rfl⟩⟩
  · show _ = (ρ.sl.set i _).length
    rw [List.length_set]; exact r.len
  · rcases set_some q with ⟨_, e2, _⟩ | ⟨_, e2⟩
    · cases e2
    · obtain ⟨v, h1, h2⟩ := r.dat j e e2
      exact ⟨v, h1, h2.keep k0⟩
  · rcases set_some q with ⟨e1, e2, _⟩ | ⟨e1, e2⟩
    · cases e2
      subst e1
      refine ⟨s1, nO, n0, np, ?_⟩
      cases es with
      | l ds => exact let ⟨ys, e, q⟩ := ry; ⟨ys, by rw [upd_same, e], q.keep k0⟩
      | d ds => exact let ⟨ys, e, q⟩ := ry; ⟨ys, by rw [upd_same, e], RpK.keep k0 q⟩
    · obtain ⟨h1, h2, h3, h4, h5⟩ := r.own j c fs e2
      have ne : c ≠ a := fun e => e1 (r.inj i j a ds fs h (by rw [← e]; exact e2))
      exact ⟨h1, h2, h3, h4, h5.keep k0 fun o q => by rw [upd_ne ne]; exact q⟩
  · have back : ∀ {j : Nat} {fs : OC}, (ρ.put i (.own a es)).sl[j]? = some (.own c fs) → ∃ gs, ρ.sl[j]? = some (.own c gs) := fun {j fs} q => by
      rcases set_some q with ⟨e1, e2, _⟩ | ⟨_, e2⟩
      · cases e2
        rw [← e1]
        exact ⟨ds, h⟩
      · exact ⟨fs, e2⟩
    obtain ⟨g1, b1⟩ := back q1
    obtain ⟨g2, b2⟩ := back q2
    exact r.inj j k c g1 g2 b1 b2
  · rw [upd_ne (fun e => by rw [e, n0] at q; cases q)]
    exact r.fr b o q nb
  · by_cases e : b = a
    · rw [e, upd_same]; simp
    · rw [upd_ne e]; exact r.tr b (eq b z)
  · obtain ⟨ns, t, q, h1, h2, h3, h4⟩ := r.pen p c e
    have pa : p ≠ a := fun z => np (by rw [← z]; exact isPen_p e)
    have ca : c.c ≠ a := fun z => h3 (by rw [z]; exact hO)
    obtain ⟨h4, h5, h6, h7, h8⟩ := h4
    exact ⟨ns, t, q, by rw [upd_ne pa]; exact h1, by rw [upd_ne ca]; exact h2, fun z => h3 (eq _ z), h4, h5, h6, h7, h8.updO (r.own i a _ h).2.2.2.2⟩
  · have ne : ∀ (j : Nat) as d, ρ.sl[j]? = some (.tre as d) → a ∉ as := fun j as d e q => (r.tre j as d e).2.2 i _ h (fun z => by rw [← z, h] at e; cases e) a q List.mem_cons_self
    have s0 : σ.set i (some (.ref a)) = σ := setSame s1
    rw [← s0]
    exact r.tre.put (n := ρ.fuel) (as0 := []) k0 (fun _ _ z => nomatch z) (fun b z => .inl ⟨_, h, z⟩) fun j as d _ e b q o z => by rw [upd_ne fun w => ne j as d e (by rw [← w]; exact q)]; exact z
theorem R.setOwn (r : R K O0 H0 σ H ρ) {i : Nat} {a : Addr} {ds es : List D} {ys : List V} (h : ρ.sl[i]? = some (.own a ds)) (ry : RpA K (OO O0 ρ) H ys es) :
    R K O0 H0 σ (upd H a (.lst ys)) (ρ.put i (.own a es)) ∧ Tr O0 ρ H (ρ.put i (.own a es)) (upd H a (.lst ys)) := r.setO h ⟨ys, rfl, ry⟩
/-- an own list is let go -/
theorem R.thaw (r : R K O0 H0 σ H ρ) {i : Nat} {a : Addr} {ds : List D} (h : ρ.sl[i]? = some (.own a ds)) : R K O0 H0 σ H (ρ.put i (.dat (.lst ds))) ∧ Rp K (OO O0 (ρ.put i (.dat (.lst ds)))) H (.ref a) (.lst ds) := by
  obtain ⟨s1, nO, n0, np, xs, hx, rx⟩ := r.own i a ds h
  have le : ∀ b, OO O0 (ρ.put i (.dat (.lst ds))) b → OO O0 ρ b := fun b h => OO.put_dat h
  have na : ¬ OO O0 (ρ.put i (.dat (.lst ds))) a := fun z => by
    rcases z with z | z | ⟨j, es, z⟩ | ⟨j, as, d, z, m⟩
    · exact nO z
    · exact np z
    · rcases set_some z with ⟨_, e2, _⟩ | ⟨e1, e2⟩
      · cases e2
      · exact e1 (r.inj i j a ds es h e2)
    · rcases set_some z with ⟨_, e2, _⟩ | ⟨e1, e2⟩
      · cases e2
      · exact (r.tre j as d e2).2.2 i _ h e1 a m List.mem_cons_self
  have ra : Rp K (OO O0 (ρ.put i (.dat (.lst ds)))) H (.ref a) (.lst ds) := .lst ⟨na, hx⟩ (rx.keep (.less le))
  refine ⟨⟨?_, fun j e q => ?_, fun j c es q => ?_, fun j k c es fs q1 q2 => ?_, r.fr, fun b z => r.tr b (le b z), fun p c e => ?_, ?_⟩, ra⟩
  · show _ = (ρ.sl.set i _).length
    rw [List.length_set]; exact r.len
  · rcases set_some q with ⟨e1, e2, _⟩ | ⟨_, e2⟩
    · subst e1
      cases e2
      exact ⟨.ref a, s1, ra⟩
    · obtain ⟨v, h1, h2⟩ := r.dat j e e2
      exact ⟨v, h1, h2.keep (.less le)⟩
  · rcases set_some q with ⟨_, e2, _⟩ | ⟨_, e2⟩
    · cases e2
    · obtain ⟨h1, h2, h3, h4, h5⟩ := r.own j c es e2
      exact ⟨h1, h2, h3, h4, h5.keep (.less le) fun _ q => q⟩
  · rcases set_some q1 with ⟨_, e2, _⟩ | ⟨_, e2⟩
    · cases e2
    · rcases set_some q2 with ⟨_, e4, _⟩ | ⟨_, e4⟩
      · cases e4
      · exact r.inj j k c es fs e2 e4
  · obtain ⟨ns, t, q, h1, h2, h3, h4⟩ := r.pen p c e
    exact ⟨ns, t, q, h1, h2, fun z => h3 (le _ z), h4⟩
  · have s0 : σ.set i (some (.ref a)) = σ := setSame s1
    have := r.tre.put (i := i) (x := some (.ref a)) (n := ρ.fuel) (s := .dat (.lst ds)) (as0 := []) (.less le) (fun _ _ z => nomatch z) (fun _ z => nomatch z) fun _ _ _ _ _ _ _ _ q => q
    rw [s0] at this
    exact this
section
variable {O O' : Ad} {a : Addr} {xs : List V}
mutual
theorem Rp.noL (ha : H a = some (.lst xs)) (ho : ∀ b, O' b → O b ∨ b = a) : ∀ (d : D) (v : V), D.noL d = true → Rp K O H v d → Rp K O' H v d
  | .non, _, _, .non => .non
  | .bl _, _, _, .bl _ => .bl _
  | .int _, _, _, .int _ => .int _
  | .str _, _, _, .str _ => .str _
  | .ty _, _, _, .ty _ => .ty _
  | .cls _, _, _, .cls _ => .cls _
  | .exc _ _, _, h, _ => by simp [D.noL] at h
  | .ref _, _, _, .ref _ => .ref _
  | .lst _, _, h, _ => by simp [D.noL] at h
  | .dic _, _, h, _ => by simp [D.noL] at h
  | .tup ds, _, h, .tup l r => by
    refine .tup ?_ (RpA.noL ha ho ds _ (by simpa [D.noL] using h) r)
    rcases l with ⟨l1, l2⟩ | l
    · refine .inl ⟨fun z => ?_, l2⟩
      rcases ho _ z with z | z
      · exact l1 z
      · rw [z, ha] at l2; cases l2
    · exact .inr l
theorem RpA.noL (ha : H a = some (.lst xs)) (ho : ∀ b, O' b → O b ∨ b = a) : ∀ (ds : List D) (vs : List V), D.noLs ds = true → RpA K O H vs ds → RpA K O' H vs ds
  | [], _, _, .nil => .nil
  | d :: ds, _, h, .cons p q => by
    simp only [D.noLs, Bool.and_eq_true] at h
    exact .cons (Rp.noL ha ho d _ h.1 p) (RpA.noL ha ho ds _ h.2 q)
end
end
end
end U

set_option Elab.async false
set_option linter.all false
set_option maxRecDepth 100000
set_option maxHeartbeats 4000000
/-! Assignments, loops, comprehensions, over data: the rules. -/
namespace U
open PySem PySem.Spec L2
open PyProof.Rows hiding St

/-! ### targets -/
abbrev UG := D → Ro → (Ro → Prop) → Prop
def lG (K : PySem.W.Frag) (O0 : Ad) (H0 : Hp) (g : UG) : TG := fun v σ H Q => ∃ (ρ : Ro) (d : D) (P : Ro → Prop), R K O0 H0 σ H ρ ∧ Rp K (OO O0 ρ) H v d ∧ g d ρ P ∧
  ∀ ρ', P ρ' → ∀ σ', R K O0 H0 σ' H ρ' → Tr O0 ρ H ρ' H → Q σ' H
abbrev UPG (X : Cx) (O0 : Ad) (H0 : Hp) (tg : Expr) (g : UG) : Prop := PG X tg (lG X.K O0 H0 g)
theorem PG.imp {X : Cx} {e : Expr} {t t' : TG} (h : PG X e t) (hi : ∀ v σ H Q, t' v σ H Q → t v σ H Q) : PG X e t' := ⟨fun pins s σ H v u Q I r q => h.run pins s σ H v u Q I r (hi v σ H Q q)⟩
def ugN (i : Nat) : UG := fun d ρ Q => Q (ρ.put i (.dat d))
/-- the items of a tuple to the slots, from the left -/
def putAll : List Nat → List D → Ro → Option Ro
  | [], [], ρ => some ρ
  | i :: is, d :: ds, ρ => putAll is ds (ρ.put i (.dat d))
  | _, _, _ => none
def ugT (is : List Nat) : UG := fun d ρ Q => match d with
  | .tup ds => match putAll is ds ρ with
    | some ρ' => Q ρ'
    | none => False
  | _ => False
def gNames : List Nat → TGs
  | [] => gNil
  | i :: is => gCons (gName i) (gNames is)
section
variable {X : Cx} {O0 : Ad} {H0 : Hp} {a b c e : Expr} {ua ub uc : UE} {pos p : Pos} {W : WU}
theorem gn_ok {i : Nat} {v : V} {σ : L2.St} {H : Hp} {Q : L2.St → Hp → Prop} (h : lG X.K O0 H0 (ugN i) v σ H Q) : gName i v σ H Q := by
  obtain ⟨ρ, d, P, r, rp, hg, hP⟩ := h
  exact hP _ hg _ (r.put rp) Tr.put
theorem ug_name {i : Nat} {x : Str} (h : PG X (.Name x pos) (gName i)) : UPG X O0 H0 (.Name x pos) (ugN i) := PG.imp h fun _ _ _ _ q => gn_ok q
theorem gns_ok {K : PySem.W.Frag} {H : Hp} {Q : L2.St → Hp → Prop} {P : Ro → Prop} {ρ0 : Ro} : ∀ (is : List Nat) (ds : List D) (vs : List V) (ρ ρ' : Ro) (σ : L2.St), R K O0 H0 σ H ρ → Tr O0 ρ0 H ρ H → RpA K (OO O0 ρ) H vs ds → putAll is ds ρ = some ρ' → P ρ' →
    (∀ ρ', P ρ' → ∀ σ', R K O0 H0 σ' H ρ' → Tr O0 ρ0 H ρ' H → Q σ' H) → gNames is vs σ H Q
  | [], [], _, ρ, _, σ, r, t, .nil, e, hp, hP => by
    cases e
    exact ⟨rfl, hP ρ hp σ r t⟩
  | i :: is, d :: ds, _, ρ, ρ', σ, r, t, .cons h a, e, hp, hP => by
    refine ⟨_, _, rfl, ?_⟩
    exact gns_ok is ds _ (ρ.put i (.dat d)) ρ' _ (r.put h) (t.trans Tr.put) (a.keep Tr.put.ks) e hp hP
  | [], _ :: _, _, _, _, _, _, _, _, e, _, _ => by cases e
  | _ :: _, [], _, _, _, _, _, _, _, e, _, _ => by cases e
theorem putAll_len : ∀ (is : List Nat) (ds : List D) (ρ ρ' : Ro), putAll is ds ρ = some ρ' → ds.length = is.length
  | [], [], _, _, _ => rfl
  | i :: is, d :: ds, ρ, ρ', e => congrArg (· + 1) (putAll_len is ds _ ρ' e)
  | [], _ :: _, _, _, e => by cases e
  | _ :: _, [], _, _, e => by cases e
theorem gt_ok {is : List Nat} {n : Nat} (hn : is.length = n) {v : V} {σ : L2.St} {H : Hp} {Q : L2.St → Hp → Prop} (h : lG X.K O0 H0 (ugT is) v σ H Q) : gTup X.K n (gNames is) v σ H Q := by
  obtain ⟨ρ, d, P, r, rp, hg, hP⟩ := h
  cases rp with
  | tup l ra =>
    dsimp only [ugT] at hg
    split at hg
    · rename_i ρ' e
      refine ⟨_, _, rfl, l.sq, by rw [ra.length, ← hn]; exact putAll_len _ _ _ _ e, ?_⟩
      exact gns_ok is _ _ ρ ρ' σ r Tr.refl ra e hg hP
    · exact hg.elim
  | _ => exact hg.elim
theorem ug_tup {is : List Nat} {es : List Expr} {n k : Nat} (h : PG X (.Tuple es k pos) (gTup X.K n (gNames is))) (hn : is.length = n := by rfl) : UPG X O0 H0 (.Tuple es k pos) (ugT is) := PG.imp h fun _ _ _ _ q => gt_ok hn q

/-! ### assignments -/
def uSet (i : Nat) (u : UE) : US := fun E ρ => u ρ fun d n => E.nx ((ρ.f n).put i (.dat d))
def uAsg (u : UE) (g : UG) : US := fun E ρ => u ρ fun d n => g d (ρ.f n) E.nx
theorem us_set {i : Nat} {x : Str} {p' : Pos} (hN : X.N.Nodup) (hi : X.N[i]? = some x) (hx : Loc X.env.scope x) (h : UPE X O0 H0 e ua) (hs : swapsWith e (some (.Name x p')) pos.line X.env = pure false := by rfl) (hf : X.fn x = true ∨ X.env.scope.names.lookup x = some .local := by first | exact .inl rfl | exact .inr rfl | assumption) :
    UPS X O0 H0 (.Assign [.Name x p'] e pos) (uSet i ua) := PS.imp (ps_set hN hi hx h hs hf) fun σ H D ⟨ρ, E, r, hu, hn, hb, hc, hr⟩ =>
  ⟨ρ, _, r, hu, fun d n hd v H1 r1 f1 p1 => hn _ hd _ H1 (r1.put (ρ := ρ.f n) p1) ((Tr.frm f1).trans Tr.put)⟩
/-- x op= e, ints -/
def uAug (i : Nat) (u : UE) (f : Int → Int → Int) : US := fun E ρ => match ρ.sl[i]? with
  | some (.dat (.int x)) => u ρ fun d n => match d with
    | .int y => E.nx ((ρ.f n).put i (.dat (.int (f x y))))
    | _ => False
  | _ => False
/-! ### lists of one's own -/
abbrev UF := Ro → (List D → Nat → Prop) → Prop
def lF (K : PySem.W.Frag) (O0 : Ad) (H0 : Hp) (u : UF) : TE := fun σ H Q => ∃ (ρ : Ro) (P : List D → Nat → Prop), R K O0 H0 σ H ρ ∧ u ρ P ∧ ∀ ds n, P ds n → ∀ a H', New K O0 ρ H n ds a H' → Q (.ref a) H'
abbrev UPF (X : Cx) (O0 : Ad) (H0 : Hp) (e : Expr) (u : UF) : Prop := PE X e (lF X.K O0 H0 u)
/-- a fresh list as a value -/
def uFr (u : UF) : UE := fun ρ Q => u ρ fun ds n => Q (.lst ds) n
theorem uf_val {u : UF} (h : UPF X O0 H0 e u) : UPE X O0 H0 e (uFr u) := PE.imp h fun σ H Q ⟨ρ, P, r, hu, hP⟩ =>
  ⟨ρ, _, r, hu, fun ds n hd a H' w => hP (.lst ds) n hd _ H' (w.r r) w.fr (w.rp r)⟩
theorem New.of_alloc {K : PySem.W.Frag} {ρ : Ro} {H H1 : Hp} {σ : L2.St} {n : Nat} {ds : List D} {vs : List V} {a : Addr} (r : R K O0 H0 σ H ρ) (r1 : R K O0 H0 σ H1 (ρ.f n)) (f1 : Frm ρ.pen H H1) (p1 : RpA K (OO O0 ρ) H1 vs ds) (hn : H1 a = none) : New K O0 ρ H n ds a (upd H1 a (.lst vs)) := by
  have sm := Same.new (o := HO.lst vs) hn
  have k : Keeps (OO O0 ρ) (fun b => OO O0 ρ b ∨ b = a) H1 (upd H1 a (.lst vs)) := ⟨fun b o h _ => sm b o h, fun b o h nb z => Or.elim z nb fun e => by rw [e, hn] at h; cases h⟩
  have z : H a = none := by
    cases q : H a with
    | none => rfl
    | some u => exact absurd hn (f1.there r1.pen (b := a) (by rw [q]; simp))
  refine ⟨z, f1.trans (.of sm), fun p c e => ?_, vs, upd_same, p1.keep k⟩
  obtain ⟨ns, t, q, h1, h2, h3, h4⟩ := r1.pen p c e
  exact ⟨ns, t, q, sm _ _ h1, sm _ _ h2, (fun z => Or.elim z h3 (fun e => (by rw [e, hn] at h2; cases h2))), h4.1, h4.2.1, h4.2.2.1, h4.2.2.2.1, h4.2.2.2.2.same sm⟩
def ufLst (a : UA) : UF := fun ρ Q => a ρ Q
theorem uf_lst {es : List Expr} {ur : UA} (h : UPL X O0 H0 es ur) (hl : es.length ≤ sizeLine := by decide) : UPF X O0 H0 (.List es pos) (ufLst ur) := by
  obtain ⟨t, ht, hi⟩ := h
  refine PE.imp (pe_lst ht) fun σ H Q ⟨ρ, P, r, hu, hP⟩ => hi σ H _ ⟨ρ, _, r, hu, fun ds n hd vs H1 r1 f1 p1 hn => ⟨by rw [hn]; exact hl, fun p hp => ?_⟩⟩
  exact hP ds n hd p _ (.of_alloc r r1 f1 p1 hp)
def uOwn (i : Nat) (u : UF) : US := fun E ρ => u ρ fun ds n => ∀ a, E.nx ((ρ.f n).put i (.own a ds))
theorem own_put {i : Nat} {u : UF} {σ : L2.St} {H : Hp} {D : Ends} (hi : i < X.N.length) (hl : σ.length = X.N.length) (h : lS X.K O0 H0 (uOwn i u) D σ H) : lF X.K O0 H0 u σ H fun x H1 => gName i x σ H1 D.nx := by
  obtain ⟨ρ, E, r, hu, hn, hb, hc, hr⟩ := h
  refine ⟨ρ, _, r, hu, fun ds n hd a H' w => ?_⟩
  obtain ⟨r', t'⟩ := w.put r (i := i) (by rw [hl]; exact hi)
  exact hn _ (hd a) _ H' r' t'
theorem PS.impL {X : Cx} {e : Stmt} {t t' : TS} (h : PS X e t) (hi : ∀ σ H Q, σ.length = X.N.length → t' Q σ H → t Q σ H) : PS X e t' := ⟨fun pins s σ H Q I q => h.run pins s σ H Q I (hi σ H Q I.len q)⟩
theorem us_own {i : Nat} {x : Str} {p' : Pos} {u : UF} (hN : X.N.Nodup) (hi : X.N[i]? = some x) (hx : Loc X.env.scope x) (h : UPF X O0 H0 e u) (hs : swapsWith e (some (.Name x p')) pos.line X.env = pure false := by rfl) (hf : X.fn x = true ∨ X.env.scope.names.lookup x = some .local := by first | exact .inl rfl | exact .inr rfl | assumption) :
    UPS X O0 H0 (.Assign [.Name x p'] e pos) (uOwn i u) := PS.impL (ps_set hN hi hx h hs hf) fun σ H D hl q => own_put (List.getElem?_eq_some_iff.mp hi).1 hl q
/-- x.append(e), x one's own -/
def uApp (i : Nat) (u : UE) : US := fun E ρ => match ρ.sl[i]? with
  | some (.own a (.l ds)) => u ρ fun d n => ds.length < sizeLine ∧ E.nx ((ρ.f n).put i (.own a (ds ++ [d])))
  | _ => False
theorem us_app {i : Nat} {st : Stmt} (hb : PS X st (tDrop (tBM X.K "list" rAppend (tVar i) (tCons (lE X.K O0 H0 ua) tNil)))) : UPS X O0 H0 st (uApp i ua) := PS.imp hb fun σ H D ⟨ρ, E, r, hu, hn, _⟩ => by
  dsimp only [uApp] at hu
  split at hu
  · rename_i a ds e
    obtain ⟨s1, _, _, np, xs, hx, _⟩ := r.own i a ds e
    refine ⟨_, s1, .inl ⟨rfl, xs, SqL.of hx⟩, ρ, _, r, hu, fun d n hd v H1 r1 f1 p1 => ?_⟩
    obtain ⟨_, _, _, _, ys, hy, ry⟩ := r1.own i a ds e
    refine ⟨a, ys, v, rfl, rfl, hy, by rw [ry.length]; exact hd.1, ?_⟩
    obtain ⟨r2, t2⟩ := r1.setOwn (ρ := ρ.f n) e (ry.append (.one p1))
    exact hn _ hd.2 _ _ r2 ((Tr.frm f1).trans t2)
  · exact hu.elim
/-- x[k] = e, x one's own -/
def uSetIx (i : Nat) (ui u : UE) : US := fun E ρ => match ρ.sl[i]? with
  | some (.own a (.l ds)) => u ρ fun d n => ui (ρ.f n) fun k m => match k with
    | .int z => match ixN ds.length z with
      | some j => E.nx ((ρ.f m).put i (.own a (ds.set j d)))
      | none => False
    | _ => False
  | _ => False
/-- ahead of a statement: the list in slot i is let go -/
def uThaw (i : Nat) (u : US) : US := fun E ρ => match ρ.sl[i]? with
  | some (.own _ (.l ds)) => u E (ρ.put i (.dat (.lst ds)))
  | _ => u E ρ
theorem us_thaw {i : Nat} {st : Stmt} {u : US} (h : UPS X O0 H0 st u) : UPS X O0 H0 st (uThaw i u) := PS.imp h fun σ H D ⟨ρ, E, r, hu, hn, hb, hc, hr⟩ => by
  dsimp only [uThaw] at hu
  split at hu
  · rename_i a ds e
    obtain ⟨r1, _⟩ := r.thaw e
    have t1 : Tr O0 ρ H (ρ.put i (.dat (.lst ds))) H := Tr.put
    exact ⟨_, E, r1, hu, fun ρ2 h2 σ2 H2 r2 t2 => hn ρ2 h2 σ2 H2 r2 (t1.trans t2), fun ρ2 h2 σ2 H2 r2 t2 => hb ρ2 h2 σ2 H2 r2 (t1.trans t2), fun ρ2 h2 σ2 H2 r2 t2 => hc ρ2 h2 σ2 H2 r2 (t1.trans t2), hr⟩
  · exact ⟨ρ, E, r, hu, hn, hb, hc, hr⟩
/-- within an expression whose value holds no list, the own list in slot i is read -/
def uPeek (i : Nat) (u : UE) : UE := fun ρ Q => match ρ.sl[i]? with
  | some (.own _ (.l ds)) => u (ρ.put i (.dat (.lst ds))) fun d n => D.noL d = true ∧ Q d n
  | _ => u ρ Q
def uPeekT (i : Nat) (u : UT) : UT := fun ρ Q => match ρ.sl[i]? with
  | some (.own _ (.l ds)) => u (ρ.put i (.dat (.lst ds))) Q
  | _ => u ρ Q
end
end U

set_option Elab.async false
set_option linter.all false
set_option maxRecDepth 100000
set_option maxHeartbeats 4000000
/-! Loops and comprehensions over data. -/
namespace U
open PySem PySem.Spec L2
open PyProof.Rows hiding St

/-- what is walked yields the items ds, as long as what was readable stays so -/
def ItOk (K : PySem.W.Frag) (O : Ad) (J : It) (H : Hp) (ds : List D) : Prop := ∀ (O2 : Ad) (H2 : Hp), Keeps O O2 H H2 → (∀ b, O2 b → H2 b ≠ none) →
  (∀ (i : Nat) d, ds[i]? = some d → J.go i H2 ∧ ∀ x H3, J.yld i H2 x H3 → Same H2 H3 ∧ Rp K O2 H3 x d) ∧ ∀ i, ds.length ≤ i → J.stop i H2
abbrev UI := Ro → (List D → Nat → Prop) → Prop
def lI (K : PySem.W.Frag) (O0 : Ad) (H0 : Hp) (u : UI) : TI := fun σ H Q => ∃ (ρ : Ro) (P : List D → Nat → Prop), R K O0 H0 σ H ρ ∧ u ρ P ∧
  ∀ ds n, P ds n → ∀ J H', R K O0 H0 σ H' (ρ.f n) → Frm ρ.pen H H' → ItOk K (OO O0 ρ) J H' ds → Q J H'
abbrev UPI (X : Cx) (O0 : Ad) (H0 : Hp) (tg it : Expr) (u : UI) : Prop := PI X tg it (lI X.K O0 H0 u)
theorem PI.imp {X : Cx} {tg e : Expr} {t t' : TI} (h : PI X tg e t) (hi : ∀ σ H Q, t' σ H Q → t σ H Q) : PI X tg e t' := ⟨fun pins s σ H R I q => h.run pins s σ H R I (hi σ H R q)⟩
def rngD (lo : Int) (n : Nat) : List D := (List.range n).map fun (i : Nat) => .int (lo + i)
def uiR1 (u : UA) : UI := fun ρ Q => u ρ fun ds n => match ds with
  | [.int j] => (-(2 ^ 62) ≤ j ∧ j < 2 ^ 62) ∧ Q (rngD 0 j.toNat) n
  | _ => False
def uiR2 (u : UA) : UI := fun ρ Q => u ρ fun ds n => match ds with
  | [.int i, .int j] => (-(2 ^ 62) ≤ i ∧ i < 2 ^ 62 ∧ -(2 ^ 62) ≤ j ∧ j < 2 ^ 62) ∧ Q (rngD i (j - i).toNat) n
  | _ => False
section
variable {X : Cx} {O0 : Ad} {H0 : Hp} {a b c e tg : Expr} {ua ub uc : UE} {pos p : Pos} {W : WU}
theorem it_list {K : PySem.W.Frag} {O : Ad} {H : Hp} {l : Addr} {xs : List V} {ds : List D} (h : Lk O H l xs) (r : RpA K O H xs ds) : ItOk K O (Itl K l) H ds := fun O2 H2 k t => by
  have h2 := h.keep k
  have r2 := r.keep k
  refine ⟨fun i d e => ?_, fun i hi => ⟨xs, .of h2.2, by rw [r2.length]; exact hi⟩⟩
  obtain ⟨v, e1, rv⟩ := r2.get e
  refine ⟨⟨xs, v, .of h2.2, e1⟩, fun x H3 ⟨e2, f⟩ => ?_⟩
  subst e2
  have := f xs (.of h2.2)
  rw [e1] at this
  cases this
  exact ⟨Same.refl _, rv⟩
theorem it_tup {K : PySem.W.Frag} {O : Ad} {H : Hp} {l : Addr} {xs : List V} {ds : List D} (h : Tk K O H l xs) (r : RpA K O H xs ds) : ItOk K O (Itt K l) H ds := fun O2 H2 k t => by
  have h2 := h.keep k
  have r2 := r.keep k
  refine ⟨fun i d e => ?_, fun i hi => ⟨xs, h2.sq, by rw [r2.length]; exact hi⟩⟩
  obtain ⟨v, e1, rv⟩ := r2.get e
  refine ⟨⟨xs, v, h2.sq, e1⟩, fun x H3 ⟨e2, f⟩ => ?_⟩
  subst e2
  have := f xs h2.sq
  rw [e1] at this
  cases this
  exact ⟨Same.refl _, rv⟩
theorem rngD_get {lo : Int} {n i : Nat} {d : D} (h : (rngD lo n)[i]? = some d) : i < n ∧ d = .int (lo + i) := by
  unfold rngD at h
  rw [List.getElem?_map] at h
  by_cases hi : i < n
  · rw [List.getElem?_range hi] at h
    exact ⟨hi, (Option.some.inj h).symm⟩
  · rw [List.getElem?_eq_none (by simpa using hi)] at h
    cases h
theorem it_rng {K : PySem.W.Frag} {O : Ad} {H : Hp} {lo : Int} {n : Nat} : ItOk K O (Itr lo n) H (rngD lo n) := fun O2 H2 k t =>
  ⟨fun i d e => ⟨(rngD_get e).1, fun x H3 ⟨e2, f⟩ => by
    subst e2
    subst f
    rw [(rngD_get e).2]
    exact ⟨Same.refl _, .int _⟩⟩, fun i hi => by
    have : (rngD lo n).length = n := by unfold rngD; simp
    rw [this] at hi
    exact hi⟩
theorem ui_rng1 {u : UA} (hg : Gl X "range") (hm : X.mg "range" = none) (h : UPL X O0 H0 [a] u) (hs : starEach [a] X.env = [(false, eval a X.env)] := by rfl) : UPI X O0 H0 tg (.Call (.Name "range" p) [a] [] pos) (uiR1 u) := PI.imp (pi_range1 hg hm h.run hs) fun σ H Q ⟨ρ, P, r, hu, hP⟩ =>
  ⟨ρ, _, r, hu, fun ds n hd vs H1 r1 f1 p1 => by
    split at hd
    · rename_i j
      cases p1 with
      | cons q1 q2 =>
        cases q2
        cases q1
        exact ⟨j, rfl, hd.1.1, hd.1.2, hP _ n hd.2 _ H1 r1 f1 it_rng⟩
    · exact hd.elim⟩
/-! ### for: I, what holds ahead of the items that are left -/
def uFor (ui : UI) (g : UG) (body : US) : US := fun E ρ => ui ρ fun ds n => ∃ I : List D → Ro → Prop, I ds (ρ.f n) ∧ (∀ ρ, I [] ρ → E.nx ρ) ∧
  ∀ d r ρ, I (d :: r) ρ → g d ρ fun ρ' => body { E with nx := I r, ct := I r, bk := E.nx } ρ'
theorem us_for {it : Expr} {ui : UI} {g : UG} {body : List Stmt} {u : US} (hp : PassesOwn (model X.prog X.w) X.A X.env X.xe) (hc : X.calm = true) (hi : UPI X O0 H0 tg it ui) (hg : UPG X O0 H0 tg g) (hb : UPB X O0 H0 body u)
    (hs : ∀ x, foldedSetIterable it X.env x = pure x := by intro _; rfl) : UPS X O0 H0 (.For tg it body [] pos) (uFor ui g u) := PS.imp (ps_for hp hc hi hg hb hs) fun σ H D ⟨ρ, E, r, hu, hn, hb, hcn, hr⟩ => by
  refine ⟨ρ, _, r, hu, fun ds n ⟨I, i0, iE, iS⟩ J H1 r1 f1 ok => ?_⟩
  have t1 : Tr O0 ρ H (ρ.f n) H1 := Tr.frm f1
  refine ⟨fun i m σ' H' => ∃ ρ', R X.K O0 H0 σ' H' ρ' ∧ Tr O0 (ρ.f n) H1 ρ' H' ∧ I (ds.drop i) ρ' ∧ m = ds.length - i ∧ i ≤ ds.length, ⟨ds.length, ρ.f n, r1, Tr.refl, i0, by simp, Nat.zero_le _⟩, ?_⟩
  rintro i m σ2 H2 ⟨ρ2, r2, t2, hI, rfl, hle⟩
  obtain ⟨ok1, ok2⟩ := ok _ H2 t2.ks r2.tr
  by_cases hlt : i < ds.length
  · have ed : ds[i]? = some ds[i] := List.getElem?_eq_getElem hlt
    obtain ⟨go, yl⟩ := ok1 i _ ed
    refine .inr ⟨go, fun σ' H' => ∃ ρ', R X.K O0 H0 σ' H' ρ' ∧ Tr O0 (ρ.f n) H1 ρ' H' ∧ I (ds.drop (i + 1)) ρ', fun σ' H' ⟨ρ', a1, a2, a3⟩ => ⟨ds.length - (i + 1), by omega, ρ', a1, a2, a3, rfl, hlt⟩, fun x H3 hy => ?_⟩
    obtain ⟨sm, rx⟩ := yl x H3 hy
    have r3 := r2.same sm
    have t3 : Tr O0 (ρ.f n) H1 ρ2 H3 := ⟨t2.ks.trans (.same sm), t2.pn⟩
    have hI' : I (ds[i] :: ds.drop (i + 1)) ρ2 := by rw [← List.drop_eq_getElem_cons hlt]; exact hI
    refine ⟨ρ2, ds[i], _, r3, rx, iS _ _ ρ2 hI', fun ρ4 h4 σ4 r4 t4 => ?_⟩
    have t5 := t3.trans t4
    refine ⟨ρ4, _, r4, h4, fun ρ5 h5 σ5 H5 r5 t6 => ⟨ρ5, r5, t5.trans t6, h5⟩, fun ρ5 h5 σ5 H5 r5 t6 => hn ρ5 h5 σ5 H5 r5 ((t1.trans t5).trans t6), fun ρ5 h5 σ5 H5 r5 t6 => ⟨ρ5, r5, t5.trans t6, h5⟩, ⟨(hr.at_ t5.pn).d, (hr.at_ t5.pn).f, (hr.at_ t5.pn).n⟩⟩
  · have e : i = ds.length := by omega
    subst e
    rw [List.drop_length] at hI
    exact .inl ⟨ok2 _ (Nat.le_refl _), hn ρ2 (iE ρ2 hI) σ2 H2 r2 (t1.trans t2)⟩
end
end U

set_option Elab.async false
set_option linter.all false
set_option maxRecDepth 100000
set_option maxHeartbeats 4000000
/-! List comprehensions over data. -/
namespace U
open PySem PySem.Spec L2
open PyProof.Rows hiding St

def wipeR (ρ : Ro) : List Nat → Ro
  | [] => ρ
  | i :: is => (wipeR ρ is).put i .emp
theorem wipeR_pen (ρ : Ro) : ∀ vs, (wipeR ρ vs).pen = ρ.pen
  | [] => rfl
  | _ :: is => wipeR_pen ρ is
theorem wipeR_f (ρ : Ro) (n : Nat) : ∀ vs, wipeR (ρ.f n) vs = (wipeR ρ vs).f n
  | [] => rfl
  | i :: is => by
    show (wipeR (ρ.f n) is).put i .emp = ((wipeR ρ is).put i .emp).f n
    rw [wipeR_f ρ n is]
section
variable {K : PySem.W.Frag} {O0 O1 : Ad} {H0 H H' : Hp} {σ : L2.St} {ρ : Ro}
theorem OO.put_emp {i : Nat} {b : Addr} (h : OO O0 (ρ.put i .emp) b) : OO O0 ρ b := OO.put_le (s := .emp) (fun _ z => nomatch z) h
theorem R.emp (r : R K O0 H0 σ H ρ) (i : Nat) (x : Option V) : R K O0 H0 (σ.set i x) H (ρ.put i .emp) := by
  have le : ∀ b, OO O0 (ρ.put i .emp) b → OO O0 ρ b := fun b h => OO.put_emp h
  refine ⟨by rw [List.length_set]; show _ = (ρ.sl.set i _).length; rw [List.length_set]; exact r.len, fun j e h => ?_, fun j a ds h => ?_, fun j k a ds es h1 h2 => ?_, r.fr, fun b h => r.tr b (le b h), fun p c e => ?_, r.tre.put (n := ρ.fuel) (as0 := []) (.less le) (fun _ _ z => nomatch z) (fun _ z => nomatch z) fun _ _ _ _ _ _ _ _ q => q⟩
  · rcases set_some h with ⟨_, e2, _⟩ | ⟨e1, e2⟩
    · cases e2
    · obtain ⟨w, h1, h2⟩ := r.dat j e e2
      exact ⟨w, by rw [List.getElem?_set_ne e1]; exact h1, h2.keep (.less le)⟩
  · rcases set_some h with ⟨_, e2, _⟩ | ⟨e1, e2⟩
    · cases e2
    · obtain ⟨h1, h2, h3, h4, h5⟩ := r.own j a ds e2
      exact ⟨by rw [List.getElem?_set_ne e1]; exact h1, h2, h3, h4, h5.keep (.less le) fun _ q => q⟩
  · rcases set_some h1 with ⟨_, e2, _⟩ | ⟨_, e1⟩
    · cases e2
    · rcases set_some h2 with ⟨_, e4, _⟩ | ⟨_, e3⟩
      · cases e4
      · exact r.inj j k a ds es e1 e3
  · obtain ⟨ns, t, q, h1, h2, h3, h4⟩ := r.pen p c e
    exact ⟨ns, t, q, h1, h2, fun z => h3 (le _ z), h4⟩
theorem R.wipe (r : R K O0 H0 σ H ρ) : ∀ vs : List Nat, R K O0 H0 (L2.wipe σ vs) H (wipeR ρ vs)
  | [] => r
  | i :: is => (R.wipe r is).emp i none
/-- one more that is not to be met -/
theorem R.more (r : R K O0 H0 σ H ρ) {D : Addr} {o : HO} (hn : H D = none) : R K (fun b => O0 b ∨ b = D) H0 σ (upd H D o) ρ := by
  have sm := Same.new (o := o) hn
  have nO : ¬ OO O0 ρ D := r.fresh hn
  have oo : ∀ b, OO (fun b => O0 b ∨ b = D) ρ b → OO O0 ρ b ∨ b = D := fun b h => by
    rcases h with (h | h) | h
    · exact .inl (.inl h)
    · exact .inr h
    · exact .inl (.inr h)
  have k : Keeps (OO O0 ρ) (OO (fun b => O0 b ∨ b = D) ρ) H (upd H D o) := ⟨fun b o h _ => sm b o h, fun b o h nb z => (oo b z).elim nb fun e => by rw [e, hn] at h; cases h⟩
  refine ⟨r.len, fun i d e => let ⟨v, h1, h2⟩ := r.dat i d e; ⟨v, h1, h2.keep k⟩, fun i a ds e => ?_, r.inj, r.fr.trans (.of sm), fun b h => ?_, fun p c e => ?_, ?_⟩
  · obtain ⟨h1, h2, h3, h4, h5⟩ := r.own i a ds e
    refine ⟨h1, fun z => z.elim h2 fun e => ?_, h3, h4, h5.keep k fun o q => sm _ _ q⟩
    obtain ⟨o, q⟩ := h5.some
    rw [e, hn] at q
    cases q
  · rcases oo b h with z | z
    · intro q
      cases w : H b with
      | none => exact r.tr b z w
      | some u => rw [sm b u w] at q; cases q
    · rw [z, upd_same]; simp
  · obtain ⟨ns, t, q, h1, h2, h3, h4⟩ := r.pen p c e
    exact ⟨ns, t, q, sm _ _ h1, sm _ _ h2, (fun z => (oo _ z).elim h3 (fun e => (by rw [e, hn] at h2; cases h2))), h4.1, h4.2.1, h4.2.2.1, h4.2.2.2.1, h4.2.2.2.2.same sm⟩
  · exact r.tre.move (σ' := σ) (H1 := H0) k fun i as d e => ⟨e, rfl, fun b q => ⟨fun o z => sm _ _ z, fun n1 n2 z => z.elim n1 fun e2 => n2 (by rw [e2]; exact hn), id, id, fun j s ej _ z => ⟨s, ej, z⟩⟩⟩
/-- a change where nothing is met -/
theorem R.updO (r : R K O0 H0 σ H ρ) {D : Addr} {o : HO} (hD : O0 D) (h0 : H0 D = none) (np : ¬ IsPen ρ.pen D) (hl : ∃ xs, H D = some (.lst xs)) : R K O0 H0 σ (upd H D o) ρ := by
  have hO : OO O0 ρ D := .inl hD
  have ne : ∀ {b : Addr}, ¬ OO O0 ρ b → b ≠ D := fun nb e => nb (by rw [e]; exact hO)
  have k : Keeps (OO O0 ρ) (OO O0 ρ) H (upd H D o) := ⟨fun b u h nb => by rw [upd_ne (ne nb)]; exact h, fun _ _ _ n => n⟩
  refine ⟨r.len, fun i d e => let ⟨v, h1, h2⟩ := r.dat i d e; ⟨v, h1, h2.keep k⟩, fun i a ds e => ?_, r.inj, fun b u h nb => ?_, fun b h => ?_, fun p c e => ?_, r.tre.heap (n := ρ.fuel) k fun i as d e b q o z => by rw [upd_ne fun w => ((r.tre i as d e).2.1 b q).1 (by rw [w]; exact hD)]; exact z⟩
  · obtain ⟨h1, h2, h3, h4, h5⟩ := r.own i a ds e
    exact ⟨h1, h2, h3, h4, h5.keep k fun o q => by rw [upd_ne (fun e => h2 (by rw [e]; exact hD))]; exact q⟩
  · rw [upd_ne (fun e => by rw [e, h0] at h; cases h)]
    exact r.fr b u h nb
  · by_cases e : b = D
    · rw [e, upd_same]; simp
    · rw [upd_ne e]; exact r.tr b h
  · obtain ⟨ns, t, q, h1, h2, h3, h4⟩ := r.pen p c e
    obtain ⟨h4, h5, h6, h7, h8⟩ := h4
    obtain ⟨xs, hl⟩ := hl
    exact ⟨ns, t, q, by rw [upd_ne (fun e2 => np (by rw [← e2]; exact isPen_p e))]; exact h1, by rw [upd_ne (ne h3)]; exact h2, h3, h4, h5, h6, h7, h8.updL hl⟩
theorem wipe_set {σ : L2.St} {i : Nat} {x : Option V} : ∀ {vs : List Nat}, i ∈ vs → L2.wipe (σ.set i x) vs = L2.wipe σ vs
  | [], h => by cases h
  | j :: js, h => by
    show (L2.wipe (σ.set i x) js).set j none = (L2.wipe σ js).set j none
    by_cases hj : i ∈ js
    · rw [wipe_set hj]
    · have e : i = j := by
        rcases List.mem_cons.mp h with e | e
        · exact e
        · exact absurd e hj
      subst e
      have comm : ∀ ks : List Nat, i ∉ ks → L2.wipe (σ.set i x) ks = (L2.wipe σ ks).set i x := by
        intro ks
        induction ks with
        | nil => intro _; rfl
        | cons k ks ih =>
          intro hk
          show (L2.wipe (σ.set i x) ks).set k none = ((L2.wipe σ ks).set k none).set i x
          rw [ih (fun z => hk (List.mem_cons_of_mem _ z)), List.set_comm _ _ (fun e => hk (by rw [e]; exact List.mem_cons_self))]
      rw [comm js hj, List.set_set]
theorem wipe_in {σ : L2.St} {vs : List Nat} : ∀ {ks : List Nat}, (∀ k ∈ ks, k ∈ vs) → L2.wipe (L2.wipe σ ks) vs = L2.wipe σ vs
  | [], _ => rfl
  | k :: ks, h => by
    show L2.wipe ((L2.wipe σ ks).set k none) vs = _
    rw [wipe_set (h k List.mem_cons_self)]
    exact wipe_in fun j hj => h j (List.mem_cons_of_mem _ hj)
/-- a target that touches the slots vs alone -/
structure GOk (K : PySem.W.Frag) (H0 : Hp) (G : TG) (g : UG) (vs : List Nat) : Prop where
  run : ∀ (O1 : Ad) v σ0 σ H Q, L2.wipe σ vs = L2.wipe σ0 vs → lG K O1 H0 g v σ H Q → G v σ H fun σ2 H2 => L2.wipe σ2 vs = L2.wipe σ0 vs ∧ Q σ2 H2
  out : ∀ d ρ P, g d ρ P → g d ρ fun ρ' => P ρ' ∧ ∀ (j : Nat) s, j ∉ vs → ρ.sl[j]? = some s → ρ'.sl[j]? = some s
theorem gok_name {i : Nat} {vs : List Nat} (hi : i ∈ vs) : GOk K H0 (gName i) (ugN i) vs where
  run := fun O1 v σ0 σ H Q hw h => by
    obtain ⟨ρ, d, P, r, rp, hg, hP⟩ := h
    exact ⟨(wipe_set hi).trans hw, hP _ hg _ (r.put rp) Tr.put⟩
  out := fun d ρ P h => ⟨h, fun j s hj e => by
    show (ρ.sl.set i _)[j]? = _
    rw [List.getElem?_set_ne (fun q => hj (by rw [← q]; exact hi))]
    exact e⟩
theorem putAll_out {vs : List Nat} : ∀ (is : List Nat) (ds : List D) (ρ ρ' : Ro), (∀ i ∈ is, i ∈ vs) → putAll is ds ρ = some ρ' → ∀ (j : Nat) s, j ∉ vs → ρ.sl[j]? = some s → ρ'.sl[j]? = some s
  | [], [], ρ, ρ', _, e, _, _, _, h => by cases e; exact h
  | i :: is, d :: ds, ρ, ρ', hi, e, j, s, hj, h => by
    refine putAll_out is ds (ρ.put i (.dat d)) ρ' (fun k hk => hi k (List.mem_cons_of_mem _ hk)) e j s hj ?_
    show (ρ.sl.set i _)[j]? = _
    rw [List.getElem?_set_ne (fun q => hj (by rw [← q]; exact hi i List.mem_cons_self))]
    exact h
  | [], _ :: _, _, _, _, e, _, _, _, _ => by cases e
  | _ :: _, [], _, _, _, e, _, _, _, _ => by cases e
theorem gns_wipe {Q : L2.St → Hp → Prop} {P : Ro → Prop} {ρ0 : Ro} {vs : List Nat} {σ0 : L2.St} : ∀ (is : List Nat) (ds : List D) (us : List V) (ρ ρ' : Ro) (σ : L2.St), (∀ i ∈ is, i ∈ vs) → L2.wipe σ vs = L2.wipe σ0 vs → R K O1 H0 σ H ρ → Tr O1 ρ0 H ρ H → RpA K (OO O1 ρ) H us ds →
    putAll is ds ρ = some ρ' → P ρ' → (∀ ρ', P ρ' → ∀ σ', R K O1 H0 σ' H ρ' → Tr O1 ρ0 H ρ' H → Q σ' H) → gNames is us σ H fun σ2 H2 => L2.wipe σ2 vs = L2.wipe σ0 vs ∧ Q σ2 H2
  | [], [], _, ρ, _, σ, _, hw, r, t, .nil, e, hp, hP => by
    cases e
    exact ⟨rfl, hw, hP ρ hp σ r t⟩
  | i :: is, d :: ds, _, ρ, ρ', σ, hi, hw, r, t, .cons h a, e, hp, hP => by
    refine ⟨_, _, rfl, ?_⟩
    exact gns_wipe is ds _ (ρ.put i (.dat d)) ρ' _ (fun j hj => hi j (List.mem_cons_of_mem _ hj)) ((wipe_set (hi i List.mem_cons_self)).trans hw) (r.put h) (t.trans Tr.put) (a.keep Tr.put.ks) e hp hP
  | [], _ :: _, _, _, _, _, _, _, _, _, _, e, _, _ => by cases e
  | _ :: _, [], _, _, _, _, _, _, _, _, _, e, _, _ => by cases e
theorem gok_tup {is : List Nat} {n : Nat} {vs : List Nat} (hi : ∀ i ∈ is, i ∈ vs) (hn : is.length = n := by rfl) : GOk K H0 (gTup K n (gNames is)) (ugT is) vs where
  run := fun O1 v σ0 σ H Q hw h => by
    obtain ⟨ρ, d, P, r, rp, hg, hP⟩ := h
    cases rp with
    | tup l ra =>
      dsimp only [ugT] at hg
      split at hg
      · rename_i ρ' e
        refine ⟨_, _, rfl, l.sq, by rw [ra.length, ← hn]; exact putAll_len _ _ _ _ e, ?_⟩
        exact gns_wipe is _ _ ρ ρ' σ hi hw r Tr.refl ra e hg hP
      · exact hg.elim
    | _ => exact hg.elim
  out := fun d ρ P h => by
    cases d with
    | tup ds =>
      dsimp only [ugT] at h ⊢
      split
      · rename_i ρ' e
        rw [e] at h
        exact ⟨h, putAll_out is ds ρ ρ' hi e⟩
      · rename_i e
        rw [e] at h
        exact h
    | _ => exact h.elim
/-- no own list in these slots -/
def noOwn (ρ : Ro) (vs : List Nat) : Bool := vs.all fun i => match ρ.sl[i]? with
  | some (.own _ _) => false
  | some (.tre _ _) => false
  | _ => true
theorem wipeR_out {ρ : Ro} {j : Nat} : ∀ {vs : List Nat}, j ∉ vs → (wipeR ρ vs).sl[j]? = ρ.sl[j]?
  | [], _ => rfl
  | k :: ks, h => by
    show ((wipeR ρ ks).sl.set k _)[j]? = _
    rw [List.getElem?_set_ne (fun q => h (by rw [q]; exact List.mem_cons_self))]
    exact wipeR_out fun z => h (List.mem_cons_of_mem _ z)

def uComp (ui : UI) (vs : List Nat) (g : UG) (tt : UT) (te : UE) : UF := fun ρ Q => ui ρ fun ds n => (ds.length ≤ sizeLine ∧ noOwn ρ vs = true) ∧ ∃ I : List D → List D → Nat → Prop, I ds [] n ∧ (∀ acc m, I [] acc m → Q acc m) ∧
  ∀ d r acc m, I (d :: r) acc m → g d ((wipeR ρ vs).f m) fun ρ' => tt ρ' fun k j => if k = true then te (ρ'.f j) fun y l => I r (acc ++ [y]) l else I r acc j
/-- the comprehension's own reading -/
theorem comp_core {ui : UI} {G : TG} {g : UG} {tt : UT} {te : UE} {vs : List Nat} {Q : VK} (hG : GOk K H0 G g vs) (h : lF K O0 H0 (uComp ui vs g tt te) σ H Q) :
    tLc (lI K O0 H0 ui) G (fun σ H Q => ∃ O1, lT K O1 H0 tt σ H Q) (fun σ H Q => ∃ O1, lE K O1 H0 te σ H Q) vs σ H Q := by
  obtain ⟨ρ, P, r, hu, hP⟩ := h
  refine ⟨ρ, _, r, hu, fun ds n ⟨⟨hz, hno⟩, I, i0, iE, iS⟩ J H1 r1 f1 ok D hD => ?_⟩
  have nO1 : ¬ OO O0 ρ D := r1.fresh hD
  have npD : ¬ IsPen ρ.pen D := fun z => nO1 (OO.pen _ z)
  have hD0 : H D = none := by
    cases q : H D with
    | none => rfl
    | some u => exact absurd hD (f1.there r1.pen (b := D) (by rw [q]; simp))
  have h0D : H0 D = none := by
    cases q : H0 D with
    | none => rfl
    | some u =>
      have := r.fr D u q npD
      rw [hD0] at this
      cases this
  let OD : Ad := fun b => O0 b ∨ b = D
  refine ⟨fun i m H' => ∃ acc accV k, I (ds.drop i) acc k ∧ m = ds.length - i ∧ i ≤ ds.length ∧ acc.length ≤ i ∧ H' D = some (.lst accV) ∧ RpA K (OO OD ρ) H' accV acc ∧ R K OD H0 σ H' (ρ.f k) ∧ Frm ρ.pen H1 H',
    ⟨ds.length, [], [], n, i0, by simp, Nat.zero_le _, Nat.le_refl _, upd_same, .nil, r1.more hD, .of (Same.new hD)⟩, ?_⟩
  rintro i m H2 ⟨acc, accV, k, hI, rfl, hle, hal, hDl, ra, r2, f2⟩
  have kk : Keeps (OO O0 ρ) (OO OD ρ) H1 H2 := ⟨fun b o h nb => f2 b o h fun z => nb (OO.pen b z), fun b o h nb z => by
    rcases z with (z | z) | z
    · exact nb (.inl z)
    · rw [z, hD] at h; cases h
    · exact nb (.inr z)⟩
  obtain ⟨ok1, ok2⟩ := ok _ H2 kk r2.tr
  by_cases hlt : i < ds.length
  · have ed : ds[i]? = some ds[i] := List.getElem?_eq_getElem hlt
    obtain ⟨go, yl⟩ := ok1 i _ ed
    have hI' : I (ds[i] :: ds.drop (i + 1)) acc k := by rw [← List.drop_eq_getElem_cons hlt]; exact hI
    refine .inr ⟨go, fun H' => ∃ acc accV k, I (ds.drop (i + 1)) acc k ∧ acc.length ≤ i + 1 ∧ H' D = some (.lst accV) ∧ RpA K (OO OD ρ) H' accV acc ∧ R K OD H0 σ H' (ρ.f k) ∧ Frm ρ.pen H1 H',
      fun H' ⟨acc, accV, k, a1, a2, a3, a4, a5, a6⟩ => ⟨ds.length - (i + 1), by omega, acc, accV, k, a1, rfl, hlt, a2, a3, a4, a5, a6⟩, fun x H3 hy => ?_⟩
    obtain ⟨sm, rx⟩ := yl x H3 hy
    have r3 := r2.same sm
    have r3w := r3.wipe vs
    rw [wipeR_f] at r3w
    have oow : ∀ b, OO OD (wipeR ρ vs) b → OO OD ρ b := by
      have : ∀ is b, OO OD (wipeR ρ is) b → OO OD ρ b := by
        intro is
        induction is with
        | nil => intro b h; exact h
        | cons j js ih => intro b h; exact ih b (OO.put_emp h)
      exact this vs
    refine hG.run OD x σ _ H3 _ (wipe_in fun _ z => z) ⟨_, ds[i], _, r3w, rx.keep (.less oow), hG.out _ _ _ (iS _ _ _ _ hI'), fun ρ4 ⟨h4, own4⟩ σ4 r4 t4 => ?_⟩
    have e4 : ρ4.pen = ρ.pen := t4.pn.trans (wipeR_pen ρ vs)
    -- back to the frame's own slots
    have home : ∀ {H5 : Hp} {l : Nat}, R K OD H0 σ4 H5 (ρ4.f l) → Frm ρ.pen H3 H5 → R K OD H0 σ H5 (ρ.f l) ∧ Frm ρ.pen H1 H5 ∧ H5 D = some (.lst accV) ∧ RpA K (OO OD ρ) H5 accV acc := fun {H5 l} r5 f5 => by
      refine ⟨r3.call (ρ := ρ.f k) f5 fun p c q => ?_, (f2.trans (.of sm)).trans f5, f5 _ _ (sm _ _ hDl) npD, (ra.keep (.same sm)).keep (Frm.keepsO (ρ := ρ) f5)⟩
      have q4 : (ρ4.f l).pen = some (p, c) := e4.trans q
      obtain ⟨ns, t, z, h1, h2, h3, h4⟩ := r5.pen p c q4
      obtain ⟨_, _, _, _, _, k3, _⟩ := r3.pen p c q
      exact ⟨ns, t, z, h1, h2, k3, h4⟩
    refine ⟨OD, ρ4, _, r4, h4, fun b j hb H5 r5 f5 => ?_⟩
    rw [e4] at f5
    cases b with
    | false =>
      obtain ⟨g1, g2, g3, g4⟩ := home r5 f5
      exact iteF ⟨acc, accV, j, hb, by omega, g3, g4, g1, g2⟩
    | true =>
      refine iteT ⟨OD, ρ4.f j, _, r5, hb, fun y l hy2 w H6 r6 f6 p6 => ?_⟩
      have f6' : Frm ρ.pen H5 H6 := by
        have := f6
        rw [show (ρ4.f j).pen = ρ.pen from e4] at this
        exact this
      obtain ⟨g1, g2, g3, g4⟩ := home r6 (f5.trans f6')
      refine ⟨accV, g3, ?_, acc ++ [y], accV ++ [w], l, hy2, by simp; omega, upd_same, ?_, g1.updO (.inr rfl) h0D npD ⟨_, g3⟩, fun b o h nb => ?_⟩
      · rw [g4.length]; omega
      · have kD : Keeps (OO OD ρ) (OO OD ρ) H6 (upd H6 D (.lst (accV ++ [w]))) := ⟨fun b o h nb => by rw [upd_ne (fun e => nb (.inl (.inr e)))]; exact h, fun _ _ _ n => n⟩
        refine (g4.append (.one ?_)).keep kD
        -- w is not at an own list of the frame
        refine p6.keep ⟨fun b o h _ => h, fun b o h nb z => ?_⟩
        rcases z with z | z | ⟨q, es, z⟩ | ⟨q, as, e, z, m⟩
        · exact nb (.inl z)
        · exact nb (.inr (.inl (by show IsPen ρ4.pen b; rw [e4]; exact z)))
        · have hj : q ∉ vs := fun hm => by
            have := List.all_eq_true.mp hno q hm
            rw [z] at this
            cases this
          refine nb (.own (i := q) (c := es) (own4 q _ hj ?_))
          show (wipeR ρ vs).sl[q]? = _
          rw [wipeR_out hj]
          exact z
        · have hj : q ∉ vs := fun hm => by
            have := List.all_eq_true.mp hno q hm
            rw [z] at this
            cases this
          refine nb (.tre (i := q) (as := as) (d := e) (own4 q _ hj ?_) m)
          show (wipeR ρ vs).sl[q]? = _
          rw [wipeR_out hj]
          exact z
      · rw [upd_ne (fun e => by rw [e, hD] at h; cases h)]
        exact g2 b o h nb
  · have e : i = ds.length := by omega
    subst e
    rw [List.drop_length] at hI
    refine .inl ⟨ok2 _ (Nat.le_refl _), hP acc k (iE acc k hI) D H2 ⟨hD0, f1.trans f2, fun p c q => ?_, accV, hDl, ra.keep (.less fun b z => ?_)⟩⟩
    · obtain ⟨ns, t, z, h1, h2, h3, h4⟩ := r2.pen p c q
      refine ⟨ns, t, z, h1, h2, fun w => h3 ?_, h4⟩
      rcases w with (w | w) | w
      · exact .inl (.inl w)
      · exact .inr w
      · exact .inl (.inr w)
    · rcases z with (w | w) | w
      · exact .inl (.inl w)
      · exact .inr w
      · exact .inl (.inr w)
end
end U

set_option Elab.async false
set_option linter.all false
set_option maxRecDepth 100000
set_option maxHeartbeats 4000000
/-! Comprehensions as rules; a def by its body. -/
namespace U
open PySem PySem.Spec L2
open PyProof.Rows hiding St

def uYes : UT := fun ρ Q => Q true ρ.fuel
abbrev xT (K : PySem.W.Frag) (H0 : Hp) (u : UT) : TT := fun σ H Q => ∃ O1, lT K O1 H0 u σ H Q
abbrev xE (K : PySem.W.Frag) (H0 : Hp) (u : UE) : TE := fun σ H Q => ∃ O1, lE K O1 H0 u σ H Q
abbrev UPts (X : Cx) (H0 : Hp) (ifs : List Expr) (u : UT) : Prop := PTs X ifs (xT X.K H0 u)
theorem PTs.imp {X : Cx} {e : List Expr} {t t' : TT} (h : PTs X e t) (hi : ∀ σ H Q, t' σ H Q → t σ H Q) : PTs X e t' := ⟨fun pins s σ H Q I q => h.run pins s σ H Q I (hi σ H Q q)⟩
section
variable {X : Cx} {O0 : Ad} {H0 : Hp} {a b c e tg elt it : Expr} {ua ub uc : UE} {pos p : Pos} {W : WU}
theorem uts_nil : UPts X H0 [] uYes := PTs.imp pts_nil fun σ H Q ⟨O1, ρ, P, r, hu, hP⟩ => hP true ρ.fuel hu H r Frm.refl
theorem uts_one {u : UT} (h : ∀ O1, UPT X O1 H0 c u) : UPts X H0 [c] u := pts_one ⟨fun pins s σ H Q I ⟨O1, q⟩ => (h O1).run pins s σ H Q I q⟩
theorem xe_of {u : UE} (h : ∀ O1, UPE X O1 H0 e u) : PE X e (xE X.K H0 u) := ⟨fun pins s σ H Q I ⟨O1, q⟩ => (h O1).run pins s σ H Q I q⟩
variable {ifs : List Expr} {scope : Scope} {own : List (Str × Nat)} {ui : UI} {G : TG} {g : UG} {tt : UT} {te : UE}
theorem uf_comp (hc : X.calm = true) (hN : X.N.Nodup) (hi : UPI X O0 H0 tg it ui) (ok : BlkOk X.N X.env.scope scope own) (hG : GOk X.K H0 G g (own.map (·.2)))
    (hg : ∀ (s : Shared) (H : Hp) (C : Addr) (cl : List (Str × Addr)) (fp : List Addr), PG (X.blk s H scope (compEnvC scope cl C X.env) fp) tg G)
    (ht : ∀ (s : Shared) (H : Hp) (C : Addr) (cl : List (Str × Addr)) (fp : List Addr), UPts (X.blk s H scope (compEnvC scope cl C X.env) fp) H0 ifs tt)
    (he : ∀ (s : Shared) (H : Hp) (C : Addr) (cl : List (Str × Addr)) (fp : List Addr) (O1 : Ad), UPE (X.blk s H scope (compEnvC scope cl C X.env) fp) O1 H0 elt te) (hs : ∀ x, foldedSetIterable it X.env x = pure x := by intro _; rfl) :
    UPF X O0 H0 (.ListComp elt [⟨tg, it, ifs, 0⟩] scope pos) (uComp ui (own.map (·.2)) g tt te) :=
  PE.imp (pe_lc hc hN hi ok hg ht (fun s H C cl fp => xe_of (he s H C cl fp)) hs) fun σ H Q h => comp_core hG h
/-- name = [..], the list its own or not -/
theorem ps_comp {i : Nat} {y : Str} {py spos : Pos} (hc : X.calm = true) (hN : X.N.Nodup) (hy : X.N[i]? = some y) (hyl : X.env.scope.names.lookup y = some .local)
    (hsw : swapsWith (.ListComp elt [⟨tg, it, ifs, 0⟩] scope pos) (some (.Name y py)) spos.line X.env = pure true) (hi : UPI X O0 H0 tg it ui) (ok : BlkOk X.N X.env.scope scope own) (hG : GOk X.K H0 G g (own.map (·.2)))
    (hg : ∀ (s : Shared) (H : Hp) (C : Addr) (cl : List (Str × Addr)) (fp : List Addr), PG (X.blk s H scope (compEnvC scope cl C X.env) fp) tg G)
    (ht : ∀ (s : Shared) (H : Hp) (C : Addr) (cl : List (Str × Addr)) (fp : List Addr), UPts (X.blk s H scope (compEnvC scope cl C X.env) fp) H0 ifs tt)
    (he : ∀ (s : Shared) (H : Hp) (C : Addr) (cl : List (Str × Addr)) (fp : List Addr) (O1 : Ad), UPE (X.blk s H scope (compEnvC scope cl C X.env) fp) O1 H0 elt te) (hs : ∀ x, foldedSetIterable it X.env x = pure x := by intro _; rfl) :
    PS X (.Assign [.Name y py] (.ListComp elt [⟨tg, it, ifs, 0⟩] scope pos) spos) (tAsg (lF X.K O0 H0 (uComp ui (own.map (·.2)) g tt te)) (gName i)) :=
  PS.imp (ps_setLc hc hN hy hyl hsw hi ok hg ht (fun s H C cl fp => xe_of (he s H C cl fp)) hs) fun σ H D h => comp_core hG h
theorem us_setC {i : Nat} {st : Stmt} {u : UF} (h : PS X st (tAsg (lF X.K O0 H0 u) (gName i))) : UPS X O0 H0 st (uSet i (uFr u)) := PS.imp h fun σ H D ⟨ρ, E, r, hu, hn, _⟩ =>
  ⟨ρ, _, r, hu, fun ds n hd a H' w => hn _ hd _ H' ((w.r r).put (ρ := ρ.f n) (w.rp r)) ((Tr.frm w.fr).trans Tr.put)⟩

/-! ### enumerate of a list -/
def enumD (i : Nat) : List D → List D
  | [] => []
  | d :: ds => .tup [.int i, d] :: enumD (i + 1) ds
end

/-! ### a def -/
def startU (N : List Str) (ds : List D) : List Sl := ds.map Sl.dat ++ List.replicate (N.length - ds.length) Sl.emp
theorem R.start {K : PySem.W.Frag} {O : Ad} {H : Hp} {N : List Str} {vs : List V} {ds : List D} {pen : PenT} {n : Nat} (hl : ds.length ≤ N.length) (ra : RpA K O H vs ds) (tr : ∀ b, O b → H b ≠ none) (hp : ∀ p, IsPen pen p → O p) (pn : Pen K O H pen n) :
    R K O H (start N vs) H ⟨startU N ds, pen, n⟩ := by
  have at_ : ∀ (i : Nat) s, (startU N ds)[i]? = some s → (∃ d, ds[i]? = some d ∧ s = .dat d) ∨ s = .emp := fun i s e => by
    unfold startU at e
    by_cases hi : i < ds.length
    · rw [List.getElem?_append_left (by simpa using hi), List.getElem?_map] at e
      cases q : ds[i]? with
      | none => rw [q] at e; cases e
      | some d => rw [q] at e; cases e; exact .inl ⟨d, rfl, rfl⟩
    · rw [List.getElem?_append_right (by simpa using hi), List.getElem?_replicate] at e
      split at e
      · exact .inr (Option.some.inj e).symm
      · cases e
  have noown : ∀ (i : Nat) a es, (startU N ds)[i]? = some (.own a es) → False := fun i a es e => by
    rcases at_ i _ e with ⟨d, _, q⟩ | q <;> cases q
  have notre : ∀ (i : Nat) as d, (startU N ds)[i]? = some (.tre as d) → False := fun i as d e => by
    rcases at_ i _ e with ⟨d, _, q⟩ | q <;> cases q
  have le : ∀ b, OO O ⟨startU N ds, pen, n⟩ b → O b := fun b h => by
    rcases h with h | h | ⟨i, es, h⟩ | ⟨i, as, d, h, _⟩
    · exact h
    · exact hp b h
    · exact (noown i b es h).elim
    · exact (notre i as d h).elim
  refine ⟨?_, fun i d e => ?_, fun i a es e => (noown i a es e).elim, fun i j a es fs e _ => (noown i a es e).elim, Frm.refl, fun b h => tr b (le b h), fun p c e => ?_, Trees.none notre⟩
  · unfold L2.start startU
    simp only [List.length_append, List.length_map, List.length_replicate, ra.length]
  · rcases at_ i _ e with ⟨d', e1, q⟩ | q
    · cases q
      obtain ⟨v, e2, rv⟩ := ra.get e1
      have hv : i < vs.length := (List.getElem?_eq_some_iff.mp e2).1
      refine ⟨v, ?_, rv.keep (.less le)⟩
      unfold L2.start
      rw [List.getElem?_append_left (by simpa using hv), List.getElem?_map, e2]
      rfl
    · cases q
  · obtain ⟨ns, t, r, h1, h2, h3, h4⟩ := pn p c e
    exact ⟨ns, t, r, h1, h2, fun z => h3 (le _ z), h4⟩
section
variable {P : Program} {w : World} {K : PySem.W.Frag} {mg : Str → Option Value} {base : Heap}
theorem fnU {x qual : Str} {params : Arguments} {body : List Stmt} {scope : Scope} {dvs : List V} {kws : List (Str × V)} {f : Addr} {fd : FuncData} {N ps : List Str} {k : Nat} {usp : USp} (F : FunD K x qual params body scope dvs kws f fd) (S : FnScope N ps scope)
    (len : ∀ ds pen n Q E, usp ds pen n Q E → ds.length = ps.length)
    (hbody : ∀ (cdv : Value) (A : Around) (outer : List Env) (s : Shared) (H : Hp) (E : XK) (O0 : Ad) (pen : PenT) (PX : UX → Nat → Prop),
      RG k (cxOf (L2.CX P w) P w K mg base N qual scope f cdv A outer s H E).A →
      Takes (cxOf (L2.CX P w) P w K mg base N qual scope f cdv A outer s H E) (LW K O0 H fun x ρ => ρ.pen = pen ∧ PX x ρ.fuel) →
      ∃ u, UPB (cxOf (L2.CX P w) P w K mg base N qual scope f cdv A outer s H E) O0 H body u ∧
        ∀ ds n (Q : D → Nat → Prop), usp ds pen n Q PX → u { nx := fun ρ => Q .non ρ.fuel, rt := Q } ⟨startU N ds, pen, n⟩) :
    FnG P w K mg base (k + 1) f fd ps (LSp K usp) := by
  refine fnG_mk F S (fun vs H Q E ⟨ds, O, pen, n, PD, PX, ra, _, _, _, hu, _⟩ => by rw [ra.length]; exact len _ _ _ _ _ hu) ?_
  intro cdv A outer s H vs Q E hr ⟨ds, O, pen, n, PD, PX, ra, tr, hp, pn, hu, hQ, hE⟩
  have lenN : ps.length ≤ N.length := by have := congrArg List.length S.pre; rw [List.length_take] at this; omega
  have tk : Takes (cxOf (L2.CX P w) P w K mg base N qual scope f cdv A outer s H E) (LW K O H fun x ρ => ρ.pen = pen ∧ PX x ρ.fuel) := by
    refine Takes.imp (takes_of rfl rfl rfl rfl) ?_
    rintro cls d σ H' ⟨ρ', x, r', rfl, xr, e, hx⟩
    have fr := r'.fr
    have pn' := r'.pen
    rw [e] at fr pn'
    exact hE x _ hx d H' fr (pn'.less fun b h => .inl h) (xr.keep (.less fun b h => .inl h))
  obtain ⟨u, hb, hr'⟩ := hbody cdv A outer s H E O pen PX hr tk
  · refine ⟨_, hb, ⟨startU N ds, pen, n⟩, _, R.start (by rw [len _ _ _ _ _ hu]; exact lenN) ra tr hp pn, hr' ds n PD hu, fun ρ' hx σ' H' r' t' => ?_, fun _ z => z.elim, fun _ z => z.elim, ⟨fun d m hd v H' fr pn' rp => ?_, fun _ _ z => z.elim, fun _ _ z => z.elim⟩⟩
    · have e : ρ'.pen = pen := t'.pn
      have fr := r'.fr
      have pn' := r'.pen
      rw [e] at fr pn'
      exact hQ .non _ hx .non H' fr (pn'.less fun b h => .inl h) .non
    · exact hQ d m hd v H' fr (pn'.less fun b h => .inl h) (rp.keep (.less fun b h => .inl h))
end
end U

set_option Elab.async false
set_option linter.all false
set_option maxRecDepth 100000
set_option maxHeartbeats 4000000
/-! A def of the module by its name; constants. -/
namespace U
open PySem PySem.Spec L2
open PyProof.Rows hiding St

/-- the module's def x keeps the promise -/
structure Fn (P : Program) (w : World) (K : PySem.W.Frag) (mg : Str → Option Value) (base : Heap) (k : Nat) (x : Str) (st : Stmt) (ps : List Str) (usp : USp) : Prop where
  ex : ∃ fd, FnG P w K mg base k (He.fAd K (x, none)) fd ps (LSp K usp) ∧ Binds K fd ps [] ∧ PySem.W.keepIn K (.ref (He.fAd K (x, none))) = true ∧ FunD K x x (defArgs st) (defBody st) (defScope st) [] [] (He.fAd K (x, none)) fd
  gl : mg x = some (.ref (He.fAd K (x, none)))
section
variable {X : Cx} {O0 : Ad} {H0 : Hp} {a b c e : Expr} {ua ub uc : UE} {pos p : Pos} {W : WU}
theorem up_fn {j k : Nat} {x : Str} {ps : List Str} {usp : USp} {es : List Expr} {u : UA} {sd : Stmt} (h : Fn X.prog X.w X.K X.mg X.base j x sd ps usp) (hr : RG k X.A) (hjk : j ≤ k) (hg : Gl X x) (tk : Takes X (LW X.K O0 H0 W)) (ha : UPL X O0 H0 (e :: es) u)
    (hdb : (x == ("__debug__" : Str)) = false := by decide) (he : starEach (e :: es) X.env = (false, eval e X.env) :: starEach es X.env := by rfl) (hpl : (backTo pos (starEach es X.env)).any (·.1) = false := by rfl) :
    UPE X O0 H0 (.Call (.Name x p) (e :: es) [] pos) (uCall usp [] W u) := by
  obtain ⟨fd, G, hb, kp, _⟩ := h.ex
  exact up_call G (hr.mono hjk) hg h.gl kp hb .nil (fun _ _ => .nil) tk ha hdb he hpl
theorem up_gi {x : Str} {i : Int} (hg : Gl X x) (h : ∃ t, X.mg x = some (.int i t)) (hdb : (x == ("__debug__" : Str)) = false := by decide) : UPE X O0 H0 (.Name x pos) (uC (.int i)) := by
  obtain ⟨t, h⟩ := h
  exact up_glob hg h (v := .int i) ⟨t, rfl⟩ (fun _ _ => .int i) hdb
theorem up_gs {x z : Str} (hg : Gl X x) (h : ∃ t, X.mg x = some (.str z t)) (hdb : (x == ("__debug__" : Str)) = false := by decide) : UPE X O0 H0 (.Name x pos) (uC (.str z)) := by
  obtain ⟨t, h⟩ := h
  exact up_glob hg h (v := .str z) ⟨t, rfl⟩ (fun _ _ => .str z) hdb
theorem up_bt {x : Str} {n : String} (hg : Gl X x) (hm : X.mg x = none) (hv : bootBuiltins x = some (.type n)) (hn : x ≠ "__name__" := by decide) (hdb : (x == ("__debug__" : Str)) = false := by decide) : UPE X O0 H0 (.Name x pos) (uC (.ty n)) :=
  up_bltn hg hm hv (v := .ty n) rfl (fun _ _ => .ty n) hn hdb
end
section
variable {P : Program} {w : World} {K : PySem.W.Frag} {mg : Str → Option Value} {base : Heap}
theorem fn_mk {x : Str} {st : Stmt} {fd : FuncData} {N ps : List Str} {k : Nat} {usp : USp} (F : FunD K x x (defArgs st) (defBody st) (defScope st) [] [] (He.fAd K (x, none)) fd) (g : mg x = some (.ref (He.fAd K (x, none)))) (S : FnScope N ps (defScope st))
    (hb : Binds K fd ps []) (len : ∀ ds pen n Q E, usp ds pen n Q E → ds.length = ps.length)
    (hbody : ∀ (cdv : Value) (A : Around) (outer : List Env) (s : Shared) (H : Hp) (E : XK) (O0 : Ad) (pen : PenT) (PX : UX → Nat → Prop),
      RG k (cxOf (L2.CX P w) P w K mg base N x (defScope st) (He.fAd K (x, none)) cdv A outer s H E).A →
      Takes (cxOf (L2.CX P w) P w K mg base N x (defScope st) (He.fAd K (x, none)) cdv A outer s H E) (LW K O0 H fun x ρ => ρ.pen = pen ∧ PX x ρ.fuel) →
      ∃ u, UPB (cxOf (L2.CX P w) P w K mg base N x (defScope st) (He.fAd K (x, none)) cdv A outer s H E) O0 H (defBody st) u ∧
        ∀ ds n (Q : D → Nat → Prop), usp ds pen n Q PX → u { nx := fun ρ => Q .non ρ.fuel, rt := Q } ⟨startU N ds, pen, n⟩) :
    Fn P w K mg base (k + 1) x st ps usp := ⟨⟨fd, fnU F S len hbody, hb, F.kp, F⟩, g⟩
end
/-- the wish of a def's own -/
abbrev Wd (pen : PenT) (PX : UX → Nat → Prop) : WU := fun x ρ => ρ.pen = pen ∧ PX x ρ.fuel
end U

set_option Elab.async false
set_option linter.all false
set_option maxRecDepth 100000
set_option maxHeartbeats 4000000
/-! repr, == of unlike tuples, in, [::-1], {}, over data. -/
namespace U
open PySem PySem.Spec L2
open PyProof.Rows hiding St

mutual
/-- no object within: all of it can be read -/
def D.okr : D → Bool
  | .ref _ => false
  | .ty _ => false
  | .exc _ _ => false
  | .cls _ => false
  | .lst ds => D.okrs ds
  | .tup ds => D.okrs ds
  | .dic es => D.okrk es
  | _ => true
def D.okrs : List D → Bool
  | [] => true
  | d :: ds => D.okr d && D.okrs ds
def D.okrk : List (Key × D) → Bool
  | [] => true
  | (_, d) :: ds => D.okr d && D.okrk ds
end
mutual
/-- no list within; dicts may be -/
def D.noSq : D → Bool
  | .lst _ => false
  | .tup ds => D.noSqs ds
  | .dic es => D.noSqk es
  | _ => true
def D.noSqs : List D → Bool
  | [] => true
  | d :: ds => D.noSq d && D.noSqs ds
def D.noSqk : List (Key × D) → Bool
  | [] => true
  | (_, d) :: ds => D.noSq d && D.noSqk ds
end
def kD : Key → PyData
  | .inl i => .int i
  | .inr x => .str x
section
variable {X : Cx} {pins : List (Addr × Obj)} {σ : L2.St} {H : Hp} {s : Shared} {O : Ad}
mutual
theorem Rp.rds (I : Inv X pins σ H s) : ∀ (d : D) (v : V) (u : Value), d.okr = true → Rp X.K O H v d → RelV v u → ∃ as, Reads s.heap u d.py as ∧ (d.noSq = true → sysModules ∉ as)
  | .non, _, _, _, .non, r => by
    cases r
    exact ⟨[], .none, fun _ z => nomatch z⟩
  | .bl b, _, _, _, .bl _, r => by
    cases r
    exact ⟨[], .bool b, fun _ z => nomatch z⟩
  | .int i, _, _, _, .int _, ⟨t, e⟩ => by
    subst e
    exact ⟨[], .int i t, fun _ z => nomatch z⟩
  | .str x, _, _, _, .str _, ⟨t, e⟩ => by
    subst e
    exact ⟨[], .str x t, fun _ z => nomatch z⟩
  | .ref _, _, _, h, _, _ => by simp [D.okr] at h
  | .ty _, _, _, h, _, _ => by simp [D.okr] at h
  | .exc _ _, _, _, h, _, _ => by simp [D.okr] at h
  | .cls _, _, _, h, _, _ => by simp [D.okr] at h
  | .lst ds, _, _, h, .lst l ra, r => by
    cases r
    obtain ⟨its, rv, ⟨ob, m, g1, g2, _, g3⟩, _⟩ := I.list l.sq
    obtain ⟨as, q, _⟩ := RpA.rds I ds _ its (by simpa [D.okr] using h) ra rv
    exact ⟨_, .list g1 g2 g3 q, fun z => by simp [D.noSq] at z⟩
  | .tup ds, _, _, h, .tup l ra, r => by
    cases r
    obtain ⟨its, rv, ⟨ob, g1, g2, m, g3⟩, _⟩ := I.tuple l.sq
    obtain ⟨as, q, n⟩ := RpA.rds I ds _ its (by simpa [D.okr] using h) ra rv
    exact ⟨_, .tuple g1 g2 g3 q, fun z => n (by simpa [D.noSq] using z)⟩
  | .dic es, _, _, h, .dic _ hH rk, r => by
    cases r
    obtain ⟨_, _, ns, vs, kv, dd⟩ := I.hok _ _ hH
    obtain ⟨as, q, n⟩ := RpK.rds I es _ vs (by simpa [D.okr] using h) rk kv
    refine ⟨_, PyProof.V.reads_dictOf (enc := kD) (fun k key hk => ?_) dd q, fun z hm => ?_⟩
    · rcases keyIs_shape hk with ⟨i, t, e1, e2⟩ | ⟨x, t, e1, e2⟩
      · subst e1 e2; exact .int i t
      · subst e1 e2; exact .str x t
    · rcases List.mem_cons.mp hm with e | hm
      · rw [← e] at ns
        simp at ns
      · exact n (by simpa [D.noSq] using z) hm
theorem RpA.rds (I : Inv X pins σ H s) : ∀ (ds : List D) (vs : List V) (us : List Value), D.okrs ds = true → RpA X.K O H vs ds → Vals vs us → ∃ as, ReadsAll s.heap us (D.pys ds) as ∧ (D.noSqs ds = true → sysModules ∉ as)
  | [], _, _, _, .nil, r => by
    cases r
    exact ⟨[], .nil, fun _ z => nomatch z⟩
  | d :: ds, _, _, h, .cons a b, r => by
    simp only [D.okrs, Bool.and_eq_true] at h
    cases r with
    | cons r1 r2 =>
      obtain ⟨as, q1, n1⟩ := Rp.rds I d _ _ h.1 a r1
      obtain ⟨bs, q2, n2⟩ := RpA.rds I ds _ _ h.2 b r2
      refine ⟨_, .cons q1 q2, fun z hm => ?_⟩
      simp only [D.noSqs, Bool.and_eq_true] at z
      exact (List.mem_append.mp hm).elim (n1 z.1) (n2 z.2)
theorem RpK.rds (I : Inv X pins σ H s) : ∀ (es : List (Key × D)) (vs : List (Key × V)) (us : List (Key × Value)), D.okrk es = true → RpK X.K O H vs es → KV vs us → ∃ as, PyProof.V.PairsRead s.heap kD us (D.pyk es) as ∧ (D.noSqk es = true → sysModules ∉ as)
  | [], _, _, _, .nil, r => by
    cases r
    exact ⟨[], .nil, fun _ z => nomatch z⟩
  | (k, d) :: es, _, _, h, .cons a b, r => by
    simp only [D.okrk, Bool.and_eq_true] at h
    cases r with
    | @cons _ q0 _ _ r1 r2 =>
      obtain ⟨k', u⟩ := q0
      obtain ⟨r1a, r1b⟩ := r1
      cases r1a
      obtain ⟨as, q1, n1⟩ := Rp.rds I d _ _ h.1 a r1b
      obtain ⟨bs, q2, n2⟩ := RpK.rds I es _ _ h.2 b r2
      refine ⟨as ++ bs, ?_, fun z hm => ?_⟩
      · cases k with
        | inl i => exact .cons q1 q2
        | inr x => exact .cons q1 q2
      · simp only [D.noSqk, Bool.and_eq_true] at z
        exact (List.mem_append.mp hm).elim (n1 z.1) (n2 z.2)
end
end

/-! ### repr -/
/-- what repr needs of a datum -/
structure Shw (d : D) : Prop where
  ok : d.okr = true
  sh : d.py.showable = true
  len : d.py.shown.length ≤ sizeLine
  dep : d.py.depth ≤ 60
  dic : d.py.hasDict = true → d.noSq = true
def gRepr : GL
  | [d], Q => Shw d ∧ Q (.str d.py.shown)
  | _, _ => False
section
variable {X : Cx} {O0 : Ad} {H0 : Hp} {a b c e : Expr} {ua ub uc : UE} {pos p : Pos} {W : WU}
theorem call_reprU {k : Nat} (hr : RG k X.A) : CallR X (.builtin "repr") (lCR X.K gRepr) := by
  intro pins s σ H xs us Q I rx ⟨O, ds, PQ, tr, ha, hg, hP⟩
  unfold gRepr at hg
  split at hg
  · rename_i d
    obtain ⟨w, hq⟩ := hg
    cases ha with
    | cons h t =>
      cases t
      cases rx with
      | cons r1 r2 =>
        cases r2
        have fin : ∀ t h' tk, (∀ b o, s.heap.get? b = some o → h'.get? b = some o) → EP X pins σ Q (Value.str d.py.shown t) { s with heap := h', toks := tk } := fun t h' tk hk =>
          ⟨.str d.py.shown, H, I.kept (t' := tk) hk, ⟨t, rfl⟩, hP _ hq _ _ (Same.refl _) (.str _)⟩
        obtain ⟨as, q, n⟩ := h.rds I d _ _ w.ok r1
        have big : ∀ {l : Addr}, Reads s.heap (.ref l) d.py as → wpAny (model X.prog X.w) X.A (PySem.call (.builtin "repr") [.ref l]) (EP X pins σ Q) X.xe s := fun q =>
          PySem.repr_of_reads' q w.sh (fun z => n (w.dic z)) hr.gd (by have := hr.room.un; have := w.dep; omega) (fun _ _ e => e) (fun h' u tk hk => fin u h' tk hk) w.len
        cases h with
        | non =>
          cases r1
          exact PySem.P.repr_of_none (fin _ s.heap _ fun _ _ e => e)
        | bl z =>
          cases r1
          exact PySem.P.repr_of_bool (fin _ s.heap _ fun _ _ e => e)
        | int i =>
          obtain ⟨t, e⟩ := r1
          subst e
          have z : i.natAbs.log2 < 1920 := by
            have := w.sh
            simp only [D.py, PyData.showable] at this
            exact of_decide_eq_true this
          exact PySem.P.repr_of_int z (fin _ s.heap _ fun _ _ e => e)
        | str x =>
          obtain ⟨t, e⟩ := r1
          subst e
          have z := w.len
          simp only [D.py, PyData.shown] at z
          refine PySem.P.repr_of_str ?_ z
          have f := fin s.toks s.heap (s.toks + 1) fun _ _ e => e
          simp only [D.py, PyData.shown] at f
          exact f
        | lst l a => cases r1; exact big q
        | tup l a => cases r1; exact big q
        | dic l a z => cases r1; exact big q
        | ref _ => have := w.ok; simp [D.okr] at this
        | ty _ => have := w.ok; simp [D.okr] at this
        | exc _ _ => have := w.ok; simp [D.okr] at this
        | excf _ _ _ _ _ => have := w.ok; simp [D.okr] at this
        | rcd _ _ _ _ => have := w.ok; simp [D.okr] at this
        | cls _ => have := w.ok; simp [D.okr] at this
  · exact hg.elim
end
end U

set_option Elab.async false
set_option linter.all false
set_option maxRecDepth 100000
set_option maxHeartbeats 4000000
/-! == and in of data that need not be flat to its end; [::-1]; {}. -/
namespace U
open PySem PySem.Spec L2
open PyProof.Rows hiding St

/-- these two can be compared: flat ones, or two tuples that are flat as far as both go -/
def D.cq (x y : D) : Bool := (D.flat 60 x && D.flat 60 y) || match x, y with
  | .tup a, .tup b => D.flats 59 (a.take b.length) && D.flats 59 (b.take a.length)
  | _, _ => false
/-- place by place -/
def pq (xs ys : List D) (i : Nat) : Bool := match xs[i]?, ys[i]? with
  | some x, some y => D.eqv x y
  | _, _ => true
theorem eqvs_pq : ∀ (xs ys : List D), ((List.range (min xs.length ys.length)).all (pq xs ys) && xs.length == ys.length) = D.eqvs xs ys
  | [], [] => by simp [D.eqvs]
  | [], _ :: _ => by simp [D.eqvs]
  | _ :: _, [] => by simp [D.eqvs]
  | x :: xs, y :: ys => by
    have ih := eqvs_pq xs ys
    have m : min (x :: xs).length (y :: ys).length = min xs.length ys.length + 1 := by
      rw [List.length_cons, List.length_cons]; omega
    rw [m, List.range_succ_eq_map, List.all_cons, List.all_map]
    have f : (pq (x :: xs) (y :: ys) ∘ Nat.succ) = pq xs ys := by
      funext i
      simp [pq]
    have z : pq (x :: xs) (y :: ys) 0 = D.eqv x y := by simp [pq]
    have l : ((x :: xs).length == (y :: ys).length) = (xs.length == ys.length) := by simp
    rw [f, z, l, Bool.and_assoc, ih]
    simp only [D.eqvs]
section
variable {X : Cx} {pins : List (Addr × Obj)} {σ : L2.St} {H : Hp} {s : Shared} {O : Ad}
theorem flat_eqAt (I : Inv X pins σ H s) {A : Around} {x y : D} {v w : V} {u z : Value} {n : Nat} (hx : D.flat n x = true) (hy : D.flat n y = true) (hn : n ≤ 60) (rx : Rp X.K O H v x) (ry : Rp X.K O H w y) (r1 : RelV v u) (r2 : RelV w z)
    (hu : A.units + 62 < cLine) : SeqAt.EqAt A s u z (D.eqv x y) := by
  obtain ⟨as, q1⟩ := Dp.reads I _ v u (rx.dp n _ _ hx) r1
  obtain ⟨bs, q2⟩ := Dp.reads I _ w z (ry.dp n _ _ hy) r2
  rw [← eqv_py n n x y hx hy]
  obtain ⟨l1, d1⟩ := flat_lay n x hx
  obtain ⟨l2, d2⟩ := flat_lay n y hy
  exact SeqAt.eqAt_reads _ _ A s u z as bs q1 q2 l1 l2 (by omega)
theorem at_paired {vs : List V} {us : List Value} {ds : List D} (r : Vals vs us) (a : RpA X.K O H vs ds) {j : Nat} (h : j < us.length) : ∃ v d, ds[j]? = some d ∧ Rp X.K O H v d ∧ RelV v us[j] := by
  have hl := r.length
  have hj : j < vs.length := by omega
  have e : vs[j]? = some vs[j] := List.getElem?_eq_getElem hj
  obtain ⟨d, e1, rd⟩ := a.got e
  obtain ⟨u, e2, ru⟩ := r.get e
  rw [List.getElem?_eq_getElem h] at e2
  cases e2
  exact ⟨_, d, e1, rd, ru⟩
theorem flats_at : ∀ {n : Nat} {ds : List D} {j : Nat} {d : D}, D.flats n ds = true → ds[j]? = some d → D.flat n d = true
  | _, [], _, _, _, e => by simp at e
  | n, x :: xs, 0, d, h, e => by
    simp only [D.flats, Bool.and_eq_true] at h
    cases (Option.some.inj e)
    exact h.1
  | n, x :: xs, j + 1, d, h, e => by
    simp only [D.flats, Bool.and_eq_true] at h
    exact flats_at h.2 (by simpa using e)
theorem cq_eqAt (I : Inv X pins σ H s) {A : Around} {x y : D} {v w : V} {u z : Value} (h : D.cq x y = true) (rx : Rp X.K O H v x) (ry : Rp X.K O H w y) (r1 : RelV v u) (r2 : RelV w z) (hu : A.units + 63 < cLine) : SeqAt.EqAt A s u z (D.eqv x y) := by
  unfold D.cq at h
  rcases Bool.or_eq_true_iff.mp h with h | h
  · rw [Bool.and_eq_true] at h
    exact flat_eqAt I h.1 h.2 (Nat.le_refl _) rx ry r1 r2 (by omega)
  · cases x <;> cases y <;> try exact absurd h Bool.false_ne_true
    rename_i xs ys _
    have h : D.flats 59 (xs.take ys.length) = true ∧ D.flats 59 (ys.take xs.length) = true := by simpa using h
    cases rx with
    | tup lx ax => cases ry with
      | tup ly ay =>
        rename_i a vs b ws
        cases r1
        cases r2
        obtain ⟨its, p1, ⟨o1, k1, k2, m1, k3⟩, _⟩ := I.tuple lx.sq
        obtain ⟨jts, p2, ⟨o2, g1, g2, m2, g3⟩, _⟩ := I.tuple ly.sq
        have n1 : its.length = xs.length := by rw [← p1.length, ax.length]
        have n2 : jts.length = ys.length := by rw [← p2.length, ay.length]
        have it : ∀ (j : Nat) (h1 : j < its.length) (h2 : j < jts.length), SeqAt.EqAt A.in1 s its[j] jts[j] (pq xs ys j) := fun j h1 h2 => by
          obtain ⟨v1, d1, e1, rd1, rv1⟩ := at_paired p1 ax h1
          obtain ⟨v2, d2, e2, rd2, rv2⟩ := at_paired p2 ay h2
          have f1 : D.flat 59 d1 = true := flats_at (j := j) h.1 (by rw [List.getElem?_take, if_pos (by omega)]; exact e1)
          have f2 : D.flat 59 d2 = true := flats_at (j := j) h.2 (by rw [List.getElem?_take, if_pos (by omega)]; exact e2)
          have := flat_eqAt I (A := A.in1) f1 f2 (by omega) rd1 rd2 rv1 rv2 (by show A.units + 1 + 62 < cLine; omega)
          unfold pq
          rw [e1, e2]
          exact this
        show SeqAt.EqAt A s (.ref a) (.ref b) (D.eqv (.tup xs) (.tup ys))
        simp only [D.eqv]
        by_cases e : a = b
        · subst e
          -- one and the same
          have e2 := I.tuple_inj lx.sq ly.sq
          subst e2
          have ex : D.eqvs xs ys = true := by
            have hl : xs.length = ys.length := by rw [← ax.length, ay.length]
            rw [hl, List.take_length] at h
            rw [← hl, List.take_length] at h
            have c : PyData.eqvAll (D.pys xs) (D.pys ys) = true := by
              obtain ⟨as, q1⟩ := Dp.reads I _ (.ref a) (.ref a) (Rp.dp (K := X.K) (O := O) 60 (.tup xs) _ (by simpa [D.flat] using h.1) (.tup lx ax)) rfl
              obtain ⟨bs, q2⟩ := Dp.reads I _ (.ref a) (.ref a) (Rp.dp (K := X.K) (O := O) 60 (.tup ys) _ (by simpa [D.flat] using h.2) (.tup ly ay)) rfl
              obtain ⟨l1, _⟩ := flats_lay 59 xs h.1
              have e : PyData.tuple (D.pys xs) = PyData.tuple (D.pys ys) := by
                have := SeqAt.Reads.unique _ _ _ _ _ (show PyData.canLay0 (D.py (.tup xs)) = true by simp only [D.py, PyData.canLay0]; exact l1) q1 q2
                simpa only [D.py] using this
              injection e with e
              rw [← e]
              exact SeqAt.eqvAll_refl _ l1
            rw [← eqvs_py 59 59 xs ys h.1 h.2]
            exact c
          rw [ex]
          exact SeqAt.EqAt.same _
        · rw [← eqvs_pq, ← n1, ← n2]
          refine SeqAt.EqAt.of_refs e ?_
          have R := SeqAt.RcAt.tuples (A := A) (s := s) (e := pq xs ys) ⟨o1, k1, k2, m1, k3⟩ ⟨o2, g1, g2, m2, g3⟩ (by omega) (fun j h1 h2 => by simpa using it j (by simpa using h1) (by simpa using h2))
          simpa using R
end

mutual
theorem py_inj : ∀ (n m : Nat) (x y : D), D.flat n x = true → D.flat m y = true → x.py = y.py → x = y
  | _, _, .dic _, _, h, _, _ => by simp [D.flat] at h
  | _, _, .ref _, _, h, _, _ => by simp [D.flat] at h
  | _, _, .ty _, _, h, _, _ => by simp [D.flat] at h
  | _, _, .exc _ _, _, h, _, _ => by simp [D.flat] at h
  | _, _, .cls _, _, h, _, _ => by simp [D.flat] at h
  | _, _, .non, y, _, h, e => by cases y <;> simp_all [D.py, D.flat]
  | _, _, .bl _, y, _, h, e => by cases y <;> simp_all [D.py, D.flat]
  | _, _, .int _, y, _, h, e => by cases y <;> simp_all [D.py, D.flat]
  | _, _, .str _, y, _, h, e => by cases y <;> simp_all [D.py, D.flat]
  | n + 1, m, .lst xs, y, h, g, e => by
    cases y with
    | lst ys => cases m with
      | zero => simp [D.flat] at g
      | succ m =>
        simp only [D.py, PyData.list.injEq] at e
        rw [pys_inj n m xs ys (by simpa [D.flat] using h) (by simpa [D.flat] using g) e]
    | _ => simp_all [D.py, D.flat]
  | n + 1, m, .tup xs, y, h, g, e => by
    cases y with
    | tup ys => cases m with
      | zero => simp [D.flat] at g
      | succ m =>
        simp only [D.py, PyData.tuple.injEq] at e
        rw [pys_inj n m xs ys (by simpa [D.flat] using h) (by simpa [D.flat] using g) e]
    | _ => simp_all [D.py, D.flat]
  | 0, _, .lst _, _, h, _, _ => by simp [D.flat] at h
  | 0, _, .tup _, _, h, _, _ => by simp [D.flat] at h
theorem pys_inj : ∀ (n m : Nat) (xs ys : List D), D.flats n xs = true → D.flats m ys = true → D.pys xs = D.pys ys → xs = ys
  | _, _, [], [], _, _, _ => rfl
  | _, _, [], _ :: _, _, _, e => by simp [D.pys] at e
  | _, _, _ :: _, [], _, _, e => by simp [D.pys] at e
  | n, m, x :: xs, y :: ys, h, g, e => by
    simp only [D.flats, Bool.and_eq_true] at h g
    simp only [D.pys, List.cons.injEq] at e
    rw [py_inj n m x y h.1 g.1 e.1, pys_inj n m xs ys h.2 g.2 e.2]
end

/-! ### the operators -/
def gEqV : G2
  | .str a, .str b, Q => Q (.bl (a == b))
  | x, y, Q => D.cq x y = true ∧ Q (.bl (D.eqv x y))
def D.items : D → Option (List D)
  | .lst ds => some ds
  | .tup ds => some ds
  | _ => none
def gIn : G2 := fun x c Q => match c.items with
  | some ds => (∀ d ∈ ds, D.flat 60 d = true ∧ D.cq d x = true) ∧ Q (.bl (ds.any fun d => D.eqv d x))
  | none => False
section
variable {X : Cx}
theorem op_eqV (hu : X.A.units + 64 < cLine) : OpR X (compareOp .Eq) (lR2 X.K gEqV) := by
  intro pins s σ H x y v u Q I rx ry ⟨O, dx, dy, P, tr, hx, hy, hg, hP⟩
  by_cases hf : D.flat 60 dx = true ∧ D.flat 60 dy = true
  · refine op_eqU hu pins s σ H x y v u Q I rx ry ⟨O, dx, dy, P, tr, hx, hy, ?_, hP⟩
    cases dx <;> cases dy <;> first
      | exact hg
      | exact ⟨hf, hg.2⟩
  · cases dx <;> cases dy <;> first
      | exact op_eqU hu pins s σ H x y v u Q I rx ry ⟨O, _, _, P, tr, hx, hy, hg, hP⟩
      | (have hc := hg.1
         unfold D.cq at hc
         exact absurd (by simpa using hc) hf)
      | skip
    rename_i xs ys
    obtain ⟨hc, hq⟩ := hg
    have fin := hP _ hq (.bl (D.eqv (.tup xs) (.tup ys))) H (Same.refl _) (.bl _)
    have hc2 : D.flats 59 (xs.take ys.length) = true ∧ D.flats 59 (ys.take xs.length) = true := by
      unfold D.cq at hc
      rcases Bool.or_eq_true_iff.mp hc with z | z
      · exact absurd (by simpa using z) hf
      · simpa using z
    cases hx with
    | tup lx ax => cases hy with
      | tup ly ay =>
        cases rx
        cases ry
        obtain ⟨its, p1, ⟨o1, k1, k2, m1, k3⟩, _⟩ := I.tuple lx.sq
        obtain ⟨jts, p2, ⟨o2, g1, g2, m2, g3⟩, _⟩ := I.tuple ly.sq
        have n1 : its.length = xs.length := by rw [← p1.length, ax.length]
        have n2 : jts.length = ys.length := by rw [← p2.length, ay.length]
        refine SeqAt.eq_tupleAt (e := pq xs ys) ⟨o1, k1, k2, m1, k3⟩ ⟨o2, g1, g2, m2, g3⟩ (by omega) (fun j h1 h2 => ?_) ?_
        · obtain ⟨v1, d1, e1, rd1, rv1⟩ := at_paired p1 ax (j := j) (by simpa using h1)
          obtain ⟨v2, d2, e2, rd2, rv2⟩ := at_paired p2 ay (j := j) (by simpa using h2)
          have h1' : j < its.length := by simpa using h1
          have h2' : j < jts.length := by simpa using h2
          have f1 : D.flat 59 d1 = true := flats_at (j := j) hc2.1 (by rw [List.getElem?_take, if_pos (by omega)]; exact e1)
          have f2 : D.flat 59 d2 = true := flats_at (j := j) hc2.2 (by rw [List.getElem?_take, if_pos (by omega)]; exact e2)
          have q := flat_eqAt I (A := X.A.in1) f1 f2 (by omega) rd1 rd2 rv1 rv2 (by show X.A.units + 1 + 62 < cLine; omega)
          unfold pq
          rw [e1, e2]
          simpa using q
        · refine ⟨.bl (D.eqv (.tup xs) (.tup ys)), H, I, ?_, fin⟩
          show Value.bool _ = Value.bool _
          simp only [D.eqv, List.size_toArray, n1, n2]
          rw [eqvs_pq]
/-- what `in` asks of each item -/
theorem in_core {pins : List (Addr × Obj)} {σ : L2.St} {H : Hp} {s : Shared} {O : Ad} {x : V} {v : Value} {dx : D} {ds : List D} (hu : X.A.units + 65 < cLine) (I : Inv X pins σ H s) (rx : RelV x v) (hx : Rp X.K O H x dx) (hc : ∀ d ∈ ds, D.flat 60 d = true ∧ D.cq d dx = true)
    {its : List Value} {vs : List V} (p : Vals vs its) (a : RpA X.K O H vs ds) : ∃ f : Value → Bool, (∀ z, z ∈ its.toArray → SeqAt.EqAt X.A.in1 s z v (f z)) ∧ its.toArray.any f = ds.any fun d => D.eqv d dx := by
  classical
  let f : Value → Bool := fun z => if h : ∃ d, D.flat 60 d = true ∧ d.py = SeqAt.readOf s.heap z then D.eqv h.choose dx else false
  have at_ : ∀ (j : Nat) (h : j < its.length), ∃ d w, ds[j]? = some d ∧ Rp X.K O H w d ∧ RelV w its[j] ∧ f its[j] = D.eqv d dx := fun j h => by
    obtain ⟨w, d, e1, rd, rw1⟩ := at_paired p a h
    have fd := (hc d (List.mem_of_getElem? e1)).1
    obtain ⟨as, q⟩ := Dp.reads I _ w _ (rd.dp 60 _ _ fd) rw1
    have ro : SeqAt.readOf s.heap its[j] = d.py := SeqAt.readOf_eq (flat_lay 60 d fd).1 q
    have ex : ∃ d, D.flat 60 d = true ∧ d.py = SeqAt.readOf s.heap its[j] := ⟨d, fd, ro.symm⟩
    refine ⟨d, w, e1, rd, rw1, ?_⟩
    show (if h : ∃ d, D.flat 60 d = true ∧ d.py = SeqAt.readOf s.heap its[j] then D.eqv h.choose dx else false) = _
    rw [dif_pos ex]
    obtain ⟨f1, e2⟩ := ex.choose_spec
    rw [py_inj 60 60 _ d f1 fd (e2.trans ro)]
  refine ⟨f, fun z hz => ?_, ?_⟩
  · obtain ⟨j, hj, e⟩ := List.getElem_of_mem (by simpa using hz : z ∈ its)
    obtain ⟨d, w, e1, rd, rw1, ef⟩ := at_ j hj
    rw [← e, ef]
    exact cq_eqAt I (hc _ (List.mem_of_getElem? e1)).2 rd hx rw1 rx (by show X.A.units + 1 + 63 < cLine; omega)
  · have hl : its.length = ds.length := by rw [← p.length, a.length]
    have e : its.map f = ds.map fun d => D.eqv d dx := by
      refine List.ext_getElem (by simpa using hl) fun i h1 h2 => ?_
      rw [List.getElem_map, List.getElem_map]
      obtain ⟨d, w, e1, _, _, ef⟩ := at_ i (by simpa using h1)
      rw [ef]
      rw [List.getElem?_eq_getElem (by simpa using h2)] at e1
      cases e1
      rfl
    have := congrArg (fun l => l.any id) e
    simpa [List.any_map, Function.comp_def] using this
theorem op_inU {k : Nat} (hr : RG k X.A) : OpR X (compareOp .In) (lR2 X.K gIn) := by
  intro pins s σ H x y v u Q I rx ry ⟨O, dx, dy, P, tr, hx, hy, hg, hP⟩
  have hu : X.A.units + 65 < cLine := by have := hr.room.un; omega
  unfold gIn at hg
  split at hg
  · rename_i ds e
    obtain ⟨hc, hq⟩ := hg
    have fin := hP _ hq (.bl (ds.any fun d => D.eqv d dx)) H (Same.refl _) (.bl _)
    cases hy <;> cases e
    · rename_i l a
      cases ry
      obtain ⟨its, p1, pl, _⟩ := I.list l.sq
      obtain ⟨f, h1, h2⟩ := in_core hu I rx hx hc p1 a
      refine SeqAt.in_listAt f pl.isList h1 ⟨.bl _, H, I, rfl, ?_⟩
      rw [h2]
      exact fin
    · rename_i l a
      cases ry
      obtain ⟨its, p1, ⟨o1, k1, k2, m1, k3⟩, _⟩ := I.tuple l.sq
      obtain ⟨f, h1, h2⟩ := in_core hu I rx hx hc p1 a
      refine SeqAt.in_tupleAt f ⟨o1, k1, k2, m1, k3⟩ h1 ⟨.bl _, H, I, rfl, ?_⟩
      rw [h2]
      exact fin
  · exact hg.elim
end

/-! ### t[::-1] -/
section
variable {prog : Program} {w : World} {A : Around} {E : Value → Shared → Prop} {s : Shared}
theorem rev_places (n : Nat) : Builtin.Slice.slicePlaces ((n : Int) - 1) (-1) (-1) = n := by
  unfold Builtin.Slice.slicePlaces
  rw [if_neg (by decide)]
  by_cases h : n = 0
  · subst h; decide
  · rw [if_pos (by omega), show (-(-1) : Int) = 1 by decide, Int.ediv_one]
    omega
theorem rev_applied {sl : Addr} {vs : Value} {n : Nat} {Q : Int × Int × Nat → Shared → Prop} (hs : s.heap.IsSliceOf sl .none .none vs) (ps : IsPart vs (some (-1)))
    (h : Q ((n : Int) - 1, -1, n) s) : wpAny (model prog w) A (Builtin.Slice.sliceApplied (.ref sl) (pure (n : Int))) Q E s := by
  obtain ⟨o, h1, h2, h3⟩ := id hs
  unfold Builtin.Slice.sliceApplied Builtin.Slice.sliceFields
  refine wpAny_bind (wpAny_bind (wpAny_field h1 h3 rfl (wpAny_bind (wpAny_field h1 h3 rfl (wpAny_bind (wpAny_field h1 h3 rfl (wpAny_pure ?_)))))))
  refine wpAny_bind (HT.slicePart_ ps ?_)
  show wpAny _ _ (if ((-1 : Int) == 0) = true then _ else _) _ _ s
  rw [if_neg (by decide)]
  refine wpAny_bind (slicePart_none (wpAny_bind (slicePart_none (wpAny_bind (wpAny_pure ?_)))))
  show wpAny _ _ (pure ((n : Int) - 1, (-1 : Int), Builtin.Slice.slicePlaces ((n : Int) - 1) (-1) (-1))) _ _ s
  rw [rev_places]
  exact wpAny_pure h
theorem rev_pick (xs : Array Value) : ((List.range xs.size).filterMap fun (m : Nat) => xs[(((xs.size : Int) - 1) + (m : Int) * (-1)).toNat]?).toArray = xs.toList.reverse.toArray := by
  have e : ∀ m ∈ List.range xs.size, (fun (m : Nat) => xs[(((xs.size : Int) - 1) + (m : Int) * (-1)).toNat]?) m = (fun (m : Nat) => xs[xs.size - 1 - m]?) m := fun m hm => by
    have := List.mem_range.mp hm
    show xs[_]? = xs[_]?
    congr 1
    omega
  have e2 : (List.range xs.size).filterMap (fun (m : Nat) => xs[(((xs.size : Int) - 1) + (m : Int) * (-1)).toNat]?) = (List.range xs.size).filterMap (fun (m : Nat) => xs[xs.size - 1 - m]?) := by
    have gen : ∀ (l : List Nat) (f g : Nat → Option Value), (∀ m ∈ l, f m = g m) → l.filterMap f = l.filterMap g := by
      intro l f g
      induction l with
      | nil => intro _; rfl
      | cons a l ih =>
        intro h
        rw [List.filterMap_cons, List.filterMap_cons, h a List.mem_cons_self, ih fun m hm => h m (List.mem_cons_of_mem _ hm)]
    exact gen _ _ _ e
  rw [e2]
  have k := PySem.W.krv_pick xs
  unfold slicePick at k
  rw [PySem.W.krv_bounds] at k
  have k2 : ((sliceRange ((xs.size : Int) - 1) (-1) (-1)).filterMap (xs[·]?)).toArray = xs.toList.reverse.toArray := k
  rw [PySem.W.krv_sliceRange, List.filterMap_map] at k2
  exact k2
theorem getItem_tuple_rev {t sl : Addr} {items : Array Value} {vs : Value} {Q : Value → Shared → Prop} (ht : IsTup s.heap t items) (hs : s.heap.IsSliceOf sl .none .none vs) (ps : IsPart vs (some (-1)))
    (h : Q (.ref s.heap.objs.size) { s with heap := s.heap.push { cls := .type "tuple", data := .seq items.toList.reverse.toArray } }) (hz : items.size ≤ sizeLine) : wpAny (model prog w) A (getItem (.ref t) (.ref sl)) Q E s := by
  have ok : sizeOk (.seq items.toList.reverse.toArray) := by
    show items.toList.reverse.toArray.size ≤ sizeLine
    simpa using hz
  obtain ⟨o, h1, h2, h3⟩ := id hs
  have ty : s.TypeIs (.ref sl) "slice" := ⟨o, h1, h2⟩
  unfold getItem
  try with_reducible refine wpAny_holding ?_
  first | refine wpAny_bind (wpAny_pure ?_) | skip
  refine wpAny_bind (wpAny_sequenceKey ht.typeIs (by decide) (wpAny_bind (wpAny_callSpecial?_slot (name := Str.ofString "__getitem__") ht.typeIs PyProof.Rows.slot_tuple_getitem (wpAny_call_entry PyProof.Rows.slot_tuple_getitem ht.typeIs PyProof.Rows.entry_tuple_getitem ?_ (PyProof.Rows.args_tuple_getitem _ _)))))
  show wpAny _ _ (Builtin.Tuple.tupleItemsOf (.ref t) >>= _) _ _ s
  refine wpAny_bind (tupleItemsOf_ ht (wpAny_bind (wpAny_typeOf ty ?_)))
  rw [if_pos (by decide)]
  refine wpAny_bind (rev_applied hs ps ?_)
  have no : ¬ (((items.size : Int) - 1 == 0 && (-1 : Int) == 1 && items.size == items.size) = true) := by simp
  show wpAny _ _ (if ((items.size : Int) - 1 == 0 && (-1 : Int) == 1 && items.size == items.size) = true then _ else _) _ _ s
  rw [if_neg no, rev_pick]
  first
    | exact wpAny_bind (m := Builtin.Tuple.tupleExact _) (wpAny_newObj_type (wpAny_pure ⟨_, rfl, wpAny_pure h⟩) ok)
    | exact wpAny_bind (m := Builtin.Tuple.tupleExact _) (wpAny_newObj_type (wpAny_bind (wpAny_pure (wpAny_pure ⟨_, rfl, wpAny_pure h⟩))) ok)
    | exact wpAny_bind (wpAny_bind (m := Builtin.Tuple.tupleExact _) (wpAny_newObj_type (wpAny_pure (wpAny_pure ⟨_, rfl, wpAny_pure h⟩)) ok))
    | exact wpAny_bind (wpAny_bind (m := Builtin.Tuple.tupleExact _) (wpAny_newObj_type (wpAny_pure ⟨_, rfl, wpAny_pure h⟩) ok))
end
def uRev (u : UE) : UE := fun ρ Q => u ρ fun d n => match d with
  | .lst ds => Q (.lst ds.reverse) n
  | .tup ds => Q (.tup ds.reverse) n
  | _ => False
section
variable {X : Cx} {O0 : Ad} {H0 : Hp} {a b c e : Expr} {ua ub uc : UE} {pos p : Pos} {W : WU}
theorem up_rev {k : Nat} {p1 p2 p3 : Pos} (he : UPE X O0 H0 e ua) : UPE X O0 H0 (.Subscript e (.Slice none none (some (.UnaryOp .USub (.Constant (.int 1) k p1) p2)) p3) pos) (uRev ua) := by
  refine ⟨fun pins s σ H Q I ⟨ρ, P, r, hu, hP⟩ => ?_⟩
  refine Subscript_ (thn (he.run pins s σ H (fun v H1 => ∃ d n, R X.K O0 H0 σ H1 (ρ.f n) ∧ Frm ρ.pen H H1 ∧ Rp X.K (OO O0 ρ) H1 v d ∧ (match d with
    | .lst ds => P (.lst ds.reverse) n
    | .tup ds => P (.tup ds.reverse) n
    | _ => False)) I ⟨ρ, _, r, hu, fun d n hd v H1 r1 f1 p1 => ⟨d, n, r1, f1, p1, hd⟩⟩) fun v s1 ⟨x, H1, I1, r1, d, n, ρ1, f1, rp, q⟩ => ?_)
  have part : PO X (some (.UnaryOp .USub (.Constant (.int 1) k p1) p2)) (tPart (tUn (rU fun i => .int (-i)) (tC (.int 1)))) := po_some (pe_un un_neg pe_int)
  refine wpAny_Slice (thn (po_none.run pins s1 σ H1 (fun o H2 => o = none ∧ H2 = H1) I1 ⟨rfl, rfl⟩) fun w1 s2 ⟨o1, H2, I2, g1, e1, e2⟩ => ?_)
  subst e1 e2
  refine thn (po_none.run pins s2 σ H2 (fun o H3 => o = none ∧ H3 = H2) I2 ⟨rfl, rfl⟩) fun w2 s3 ⟨o2, H3, I3, g2, e1, e2⟩ => ?_
  subst e1 e2
  refine thn (part.run pins s3 σ H3 (fun o H4 => o = some (-1) ∧ H4 = H3) I3 ⟨1, rfl, -1, rfl, rfl, rfl⟩) fun w3 s4 ⟨o3, H4, I4, g3, e1, e2⟩ => ?_
  subst e1 e2
  have I5 : Inv X pins σ H4 { s4 with heap := s4.heap.push { cls := .type "slice", data := .fields #[w1, w2, w3] } } := I4.kept (t' := s4.toks) fun b ob q => Heap.get?_push_of_some _ q
  show wpAny (model X.prog X.w) X.A (subscriptTail e (.Slice none none (some (.UnaryOp .USub (.Constant (.int 1) k p1) p2)) p3) v (.ref s4.heap.objs.size)) (EP X pins σ Q) X.xe { s4 with heap := s4.heap.push { cls := .type "slice", data := .fields #[w1, w2, w3] } }
  cases rp <;> try exact q.elim
  · rename_i ad xs ds l a
    cases r1
    obtain ⟨its, rv, ht, hz⟩ := I5.list l.sq
    have hlen := rv.length
    refine tail_any (ops := [.ref _, .ref s4.heap.objs.size]) ht.isList.typeIs (PySem.slot_list_getitem.lookup) ?_ (by with_unfolding_all rfl)
    refine wpAny_getItem_list_slice ht.isList (Heap.IsSliceOf.new _ w1 w2 w3) g1 g2 g3 (by decide) ?_ (by rw [List.size_toArray]; omega)
    rw [PySem.W.krv_pick]
    have nw := I5.hok.fresh (Nat.le_refl _)
    have sm := Same.new (o := HO.lst xs.reverse) nw
    refine ⟨.ref _, _, I5.laid (t' := s4.toks) (o := .lst xs.reverse) (fun b ob q => Heap.get?_push_of_some _ q) (Nat.le_refl _) ⟨by rw [List.length_reverse]; exact hz, _, 0, rv.reverse, Heap.get?_push_size _ rfl⟩, rfl, ?_⟩
    exact hP _ n q _ _ (ρ1.same sm) (f1.trans (.of sm)) (.lst ⟨ρ1.fresh nw, upd_same⟩ (a.reverse.keep (.same sm)))
  · rename_i ad xs ds l a
    cases r1
    obtain ⟨its, rv, ht, hz⟩ := I5.tuple l.sq
    have hlen := rv.length
    cases g1
    cases g2
    refine tail_any (ops := [.ref _, .ref s4.heap.objs.size]) ht.typeIs (PyProof.Rows.slot_tuple_getitem.lookup) ?_ (by with_unfolding_all rfl)
    refine getItem_tuple_rev ht (Heap.IsSliceOf.new _ .none .none w3) g3 ?_ (by rw [List.size_toArray]; omega)
    have nw := I5.hok.fresh (Nat.le_refl _)
    have sm := Same.new (o := HO.tup xs.reverse) nw
    refine ⟨.ref _, _, I5.laid (t' := s4.toks) (o := .tup xs.reverse) (fun b ob q => Heap.get?_push_of_some _ q) (Nat.le_refl _) ⟨by rw [List.length_reverse]; exact hz, _, rv.reverse, IsTup.new _ _⟩, rfl, ?_⟩
    exact hP _ n q _ _ (ρ1.same sm) (f1.trans (.of sm)) (.tup (.inl ⟨ρ1.fresh nw, upd_same⟩) (a.reverse.keep (.same sm)))
/-- {} -/
theorem up_dic0 : UPE X O0 H0 (.Dict [] [] pos) (uC (.dic [])) := by
  refine ⟨fun pins s σ H Q I ⟨ρ, P, r, hu, hP⟩ => ?_⟩
  refine wpAny_mono (pe_dnewK.run pins s σ H (fun v H1 => ∃ p, H p = none ∧ v = .ref p ∧ H1 = upd H p (.dK [])) I fun p hp => ⟨p, hp, rfl, rfl⟩) (fun u s1 ⟨v, H1, I1, rv, p, hp, ev, eH⟩ => ?_) fun _ _ x => x
  subst ev eH
  obtain ⟨od, I2⟩ := I1.lock (upd_same (H := H) (a := p) (o := .dK [])) (by exact True.intro)
  rw [upd_upd] at I2
  have sm := Same.new (o := HO.frz od (.dK [])) hp
  exact ⟨_, _, I2, rv, hP _ ρ.fuel hu _ _ (r.same sm) (.of sm) (.dic (r.fresh hp) upd_same .nil)⟩
end
end U

set_option Elab.async false
set_option linter.all false
set_option maxRecDepth 100000
set_option maxHeartbeats 4000000
/-! Sequences walked; calls by keywords; the pen. -/
namespace U
open PySem PySem.Spec L2
open PyProof.Rows hiding St

/-! ### lists and tuples walked -/
def uiS (u : UE) : UI := fun ρ Q => u ρ fun d n => match d with
  | .lst ds => Q ds n
  | .tup ds => Q ds n
  | _ => False
section
variable {X : Cx} {O0 : Ad} {H0 : Hp} {a b c e tg : Expr} {ua ub uc : UE} {pos p : Pos} {W : WU}
theorem ui_seq (h : UPE X O0 H0 e ua) : UPI X O0 H0 tg e (uiS ua) := by
  refine ⟨fun pins s σ H Rr I ⟨ρ, P, r, hu, hP⟩ => ?_⟩
  refine thn (h.run pins s σ H (fun v H1 => ∃ d n, R X.K O0 H0 σ H1 (ρ.f n) ∧ Frm ρ.pen H H1 ∧ Rp X.K (OO O0 ρ) H1 v d ∧ (match d with
    | .lst ds => P ds n
    | .tup ds => P ds n
    | _ => False)) I ⟨ρ, _, r, hu, fun d n hd v H1 r1 f1 p1 => ⟨d, n, r1, f1, p1, hd⟩⟩) fun v s1 ⟨x, H1, I1, r1, d, n, ρ1, f1, rp, q⟩ => ?_
  have fp : ∀ b ∈ [s1.heap.objs.size], FpOk X pins H1 b := fun b hb => by
    obtain rfl : b = s1.heap.objs.size := by simpa using hb
    exact I1.fpOk (Nat.le_refl _) (I1.hok.fresh (Nat.le_refl _))
  cases rp <;> try exact q.elim
  · rename_i ad xs ds l ra
    cases r1
    obtain ⟨its, rv, pl, _⟩ := I1.list l.sq
    exact wpAny_pyIter_list pl.isList ⟨s1.heap.objs.size, [s1.heap.objs.size], _, _, H1, rfl, I1.kept (t' := s1.toks) fun b o e => Heap.get?_push_of_some _ e, turn_list ad _, ⟨_, Heap.get?_push_size _ rfl, rfl, rfl⟩, fp, hP ds n q _ H1 ρ1 f1 (it_list l ra)⟩
  · rename_i ad xs ds l ra
    cases r1
    obtain ⟨its, rv, pl, _⟩ := I1.tuple l.sq
    exact wpAny_pyIter_tuple (show s1.heap.IsTuple ad its.toArray from pl) ⟨s1.heap.objs.size, [s1.heap.objs.size], _, _, H1, rfl, I1.kept (t' := s1.toks) fun b o e => Heap.get?_push_of_some _ e, turn_tuple ad _, ⟨_, Heap.get?_push_size _ rfl, rfl, rfl⟩, fp, hP ds n q _ H1 ρ1 f1 (it_tup l ra)⟩

/-! ### keywords -/
/-- the places of the parameters among what is passed -/
def perm {α : Type} (z : α) (ix : List Nat) (xs : List α) : List α := ix.map fun i => xs.getD i z
/-- how a call by keywords binds -/
def KBS (x : Str) (st : Stmt) (ps ks : List Str) (nu nk : Nat) (ix : List Nat) : Prop := ∀ (kV doc pm : Value) (an : Option Addr) (cdv ct : Value) (us ws : List Value), us.length = nu → ws.length = nk →
  bindArgs (PySem.W.fnOf x x (defArgs st) (defBody st) (defScope st) .none kV doc pm an cdv ct) ⟨us, ks.zip ws⟩ = pure (ps.zip (perm .none ix (us ++ ws)))
theorem KBS.to {K : PySem.W.Frag} {x : Str} {st : Stmt} {ps ks : List Str} {nu nk : Nat} {ix : List Nat} {f : Addr} {fd : FuncData} (h : KBS x st ps ks nu nk ix) (F : FunD K x x (defArgs st) (defBody st) (defScope st) [] [] f fd) (s : Shared) (us ws : List Value) (h1 : us.length = nu) (h2 : ws.length = nk) :
    BindsTo s fd ⟨us, ks.zip ws⟩ (ps.zip (perm .none ix (us ++ ws))) := by
  obtain ⟨oc, od, dV, kV, doc, pm, an, cdv, ct, osl, rfl, lk, hcd, hD, hK⟩ := F.ex
  rcases hD with ⟨_, rfl⟩ | ⟨e, _⟩
  · exact .of_eq (h kV doc pm an cdv ct us ws h1 h2)
  · exact absurd rfl e
def uCallK (usp : USp) (ix : List Nat) (W : WU) (a : UA) : UE := fun ρ Q => a ρ fun ds n => usp (perm .non ix ds) ρ.pen n Q fun x m => W x (ρ.f m)
def uCat (a b : UA) : UA := fun ρ Q => a ρ fun ds n => b (ρ.f n) fun es m => Q (ds ++ es) m
/-! ### the pen -/
theorem R.penSet {K : PySem.W.Frag} {H : Hp} {σ : L2.St} {ρ : Ro} (r : R K O0 H0 σ H ρ) {p : Addr} {c : PenC} (e : ρ.pen = some (p, c)) {t q : Int} {m : Nat} (h1 : 0 ≤ t) (h2 : t + m ≤ 1048576) (h3 : 0 ≤ q) :
    R K O0 H0 σ (upd H p (penO c t q)) (ρ.f m) ∧ Tr O0 ρ H (ρ.f m) (upd H p (penO c t q)) := by
  have ip : IsPen ρ.pen p := isPen_p e
  have hO : OO O0 ρ p := OO.pen p ip
  have ne : ∀ {b : Addr}, ¬ OO O0 ρ b → b ≠ p := fun nb e => nb (by rw [e]; exact hO)
  have k : Keeps (OO O0 ρ) (OO O0 ρ) H (upd H p (penO c t q)) := ⟨fun b u h nb => by rw [upd_ne (ne nb)]; exact h, fun _ _ _ n => n⟩
  refine ⟨⟨r.len, fun i d e => let ⟨v, h1, h2⟩ := r.dat i d e; ⟨v, h1, h2.keep k⟩, fun i a ds e => ?_, r.inj, fun b u h nb => ?_, fun b h => ?_, fun p' c' e' => ?_, r.tre.heap (n := m) k fun i as d e b q o z => by rw [upd_ne fun w => ((r.tre i as d e).2.1 b q).2.2.1 (by rw [w]; exact ip)]; exact z⟩, ⟨k, rfl⟩⟩
  · obtain ⟨g1, g2, g3, g4, g5⟩ := r.own i a ds e
    exact ⟨g1, g2, g3, g4, g5.keep k fun o q => by rw [upd_ne (fun z => g4 (by rw [z]; exact ip))]; exact q⟩
  · rw [upd_ne (fun z => nb (by rw [z]; exact ip))]
    exact r.fr b u h nb
  · by_cases z : b = p
    · rw [z, upd_same]; simp
    · rw [upd_ne z]; exact r.tr b h
  · have e2 : some (p, c) = some (p', c') := e.symm.trans e'
    cases e2
    obtain ⟨ns, t', q', g1, g2, g3, g4, _, _, _, g8⟩ := r.pen p c e
    exact ⟨ns, t, q, upd_same, by rw [upd_ne (ne g3)]; exact g2, g3, g4, h1, h2, h3, g8.updP g1⟩
/-- pen[k] -/
def uPenIx (i k : Nat) : UE := fun ρ Q => match ρ.sl[i]?, ρ.pen with
  | some (.dat (.ref a)), some (p, c) => a = p ∧ match k with
    | 0 => Q (.lst (c.ns.map D.int)) ρ.fuel
    | 1 => ∀ t : Int, 0 ≤ t → t + ρ.fuel ≤ 1048576 → Q (.int t) ρ.fuel
    | 2 => ∀ t : Int, 0 ≤ t → Q (.int t) ρ.fuel
    | _ => False
  | _, _ => False
theorem rp_ints {K : PySem.W.Frag} {O : Ad} {H : Hp} : ∀ ns : List Int, RpA K O H (ns.map V.int) (ns.map D.int)
  | [] => .nil
  | n :: ns => .cons (.int n) (rp_ints ns)
theorem up_penL {i k : Nat} (h : PE X e (tOp (rIxL X.K) (tVar i) (tC (.int (k : Nat))))) : UPE X O0 H0 e (fun ρ Q => (∃ p c, ρ.pen = some (p, c) ∧ c.dk = false) ∧ uPenIx i k ρ Q) := PE.imp h fun σ H Q ⟨ρ, P, r, ⟨⟨p0, c0, e0, e1⟩, hu⟩, hP⟩ => by
  dsimp only [uPenIx] at hu
  split at hu
  · rename_i a p c g1 g2
    obtain ⟨ea, hu⟩ := hu
    subst ea
    have e9 : p0 = a ∧ c0 = c := by
      rw [g2] at e0
      cases e0
      exact ⟨rfl, rfl⟩
    obtain ⟨e9, e8⟩ := e9
    rw [e8] at e1
    obtain ⟨v, s1, rv⟩ := r.dat i _ g1
    cases rv
    obtain ⟨ns, t, q, h1, h2, h3, ⟨h4, h4b⟩, h5, h6, h7, _⟩ := r.pen a c g2
    unfold penO at h1
    rw [e1, if_neg Bool.false_ne_true] at h1
    have mk : ∀ z, L2.atI [V.ref c.c, .int t, .int q] ((k : Nat) : Int) = some z → Q z H → tOp (rIxL X.K) (tVar i) (tC (.int (k : Nat))) σ H Q := fun z ez hz => ⟨_, s1, a, _, _, z, rfl, rfl, .of h1, ez, hz⟩
    subst h4
    split at hu
    · exact mk (.ref c.c) rfl (hP _ ρ.fuel hu _ H r Frm.refl (.lst ⟨h3, h2⟩ (rp_ints _)))
    · exact mk (.int t) rfl (hP _ ρ.fuel (hu t h5 h6) _ H r Frm.refl (.int _))
    · exact mk (.int q) rfl (hP _ ρ.fuel (hu q h7) _ H r Frm.refl (.int _))
    · exact hu.elim
  · exact hu.elim
/-- pen[1] = e -/
def uPenNext (i : Nat) (u : UE) : US := fun E ρ => u ρ fun d n => match d, ρ.sl[i]?, ρ.pen with
  | .int z, some (.dat (.ref a)), some (p, c) => (a = p ∧ c.dk = false) ∧ 0 ≤ z ∧ ∃ m : Nat, z + m ≤ 1048576 ∧ E.nx (ρ.f m)
  | _, _, _ => False
/-- pen[2] = e -/
def uPenRest (i : Nat) (u : UE) : US := fun E ρ => u ρ fun d n => match d, ρ.sl[i]?, ρ.pen with
  | .int z, some (.dat (.ref a)), some (p, c) => (a = p ∧ c.dk = false) ∧ 0 ≤ z ∧ ∃ m : Nat, m ≤ n ∧ E.nx (ρ.f m)
  | _, _, _ => False
theorem us_penNext {i : Nat} {st : Stmt} (hb : PS X st (tAsg (lE X.K O0 H0 ua) (L2.gSub (tVar i) (tC (.int 1)) rSetL))) : UPS X O0 H0 st (uPenNext i ua) := PS.imp hb fun σ H D ⟨ρ, E, r, hu, hn, _⟩ => by
  refine ⟨ρ, _, r, hu, fun d n hd v H1 r1 f1 p1 => ?_⟩
  split at hd
  · rename_i z a p c g1 g2
    obtain ⟨⟨ea, ek⟩, h1, m, h2, hd⟩ := hd
    subst ea
    cases p1
    obtain ⟨v, s1, rv⟩ := r1.dat i _ g1
    cases rv
    obtain ⟨ns, t, q, k1, k2, k3, k4, k5, k6, k7, _⟩ := r1.pen a c g2
    have w := r1.penSet (ρ := ρ.f n) g2 (m := m) h1 h2 k7
    unfold penO at k1 w
    rw [ek, if_neg Bool.false_ne_true] at k1 w
    exact ⟨_, s1, a, _, 1, 1, rfl, rfl, k1, rfl, hn _ hd _ _ w.1 ((Tr.frm f1).trans w.2)⟩
  · exact hd.elim
theorem us_penRest {i : Nat} {st : Stmt} (hb : PS X st (tAsg (lE X.K O0 H0 ua) (L2.gSub (tVar i) (tC (.int 2)) rSetL))) : UPS X O0 H0 st (uPenRest i ua) := PS.imp hb fun σ H D ⟨ρ, E, r, hu, hn, _⟩ => by
  refine ⟨ρ, _, r, hu, fun d n hd v H1 r1 f1 p1 => ?_⟩
  split at hd
  · rename_i z a p c g1 g2
    obtain ⟨⟨ea, ek⟩, h1, m, h2, hd⟩ := hd
    subst ea
    cases p1
    obtain ⟨v, s1, rv⟩ := r1.dat i _ g1
    cases rv
    obtain ⟨ns, t, q, k1, k2, k3, k4, k5, k6, k7, _⟩ := r1.pen a c g2
    have k6' : t + (n : Int) ≤ 1048576 := k6
    have w := r1.penSet (ρ := ρ.f n) g2 (m := m) k5 (by omega) h1
    unfold penO at k1 w
    rw [ek, if_neg Bool.false_ne_true] at k1 w
    exact ⟨_, s1, a, _, 2, 2, rfl, rfl, k1, rfl, hn _ hd _ _ w.1 ((Tr.frm f1).trans w.2)⟩
  · exact hd.elim
end
end U

set_option Elab.async false
set_option linter.all false
set_option maxRecDepth 100000
set_option maxHeartbeats 4000000
/-! The law's def: the pen is made, then the rest. -/
namespace U
open PySem PySem.Spec L2
open PyProof.Rows hiding St

def spPenK (K : PySem.W.Frag) : Sp := fun vs H Q E => ∃ (a : Addr) (ns : List Int), vs = [.ref a] ∧ SqL K H a (ns.map V.int) ∧ ns.length ≤ 63 ∧
  ∀ c p H', H c = none → H p = none → c ≠ p → Same H H' → H' c = some (.lst (ns.map V.int)) → H' p = some (.lst [.ref c, .int 0, .int 0]) → Q (.ref p) H'
theorem cut63 (ns : List Int) (h : ns.length ≤ 63) : cutV (ns.map V.int) none (some 63) = ns.map V.int := by
  have e : HT.sIx (ns.map V.int).length (ns.map V.int).length (some 63) = (ns.map V.int).length := by
    rw [List.length_map]
    have e3 : HT.sIx ns.length ns.length (some 63) = if (63 : Int) < 0 then ((63 : Int) + (ns.length : Int)).toNat else min (63 : Int).toNat ns.length := rfl
    rw [e3, if_neg (by decide)]
    exact Nat.min_eq_right h
  unfold cutV
  rw [e]
  show ((ns.map V.int).drop 0).take ((ns.map V.int).length - 0) = _
  rw [Nat.sub_zero, List.drop_zero, List.take_length]
section
variable {X : Cx} {e : Expr}
/-- return [list(script[:63]), 0, 0] -/
theorem pen_ps {p1 p2 p3 p4 p5 p6 p7 p8 p9 p10 : Pos} {j1 j2 j3 : Nat} {scr : Str} (hg : Gl X "list") (hm : X.mg "list" = none) (hs : PE X (.Name scr p2) (tVar 0)) :
    PSs X [.Return (some (.List [.Call (.Name "list" p1) [.Subscript (.Name scr p2) (.Slice none (some (.Constant (.int 63) j1 p3)) none p4) p5] [] p6, .Constant (.int 0) j2 p7, .Constant (.int 0) j3 p8] p9)) p10]
      (fun D σ H => ∃ (a : Addr) (ns : List Int), σ[0]? = some (some (.ref a)) ∧ SqL X.K H a (ns.map V.int) ∧ ns.length ≤ 63 ∧
        ∀ c p H', H c = none → H p = none → c ≠ p → Same H H' → H' c = some (.lst (ns.map V.int)) → H' p = some (.lst [.ref c, .int 0, .int 0]) → D.rt (.ref p) H') := by
  refine PSs.imp (pss_one (ps_ret (pe_lst (pa_cons (pe_callTy call_list_of hg hm boot_list (pa_cons (pe_slice sl_list hs po_none (po_some pe_int)) pa_nil)) (pa_cons pe_int (pa_cons pe_int pa_nil)))))) fun σ H D ⟨a, ns, h0, hq, hz, hD⟩ => ?_
  refine ⟨.ref a, h0, 63, rfl, a, _, rfl, hq, fun t ht => ?_⟩
  rw [cut63 ns hz]
  have s1 := Same.new (o := HO.lst (ns.map V.int)) ht
  refine ⟨t, _, rfl, .inl (.of upd_same), fun c hc => ?_⟩
  have s2 := Same.new (o := HO.lst (ns.map V.int)) hc
  refine ⟨by show 3 ≤ sizeLine; decide, fun p hp => ?_⟩
  have s3 := Same.new (o := HO.lst [.ref c, .int 0, .int 0]) hp
  have free : ∀ {b : Addr} {H H' : Hp}, Same H H' → H' b = none → H b = none := fun {b H H'} s e => by
    cases q : H b with
    | none => rfl
    | some u => rw [s b u q] at e; cases e
  have ne : c ≠ p := fun e => by
    rw [← e, upd_same] at hp
    cases hp
  refine hD c p _ (free s1 hc) (free s1 (free s2 hp)) ne ((s1.trans s2).trans s3) ?_ upd_same
  rw [upd_ne ne, upd_same]
/-- f(e, ..): the V-level rule -/
def tCallG (sp : Sp) (t : TA) (E : L2.St → XK) : TE := fun σ H Q => t σ H fun vs H1 => sp vs H1 Q (E σ)
theorem pe_callG {k : Nat} {f : Addr} {fd : FuncData} {ps : List Str} {sp : Sp} {x : Str} {es : List Expr} {t : TA} {E : L2.St → XK} {p pos : Pos}
    (F : FnG X.prog X.w X.K X.mg X.base k f fd ps sp) (hr : RG k X.A) (hg : Gl X x) (hm : X.mg x = some (.ref f)) (hk : PySem.W.keepIn X.K (.ref f) = true)
    (hb : Binds X.K fd ps []) (hx : ∀ σ, PassesAt (L2.CX X.prog X.w) X σ (E σ)) (ht : PA X (e :: es) t)
    (hdb : (x == ("__debug__" : Str)) = false := by decide) (he : starEach (e :: es) X.env = (false, eval e X.env) :: starEach es X.env := by rfl) (hpl : (backTo pos (starEach es X.env)).any (·.1) = false := by rfl) :
    PE X (.Call (.Name x p) (e :: es) [] pos) (tCallG sp t E) := by
  refine ⟨fun pins s σ H Q I h => ?_⟩
  refine wpAny_Call_Name_kw (ld_glob I hg hm ?_ hdb)
  refine PySem.W.callWith_K (h₀ := X.base) I.ok.mod.kin hk (thn (ht.run pos pins s σ H _ I h) fun us s1 ⟨vs, H1, I1, rv, q⟩ => ⟨I1.kIn, ?_⟩) he hpl
  have hl : (us ++ []).length = ps.length := by rw [List.append_nil, ← rv.length]; exact F.len _ _ _ _ q
  refine run_fnG (args := ⟨us, []⟩) F hr (hx σ) I1 (hb s1 us I1.kIn hl) ?_ q
  rw [List.append_nil]
  exact rv
end
/-- the slots behind the making of the pen -/
def lawSl (N : List Str) (i : Nat) (a p : Addr) : List Sl := ((List.replicate N.length Sl.emp).set 0 (.dat (.ref a))).set i (.dat (.ref p))
theorem R.law {K : PySem.W.Frag} {H : Hp} {N : List Str} {i : Nat} {a p : Addr} {c : PenC} {σ : L2.St} (hl : σ.length = N.length) (h0 : σ[0]? = some (some (.ref a))) (hi : 0 < i) (hp : σ[i]? = some (some (.ref p)))
    (k : c.dk = false) (z : c.ns.length ≤ 63) (hc : H c.c = some (.lst (c.ns.map V.int))) (hp2 : H p = some (.lst [.ref c.c, .int 0, .int 0])) (ne : c.c ≠ p) (T : TbOk K H c) :
    R K (fun _ => False) H σ H ⟨lawSl N i a p, some (p, c), 1048576⟩ := by
  have at_ : ∀ (j : Nat) s, (lawSl N i a p)[j]? = some s → (j = i ∧ s = .dat (.ref p)) ∨ (j = 0 ∧ s = .dat (.ref a)) ∨ s = .emp := fun j s e => by
    rcases set_some e with ⟨e1, e2, _⟩ | ⟨_, e2⟩
    · exact .inl ⟨e1.symm, e2⟩
    · rcases set_some e2 with ⟨e1, e3, _⟩ | ⟨_, e3⟩
      · exact .inr (.inl ⟨e1.symm, e3⟩)
      · rw [List.getElem?_replicate] at e3
        split at e3
        · exact .inr (.inr (Option.some.inj e3).symm)
        · cases e3
  have noown : ∀ (j : Nat) b es, (lawSl N i a p)[j]? = some (.own b es) → False := fun j b es e => by
    rcases at_ j _ e with ⟨_, q⟩ | ⟨_, q⟩ | q <;> cases q
  have notre : ∀ (j : Nat) as d, (lawSl N i a p)[j]? = some (.tre as d) → False := fun j as d e => by
    rcases at_ j _ e with ⟨_, q⟩ | ⟨_, q⟩ | q <;> cases q
  have op : ∀ b, OO (fun _ => False) ⟨lawSl N i a p, some (p, c), 1048576⟩ b → b = p ∨ ∃ t ∈ c.tb, t.2 = b := fun b h => by
    rcases h with h | ⟨p', c', h, hb⟩ | ⟨j, es, h⟩ | ⟨j, as, d, h, _⟩
    · exact h.elim
    · cases h; exact hb
    · exact (noown j b es h).elim
    · exact (notre j as d h).elim
  refine ⟨?_, fun j d e => ?_, fun j b es e => (noown j b es e).elim, fun j k b es fs e _ => (noown j b es e).elim, Frm.refl, fun b h => ?_, fun p' c' e => ?_, Trees.none notre⟩
  · show σ.length = (lawSl N i a p).length
    unfold lawSl
    rw [List.length_set, List.length_set, List.length_replicate]
    exact hl
  · rcases at_ j _ e with ⟨e1, q⟩ | ⟨e1, q⟩ | q
    · cases q; subst e1; exact ⟨_, hp, .ref p⟩
    · cases q; subst e1; exact ⟨_, h0, .ref a⟩
    · cases q
  · rcases op b h with h | ⟨t, ht, h⟩
    · rw [h, hp2]; simp
    · obtain ⟨ps, q⟩ := T.there ht
      rw [← h, q]; simp
  · cases e
    refine ⟨c.ns, 0, 0, ?_, hc, fun z => ?_, ⟨rfl, z⟩, by decide, by show (0 : Int) + ((1048576 : Nat) : Int) ≤ 1048576; decide, by decide, T⟩
    · unfold penO
      rw [k, if_neg Bool.false_ne_true]
      exact hp2
    · rcases op _ z with h | ⟨t, ht, h⟩
      · exact ne h
      · obtain ⟨ps, q⟩ := T.there ht
        rw [h, hc] at q
        cases q
/-- the makers' tables -/
def mkTb (K : PySem.W.Frag) (mk : List Str) : List (Str × Addr) := mk.map fun x => (x, (He.cT K (x, none)).2)
theorem mkTb_map {K : PySem.W.Frag} {mk : List Str} : (mkTb K mk).map Prod.fst = mk := by
  induction mk with
  | nil => rfl
  | cons x r ih => show x :: (mkTb K r).map Prod.fst = _; rw [ih]
theorem tb_start {K : PySem.W.Frag} {H : Hp} {mk : List Str} (inj : ∀ x ∈ mk, ∀ y ∈ mk, (He.cT K (x, none)).2 = (He.cT K (y, none)).2 → x = y) (h : ∀ x ∈ mk, H (He.cT K (x, none)).2 = some (.tbl #[])) {c : PenC} (e : c.tb = mkTb K mk) : TbOk K H c := by
  refine ⟨?_, ?_, ?_⟩
  · rw [e]
    rintro t ht
    obtain ⟨x, hx, rfl⟩ := List.mem_map.mp ht
    rfl
  · rw [e]
    rintro t ht u hu
    obtain ⟨x, hx, rfl⟩ := List.mem_map.mp ht
    obtain ⟨y, hy, rfl⟩ := List.mem_map.mp hu
    exact inj x hx y hy
  · rw [e]
    rintro p hp
    obtain ⟨t, ht, rfl⟩ := List.mem_map.mp hp
    obtain ⟨x, hx, rfl⟩ := List.mem_map.mp ht
    exact .nil (h x hx)
/-- the pen knows the table of the maker x -/
def LamIn (pen : PenT) (x : Str) : Prop := ∃ p c, pen = some (p, c) ∧ ∃ a, (x, a) ∈ c.tb
theorem lamIn_of {p : Addr} {c : PenC} {mk : List Str} {x : Str} (e : c.tb.map Prod.fst = mk) (h : x ∈ mk) : LamIn (some (p, c)) x := by
  rw [← e] at h
  obtain ⟨t, ht, rfl⟩ := List.mem_map.mp h
  exact ⟨p, c, rfl, t.2, ht⟩
/-- the law's def, the makers' tables empty -/
def spLawT (K : PySem.W.Frag) (mk : List Str) : Sp := fun vs H Q E => ∃ (a : Addr) (ns : List Int), vs = [.ref a] ∧ SqL K H a (ns.map V.int) ∧ ns.length ≤ 63 ∧ (∀ x ∈ mk, ∀ y ∈ mk, (He.cT K (x, none)).2 = (He.cT K (y, none)).2 → x = y) ∧ (∀ x ∈ mk, H (He.cT K (x, none)).2 = some (.tbl #[])) ∧ ∀ H', Q (.bl true) H'
theorem hu_of {k : Nat} {A : Around} (hr : RG k A) : A.units + 64 < cLine := by have := hr.room.un; omega
section
variable {P : Program} {w : World} {K : PySem.W.Frag} {mg : Str → Option Value} {base : Heap}
theorem law_mkT {mk : List Str} {st st1 : Stmt} {rest : List Stmt} {f : Addr} {fd : FuncData} {N : List Str} {i k : Nat} {x scr : Str}
    (F : FunD K x x (defArgs st) (defBody st) (defScope st) [] [] f fd) (S : FnScope N [scr] (defScope st)) (hb : defBody st = st1 :: rest) (hi : 0 < i) (hin : i < N.length)
    (hbody : ∀ (cdv : Value) (A : Around) (outer : List Env) (s : Shared) (H : Hp) (E : XK),
      RG k (cxOf (L2.CX P w) P w K mg base N x (defScope st) f cdv A outer s H E).A →
      ∃ u E0, PS (cxOf (L2.CX P w) P w K mg base N x (defScope st) f cdv A outer s H E) st1 (tAsg (tCallG (spPenK K) (tCons (tVar 0) tNil) E0) (gName i)) ∧
        (∀ O0 H0, UPB (cxOf (L2.CX P w) P w K mg base N x (defScope st) f cdv A outer s H E) O0 H0 rest u) ∧
        ∀ a p (c : PenC), c.ns.length ≤ 63 → c.dk = false → c.tb.map Prod.fst = mk → u { nx := fun _ => False, rt := fun d _ => d = .bl true } ⟨lawSl N i a p, some (p, c), 1048576⟩) :
    FnG P w K mg base (k + 1) f fd [scr] (spLawT K mk) := by
  refine fnG_mk F S (fun vs H Q E ⟨a, ns, e, _⟩ => by rw [e]; rfl) ?_
  intro cdv A outer s H vs Q E hr ⟨a, ns, ev, hq, hz, hij, hT, hQ⟩
  obtain ⟨u, E0, h1, h2, h3⟩ := hbody cdv A outer s H E hr
  subst ev
  rw [hb]
  have h2' : PSs (cxOf (L2.CX P w) P w K mg base N x (defScope st) f cdv A outer s H E) rest (fun D σ H => ∃ O0 H0, lS K O0 H0 u D σ H) := ⟨fun pins s σ H Q I ⟨O0, H0, q⟩ => (h2 O0 H0).run pins s σ H Q I q⟩
  refine ⟨_, pss_cons h1 h2', ?_⟩
  have lenN : (start N [.ref a]).length = N.length := by
    unfold L2.start
    simp
    omega
  refine ⟨.ref a, by unfold L2.start; simp, a, ns, rfl, hq, hz, fun c p H' hc hp ne sm ec ep => ?_⟩
  have T : TbOk K H' ⟨c, ns, false, mkTb K mk⟩ := (tb_start hij hT rfl).same sm
  refine ⟨_, _, ⟨lawSl N i a p, some (p, ⟨c, ns, false, mkTb K mk⟩), 1048576⟩, _, R.law (by rw [List.length_set]; exact lenN) ?_ hi ?_ rfl hz ec ep ne T, h3 a p ⟨c, ns, false, mkTb K mk⟩ hz rfl mkTb_map, fun ρ' hx => hx.elim, fun ρ' hx => hx.elim, fun ρ' hx => hx.elim, ⟨fun d n hd v H2 fr pn rp => ?_, fun _ _ z => z.elim, fun _ _ z => z.elim⟩⟩
  · rw [List.getElem?_set_ne (by omega)]
    unfold L2.start
    simp
  · rw [List.getElem?_set_self (by omega)]
  · subst hd
    cases rp
    exact hQ H2
end
end U

set_option Elab.async false
set_option linter.all false
set_option maxRecDepth 100000
set_option maxHeartbeats 4000000
/-! The readings step by step: each continuation by a name, so that rewriting stops where something is open. -/
namespace U
open PySem PySem.Spec L2
open PyProof.Rows hiding St
section
variable {ρ : Ro} {sl : List Sl} {pn : PenT} {fu : Nat} {Q : D → Nat → Prop} {E : UEnds} {i n m : Nat} {a b c : UE} {g g' : G2} {x y d : D}
/-! expressions -/
def kVar (Q : D → Nat → Prop) (n : Nat) : Option Sl → Prop
  | some (.dat d) => Q d n
  | _ => False
theorem xVar : uVar i ρ Q = kVar Q ρ.fuel ρ.sl[i]? := by
  unfold uVar kVar
  rfl
theorem xVar1 : kVar Q n (some (.dat d)) = Q d n := id rfl
theorem xC : uC d ρ Q = Q d ρ.fuel := id rfl
def kN (Q : D → Nat → Prop) (n : Nat) : D → Prop := fun d => Q d n
theorem xN : kN Q n d = Q d n := id rfl
def kOp2 (g : G2) (Q : D → Nat → Prop) (x : D) : D → Nat → Prop := fun y m => g x y (kN Q m)
def kOp1 (g : G2) (b : UE) (ρ : Ro) (Q : D → Nat → Prop) : D → Nat → Prop := fun x n => b (ρ.f n) (kOp2 g Q x)
theorem xOp : uOp g a b ρ Q = a ρ (kOp1 g b ρ Q) := id rfl
theorem xOp1 : kOp1 g b ⟨sl, pn, fu⟩ Q x n = b ⟨sl, pn, n⟩ (kOp2 g Q x) := id rfl
theorem xOp2 : kOp2 g Q x y m = g x y (kN Q m) := id rfl
def kUn (h : D → (D → Prop) → Prop) (Q : D → Nat → Prop) : D → Nat → Prop := fun x n => h x (kN Q n)
theorem xUn {h : D → (D → Prop) → Prop} : uUn h a ρ Q = a ρ (kUn h Q) := id rfl
theorem xUn1 {h : D → (D → Prop) → Prop} : kUn h Q x n = h x (kN Q n) := id rfl
variable {L : List D → Nat → Prop} {ds es : List D} {ul ur : UA}
theorem xNil : uNil ρ L = L [] ρ.fuel := id rfl
def kCons2 (L : List D → Nat → Prop) (x : D) : List D → Nat → Prop := fun xs m => L (x :: xs) m
def kCons1 (r : UA) (ρ : Ro) (L : List D → Nat → Prop) : D → Nat → Prop := fun x n => r (ρ.f n) (kCons2 L x)
theorem xCons : uCons a ur ρ L = a ρ (kCons1 ur ρ L) := id rfl
theorem xCons1 : kCons1 ur ⟨sl, pn, fu⟩ L x n = ur ⟨sl, pn, n⟩ (kCons2 L x) := id rfl
theorem xCons2 : kCons2 L x ds n = L (x :: ds) n := id rfl
def kTup (Q : D → Nat → Prop) : List D → Nat → Prop := fun ds n => Q (.tup ds) n
def kLst (Q : D → Nat → Prop) : List D → Nat → Prop := fun ds n => Q (.lst ds) n
theorem xTup : uTup ul ρ Q = ul ρ (kTup Q) := id rfl
theorem xTup1 : kTup Q ds n = Q (.tup ds) n := id rfl
theorem xLst : uLst ul ρ Q = ul ρ (kLst Q) := id rfl
theorem xLst1 : kLst Q ds n = Q (.lst ds) n := id rfl
variable {T : Bool → Nat → Prop} {k : Bool} {ta tb : UT}
def kOb (T : Bool → Nat → Prop) (n : Nat) : Option Bool → Prop
  | some b => T b n
  | none => False
def kTru (T : Bool → Nat → Prop) : D → Nat → Prop := fun x n => kOb T n x.tru
theorem xTru : uTru a ρ T = a ρ (kTru T) := by
  unfold uTru kTru kOb
  rfl
theorem xTru1 : kTru T x n = kOb T n x.tru := id rfl
theorem xOb : kOb T n (some k) = T k n := id rfl
theorem tru_non : D.tru .non = some false := id rfl
theorem tru_bl : D.tru (.bl k) = some k := id rfl
theorem tru_int {z : Int} : D.tru (.int z) = some (z != 0) := id rfl
theorem tru_lst : D.tru (.lst ds) = some (!ds.isEmpty) := id rfl
theorem tru_tup : D.tru (.tup ds) = some (!ds.isEmpty) := id rfl
def kTB (T : Bool → Nat → Prop) : D → Nat → Prop := fun x n => match x with
  | .bl b => T b n
  | _ => False
theorem xTB : uTB a ρ T = a ρ (kTB T) := id rfl
theorem xTB1 : kTB T (.bl k) n = T k n := id rfl
def kAndT (b : UT) (ρ : Ro) (T : Bool → Nat → Prop) : Bool → Nat → Prop := fun c n => if c = true then b (ρ.f n) T else T false n
def kOrT (b : UT) (ρ : Ro) (T : Bool → Nat → Prop) : Bool → Nat → Prop := fun c n => if c = true then T true n else b (ρ.f n) T
def kNotT (T : Bool → Nat → Prop) : Bool → Nat → Prop := fun c n => T (!c) n
theorem xAndT : uAndT ta tb ρ T = ta ρ (kAndT tb ρ T) := id rfl
theorem xAndT1 : kAndT tb ⟨sl, pn, fu⟩ T true n = tb ⟨sl, pn, n⟩ T := id rfl
theorem xAndT2 : kAndT tb ρ T false n = T false n := id rfl
theorem xOrT : uOrT ta tb ρ T = ta ρ (kOrT tb ρ T) := id rfl
theorem xOrT1 : kOrT tb ρ T true n = T true n := id rfl
theorem xOrT2 : kOrT tb ⟨sl, pn, fu⟩ T false n = tb ⟨sl, pn, n⟩ T := id rfl
theorem xNotT : uNotT ta ρ T = ta ρ (kNotT T) := id rfl
theorem xNotT1 : kNotT T k n = T (!k) n := id rfl
def kAnd (b : UE) (ρ : Ro) (Q : D → Nat → Prop) : D → Nat → Prop := fun x n => match x with
  | .bl true => b (ρ.f n) Q
  | .bl false => Q (.bl false) n
  | _ => False
def kOr (b : UE) (ρ : Ro) (Q : D → Nat → Prop) : D → Nat → Prop := fun x n => match x with
  | .bl true => Q (.bl true) n
  | .bl false => b (ρ.f n) Q
  | _ => False
def kNot (Q : D → Nat → Prop) : D → Nat → Prop := fun x n => match x with
  | .bl c => Q (.bl (!c)) n
  | _ => False
theorem xAnd : uAnd a b ρ Q = a ρ (kAnd b ρ Q) := id rfl
theorem xAnd1 : kAnd b ⟨sl, pn, fu⟩ Q (.bl true) n = b ⟨sl, pn, n⟩ Q := id rfl
theorem xAnd2 : kAnd b ρ Q (.bl false) n = Q (.bl false) n := id rfl
theorem xOr : uOr a b ρ Q = a ρ (kOr b ρ Q) := id rfl
theorem xOr1 : kOr b ρ Q (.bl true) n = Q (.bl true) n := id rfl
theorem xOr2 : kOr b ⟨sl, pn, fu⟩ Q (.bl false) n = b ⟨sl, pn, n⟩ Q := id rfl
theorem xNot : uNot a ρ Q = a ρ (kNot Q) := id rfl
theorem xNot1 : kNot Q (.bl k) n = Q (.bl (!k)) n := id rfl
def kIfE (a b : UE) (ρ : Ro) (Q : D → Nat → Prop) : Bool → Nat → Prop := fun k n => if k = true then a (ρ.f n) Q else b (ρ.f n) Q
theorem xIfE : uIf ta a b ρ Q = ta ρ (kIfE a b ρ Q) := id rfl
theorem xIfE1 : kIfE a b ⟨sl, pn, fu⟩ Q true n = a ⟨sl, pn, n⟩ Q := id rfl
theorem xIfE2 : kIfE a b ⟨sl, pn, fu⟩ Q false n = b ⟨sl, pn, n⟩ Q := id rfl
def kCh4 (g' : G2) (Q : D → Nat → Prop) (y : D) : D → Nat → Prop := fun w k => g' y w (kN Q k)
def kCh3 (g' : G2) (c : UE) (ρ : Ro) (Q : D → Nat → Prop) (y : D) (m : Nat) : D → Prop := fun z => match z with
  | .bl true => c (ρ.f m) (kCh4 g' Q y)
  | .bl false => Q (.bl false) m
  | _ => False
def kCh2 (g g' : G2) (c : UE) (ρ : Ro) (Q : D → Nat → Prop) (x : D) : D → Nat → Prop := fun y m => g x y (kCh3 g' c ρ Q y m)
def kCh1 (g g' : G2) (b c : UE) (ρ : Ro) (Q : D → Nat → Prop) : D → Nat → Prop := fun x n => b (ρ.f n) (kCh2 g g' c ρ Q x)
theorem xCh : uChain g g' a b c ρ Q = a ρ (kCh1 g g' b c ρ Q) := id rfl
theorem xCh1 : kCh1 g g' b c ⟨sl, pn, fu⟩ Q x n = b ⟨sl, pn, n⟩ (kCh2 g g' c ⟨sl, pn, fu⟩ Q x) := id rfl
theorem xCh2 : kCh2 g g' c ρ Q x y m = g x y (kCh3 g' c ρ Q y m) := id rfl
theorem xCh3 : kCh3 g' c ⟨sl, pn, fu⟩ Q y m (.bl true) = c ⟨sl, pn, m⟩ (kCh4 g' Q y) := id rfl
theorem xCh3b : kCh3 g' c ρ Q y m (.bl false) = Q (.bl false) m := id rfl
theorem xCh4 {w : D} : kCh4 g' Q y w n = g' y w (kN Q n) := id rfl
variable {O : Option Int → Nat → Prop} {ol oh : UO} {o o' : Option Int}
theorem xNoP : uNoP ρ O = O none ρ.fuel := id rfl
def kPart (O : Option Int → Nat → Prop) : D → Nat → Prop := fun d n => match d with
  | .int i => O (some i) n
  | _ => False
theorem xPart : uPart a ρ O = a ρ (kPart O) := id rfl
theorem xPart1 {z : Int} : kPart O (.int z) n = O (some z) n := id rfl
def kCut3 (x : D) (lo : Option Int) (Q : D → Nat → Prop) : Option Int → Nat → Prop := fun hi k => gCut x lo hi (kN Q k)
def kCut2 (h : UO) (ρ : Ro) (Q : D → Nat → Prop) (x : D) : Option Int → Nat → Prop := fun lo m => h (ρ.f m) (kCut3 x lo Q)
def kCut1 (l h : UO) (ρ : Ro) (Q : D → Nat → Prop) : D → Nat → Prop := fun x n => l (ρ.f n) (kCut2 h ρ Q x)
theorem xCut : uCut a ol oh ρ Q = a ρ (kCut1 ol oh ρ Q) := id rfl
theorem xCut1 : kCut1 ol oh ⟨sl, pn, fu⟩ Q x n = ol ⟨sl, pn, n⟩ (kCut2 oh ⟨sl, pn, fu⟩ Q x) := id rfl
theorem xCut2 : kCut2 oh ⟨sl, pn, fu⟩ Q x o n = oh ⟨sl, pn, n⟩ (kCut3 x o Q) := id rfl
theorem xCut3 : kCut3 x o Q o' n = gCut x o o' (kN Q n) := id rfl
def kB (g : GL) (Q : D → Nat → Prop) : List D → Nat → Prop := fun ds n => g ds (kN Q n)
theorem xB {g : GL} : uB g ul ρ Q = ul ρ (kB g Q) := id rfl
theorem xB1 {g : GL} : kB g Q ds n = g ds (kN Q n) := id rfl
variable {usp : USp} {dfl : List D} {W : WU} {ix : List Nat}
def kX (W : WU) (ρ : Ro) : UX → Nat → Prop := fun x m => W x (ρ.f m)
def kCall (usp : USp) (dfl : List D) (W : WU) (ρ : Ro) (Q : D → Nat → Prop) : List D → Nat → Prop := fun ds n => usp (ds ++ dfl) ρ.pen n Q (kX W ρ)
def kCallK (usp : USp) (ix : List Nat) (W : WU) (ρ : Ro) (Q : D → Nat → Prop) : List D → Nat → Prop := fun ds n => usp (perm .non ix ds) ρ.pen n Q (kX W ρ)
theorem xCall : uCall usp dfl W ul ρ Q = ul ρ (kCall usp dfl W ρ Q) := id rfl
theorem xCall1 : kCall usp [] W ρ Q ds n = usp ds ρ.pen n Q (kX W ρ) := by
  show usp (ds ++ []) ρ.pen n Q _ = _
  rw [List.append_nil]
theorem xCallK : uCallK usp ix W ul ρ Q = ul ρ (kCallK usp ix W ρ Q) := id rfl
theorem xCallK1 : kCallK usp ix W ρ Q ds n = usp (perm .non ix ds) ρ.pen n Q (kX W ρ) := id rfl
def kCat2 (L : List D → Nat → Prop) (ds : List D) : List D → Nat → Prop := fun es m => L (ds ++ es) m
def kCat1 (b : UA) (ρ : Ro) (L : List D → Nat → Prop) : List D → Nat → Prop := fun ds n => b (ρ.f n) (kCat2 L ds)
theorem xCat : uCat ul ur ρ L = ul ρ (kCat1 ur ρ L) := id rfl
theorem xCat1 : kCat1 ur ⟨sl, pn, fu⟩ L ds n = ur ⟨sl, pn, n⟩ (kCat2 L ds) := id rfl
theorem xCat2 : kCat2 L ds es n = L (ds ++ es) n := id rfl
theorem perm_nil {ds : List D} : perm (α := D) .non [] ds = [] := id rfl
theorem perm_cons {ds : List D} {i : Nat} {ix : List Nat} : perm (α := D) .non (i :: ix) ds = ds.getD i .non :: perm .non ix ds := id rfl
def kRev (Q : D → Nat → Prop) : D → Nat → Prop := fun d n => match d with
  | .lst ds => Q (.lst ds.reverse) n
  | .tup ds => Q (.tup ds.reverse) n
  | _ => False
theorem xRev : uRev a ρ Q = a ρ (kRev Q) := id rfl
theorem xRevL : kRev Q (.lst ds) n = Q (.lst ds.reverse) n := id rfl
theorem xRevT : kRev Q (.tup ds) n = Q (.tup ds.reverse) n := id rfl
/-! statements -/
variable {s t u u' : US} {ui : UI} {ug : UG} {uf : UF}
theorem sSkip : uSkip E ρ = E.nx ρ := id rfl
theorem sSeq : uSeq s t E ρ = s { E with nx := t E } ρ := id rfl
theorem sRet : uRet a E ρ = a ρ E.rt := id rfl
theorem sRetN : uRetN E ρ = E.rt .non ρ.fuel := id rfl
def kIf (a b : US) (E : UEnds) (ρ : Ro) : Bool → Nat → Prop := fun k n => if k = true then a E (ρ.f n) else b E (ρ.f n)
theorem sIf : uIfS ta s t E ρ = ta ρ (kIf s t E ρ) := id rfl
theorem sIf1 : kIf s t E ⟨sl, pn, fu⟩ true n = s E ⟨sl, pn, n⟩ := id rfl
theorem sIf2 : kIf s t E ⟨sl, pn, fu⟩ false n = t E ⟨sl, pn, n⟩ := id rfl
theorem sIfk : kIf s t E ⟨sl, pn, fu⟩ k n ↔ (k = true → s E ⟨sl, pn, n⟩) ∧ (k = false → t E ⟨sl, pn, n⟩) := by
  cases k <;> simp [kIf]
/-- what holds behind both branches, shown once -/
theorem kIf_with {α : Type} (P : α → Ro) (h : ∀ a, E.nx (P a)) (f : (∀ a, E.nx (P a)) → kIf s t E ρ k n) : kIf s t E ρ k n := f h
theorem kAnd_with {α : Type} {ρ0 : Ro} (P : α → Ro) (h : ∀ a, E.nx (P a)) (f : (∀ a, E.nx (P a)) → kAndT tb ρ (kIf s t E ρ0) k n) : kAndT tb ρ (kIf s t E ρ0) k n := f h
def kDrop (E : UEnds) (ρ : Ro) : D → Nat → Prop := fun _ n => E.nx (ρ.f n)
theorem sDrop : uDrop a E ρ = a ρ (kDrop E ρ) := id rfl
theorem sDrop1 : kDrop E ⟨sl, pn, fu⟩ d n = E.nx ⟨sl, pn, n⟩ := id rfl
theorem sBrk : uBrk E ρ = E.bk ρ := id rfl
theorem sCnt : uCnt E ρ = E.ct ρ := id rfl
def kSet (i : Nat) (E : UEnds) (ρ : Ro) : D → Nat → Prop := fun d n => E.nx ((ρ.f n).put i (.dat d))
theorem sSet : uSet i a E ρ = a ρ (kSet i E ρ) := id rfl
theorem sSet1 : kSet i E ⟨sl, pn, fu⟩ d n = E.nx ⟨sl.set i (.dat d), pn, n⟩ := id rfl
def kAsg (g : UG) (E : UEnds) (ρ : Ro) : D → Nat → Prop := fun d n => g d (ρ.f n) E.nx
theorem sAsg : uAsg a ug E ρ = a ρ (kAsg ug E ρ) := id rfl
theorem sAsg1 : kAsg ug E ⟨sl, pn, fu⟩ d n = ug d ⟨sl, pn, n⟩ E.nx := id rfl
variable {G : Ro → Prop}
theorem gN : ugN i d ⟨sl, pn, fu⟩ G = G ⟨sl.set i (.dat d), pn, fu⟩ := id rfl
def kPut (G : Ro → Prop) : Option Ro → Prop
  | some ρ => G ρ
  | none => False
theorem gT {is : List Nat} : ugT is (.tup ds) ρ G = kPut G (putAll is ds ρ) := id rfl
theorem gPut : kPut G (some ρ) = G ρ := id rfl
theorem put_nil : putAll [] [] ρ = some ρ := id rfl
theorem put_cons {is : List Nat} : putAll (i :: is) (d :: ds) ⟨sl, pn, fu⟩ = putAll is ds ⟨sl.set i (.dat d), pn, fu⟩ := id rfl
def kAug (i : Nat) (u : UE) (f : Int → Int → Int) (E : UEnds) (ρ : Ro) : Option Sl → Prop
  | some (.dat (.int x)) => u ρ fun d n => match d with
    | .int y => E.nx ((ρ.f n).put i (.dat (.int (f x y))))
    | _ => False
  | _ => False
theorem sAug {f : Int → Int → Int} : uAug i a f E ρ = kAug i a f E ρ ρ.sl[i]? := by
  unfold uAug kAug
  rfl
def kAug2 (i : Nat) (x : Int) (f : Int → Int → Int) (E : UEnds) (ρ : Ro) : D → Nat → Prop := fun d n => match d with
    | .int y => E.nx ((ρ.f n).put i (.dat (.int (f x y))))
    | _ => False
theorem sAug1 {f : Int → Int → Int} {z : Int} : kAug i a f E ρ (some (.dat (.int z))) = a ρ (kAug2 i z f E ρ) := id rfl
theorem sAug2 {f : Int → Int → Int} {z w : Int} : kAug2 i z f E ⟨sl, pn, fu⟩ (.int w) n = E.nx ⟨sl.set i (.dat (.int (f z w))), pn, n⟩ := id rfl
/-! own lists -/
def kFr (Q : D → Nat → Prop) : List D → Nat → Prop := fun ds n => Q (.lst ds) n
theorem xFr : uFr uf ρ Q = uf ρ (kFr Q) := id rfl
theorem xFr1 : kFr Q ds n = Q (.lst ds) n := id rfl
theorem xfLst : ufLst ul ρ L = ul ρ L := id rfl
def kOwn (i : Nat) (E : UEnds) (ρ : Ro) : List D → Nat → Prop := fun ds n => ∀ a, E.nx ((ρ.f n).put i (.own a ds))
theorem sOwn : uOwn i uf E ρ = uf ρ (kOwn i E ρ) := id rfl
theorem sOwn1 : kOwn i E ⟨sl, pn, fu⟩ ds n = ∀ a, E.nx ⟨sl.set i (.own a ds), pn, n⟩ := id rfl
def kApp2 (i : Nat) (a : Addr) (ds : List D) (E : UEnds) (ρ : Ro) : D → Nat → Prop := fun d n => ds.length < sizeLine ∧ E.nx ((ρ.f n).put i (.own a (ds ++ [d])))
def kApp (i : Nat) (u : UE) (E : UEnds) (ρ : Ro) : Option Sl → Prop
  | some (.own a (.l ds)) => u ρ (kApp2 i a ds E ρ)
  | _ => False
theorem sApp : uApp i a E ρ = kApp i a E ρ ρ.sl[i]? := by
  unfold uApp kApp
  rfl
variable {ad : Addr}
theorem sApp1 : kApp i a E ρ (some (.own ad ds)) = a ρ (kApp2 i ad ds E ρ) := id rfl
theorem sApp2 : kApp2 i ad ds E ⟨sl, pn, fu⟩ d n = (ds.length < sizeLine ∧ E.nx ⟨sl.set i (.own ad (ds ++ [d])), pn, n⟩) := id rfl
def kThaw (i : Nat) (u : US) (E : UEnds) (ρ : Ro) : Option Sl → Prop
  | some (.own _ (.l ds)) => u E (ρ.put i (.dat (.lst ds)))
  | _ => u E ρ
theorem sThaw : uThaw i u E ρ = kThaw i u E ρ ρ.sl[i]? := by
  unfold uThaw kThaw
  rfl
theorem sThaw1 : kThaw i u E ⟨sl, pn, fu⟩ (some (.own ad ds)) = u E ⟨sl.set i (.dat (.lst ds)), pn, fu⟩ := id rfl
theorem sThaw2 : kThaw i u E ρ (some (.dat d)) = u E ρ := id rfl
theorem sThaw3 : kThaw i u E ρ (some .emp) = u E ρ := id rfl
def kPeek2 (Q : D → Nat → Prop) : D → Nat → Prop := fun d n => D.noL d = true ∧ Q d n
def kPeek (i : Nat) (u : UE) (ρ : Ro) (Q : D → Nat → Prop) : Option Sl → Prop
  | some (.own _ (.l ds)) => u (ρ.put i (.dat (.lst ds))) (kPeek2 Q)
  | _ => u ρ Q
theorem xPeek : uPeek i a ρ Q = kPeek i a ρ Q ρ.sl[i]? := by
  unfold uPeek kPeek
  rfl
theorem xPeek1 : kPeek i a ⟨sl, pn, fu⟩ Q (some (.own ad ds)) = a ⟨sl.set i (.dat (.lst ds)), pn, fu⟩ (kPeek2 Q) := id rfl
theorem xPeekd : kPeek i a ρ Q (some (.dat d)) = a ρ Q := id rfl
theorem xPeek2 : kPeek2 Q d n = (D.noL d = true ∧ Q d n) := id rfl
def kPeekT (i : Nat) (u : UT) (ρ : Ro) (T : Bool → Nat → Prop) : Option Sl → Prop
  | some (.own _ (.l ds)) => u (ρ.put i (.dat (.lst ds))) T
  | _ => u ρ T
theorem xPeekT : uPeekT i ta ρ T = kPeekT i ta ρ T ρ.sl[i]? := by
  unfold uPeekT kPeekT
  rfl
theorem xPeekT1 : kPeekT i ta ⟨sl, pn, fu⟩ T (some (.own ad ds)) = ta ⟨sl.set i (.dat (.lst ds)), pn, fu⟩ T := id rfl
theorem xPeekTd : kPeekT i ta ρ T (some (.dat d)) = ta ρ T := id rfl
def kSetIx3 (i : Nat) (a : Addr) (ds : List D) (d : D) (m : Nat) (E : UEnds) (ρ : Ro) : Option Nat → Prop
  | some j => E.nx ((ρ.f m).put i (.own a (ds.set j d)))
  | none => False
def kSetIx2 (i : Nat) (a : Addr) (ds : List D) (d : D) (E : UEnds) (ρ : Ro) : D → Nat → Prop := fun k m => match k with
  | .int z => kSetIx3 i a ds d m E ρ (ixN ds.length z)
  | _ => False
def kSetIx1 (i : Nat) (a : Addr) (ds : List D) (ui : UE) (E : UEnds) (ρ : Ro) : D → Nat → Prop := fun d n => ui (ρ.f n) (kSetIx2 i a ds d E ρ)
def kSetIx (i : Nat) (ui u : UE) (E : UEnds) (ρ : Ro) : Option Sl → Prop
  | some (.own a (.l ds)) => u ρ (kSetIx1 i a ds ui E ρ)
  | _ => False
theorem sSetIx {uj : UE} : uSetIx i uj a E ρ = kSetIx i uj a E ρ ρ.sl[i]? := by
  unfold uSetIx kSetIx kSetIx1 kSetIx2 kSetIx3
  rfl
theorem sSetIx1 {uj : UE} : kSetIx i uj a E ρ (some (.own ad ds)) = a ρ (kSetIx1 i ad ds uj E ρ) := id rfl
theorem sSetIx2 {uj : UE} : kSetIx1 i ad ds uj E ⟨sl, pn, fu⟩ d n = uj ⟨sl, pn, n⟩ (kSetIx2 i ad ds d E ⟨sl, pn, fu⟩) := id rfl
theorem sSetIx3 {z : Int} : kSetIx2 i ad ds d E ρ (.int z) n = kSetIx3 i ad ds d n E ρ (ixN ds.length z) := id rfl
theorem sSetIx4 {j : Nat} : kSetIx3 i ad ds d n E ⟨sl, pn, fu⟩ (some j) = E.nx ⟨sl.set i (.own ad (ds.set j d)), pn, n⟩ := id rfl
/-! loops -/
def kSq (L : List D → Nat → Prop) : D → Nat → Prop := fun d n => match d with
  | .lst ds => L ds n
  | .tup ds => L ds n
  | _ => False
theorem iSq : uiS a ρ L = a ρ (kSq L) := id rfl
theorem iSqL : kSq L (.lst ds) n = L ds n := id rfl
theorem iSqT : kSq L (.tup ds) n = L ds n := id rfl
def kR1 (L : List D → Nat → Prop) : List D → Nat → Prop := fun ds n => match ds with
  | [.int j] => (-(2 ^ 62) ≤ j ∧ j < 2 ^ 62) ∧ L (rngD 0 j.toNat) n
  | _ => False
def kR2 (L : List D → Nat → Prop) : List D → Nat → Prop := fun ds n => match ds with
  | [.int i, .int j] => (-(2 ^ 62) ≤ i ∧ i < 2 ^ 62 ∧ -(2 ^ 62) ≤ j ∧ j < 2 ^ 62) ∧ L (rngD i (j - i).toNat) n
  | _ => False
theorem iR1 : uiR1 ul ρ L = ul ρ (kR1 L) := id rfl
theorem iR11 {j : Int} : kR1 L [.int j] n = ((-(2 ^ 62) ≤ j ∧ j < 2 ^ 62) ∧ L (rngD 0 j.toNat) n) := id rfl
theorem iR2 : uiR2 ul ρ L = ul ρ (kR2 L) := id rfl
theorem iR21 {z j : Int} : kR2 L [.int z, .int j] n = ((-(2 ^ 62) ≤ z ∧ z < 2 ^ 62 ∧ -(2 ^ 62) ≤ j ∧ j < 2 ^ 62) ∧ L (rngD z (j - z).toNat) n) := id rfl
def kFor (g : UG) (body : US) (E : UEnds) (ρ : Ro) : List D → Nat → Prop := fun ds n => ∃ I : List D → Ro → Prop, I ds (ρ.f n) ∧ (∀ ρ, I [] ρ → E.nx ρ) ∧
  ∀ d r ρ, I (d :: r) ρ → g d ρ fun ρ' => body { E with nx := I r, ct := I r, bk := E.nx } ρ'
theorem sFor : uFor ui ug u E ρ = ui ρ (kFor ug u E ρ) := id rfl
theorem sFor1 (I : List D → Ro → Prop) (h0 : I ds ⟨sl, pn, n⟩) (h1 : ∀ ρ, I [] ρ → E.nx ρ) (h2 : ∀ d r ρ, I (d :: r) ρ → ug d ρ (u { E with nx := I r, ct := I r, bk := E.nx })) : kFor ug u E ⟨sl, pn, fu⟩ ds n := ⟨I, h0, h1, h2⟩
def kComp (vs : List Nat) (g : UG) (tt : UT) (te : UE) (ρ : Ro) (L : List D → Nat → Prop) : List D → Nat → Prop := fun ds n => (ds.length ≤ sizeLine ∧ noOwn ρ vs = true) ∧ ∃ I : List D → List D → Nat → Prop, I ds [] n ∧ (∀ acc m, I [] acc m → L acc m) ∧
  ∀ d r acc m, I (d :: r) acc m → g d ((wipeR ρ vs).f m) fun ρ' => tt ρ' fun k j => if k = true then te (ρ'.f j) fun y l => I r (acc ++ [y]) l else I r acc j
theorem xComp {vs : List Nat} {te : UE} : uComp ui vs ug ta te ρ L = ui ρ (kComp vs ug ta te ρ L) := id rfl
def wipeS (sl : List Sl) : List Nat → List Sl
  | [] => sl
  | i :: is => (wipeS sl is).set i .emp
theorem wS0 : wipeS sl [] = sl := id rfl
theorem wS1 {is : List Nat} : wipeS sl (i :: is) = (wipeS sl is).set i .emp := id rfl
theorem wipeR_S : ∀ is : List Nat, wipeR ⟨sl, pn, fu⟩ is = ⟨wipeS sl is, pn, fu⟩
  | [] => rfl
  | i :: is => by
    show (wipeR ⟨sl, pn, fu⟩ is).put i .emp = _
    rw [wipeR_S is]
    rfl
/-- [f(d) for d in ds] -/
theorem xMap {vs : List Nat} {te : UE} (f : D → D) (h0 : ds.length ≤ sizeLine) (h1 : noOwn ⟨sl, pn, fu⟩ vs = true)
    (h : ∀ d ∈ ds, ∀ m (T : D → Nat → Prop), T (f d) m → ug d ⟨wipeS sl vs, pn, m⟩ fun ρ' => te ρ' T) (hL : L (ds.map f) n) : kComp vs ug uYes te ⟨sl, pn, fu⟩ L ds n := by
  refine ⟨⟨h0, h1⟩, fun r acc m => m = n ∧ (∀ d ∈ r, d ∈ ds) ∧ acc ++ r.map f = ds.map f, ⟨rfl, fun _ h => h, rfl⟩, ?_, ?_⟩
  · rintro acc m ⟨rfl, _, e⟩
    rw [List.map_nil, List.append_nil] at e
    rw [e]
    exact hL
  · rintro d r acc m ⟨rfl, hin, e⟩
    have w : (wipeR ⟨sl, pn, fu⟩ vs).f m = ⟨wipeS sl vs, pn, m⟩ := by rw [wipeR_S]
    rw [w]
    refine (h d (hin d List.mem_cons_self) m (fun y l => l = m ∧ (∀ d ∈ r, d ∈ ds) ∧ (acc ++ [y]) ++ r.map f = ds.map f) ⟨rfl, fun z hz => hin z (List.mem_cons_of_mem _ hz), ?_⟩)
    rw [← e]
    simp
theorem xLt {i j : Int} {Q : D → Prop} : gLt (.int i) (.int j) Q = Q (.bl (decide (i < j))) := id rfl
theorem xLe {i j : Int} {Q : D → Prop} : gLe (.int i) (.int j) Q = Q (.bl (decide (i ≤ j))) := id rfl
theorem xGt {i j : Int} {Q : D → Prop} : gGt (.int i) (.int j) Q = Q (.bl (decide (j < i))) := id rfl
theorem xGe {i j : Int} {Q : D → Prop} : gGe (.int i) (.int j) Q = Q (.bl (decide (j ≤ i))) := id rfl
theorem xEqI {i j : Int} {Q : D → Prop} : gEqV (.int i) (.int j) Q ↔ Q (.bl (decide (i = j))) := by
  show (D.cq (.int i) (.int j) = true ∧ Q (.bl (i == j))) ↔ _
  have e : (i == j) = decide (i = j) := rfl
  rw [e]
  exact ⟨fun h => h.2, fun h => ⟨by simp [D.cq, D.flat], h⟩⟩
theorem xEqS {i j : Str} {Q : D → Prop} : gEqV (.str i) (.str j) Q ↔ Q (.bl (i == j)) := id Iff.rfl
theorem xNeI {i j : Int} {Q : D → Prop} : gNe (.int i) (.int j) Q ↔ Q (.bl (decide (i ≠ j))) := by
  show ((D.flat 60 (.int i) = true ∧ D.flat 60 (.int j) = true) ∧ Q (.bl (!(i == j)))) ↔ _
  have e : (!(i == j)) = decide (i ≠ j) := by
    by_cases h : i = j <;> simp [h]
  rw [e]
  exact ⟨fun h => h.2, fun h => ⟨by simp [D.flat], h⟩⟩
theorem xLenS {x : Str} {Q : D → Prop} : gLen [.str x] Q = (x.length ≤ sizeLine ∧ Q (.int x.length)) := id rfl
theorem xLenL {ds : List D} {Q : D → Prop} : gLen [.lst ds] Q = Q (.int ds.length) := id rfl
theorem xLenT {ds : List D} {Q : D → Prop} : gLen [.tup ds] Q = Q (.int ds.length) := id rfl
theorem xIsi {x : D} {n : String} {Q : D → Prop} : gIsi [x, .ty n] Q = ((x.tyn.isSome = true ∧ n ∈ tyNames) ∧ Q (.bl (isD x n))) := id rfl
theorem xAddI {i j : Int} {Q : D → Prop} : gAdd (.int i) (.int j) Q = Q (.int (i + j)) := id rfl
theorem xAddS {i j : Str} {Q : D → Prop} : gAdd (.str i) (.str j) Q = (i.length + j.length ≤ sizeLine ∧ Q (.str (i ++ j))) := id rfl
theorem xAddL {i j : List D} {Q : D → Prop} : gAdd (.lst i) (.lst j) Q = (i.length + j.length ≤ sizeLine ∧ Q (.lst (i ++ j))) := id rfl
theorem xAddT {i j : List D} {Q : D → Prop} : gAdd (.tup i) (.tup j) Q = (i.length + j.length ≤ sizeLine ∧ Q (.tup (i ++ j))) := id rfl
theorem xSubI {i j : Int} {Q : D → Prop} : U.gSub (.int i) (.int j) Q = Q (.int (i - j)) := id rfl
theorem xMulL {i : List D} {k : Int} {Q : D → Prop} : gMul (.lst i) (.int k) Q = ((-(2 ^ 63) ≤ k ∧ k < 2 ^ 63 ∧ i.length * k.toNat ≤ sizeLine) ∧ Q (.lst (List.replicate k.toNat i).flatten)) := id rfl
theorem xMulT {i : List D} {k : Int} {Q : D → Prop} : gMul (.tup i) (.int k) Q = ((i ≠ [] ∧ 2 ≤ k ∧ k ≤ 1000 ∧ i.length ≤ 1000) ∧ Q (.tup (List.replicate k.toNat i).flatten)) := id rfl
theorem xDivI {i j : Int} {Q : D → Prop} : gDiv (.int i) (.int j) Q = ((0 < j ∧ j.natAbs.log2 < 9000) ∧ Q (.int (i / j))) := id rfl
theorem xModI {i j : Int} {Q : D → Prop} : gMod (.int i) (.int j) Q = (0 < j ∧ Q (.int (i % j))) := id rfl
theorem xPowI {i j : Int} {Q : D → Prop} : gPow (.int i) (.int j) Q = ((0 ≤ j ∧ j ≤ 1000000 ∧ i.natAbs < 2 ^ 64) ∧ Q (.int (i ^ j.toNat))) := id rfl
theorem xNegI {i : Int} {Q : D → Prop} : gNeg (.int i) Q = Q (.int (-i)) := id rfl
theorem xIntI {i : Int} {Q : D → Prop} : gInt [.int i] Q = Q (.int i) := id rfl
theorem xIntB {b : Bool} {Q : D → Prop} : gInt [.bl b] Q = Q (.int (if b then 1 else 0)) := id rfl
theorem xAbsI {i : Int} {Q : D → Prop} : gAbs [.int i] Q = Q (.int (if i < 0 then -i else i)) := id rfl
theorem xMin2 {i j : Int} {Q : D → Prop} : gMin2 [.int i, .int j] Q = Q (.int (if j < i then j else i)) := id rfl
theorem xMax2 {i j : Int} {Q : D → Prop} : gMax2 [.int i, .int j] Q = Q (.int (if j > i then j else i)) := id rfl
theorem xListL {ds : List D} {Q : D → Prop} : gList [.lst ds] Q = Q (.lst ds) := id rfl
theorem xListT {ds : List D} {Q : D → Prop} : gList [.tup ds] Q = Q (.lst ds) := id rfl
theorem xTupleL {ds : List D} {Q : D → Prop} : gTuple [.lst ds] Q = Q (.tup ds) := id rfl
theorem xTupleT {ds : List D} {Q : D → Prop} : gTuple [.tup ds] Q = Q (.tup ds) := id rfl
theorem xCutL {ds : List D} {o o' : Option Int} {Q : D → Prop} : gCut (.lst ds) o o' Q = Q (.lst (cutD ds o o')) := id rfl
theorem xCutT {ds : List D} {o o' : Option Int} {Q : D → Prop} : gCut (.tup ds) o o' Q = Q (.tup (cutD ds o o')) := id rfl
theorem xIsN {Q : D → Prop} : gIs .non .non Q = Q (.bl true) := id rfl
theorem xIsB {a b : Bool} {Q : D → Prop} : gIs (.bl a) (.bl b) Q = Q (.bl (a == b)) := id rfl
theorem xIsNotB {a b : Bool} {Q : D → Prop} : gIsNot (.bl a) (.bl b) Q = Q (.bl (!(a == b))) := id rfl
theorem l0 {α : Type} {x : α} {xs : List α} : (x :: xs)[0]? = some x := id rfl
theorem l1 {α : Type} {x : α} {xs : List α} {i : Nat} : (x :: xs)[i + 1]? = xs[i]? := id rfl
theorem s0 {α : Type} {x y : α} {xs : List α} : (x :: xs).set 0 y = y :: xs := id rfl
theorem s1 {α : Type} {x y : α} {xs : List α} {i : Nat} : (x :: xs).set (i + 1) y = x :: xs.set i y := id rfl
theorem xMulI {i j : Int} {Q : D → Prop} : gMul (.int i) (.int j) Q = (MulOk i j ∧ Q (.int (i * j))) := id rfl
/-! the pen -/
/-- d is the pen -/
def isPen (dk : Bool) (pen : PenT) (d : D) : Prop := ∃ p c, pen = some (p, c) ∧ c.dk = dk ∧ d = .ref p
/-- what a draw promises -/
def spDraw (dk : Bool) : USp := fun ds pen n Q _ => match ds with
  | [x, .int m] => isPen dk pen x ∧ 0 < m ∧ m ≤ 10 ^ 70 ∧ 1 ≤ n ∧ ∀ d, 0 ≤ d → d < m → Q (.int d) (n - 1)
  | _ => False
theorem draw_use {dk : Bool} {pen : PenT} {x : D} {z : Int} {PX : UX → Nat → Prop} (h : isPen dk pen x) (h1 : 0 < z) (h2 : z ≤ 10 ^ 70) (h3 : 1 ≤ n) (hQ : ∀ d, 0 ≤ d → d < z → Q (.int d) (n - 1)) : spDraw dk [x, .int z] pen n Q PX := ⟨h, h1, h2, h3, hQ⟩
def uPenX (i k : Nat) : UE := fun ρ Q => (∃ p c, ρ.pen = some (p, c) ∧ c.dk = false) ∧ uPenIx i k ρ Q
/-! ### the draw's own -/
theorem len_draw {dk : Bool} : ∀ (ds : List D) (pen : PenT) (n : Nat) (Q : D → Nat → Prop) (E : UX → Nat → Prop), spDraw dk ds pen n Q E → ds.length = 2 := by
  intro ds pen n Q E h
  unfold spDraw at h
  split at h
  · rfl
  · exact h.elim
def kPenN (i : Nat) (E : UEnds) (ρ : Ro) : D → Nat → Prop := fun d n => match d, ρ.sl[i]?, ρ.pen with
  | .int z, some (.dat (.ref a)), some (p, c) => (a = p ∧ c.dk = false) ∧ 0 ≤ z ∧ ∃ m : Nat, z + m ≤ 1048576 ∧ E.nx (ρ.f m)
  | _, _, _ => False
def kPenR (i : Nat) (E : UEnds) (ρ : Ro) : D → Nat → Prop := fun d n => match d, ρ.sl[i]?, ρ.pen with
  | .int z, some (.dat (.ref a)), some (p, c) => (a = p ∧ c.dk = false) ∧ 0 ≤ z ∧ ∃ m : Nat, m ≤ n ∧ E.nx (ρ.f m)
  | _, _, _ => False
theorem sPenN : uPenNext i a E ρ = a ρ (kPenN i E ρ) := id rfl
theorem sPenR : uPenRest i a E ρ = a ρ (kPenR i E ρ) := id rfl
variable {p : Addr} {c : PenC} {z : Int} {f : Nat}
theorem sPenN1 (hk : c.dk = false) : kPenN 0 E ⟨.dat (.ref p) :: sl, some (p, c), f⟩ (.int z) n ↔ 0 ≤ z ∧ ∃ m : Nat, z + m ≤ 1048576 ∧ E.nx ⟨.dat (.ref p) :: sl, some (p, c), m⟩ := ⟨fun h => h.2, fun h => ⟨⟨rfl, hk⟩, h⟩⟩
theorem sPenR1 (hk : c.dk = false) : kPenR 0 E ⟨.dat (.ref p) :: sl, some (p, c), f⟩ (.int z) n ↔ 0 ≤ z ∧ ∃ m : Nat, m ≤ n ∧ E.nx ⟨.dat (.ref p) :: sl, some (p, c), m⟩ := ⟨fun h => h.2, fun h => ⟨⟨rfl, hk⟩, h⟩⟩
theorem xPenK {k : Nat} (hk : c.dk = false) : uPenX 0 k ⟨.dat (.ref p) :: sl, some (p, c), f⟩ Q ↔ (match k with
    | 0 => Q (.lst (c.ns.map D.int)) f
    | 1 => ∀ t : Int, 0 ≤ t → t + f ≤ 1048576 → Q (.int t) f
    | 2 => ∀ t : Int, 0 ≤ t → Q (.int t) f
    | _ => False) := ⟨fun h => h.2.2, fun h => ⟨⟨p, c, rfl, hk⟩, rfl, h⟩⟩
theorem xPenK0 (hk : c.dk = false) : uPenX 0 0 ⟨.dat (.ref p) :: sl, some (p, c), f⟩ Q ↔ Q (.lst (c.ns.map D.int)) f := xPenK hk
theorem xPenK1 (hk : c.dk = false) : uPenX 0 1 ⟨.dat (.ref p) :: sl, some (p, c), f⟩ Q ↔ ∀ t : Int, 0 ≤ t → t + f ≤ 1048576 → Q (.int t) f := xPenK hk
theorem xPenK2 (hk : c.dk = false) : uPenX 0 2 ⟨.dat (.ref p) :: sl, some (p, c), f⟩ Q ↔ ∀ t : Int, 0 ≤ t → Q (.int t) f := xPenK hk
theorem log_of {m : Int} (h0 : 0 < m) (h : m ≤ 10 ^ 70) : m.natAbs.log2 < 9000 := by
  have z : m.natAbs ≠ 0 := by omega
  have k : (10 : Int) ^ 70 < 2 ^ 240 := by decide
  have l : m.natAbs < 2 ^ 240 := by
    have e : ((m.natAbs : Nat) : Int) = m := by omega
    have e2 : ((m.natAbs : Nat) : Int) < ((2 ^ 240 : Nat) : Int) := by
      rw [e]
      exact Int.lt_of_le_of_lt h (by rw [show (((2 ^ 240 : Nat)) : Int) = (2 : Int) ^ 240 from by norm_cast]; exact k)
    exact Int.ofNat_lt.mp e2
  exact Nat.lt_trans ((Nat.log2_lt z).mpr l) (by decide)
theorem mul_bd {a b A B : Int} (h1 : 0 ≤ a) (h2 : a ≤ A) (h3 : 0 ≤ b) (h4 : b ≤ B) : 0 ≤ a * b ∧ a * b ≤ A * B := ⟨Int.mul_nonneg h1 h3, Int.mul_le_mul h2 h4 h3 (Int.le_trans h1 h2)⟩
theorem flats_ints (k : Nat) : ∀ ns : List Int, D.flats k (ns.map D.int) = true
  | [] => by simp [D.flats]
  | n :: ns => by simp [D.flats, D.flat, flats_ints k ns]
theorem eqv_ints_nil (ns : List Int) : D.eqv (.lst (ns.map D.int)) (.lst []) = ns.isEmpty := by
  cases ns <;> simp [D.eqv, D.eqvs]
end
end U

set_option Elab.async false
set_option linter.all false
set_option maxRecDepth 100000
set_option maxHeartbeats 4000000
/-! How large data are; parts of lists. -/
namespace U
open PySem PySem.Spec L2
open PyProof.Rows hiding St

mutual
/-- nested at most n deep; ints of at most sixty digits, texts of true characters, no objects -/
def D.fit : Nat → D → Bool
  | _, .non => true
  | _, .bl _ => true
  | _, .int i => decide (i.natAbs < 10 ^ 60)
  | _, .str x => PyData.strOk x
  | 0, .lst _ => false
  | 0, .tup _ => false
  | 0, .dic _ => false
  | n + 1, .lst ds => D.fits n ds
  | n + 1, .tup ds => D.fits n ds
  | n + 1, .dic es => D.fitk n es
  | _, .ref _ => false
  | _, .ty _ => false
  | _, .exc _ _ => false
  | _, .cls _ => false
def D.fits : Nat → List D → Bool
  | _, [] => true
  | n, d :: ds => D.fit n d && D.fits n ds
def D.fitk : Nat → List (Key × D) → Bool
  | _, [] => true
  | n, (.inl i, d) :: es => decide (i.natAbs < 10 ^ 60) && D.fit n d && D.fitk n es
  | n, (.inr x, d) :: es => PyData.strOk x && D.fit n d && D.fitk n es
end
mutual
/-- at least as long as what repr writes -/
def D.sz : D → Nat
  | .non => 4
  | .bl _ => 5
  | .int _ => 61
  | .str x => 10 * x.length + 2
  | .lst ds => D.szs ds + 3
  | .tup ds => D.szs ds + 3
  | .dic es => D.szk es + 3
  | .ref _ => 0
  | .ty _ => 0
  | .exc _ _ => 0
  | .cls _ => 0
def D.szs : List D → Nat
  | [] => 0
  | d :: ds => d.sz + 2 + D.szs ds
def D.szk : List (Key × D) → Nat
  | [] => 0
  | (.inl _, d) :: es => 65 + d.sz + 2 + D.szk es
  | (.inr x, d) :: es => 10 * x.length + 4 + d.sz + 2 + D.szk es
end
mutual
/-- no dict within -/
def D.noDc : D → Bool
  | .dic _ => false
  | .lst ds => D.noDcs ds
  | .tup ds => D.noDcs ds
  | _ => true
def D.noDcs : List D → Bool
  | [] => true
  | d :: ds => D.noDc d && D.noDcs ds
end
theorem join_le (ts : List Str) : (Str.join ", " ts).length ≤ (ts.map fun t => t.length + 2).sum := by
  induction ts with
  | nil => exact Nat.zero_le _
  | cons t ts ih =>
    cases ts with
    | nil => show t.length ≤ _; simp
    | cons y r =>
      show (t ++ ", " ++ Str.join ", " (y :: r)).length ≤ _
      rw [strLen_append, strLen_append, List.map_cons, List.sum_cons]
      have : (", " : Str).length = 2 := rfl
      omega
theorem textFrom_le : ∀ (ts : List Str) (k : Nat) (acc : Str), (textFrom k acc ts).length ≤ acc.length + (ts.map fun t => t.length + 2).sum
  | [], k, acc => by simp [textFrom]
  | t :: r, k, acc => by
    have ih := textFrom_le r (k + 1) (acc ++ (if k > 0 then ", " else "" : String) ++ t)
    show (textFrom (k + 1) _ r).length ≤ _
    rw [strLen_append, strLen_append] at ih
    rw [List.map_cons, List.sum_cons]
    have c : ((if k > 0 then ", " else "" : String) : Str).length ≤ 2 := by split <;> decide
    omega
theorem strOk_lt {x : Str} (h : PyData.strOk x = true) : ∀ c ∈ x.cps.toList, c < 16 ^ 8 := fun c hc => by
  have := Array.all_eq_true'.mp h c (by simpa using hc)
  have h2 : c < 0x110000 := of_decide_eq_true this
  omega
mutual
theorem shown_sz : ∀ (n : Nat) (d : D), D.fit n d = true → d.py.shown.length ≤ d.sz
  | _, .non, _ => by simp only [D.py, PyData.shown, D.sz]; decide
  | _, .bl b, _ => by cases b <;> simp only [D.py, PyData.shown, D.sz] <;> decide
  | _, .int i, h => by
    simp only [D.py, PyData.shown, D.sz]
    have h' : i.natAbs < 10 ^ 60 := by simpa [D.fit] using h
    have := int_text_length_le10 (k := 60) (by decide) h'
    show (Str.ofString (toString i)).length ≤ 61
    rw [PySem.ofString_length]
    exact this
  | _, .str x, h => by
    simp only [D.py, PyData.shown, D.sz]
    exact PySem.StrLaws.reprText_len x (strOk_lt (by simpa [D.fit] using h))
  | 0, .lst _, h => by simp [D.fit] at h
  | 0, .tup _, h => by simp [D.fit] at h
  | 0, .dic _, h => by simp [D.fit] at h
  | n + 1, .lst ds, h => by
    have ih := showns_sz n ds (by simpa [D.fit] using h)
    simp only [D.py, PyData.shown, D.sz]
    unfold listText
    rw [strLen_append]
    have := textFrom_le (PyData.shownAll (D.pys ds)) 0 "["
    have e1 : ("[" : Str).length = 1 := rfl
    have e2 : ("]" : Str).length = 1 := rfl
    omega
  | n + 1, .tup ds, h => by
    have ih := showns_sz n ds (by simpa [D.fit] using h)
    simp only [D.py, PyData.shown, D.sz]
    unfold tupleText
    rw [strLen_append, strLen_append]
    have := join_le (PyData.shownAll (D.pys ds))
    have e1 : ("(" : Str).length = 1 := rfl
    have e2 : ((if (PyData.shownAll (D.pys ds)).length == 1 then ",)" else ")" : String) : Str).length ≤ 2 := by split <;> decide
    omega
  | n + 1, .dic es, h => by
    have ih := shownk_sz n es (by simpa [D.fit] using h)
    simp only [D.py, PyData.shown, D.sz]
    unfold dictText
    rw [strLen_append, strLen_append]
    have := join_le (PyData.shownKv (D.pyk es))
    have e1 : ("{" : Str).length = 1 := rfl
    have e2 : ("}" : Str).length = 1 := rfl
    omega
  | _, .ref _, h => by simp [D.fit] at h
  | _, .ty _, h => by simp [D.fit] at h
  | _, .exc _ _, h => by simp [D.fit] at h
  | _, .cls _, h => by simp [D.fit] at h
theorem showns_sz : ∀ (n : Nat) (ds : List D), D.fits n ds = true → ((PyData.shownAll (D.pys ds)).map fun t => t.length + 2).sum ≤ D.szs ds
  | _, [], _ => by simp [D.pys, PyData.shownAll, D.szs]
  | n, d :: ds, h => by
    simp only [D.fits, Bool.and_eq_true] at h
    have a := shown_sz n d h.1
    have b := showns_sz n ds h.2
    simp only [D.pys, PyData.shownAll, D.szs, List.map_cons, List.sum_cons]
    omega
theorem shownk_sz : ∀ (n : Nat) (es : List (Key × D)), D.fitk n es = true → ((PyData.shownKv (D.pyk es)).map fun t => t.length + 2).sum ≤ D.szk es
  | _, [], _ => by simp [D.pyk, PyData.shownKv, D.szk]
  | n, (.inl i, d) :: es, h => by
    simp only [D.fitk, Bool.and_eq_true, decide_eq_true_eq] at h
    have a := shown_sz n d h.1.2
    have b := shownk_sz n es h.2
    have c := int_text_length_le10 (k := 60) (by decide) h.1.1
    have c' : (PyData.shown (.int i)).length ≤ 61 := by
      simp only [PyData.shown]
      show (Str.ofString (toString i)).length ≤ 61
      rw [PySem.ofString_length]
      exact c
    simp only [D.pyk, PyData.shownKv, D.szk, List.map_cons, List.sum_cons]
    rw [strLen_append, strLen_append]
    have e1 : (": " : Str).length = 2 := rfl
    omega
  | n, (.inr x, d) :: es, h => by
    simp only [D.fitk, Bool.and_eq_true] at h
    have a := shown_sz n d h.1.2
    have b := shownk_sz n es h.2
    have c := PySem.StrLaws.reprText_len x (strOk_lt h.1.1)
    have c' : (PyData.shown (.str x)).length ≤ 10 * x.length + 2 := by
      simp only [PyData.shown]
      exact c
    simp only [D.pyk, PyData.shownKv, D.szk, List.map_cons, List.sum_cons]
    rw [strLen_append, strLen_append]
    have e1 : (": " : Str).length = 2 := rfl
    omega
end
theorem log2_60 {i : Int} (h : i.natAbs < 10 ^ 60) : i.natAbs.log2 < 1920 := by
  by_cases z : i.natAbs = 0
  · rw [z]; decide
  · exact Nat.lt_trans ((Nat.log2_lt z).mpr (Nat.lt_trans h (by decide : 10 ^ 60 < 2 ^ 200))) (by decide)
mutual
theorem fit_facts : ∀ (n : Nat) (d : D), D.fit n d = true → d.okr = true ∧ d.py.showable = true ∧ d.py.depth ≤ n ∧ (d.noDc = true → d.py.hasDict = false)
  | n, .non, _ => by simp [D.okr, D.py, PyData.showable, PyData.depth, PyData.hasDict]
  | n, .bl b, _ => by simp [D.okr, D.py, PyData.showable, PyData.depth, PyData.hasDict]
  | n, .int i, h => by
    have h' : i.natAbs < 10 ^ 60 := by simpa [D.fit] using h
    have := log2_60 h'
    simp only [D.okr, D.py, PyData.showable, PyData.depth, PyData.hasDict]
    exact ⟨trivial, decide_eq_true this, Nat.zero_le _, fun _ => trivial⟩
  | n, .str x, _ => by simp [D.okr, D.py, PyData.showable, PyData.depth, PyData.hasDict]
  | 0, .lst _, h => by simp [D.fit] at h
  | 0, .tup _, h => by simp [D.fit] at h
  | 0, .dic _, h => by simp [D.fit] at h
  | n + 1, .lst ds, h => by
    obtain ⟨a, b, c, e⟩ := fits_facts n ds (by simpa [D.fit] using h)
    simp only [D.okr, D.py, PyData.showable, PyData.depth, PyData.hasDict, D.noDc]
    exact ⟨a, b, by omega, e⟩
  | n + 1, .tup ds, h => by
    obtain ⟨a, b, c, e⟩ := fits_facts n ds (by simpa [D.fit] using h)
    simp only [D.okr, D.py, PyData.showable, PyData.depth, PyData.hasDict, D.noDc]
    exact ⟨a, b, by omega, e⟩
  | n + 1, .dic es, h => by
    obtain ⟨a, b, c⟩ := fitk_facts n es (by simpa [D.fit] using h)
    simp only [D.okr, D.py, PyData.showable, PyData.depth, PyData.hasDict, D.noDc]
    exact ⟨a, b, by omega, fun z => absurd z Bool.false_ne_true⟩
  | _, .ref _, h => by simp [D.fit] at h
  | _, .ty _, h => by simp [D.fit] at h
  | _, .exc _ _, h => by simp [D.fit] at h
  | _, .cls _, h => by simp [D.fit] at h
theorem fits_facts : ∀ (n : Nat) (ds : List D), D.fits n ds = true → D.okrs ds = true ∧ PyData.showableAll (D.pys ds) = true ∧ PyData.depthAll (D.pys ds) ≤ n ∧ (D.noDcs ds = true → PyData.hasDictAll (D.pys ds) = false)
  | n, [], _ => by simp [D.okrs, D.pys, PyData.showableAll, PyData.depthAll, PyData.hasDictAll]
  | n, d :: ds, h => by
    simp only [D.fits, Bool.and_eq_true] at h
    obtain ⟨a, b, c, e⟩ := fit_facts n d h.1
    obtain ⟨a2, b2, c2, e2⟩ := fits_facts n ds h.2
    simp only [D.okrs, D.pys, PyData.showableAll, PyData.depthAll, PyData.hasDictAll, D.noDcs, Bool.and_eq_true, Bool.or_eq_false_iff]
    exact ⟨⟨a, a2⟩, ⟨b, b2⟩, by omega, fun z => ⟨e z.1, e2 z.2⟩⟩
theorem fitk_facts : ∀ (n : Nat) (es : List (Key × D)), D.fitk n es = true → D.okrk es = true ∧ PyData.showableKv (D.pyk es) = true ∧ PyData.depthKv (D.pyk es) ≤ n
  | n, [], _ => by simp [D.okrk, D.pyk, PyData.showableKv, PyData.depthKv]
  | n, (.inl i, d) :: es, h => by
    simp only [D.fitk, Bool.and_eq_true, decide_eq_true_eq] at h
    obtain ⟨a, b, c, e⟩ := fit_facts n d h.1.2
    obtain ⟨a2, b2, c2⟩ := fitk_facts n es h.2
    have l := log2_60 h.1.1
    simp only [D.okrk, D.pyk, PyData.showableKv, PyData.depthKv, PyData.showable, PyData.depth, Bool.and_eq_true]
    exact ⟨⟨a, a2⟩, ⟨⟨decide_eq_true l, b⟩, b2⟩, by omega⟩
  | n, (.inr x, d) :: es, h => by
    simp only [D.fitk, Bool.and_eq_true] at h
    obtain ⟨a, b, c, e⟩ := fit_facts n d h.1.2
    obtain ⟨a2, b2, c2⟩ := fitk_facts n es h.2
    simp only [D.okrk, D.pyk, PyData.showableKv, PyData.depthKv, PyData.showable, PyData.depth, Bool.and_eq_true]
    exact ⟨⟨a, a2⟩, ⟨⟨trivial, b⟩, b2⟩, by omega⟩
end
theorem Shw.of {n : Nat} {d : D} (h : D.fit n d = true) (hn : n ≤ 60) (hz : d.sz ≤ 16777216) (hd : d.noDc = true ∨ d.noSq = true) : Shw d := by
  obtain ⟨a, b, c, e⟩ := fit_facts n d h
  refine ⟨a, b, Nat.le_trans (shown_sz n d h) hz, by omega, fun z => ?_⟩
  rcases hd with hd | hd
  · rw [e hd] at z; cases z
  · exact hd
mutual
theorem fit_flat : ∀ (n : Nat) (d : D), D.fit n d = true → d.noDc = true → D.flat n d = true
  | _, .non, _, _ => by simp [D.flat]
  | _, .bl _, _, _ => by simp [D.flat]
  | _, .int _, _, _ => by simp [D.flat]
  | _, .str _, h, _ => by simpa [D.flat, D.fit] using h
  | 0, .lst _, h, _ => by simp [D.fit] at h
  | 0, .tup _, h, _ => by simp [D.fit] at h
  | _, .dic _, _, h => by simp [D.noDc] at h
  | n + 1, .lst ds, h, g => by
    simp only [D.flat]
    exact fits_flat n ds (by simpa [D.fit] using h) (by simpa [D.noDc] using g)
  | n + 1, .tup ds, h, g => by
    simp only [D.flat]
    exact fits_flat n ds (by simpa [D.fit] using h) (by simpa [D.noDc] using g)
  | _, .ref _, h, _ => by simp [D.fit] at h
  | _, .ty _, h, _ => by simp [D.fit] at h
  | _, .exc _ _, h, _ => by simp [D.fit] at h
  | _, .cls _, h, _ => by simp [D.fit] at h
theorem fits_flat : ∀ (n : Nat) (ds : List D), D.fits n ds = true → D.noDcs ds = true → D.flats n ds = true
  | _, [], _, _ => by simp [D.flats]
  | n, d :: ds, h, g => by
    simp only [D.fits, D.noDcs, Bool.and_eq_true] at h g
    simp only [D.flats, Bool.and_eq_true]
    exact ⟨fit_flat n d h.1 g.1, fits_flat n ds h.2 g.2⟩
end
/-! ### lists -/
section
variable {n : Nat} {a b : List D} {d : D}
theorem fits_iff : D.fits n a = true ↔ ∀ d ∈ a, D.fit n d = true := by
  induction a with
  | nil => simp [D.fits]
  | cons x a ih => simp only [D.fits, Bool.and_eq_true, ih, List.mem_cons, forall_eq_or_imp]
theorem noDcs_iff : D.noDcs a = true ↔ ∀ d ∈ a, D.noDc d = true := by
  induction a with
  | nil => simp [D.noDcs]
  | cons x a ih => simp only [D.noDcs, Bool.and_eq_true, ih, List.mem_cons, forall_eq_or_imp]
theorem szs_le {B : Nat} (h : ∀ d ∈ a, d.sz ≤ B) : D.szs a ≤ a.length * (B + 2) := by
  induction a with
  | nil => simp [D.szs]
  | cons x a ih =>
    have h1 := h x List.mem_cons_self
    have h2 := ih fun d hd => h d (List.mem_cons_of_mem _ hd)
    simp only [D.szs, List.length_cons, Nat.add_mul]
    omega
end
theorem cut_to {α : Type} {xs : List α} {k : Int} (h : 0 ≤ k) : cutD xs none (some k) = xs.take k.toNat := by
  obtain ⟨m, rfl⟩ := Int.eq_ofNat_of_zero_le h
  unfold cutD
  rw [HT.sIx_nat, HT.sIx_none, List.drop_zero, Nat.sub_zero, Int.toNat_natCast]
  exact (List.take_eq_take_min (l := xs) (i := m)).symm
theorem cut_from {α : Type} {xs : List α} {k : Int} (h : 0 ≤ k) : cutD xs (some k) none = xs.drop k.toNat := by
  obtain ⟨m, rfl⟩ := Int.eq_ofNat_of_zero_le h
  unfold cutD
  rw [HT.sIx_nat, HT.sIx_none, Int.toNat_natCast]
  by_cases z : m ≤ xs.length
  · rw [Nat.min_eq_left z, List.take_of_length_le (by rw [List.length_drop]; exact Nat.le_refl _)]
  · rw [Nat.min_eq_right (by omega), List.drop_length, List.drop_of_length_le (by omega), List.take_nil]
theorem atI_nat {α : Type} {xs : List α} {k : Nat} : L2.atI xs (k : Int) = xs[k]? := by
  unfold L2.atI L2.ixN
  rw [if_pos (by omega)]
  by_cases z : k < xs.length
  · rw [if_pos (by omega), Int.toNat_natCast]; rfl
  · rw [if_neg (by omega), List.getElem?_eq_none (by omega)]; rfl
theorem atI_in {α : Type} {xs : List α} {k : Int} (h : 0 ≤ k) (h2 : k < xs.length) : ∃ x, L2.atI xs k = some x ∧ x ∈ xs ∧ xs[k.toNat]? = some x := by
  obtain ⟨m, rfl⟩ := Int.eq_ofNat_of_zero_le h
  have hm : m < xs.length := by omega
  exact ⟨xs[m], by rw [atI_nat, List.getElem?_eq_getElem hm], List.getElem_mem hm, by rw [Int.toNat_natCast, List.getElem?_eq_getElem hm]⟩
/-- the subscript of a list by a drawn place -/
theorem gIx_lst {ds : List D} {k : Int} {Q : D → Prop} (h : 0 ≤ k) (h2 : k < ds.length) (hQ : ∀ d ∈ ds, Q d) : gIx (.lst ds) (.int k) Q := by
  obtain ⟨x, e, hx, _⟩ := atI_in h h2
  show (match L2.atI ds k with | some d => Q d | none => False)
  rw [e]
  exact hQ x hx
theorem gIx_tupE {ds : List D} {k : Nat} {x : D} {Q : D → Prop} (h : ds[k]? = some x) : gIx (.tup ds) (.int k) Q ↔ Q x := by
  show (match L2.atI ds (k : Int) with | some d => Q d | none => False) ↔ _
  rw [atI_nat, h]
theorem gIx_lstE {ds : List D} {k : Nat} {x : D} {Q : D → Prop} (h : ds[k]? = some x) : gIx (.lst ds) (.int k) Q ↔ Q x := by
  show (match L2.atI ds (k : Int) with | some d => Q d | none => False) ↔ _
  rw [atI_nat, h]
/-! ### kinds -/
def D.isI : D → Bool | .int _ => true | .bl _ => true | _ => false
def D.isB : D → Bool | .bl _ => true | _ => false
def D.isS : D → Bool | .str _ => true | _ => false
def D.isT : D → Bool | .tup _ => true | _ => false
theorem isD_i {x : D} : isD x "int" = x.isI := by cases x <;> rfl
theorem isD_b {x : D} : isD x "bool" = x.isB := by cases x <;> rfl
theorem isD_s {x : D} : isD x "str" = x.isS := by cases x <;> rfl
theorem isD_t {x : D} : isD x "tuple" = x.isT := by cases x <;> rfl
theorem fit_tyn : ∀ {k : Nat} {x : D}, D.fit k x = true → x.tyn.isSome = true
  | _, .non, _ => rfl
  | _, .bl _, _ => rfl
  | _, .int _, _ => rfl
  | _, .str _, _ => rfl
  | _, .lst _, _ => rfl
  | _, .tup _, _ => rfl
  | _, .dic _, _ => rfl
  | _, .ref _, h => by simp [D.fit] at h
  | _, .ty _, h => by simp [D.fit] at h
  | _, .exc _ _, h => by simp [D.fit] at h
  | _, .cls _, h => by simp [D.fit] at h
theorem ty_in : ("int" ∈ tyNames) ∧ ("bool" ∈ tyNames) ∧ ("str" ∈ tyNames) ∧ ("list" ∈ tyNames) ∧ ("tuple" ∈ tyNames) ∧ ("dict" ∈ tyNames) := by decide
theorem xIsiI {x : D} {Q : D → Prop} (h : x.tyn.isSome = true) : gIsi [x, .ty "int"] Q ↔ Q (.bl x.isI) := by rw [xIsi, isD_i]; exact ⟨fun h => h.2, fun q => ⟨⟨h, ty_in.1⟩, q⟩⟩
theorem xIsiB {x : D} {Q : D → Prop} (h : x.tyn.isSome = true) : gIsi [x, .ty "bool"] Q ↔ Q (.bl x.isB) := by rw [xIsi, isD_b]; exact ⟨fun h => h.2, fun q => ⟨⟨h, ty_in.2.1⟩, q⟩⟩
theorem xIsiS {x : D} {Q : D → Prop} (h : x.tyn.isSome = true) : gIsi [x, .ty "str"] Q ↔ Q (.bl x.isS) := by rw [xIsi, isD_s]; exact ⟨fun h => h.2, fun q => ⟨⟨h, ty_in.2.2.1⟩, q⟩⟩
theorem xIsiT {x : D} {Q : D → Prop} (h : x.tyn.isSome = true) : gIsi [x, .ty "tuple"] Q ↔ Q (.bl x.isT) := by rw [xIsi, isD_t]; exact ⟨fun h => h.2, fun q => ⟨⟨h, ty_in.2.2.2.2.1⟩, q⟩⟩
theorem xIx0T {x : D} {xs : List D} {Q : D → Prop} : gIx (.tup (x :: xs)) (.int 0) Q ↔ Q x := gIx_tupE (k := 0) rfl
theorem xIx1T {x y : D} {xs : List D} {Q : D → Prop} : gIx (.tup (x :: y :: xs)) (.int 1) Q ↔ Q y := gIx_tupE (k := 1) rfl
theorem xIx2T {x y z : D} {xs : List D} {Q : D → Prop} : gIx (.tup (x :: y :: z :: xs)) (.int 2) Q ↔ Q z := gIx_tupE (k := 2) rfl
theorem xIx3T {x y z w : D} {xs : List D} {Q : D → Prop} : gIx (.tup (x :: y :: z :: w :: xs)) (.int 3) Q ↔ Q w := gIx_tupE (k := 3) rfl
theorem xIx0L {x : D} {xs : List D} {Q : D → Prop} : gIx (.lst (x :: xs)) (.int 0) Q ↔ Q x := gIx_lstE (k := 0) rfl
theorem xIx1L {x y : D} {xs : List D} {Q : D → Prop} : gIx (.lst (x :: y :: xs)) (.int 1) Q ↔ Q y := gIx_lstE (k := 1) rfl
/-! ### comparisons of flat data -/
theorem eqv_str {a b : Str} : D.eqv (.str a) (.str b) = (a == b) := by simp [D.eqv]
theorem cq_flat {x y : D} (hx : D.flat 60 x = true) (hy : D.flat 60 y = true) : D.cq x y = true := by simp [D.cq, hx, hy]
theorem xEqF {x y : D} {Q : D → Prop} (hx : D.flat 60 x = true) (hy : D.flat 60 y = true) : gEqV x y Q ↔ Q (.bl (D.eqv x y)) := by
  have c := cq_flat hx hy
  have gen : (D.cq x y = true ∧ Q (.bl (D.eqv x y))) ↔ Q (.bl (D.eqv x y)) := ⟨fun h => h.2, fun h => ⟨c, h⟩⟩
  cases x <;> cases y <;> first
    | exact gen
    | (rw [eqv_str]; exact Iff.rfl)
theorem xInT {x : D} {ds : List D} {Q : D → Prop} (h : ∀ d ∈ ds, D.flat 60 d = true ∧ D.cq d x = true) : gIn x (.tup ds) Q ↔ Q (.bl (ds.any fun d => D.eqv d x)) := ⟨fun h => h.2, fun q => ⟨h, q⟩⟩
theorem xInL {x : D} {ds : List D} {Q : D → Prop} (h : ∀ d ∈ ds, D.flat 60 d = true ∧ D.cq d x = true) : gIn x (.lst ds) Q ↔ Q (.bl (ds.any fun d => D.eqv d x)) := ⟨fun h => h.2, fun q => ⟨h, q⟩⟩
/-- a text among texts -/
theorem strs_in {s : Str} {ws : List Str} (hs : PyData.strOk s = true) (hw : ws.all PyData.strOk = true) : ∀ d ∈ ws.map D.str, D.flat 60 d = true ∧ D.cq d (.str s) = true := fun d hd => by
  obtain ⟨w, hw2, rfl⟩ := List.mem_map.mp hd
  have a : D.flat 60 (.str w) = true := by simpa [D.flat] using List.all_eq_true.mp hw w hw2
  exact ⟨a, cq_flat a (by simpa [D.flat] using hs)⟩
end U

set_option Elab.async false
set_option linter.all false
set_option maxRecDepth 100000
set_option maxHeartbeats 4000000
/-! More rules: sums and the like, stores of several names, methods of own lists. -/
namespace U
open PySem PySem.Spec L2
open PyProof.Rows hiding St

def D.ints : List D → Option (List Int)
  | [] => some []
  | .int i :: r => (D.ints r).map (i :: ·)
  | _ :: _ => none
def D.bls : List D → Option (List Bool)
  | [] => some []
  | .bl i :: r => (D.bls r).map (i :: ·)
  | _ :: _ => none
theorem ints_eq : ∀ {ds : List D} {ns : List Int}, D.ints ds = some ns → ds = ns.map D.int
  | [], ns, h => by cases h; rfl
  | .int i :: r, ns, h => by
    have h' : (D.ints r).map (i :: ·) = some ns := h
    cases q : D.ints r with
    | none => rw [q] at h'; cases h'
    | some ms => rw [q] at h'; cases h'; rw [ints_eq q]; rfl
  | .non :: _, _, h => by cases h
  | .bl _ :: _, _, h => by cases h
  | .str _ :: _, _, h => by cases h
  | .lst _ :: _, _, h => by cases h
  | .tup _ :: _, _, h => by cases h
  | .dic _ :: _, _, h => by cases h
  | .ref _ :: _, _, h => by cases h
  | .ty _ :: _, _, h => by cases h
  | .exc _ _ :: _, _, h => by cases h
  | .cls _ :: _, _, h => by cases h
theorem bls_eq : ∀ {ds : List D} {ns : List Bool}, D.bls ds = some ns → ds = ns.map D.bl
  | [], ns, h => by cases h; rfl
  | .bl i :: r, ns, h => by
    have h' : (D.bls r).map (i :: ·) = some ns := h
    cases q : D.bls r with
    | none => rw [q] at h'; cases h'
    | some ms => rw [q] at h'; cases h'; rw [bls_eq q]; rfl
  | .non :: _, _, h => by cases h
  | .int _ :: _, _, h => by cases h
  | .str _ :: _, _, h => by cases h
  | .lst _ :: _, _, h => by cases h
  | .tup _ :: _, _, h => by cases h
  | .dic _ :: _, _, h => by cases h
  | .ref _ :: _, _, h => by cases h
  | .ty _ :: _, _, h => by cases h
  | .exc _ _ :: _, _, h => by cases h
  | .cls _ :: _, _, h => by cases h
theorem bls_map : ∀ ns : List Bool, D.bls (ns.map D.bl) = some ns
  | [] => rfl
  | n :: ns => by
    show (D.bls (ns.map D.bl)).map (n :: ·) = _
    rw [bls_map ns]; rfl
section
variable {K : PySem.W.Frag} {O : Ad} {H : Hp}
theorem rp_int_inv : ∀ {ns : List Int} {vs : List V}, RpA K O H vs (ns.map D.int) → vs = ns.map V.int
  | [], _, .nil => rfl
  | n :: ns, _, .cons h t => by
    cases h
    rw [rp_int_inv t]; rfl
theorem rp_bl_inv : ∀ {ns : List Bool} {vs : List V}, RpA K O H vs (ns.map D.bl) → vs = ns.map V.bl
  | [], _, .nil => rfl
  | n :: ns, _, .cons h t => by
    cases h
    rw [rp_bl_inv t]; rfl
end
def gAll : GL
  | [.lst ds], Q => match D.bls ds with
    | some ns => Q (.bl (ns.all id))
    | none => False
  | _, _ => False
section
variable {X : Cx}
theorem call_AllU (hc : X.calm = true) : CallR X (.builtin "all") (lCR X.K gAll) := by
  intro pins s σ H xs us Q I rx ⟨O, ds, P, tr, ha, hg, hP⟩
  unfold gAll at hg
  split at hg
  · split at hg
    · rename_i e
      cases bls_eq e
      cases ha with
      | cons h t =>
        cases t
        cases h with
        | lst l a =>
          cases rp_bl_inv a
          exact cr_all hc pins s σ H _ us Q I rx ⟨_, _, rfl, l.sq, hP _ hg _ _ (Same.refl _) (.bl _)⟩
    · exact hg.elim
  · exact hg.elim
variable {O0 : Ad} {H0 : Hp} {a b c e : Expr} {ua ub uc : UE} {pos p : Pos} {W : WU}
/-! ### several names -/
def uSet2 (i j : Nat) (u : UE) : US := fun E ρ => u ρ fun d n => E.nx (((ρ.f n).put i (.dat d)).put j (.dat d))
/-- a, b = x, y -/
def uPar (i j : Nat) (u : UA) : US := fun E ρ => u ρ fun ds n => match ds with
  | [d, e] => E.nx (((ρ.f n).put i (.dat d)).put j (.dat e))
  | _ => False
/-! ### methods of own lists that give nothing -/
def uOwnM (i : Nat) (f : List D → List D) : US := fun E ρ => match ρ.sl[i]? with
  | some (.own a (.l ds)) => E.nx (ρ.put i (.own a (f ds)))
  | _ => False
/-- x.extend(e), e a list -/
def uExt (i : Nat) (u : UE) : US := fun E ρ => match ρ.sl[i]? with
  | some (.own a (.l ds)) => u ρ fun d n => match d with
    | .lst es => ds.length + es.length ≤ sizeLine ∧ E.nx ((ρ.f n).put i (.own a (ds ++ es)))
    | _ => False
  | _ => False
end
end U

set_option Elab.async false
set_option linter.all false
set_option maxRecDepth 100000
set_option maxHeartbeats 4000000
/-! The readings of US step by step. -/
namespace U
open PySem PySem.Spec L2
open PyProof.Rows hiding St
section
variable {ρ : Ro} {sl : List Sl} {pn : PenT} {fu : Nat} {Q : D → Nat → Prop} {E : UEnds} {i j n m : Nat} {a b c : UE} {x y d : D} {ds es : List D} {ul : UA} {ad : Addr}
def kSet2 (i j : Nat) (E : UEnds) (ρ : Ro) : D → Nat → Prop := fun d n => E.nx (((ρ.f n).put i (.dat d)).put j (.dat d))
theorem sSet2 : uSet2 i j a E ρ = a ρ (kSet2 i j E ρ) := id rfl
theorem sSet21 : kSet2 i j E ⟨sl, pn, fu⟩ d n = E.nx ⟨(sl.set i (.dat d)).set j (.dat d), pn, n⟩ := id rfl
def kPar (i j : Nat) (E : UEnds) (ρ : Ro) : List D → Nat → Prop := fun ds n => match ds with
  | [d, e] => E.nx (((ρ.f n).put i (.dat d)).put j (.dat e))
  | _ => False
theorem sPar : uPar i j ul E ρ = ul ρ (kPar i j E ρ) := id rfl
theorem sPar1 : kPar i j E ⟨sl, pn, fu⟩ [x, y] n = E.nx ⟨(sl.set i (.dat x)).set j (.dat y), pn, n⟩ := id rfl
def kOwnM (i : Nat) (f : List D → List D) (E : UEnds) (ρ : Ro) : Option Sl → Prop
  | some (.own a (.l ds)) => E.nx (ρ.put i (.own a (f ds)))
  | _ => False
theorem sOwnM {f : List D → List D} : uOwnM i f E ρ = kOwnM i f E ρ ρ.sl[i]? := by
  unfold uOwnM kOwnM
  rfl
theorem sOwnM1 {f : List D → List D} : kOwnM i f E ⟨sl, pn, fu⟩ (some (.own ad ds)) = E.nx ⟨sl.set i (.own ad (f ds)), pn, fu⟩ := id rfl
def kExt2 (i : Nat) (a : Addr) (ds : List D) (E : UEnds) (ρ : Ro) : D → Nat → Prop := fun d n => match d with
  | .lst es => ds.length + es.length ≤ sizeLine ∧ E.nx ((ρ.f n).put i (.own a (ds ++ es)))
  | _ => False
def kExt (i : Nat) (u : UE) (E : UEnds) (ρ : Ro) : Option Sl → Prop
  | some (.own a (.l ds)) => u ρ (kExt2 i a ds E ρ)
  | _ => False
theorem sExt : uExt i a E ρ = kExt i a E ρ ρ.sl[i]? := by
  unfold uExt kExt kExt2
  rfl
theorem sExt1 : kExt i a E ρ (some (.own ad ds)) = a ρ (kExt2 i ad ds E ρ) := id rfl
theorem sExt2 : kExt2 i ad ds E ⟨sl, pn, fu⟩ (.lst es) n = (ds.length + es.length ≤ sizeLine ∧ E.nx ⟨sl.set i (.own ad (ds ++ es)), pn, n⟩) := id rfl
/-! while -/
def kWh (body : US) (I : Nat → Ro → Prop) (m : Nat) (E : UEnds) (ρ : Ro) : Bool → Nat → Prop := fun k n =>
  if k = true then body { E with nx := fun ρ' => ∃ m', m' < m ∧ I m' ρ', ct := fun ρ' => ∃ m', m' < m ∧ I m' ρ', bk := E.nx } (ρ.f n) else E.nx (ρ.f n)
theorem sWh1 {body : US} {I : Nat → Ro → Prop} : kWh body I m E ⟨sl, pn, fu⟩ true n = body { E with nx := fun ρ' => ∃ m', m' < m ∧ I m' ρ', ct := fun ρ' => ∃ m', m' < m ∧ I m' ρ', bk := E.nx } ⟨sl, pn, n⟩ := id rfl
theorem sWh2 {body : US} {I : Nat → Ro → Prop} : kWh body I m E ⟨sl, pn, fu⟩ false n = E.nx ⟨sl, pn, n⟩ := id rfl
/-! None or not -/
theorem xIsNI {z : Int} {Q : D → Prop} : gIs (.int z) .non Q = Q (.bl false) := id rfl
theorem xIsNNo {Q : D → Prop} : gIs .non .non Q = Q (.bl true) := id rfl
theorem xIsNotI {z : Int} {Q : D → Prop} : gIsNot (.int z) .non Q = Q (.bl true) := id rfl
theorem xIsNotNo {Q : D → Prop} : gIsNot .non .non Q = Q (.bl false) := id rfl
theorem xIsNotL {Q : D → Prop} : gIsNot (.lst ds) .non Q = Q (.bl true) := id rfl
theorem xIsNotT {Q : D → Prop} : gIsNot (.tup ds) .non Q = Q (.bl true) := id rfl
theorem xIsNotS {z : Str} {Q : D → Prop} : gIsNot (.str z) .non Q = Q (.bl true) := id rfl
theorem xIsS {z : Str} {Q : D → Prop} : gIs (.str z) .non Q = Q (.bl false) := id rfl
theorem xIsL {Q : D → Prop} : gIs (.lst ds) .non Q = Q (.bl false) := id rfl
theorem xIsT {Q : D → Prop} : gIs (.tup ds) .non Q = Q (.bl false) := id rfl
/-! sums -/
theorem xAll {ns : List Bool} {Q : D → Prop} : gAll [.lst (ns.map D.bl)] Q ↔ Q (.bl (ns.all id)) := by
  show (match D.bls (ns.map D.bl) with | some ns => Q (.bl (ns.all id)) | none => False) ↔ _
  rw [bls_map]
/-! large factors -/
/-- not an own list, no test: the pen's name -/
theorem isPen_of {dk : Bool} {p : Addr} {c : PenC} (hk : c.dk = dk) : isPen dk (some (p, c)) (.ref p) := ⟨p, c, rfl, hk, rfl⟩
end
end U

set_option Elab.async false
set_option linter.all false
set_option maxRecDepth 100000
set_option maxHeartbeats 4000000
/-! Small things: words among words, unlike flat data. -/
namespace U
open PySem PySem.Spec L2
open PyProof.Rows hiding St
theorem xNeF {x y : D} {Q : D → Prop} (hx : D.flat 60 x = true) (hy : D.flat 60 y = true) : gNe x y Q ↔ Q (.bl (!D.eqv x y)) := by
  have gen : ((D.flat 60 x = true ∧ D.flat 60 y = true) ∧ Q (.bl (!D.eqv x y))) ↔ Q (.bl (!D.eqv x y)) := ⟨fun h => h.2, fun h => ⟨⟨hx, hy⟩, h⟩⟩
  cases x <;> cases y <;> first
    | exact gen
    | (rw [eqv_str]; exact Iff.rfl)
theorem xNeS {i j : Str} {Q : D → Prop} : gNe (.str i) (.str j) Q ↔ Q (.bl (!(i == j))) := id Iff.rfl
theorem lim5 {n : Nat} (h : n ≤ 16000000) : n ≤ sizeLine := by rw [sizeLine_eq]; omega
theorem lim6 {n : Nat} (h : n < 16000000) : n < sizeLine := by rw [sizeLine_eq]; omega
theorem xRepr {d : D} {Q : D → Prop} : gRepr [d] Q = (Shw d ∧ Q (.str d.py.shown)) := id rfl
/-! ### more ways to go on -/
section
variable {sl : List Sl} {pn : PenT} {fu n : Nat} {T : Bool → Nat → Prop} {tb : UT} {b : Bool}
variable {s t : US} {E : UEnds} {k : Bool}
theorem ifT (h1 : k = true → s E ⟨sl, pn, n⟩) (h2 : k = false → t E ⟨sl, pn, n⟩) : kIf s t E ⟨sl, pn, fu⟩ k n := sIfk.mpr ⟨h1, h2⟩
variable {ug : UG} {tt : UT} {te : UE} {ds : List D} {vs : List Nat} {L : List D → Nat → Prop}
def kSel (te : UE) (ρ : Ro) (T1 : D → Nat → Prop) (F0 : Nat → Prop) : Bool → Nat → Prop := fun k j => if k = true then te (ρ.f j) T1 else F0 j
theorem kSel1 {T1 : D → Nat → Prop} {F0 : Nat → Prop} : kSel te ⟨sl, pn, fu⟩ T1 F0 true n = te ⟨sl, pn, n⟩ T1 := id rfl
theorem kSel2 {ρ : Ro} {T1 : D → Nat → Prop} {F0 : Nat → Prop} : kSel te ρ T1 F0 false n = F0 n := id rfl
/-- [f(d) for d in ds if p(d)] -/
theorem xFilt (p : D → Bool) (f : D → D) (h0 : ds.length ≤ sizeLine) (h1 : noOwn ⟨sl, pn, fu⟩ vs = true)
    (h : ∀ d ∈ ds, ∀ m (T1 : D → Nat → Prop) (F0 : Nat → Prop), (p d = true → T1 (f d) m) → (p d = false → F0 m) → ug d ⟨wipeS sl vs, pn, m⟩ fun ρ' => tt ρ' (kSel te ρ' T1 F0)) (hL : L ((ds.filter p).map f) n) : kComp vs ug tt te ⟨sl, pn, fu⟩ L ds n := by
  refine ⟨⟨h0, h1⟩, fun r acc m => m = n ∧ (∀ d ∈ r, d ∈ ds) ∧ acc ++ (r.filter p).map f = (ds.filter p).map f, ⟨rfl, fun _ h => h, rfl⟩, ?_, ?_⟩
  · rintro acc m ⟨rfl, _, e⟩
    rw [List.filter_nil, List.map_nil, List.append_nil] at e
    rw [e]
    exact hL
  · rintro d r acc m ⟨rfl, hin, e⟩
    have w : (wipeR ⟨sl, pn, fu⟩ vs).f m = ⟨wipeS sl vs, pn, m⟩ := by rw [wipeR_S]
    rw [w]
    refine h d (hin d List.mem_cons_self) m _ _ (fun hp => ⟨rfl, fun z hz => hin z (List.mem_cons_of_mem _ hz), ?_⟩) fun hp => ⟨rfl, fun z hz => hin z (List.mem_cons_of_mem _ hz), ?_⟩
    · rw [List.filter_cons, if_pos hp, List.map_cons] at e
      rw [← e]; simp
    · rw [List.filter_cons, if_neg (by rw [hp]; exact Bool.false_ne_true)] at e
      exact e
end
end U

set_option Elab.async false
set_option linter.all false
set_option maxRecDepth 100000
set_option maxHeartbeats 4000000
/-! enumerate of a tuple. -/
namespace U
open PySem PySem.Spec L2
open PyProof.Rows hiding St
section
variable {prog : Program} {w : World} {A : Around} {E : Value → Shared → Prop} {s : Shared}
end
section
variable {X : Cx} {O0 : Ad} {H0 : Hp} {e : Expr} {p pos : Pos}
/-- enumerate of a list or a tuple -/
def uiEn (u : UA) : UI := fun ρ Q => u ρ fun ds n => match ds with
  | [.lst ds] => Q (enumD 0 ds) n
  | [.tup ds] => Q (enumD 0 ds) n
  | _ => False
def kEn (L : List D → Nat → Prop) : List D → Nat → Prop := fun ds n => match ds with
  | [.lst ds] => L (enumD 0 ds) n
  | [.tup ds] => L (enumD 0 ds) n
  | _ => False
theorem iEn {ul : UA} {ρ : Ro} {L : List D → Nat → Prop} : uiEn ul ρ L = ul ρ (kEn L) := id rfl
theorem iEnL {ds : List D} {n : Nat} {L : List D → Nat → Prop} : kEn L [.lst ds] n = L (enumD 0 ds) n := id rfl
theorem iEnT {ds : List D} {n : Nat} {L : List D → Nat → Prop} : kEn L [.tup ds] n = L (enumD 0 ds) n := id rfl
end
end U

set_option Elab.async false
set_option linter.all false
set_option maxRecDepth 100000
set_option maxHeartbeats 4000000
/-! Defs that hand back a list that is no one else's. -/
namespace U
open PySem PySem.Spec L2
open PyProof.Rows hiding St
def uRetO (i : Nat) : US := fun E ρ => match ρ.sl[i]? with
  | some (.own _ (.l ds)) => E.rf ds ρ.fuel
  | _ => False
def uRetF (u : UF) : US := fun E ρ => u ρ E.rf
abbrev USpF := List D → PenT → Nat → (List D → Nat → Prop) → (UX → Nat → Prop) → Prop
/-- what such a def promises -/
def LSpF (K : PySem.W.Frag) (usp : USpF) : Sp := fun vs H Q E => ∃ (ds : List D) (O : Ad) (pen : PenT) (n : Nat) (P : List D → Nat → Prop) (PX : UX → Nat → Prop),
  RpA K O H vs ds ∧ (∀ b, O b → H b ≠ none) ∧ (∀ p, IsPen pen p → O p) ∧ Pen K O H pen n ∧ usp ds pen n P PX ∧
  (∀ es m, P es m → ∀ a H', H a = none → Frm pen H H' → Pen K (fun b => O b ∨ b = a) H' pen m → (∃ xs, H' a = some (.lst xs) ∧ RpA K (fun b => O b ∨ b = a) H' xs es) → Q (.ref a) H') ∧
  ∀ x m, PX x m → ∀ d H', Frm pen H H' → Pen K O H' pen m → XRp K O H' x d → E (x.cls.val K) d H'
section
variable {X : Cx} {O0 : Ad} {H0 : Hp} {a b c e : Expr} {ua ub uc : UE} {pos p : Pos} {W : WU}
def uCallF (usp : USpF) (W : WU) (a : UA) : UF := fun ρ Q => a ρ fun ds n => usp ds ρ.pen n Q fun x m => W x (ρ.f m)
def uCallFK (usp : USpF) (ix : List Nat) (W : WU) (a : UA) : UF := fun ρ Q => a ρ fun ds n => usp (perm .non ix ds) ρ.pen n Q fun x m => W x (ρ.f m)
structure FnF (P : Program) (w : World) (K : PySem.W.Frag) (mg : Str → Option Value) (base : Heap) (k : Nat) (x : Str) (st : Stmt) (ps : List Str) (usp : USpF) : Prop where
  ex : ∃ fd, FnG P w K mg base k (He.fAd K (x, none)) fd ps (LSpF K usp) ∧ Binds K fd ps [] ∧ PySem.W.keepIn K (.ref (He.fAd K (x, none))) = true ∧ FunD K x x (defArgs st) (defBody st) (defScope st) [] [] (He.fAd K (x, none)) fd
  gl : mg x = some (.ref (He.fAd K (x, none)))
/-- x[::-1], list(x), of lists and tuples, as new lists -/
def uRevF (a : UE) : UF := fun ρ Q => a ρ fun d n => match d with
  | .lst ds => Q ds.reverse n
  | _ => False
end
section
variable {P : Program} {w : World} {K : PySem.W.Frag} {mg : Str → Option Value} {base : Heap}
end
/-! ### step by step -/
section
variable {ρ : Ro} {sl : List Sl} {pn : PenT} {fu : Nat} {E : UEnds} {i n : Nat} {uf : UF} {ul : UA} {ds : List D} {ad : Addr} {L : List D → Nat → Prop} {W : WU} {usp : USpF} {ix : List Nat}
def kRetO (E : UEnds) (n : Nat) : Option Sl → Prop
  | some (.own _ (.l ds)) => E.rf ds n
  | _ => False
theorem sRetO : uRetO i E ρ = kRetO E ρ.fuel ρ.sl[i]? := by
  unfold uRetO kRetO
  rfl
theorem sRetO1 : kRetO E n (some (.own ad ds)) = E.rf ds n := id rfl
theorem sRetF : uRetF uf E ρ = uf ρ E.rf := id rfl
def kCallF (usp : USpF) (W : WU) (ρ : Ro) (L : List D → Nat → Prop) : List D → Nat → Prop := fun ds n => usp ds ρ.pen n L (kX W ρ)
def kCallFK (usp : USpF) (ix : List Nat) (W : WU) (ρ : Ro) (L : List D → Nat → Prop) : List D → Nat → Prop := fun ds n => usp (perm .non ix ds) ρ.pen n L (kX W ρ)
theorem xCallF : uCallF usp W ul ρ L = ul ρ (kCallF usp W ρ L) := id rfl
theorem xCallF1 : kCallF usp W ρ L ds n = usp ds ρ.pen n L (kX W ρ) := id rfl
theorem xCallFK : uCallFK usp ix W ul ρ L = ul ρ (kCallFK usp ix W ρ L) := id rfl
theorem xCallFK1 : kCallFK usp ix W ρ L ds n = usp (perm .non ix ds) ρ.pen n L (kX W ρ) := id rfl
end
end U

set_option Elab.async false
set_option linter.all false
set_option maxRecDepth 100000
set_option maxHeartbeats 4000000
/-! Exceptions over data: a clause of many classes, a caught exception that is kept. -/
namespace U
open PySem PySem.Spec L2
open PyProof.Rows hiding St

/-! ### excMatches, any number of classes -/
section
variable {M : Model} {K : PySem.W.Frag} {A : Around} {E : Value → Shared → Prop} {s : Shared}
theorem forIn_yes {α β : Type} {f : α → β → Sem (ForInStep β)} {b0 : β} : ∀ {cs : List α} {Q : β → Shared → Prop}, (∀ c ∈ cs, ∀ Q' : ForInStep β → Shared → Prop, Q' (.yield b0) s → wpAny M A (f c b0) Q' E s) → Q b0 s → wpAny M A (forIn cs b0 f) Q E s
  | [], Q, _, q => by
    rw [List.forIn_nil]
    exact wpAny_pure q
  | c :: cs, Q, h, q => by
    rw [List.forIn_cons]
    refine wpAny_bind (h c List.mem_cons_self _ ?_)
    exact forIn_yes (fun d hd => h d (List.mem_cons_of_mem _ hd)) q
theorem forIn_ret {α β : Type} {f : α → β → Sem (ForInStep β)} {b0 dn : β} {sub : α → Bool} : ∀ {cs : List α} {Q : β → Shared → Prop},
    (∀ c ∈ cs, ∀ Q' : ForInStep β → Shared → Prop, Q' (if sub c = true then .done dn else .yield b0) s → wpAny M A (f c b0) Q' E s) → Q (if cs.any sub = true then dn else b0) s → wpAny M A (forIn cs b0 f) Q E s
  | [], Q, _, q => by
    rw [List.forIn_nil]
    exact wpAny_pure q
  | c :: cs, Q, h, q => by
    rw [List.forIn_cons]
    refine wpAny_bind (h c List.mem_cons_self _ ?_)
    rw [List.any_cons] at q
    cases e : sub c with
    | true =>
      rw [e, Bool.true_or, if_pos rfl] at q
      rw [if_pos rfl]
      exact wpAny_pure q
    | false =>
      rw [e, Bool.false_or] at q
      rw [if_neg Bool.false_ne_true]
      exact forIn_ret (fun d hd => h d (List.mem_cons_of_mem _ hd)) q
theorem exm_tups {cs : List Value} {sub : Value → Bool} {cls : Value} {tp e : Addr} {h : Heap} (X : K.In h) (LT : PySem.W.Looks M h (typeOf (.ref e)) cls) (hp : h.get? tp = some { cls := .type "tuple", data := .seq cs.toArray })
    (hx : ∀ c ∈ cs, PySem.W.exmOne K cls c = some (sub c)) : PySem.W.Looks M h (excMatches (.ref e) (.ref tp)) (cs.any sub) := by
  intro A Q E s k₀ q
  obtain ⟨hh, g, d, tk, os⟩ := s
  have k : ∀ b o, h.get? b = some o → hh.get? b = some o := k₀
  have LT0 : PySem.W.Looks M h (isInstance (.ref tp) (.type "tuple")) true := ((PySem.W.Looks.ld hp).andThen .now).andThen (PySem.W.Looks.of_pure isSubtype_tuple_tuple)
  have LT := LT.keeps k
  have LT0 := LT0.keeps k
  have hp' := k _ _ hp
  unfold excMatches
  refine wpAny_bind (LT0.at ?_)
  dsimp only
  rw [if_pos rfl]
  first
    | refine wpAny_bind (wpAny_seqItems hp' rfl ?_)
    | refine wpAny_bind (wpAny_bind (wpAny_seqItems hp' rfl (wpAny_pure ?_)))
  dsimp only [Option.getD_some, Option.getD]
  refine wpAny_bind (wpAny_pure ?_)
  refine wpAny_bind (forIn_yes (fun c hc Q' q' => ?_) ?_)
  · have e1 := ((PySem.W.exm_cls (M := M) X (hx c hc)).1).keeps k
    refine wpAny_bind (e1.at ?_)
    simp only [Bool.not_true, Bool.false_eq_true, if_false]
    exact wpAny_pure q'
  · refine wpAny_bind (LT.at ?_)
    refine wpAny_bind (forIn_ret (sub := sub) (dn := (some true, ())) (fun c hc Q' q' => ?_) ?_)
    · have S1 := ((PySem.W.exm_cls (M := M) X (hx c hc)).2).keeps k
      refine wpAny_bind (S1.at ?_)
      cases e : sub c with
      | true =>
        rw [e, if_pos rfl] at q'
        simp only [if_true]
        exact wpAny_pure q'
      | false =>
        rw [e, if_neg Bool.false_ne_true] at q'
        simp only [Bool.false_eq_true, if_false]
        exact wpAny_pure q'
    · cases e : cs.any sub with
      | true =>
        rw [e] at q
        simp only [if_true]
        exact wpAny_pure q
      | false =>
        rw [e] at q
        simp only [Bool.false_eq_true, if_false]
        exact wpAny_pure q
end

/-! ### try, the exception kept -/
/-- the context of an except suite whose exception is tracked -/
abbrev held (X : Cx) (a : Addr) (pn : List (Addr × Obj)) : Cx := { X with A := X.A.mark (some (.ref a)), calm := false, pn := pn, xe := fun _ _ => False }
section
variable {X : Cx} {pins : List (Addr × Obj)} {σ : L2.St} {H : Hp} {s : Shared}
theorem ok_held (ok : X.Ok) (a : Addr) (pn : List (Addr × Obj)) : (held X a pn).Ok :=
  ⟨ok.mod, ok.kind, ok.glob, ok.blt, ok.above, ok.inj, ok.has, ok.cab, (fun z => absurd (show false = true from z) Bool.false_ne_true), ok.frames, ok.stk, ok.exf, ok.bs, ok.bsz, ok.noex, ok.exfs, ok.funs, ok.frf⟩
theorem inv_held (I : Inv X pins σ H s) (a : Addr) : Inv (held X a (X.pn ++ pins)) [] σ H s :=
  ⟨ok_held I.ok a _, I.os, I.bare, I.base, I.loc, I.cell, I.free, I.freeC, fun p hp => I.pin p (by rw [List.append_nil] at hp; exact hp), I.hok, I.len⟩
theorem inv_unheld {a : Addr} {pn' : List (Addr × Obj)} (I : Inv (held X a (X.pn ++ pins)) pn' σ H s) (ok : X.Ok) : Inv X pins σ H s :=
  ⟨ok, I.os, I.bare, I.base, I.loc, I.cell, I.free, I.freeC, fun p hp => I.pin p (List.mem_append_left _ hp), I.hok, I.len⟩
/-- back on the ground, the exception tracked -/
theorem landedK {B : Heap} {sI s' : Shared} {a : Addr} {cls : Value} {d : Option Addr} (I : Inv X pins σ H sI) (nb : ∀ b o, sI.heap.get? b = some o → b ∉ frs X.stack → B.get? b = some o) (nB : B.get? a = none) (nF : a ∉ frs X.stack)
    (st : B.StaysIn s'.heap) (up : sI.heap.UpToSlots s'.heap) (os : s'.os = sI.os) (ag : AllBare s'.gens) (na : H a = none)
    (he : ∃ oe vs, s'.heap.get? a = some oe ∧ Zc cls d oe ∧ oe.data = .fields vs) : Inv X pins σ (upd H a (ExH cls d a)) s' := by
  obtain ⟨G, g1, g2⟩ := restrict s'.heap fun b => decide (b ≠ a)
  have gk : ∀ b o, b ≠ a → s'.heap.get? b = some o → G.get? b = some o := fun b o hb e => by
    rw [g1 b (decide_eq_true hb)]
    exact e
  have ga : G.get? a = none := g2 a (decide_eq_false fun z => z rfl)
  have gs : ∀ b o, G.get? b = some o → s'.heap.get? b = some o := fun b o e => by
    by_cases hb : b = a
    · rw [hb, ga] at e
      cases e
    · rw [← g1 b (decide_eq_true hb)]
      exact e
  have sIa : sI.heap.get? a = none := by
    cases q : sI.heap.get? a with
    | none => rfl
    | some o =>
      have z := nb a o q nF
      rw [nB] at z
      cases z
  have J : Inv X pins σ H { s' with heap := G } := I.landed (s' := { s' with heap := G }) nb (fun b o e => gk b o (fun z => by rw [z, nB] at e; cases e) (st b o e))
    (fun b o e hnf => by
      obtain ⟨sl, q⟩ := up b o e hnf
      exact ⟨sl, gk b _ (fun z => by rw [z, sIa] at e; cases e) q⟩) os ag
  obtain ⟨oe, vs, e1, e2, e3⟩ := he
  exact J.laidN (h' := s'.heap) (t' := s'.toks) gs ga na (exH_ok e1 e2 e3)
end
/-- the classes that a clause names: one, or a tuple of them -/
inductive CTest (X : Cx) : Expr → List Value → Prop
  | one {x : Str} {c : Value} {p : Pos} : Names X x c → CTest X (.Name x p) [c]
  | tup {es : List Expr} {cs : List Value} {k : Nat} {p : Pos} : cs.length ≤ sizeLine → Paired (fun e c => ∃ x q, e = Expr.Name x q ∧ Names X x c) es cs → CTest X (.Tuple es k p) cs
section
variable {X : Cx} {n : Str} {i : Nat} {body suite : List Stmt} {b₀ : Stmt} {test : Expr} {cs : List Value} {pos pos' : Pos} {tb : WX → TS} {ts : Value → Option Addr → Addr → TS}
/-- what a clause 'except .. as n' wishes of an exception, one that it takes -/
def wKept (K : PySem.W.Frag) (cs : List Value) (i : Nat) (ts : Value → Option Addr → Addr → TS) (D : Ends) : WX := fun cls d σ H =>
  (∃ sub : Value → Bool, (∀ c ∈ cs, PySem.W.exmOne K cls c = some (sub c)) ∧ cs.any sub = true) ∧
  ∀ a, H a = none → ts cls d a { nx := fun σ' H' => D.nx (σ'.set i none) H', rt := D.rt, bk := fun σ' H' => D.bk (σ'.set i none) H', ct := fun σ' H' => D.ct (σ'.set i none) H' } (σ.set i (some (.ref a))) (upd H a (ExH cls d a))
theorem names_run {a : Addr} {pn pins : List (Addr × Obj)} {σ : L2.St} {H : Hp} {s : Shared} {E : Value → Shared → Prop} (I : Inv (held X a pn) pins σ H s) : ∀ {es : List Expr} {cs : List Value} {Q : List Value → Shared → Prop} {pos : Pos},
    Paired (fun e c => ∃ x q, e = Expr.Name x q ∧ Names X x c) es cs → Q cs s → wpAny (model X.prog X.w) (held X a pn).A (spliced (backTo pos (starEach es X.env))) Q E s
  | [], _, Q, pos, .nil, q => wpAny_items_nil q
  | _ :: es, c :: cs, Q, pos, .cons h t, q => by
    obtain ⟨x, p, rfl, hg, hdbg, hn⟩ := h
    refine wpAny_items_cons ?_
    have go : wpAny (model X.prog X.w) (held X a pn).A (spliced (backTo pos (starEach es X.env))) (fun vs s2 => Q (c :: vs) s2) E s := names_run I t q
    rcases hn with hm | ⟨hm, hv, hnn⟩
    · exact ld_glob (X := held X a pn) I hg hm go hdbg
    · exact ld_blt (X := held X a pn) I hg hm hv go hnn hdbg
theorem ps_try_kept (hs : X.stack = X.env :: X.outer) (hf : X.env.frame = some X.env.locals) (hN : X.N.Nodup) (hi : X.N[i]? = some n) (hln : X.env.kindOf n = some .local) (hc : CTest X test cs)
    (hb : ∀ (W : WX) (pn : List (Addr × Obj)) (xe : Value → Shared → Prop), Takes (X.tr pn xe) W → PassesOwn (model X.prog X.w) X.A X.env xe → PSs (X.tr pn xe) body (tb W))
    (hsu : ∀ (cls : Value) (d : Option Addr) (a : Addr) (pn : List (Addr × Obj)), PSs (held X a pn) (b₀ :: suite) (ts cls d a)) :
    PS X (.Try body [.ExceptHandler (some test) (some n) (b₀ :: suite) pos'] [] [] pos) (fun D σ H => tb (wKept X.K cs i ts D) D σ H) := by
  refine ⟨fun pins s σ H D I h => ?_⟩
  have ok := I.ok
  have hfr : X.A.frames = some (X.env :: X.outer) := by rw [ok.frames, hs]
  have hloc : Loc X.env.scope n := .inl hln
  refine wpAny_Try_except ?_
  refine wpAny_mono ((hb (wKept X.K cs i ts D) (X.pn ++ pins) (fun e s₁ => wpAny (model X.prog X.w) X.A (noteFrame e X.env) (fun _ s₂ => wpAny (model X.prog X.w) X.A (setFlight e none) (fun _ s₃ =>
    wpAny (model X.prog X.w) X.A (handleBy e X.env [.ExceptHandler (some test) (some n) (b₀ :: suite) pos']) (SP X pins D) X.xe s₃) X.xe s₂) X.xe s₁) (fun u s' xx => ?_) PassesOwn.looking).run [] s σ H D (I.toTry _) h) (fun f s1 hsp => ?_) (fun e s1 he => he)
  · obtain ⟨a, B, sI, pins', σ', H', cls, d, rfl, J', nb, up, sky, na, os, ag, ⟨sub, hx, hany⟩, hyes⟩ := xx
    have J : Inv X pins σ' H' sI := J'.ofTry ok
    have sky' : Sky B (X.env :: X.outer) a (Zc cls d) X.env.locals s'.heap := by rw [← hs]; exact sky
    show wpAny (model X.prog X.w) X.A (noteFrame (.ref a) X.env) _ _ _
    refine Sky.land Zc.steady hfr hf sky' fun h3 fl3 up3 => ?_
    have notFr : ∀ {h : Heap} {o : Obj} {vs : Array Value}, h.FunFrames B (X.env :: X.outer) → h.get? a = some o → o.data = .fields vs → a ∉ frs (X.env :: X.outer) := fun {h o vs} ff e dd hm => by
      obtain ⟨_, o', e', hnf⟩ := ff.mem hm
      rw [e] at e'; cases e'
      exact hnf _ dd
    obtain ⟨oe3, vs3, he3, hz3, hd3⟩ := fl3.there
    have nfr : a ∉ frs X.stack := by rw [hs]; exact notFr fl3.2.2.1 he3 hd3
    have land : ∀ h4 t4, HandSPX.FlyingZ B (X.env :: X.outer) a (Zc cls d) h4 → sI.heap.UpToSlots h4 → Inv X pins σ' (upd H' a (ExH cls d a)) { s' with heap := h4, toks := t4 } := fun h4 t4 fl4 up4 =>
      landedK (s' := { s' with heap := h4, toks := t4 }) J nb fl4.2.1 nfr fl4.1 up4 os ag na fl4.there
    have S3 := inv_held (land h3 s'.toks fl3 (up.trans up3)) a
    have LT : ∀ {h : Heap}, h.get? a = some oe3 → PySem.W.Looks (model X.prog X.w) h (typeOf (.ref a)) cls := fun he A Q E s k q => wpAny_typeOf_ref (k _ _ he) (by rw [hz3.1]; exact q)
    refine wpAny_handleBy_cons (codeAny_handlers_test ?_) (by intro q; cases q)
    have after : ∀ (h4 : Heap), HandSPX.FlyingZ B (X.env :: X.outer) a (Zc cls d) h4 → sI.heap.UpToSlots h4 →
        codeAny (model X.prog X.w) (X.A.mark (some (.ref a))) (.handlers (.ref a) [.ExceptHandler none (some n) (b₀ :: suite) pos'] X.env) (fun r s₂ => match r with
          | .ok f => wpAny (model X.prog X.w) X.A (do bindName X.env n .none; unbindBehindTheSuite X.env n pos') (fun _ s₃ => SP X pins D f s₃) X.xe s₂
          | .error x => cameBackBy (model X.prog X.w) X.A X.env X.xe x s₂) { s' with heap := h4 } := fun h4 fl4 up4 => by
      refine codeAny_handlers_suite_as ?_
      refine HandSPX.lands_againZ fl4 fun h5 fl5 up5 => ?_
      have S5 := inv_held (land h5 s'.toks fl5 (up4.trans up5)) a
      refine store_ok (X := held X a (X.pn ++ pins)) (v := .ref a) S5 hN hi hloc rfl (fun s6 S6 => ?_) (.inr hln)
      refine wpAny_mono ((hsu cls d a (X.pn ++ pins)).run [] s6 _ _ _ S6 (hyes a na)) (fun f s7 hsp => ?_) (fun _ _ z => False.elim z)
      have end_ : ∀ {σ6 : L2.St} {H6 : Hp} {Q : Shared → Prop}, Inv (held X a (X.pn ++ pins)) [] σ6 H6 s7 → (∀ s8, Inv X pins (σ6.set i none) H6 s8 → Q s8) →
          wpAny (model X.prog X.w) X.A (do bindName X.env n .none; unbindBehindTheSuite X.env n pos') (fun _ s8 => Q s8) X.xe s7 := fun {σ6 H6 Q} S6 hq => gone_ok (inv_unheld S6 ok) hN hi hln hq
      cases f with
      | next =>
        obtain ⟨σ6, H6, S6, q6⟩ := hsp
        exact end_ S6 fun s7 J7 => ⟨_, _, J7, q6⟩
      | brk =>
        obtain ⟨σ6, H6, S6, q6⟩ := hsp
        exact end_ S6 fun s7 J7 => ⟨_, _, J7, q6⟩
      | cont =>
        obtain ⟨σ6, H6, S6, q6⟩ := hsp
        exact end_ S6 fun s7 J7 => ⟨_, _, J7, q6⟩
      | ret u =>
        obtain ⟨v6, σ6, H6, S6, r6, q6⟩ := hsp
        exact end_ S6 fun s7 J7 => ⟨_, _, _, J7, r6, q6⟩
    cases hc with
    | @one x c p hn =>
      have hb1 := hx c List.mem_cons_self
      have e1 : sub c = true := by simpa using hany
      rw [e1] at hb1
      have LM := PySem.W.exm_one (M := model X.prog X.w) S3.kIn (LT he3) hb1
      have fin := after h3 fl3 (up.trans up3)
      obtain ⟨hg, hdbg, hm | ⟨hm, hv, hnn⟩⟩ := hn
      · refine ld_glob (X := held X a (X.pn ++ pins)) S3 hg hm (LM.here ?_) hdbg
        exact fin
      · refine ld_blt (X := held X a (X.pn ++ pins)) S3 hg hm hv (LM.here ?_) hnn hdbg
        exact fin
    | @tup es cs k p hz hp =>
      refine wpAny_Tuple ?_
      refine names_run (X := X) (a := a) S3 hp ⟨hz, ?_⟩
      have kp : ∀ b o, h3.get? b = some o → (h3.push { cls := .type "tuple", data := .seq cs.toArray }).get? b = some o := fun _ _ z => Heap.get?_push_of_some _ z
      have LM := exm_tups (M := model X.prog X.w) (S3.kIn.keeps kp) (LT (kp _ _ he3)) (Heap.get?_push_size h3 rfl) hx
      rw [hany] at LM
      refine LM.here ?_
      have fl4 : HandSPX.FlyingZ B (X.env :: X.outer) a (Zc cls d) (h3.push { cls := .type "tuple", data := .seq cs.toArray }) := by
        obtain ⟨f1, f2, f3, oe, ws, T, oT, ts', q1, q2, q3, q4, q5, q6, q7, q8, q9⟩ := fl3
        exact ⟨fun b o q => kp b o (f1 b o q), f2, f3.of_keeps fun b o q _ => ⟨o, kp b o q, rfl⟩, oe, ws, T, oT, ts', kp _ _ q1, q2, q3, q4, q5, q6, kp _ _ q7, q8, q9⟩
      exact after _ fl4 ((up.trans up3).trans (Heap.UpToSlots.of_keeps kp))
  · cases f with
    | next =>
      obtain ⟨σ', H', J', q⟩ := hsp
      exact wpAny_execs_nil ⟨σ', H', J'.ofTry ok, q⟩
    | brk =>
      obtain ⟨σ', H', J', q⟩ := hsp
      exact ⟨σ', H', J'.ofTry ok, q⟩
    | cont =>
      obtain ⟨σ', H', J', q⟩ := hsp
      exact ⟨σ', H', J'.ofTry ok, q⟩
    | ret u =>
      obtain ⟨v, σ', H', J', r, q⟩ := hsp
      exact ⟨v, σ', H', J'.ofTry ok, r, q⟩
end
end U

set_option Elab.async false
set_option linter.all false
set_option maxRecDepth 100000
set_option maxHeartbeats 4000000
/-! raise, try, isinstance of exceptions, over data; the facts about classes. -/
namespace U
open PySem PySem.Spec L2
open PyProof.Rows hiding St

/-! ### try -/
def noOwns : List Sl → Bool
  | [] => true
  | .emp :: r => noOwns r
  | .dat _ :: r => noOwns r
  | .own _ _ :: _ => false
  | .tre _ _ :: _ => false
theorem noOwns_ok : ∀ {sl : List Sl}, noOwns sl = true → ∀ (i : Nat) a ds, sl[i]? ≠ some (.own a ds)
  | [], _, i, a, ds, e => by simp at e
  | .emp :: r, h, i, a, ds, e => by
    cases i with
    | zero => simp at e
    | succ i => exact noOwns_ok (sl := r) h i a ds (by simpa using e)
  | .dat _ :: r, h, i, a, ds, e => by
    cases i with
    | zero => simp at e
    | succ i => exact noOwns_ok (sl := r) h i a ds (by simpa using e)
  | .own _ _ :: _, h, _, _, _, _ => by cases h
  | .tre _ _ :: _, h, _, _, _, _ => by cases h
theorem noOwns_tre : ∀ {sl : List Sl}, noOwns sl = true → ∀ (i : Nat) as d, sl[i]? ≠ some (.tre as d)
  | [], _, i, a, ds, e => by simp at e
  | .emp :: r, h, i, a, ds, e => by
    cases i with
    | zero => simp at e
    | succ i => exact noOwns_tre (sl := r) h i a ds (by simpa using e)
  | .dat _ :: r, h, i, a, ds, e => by
    cases i with
    | zero => simp at e
    | succ i => exact noOwns_tre (sl := r) h i a ds (by simpa using e)
  | .own _ _ :: _, h, _, _, _, _ => by cases h
  | .tre _ _ :: _, h, _, _, _, _ => by cases h
/-- what stands behind the suite: the exception's name is gone -/
def behindX (i : Nat) (E : UEnds) : UEnds := { E with nx := fun ρ2 => E.nx (ρ2.put i .emp), bk := fun ρ2 => E.bk (ρ2.put i .emp), ct := fun ρ2 => E.ct (ρ2.put i .emp) }
def uTry (m : Cn → Bool) (i : Nat) (ub : WU → US) (us : US) : US := fun E ρ => noOwns ρ.sl = true ∧
  ub (fun x ρ1 => ρ1.pen = ρ.pen ∧ m x.cls = true ∧ us (behindX i E) (ρ1.put i (.dat (.exc x.cls (x.fld.getD []))))) E ρ
def uRaise (c : Cn) (W : WU) : US := fun _ ρ => W ⟨c, none⟩ ρ
section
variable {K : PySem.W.Frag} {O0 : Ad} {H0 H H' : Hp} {σ σ' : L2.St} {ρ ρ' : Ro}
theorem R.rebaseF {pen : PenT} (f : Frm pen H0 H) (r1 : R K O0 H σ' H' ρ') (e : ρ'.pen = pen) : R K O0 H0 σ' H' ρ' := by
  have back : ∀ {a : Addr}, ¬ IsPen ρ'.pen a → H a = none → H0 a = none := fun {a} h4 h3 => by
    cases q : H0 a with
    | none => rfl
    | some o =>
      have z := f a o q (by rw [← e]; exact h4)
      rw [h3] at z
      cases z
  exact {
    len := r1.len
    dat := r1.dat
    own := fun i a ds h => let ⟨h1, h2, h3, h4, h5⟩ := r1.own i a ds h; ⟨h1, h2, back h4 h3, h4, h5⟩
    inj := r1.inj
    fr := by
      rw [← e] at f
      exact f.trans r1.fr
    tr := r1.tr
    pen := r1.pen
    tre := fun i as d h => let ⟨h1, h2, h3⟩ := r1.tre i as d h; ⟨h1, fun b q => let ⟨k1, k2, k3, k4⟩ := h2 b q; ⟨k1, back k3 k2, k3, k4⟩, h3⟩ }
theorem R.rebase (r : R K O0 H0 σ H ρ) (r1 : R K O0 H σ' H' ρ') (e : ρ'.pen = ρ.pen) : R K O0 H0 σ' H' ρ' := r1.rebaseF r.fr e
theorem R.base (r : R K O0 H0 σ H ρ) (h : noOwns ρ.sl = true) : R K O0 H σ H ρ where
  len := r.len
  dat := r.dat
  own := fun i a ds e => absurd e (noOwns_ok h i a ds)
  inj := r.inj
  fr := Frm.refl
  tr := r.tr
  pen := r.pen
  tre := Trees.none (noOwns_tre h)
theorem R.trOf (r : R K O0 H0 σ H ρ) (r1 : R K O0 H σ' H' ρ') (e : ρ'.pen = ρ.pen) : Tr O0 ρ H ρ' H' := by
  refine ⟨⟨fun b o h n => r1.fr b o h fun z => n (.inr (.inl (by rw [← e]; exact z))), fun b o h n z => ?_⟩, e⟩
  rcases z with z | z | ⟨i, ds, z⟩ | ⟨i, as, d, z, m⟩
  · exact n (.inl z)
  · exact n (.inr (.inl (by rw [← e]; exact z)))
  · obtain ⟨_, _, h3, _⟩ := r1.own i b ds z
    rw [h3] at h
    cases h
  · rw [((r1.tre i as d z).2.1 b m).2.1] at h
    cases h
theorem RtOk.base {pen : PenT} {E : UEnds} {D : Ends} (h : RtOk K O0 H0 pen E D) (f : Frm pen H0 H) (p : ∀ b, IsPen pen b → H b ≠ none) : RtOk K O0 H pen E D where
  d := fun d n hd v H' fr pn rp => h.d d n hd v H' (f.trans fr) pn rp
  f := fun ds n hd a H' ha fr pn hx => h.f ds n hd a H' (by
    cases q : H0 a with
    | none => rfl
    | some o =>
      by_cases z : IsPen pen a
      · exact absurd ha (p a z)
      · have w := f a o q z
        rw [ha] at w
        cases w) (f.trans fr) pn hx
  n := fun x ρ' hx e σ' v H' rv => h.n x ρ' hx e σ' v H' (by
    cases x with
    | dat d => exact ⟨rv.1.rebaseF f e, rv.2⟩
    | new as d =>
      obtain ⟨r1, n1, n3⟩ := rv
      refine ⟨r1.rebaseF f e, n1, fun b q => ?_⟩
      obtain ⟨k1, k2, k3⟩ := n3 b q
      refine ⟨k1, ?_, k3⟩
      cases w : H0 b with
      | none => rfl
      | some o =>
        have := f b o w (fun z => k1 (OO.pen b (by rw [e]; exact z)))
        rw [k2] at this
        cases this)
theorem XRp.rp {x : UX} {d : Option Addr} {a : Addr} {O : Ad} (h : XRp K O H x d) (na : H a = none) (nO : ¬ O a) : Rp K O (upd H a (ExH (x.cls.val K) d a)) (.ref a) (.exc x.cls (x.fld.getD [])) := by
  unfold XRp at h
  split at h
  · rename_i e
    subst h
    rw [e]
    exact .exc nO upd_same
  · rename_i fs e
    obtain ⟨dx, vs, rfl, n, hdx, rf⟩ := h
    rw [e]
    exact .excf nO upd_same n (by rw [upd_ne (ne_of_none hdx na)]; exact hdx) (rf.keep (.same (Same.new na)))
end
section
variable {X : Cx} {O0 : Ad} {H0 : Hp} {n : Str} {i : Nat} {body suite : List Stmt} {b₀ : Stmt} {test : Expr} {cs : List Value} {pos pos' : Pos} {ub : WU → US} {us : US} {m : Cn → Bool}
end

/-! ### the classes -/
/-- own classes, each with all that stand above it -/
abbrev XT := List (Str × List Cn)
def subC (T : XT) (c d : Cn) : Bool := decide (c = d) || match c with
  | .own x => ((T.lookup x).getD []).contains d
  | .blt _ => false
def excB (K : PySem.W.Frag) (D : Addr) : Bool := decide (PySem.W.findIn K (.ref D) "__getattribute__" = some (some (.builtin "BaseException.__getattribute__"))) && (decide (PySem.W.findIn K (.ref D) "__getattr__" = some none) &&
  (decide (PySem.W.subIn K (.ref D) (.type "BaseException") = some true) && (PySem.W.hasDictIn K D && (decide (PySem.W.findIn K (.ref D) "__class__" = some (some (.builtin "object.__class__"))) &&
  (decide (PySem.W.specialIn K (.builtin "object.__class__") "__get__" = some (some (.builtin "getset_descriptor.__get__"))) && (decide (PySem.W.takesIn K (.builtin "object.__class__") = some true) && decide (PySem.W.mroIn K D (.type "object") = some true)))))))
theorem excB_ok {K : PySem.W.Frag} {D : Addr} (h : excB K D = true) : ExcC K D := by
  obtain ⟨h1, h⟩ := Bool.and_eq_true_iff.mp h
  obtain ⟨h2, h⟩ := Bool.and_eq_true_iff.mp h
  obtain ⟨h3, h⟩ := Bool.and_eq_true_iff.mp h
  obtain ⟨h4, h⟩ := Bool.and_eq_true_iff.mp h
  obtain ⟨h5, h⟩ := Bool.and_eq_true_iff.mp h
  obtain ⟨h6, h⟩ := Bool.and_eq_true_iff.mp h
  obtain ⟨h7, h8⟩ := Bool.and_eq_true_iff.mp h
  exact ⟨of_decide_eq_true h1, of_decide_eq_true h2, of_decide_eq_true h3, h4, of_decide_eq_true h5, of_decide_eq_true h6, of_decide_eq_true h7, of_decide_eq_true h8⟩
/-- c is told of -/
def inX (T : XT) (bs : List String) : Cn → Bool
  | .own x => T.any fun p => decide (p.1 = x)
  | .blt n => bs.contains n
def pairB (K : PySem.W.Frag) (T : XT) (x : Str) (d : Cn) : Bool := decide (PySem.W.kitOne K (.ref (He.ga K x)) (d.val K) = some (subC T (.own x) d)) && decide (PySem.W.exmOne K (.ref (He.ga K x)) (d.val K) = some (subC T (.own x) d))
def xfB (K : PySem.W.Frag) (T : XT) (bs : List String) : Bool := T.all fun p => excB K (He.ga K p.1) && ((T.all fun q => pairB K T p.1 (.own q.1)) && bs.all fun n => pairB K T p.1 (.blt n))
structure XF (K : PySem.W.Frag) (T : XT) (bs : List String) : Prop where
  c : ∀ x, inX T bs (.own x) = true → ExcC K (He.ga K x)
  kit : ∀ x d, inX T bs (.own x) = true → inX T bs d = true → PySem.W.kitOne K (.ref (He.ga K x)) (d.val K) = some (subC T (.own x) d)
  exm : ∀ x d, inX T bs (.own x) = true → inX T bs d = true → PySem.W.exmOne K (.ref (He.ga K x)) (d.val K) = some (subC T (.own x) d)
theorem xfB_ok {K : PySem.W.Frag} {T : XT} {bs : List String} (h : xfB K T bs = true) : XF K T bs := by
  have at_ : ∀ x, inX T bs (.own x) = true → excB K (He.ga K x) = true ∧ ∀ d, inX T bs d = true → pairB K T x d = true := fun x hx => by
    obtain ⟨p, hp, e⟩ := List.any_eq_true.mp hx
    have e := of_decide_eq_true e
    subst e
    obtain ⟨h1, h2⟩ := Bool.and_eq_true_iff.mp (List.all_eq_true.mp h p hp)
    obtain ⟨h3, h4⟩ := Bool.and_eq_true_iff.mp h2
    refine ⟨h1, fun d hd => ?_⟩
    cases d with
    | own y =>
      obtain ⟨q, hq, e⟩ := List.any_eq_true.mp hd
      have e := of_decide_eq_true e
      subst e
      exact List.all_eq_true.mp h3 q hq
    | blt n => exact List.all_eq_true.mp h4 n (List.contains_iff_mem.mp hd)
  refine ⟨fun x hx => excB_ok (at_ x hx).1, fun x d hx hd => ?_, fun x d hx hd => ?_⟩
  · exact of_decide_eq_true (Bool.and_eq_true_iff.mp ((at_ x hx).2 d hd)).1
  · exact of_decide_eq_true (Bool.and_eq_true_iff.mp ((at_ x hx).2 d hd)).2
/-- what a clause of these classes takes -/
def takesX (T : XT) (bs : List String) (ks : List Cn) : Cn → Bool
  | .own x => inX T bs (.own x) && (ks.all (inX T bs) && ks.any (subC T (.own x)))
  | .blt _ => false
theorem takesX_ok {K : PySem.W.Frag} {T : XT} {bs : List String} {ks : List Cn} (F : XF K T bs) (c : Cn) (h : takesX T bs ks c = true) :
    ∃ sub : Value → Bool, (∀ k ∈ ks.map (Cn.val K), PySem.W.exmOne K (c.val K) k = some (sub k)) ∧ (ks.map (Cn.val K)).any sub = true := by
  cases c with
  | blt n => cases h
  | own x =>
    obtain ⟨h1, h⟩ := Bool.and_eq_true_iff.mp h
    obtain ⟨h2, h3⟩ := Bool.and_eq_true_iff.mp h
    have ex : ∀ k ∈ ks, PySem.W.exmOne K (.ref (He.ga K x)) (k.val K) = some (subC T (.own x) k) := fun k hk => F.exm x k h1 (List.all_eq_true.mp h2 k hk)
    refine ⟨fun v => (PySem.W.exmOne K (.ref (He.ga K x)) v).getD false, fun v hv => ?_, ?_⟩
    · obtain ⟨k, hk, rfl⟩ := List.mem_map.mp hv
      show _ = some ((PySem.W.exmOne K (.ref (He.ga K x)) (k.val K)).getD false)
      rw [ex k hk]
      exact ex k hk
    · obtain ⟨k, hk, e⟩ := List.any_eq_true.mp h3
      refine List.any_eq_true.mpr ⟨k.val K, List.mem_map.mpr ⟨k, hk, rfl⟩, ?_⟩
      show (PySem.W.exmOne K (.ref (He.ga K x)) (k.val K)).getD false = true
      rw [ex k hk]
      exact e
end U

set_option Elab.async false
set_option linter.all false
set_option maxRecDepth 100000
set_option maxHeartbeats 4000000
/-! isinstance of exceptions, their fields; the head with facts about classes. -/
namespace UXc
open PySem PySem.W PySem.Spec PySem.Calls PyProof.Rows
section
variable {prog : Program} {w : World} {A : Around} {E : Value → Shared → Prop} {s : Shared} {K : Frag} {x D : Addr} {ox : Obj} {od : Option Obj}
theorem findObj_dataD {C : Addr} {name : Str} {a g : Value} (hc : (clsIn K C).isSome = true) (ha : findIn K (.ref C) name = some (some a)) (hg : specialIn K a "__get__" = some (some g)) (ht : takesIn K a = some true) : findObj K C od name = some (.bind g a) := by
  obtain ⟨cd, hc⟩ := Option.isSome_iff_exists.mp hc
  unfold findObj
  rw [hc, Option.bind_some, ha, Option.bind_some]
  simp [hg, ht]
theorem kin_classD {Q : Option Value → Shared → Prop} (hga : findIn K (.ref D) "__getattribute__" = some (some (.builtin "BaseException.__getattribute__"))) (hgt : findIn K (.ref D) "__getattr__" = some none) (hsub : subIn K (.ref D) (.type "BaseException") = some true)
    (hdct : hasDictIn K D = true) (ha : findIn K (.ref D) "__class__" = some (some (.builtin "object.__class__")))
    (hn : specialIn K (.builtin "object.__class__") "__get__" = some (some (.builtin "getset_descriptor.__get__"))) (htk : takesIn K (.builtin "object.__class__") = some true) (hm : mroIn K D (.type "object") = some true)
    (X : K.In s.heap) (I : InstAt s.heap x ox D od) (h : Q (some (.ref D)) { s with toks := s.toks + 1 }) : wpAny (model prog w) A (getAttr? (.ref x) "__class__") Q E s := by
  have hf : findObj K D od "__class__" = some (.bind (.builtin "getset_descriptor.__get__") (.builtin "object.__class__")) := findObj_dataD (by obtain ⟨cd, hc, _⟩ := any_some hdct; rw [hc]; rfl) ha hn htk
  obtain ⟨hp, g, d, t, os⟩ := s
  have L0 := I.type (M := model prog w)
  have L1 := looks_findIn (M := model prog w) X hga
  have L2 := looks_findIn (M := model prog w) X hgt
  have L3 := looks_find (M := model prog w) X I hf
  have sub : Looks (model prog w) hp (isInstance (.ref x) (.type "BaseException")) true := L0.andThen (looks_subIn X hsub)
  have hx0 : (false && onTheHeap (Value.builtin "BaseException.__getattribute__")) = false := rfl
  have hx2 : (Value.builtin "BaseException.__getattribute__" == Value.builtin "object.__getattribute__") = false := by decide +kernel
  have hx1 : (onTheHeap (Value.ref D) && Value.builtin "BaseException.__getattribute__" == Value.builtin "object.__getattribute__") = false := by rw [hx2]; rfl
  unfold getAttr? getAttrBy? getAttrBy
  refine wpAny_bind (wpAny_mkText (wpAny_bind (wpAny_attempt (wpAny_holding (wpAny_bind (L0.at (wpAny_bind (L1.at ?_))))))))
  show wpAny _ _ (if (onTheHeap (Value.ref D) && Value.builtin "BaseException.__getattribute__" == Value.builtin "object.__getattribute__") = true then _ else _) _ _ _
  rw [hx1, if_neg Bool.false_ne_true]
  unfold getAttrByItsOwn hookBefore
  refine wpAny_bind ?_
  rw [if_pos (show onTheHeap (Value.ref D) = true from rfl)]
  refine L2.at ?_
  refine wpAny_bind (wpAny_attempt (wpAny_holding ?_))
  unfold callGetattribute
  rw [hx0, if_neg Bool.false_ne_true]
  unfold boundAndCalled
  rw [PySem.F.excAttr_ValueError.ga.bind (.ref x)]
  refine wpAny_bind (wpAny_pure ?_)
  show wpAny _ _ (call (.builtin "BaseException.__getattribute__") [.ref x, .str "__class__" t]) _ _ _
  refine wpAny_call (codeAny_call_builtin PySem.F.excAttr_ValueError.ga.plain PySem.F.entry_bexc_ga ?_)
  refine @check_slot (model prog w) _ _ ⟨hp, g, d, t + 1, os⟩ "BaseException.__getattribute__" "BaseException" "__getattribute__" (.ref x) [.str "__class__" t] [] _ (by decide +kernel) (by decide +kernel) sub (PySem.F.args_bexc_ga (.ref x) (.str "__class__" t)) ?_
  unfold Builtin.«object.__getattribute__»
  refine wpAny_bind (wpAny_of_eq (a := ((Value.ref x : Value), [Value.str "__class__" t])) (by first | rfl | (simp only [slotArgs]; rfl)) ?_)
  refine wpAny_bind (wpAny_pure (wpAny_bind (L0.at (wpAny_bind (L3.at ?_)))))
  show wpAny _ _ (holding [Value.builtin "object.__class__"] (call (.builtin "getset_descriptor.__get__") [.builtin "object.__class__", .ref x, .ref D]) >>= ret) _ _ _
  refine wpAny_bind (wpAny_holding (wpAny_call (class_get (s := ⟨hp, g, d, t + 1, os⟩) (ox := ox) (od := od) X I hm ?_)))
  refine wpAny_pure ?_
  show wpAny _ _ (handedOut (.ref D)) _ _ _
  rw [handedOut_of (v := .ref D) rfl]
  first
    | exact wpAny_pure (wpAny_pure h)
    | exact wpAny_pure h
    | exact wpAny_pure (wpAny_bind (wpAny_pure (wpAny_pure h)))
theorem kitx_excD (C : L2.ExcC K D) : KitX K (.ref x) (.ref D) (fun h => InstAt h x ox D od) where
  ty := fun _ _ _ I => I.type
  it := fun _ _ X _ => by
    obtain ⟨cdD, hcD, _⟩ := any_some C.hd
    unfold clsIn at hcD
    split at hcD
    · rename_i c' d' cd' sl' ho
      intro A' Q' E' s' k q
      unfold isType loadHead
      exact wpAny_bind (wpAny_loadPart (k _ _ (X _ _ ho)) (wpAny_pure q))
    · cases hcD
  ne := fun h tp dd its n sl X htp => by
    obtain ⟨cdD, hcD, _⟩ := any_some C.hd
    refine Bool.eq_false_iff.mpr fun q => ?_
    have e : D = tp := Value.ref.inj (beq_iff_eq.mp q)
    subst e
    unfold clsIn at hcD
    split at hcD
    · rename_i c' d' cd' sl' ho
      have z := (X _ _ ho).symm.trans htp
      cases z
    · cases hcD
  ca := fun X I k => kin_classD C.hg C.hk C.hs C.hd C.ha C.hn C.ht C.hm X I k
end
end UXc
namespace U
open PySem PySem.Spec L2
open PyProof.Rows hiding St

/-! ### isinstance -/
def clOf : List D → Option (List Cn)
  | [] => some []
  | .ty n :: r => (clOf r).map (.blt n :: ·)
  | .cls x :: r => (clOf r).map (.own x :: ·)
  | _ => none
/-- isinstance(e, C), isinstance(e, (C1, ..)), e an exception -/
def gIsX (T : XT) (bs : List String) : GL
  | [.exc (.own c) _, .cls y], Q => (inX T bs (.own c) = true ∧ inX T bs (.own y) = true) ∧ Q (.bl (subC T (.own c) (.own y)))
  | [.exc (.own c) _, .ty n], Q => (inX T bs (.own c) = true ∧ inX T bs (.blt n) = true) ∧ Q (.bl (subC T (.own c) (.blt n)))
  | [.exc (.own c) _, .tup cs], Q => match clOf cs with
    | some ks => (inX T bs (.own c) = true ∧ ks.all (inX T bs) = true) ∧ Q (.bl (ks.any (subC T (.own c))))
    | none => False
  | _, _ => False
theorem clOf_ok {K : PySem.W.Frag} {O : Ad} {H : Hp} : ∀ {cs : List D} {ks : List Cn} {vs : List V}, clOf cs = some ks → RpA K O H vs cs → Paired ClsV vs (ks.map (Cn.val K))
  | [], _, _, e, .nil => by cases e; exact .nil
  | .ty n :: r, ks, _, e, .cons h t => by
    have e' : (clOf r).map (.blt n :: ·) = some ks := e
    cases q : clOf r with
    | none => rw [q] at e'; cases e'
    | some ms =>
      rw [q] at e'
      cases e'
      cases h
      exact .cons (.ty n) (clOf_ok q t)
  | .cls x :: r, ks, _, e, .cons h t => by
    have e' : (clOf r).map (.own x :: ·) = some ks := e
    cases q : clOf r with
    | none => rw [q] at e'; cases e'
    | some ms =>
      rw [q] at e'
      cases e'
      cases h
      exact .cons (.own _) (clOf_ok q t)
  | .non :: _, _, _, e, _ => by cases e
  | .bl _ :: _, _, _, e, _ => by cases e
  | .int _ :: _, _, _, e, _ => by cases e
  | .str _ :: _, _, _, e, _ => by cases e
  | .lst _ :: _, _, _, e, _ => by cases e
  | .tup _ :: _, _, _, e, _ => by cases e
  | .dic _ :: _, _, _, e, _ => by cases e
  | .ref _ :: _, _, _, e, _ => by cases e
  | .exc _ _ :: _, _, _, e, _ => by cases e
theorem kitAny_X {K : PySem.W.Frag} {T : XT} {bs : List String} {c : Str} (F : XF K T bs) (hc : inX T bs (.own c) = true) : ∀ ks : List Cn, ks.all (inX T bs) = true → PySem.W.kitAny K (.ref (He.ga K c)) (ks.map (Cn.val K)) = some (ks.any (subC T (.own c)))
  | [], _ => kitAny_nil
  | k :: ks, h => by
    obtain ⟨h1, h2⟩ := Bool.and_eq_true_iff.mp h
    refine kitAny_cons (F.kit c k hc h1) (fun e => ?_) fun e => ?_
    · rw [List.any_cons, e, Bool.false_or]
      exact kitAny_X F hc ks h2
    · rw [List.any_cons, e, Bool.true_or]
section
variable {X : Cx}
/-- an exception stands there, with its dict -/
theorem exc_inst {pins : List (Addr × Obj)} {σ : L2.St} {H : Hp} {s : Shared} {O : Ad} {c : Str} {fs : List (Str × D)} {v : V} (I : Inv X pins σ H s) (h : Rp X.K O H v (.exc (.own c) fs)) :
    ∃ a ox od, v = .ref a ∧ PySem.W.InstAt s.heap a ox (He.ga X.K c) od ∧ ((od = none ∧ fs = []) ∨ ∃ oo vs, od = some oo ∧ RpF X.K O H vs fs ∧ ∀ f, RelO (vs.lookup f) ((fun g => (PySem.W.lookIn g oo).getD none) f) ∧ ∃ r, PySem.W.lookIn f oo = some r) := by
  cases h with
  | @exc a _ n e =>
    obtain ⟨⟨oe, vs, h1, h2, h3⟩, _, _⟩ := I.hok a _ e
    exact ⟨a, oe, none, rfl, ⟨h1, h2.1, by unfold PySem.W.notCls; rw [h3] <;> rfl, by rw [h2.2]; trivial⟩, .inl ⟨rfl, rfl⟩⟩
  | @excf a dx _ vs _ n e n2 e2 r =>
    obtain ⟨⟨oe, ws, h1, h2, h3⟩, _, _⟩ := I.hok a _ e
    obtain ⟨mA, hns, hr⟩ := (show ObjOk X.prog X.w H s.heap dx (.xd vs) from I.hok dx _ e2)
    obtain ⟨oo, ho, hl⟩ := lookIn_ns hns
    exact ⟨a, oe, some oo, rfl, ⟨h1, h2.1, by unfold PySem.W.notCls; rw [h3] <;> rfl, by rw [h2.2]; exact ho⟩, .inr ⟨oo, vs, rfl, r, fun f => ⟨by show RelO _ ((PySem.W.lookIn f oo).getD none); rw [hl]; exact hr f, _, hl f⟩⟩⟩
theorem call_isX {T : XT} {bs : List String} (F : XF X.K T bs) : CallR X (.builtin "isinstance") (lCR X.K (gIsX T bs)) := by
  intro pins s σ H xs us Q I rx ⟨O, ds, P, tr, ha, hg, hP⟩
  unfold gIsX at hg
  split at hg
  · rename_i c fs y
    obtain ⟨⟨h1, h2⟩, hg⟩ := hg
    cases ha with
    | cons h a => cases a with
      | cons h' a =>
        cases a
        cases h'
        obtain ⟨u1, u2, rfl, r1, r2⟩ := vals2 rx
        obtain ⟨e, ox, od, rfl, J, _⟩ := exc_inst I h
        cases (show u1 = Value.ref e from r1)
        cases (show u2 = Value.ref (He.ga X.K y) from r2)
        exact PySem.W.kia_one (UXc.kitx_excD (F.c c h1)) I.kIn J (F.kit c (.own y) h1 h2) (fun z => nomatch z) fun tk => ⟨.bl _, H, I.tok tk, rfl, hP _ hg _ _ (Same.refl _) (.bl _)⟩
  · rename_i c fs n
    obtain ⟨⟨h1, h2⟩, hg⟩ := hg
    cases ha with
    | cons h a => cases a with
      | cons h' a =>
        cases a
        cases h'
        obtain ⟨u1, u2, rfl, r1, r2⟩ := vals2 rx
        obtain ⟨e, ox, od, rfl, J, _⟩ := exc_inst I h
        cases (show u1 = Value.ref e from r1)
        cases (show u2 = Value.type n from r2)
        exact PySem.W.kia_one (UXc.kitx_excD (F.c c h1)) I.kIn J (F.kit c (.blt n) h1 h2) (fun z => nomatch z) fun tk => ⟨.bl _, H, I.tok tk, rfl, hP _ hg _ _ (Same.refl _) (.bl _)⟩
  · rename_i c fs cs
    split at hg
    · rename_i ks e
      obtain ⟨⟨h1, h2⟩, hg⟩ := hg
      cases ha with
      | cons h a => cases a with
        | cons h' a =>
          cases a
          cases h' with
          | @tup tp ys _ l a' =>
            obtain ⟨u1, u2, rfl, r1, r2⟩ := vals2 rx
            obtain ⟨ea, ox, od, rfl, J, _⟩ := exc_inst I h
            cases (show u1 = Value.ref ea from r1)
            cases (show u2 = Value.ref tp from r2)
            have kk := kitAny_X F h1 ks h2
            have pc := clOf_ok e a'
            rcases l with l | ⟨o, its, n, k1, k2, k3, _, k5⟩
            · obtain ⟨_, its, rv, o, q1, q2, n, q3⟩ := (show ObjOk X.prog X.w H s.heap tp (.tup ys) from I.hok tp _ l.2)
              have e3 := ClsV.all pc rv
              subst e3
              obtain ⟨oc, od', dt, sl⟩ := o
              simp only at q2 q3
              subst q2 q3
              exact PySem.W.kia_tup (UXc.kitx_excD (F.c c h1)) I.kIn J q1 kk (fun z => nomatch z) fun tk => ⟨.bl _, H, I.tok tk, rfl, hP _ hg _ _ (Same.refl _) (.bl _)⟩
            · obtain ⟨oc, od', dt, sl⟩ := o
              simp only at k2 k3
              subst k2 k3
              have e3 := ClsV.all pc k5
              have k1' := I.kIn _ _ k1
              have q1 : s.heap.get? tp = some ⟨.type "tuple", od', .seq (ks.map (Cn.val X.K)).toArray n, sl⟩ := by rw [k1', ← e3]
              exact PySem.W.kia_tup (UXc.kitx_excD (F.c c h1)) I.kIn J q1 kk (fun z => nomatch z) fun tk => ⟨.bl _, H, I.tok tk, rfl, hP _ hg _ _ (Same.refl _) (.bl _)⟩
    · exact hg.elim
  · exact hg.elim
end
section
variable {X : Cx} {O0 : Ad} {H0 : Hp} {e : Expr} {ue : UE} {pos : Pos}
/-- a class of the module, by its name -/
theorem up_cls {x : Str} (hg : Gl X x) (hm : X.mg x = some (.ref (He.ga X.K x))) (hdb : (x == ("__debug__" : Str)) = false := by decide) : UPE X O0 H0 (.Name x pos) (uC (.cls x)) :=
  up_glob hg hm (v := .ref (He.ga X.K x)) rfl (fun _ _ => .cls x) hdb
end
/-! ### the head, with facts about classes -/
abbrev AlX : Type := He.AlD × Bool
def obsX (fa : List He.Fa) (fn : List He.DefD) (T : XT) (bs : List String) (K : PySem.W.Frag) : AlX := (He.obsD fa fn K, xfB K T bs)
def SaysX (fa : List He.Fa) (fn : List He.DefD) (T : XT) (bs : List String) (K : PySem.W.Frag) : Prop := obsX fa fn T bs K = (He.valD fn, true)
theorem SaysX.d {fa : List He.Fa} {fn : List He.DefD} {T : XT} {bs : List String} {K : PySem.W.Frag} (c : SaysX fa fn T bs K) : He.SaysD fa fn K := congrArg (fun z : AlX => z.1) c
theorem SaysX.x {fa : List He.Fa} {fn : List He.DefD} {T : XT} {bs : List String} {K : PySem.W.Frag} (c : SaysX fa fn T bs K) : XF K T bs := xfB_ok (congrArg (fun z : AlX => z.2) c)
end U
namespace U
open PySem PySem.Spec L2
open PyProof.Rows hiding St
/-- the names of a clause -/
inductive CNs (X : Cx) : List Expr → List Cn → Prop
  | nil : CNs X [] []
  | own {x : Str} {p : Pos} {es : List Expr} {ks : List Cn} (hg : Gl X x) (hd : (x == ("__debug__" : Str)) = false) (hm : X.mg x = some (.ref (He.ga X.K x))) (t : CNs X es ks) : CNs X (.Name x p :: es) (.own x :: ks)
  | blt {x : Str} {n : String} {p : Pos} {es : List Expr} {ks : List Cn} (hg : Gl X x) (hd : (x == ("__debug__" : Str)) = false) (hm : X.mg x = none) (hv : bootBuiltins x = some (.type n)) (hn : x ≠ "__name__") (t : CNs X es ks) : CNs X (.Name x p :: es) (.blt n :: ks)
theorem CNs.paired {X : Cx} {es : List Expr} {ks : List Cn} (h : CNs X es ks) : Paired (fun e c => ∃ x q, e = Expr.Name x q ∧ Names X x c) es (ks.map (Cn.val X.K)) := by
  induction h with
  | nil => exact .nil
  | own hg hd hm t ih => exact .cons ⟨_, _, rfl, hg, hd, .inl hm⟩ ih
  | blt hg hd hm hv hn t ih => exact .cons ⟨_, _, rfl, hg, hd, .inr ⟨hm, hv, hn⟩⟩ ih
theorem CNs.tup {X : Cx} {es : List Expr} {ks : List Cn} {k : Nat} {p : Pos} (h : CNs X es ks) (hz : ks.length ≤ 1000) : CTest X (.Tuple es k p) (ks.map (Cn.val X.K)) :=
  .tup (by rw [List.length_map, sizeLine_eq]; omega) h.paired
theorem CNs.one {X : Cx} {x : Str} {p : Pos} {c : Cn} (h : CNs X [.Name x p] [c]) : CTest X (.Name x p) ([c].map (Cn.val X.K)) := by
  cases h with
  | own hg hd hm t => exact .one ⟨hg, hd, .inl hm⟩
  | blt hg hd hm hv hn t => exact .one ⟨hg, hd, .inr ⟨hm, hv, hn⟩⟩
end U
namespace U
open PySem PySem.Spec L2
open PyProof.Rows hiding St
section
variable {sl : List Sl} {pn p : PenT} {n fu : Nat} {E : UEnds} {W : WU} {m : Cn → Bool} {i : Nat} {ub : WU → US} {us : US} {c : Cn} {f : Option (List (Str × D))} {ρ : Ro}
def kTry (m : Cn → Bool) (i : Nat) (us : US) (E : UEnds) (pn : PenT) : WU := fun x ρ1 => ρ1.pen = pn ∧ m x.cls = true ∧ us (behindX i E) (ρ1.put i (.dat (.exc x.cls (x.fld.getD []))))
theorem sTry : uTry m i ub us E ⟨sl, pn, n⟩ = (noOwns sl = true ∧ ub (kTry m i us E pn) E ⟨sl, pn, n⟩) := id rfl
theorem sTry1 : kTry m i us E pn ⟨c, f⟩ ⟨sl, p, n⟩ = (p = pn ∧ m c = true ∧ us (behindX i E) ⟨sl.set i (.dat (.exc c (f.getD []))), p, n⟩) := id rfl
theorem sTryN : (behindX i E).nx ⟨sl, pn, n⟩ = E.nx ⟨sl.set i .emp, pn, n⟩ := id rfl
theorem sTryR : (behindX i E).rt = E.rt := id rfl
theorem sTryR2 : (behindX i E).rf = E.rf := id rfl
theorem sTryB : (behindX i E).bk ⟨sl, pn, n⟩ = E.bk ⟨sl.set i .emp, pn, n⟩ := id rfl
theorem sTryC : (behindX i E).ct ⟨sl, pn, n⟩ = E.ct ⟨sl.set i .emp, pn, n⟩ := id rfl
theorem sRaise : uRaise c W E ⟨sl, pn, n⟩ = W ⟨c, none⟩ ⟨sl, pn, n⟩ := id rfl
theorem nOw0 : noOwns [] = true := id rfl
theorem nOw1 {r : List Sl} : noOwns (.emp :: r) = noOwns r := id rfl
theorem nOw2 {d : D} {r : List Sl} : noOwns (.dat d :: r) = noOwns r := id rfl
theorem fld0 : (none : Option (List (Str × D))).getD [] = [] := id rfl
theorem fld1 {l : List (Str × D)} : (some l).getD [] = l := id rfl
variable {T : XT} {bs : List String} {a b : Str} {fs : List (Str × D)} {Q : D → Prop} {k : String} {cs : List D}
theorem xIsX1 : gIsX T bs [.exc (.own a) fs, .cls b] Q = ((inX T bs (.own a) = true ∧ inX T bs (.own b) = true) ∧ Q (.bl (subC T (.own a) (.own b)))) := id rfl
theorem xIsX2 : gIsX T bs [.exc (.own a) fs, .ty k] Q = ((inX T bs (.own a) = true ∧ inX T bs (.blt k) = true) ∧ Q (.bl (subC T (.own a) (.blt k)))) := id rfl
theorem xIsX3 : gIsX T bs [.exc (.own a) fs, .tup cs] Q ↔ ∃ ks, clOf cs = some ks ∧ (inX T bs (.own a) = true ∧ ks.all (inX T bs) = true) ∧ Q (.bl (ks.any (subC T (.own a)))) := by
  show (match clOf cs with | some ks => (inX T bs (.own a) = true ∧ ks.all (inX T bs) = true) ∧ Q (.bl (ks.any (subC T (.own a)))) | none => False) ↔ _
  cases clOf cs with
  | none => exact ⟨fun h => h.elim, fun ⟨_, e, _⟩ => by cases e⟩
  | some ks => exact ⟨fun h => ⟨ks, rfl, h⟩, fun ⟨_, e, h⟩ => by cases e; exact h⟩
end
theorem xIsNotX {c : Cn} {fs : List (Str × D)} {Q : D → Prop} : gIsNot (.exc c fs) .non Q = Q (.bl true) := id rfl
theorem xIsNX {c : Cn} {fs : List (Str × D)} {Q : D → Prop} : gIs (.exc c fs) .non Q = Q (.bl false) := id rfl
end U

set_option Elab.async false
set_option linter.all false
set_option maxRecDepth 100000
set_option maxHeartbeats 4000000
/-! dicts of one's own, .items(), targets within targets, sorted pairs. -/
namespace U
open PySem PySem.Spec L2
open PyProof.Rows hiding St

/-! ### a dict of one's own -/
def putD (es : List (Key × D)) (k : Key) (d : D) : List (Key × D) :=
  if (es.any fun e => decide (e.1 = k)) = true then es.map (fun e => if e.1 = k then (e.1, d) else e) else es ++ [(k, d)]
def valD (es : List (Key × D)) (k : Key) : Option D := (es.find? fun e => decide (e.1 = k)).map (·.2)
def dK : D → Option Key
  | .int i => some (.inl i)
  | .str x => some (.inr x)
  | _ => none
def kDt : Key → D
  | .inl i => .int i
  | .inr x => .str x
section
variable {K : PySem.W.Frag} {O : Ad} {H : Hp}
theorem RpK.any {kvs : List (Key × V)} {es : List (Key × D)} (h : RpK K O H kvs es) (k : Key) : (kvs.any fun kv => decide (kv.1 = k)) = es.any fun e => decide (e.1 = k) := by
  induction es generalizing kvs with
  | nil => cases h; rfl
  | cons e es ih => cases h with
    | cons a b => rw [List.any_cons, List.any_cons, ih b]
theorem RpK.repl {kvs : List (Key × V)} {es : List (Key × D)} {v : V} {d : D} (h : RpK K O H kvs es) (k : Key) (g : Rp K O H v d) : RpK K O H (kvs.map fun kv => if kv.1 = k then (kv.1, v) else kv) (es.map fun e => if e.1 = k then (e.1, d) else e) := by
  induction es generalizing kvs with
  | nil => cases h; exact .nil
  | cons e es ih => cases h with
    | @cons j x vs y ds a b =>
      rw [List.map_cons, List.map_cons]
      by_cases q : j = k
      · rw [if_pos q, if_pos q]
        exact .cons g (ih b)
      · rw [if_neg q, if_neg q]
        exact .cons a (ih b)
theorem RpK.snoc {kvs : List (Key × V)} {es : List (Key × D)} {v : V} {d : D} (h : RpK K O H kvs es) (k : Key) (g : Rp K O H v d) : RpK K O H (kvs ++ [(k, v)]) (es ++ [(k, d)]) := by
  induction es generalizing kvs with
  | nil => cases h; exact .cons g .nil
  | cons e es ih => cases h with
    | cons a b => exact .cons a (ih b)
theorem RpK.put {kvs : List (Key × V)} {es : List (Key × D)} {v : V} {d : D} (h : RpK K O H kvs es) (k : Key) (g : Rp K O H v d) : RpK K O H (putK kvs k v) (putD es k d) := by
  unfold putK putD
  rw [h.any k]
  split
  · exact h.repl k g
  · exact h.snoc k g
theorem RpK.length {kvs : List (Key × V)} {es : List (Key × D)} (h : RpK K O H kvs es) : kvs.length = es.length := by
  induction es generalizing kvs with
  | nil => cases h; rfl
  | cons e es ih => cases h with
    | cons a b => rw [List.length_cons, List.length_cons, ih b]
theorem RpK.got {kvs : List (Key × V)} {es : List (Key × D)} {i : Nat} {k : Key} {v : V} (h : RpK K O H kvs es) (e : kvs[i]? = some (k, v)) : ∃ d, es[i]? = some (k, d) ∧ Rp K O H v d := by
  induction es generalizing kvs i with
  | nil => cases h; simp at e
  | cons x es ih => cases h with
    | cons a b => cases i with
      | zero => cases (Option.some.inj e); exact ⟨_, rfl, a⟩
      | succ i =>
        obtain ⟨d, e1, r⟩ := ih b (by simpa using e)
        exact ⟨d, by simpa using e1, r⟩
end
/-- x = {} -/
def uOwnD (i : Nat) : US := fun E ρ => ∀ a, E.nx (ρ.put i (.own a (.d [])))
/-- x[k] = e, x a dict of one's own -/
def uDSet (i : Nat) (ui u : UE) : US := fun E ρ => match ρ.sl[i]? with
  | some (.own a (.d es)) => u ρ fun d n => ui (ρ.f n) fun k m => match dK k with
    | some key => es.length < sizeLine ∧ E.nx ((ρ.f m).put i (.own a (.d (putD es key d))))
    | none => False
  | _ => False
/-- ahead of a statement: the dict in slot i is let go -/
def uThawD (i : Nat) (u : US) : US := fun E ρ => match ρ.sl[i]? with
  | some (.own _ (.d es)) => u E (ρ.put i (.dat (.dic es)))
  | _ => False
section
variable {X : Cx} {O0 : Ad} {H0 : Hp} {a b c e : Expr} {ua ub uc : UE} {pos p : Pos} {W : WU}
/-! ### .items() -/
def itemsD (es : List (Key × D)) : List D := es.map fun e => .tup [kDt e.1, e.2]
def uiItems (u : UE) : UI := fun ρ Q => u ρ fun d n => match d with
  | .dic es => Q (itemsD es) n
  | _ => False
/-! ### targets within targets -/
inductive Pt where | n (i : Nat) | t (ps : List Pt)
mutual
def ugP : Pt → UG
  | .n i => ugN i
  | .t ps => fun d ρ Q => match d with
    | .tup ds => ugPs ps ds ρ Q
    | _ => False
def ugPs : List Pt → List D → Ro → (Ro → Prop) → Prop
  | [], [], ρ, Q => Q ρ
  | p :: ps, d :: ds, ρ, Q => ugP p d ρ fun ρ' => ugPs ps ds ρ' Q
  | _, _, _, _ => False
end
end
/-! ### sorted, pairs of ints -/
def pD (p : Int × Int) : D := .tup [.int p.1, .int p.2]
def leP (a b : Int × Int) : Prop := a.1 < b.1 ∨ (a.1 = b.1 ∧ a.2 ≤ b.2)
def pairD : D → Option (Int × Int)
  | .tup [.int a, .int b] => some (a, b)
  | _ => none
def pairsD : List D → Option (List (Int × Int))
  | [] => some []
  | d :: ds => match pairD d, pairsD ds with
    | some p, some ps => some (p :: ps)
    | _, _ => none
theorem pairsD_map : ∀ ps : List (Int × Int), pairsD (ps.map pD) = some ps
  | [] => rfl
  | p :: ps => by
    show (match pairD (pD p), pairsD (ps.map pD) with | some p, some ps => some (p :: ps) | _, _ => none) = _
    rw [pairsD_map ps]
    rfl
section
variable {X : Cx}
end
end U
namespace U
open PySem PySem.Spec L2
open PyProof.Rows hiding St
section
variable {sl : List Sl} {pn : PenT} {n fu : Nat} {E : UEnds} {i : Nat} {ad : Addr} {es : List (Key × D)} {a ui : UE} {u : US} {ρ : Ro} {d : D} {Q : Ro → Prop} {L : List D → Nat → Prop}
theorem sOwnD : uOwnD i E ⟨sl, pn, n⟩ = ∀ a, E.nx ⟨sl.set i (.own a (.d [])), pn, n⟩ := id rfl
def kDSet4 (i : Nat) (ad : Addr) (es : List (Key × D)) (d : D) (E : UEnds) (ρ : Ro) : D → Nat → Prop := fun k m => match dK k with
  | some key => es.length < sizeLine ∧ E.nx ((ρ.f m).put i (.own ad (.d (putD es key d))))
  | none => False
def kDSet1 (i : Nat) (ad : Addr) (es : List (Key × D)) (ui : UE) (E : UEnds) (ρ : Ro) : D → Nat → Prop := fun d n => ui (ρ.f n) (kDSet4 i ad es d E ρ)
def kDSet (i : Nat) (ui u : UE) (E : UEnds) (ρ : Ro) : Option Sl → Prop
  | some (.own a (.d es)) => u ρ (kDSet1 i a es ui E ρ)
  | _ => False
theorem sDSet : uDSet i ui a E ρ = kDSet i ui a E ρ ρ.sl[i]? := by
  unfold uDSet kDSet kDSet1 kDSet4
  rfl
theorem sDSet1 : kDSet i ui a E ρ (some (.own ad (.d es))) = a ρ (kDSet1 i ad es ui E ρ) := id rfl
theorem sDSet2 : kDSet1 i ad es ui E ⟨sl, pn, fu⟩ d n = ui ⟨sl, pn, n⟩ (kDSet4 i ad es d E ⟨sl, pn, fu⟩) := id rfl
theorem sDSet3 {z : Int} {m : Nat} : kDSet4 i ad es d E ⟨sl, pn, fu⟩ (.int z) m = (es.length < sizeLine ∧ E.nx ⟨sl.set i (.own ad (.d (putD es (.inl z) d))), pn, m⟩) := id rfl
theorem sDSet5 {z : Str} {m : Nat} : kDSet4 i ad es d E ⟨sl, pn, fu⟩ (.str z) m = (es.length < sizeLine ∧ E.nx ⟨sl.set i (.own ad (.d (putD es (.inr z) d))), pn, m⟩) := id rfl
theorem dKi {z : Int} : dK (.int z) = some (.inl z) := id rfl
theorem dKs {z : Str} : dK (.str z) = some (.inr z) := id rfl
def kThawD (i : Nat) (u : US) (E : UEnds) (ρ : Ro) : Option Sl → Prop
  | some (.own _ (.d es)) => u E (ρ.put i (.dat (.dic es)))
  | _ => False
theorem sThawD : uThawD i u E ρ = kThawD i u E ρ ρ.sl[i]? := by
  unfold uThawD kThawD
  rfl
theorem sThawD1 : kThawD i u E ⟨sl, pn, fu⟩ (some (.own ad (.d es))) = u E ⟨sl.set i (.dat (.dic es)), pn, fu⟩ := id rfl
def kItems (L : List D → Nat → Prop) : D → Nat → Prop := fun d n => match d with
  | .dic es => L (itemsD es) n
  | _ => False
theorem iIt : uiItems a ρ L = a ρ (kItems L) := id rfl
theorem iIt1 : kItems L (.dic es) n = L (itemsD es) n := id rfl
def kPs (ps : List Pt) (ds : List D) (Q : Ro → Prop) : Ro → Prop := fun ρ' => ugPs ps ds ρ' Q
theorem gPn : ugP (.n i) d ρ Q = ugN i d ρ Q := by simp only [ugP]
theorem gPt {ps : List Pt} {ds : List D} : ugP (.t ps) (.tup ds) ρ Q = ugPs ps ds ρ Q := by simp only [ugP]
theorem gPs0 : ugPs [] [] ρ Q = Q ρ := by simp only [ugPs]
theorem gPs1 {p : Pt} {ps : List Pt} {ds : List D} : ugPs (p :: ps) (d :: ds) ρ Q = ugP p d ρ (kPs ps ds Q) := by
  show ugPs (p :: ps) (d :: ds) ρ Q = ugP p d ρ fun ρ' => ugPs ps ds ρ' Q
  simp only [ugPs]
theorem gPs2 {ps : List Pt} {ds : List D} : kPs ps ds Q ⟨sl, pn, n⟩ = ugPs ps ds ⟨sl, pn, n⟩ Q := id rfl
end
end U

set_option Elab.async false
set_option linter.all false
set_option maxRecDepth 100000
set_option maxHeartbeats 4000000
/-! xs += ys of a list of one's own; sorted, a list of one's own. -/
namespace U
open PySem PySem.Spec L2
open PyProof.Rows hiding St
section
variable {X : Cx} {O0 : Ad} {H0 : Hp} {a b c e : Expr} {ua ub uc : UE} {pos p : Pos} {W : WU}
def ufSorted (u : UA) : UF := fun ρ Q => u ρ fun ds n => match ds with
  | [.lst ds] => match D.ints ds with
    | some ns => ns.length < 64 ∧ ∀ ms : List Int, ms.Perm ns → ms.Pairwise (· ≤ ·) → Q (ms.map D.int) n
    | none => False
  | _ => False
def kfSorted (L : List D → Nat → Prop) : List D → Nat → Prop := fun ds n => match ds with
  | [.lst ds] => match D.ints ds with
    | some ns => ns.length < 64 ∧ ∀ ms : List Int, ms.Perm ns → ms.Pairwise (· ≤ ·) → L (ms.map D.int) n
    | none => False
  | _ => False
theorem xfSorted {u : UA} {ρ : Ro} {L : List D → Nat → Prop} : ufSorted u ρ L = u ρ (kfSorted L) := id rfl
end
end U

set_option Elab.async false
set_option linter.all false
set_option maxRecDepth 100000
set_option maxHeartbeats 4000000
/-! Dicts of the module: keys texts, values ints. -/
namespace U
open PySem PySem.Spec L2
open PyProof.Rows hiding St
abbrev Tb : Type := List (Str × Int)
def lookT (t : Tb) (z : Str) : Option Int := (t.find? fun p => p.1 == z).map (·.2)
def entOf (e : DictEntry) : Option (Str × Int × Int) := match e.key, e.val with
  | .str x _, .int i _ => some (x, e.hash, i)
  | _, _ => none
def entsIn (P : Params) (t : Tb) : List (Option (Str × Int × Int)) := t.map fun p => some (p.1, PyData.keyHash P p.1, p.2)
def dicKV (K : PySem.W.Frag) (a : Addr) : Option (List (Option (Str × Int × Int))) := match K.lookup a with
  | some ⟨.type c, none, .dict es _, sl⟩ => (match decide (c = "dict") && (sl.isEmpty && !(a == sysModules)) with
    | true => some (es.toList.map entOf)
    | false => none)
  | _ => none
/-- at the name x: the table t -/
structure KD (K : PySem.W.Frag) (w : World) (x : Str) (t : Tb) : Prop where
  dic : ∃ es n, KDict K w (He.ga K x) es n
  get : ∀ z : Str, match lookT t z with
    | some i => ∃ k, PySem.W.nsIn K (He.ga K x) z = some (some (.int i k))
    | none => PySem.W.nsIn K (He.ga K x) z = some none
theorem ent_inv {e : DictEntry} {x : Str} {h i : Int} (q : entOf e = some (x, h, i)) : ∃ t k, e.key = .str x t ∧ e.hash = h ∧ e.val = .int i k := by
  unfold entOf at q
  split at q
  · rename_i y t j k h1 h2
    have := Option.some.inj q
    injection this with e1 e2
    injection e2 with e2 e3
    subst e1 e2 e3
    exact ⟨t, k, h1, rfl, h2⟩
  · cases q
theorem lit_of {P : Params} : ∀ {l : List DictEntry} {t : Tb}, l.map entOf = entsIn P t → PySem.W.KeysLit P l
  | [], _, _ => trivial
  | e :: r, [], h => by cases h
  | e :: r, p :: t, h => by
    have h1 : entOf e :: r.map entOf = some (p.1, PyData.keyHash P p.1, p.2) :: entsIn P t := h
    injection h1 with h2 h3
    obtain ⟨t, k, e1, e2, _⟩ := ent_inv h2
    exact ⟨⟨_, t, e1, e2⟩, lit_of h3⟩
theorem find_of {P : Params} (z : Str) : ∀ {l : List DictEntry} {t : Tb}, l.map entOf = entsIn P t → (match lookT t z with
    | some i => ∃ e k, l.find? (·.key.isStr z) = some e ∧ e.val = .int i k
    | none => l.find? (·.key.isStr z) = none) ∧ l.any (·.refKey) = false
  | [], [], _ => ⟨rfl, rfl⟩
  | [], p :: t, h => by cases h
  | e :: r, [], h => by cases h
  | e :: r, p :: t, h => by
    have h1 : entOf e :: r.map entOf = some (p.1, PyData.keyHash P p.1, p.2) :: entsIn P t := h
    injection h1 with h2 h3
    obtain ⟨tk, k, e1, _, e3⟩ := ent_inv h2
    obtain ⟨ih1, ih2⟩ := find_of z h3
    have rk : e.refKey = false := by unfold DictEntry.refKey; rw [e1]
    refine ⟨?_, by rw [List.any_cons, rk, ih2]; rfl⟩
    have is : e.key.isStr z = (p.1 == z) := by rw [e1]; rfl
    unfold lookT
    rw [List.find?_cons, List.find?_cons, is]
    cases q : p.1 == z with
    | true => exact ⟨e, k, rfl, e3⟩
    | false => exact ih1
theorem kd_ok {K : PySem.W.Frag} {w : World} {x : Str} {t : Tb} (h : dicKV K (He.ga K x) = some (entsIn w.params t)) : KD K w x t := by
  unfold dicKV at h
  cases q : K.lookup (He.ga K x) with
  | none => rw [q] at h; cases h
  | some o =>
    obtain ⟨oc, od, dt, osl⟩ := o
    rw [q] at h
    cases oc with
    | type c =>
      cases od with
      | none =>
        cases dt with
        | dict es n =>
          have h1 : (match decide (c = "dict") && (osl.isEmpty && !(He.ga K x == sysModules)) with
            | true => some (es.toList.map entOf)
            | false => none) = some (entsIn w.params t) := h
          cases z : decide (c = "dict") && (osl.isEmpty && !(He.ga K x == sysModules)) with
          | false => rw [z] at h1; cases h1
          | true =>
            rw [z] at h1
            obtain ⟨z1, z2⟩ := He.ba z
            obtain ⟨z3, z4⟩ := He.ba z2
            have e1 : c = "dict" := of_decide_eq_true z1
            have e2 : osl = #[] := Array.isEmpty_iff.mp z3
            have e3 : (He.ga K x == sysModules) = false := by
              cases y : He.ga K x == sysModules with
              | false => rfl
              | true => rw [y] at z4; cases z4
            subst e1 e2
            have h2 := Option.some.inj h1
            refine ⟨⟨es, n, q, lit_of h2, e3⟩, fun z => ?_⟩
            obtain ⟨f1, f2⟩ := find_of z h2
            cases lk : lookT t z with
            | some i =>
              rw [lk] at f1
              obtain ⟨e, k, g1, g2⟩ := f1
              refine ⟨k, ?_⟩
              unfold PySem.W.nsIn
              rw [q]
              dsimp only
              rw [g1]
              dsimp only
              rw [g2]
            | none =>
              rw [lk] at f1
              have f1 : es.toList.find? (·.key.isStr z) = none := f1
              unfold PySem.W.nsIn
              rw [q]
              dsimp only
              rw [f1]
              dsimp only
              rw [f2]
              rfl
        | _ => cases h
      | some b => cases dt <;> cases h
    | _ => cases od <;> cases dt <;> cases h
/-! ### rules -/
def gInK (x : Str) (t : Tb) : G2
  | .str z, .cls y, Q => y = x ∧ Q (.bl (lookT t z).isSome)
  | _, _, _ => False
def gNotInK (x : Str) (t : Tb) : G2
  | .str z, .cls y, Q => y = x ∧ Q (.bl (!(lookT t z).isSome))
  | _, _, _ => False
section
variable {X : Cx} {x : Str} {t : Tb}
theorem KD.some {z : Str} (T : KD X.K X.w x t) : ∃ r, PySem.W.nsIn X.K (He.ga X.K x) z = some r ∧ r.isSome = (lookT t z).isSome := by
  have := T.get z
  cases lk : lookT t z with
  | some i => rw [lk] at this; obtain ⟨k, e⟩ := this; exact ⟨_, e, rfl⟩
  | none => rw [lk] at this; exact ⟨_, this, rfl⟩
variable {O0 : Ad} {H0 : Hp} {a b : Expr} {ua ub : UE} {pos : Pos}
end
section
variable {x z : Str} {t : Tb} {Q : D → Prop}
theorem xInK : gInK x t (.str z) (.cls x) Q ↔ Q (.bl (lookT t z).isSome) := ⟨fun h => h.2, fun h => ⟨rfl, h⟩⟩
theorem xNotInK : gNotInK x t (.str z) (.cls x) Q ↔ Q (.bl (!(lookT t z).isSome)) := ⟨fun h => h.2, fun h => ⟨rfl, h⟩⟩
end
/-! ### the head, with tables -/
abbrev AlY : Type := AlX × List (Option (List (Option (Str × Int × Int))))
def obsY (fa : List He.Fa) (fn : List He.DefD) (T : XT) (bs : List String) (ts : List (Str × Tb)) (K : PySem.W.Frag) : AlY := (obsX fa fn T bs K, ts.map fun t => dicKV K (He.ga K t.1))
def valY (fn : List He.DefD) (ts : List (Str × Tb)) (w : World) : AlY := ((He.valD fn, true), ts.map fun t => some (entsIn w.params t.2))
def SaysY (fa : List He.Fa) (fn : List He.DefD) (T : XT) (bs : List String) (ts : List (Str × Tb)) (w : World) (K : PySem.W.Frag) : Prop := obsY fa fn T bs ts K = valY fn ts w
section
variable {fa : List He.Fa} {fn : List He.DefD} {T : XT} {bs : List String} {ts : List (Str × Tb)} {w : World} {K : PySem.W.Frag}
theorem SaysY.s (c : SaysY fa fn T bs ts w K) : SaysX fa fn T bs K := congrArg (fun z : AlY => z.1) c
theorem SaysY.d (c : SaysY fa fn T bs ts w K) : He.SaysD fa fn K := c.s.d
theorem SaysY.x (c : SaysY fa fn T bs ts w K) : XF K T bs := c.s.x
theorem SaysY.tab (c : SaysY fa fn T bs ts w K) (i : Nat) {x : Str} {t : Tb} (h : ts[i]? = some (x, t) := by rfl) : KD K w x t := by
  have e : ts.map (fun t => dicKV K (He.ga K t.1)) = ts.map fun t => some (entsIn w.params t.2) := congrArg (fun z : AlY => z.2) c
  have e2 : (ts.map fun t => dicKV K (He.ga K t.1))[i]? = (ts.map fun t => some (entsIn w.params t.2))[i]? := by rw [e]
  rw [List.getElem?_map, List.getElem?_map, h] at e2
  exact kd_ok (Option.some.inj e2)
end
end U

set_option Elab.async false
set_option linter.all false
set_option maxRecDepth 100000
set_option maxHeartbeats 4000000
/-! A dict display of one constant pair. -/
namespace U
open PySem PySem.Spec L2
open PyProof.Rows hiding St
section
variable {X : Cx} {O0 : Ad} {H0 : Hp}
end
end U

set_option Elab.async false
set_option linter.all false
set_option maxRecDepth 100000
set_option maxHeartbeats 4000000
/-! Texts: str(x), f-strings, methods of a text with one argument. -/
namespace U
open PySem PySem.Spec L2
open PyProof.Rows hiding St
/-- str(x) -/
def gStr : GL
  | [.int i], Q => i.natAbs.log2 < 1920 ∧ Q (.str (toString i))
  | [.str s], Q => Q (.str s)
  | _, _ => False
section
variable {X : Cx} {O0 : Ad} {H0 : Hp} {e o : Expr} {ua ub uo : UE} {pos apos : Pos}
theorem call_strU : CallR X (.type "str") (lCR X.K gStr) := by
  intro pins s σ H xs us Q I rx ⟨O, ds, P, tr, ha, hg, hP⟩
  unfold gStr at hg
  split at hg
  · cases ha with
    | cons h t => cases t; cases h; exact call_str_int pins s σ H _ us Q I rx ⟨_, rfl, hg.1, hP _ hg.2 _ _ (Same.refl _) (.str _)⟩
  · cases ha with
    | cons h t => cases t; cases h; exact SkE.call_str_str pins s σ H _ us Q I rx ⟨_, rfl, hP _ hg _ _ (Same.refl _) (.str _)⟩
  · exact hg.elim
/-! ### f-strings -/
def gFmt : D → (D → Prop) → Prop
  | .str y, Q => y.length ≤ sizeLine ∧ Q (.str y)
  | .int i, Q => i.natAbs.log2 < 1920 ∧ Q (.str (toString i))
  | _, _ => False
def uFmt (a : UE) : UE := uUn gFmt a
theorem up_fmt (he : UPE X O0 H0 e ua) : UPE X O0 H0 (.FormattedValue e (-1) none pos) (uFmt ua) := PE.imp (pe_fmt he) fun σ H Q ⟨ρ, P, r, hu, hP⟩ => by
  refine ⟨ρ, _, r, hu, fun d n hd v H1 r1 f1 p1 => ?_⟩
  have hd : gFmt d fun z => P z n := hd
  unfold gFmt at hd
  split at hd
  · cases p1
    exact .inl ⟨_, rfl, hd.1, hP _ n hd.2 _ H1 r1 f1 (.str _)⟩
  · cases p1
    exact .inr ⟨_, rfl, hd.1, hP _ n hd.2 _ H1 r1 f1 (.str _)⟩
  · exact hd.elim
def uFst : List UE → Str → Ro → (Str → Nat → Prop) → Prop
  | [], acc, ρ, Q => Q acc ρ.fuel
  | u :: us, acc, ρ, Q => u ρ fun d n => match d with
    | .str y => (acc ++ y).length ≤ sizeLine ∧ uFst us (acc ++ y) (ρ.f n) Q
    | _ => False
def uFs (us : List UE) : UE := fun ρ Q => uFst us Str.empty ρ fun out n => Q (.str out) n
inductive UPJ (X : Cx) (O0 : Ad) (H0 : Hp) : List Expr → List UE → Prop where
  | nil : UPJ X O0 H0 [] []
  | cons {e : Expr} {u : UE} {es : List Expr} {us : List UE} (h : UPE X O0 H0 e u) (r : UPJ X O0 H0 es us) : UPJ X O0 H0 (e :: es) (u :: us)
theorem UPJ.pj {es : List Expr} {us : List UE} (h : UPJ X O0 H0 es us) : PJ X es (us.map (lE X.K O0 H0)) := by
  induction h with
  | nil => exact .nil
  | cons h r ih => exact .cons h ih
theorem fst_run {σ : L2.St} : ∀ {us : List UE} {acc : Str} {ρ : Ro} {H : Hp} {P : Str → Nat → Prop} {Q : Str → Hp → Prop}, R X.K O0 H0 σ H ρ → uFst us acc ρ P →
    (∀ out n, P out n → ∀ H', R X.K O0 H0 σ H' (ρ.f n) → Frm ρ.pen H H' → Q out H') → tJs (us.map (lE X.K O0 H0)) acc σ H Q
  | [], acc, ρ, H, P, Q, r, h, k => k acc ρ.fuel h H r Frm.refl
  | u :: us, acc, ρ, H, P, Q, r, h, k => by
    refine ⟨ρ, _, r, h, fun d n hd v H1 r1 f1 p1 => ?_⟩
    cases d <;> try exact hd.elim
    rename_i y
    cases p1
    exact ⟨y, rfl, hd.1, fst_run r1 hd.2 fun out m hp H2 r2 f2 => k out m hp H2 r2 (f1.trans f2)⟩
theorem up_joined {v1 v2 : Expr} {rest : List Expr} {us : List UE} (h : UPJ X O0 H0 (v1 :: v2 :: rest) us) : UPE X O0 H0 (.JoinedStr (v1 :: v2 :: rest) pos) (uFs us) :=
  PE.imp (pe_joined h.pj) fun σ H Q ⟨ρ, P, r, hu, hP⟩ => fst_run r hu fun out n hp H' r' f' => hP (.str out) n hp _ H' r' f' (.str _)
/-! ### methods of a text -/
def uM1 (g : G2) (a b : UE) : UE := fun ρ Q => a ρ fun x n => (match x with | .str _ => True | _ => False) ∧ b (ρ.f n) fun y m => g x y fun z => Q z m
theorem up_m1 {id : String} {name : Str} {g : G2} (slot : Slot "str" name id) (ty : typeOf (.builtin id) = pure (.type "method_descriptor")) (rule : MtR X id (fun x xs H Q => ∃ y, xs = [y] ∧ lR2 X.K g x y H Q)) (ho : UPE X O0 H0 o uo) (he : UPE X O0 H0 e ua)
    (hs : starEach [e] X.env = [(false, eval e X.env)] := by rfl) (hbase : attributeBase o name X.env (eval o X.env) = eval o X.env := by rfl) (hline : (apos.endLine == pos.line) = true := by rfl) :
    UPE X O0 H0 (.Call (.Attribute o name apos) [e] [] pos) (uM1 g uo ua) := by
  refine PE.imp (pe_m1 slot ty rule ho he hs hbase hline) ?_
  rintro σ H Q ⟨ρ, P, r, hu, hP⟩
  refine ⟨ρ, _, r, hu, fun dx n hx v H1 r1 f1 p1 => ⟨?_, ρ.f n, _, r1, hx.2, fun dy m hy w H2 r2 f2 p2 => ⟨w, rfl, ?_⟩⟩⟩
  · have h1 := hx.1
    cases dx <;> try exact h1.elim
    cases p1
    exact ⟨_, rfl⟩
  · refine ⟨OO O0 ρ, dx, dy, _, r2.tr, p1.keep (Frm.keepsO (ρ := ρ) f2), p2, hy, fun d hd v' H3 sm p3 => ?_⟩
    exact hP d m hd v' H3 (r2.same sm) ((f1.trans f2).trans (.of sm)) p3
def D.txs : List D → Option (List Str)
  | [] => some []
  | .str y :: r => (D.txs r).map (y :: ·)
  | _ :: _ => none
theorem txs_map : ∀ {ds : List D} {ys : List Str}, D.txs ds = some ys → ds = ys.map D.str
  | [], ys, h => by cases h; rfl
  | d :: ds, ys, h => by
    cases d <;> try cases h
    rename_i y
    have h : (D.txs ds).map (y :: ·) = some ys := h
    cases q : D.txs ds with
    | none => rw [q] at h; cases h
    | some zs => rw [q] at h; cases h; rw [txs_map q]; rfl
theorem map_txs : ∀ (ys : List Str), D.txs (ys.map D.str) = some ys
  | [] => rfl
  | y :: ys => by show (D.txs (ys.map D.str)).map (y :: ·) = _; rw [map_txs ys]; rfl
def joinSz (a : Str) (ys : List Str) : Prop := (ys.map (·.length)).sum + ys.length * a.length ≤ 16777216
def gJoin : G2
  | .str a, .lst ds, Q => match D.txs ds with
    | some ys => joinSz a ys ∧ Q (.str (Str.join a ys))
    | none => False
  | .str a, .tup ds, Q => match D.txs ds with
    | some ys => joinSz a ys ∧ Q (.str (Str.join a ys))
    | none => False
  | _, _, _ => False
theorem rpa_strs {K : PySem.W.Frag} {O : Ad} {H : Hp} : ∀ {ys : List Str} {vs : List V}, RpA K O H vs (ys.map D.str) → vs = ys.map V.str
  | [], _, h => by cases h; rfl
  | y :: ys, _, h => by
    cases h with
    | cons a b => cases a; rw [rpa_strs b]; rfl
theorem mt_joinU : MtR X "str.join" (fun x xs H Q => ∃ y, xs = [y] ∧ lR2 X.K gJoin x y H Q) := by
  intro pins s σ H x xs v us Q I rx rs ⟨y, ex, O, dx, dy, P, tr, hx, hy, hg, hP⟩
  subst ex
  refine mt_join pins s σ H x [y] v us Q I rx rs ?_
  unfold gJoin at hg
  split at hg
  · rename_i a ds
    split at hg
    · rename_i ys e
      cases txs_map e
      cases hx
      cases hy with
      | lst l ax =>
        have := rpa_strs ax
        subst this
        refine ⟨a, _, ys, rfl, rfl, .inl l.sq, hg.1, ?_⟩
        rw [TL.join_eq]
        exact hP _ hg.2 _ _ (Same.refl _) (.str _)
    · exact hg.elim
  · rename_i a ds
    split at hg
    · rename_i ys e
      cases txs_map e
      cases hx
      cases hy with
      | tup l ax =>
        have := rpa_strs ax
        subst this
        refine ⟨a, _, ys, rfl, rfl, .inr l.sq, hg.1, ?_⟩
        rw [TL.join_eq]
        exact hP _ hg.2 _ _ (Same.refl _) (.str _)
    · exact hg.elim
  · exact hg.elim
theorem up_join (ho : UPE X O0 H0 o uo) (he : UPE X O0 H0 e ua) (hs : starEach [e] X.env = [(false, eval e X.env)] := by rfl) (hbase : attributeBase o "join" X.env (eval o X.env) = eval o X.env := by rfl) (hline : (apos.endLine == pos.line) = true := by rfl) :
    UPE X O0 H0 (.Call (.Attribute o "join" apos) [e] [] pos) (uM1 gJoin uo ua) := up_m1 F.slot_str_join F.type_str_join mt_joinU ho he hs hbase hline
end
/-! ### rewriting -/
section
variable {sl : List Sl} {pn : PenT} {fu n m : Nat} {ρ : Ro} {Q : D → Nat → Prop} {P : D → Prop} {u a b : UE} {us : List UE} {acc y s out : Str} {g : G2} {x d : D} {i : Int} {J : Str → Nat → Prop}
def kFs (Q : D → Nat → Prop) : Str → Nat → Prop := fun out n => Q (.str out) n
def kFst (us : List UE) (acc : Str) (ρ : Ro) (J : Str → Nat → Prop) : D → Nat → Prop := fun d n => match d with
  | .str y => (acc ++ y).length ≤ sizeLine ∧ uFst us (acc ++ y) (ρ.f n) J
  | _ => False
theorem xFs : uFs us ρ Q = uFst us Str.empty ρ (kFs Q) := id rfl
theorem xFs0 : uFst [] acc ⟨sl, pn, n⟩ J = J acc n := id rfl
theorem xFs1 : uFst (u :: us) acc ρ J = u ρ (kFst us acc ρ J) := id rfl
theorem xFs2 : kFst us acc ⟨sl, pn, fu⟩ J (.str y) n = ((acc ++ y).length ≤ sizeLine ∧ uFst us (acc ++ y) ⟨sl, pn, n⟩ J) := id rfl
theorem xFs3 : kFs Q out n = Q (.str out) n := id rfl
theorem xFmt : uFmt a = uUn gFmt a := id rfl
theorem xFmtI : gFmt (.int i) P = (i.natAbs.log2 < 1920 ∧ P (.str (toString i))) := id rfl
theorem xFmtS : gFmt (.str y) P = (y.length ≤ sizeLine ∧ P (.str y)) := id rfl
theorem xStrI : gStr [.int i] P = (i.natAbs.log2 < 1920 ∧ P (.str (toString i))) := id rfl
theorem xStrS : gStr [.str y] P = P (.str y) := id rfl
def kM1 (g : G2) (b : UE) (ρ : Ro) (Q : D → Nat → Prop) : D → Nat → Prop := fun x n => (match x with | .str _ => True | _ => False) ∧ b (ρ.f n) fun y m => g x y fun z => Q z m
def kM2 (g : G2) (x : D) (Q : D → Nat → Prop) : D → Nat → Prop := fun y m => g x y fun z => Q z m
theorem xM1 : uM1 g a b ρ Q = a ρ (kM1 g b ρ Q) := id rfl
theorem xM11 : kM1 g b ⟨sl, pn, fu⟩ Q (.str s) n ↔ b ⟨sl, pn, n⟩ (kM2 g (.str s) Q) := ⟨fun h => h.2, fun h => ⟨trivial, h⟩⟩
theorem xM12 : kM2 g x Q d n = g x d (kN Q n) := id rfl
theorem xJoinL {ds : List D} {ys : List Str} (h : ds = ys.map D.str) : gJoin (.str s) (.lst ds) P ↔ (joinSz s ys ∧ P (.str (Str.join s ys))) := by
  subst h
  show (match D.txs (ys.map D.str) with | some ys => joinSz s ys ∧ P (.str (Str.join s ys)) | none => False) ↔ _
  rw [map_txs]
end
end U

set_option Elab.async false
set_option linter.all false
set_option maxRecDepth 100000
set_option maxHeartbeats 4000000
/-! Texts read: split, removeprefix, a text's signs, int(text). -/
namespace U
open PySem PySem.Spec L2
open PyProof.Rows hiding St
section
variable {X : Cx} {O0 : Ad} {H0 : Hp} {e o tg : Expr} {ua ub uo : UE} {pos apos : Pos}
/-! ### split -/
theorem rpa_of_strs {K : PySem.W.Frag} {O : Ad} {H : Hp} : ∀ (ys : List Str), RpA K O H (ys.map V.str) (ys.map D.str)
  | [] => .nil
  | y :: ys => .cons (.str y) (rpa_of_strs ys)
def gSplit : G2
  | .str a, .str b, Q => ((b.length == 0) = false ∧ a.length + 2 ≤ sizeLine) ∧ Q (.lst ((Txt.split a b).map D.str))
  | _, _, _ => False
theorem mt_splitU : MtR X "str.split" (fun x xs H Q => ∃ y, xs = [y] ∧ lR2 X.K gSplit x y H Q) := by
  intro pins s σ H x xs v us Q I rx rs ⟨y, ex, O, dx, dy, P, tr, hx, hy, hg, hP⟩
  subst ex
  refine mt_split pins s σ H x [y] v us Q I rx rs ?_
  unfold gSplit at hg
  split at hg
  · cases hx
    cases hy
    refine ⟨_, _, rfl, rfl, hg.1.1, hg.1.2, fun p hp => ?_⟩
    have sm := fun o => Same.new (o := o) hp
    exact hP _ hg.2 _ _ (sm _) (.lst ⟨nofree tr hp, upd_same⟩ ((rpa_of_strs _).keep (.same (sm _))))
  · exact hg.elim
theorem up_split (ho : UPE X O0 H0 o uo) (he : UPE X O0 H0 e ua) (hs : starEach [e] X.env = [(false, eval e X.env)] := by rfl) (hbase : attributeBase o "split" X.env (eval o X.env) = eval o X.env := by rfl) (hline : (apos.endLine == pos.line) = true := by rfl) :
    UPE X O0 H0 (.Call (.Attribute o "split" apos) [e] [] pos) (uM1 gSplit uo ua) := up_m1 F.slot_str_split F.type_str_split mt_splitU ho he hs hbase hline
/-! ### removeprefix -/
def gRmPre : G2
  | .str a, .str b, Q => a.length ≤ sizeLine ∧ Q (.str (Txt.removeprefix a b))
  | _, _, _ => False
theorem mt_rmpreU : MtR X "str.removeprefix" (fun x xs H Q => ∃ y, xs = [y] ∧ lR2 X.K gRmPre x y H Q) := by
  intro pins s σ H x xs v us Q I rx rs ⟨y, ex, O, dx, dy, P, tr, hx, hy, hg, hP⟩
  subst ex
  refine mt_removeprefix pins s σ H x [y] v us Q I rx rs ?_
  unfold gRmPre at hg
  split at hg
  · cases hx
    cases hy
    exact ⟨_, _, rfl, rfl, hg.1, hP _ hg.2 _ _ (Same.refl _) (.str _)⟩
  · exact hg.elim
theorem up_rmpre (ho : UPE X O0 H0 o uo) (he : UPE X O0 H0 e ua) (hs : starEach [e] X.env = [(false, eval e X.env)] := by rfl) (hbase : attributeBase o "removeprefix" X.env (eval o X.env) = eval o X.env := by rfl) (hline : (apos.endLine == pos.line) = true := by rfl) :
    UPE X O0 H0 (.Call (.Attribute o "removeprefix" apos) [e] [] pos) (uM1 gRmPre uo ua) := up_m1 F.slot_str_removeprefix F.type_str_removeprefix mt_rmpreU ho he hs hbase hline
/-! ### the signs of a text -/
def signsD (s : Str) : List D := s.cps.toList.map fun c => .str ⟨#[c]⟩
def uiStr (u : UE) : UI := fun ρ Q => u ρ fun d n => match d with
  | .str s => Q (signsD s) n
  | _ => False
theorem ui_str (h : UPE X O0 H0 e ua) : UPI X O0 H0 tg e (uiStr ua) := PI.imp (pi_str h) fun σ H Q ⟨ρ, P, r, hu, hP⟩ => ⟨ρ, _, r, hu, fun d n hd v H1 r1 f1 p1 => by
  cases d <;> try exact hd.elim
  cases p1
  refine ⟨_, rfl, hP _ n hd _ H1 r1 f1 fun O2 H2 k t => ⟨fun i d e => ?_, fun i hi => ?_⟩⟩
  · unfold signsD at e
    rw [List.getElem?_map, Array.getElem?_toList] at e
    obtain ⟨c, ec, rfl⟩ := Option.map_eq_some_iff.mp e
    refine ⟨(Array.getElem?_eq_some_iff.mp ec).1, fun x H3 ⟨e2, c2, e3, e4⟩ => ?_⟩
    subst e2 e4
    rw [ec] at e3
    cases e3
    exact ⟨Same.refl _, .str _⟩
  · unfold signsD at hi
    rw [List.length_map, Array.length_toList] at hi
    exact hi⟩
def gInS : G2
  | .str ⟨x⟩, .str z, Q => match x.toList with
    | [c] => Q (.bl (decide (c ∈ z.cps.toList)))
    | _ => False
  | _, _, _ => False
theorem op_inSg : OpR X (compareOp .In) (lR2 X.K gInS) := by
  intro pins s σ H x y v u Q I rx ry ⟨O, dx, dy, P, tr, hx, hy, hg, hP⟩
  unfold gInS at hg
  split at hg
  · rename_i a z
    split at hg
    · rename_i c e
      have e2 : a = #[c] := by
        obtain ⟨l⟩ := a
        exact congrArg Array.mk e
      subst e2
      cases hx
      cases hy
      exact op_in_sign pins s σ H _ _ v u Q I rx ry ⟨c, z, rfl, rfl, hP _ hg _ _ (Same.refl _) (.bl _)⟩
    · exact hg.elim
  · exact hg.elim
/-! ### int(text) -/
def gIntT : GL
  | [.str a], Q => ∃ n, PySem.intText? a = some n ∧ a.length ≤ 640 ∧ Q (.int n)
  | _, _ => False
theorem call_intT : CallR X (.type "int") (lCR X.K gIntT) := by
  intro pins s σ H xs us Q I rx ⟨O, ds, P, tr, ha, hg, hP⟩
  unfold gIntT at hg
  split at hg
  · obtain ⟨n, h1, h2, h3⟩ := hg
    cases ha with
    | cons h t => cases t; cases h; exact call_int_str pins s σ H _ us Q I rx ⟨_, n, rfl, h1, h2, hP _ h3 _ _ (Same.refl _) (.int _)⟩
  · exact hg.elim
end
/-! ### rewriting -/
section
variable {sl : List Sl} {pn : PenT} {fu n : Nat} {ρ : Ro} {L : List D → Nat → Prop} {P : D → Prop} {a : UE} {s t : Str}
def kSt (L : List D → Nat → Prop) : D → Nat → Prop := fun d n => match d with
  | .str s => L (signsD s) n
  | _ => False
theorem iSt : uiStr a ρ L = a ρ (kSt L) := id rfl
theorem iSt1 : kSt L (.str s) n = L (signsD s) n := id rfl
theorem xSplit : gSplit (.str s) (.str t) P = (((t.length == 0) = false ∧ s.length + 2 ≤ sizeLine) ∧ P (.lst ((Txt.split s t).map D.str))) := id rfl
theorem xRmPre : gRmPre (.str s) (.str t) P = (s.length ≤ sizeLine ∧ P (.str (Txt.removeprefix s t))) := id rfl
theorem xInSg {c : Nat} : gInS (.str ⟨#[c]⟩) (.str s) P = P (.bl (decide (c ∈ s.cps.toList))) := id rfl
theorem xIntT {i : Int} (h : PySem.intText? s = some i) (hl : s.length ≤ 640) : gIntT [.str s] P ↔ P (.int i) := ⟨fun ⟨n, e, _, q⟩ => by rw [h] at e; cases e; exact q, fun q => ⟨i, h, hl, q⟩⟩
end
end U

set_option Elab.async false
set_option linter.all false
set_option maxRecDepth 100000
set_option maxHeartbeats 4000000
/-! Exceptions of own classes whose own __init__ stores one field; the field read. -/
/-! ### such a class is made: what stands above it told by three facts -/
namespace PySem
namespace HandSPX
open Builtin Builtin.ObjectAttr
section
variable {M : Model} {A : Around} {E : Value → Shared → Prop} {h : Heap} {g : Array GenState} {d : Drawn} {t : Nat} {os : OsState}
variable {nm q : Str} {C N : Addr} {bs bm bmB : List Value} {hdct : Bool} {sn : List Str} {sub : List Value} {ab : Bool} {col : Option Bool} {dd : Option Addr} {k0 k1 k2 k3 k5 : Option Value} {B newId initId : String}
theorem check_new_ownW (F : ExcBaseFacts B newId initId bmB) (hB : bm.contains (.type B) = true) (hA : bm.contains (.type "AttributeError") = false) (hN : bm.contains (.type "NameError") = false) {rest : List Value} {Q : Unit → Shared → Prop}
    (hC : h.get? C = some (excClassObj nm q C N bs bm hdct sn sub ab col dd k0 k1 k2 k3 k5 newId)) (hq : Q () ⟨h, g, d, t, os⟩) : wpAny M A (checkBuiltinCall newId ⟨.ref C :: rest, []⟩) Q E ⟨h, g, d, t, os⟩ := by
  have hcont : (Value.ref C :: bm).contains (.type B) = true := by rw [List.contains_cons, hB, Bool.or_true]
  have hstar := F.noStar
  simp only [checkBuiltinCall, F.newKind, F.newSplit, F.newRow]
  repeat (first | refine wpAny_loadPart_at hC ?_ | (refine wpAny_isSubtype_exc hC ?_; rw [hcont]) | refine wpAny_staticBase_exc hC ?_ | refine wpAny_madeBy_exc hC ?_ | simp only [bne_self_eq_false, Bool.false_eq_true, if_false] | wp_step)
  exact hq
end
section
variable {prog : Program} {w : World} {A : Around} {E : Value → Shared → Prop} {R : Result → Shared → Prop} {h : Heap} {g : Array GenState} {d : Drawn} {t : Nat} {os : OsState}
variable {nm q : Str} {C N : Addr} {bs bm bmB : List Value} {hdct : Bool} {sn : List Str} {sub : List Value} {ab : Bool} {col : Option Bool} {dd : Option Addr} {k0 k1 k2 k3 k5 : Option Value} {B newId initId : String}
theorem new_ownW (F : ExcBaseFacts B newId initId bmB) (hB : bm.contains (.type B) = true) (hA : bm.contains (.type "AttributeError") = false) (hN : bm.contains (.type "NameError") = false) {rest : List Value}
    (hC : h.get? C = some (excClassObj nm q C N bs bm hdct sn sub ab col dd k0 k1 k2 k3 k5 newId))
    (hq : R (.ok (.ret (.ref (h.objs.size + 1)))) ⟨(h.push { cls := .type "tuple", data := .seq rest.toArray }).push
      { cls := .ref C, data := .fields #[.ref h.objs.size, .none, .none, .none, .bool false, .none] }, g, d, t, os⟩) (hrest : rest.length ≤ sizeLine) :
    codeAny (model prog w) A (.builtin newId ⟨.ref C :: rest, []⟩) R ⟨h, g, d, t, os⟩ := by
  have hends := F.ends
  have hcB : (Value.ref C :: bm).contains (.type B) = true := by rw [List.contains_cons, hB, Bool.or_true]
  have hcA : (Value.ref C :: bm).contains (.type "AttributeError") = false := by rw [List.contains_cons, hA]; rfl
  have hcN : (Value.ref C :: bm).contains (.type "NameError") = false := by rw [List.contains_cons, hN]; rfl
  refine codeAny_builtinAt F.entry ?_
  unfold Builtin.«BaseException.__new__»
  refine wpAt_bind ?_
  show wpAt _ _ _ (stack >>= _) _ _ _
  refine wpAt_bind (wpAt_stack fun p below => wpAt_of_wpAny ?_)
  wp_walk
  refine wpAt_of_wpAny ?_
  rw [F.owner]
  repeat (first | with_reducible refine wpAny_madeHere_exc F.canon hC ?_ | with_reducible refine wpAny_loadPart_at hC ?_ | (with_reducible refine wpAny_isSubtype_exc hC ?_; first | rw [hcB] | rw [hcA] | rw [hcN]) | wp_step)
  show R _ _
  rw [Heap.size_push]
  exact hq
theorem type_call_ownW (F : ExcBaseFacts B newId initId bmB) (hB : bm.contains (.type B) = true) (hA : bm.contains (.type "AttributeError") = false) (hN : bm.contains (.type "NameError") = false) {rest : List Value} {fI : Addr} {Q : Fin → Shared → Prop}
    (hC : h.get? C = some (excClassObj nm q C N bs bm hdct sn sub ab col dd k0 k1 k2 k3 k5 newId))
    (hi : W.Looks (model prog w) h (typeLookup (.ref C) "__init__") (some (.ref fI))) (hb : ∀ self, W.Looks (model prog w) h (bindSpecial (.ref fI) self) (.ref fI, [self])) (hrest : rest.length ≤ sizeLine)
    (hq : codeAny (model prog w) A (.call (.ref fI) ⟨.ref (h.objs.size + 1) :: rest, []⟩)
      (fun r s' => match r with | .ok (.ret v) => v = .none ∧ Q (.done (.ret (.ref (h.objs.size + 1)))) s' | .ok _ => False | .error e => E e s')
      ⟨(h.push (W.kdv_tup rest)).push (excO C h.objs.size), g, d, t, os⟩) :
    wpAny (model prog w) A (Builtin.«type.__call__» ⟨.ref C :: rest, []⟩) Q E ⟨h, g, d, t, os⟩ := by
  repeat (first | with_reducible refine wpAny_loadPart_at hC ?_ | with_reducible refine wpAny_madeBy_exc hC ?_ | wp_step)
  refine codeAny_call_builtin_code (Code.quiet_builtin _ F.quiet) (check_new_ownW F hB hA hN hC ?_)
  refine new_ownW F hB hA hN hC ?_ hrest
  show wpAny _ _ _ _ _ _
  have k : ∀ b o, h.get? b = some o → ((h.push (W.kdv_tup rest)).push (excO C h.objs.size)).get? b = some o := fun b o e => Heap.get?_push_of_some _ (Heap.get?_push_of_some _ e)
  have hC₁ := k _ _ hC
  have hget : ((h.push (W.kdv_tup rest)).push (excO C h.objs.size)).get? (h.objs.size + 1) = some (excO C h.objs.size) := by heap_get
  have hcC : (Value.ref C :: bm).contains (.ref C) = true := by simp
  have i1 := hi.keeps k
  have b1 := (hb (.ref (h.objs.size + 1))).keeps k
  unfold isInstance
  repeat (first | with_reducible refine wpAny_loadPart_at hget ?_ | (with_reducible refine wpAny_isSubtype_exc hC₁ ?_; rw [hcC]) | wp_step)
  show wpAny _ _ (typeLookup (.ref C) _) _ _ _
  refine i1.at ?_
  refine wpAny_holding (wpAny_bind (b1.at ?_))
  refine wpAny_bind (wpAny_call (codeAny_mono hq fun r s' z => ?_))
  rcases r with e | (v | _ | _ | _) <;> first | exact z | exact z.elim | skip
  obtain ⟨rfl, z⟩ := z
  first
    | exact wpAny_pure (wpAny_pure z)
    | (wp_walk; exact z)
theorem call_ownW (F : ExcBaseFacts B newId initId bmB) (hB : bm.contains (.type B) = true) (hA : bm.contains (.type "AttributeError") = false) (hN : bm.contains (.type "NameError") = false) {rest : List Value} {fI : Addr}
    (hC : h.get? C = some (excClassObj nm q C N bs bm hdct sn sub ab col dd k0 k1 k2 k3 k5 newId))
    (hi : W.Looks (model prog w) h (typeLookup (.ref C) "__init__") (some (.ref fI))) (hb : ∀ self, W.Looks (model prog w) h (bindSpecial (.ref fI) self) (.ref fI, [self])) (hrest : rest.length ≤ sizeLine)
    (hq : codeAny (model prog w) (A.under (.builtin "type.__call__" ⟨.ref C :: rest, []⟩)) (.call (.ref fI) ⟨.ref (h.objs.size + 1) :: rest, []⟩) (W.InitBack (h.objs.size + 1) R)
      ⟨(h.push (W.kdv_tup rest)).push (excO C h.objs.size), g, d, t, os⟩) :
    codeAny (model prog w) A (.call (.ref C) ⟨rest, []⟩) R ⟨h, g, d, t, os⟩ := by
  have f1 := tc_lookup
  have f2 := tc_bind (.ref C)
  have hTy : (⟨h, g, d, t, os⟩ : Shared).TypeIs (.ref C) "type" := ⟨_, hC, rfl⟩
  refine codeAny_of_tree ?_
  show wpAny _ _ (callAny (.ref C) _) _ _ _
  repeat (any_goals (first | assumption | with_reducible refine wpAny_loadPart_at hC ?_ | wp_step))
  refine ⟨rfl, ?_⟩
  refine codeAny_call_builtin_at (Code.quiet_builtin _ (by decide +kernel)) entry_typeCall (wpAny_check_type_call_sub hC (type_call_ownW F hB hA hN hC hi hb hrest ?_))
  refine codeAny_mono hq fun r s' z => ?_
  rcases r with e | (v | _ | _ | _) <;> exact z
end
end HandSPX
end PySem
namespace U
open PySem PySem.Spec L2
open PyProof.Rows hiding St
/-! ### the built-in class below -/
structure Bas where
  B : String
  newId : String
  initId : String
  bmF : List Value
  bm : List Value
  F : ExcBaseFacts B newId initId bmF
  hB : bm.contains (.type B) = true
  hA : bm.contains (.type "AttributeError") = false
  hN : bm.contains (.type "NameError") = false
  pass : ∀ self : Value, refuseLoop self "__setattr__" bm = pure ()
  ob : bm.contains (.type "object") = true
def basVE : Bas := ⟨"ValueError", _, _, _, _, F.excBase_ValueError, by decide +kernel, by decide +kernel, by decide +kernel, F.store_ValueError.passes, by decide +kernel⟩
/-! ### a store, past the classes' descriptors -/
section
open PySem.W PySem.Calls PyProof.Rows PySem.HandSPX Builtin Builtin.ObjectAttr
variable {prog : Program} {w : World} {A : Around} {E : Value → Shared → Prop} {R : Result → Shared → Prop} {hp : Heap} {g : Array GenState} {d : Drawn} {t : Nat} {os : OsState}
theorem excTail_ne {bmB : List Value} (hb : bmB.isEmpty = false) : ∀ {l : List Value}, excTail bmB l = true → l.isEmpty = false
  | [], e => by rw [← show [] = bmB from beq_iff_eq.mp e] at hb; cases hb
  | _ :: _, _ => rfl
theorem bas_ne (b : Bas) : b.bm.isEmpty = false := by
  have := b.ob
  cases e : b.bm with
  | nil => rw [e] at this; cases this
  | cons x l => rfl
theorem exc_osaB (b : Bas) {K : W.Frag} {name : Str} {tk : Tok} {v : Value} {x C : Addr} {fv : Array Value} {cd : ClassData}
    (X : K.In hp) (hx : hp.get? x = some { cls := .ref C, data := .fields fv }) (hcd : W.clsIn K C = some cd) (hm : excTail b.bm cd.mro = true) (hh : cd.hasDict = true) (ha : W.findIn K (.ref C) name = some none)
    (hq : ∀ h' tk' dx, (∀ b o, b ≠ x → hp.get? b = some o → h'.get? b = some o) → hp.objs.size ≤ dx → dx ≠ x → h'.get? x = some { cls := .ref C, dict := some dx, data := .fields fv } →
      h'.Ns1 dx (fun y => if y = name then some v else none) → R (.ok (.ret .none)) ⟨h', g, d, tk', os⟩) :
    codeAny (model prog w) A (.call (.builtin "object.__setattr__") ⟨[.ref x, .str name tk, v], []⟩) R ⟨hp, g, d, t, os⟩ := by
  have I : W.InstAt hp x { cls := .ref C, data := .fields fv } C none := ⟨hx, rfl, rfl, trivial⟩
  have SF := F.store_object
  have ne := excTail_ne (bas_ne b) hm
  have hob : cd.mro.contains (.type "object") = true := (excTail_contains "object" _ hm).trans b.ob
  have hxs : x ≠ hp.objs.size := Nat.ne_of_lt (Heap.lt_size hx)
  have sub : W.Looks (model prog w) hp (isInstance (.ref x) (.type "object")) true := I.type.andThen (W.looks_mroIn X (by unfold W.mroIn; rw [hcd, Option.bind_some, if_neg (by rw [ne]; decide), hob]))
  refine codeAny_call_builtin SF.slot.plain SF.entry (@W.check_slot (model prog w) _ _ ⟨hp, g, d, t, os⟩ "object.__setattr__" "object" "__setattr__" (.ref x) [.str name tk, v] [] _ SF.kind SF.split sub (SF.args (.ref x) (.str name tk) v) ?_)
  have hmr : W.Looks (model prog w) hp (mroOf (.ref C)) cd.mro := (W.looks_clsIn X hcd).andThen .now
  have L3 : W.Looks (model prog w) hp (storeTaker? none) none := .now
  have hcls : W.Looks (model prog w) hp (classData C) cd := W.looks_clsIn X hcd
  rw [W.osa_eq, refuse_eq]
  refine wpAny_bind (wpAny_bind (I.type.at (wpAny_bind (hmr.at ?_))))
  rw [excTail_pass _ (b.pass _) _ hm]
  refine wpAny_pure (wpAny_bind (I.type.at (wpAny_bind ((W.looks_findIn X ha).at (wpAny_bind (L3.at ?_))))))
  show wpAny _ _ (storeInOwnDict (.ref x) (.ref C) (.str name tk) name v false) _ _ _
  obtain ⟨nm, bs, mro, ns, qn, hd, sn, sb, ab, col, del⟩ := cd
  dsimp only at hh
  subst hh
  unfold storeInOwnDict ownDictForStores
  repeat (first | with_reducible refine store_in_new ?_ ?_ | with_reducible refine wpAny_loadPart_at hx ?_ | with_reducible refine hcls.at ?_ | wp_step)
  · exact ⟨_, #[], _, (Heap.get?_update_ne _ _ _ _ hxs.symm).trans (Heap.get?_push_at rfl rfl), rfl, fun e he => absurd he (by simp), fun _ => rfl⟩
  · intro h' tk' hn' hs
    have hx₁ : (hp.push { cls := .type "dict", data := .dict #[] }).get? x = some { cls := .ref C, data := .fields fv } := Heap.get?_push_of_some _ hx
    refine hq h' tk' hp.objs.size (fun b o hb ho => ?_) (Nat.le_refl _) hxs.symm ?_ hn'
    · exact (hs.2 b (Nat.ne_of_lt (Heap.lt_size ho))).trans ((Heap.get?_update_ne _ _ _ _ hb).trans (Heap.get?_push_of_some _ ho))
    · exact (hs.2 x hxs).trans (Heap.get?_update_self _ hx₁ rfl)
end
/-! ### the class -/
structure OexG (K : PySem.W.Frag) (C : Addr) (b : Bas) : Prop where
  cls : ∃ nm q N bs bm sn sub ab col dd k0 k1 k2 k3 k5, K.lookup C = some (excClassObj nm q C N bs bm true sn sub ab col dd k0 k1 k2 k3 k5 b.newId) ∧ PySem.W.excTail b.bm bm = true
  sa : PySem.W.findIn K (.ref C) "__setattr__" = some (some (.builtin "object.__setattr__"))
  exC : PySem.W.subIn K (.ref C) (.type "BaseException") = some true
  tyC : PySem.W.typeIn K (.ref C) = some (.type "type")
  kC : PySem.W.keepIn K (.ref C) = true
section
variable {X : Cx} {pins : List (Addr × Obj)} {σ : L2.St} {H : Hp} {s : Shared} {a C dx : Addr} {f : Str} {y : V} {u : Value} {fs : List (Str × V)} {Q : Unit → Shared → Prop} {E : Value → Shared → Prop} {A : Around} {b : Bas}
/-- self.f = y, the first one -/
theorem ost_newG (T : OexG X.K C b) (I : Inv X pins σ H s) (e : H a = some (exo a C none)) (hno : PySem.W.findIn X.K (.ref C) f = some none) (ry : RelV y u)
    (h : ∀ dx s', H dx = none → dx ≠ a → Inv X pins σ (upd (upd H dx (exd dx [(f, y)])) a (exo a C (some dx))) s' → Q () s') : wpAny (model X.prog X.w) A (setAttr (.ref a) f u) Q E s := by
  obtain ⟨nm, q, N, bs, bm, sn, sub, ab, col, dd, k0, k1, k2, k3, k5, hC, hbm⟩ := T.cls
  have hcl : PySem.W.clsIn X.K C = some { name := nm, bases := bs, mro := .ref C :: bm, ns := N, qualname := q, hasDict := true, slotNames := sn, subclasses := sub, abstract := ab, collection := col, hasDel := false } := by unfold PySem.W.clsIn; rw [hC] <;> rfl
  obtain ⟨t1, ho⟩ := exo_at I.hok e
  obtain ⟨hp, g, d, t, os⟩ := s
  refine PySem.W.set_plain I.kIn (ox := { cls := .ref C, dict := none, data := .fields #[.ref t1, .none, .none, .none, .bool false, .none] }) (od := none) ⟨ho, rfl, rfl, trivial⟩ T.sa ?_
  refine exc_osaB b I.kIn ho hcl (show PySem.W.excTail b.bm (.ref C :: bm) = true from hbm) rfl hno (fun h' tk' dx k dn dne hx hn => ?_)
  have hnd : H dx = none := I.hok.fresh dn
  have nd : ∀ {b : Addr} {o : Obj}, hp.get? b = some o → b ≠ dx := fun {b o} q => Nat.ne_of_lt (Nat.lt_of_lt_of_le (Heap.lt_size q) dn)
  have na : ∀ {b : Addr}, H b = none → b ≠ a := fun {b} n z => by
    rw [z, e] at n
    cases n
  have Un1 : Un X.fs [] H (upd (upd H dx (exd dx [(f, y)])) a (exo a C (some dx))) hp h' := {
    keep := fun b o q n _ _ => k b o (na n) q
    slot := fun b o q n _ _ => ⟨o.slots, k b o (na n) q⟩
    free := fun b o q n _ => by rw [upd_ne (na n), upd_ne (nd q)]; exact n
    there := fun b o q _ => by
      by_cases hb : b = a
      · exact ⟨_, by rw [hb]; exact hx⟩
      · exact ⟨o, k b o hb q⟩
    tups := fun b xs q => by rw [upd_ne (at_ne e q exo_tup), upd_ne (ne_of_none q hnd)]; exact q
    frzs := fun b o v q => by rw [upd_ne (at_ne e q exo_frz), upd_ne (ne_of_none q hnd)]; exact q
    tbls := fun b ps q => ⟨#[], by rw [upd_ne (at_ne e q exo_tbl), upd_ne (ne_of_none q hnd), q]; simp⟩ }
  refine h dx _ hnd dne (I.un (t' := tk') Un1 fun b o q => ?_)
  by_cases hb : b = a
  · subst hb
    rw [upd_same] at q
    cases q
    exact exo_ok hx
  · rw [upd_ne hb] at q
    by_cases hd : b = dx
    · subst hd
      rw [upd_same] at q
      cases q
      exact exd_ok hn (relO_put (fs := []) ry fun g => True.intro)
    · rw [upd_ne hd] at q
      exact (I.hok b o q).stay (fun c v hc z => k c v (by
          rcases hc with hc | hc
          · rw [hc]
            exact hb
          · exact at_ne e hc exo_own) z)
        (fun c hc => by rw [upd_ne (at_ne e hc exo_own), upd_ne (ne_of_none hc hnd)]; exact hc) (fun c xs hc => by rw [upd_ne (at_ne e hc exo_tup), upd_ne (ne_of_none hc hnd)]; exact hc)
end
theorem RG.make {k : Nat} {A : Around} (r : RG (k + 1) A) (C : Addr) (us : List Value) (kw : List (Str × Value)) : RG k (A.under (.builtin "type.__call__" ⟨.ref C :: us, kw⟩)) := ⟨r.room.make C us kw, r.gd⟩
/-- self.f = e, in the __init__ of a class over b -/
def tOstG (K : PySem.W.Frag) (b : Bas) (f : Str) (to te : TE) : TS := fun D σ H => te σ H fun y H1 => to σ H1 fun x H2 => ∃ a C : Addr, x = .ref a ∧ OexG K C b ∧ PySem.W.findIn K (.ref C) f = some none ∧
  H2 a = some (exo a C none) ∧ ∀ dx, H2 dx = none → dx ≠ a → D.nx σ (upd (upd H2 dx (exd dx [(f, y)])) a (exo a C (some dx)))
section
variable {X : Cx} {o e : Expr} {es : List Expr} {to te : TE} {ta : TA} {f : Str} {p p' p1 p2 pos : Pos} {b : Bas}
theorem ps_ostG (ho : PE X o to) (he : PE X e te) (hs : swapsWith e (some (.Attribute o f p')) pos.line X.env = pure false := by rfl) : PS X (.Assign [.Attribute o f p'] e pos) (tOstG X.K b f to te) := by
  refine ⟨fun pins s σ H D I h => ?_⟩
  refine plainObj_wpAny_Assign_Attribute (thn (he.run pins s σ H _ I h) fun v s1 ⟨y, H1, I1, r1, q1⟩ => thn (ho.run pins s1 σ H1 _ I1 q1) fun u s2 ⟨x, H2, I2, r2, a, C, ex, T, hno, ea, q⟩ => ?_) hs
  subst ex
  obtain rfl : u = Value.ref a := r2
  exact ost_newG T I2 ea hno r1 fun dx s' n ne J => ⟨σ, _, J, q dx n ne⟩
theorem pmk_oexG {x : Str} {C fI : Addr} {k : Nat} {fd : FuncData} {ps : List Str} {sp : Sp} {ds : List Value} {dvs : List V} (T : OexG X.K C b) (iC : PySem.W.findIn X.K (.ref C) "__init__" = some (some (.ref fI))) (tI : PySem.W.typeIn X.K (.ref fI) = some (.type "function"))
    (F1 : FnG X.prog X.w X.K X.mg X.base k fI fd ps sp) (hr : RG (k + 1) X.A) (hb : Binds X.K fd ps ds) (hd : Vals dvs ds) (hx : ∀ σ, PassesAt (L2.CX X.prog X.w) X σ (fun _ _ _ => False)) (hg : Gl X x) (hm : X.mg x = some (.ref C)) (ha : PA X (e :: es) ta)
    (hdb : (x == ("__debug__" : Str)) = false := by decide) (he : starEach (e :: es) X.env = (false, eval e X.env) :: starEach es X.env := by rfl) (hpl : (backTo pos (starEach es X.env)).any (·.1) = false := by rfl) :
    PMk X (.Call (.Name x p) (e :: es) [] pos) (tMkO C sp dvs ta) := by
  intro pins s σ H Q I h
  obtain ⟨nm, q, N, bs, bm, sn, sub, ab, col, dd, k0, k1, k2, k3, k5, hC, hbm⟩ := T.cls
  refine wpAny_Call_Name_kw (ld_glob I hg hm ?_ hdb)
  refine PySem.W.callWith_K (h₀ := X.base) I.ok.mod.kin T.kC (thn (ha.run pos pins s σ H _ I h) fun us s1 ⟨vs, H1, I1, r1, hz, q1⟩ => ⟨I1.kIn, ?_⟩) he hpl
  show wpAny _ _ (call (.ref C) us) _ _ _
  obtain ⟨hp, g, dr, tk, os⟩ := s1
  have hsz : hp.objs.size ≤ hp.objs.size + 1 := Nat.le_succ _
  have hn : H1 (hp.objs.size + 1) = none := I1.hok.fresh hsz
  have hq := q1 (hp.objs.size + 1) hn
  have kk : ∀ b o, hp.get? b = some o → ((hp.push (PySem.W.kdv_tup us)).push (PySem.HandSPX.excO C hp.objs.size)).get? b = some o := fun b o e => Heap.get?_push_of_some _ (Heap.get?_push_of_some _ e)
  have hget : ((hp.push (PySem.W.kdv_tup us)).push (PySem.HandSPX.excO C hp.objs.size)).get? (hp.objs.size + 1) = some (PySem.HandSPX.excO C hp.objs.size) := by heap_get
  have I2 : Inv X pins σ (upd H1 (hp.objs.size + 1) (exo (hp.objs.size + 1) C none)) ⟨(hp.push (PySem.W.kdv_tup us)).push (PySem.HandSPX.excO C hp.objs.size), g, dr, tk, os⟩ :=
    I1.laid (t' := tk) (a := hp.objs.size + 1) (o := exo (hp.objs.size + 1) C none) (h' := (hp.push (PySem.W.kdv_tup us)).push (PySem.HandSPX.excO C hp.objs.size)) kk hsz (exo_ok hget)
  have r2 : Vals (V.ref (hp.objs.size + 1) :: (vs ++ dvs)) (Value.ref (hp.objs.size + 1) :: (us ++ ds)) := .cons rfl (r1.append hd)
  have hl : (Value.ref (hp.objs.size + 1) :: us ++ ds).length = ps.length := by
    have e := r2.length
    rw [F1.len _ _ _ _ hq] at e
    exact e.symm
  have hus : us.length ≤ sizeLine := by
    rw [← Paired.length r1, sizeLine_eq]
    omega
  refine wpAny_call (PySem.HandSPX.call_ownW b.F ((PySem.W.excTail_contains _ bm hbm).trans b.hB) ((PySem.W.excTail_contains _ bm hbm).trans b.hA) ((PySem.W.excTail_contains _ bm hbm).trans b.hN) (I1.kIn _ _ hC) (PySem.W.looks_findIn I1.kIn iC) (fun self => PySem.W.bind_fn I1.kIn self tI) hus
    (codeAny_mono (F1.run _ X.stack _ _ ⟨Value.ref (hp.objs.size + 1) :: us, []⟩ (Value.ref (hp.objs.size + 1) :: (us ++ ds)) _ _ (fun _ _ _ => False) (RG.make hr C us []) (I2.env0.make C us []) (hb _ (Value.ref (hp.objs.size + 1) :: us) I2.kIn hl) r2 hq) fun r s' hq' => ?_))
  cases r with
  | error er => exact hx σ pins _ _ er s' I2 hq'
  | ok fl =>
    cases fl with
    | ret u =>
      obtain ⟨v, H2, os2, bare2, un2, hok2, rv, ev, d, fs, ea, ed, hd1, q2⟩ := hq'
      subst ev
      obtain ⟨h2, g2, d2, t2, os'⟩ := s'
      exact ⟨rv, mk_end (raises_own T.exC T.tyC) I1 hsz kk un2 hok2 os2 bare2 ea ed hd1 q2⟩
    | next => exact False.elim hq'
    | brk => exact False.elim hq'
    | cont => exact False.elim hq'
end
/-- the promise of such an __init__ -/
def spI (K : PySem.W.Frag) (b : Bas) (f : Str) : Sp := fun vs H Q _ => ∃ (a C : Addr) (v : V), vs = [.ref a, v] ∧ OexG K C b ∧ PySem.W.findIn K (.ref C) f = some none ∧ H a = some (exo a C none) ∧ ∀ dx, H dx = none → dx ≠ a → Q .non (upd (upd H dx (exd dx [(f, v)])) a (exo a C (some dx)))
/-- raise X(e) -/
def uRaiseF (c : Cn) (f : Str) (W : WU) (a : UE) : US := fun _ ρ => a ρ fun d n => W ⟨c, some [(f, d)]⟩ (ρ.f n)
section
variable {X : Cx} {O0 : Ad} {H0 : Hp} {e : Expr} {ua : UE} {W : WU} {b : Bas}
theorem us_raiseF {x f : Str} {k : Nat} {fI : Addr} {fd : FuncData} {p pos pos2 : Pos} (hc : X.calm = true) (tk : Takes X (LW X.K O0 H0 W)) (T : OexG X.K (He.ga X.K x) b)
    (iC : PySem.W.findIn X.K (.ref (He.ga X.K x)) "__init__" = some (some (.ref fI))) (tI : PySem.W.typeIn X.K (.ref fI) = some (.type "function")) (no : PySem.W.findIn X.K (.ref (He.ga X.K x)) f = some none)
    (F1 : FnG X.prog X.w X.K X.mg X.base k fI fd ["self", f] (spI X.K b f)) (hb : Binds X.K fd ["self", f] []) (hr : RG (k + 1) X.A) (hg : Gl X x) (gC : X.mg x = some (.ref (He.ga X.K x))) (he : UPE X O0 H0 e ua)
    (hdb : (x == ("__debug__" : Str)) = false := by decide) (hs : starEach [e] X.env = (false, eval e X.env) :: starEach [] X.env := by rfl) :
    UPS X O0 H0 (.Raise (some (.Call (.Name x p) [e] [] pos)) none pos2) (uRaiseF (.own x) f W ua) := by
  refine PS.imp (ps_raise hc tk (pmk_oexG T iC tI F1 hr hb .nil (fun σ pins H s e s' I c => by obtain ⟨a, B, H', cls, d, _, _, _, _, _, _, _, z⟩ := c; exact z.elim) hg gC (pa_cons he pa_nil hs) hdb hs (by rfl))) ?_
  rintro σ H D ⟨ρ, E, r, hu, _⟩
  refine ⟨ρ, _, r, hu, fun d n hd v H1 r1 f1 p1 => ⟨by simp, fun a na => ⟨a, _, v, rfl, T, no, upd_same, fun dx hdx hne => ⟨rfl, dx, [(f, v)], upd_same, ?_, ?_, ?_⟩⟩⟩⟩
  · rw [upd_ne hne, upd_same]
  · rw [upd_ne hne] at hdx
    exact hdx
  · rw [upd_ne hne] at hdx
    have sm : Same H1 (upd (del (upd (upd (upd H1 a (exo a (He.ga X.K x) none)) dx (exd dx [(f, v)])) a (exo a (He.ga X.K x) (some dx))) a) dx (.xd [(f, v)])) := fun c o hc => by
      have n1 : c ≠ dx := ne_of_none hc hdx
      have n2 : c ≠ a := ne_of_none hc na
      rw [upd_ne n1, del_ne n2, upd_ne n2, upd_ne n1, upd_ne n2]
      exact hc
    refine ⟨ρ.f n, ⟨.own x, some [(f, d)]⟩, r1.same sm, rfl, ⟨dx, [(f, v)], rfl, fun z => r1.tr dx z hdx, upd_same, .cons (p1.keep (.same sm)) .nil⟩, hd⟩
end
/-- its __init__, read -/
theorem init_read {K : PySem.W.Frag} {b : Bas} {f : Str} {vs : List V} {H : Hp} {Q : VK} {E : XK} (h : spI K b f vs H Q E) : tSeq (tOstG K b f (tVar 0) (tVar 1)) tNext { nx := fun _ H' => Q .non H', rt := Q } (L2.start ["self", f] vs) H := by
  obtain ⟨a, C, v, rfl, T, no, ha, q⟩ := h
  exact ⟨v, rfl, .ref a, rfl, a, C, rfl, T, no, ha, fun dx n ne => q dx n ne⟩
/-! ### a field read -/
theorem RpF.look {K : PySem.W.Frag} {O : Ad} {H : Hp} {f : Str} {d : D} : ∀ {vs : List (Str × V)} {fs : List (Str × D)}, RpF K O H vs fs → fs.lookup f = some d → ∃ v, vs.lookup f = some v ∧ Rp K O H v d
  | [], _, h, e => by cases h; cases e
  | (g, v) :: vs, _, h, e => by
    cases h with
    | @cons _ _ _ d' ds a r =>
      by_cases q : f = g
      · subst q
        have e2 : List.lookup f ((f, d') :: ds) = some d' := by simp [List.lookup]
        rw [e2] at e
        cases e
        exact ⟨v, by simp [List.lookup], a⟩
      · have qf : (f == g) = false := by simpa using q
        have e2 : List.lookup f ((g, d') :: ds) = List.lookup f ds := by simp [List.lookup, qf]
        rw [e2] at e
        obtain ⟨v', h1, h2⟩ := RpF.look r e
        exact ⟨v', by simp [List.lookup, qf, h1], h2⟩
def gFld (cs : List Str) (f : Str) : D → (D → Prop) → Prop
  | .exc (.own c) fs, Q => c ∈ cs ∧ ∃ d, fs.lookup f = some d ∧ Q d
  | _, _ => False
def uFld (cs : List Str) (f : Str) (a : UE) : UE := uUn (gFld cs f) a
section
variable {X : Cx} {O0 : Ad} {H0 : Hp} {e : Expr} {ua : UE}
theorem up_fld {T : XT} {bs : List String} {cs : List Str} {f : Str} {pos : Pos} (F : XF X.K T bs) (hc : ∀ c ∈ cs, inX T bs (.own c) = true ∧ PySem.W.findIn X.K (.ref (He.ga X.K c)) f = some none) (he : UPE X O0 H0 e ua)
    (hb : attributeBase e f X.env (eval e X.env) = eval e X.env := by rfl) : UPE X O0 H0 (.Attribute e f pos) (uFld cs f ua) := by
  refine ⟨fun pins s σ H Q I ⟨ρ, P, r, hu, hP⟩ => ?_⟩
  refine attr_of hb (thn (he.run pins s σ H (fun v H1 => ∃ d n, R X.K O0 H0 σ H1 (ρ.f n) ∧ Frm ρ.pen H H1 ∧ Rp X.K (OO O0 ρ) H1 v d ∧ gFld cs f d fun z => P z n) I ⟨ρ, _, r, hu, fun d n hd v H1 r1 f1 p1 => ⟨d, n, r1, f1, p1, hd⟩⟩) fun u s1 ⟨v, H1, I1, rv, d, n, r1, f1, p1, hg⟩ => ?_)
  unfold gFld at hg
  split at hg
  · rename_i c fs
    obtain ⟨hm, z, hz, hq⟩ := hg
    obtain ⟨h1, h2⟩ := hc c hm
    have C := F.c c h1
    obtain ⟨a, ox, od, rfl, J, q⟩ := exc_inst I1 p1
    obtain rfl : u = Value.ref a := rv
    rcases q with ⟨_, rfl⟩ | ⟨oo, vs, rfl, rf, lk⟩
    · cases hz
    · obtain ⟨v, e1, pv⟩ := RpF.look rf hz
      obtain ⟨rl, r0, e0⟩ := lk f
      rw [e1] at rl
      have rl : RelO (some v) ((PySem.W.lookIn f oo).getD none) := rl
      rw [e0] at rl
      cases r0 with
      | none => exact rl.elim
      | some uv =>
        have ru : RelV v uv := rl
        exact PySem.HandSPX.exc_get I1.kIn J C.hg C.hk C.hs (PySem.W.findObj_own C.hd h2 rfl (by rw [e0])) (handed_of ru) ⟨v, H1, I1.tok _, ru, hP z n hq v H1 r1 f1 pv⟩
  · exact hg.elim
end
/-! ### rewriting -/
theorem sRaiseF {c : Cn} {f : Str} {W : WU} {a : UE} {E : UEnds} {ρ : Ro} : uRaiseF c f W a E ρ = a ρ (fun d n => W ⟨c, some [(f, d)]⟩ (ρ.f n)) := id rfl
theorem xFld {cs : List Str} {f : Str} {a : UE} : uFld cs f a = uUn (gFld cs f) a := id rfl
theorem xFld1 {cs : List Str} {f c : Str} {fs : List (Str × D)} {d : D} {Q : D → Prop} (hc : c ∈ cs) (h : fs.lookup f = some d) : gFld cs f (.exc (.own c) fs) Q ↔ Q d := ⟨fun ⟨_, z, e, q⟩ => by rw [h] at e; cases e; exact q, fun q => ⟨hc, d, h, q⟩⟩
end U

set_option Elab.async false
set_option linter.all false
set_option maxRecDepth 100000
set_option maxHeartbeats 4000000
/-! A lambda without parameters handed to a def of the module that calls it. -/
namespace U
open PySem PySem.Spec L2 LamX
open PyProof.Rows hiding St
/-! ### the maker's frame, its own lists out of sight -/
def hideS : List Sl → List Sl
  | [] => []
  | .own _ _ :: r => .emp :: hideS r
  | .tre _ _ :: r => .emp :: hideS r
  | .emp :: r => .emp :: hideS r
  | .dat d :: r => .dat d :: hideS r
theorem hideS_get : ∀ {sl : List Sl} {i : Nat} {s : Sl}, (hideS sl)[i]? = some s → s = .emp ∨ ∃ d, s = .dat d ∧ sl[i]? = some (.dat d)
  | [], i, s, h => by simp [hideS] at h
  | .own _ _ :: r, 0, s, h => by cases (Option.some.inj h); exact .inl rfl
  | .tre _ _ :: r, 0, s, h => by cases (Option.some.inj h); exact .inl rfl
  | .emp :: r, 0, s, h => by cases (Option.some.inj h); exact .inl rfl
  | .dat d :: r, 0, s, h => by cases (Option.some.inj h); exact .inr ⟨d, rfl, rfl⟩
  | .own _ _ :: r, i + 1, s, h => by
    have := hideS_get (sl := r) (i := i) (s := s) (by simpa [hideS] using h)
    simpa using this
  | .tre _ _ :: r, i + 1, s, h => by
    have := hideS_get (sl := r) (i := i) (s := s) (by simpa [hideS] using h)
    simpa using this
  | .emp :: r, i + 1, s, h => by
    have := hideS_get (sl := r) (i := i) (s := s) (by simpa [hideS] using h)
    simpa using this
  | .dat _ :: r, i + 1, s, h => by
    have := hideS_get (sl := r) (i := i) (s := s) (by simpa [hideS] using h)
    simpa using this
theorem hideS_len : ∀ sl : List Sl, (hideS sl).length = sl.length
  | [] => rfl
  | .own _ _ :: r => congrArg (· + 1) (hideS_len r)
  | .tre _ _ :: r => congrArg (· + 1) (hideS_len r)
  | .emp :: r => congrArg (· + 1) (hideS_len r)
  | .dat _ :: r => congrArg (· + 1) (hideS_len r)
/-- seen from further on: what stood at H stands, the addresses O' are new ones -/
theorem R.hide {K : PySem.W.Frag} {O0 O' : Ad} {H0 H H' : Hp} {σ : L2.St} {ρ : Ro} {n : Nat} (r : R K O0 H0 σ H ρ) (f : Frm ρ.pen H H') (hp : ∀ b, IsPen ρ.pen b → O' b) (tr : ∀ b, O' b → H' b ≠ none) (new : ∀ b o, H b = some o → ¬ OO O0 ρ b → ¬ O' b) (pn : Pen K O' H' ρ.pen n) :
    R K O' H' σ H' ⟨hideS ρ.sl, ρ.pen, n⟩ := by
  have noown : ∀ (i : Nat) a c, (hideS ρ.sl)[i]? = some (.own a c) → False := fun i a c e => by
    rcases hideS_get e with z | ⟨_, z, _⟩ <;> cases z
  have notre : ∀ (i : Nat) as d, (hideS ρ.sl)[i]? = some (.tre as d) → False := fun i as d e => by
    rcases hideS_get e with z | ⟨_, z, _⟩ <;> cases z
  have oo : ∀ b, OO O' ⟨hideS ρ.sl, ρ.pen, n⟩ b → O' b := fun b h => by
    rcases h with h | h | ⟨i, c, h⟩ | ⟨i, as, d, h, _⟩
    · exact h
    · exact hp b h
    · exact (noown i b c h).elim
    · exact (notre i as d h).elim
  have k : Keeps (OO O0 ρ) (OO O' ⟨hideS ρ.sl, ρ.pen, n⟩) H H' := ⟨fun b o h nb => f b o h fun z => nb (OO.pen b z), fun b o h nb z => new b o h nb (oo b z)⟩
  refine ⟨by rw [r.len]; exact (hideS_len ρ.sl).symm, fun i d e => ?_, fun i a c e => (noown i a c e).elim, fun i j a c d e _ => (noown i a c e).elim, Frm.refl, fun b h => tr b (oo b h), pn.less oo, Trees.none notre⟩
  rcases hideS_get e with z | ⟨d', z, e'⟩
  · cases z
  · cases z
    obtain ⟨v, h1, h2⟩ := r.dat i _ e'
    exact ⟨v, h1, h2.keep k⟩
/-! ### a lambda is made -/
section
variable {X : Cx} {pins : List (Addr × Obj)} {σ : L2.St} {H : Hp} {s : Shared}
theorem lam_makeU {T : List (Addr × Str)} {c P : Addr} {params : Arguments} {body : Expr} {scope : Scope} {pos : Pos} {E : Value → Shared → Prop} {Q : Value → Shared → Prop} (I : Inv X pins σ H s) (TB : TabB X.base X.mg c P) (hcode : X.env.code = .ref c)
    (hm : (P, X.env.qual ++ "<lambda>") ∈ T) (hu : ∀ p ∈ T, p.1 = P → p.2 = X.env.qual ++ "<lambda>") (hT : Tabs T H) (hdef : defaultsOf params X.env = ([], [])) (hfree : ∀ y ∈ scope.names, y.2 = .free → ∃ c, X.env.cells.lookup y.1 = some c)
    (h : ∀ (f c' : Addr) (pm ctv : Value) (H1 : Hp) (s' : Shared), Inv X pins σ H1 s' → (∀ b o, H b = some o → b ≠ P → H1 b = some o) → Tabs T H1 →
      s'.heap.get? f = some (PySem.W.kla_obj "<lambda>" (X.env.qual ++ "<lambda>") params body scope (cloFrom X.env.cells scope.names []) pm c' ctv) → H1 f = none → f ∉ frs X.stack → H1 c' = some (CodeO c' (X.env.qual ++ "<lambda>")) → Q (.ref f) s') :
    wpAny (model X.prog X.w) X.A (eval (.Lambda params body scope pos) X.env) Q E s := by
  obtain ⟨ps, hP, ht, ha⟩ := hT _ hm
  refine PySem.W.kla_eval hdef ?_
  have bP : s.heap.BuiltinsAt X.mg P := TB.bm.keeps I.bk
  have hP' : s.heap.get? P = some { cls := .none, data := .fields ps } := I.hok P _ hP
  have nofr : ∀ f, s.heap.objs.size ≤ f → f ∉ frs X.stack := fun f hf z => by
    rcases List.mem_cons.mp (I.stkSub _ z) with e | e
    · have h1 := I.lt
      rw [← e] at h1
      exact Nat.lt_irrefl _ (Nat.lt_of_lt_of_le h1 hf)
    · exact I.nofs hf e
  cases hc : codeAmong pos ps.toList with
  | none =>
    refine PySem.W.kla_makeFunction (mg := X.mg) (c := c) (P := P) (ps := ps) (closure_ok hfree) I.ok.glob (I.mod.glob.keeps I.bk) hcode (TB.code.keeps I.bk) hP' ht hc TB.gP bP fun c' ctv h' tk hx hge hlt hrec htb => ?_
    obtain ⟨c2, oc, vs, t, e2, hoc, hd, hv⟩ := hrec
    cases e2
    have hsz : s.heap.objs.size ≤ h'.objs.size := Nat.le_trans hge (Nat.le_of_lt hlt)
    have nC : H c' = none := I.hok.fresh hge
    have I1 := inv_table (t' := tk) (more := #[rawInt pos.line, rawInt pos.col, .ref c']) (h' := h'.push (PySem.W.kla_obj "<lambda>" (X.env.qual ++ "<lambda>") params body scope (cloFrom X.env.cells scope.names []) ((X.mg "__name__").getD .none) c' ctv)) I hP
      (fun b o hb e => Heap.get?_push_of_some _ (hx b o hb e)) (Heap.get?_push_of_some _ htb) hge ⟨oc, vs, t, Heap.get?_push_of_some _ hoc, hd, hv⟩
    have hE : ∀ b o, H b = some o → b ≠ P → (upd (upd H P (.tbl (ps ++ #[rawInt pos.line, rawInt pos.col, .ref c']))) c' (CodeO c' (X.env.qual ++ "<lambda>"))) b = some o := fun b o e n => by
      rw [upd_ne (ne_of_none e nC), upd_ne n]
      exact e
    have hEc : ∀ (b : Addr) q, H b = some (CodeO b q) → b ≠ P := fun b q e z => by
      rw [z, hP] at e
      exact codeO_ne ps (Option.some.inj e).symm
    have eL : (ps ++ #[rawInt pos.line, rawInt pos.col, .ref c']).toList = ps.toList ++ [rawInt pos.line, rawInt pos.col, .ref c'] := by simp
    refine h h'.objs.size c' ((X.mg "__name__").getD .none) ctv _ _ I1 hE (fun p hp => ?_) (Heap.get?_push_size _ rfl) ?_ (nofr _ hsz) upd_same
    · by_cases hb : p.1 = P
      · rw [hu p hp hb, hb]
        refine ⟨_, by rw [upd_ne (ne_of_none hP nC), upd_same], by rw [eL]; exact PySem.TriplesOk_snoc _ _ _ _ ht, fun p' cv hcv => ?_⟩
        rw [eL] at hcv
        rcases among_app _ ht hcv with z | z
        · obtain ⟨c0, e1, e2⟩ := ha p' cv z
          exact ⟨c0, e1, hE _ _ e2 (hEc _ _ e2)⟩
        · exact ⟨c', z, upd_same⟩
      · obtain ⟨ps', a1, a2, a3⟩ := hT p hp
        refine ⟨ps', by rw [upd_ne (ne_of_none a1 nC), upd_ne hb]; exact a1, a2, fun p' cv hcv => ?_⟩
        obtain ⟨c0, e1, e2⟩ := a3 p' cv hcv
        exact ⟨c0, e1, hE _ _ e2 (hEc _ _ e2)⟩
    · have n1 : h'.objs.size ≠ c' := Nat.ne_of_gt hlt
      have n2 : h'.objs.size ≠ P := Nat.ne_of_gt (Nat.lt_of_lt_of_le (Heap.lt_size hP') hsz)
      rw [upd_ne n1, upd_ne n2]
      exact I.hok.fresh hsz
  | some cv =>
    obtain ⟨c', e, hco⟩ := ha pos cv hc
    subst e
    refine PySem.W.kla_makeFunctionHit (mg := X.mg) (c := c) (P := P) (ps := ps) (closure_ok hfree) I.ok.glob (I.mod.glob.keeps I.bk) hcode (TB.code.keeps I.bk) hP' ht hc bP fun ctv h' tk hx hsz => ?_
    have I1 : Inv X pins σ H { s with heap := h'.push (PySem.W.kla_obj "<lambda>" (X.env.qual ++ "<lambda>") params body scope (cloFrom X.env.cells scope.names []) ((X.mg "__name__").getD .none) c' ctv), toks := tk } := I.kept fun b o e => Heap.get?_push_of_some _ (hx b o e)
    exact h h'.objs.size c' ((X.mg "__name__").getD .none) ctv H _ I1 (fun _ _ e _ => e) hT (Heap.get?_push_size _ rfl) (I.hok.fresh hsz) (nofr _ hsz) hco
end
/-! ### the lambda is called -/
section
variable {X : Cx} {pins : List (Addr × Obj)} {σ : L2.St} {H HZ : Hp} {s s1 : Shared}
theorem RG.to {k : Nat} {A : Around} (r : RG k A) : Room k A := r.room
/-- x(), in the def that got the lambda -/
theorem pe_actG {Ng : List Str} {qg : Str} {sg : Scope} {g f c' : Addr} {cdg pm ctv : Value} {params : Arguments} {body : Expr} {scope : Scope} {k i : Nat} {a : Str} {pn : List (Addr × Obj)} {xe : Value → Shared → Prop} {W : WX} {Eg : XK} {tb : XK → Hp → TE} {p1 p2 : Pos}
    (I : Inv X pins σ H s) (L : LamS X.env.scope scope) (hf : s.heap.get? f = some (PySem.W.kla_obj "<lambda>" (X.env.qual ++ "<lambda>") params body scope (cloFrom X.env.cells scope.names []) pm c' ctv)) (hfn : H f = none) (hfr : f ∉ frs X.stack)
    (hbind : bindArgs (PySem.W.kla_fn "<lambda>" (X.env.qual ++ "<lambda>") params body scope (cloFrom X.env.cells scope.names []) pm (.ref c') ctv) ⟨[], []⟩ = pure [])
    (tk : Takes ((cxOf (L2.CX X.prog X.w) X.prog X.w X.K X.mg X.base Ng qg sg g cdg X.A X.stack s H Eg).tr pn xe) W) (hr : RG (k + 1) (X.A.deeper (envOfC qg sg s.heap.objs.size g cdg)))
    (hbody : ∀ (A : Around) (outer : List Env) (s : Shared) (H : Hp) (E : XK), RG k (A.deeper (lamEnv X scope s.heap.objs.size f c')) → PE (lamCx X A outer s H E scope f c') body (tb E H))
    (hN : Ng[i]? = some a) (hv : Vis sg a) (hd : (a == ("__debug__" : Str)) = false := by decide) (hcd : (a == ("__classdict__" : Str)) = false := by decide) :
    PE ((cxOf (L2.CX X.prog X.w) X.prog X.w X.K X.mg X.base Ng qg sg g cdg X.A X.stack s H Eg).tr pn xe) (.Call (.Name a p1) [] [] p2)
      (fun σZ HZ Q => σZ[i]? = some (some (.ref f)) ∧ HZ c' = some (CodeO c' (X.env.qual ++ "<lambda>")) ∧ tb (WE W σZ) HZ σ HZ Q) := by
  refine ⟨fun pinsZ sZ σZ HZ Q IZ h => ?_⟩
  obtain ⟨hs, hc, ht⟩ := h
  refine wpAny_Call_Name_kw (thn ((pe_var (pos := p1) (i := i) hN hv hd hcd).run pinsZ sZ σZ HZ (fun v H1 => v = .ref f ∧ H1 = HZ) IZ ⟨.ref f, hs, rfl, rfl⟩) fun u s1 ⟨v, H1, I1, r1, q1⟩ => ?_)
  obtain ⟨ev, eH⟩ := q1
  subst ev
  rw [eH] at I1
  obtain rfl : u = Value.ref f := r1
  have of1 : s1.heap.get? f = some (PySem.W.kla_obj "<lambda>" (X.env.qual ++ "<lambda>") params body scope (cloFrom X.env.cells scope.names []) pm c' ctv) := I1.base.keep f _ hf hfn hfr (fun z => nomatch (show f ∈ ([] : List Addr) from z))
  refine PySem.W.callWith_F0 ⟨_, _, _, _, of1⟩ ?_
  have un : Un (frs X.stack) [] H HZ s.heap s1.heap := I1.base
  obtain ⟨⟨oc, vs, t, hoc, hdc, hvc⟩, _, _⟩ := I1.hok c' _ hc
  have rc : codeAny (model X.prog X.w) (X.A.deeper (envOfC qg sg s.heap.objs.size g cdg)) (.call (.ref f) ⟨[], []⟩) (CR (L2.CX X.prog X.w) (envOfC qg sg s.heap.objs.size g cdg :: X.stack) X.prog X.w HZ s1 Q (WE W σZ)) s1 := by
    refine PySem.W.kla_callFunE hr.room.depth of1 rfl L.co L.gen rfl ⟨c', oc, vs, t, rfl, hoc, hdc, hvc⟩ ?_
    rw [hbind]
    refine wpAny_pure (wpAny_newFunctionEnv (fun y hy => (L.own y hy).2) (fun y hy => absurd hy (by simp)) (fun h₁ hns hsb => ⟨I1.nolimit.fresh _ hsb, ?_⟩) L.kind)
    show codeAny _ _ (.expr body (lamEnv X scope s1.heap.objs.size f c')) _ _
    have kp : ∀ b o, s1.heap.get? b = some o → h₁.get? b = some o := fun b o e => hsb.extBut b o (Nat.ne_of_lt (Heap.lt_size e)) (Heap.get?_push_of_some _ e)
    have J : Inv (lamCx X (X.A.deeper (envOfC qg sg s.heap.objs.size g cdg)) (envOfC qg sg s.heap.objs.size g cdg :: X.stack) s1 HZ (WE W σZ) scope f c') [] σ HZ { s1 with heap := h₁, toks := s1.toks + ([] : List (Str × Value)).length } :=
      lam_start2 I L I1.env0 hr.room.hd un hns kp
    refine PySem.W.kla_codeExpr (wpAny_mono ((hbody _ _ s1 HZ (WE W σZ) hr.deep).run [] _ _ HZ Q J ht) (fun v s' hq => ?_) fun e s' hq => hq)
    obtain ⟨w', H', J', rv, q⟩ := hq
    exact ⟨w', H', J'.os, J'.bare, J'.base, J'.hok, rv, q⟩
  refine wpAny_call (codeAny_mono rc fun r s' hq => ?_)
  cases r with
  | error e => exact passAt tk σZ pinsZ HZ s1 e s' I1 hq
  | ok fl =>
    cases fl with
    | ret u => exact I1.after hq
    | next => exact False.elim hq
    | brk => exact False.elim hq
    | cont => exact False.elim hq
end
/-! ### over data -/
/-- what a lambda does: the fuel, the wishes -/
abbrev UTh := Nat → (D → Nat → Prop) → (UX → Nat → Prop) → Prop
/-- x(), x the parameter in slot i that holds the lambda at f -/
def uAct (pen : PenT) (f : Addr) (i : Nat) (th : UTh) (W : WU) : UE := fun ρ Q => (ρ.pen = pen ∧ ρ.sl[i]? = some (.dat (.ref f))) ∧ th ρ.fuel Q fun x m => W x (ρ.f m)
/-- what a def makes of a lambda -/
abbrev USpT := UTh → PenT → Nat → (D → Nat → Prop) → Prop
/-- g(lambda: e), in the def mkr -/
def uLam (mkr : Str) (usp : USpT) (ub : WU → UE) : UE := fun ρ Q => LamIn ρ.pen mkr ∧ usp (fun n P PX => ub (Wd ρ.pen PX) ⟨hideS ρ.sl, ρ.pen, n⟩ P) ρ.pen ρ.fuel Q
section
variable (P : Program) (w : World) (K : PySem.W.Frag) (mg : Str → Option Value) (base : Heap)
/-- the context of a def that gets a lambda -/
abbrev cxL (N : List Str) (x : Str) (st : Stmt) (cdv : Value) (A : Around) (outer : List Env) (s : Shared) (H : Hp) : Cx :=
  cxOf (L2.CX P w) P w K mg base N x (defScope st) (He.fAd K (x, none)) cdv A outer s H fun _ _ _ => False
/-- the def x calls the lambda that it gets, under its parameter a -/
structure FnL (k : Nat) (x a : Str) (st : Stmt) (usp : USpT) : Prop where
  ex : ∃ fd N, FunD K x x (defArgs st) (defBody st) (defScope st) [] [] (He.fAd K (x, none)) fd ∧ Binds K fd [a] [] ∧ FnScope N [a] (defScope st) ∧
    ∀ (cdv : Value) (A : Around) (outer : List Env) (s : Shared) (H : Hp) (O : Ad) (pen : PenT) (n : Nat) (f : Addr) (th : UTh),
      RG k (cxL P w K mg base N x st cdv A outer s H).A →
      (∀ (H1 : Hp) (W : WU) (pn : List (Addr × Obj)) (xe : Value → Shared → Prop) (p1 p2 : Pos), Frm pen H H1 → Takes ((cxL P w K mg base N x st cdv A outer s H).tr pn xe) (LW K O H1 W) →
        UPE ((cxL P w K mg base N x st cdv A outer s H).tr pn xe) O H1 (.Call (.Name a p1) [] [] p2) (uAct pen f 0 th W)) →
      ∃ u, UPB (cxL P w K mg base N x st cdv A outer s H) O H (defBody st) u ∧ ∀ Q, usp th pen n Q → u { nx := fun ρ => Q .non ρ.fuel, rt := Q } ⟨startU N [.ref f], pen, n⟩
  gl : mg x = some (.ref (He.fAd K (x, none)))
end
section
variable {X : Cx} {O0 : Ad} {H0 : Hp}
/-- what the lambda's body does, in its own frame -/
def tbL (K : PySem.W.Frag) (ub : WU → UE) : XK → Hp → TE := fun E HH σ H Q => ∃ (O' : Ad) (ρ' : Ro) (P' : D → Nat → Prop) (PX : UX → Nat → Prop), R K O' HH σ H ρ' ∧ ub (Wd ρ'.pen PX) ρ' P' ∧
  (∀ d m, P' d m → ∀ v H2, R K O' HH σ H2 (ρ'.f m) → Frm ρ'.pen H H2 → Rp K (OO O' ρ') H2 v d → Q v H2) ∧
  ∀ y m, PX y m → ∀ d H2, Frm ρ'.pen HH H2 → Pen K O' H2 ρ'.pen m → XRp K O' H2 y d → E (y.cls.val K) d H2
theorem up_lam {j m : Nat} {x a mkr : Str} {st : Stmt} {usp : USpT} {params : Arguments} {body : Expr} {scope : Scope} {lpos p pos : Pos} {ub : WU → UE}
    (h : FnL X.prog X.w X.K X.mg X.base j x a st usp) (hr : RG (m + 2) X.A) (hj : j ≤ m + 1) (hg : Gl X x) (hq : X.env.qual = mkr ++ ".<locals>.") (hcode : X.env.code = .ref (He.codeOf X.K (mkr, none)))
    (TB : TabB X.base X.mg (He.cT X.K (mkr, none)).1 (He.cT X.K (mkr, none)).2) (L : LamS X.env.scope scope) (hdef : defaultsOf params X.env = ([], []))
    (hbind : ∀ (q : Str) (cl : List (Str × Addr)) (pm cv ctv : Value), bindArgs (PySem.W.kla_fn "<lambda>" q params body scope cl pm cv ctv) ⟨[], []⟩ = pure [])
    (hbody : ∀ (A : Around) (outer : List Env) (s : Shared) (H : Hp) (E : XK) (f c' : Addr) (O0 : Ad) (W : WU), RG m (A.deeper (lamEnv X scope s.heap.objs.size f c')) → Takes (lamCx X A outer s H E scope f c') (LW X.K O0 H W) → UPE (lamCx X A outer s H E scope f c') O0 H body (ub W))
    (hdb : (x == ("__debug__" : Str)) = false := by decide) (hd : (a == ("__debug__" : Str)) = false := by decide) (hcd : (a == ("__classdict__" : Str)) = false := by decide) :
    UPE X O0 H0 (.Call (.Name x p) [.Lambda params body scope lpos] [] pos) (uLam mkr usp ub) := by
  refine ⟨fun pins s σ H Q I ⟨ρ, PP, r, ⟨⟨p0, c0, ep, Pa, hin⟩, hu⟩, hP⟩ => ?_⟩
  obtain ⟨fd, N, F, hb, S, hB⟩ := h.ex
  obtain ⟨ns, t0, q0, h1, h2, h3, h4, h5, h6, h7, T⟩ := r.pen p0 c0 ep
  have ea : Pa = (He.cT X.K (mkr, none)).2 := T.adr _ hin
  have eq : X.env.qual ++ "<lambda>" = lamQ mkr := by rw [hq]; rfl
  have hmem : ((He.cT X.K (mkr, none)).2, X.env.qual ++ "<lambda>") ∈ c0.tb.map fun t => (t.2, lamQ t.1) := by
    rw [eq, ← ea]
    exact List.mem_map.mpr ⟨_, hin, rfl⟩
  have huniq : ∀ p ∈ c0.tb.map (fun t => (t.2, lamQ t.1)), p.1 = (He.cT X.K (mkr, none)).2 → p.2 = X.env.qual ++ "<lambda>" := fun p hp e => by
    obtain ⟨t, ht, rfl⟩ := List.mem_map.mp hp
    have e2 : t.1 = mkr := T.inj t ht _ hin (by rw [ea]; exact e)
    show lamQ t.1 = _
    rw [e2, eq]
  refine wpAny_Call_Name_kw (ld_glob I hg h.gl ?_ hdb)
  refine PySem.W.callWith_K (h₀ := X.base) I.ok.mod.kin F.kp ?_ (by rfl) (by rfl)
  show wpAny _ _ (spliced ((false, eval (.Lambda params body scope lpos) X.env) :: backTo pos (starEach [] X.env))) _ _ s
  refine Calls.spliced_cons (lam_makeU I TB hcode hmem huniq T.tabs hdef (L.has I.ok) fun f c' pm' ctv H1 s' I1 eN T1 hf hfn hfr hco => ?_)
  refine Calls.spliced_nil ⟨I1.kIn, ?_⟩
  have hPt : H (He.cT X.K (mkr, none)).2 ≠ none := by
    obtain ⟨ps, z⟩ := T.there hin
    rw [← ea]
    rw [z]; simp
  have isP : IsPen ρ.pen (He.cT X.K (mkr, none)).2 := by
    have z := isPen_t ep hin
    rw [show ((mkr, Pa) : Str × Addr).2 = (He.cT X.K (mkr, none)).2 from ea] at z
    exact z
  have f1 : Frm ρ.pen H H1 := fun b o e nb => eN b o e fun z => nb (by rw [z]; exact isP)
  have tblP : ∃ ps, H (He.cT X.K (mkr, none)).2 = some (.tbl ps) := by
    obtain ⟨ps, z⟩ := T.there hin
    exact ⟨ps, by rw [← ea]; exact z⟩
  have pn1 : Pen X.K (OO O0 ρ) H1 ρ.pen ρ.fuel := fun p c e => by
    obtain ⟨ns, t, q, k1, k2, k3, k4, k5, k6, k7, k8⟩ := r.pen p c e
    have e2 : some (p0, c0) = some (p, c) := ep.symm.trans e
    cases e2
    obtain ⟨ps, tp⟩ := tblP
    refine ⟨ns, t, q, eN _ _ k1 fun z => ?_, eN _ _ k2 fun z => ?_, k3, k4, k5, k6, k7, ⟨T.adr, T.inj, T1⟩⟩
    · rw [z, tp] at k1
      unfold penO at k1
      split at k1 <;> cases k1
    · rw [z, tp] at k2
      cases k2
  have r1 : R X.K O0 H0 σ H1 (ρ.f ρ.fuel) := r.call f1 pn1
  obtain ⟨oc, od, dV, kV, doc, pm2, an, cdv, ct, osl, efd, lk, hcdv, _, _⟩ := F.ex
  subst efd
  have hNa : N[0]? = some a := by
    have e := S.pre
    cases N with
    | nil => cases e
    | cons b N => exact congrArg some (List.cons.inj e).1
  have hva : Vis (defScope st) a := (S.par a List.mem_cons_self).elim .inl fun z => .inr (.inl z)
  have rc : codeAny (model X.prog X.w) X.A (.call (.ref (He.fAd X.K (x, none))) ⟨[.ref f], []⟩) (CR (L2.CX X.prog X.w) X.stack X.prog X.w H1 s' Q fun _ _ _ => False) s' := by
    refine run_ofS (N := N) (ps := [a]) (us := [.ref f]) (vs := [.ref f]) lk hcdv S hr.room I1.env0 (hb s' [.ref f] I1.kIn rfl) (.cons rfl .nil) rfl fun _ => ?_
    have act : ∀ (H2 : Hp) (W : WU) (pn : List (Addr × Obj)) (xe : Value → Shared → Prop) (p1 p2 : Pos), Frm ρ.pen H1 H2 → Takes ((cxL X.prog X.w X.K X.mg X.base N x st cdv X.A X.stack s' H1).tr pn xe) (LW X.K (OO O0 ρ) H2 W) →
        UPE ((cxL X.prog X.w X.K X.mg X.base N x st cdv X.A X.stack s' H1).tr pn xe) (OO O0 ρ) H2 (.Call (.Name a p1) [] [] p2) (uAct ρ.pen f 0 (fun n P PX => ub (Wd ρ.pen PX) ⟨hideS ρ.sl, ρ.pen, n⟩ P) W) := fun H2 W pn xe p1 p2 fH tk => by
      refine PE.imp (pe_actG (i := 0) (tb := tbL X.K ub) I1 L hf hfn hfr (hbind _ _ _ _ _) tk (show RG (m + 1) _ from hr.deep) (fun A outer s3 H3 E hrm => ⟨fun pins3 s4 σ4 H4 Q4 I4 ⟨O', ρ', P', PX, rr, hu2, hQ, hE⟩ => ?_⟩) hNa hva hd hcd) ?_
      · refine (hbody A outer s3 H3 E f c' O' (Wd ρ'.pen PX) hrm (Takes.imp (takes_of rfl rfl rfl rfl) ?_)).run pins3 s4 σ4 H4 Q4 I4 ⟨ρ', P', rr, hu2, hQ⟩
        rintro cls d σ5 H5 ⟨ρ1, y, r5, rfl, xr, e, hx⟩
        have fr := r5.fr
        have pn5 := r5.pen
        rw [e] at fr pn5
        exact hE y _ hx d H5 fr (pn5.less fun b h => .inl h) (xr.keep (.less fun b h => .inl h))
      · rintro σZ HZ QZ ⟨ρZ, PZ, rZ, ⟨⟨eZ, sZ⟩, hth⟩, hPZ⟩
        have frZ := rZ.fr
        have pnZ := rZ.pen
        rw [eZ] at frZ pnZ
        have fZ : Frm ρ.pen H1 HZ := fH.trans frZ
        have nC : ¬ IsPen ρ.pen c' := by
          rintro ⟨p, c, e, z⟩
          obtain ⟨_, _, _, k1, _, _, _, _, _, _, k8⟩ := pn1 p c e
          rcases z with z | ⟨t, ht, z⟩
          · rw [← z, hco] at k1
            unfold penO CodeO at k1
            split at k1 <;> cases k1
          · obtain ⟨ps, k9⟩ := k8.there ht
            rw [z, hco] at k9
            cases k9
        obtain ⟨v0, e0, rv0⟩ := rZ.dat 0 _ sZ
        cases rv0
        refine ⟨e0, fZ _ _ hco nC, OO (OO O0 ρ) ρZ, ⟨hideS ρ.sl, ρ.pen, ρZ.fuel⟩, PZ, fun y m => W y (ρZ.f m), ?_, hth, fun d m hd v H2' r2 f2 p2 => ?_, fun y m hy d H2' f2 pn2 xr => ?_⟩
        · refine r1.hide fZ (fun b hb => .inr (.inl (by rw [eZ]; exact hb))) rZ.tr (fun b o hb nb z => ?_) pnZ
          rcases z with z | z | ⟨i, c, z⟩ | ⟨i, as, d, z, m⟩
          · exact nb z
          · exact nb (OO.pen b (by rw [← eZ]; exact z))
          · obtain ⟨_, _, n0, _, _⟩ := rZ.own i b c z
            rw [fH b o hb fun z => nb (OO.pen b z)] at n0
            cases n0
          · have n0 := ((rZ.tre i as d z).2.1 b m).2.1
            rw [fH b o hb fun z => nb (OO.pen b z)] at n0
            cases n0
        · have pn2 := r2.pen
          have f2' : Frm ρZ.pen HZ H2' := by rw [eZ]; exact f2
          exact hPZ d m hd v H2' (rZ.call (n := m) f2' (by rw [eZ]; exact pn2.less fun b h => .inl h)) f2' (p2.keep (.less fun b h => .inl h))
        · have f2' : Frm ρZ.pen HZ H2' := by rw [eZ]; exact f2
          exact ⟨ρZ.f m, y, rZ.call (n := m) f2' (by rw [eZ]; exact pn2), rfl, xr, hy⟩
    obtain ⟨u, hub, hrd⟩ := hB cdv X.A X.stack s' H1 (OO O0 ρ) ρ.pen ρ.fuel f (fun n P PX => ub (Wd ρ.pen PX) ⟨hideS ρ.sl, ρ.pen, n⟩ P) ((show RG (m + 1) _ from hr.deep).mono hj) act
    refine ⟨_, hub, ⟨startU N [.ref f], ρ.pen, ρ.fuel⟩, _, R.start (N := N) (vs := [.ref f]) (ds := [.ref f]) ?_ (.cons (.ref f) .nil) r1.tr (fun p e => OO.pen p e) r1.pen, hrd _ hu, fun ρ' hx σ' H' r' t' => ?_, fun _ z => z.elim, fun _ z => z.elim, ⟨fun d m hd v H' fr pn' rp => ?_, fun _ _ z => z.elim, fun _ _ z => z.elim⟩⟩
    · have e := S.pre
      cases N with
      | nil => cases e
      | cons b N => exact Nat.succ_le_succ (Nat.zero_le _)
    · have e : ρ'.pen = ρ.pen := t'.pn
      have fr := r'.fr
      have pn' := r'.pen
      rw [e] at fr pn'
      exact hP .non _ hx .non H' (r1.call (n := ρ'.fuel) fr (pn'.less fun b h => .inl h)) (f1.trans fr) .non
    · exact hP d m hd v H' (r1.call (n := m) fr (pn'.less fun b h => .inl h)) (f1.trans fr) (rp.keep (.less fun b h => .inl h))
  refine wpAny_call (codeAny_mono rc fun r s2 hq => ?_)
  cases r with
  | error e =>
    obtain ⟨_, _, _, _, _, _, _, _, _, _, _, _, z⟩ := hq
    exact z.elim
  | ok fl =>
    cases fl with
    | ret u => exact I1.after hq
    | next => exact False.elim hq
    | brk => exact False.elim hq
    | cont => exact False.elim hq
end
end U

set_option Elab.async false
set_option linter.all false
set_option maxRecDepth 100000
set_option maxHeartbeats 4000000
/-! Classes with an __init__, told by a Bool; the head with the makers' tables. -/
namespace U
open PySem PySem.Spec L2 LamX
open PyProof.Rows hiding St
/-! ### classes with an own __init__ -/
/-- the class x over b, its __init__ stores the field f -/
structure IniC where
  x : Str
  f : Str
  b : Bas
def fIni (K : PySem.W.Frag) (x : Str) : Addr := He.fAd K (x, some "__init__")
def iniB (K : PySem.W.Frag) (i : IniC) : Bool :=
  (PySem.W.excInitIn K (He.ga K i.x) i.b.bm i.b.newId && PySem.W.hasDictIn K (He.ga K i.x)) && ((decide (PySem.W.findIn K (.ref (He.ga K i.x)) "__setattr__" = some (some (.builtin "object.__setattr__"))) &&
  (decide (PySem.W.subIn K (.ref (He.ga K i.x)) (.type "BaseException") = some true) && (decide (PySem.W.typeIn K (.ref (He.ga K i.x)) = some (.type "type")) && PySem.W.keepIn K (.ref (He.ga K i.x))))) &&
  (decide (PySem.W.findIn K (.ref (He.ga K i.x)) "__init__" = some (some (.ref (fIni K i.x)))) && (decide (PySem.W.typeIn K (.ref (fIni K i.x)) = some (.type "function")) && decide (PySem.W.findIn K (.ref (He.ga K i.x)) i.f = some none))))
structure IniOk (K : PySem.W.Frag) (i : IniC) : Prop where
  T : OexG K (He.ga K i.x) i.b
  iC : PySem.W.findIn K (.ref (He.ga K i.x)) "__init__" = some (some (.ref (fIni K i.x)))
  tI : PySem.W.typeIn K (.ref (fIni K i.x)) = some (.type "function")
  no : PySem.W.findIn K (.ref (He.ga K i.x)) i.f = some none
theorem excInit_K {K : PySem.W.Frag} {C : Addr} {bmB : List Value} {newId : String} (q : PySem.W.excInitIn K C bmB newId = true) (hh : PySem.W.hasDictIn K C = true) :
    ∃ nm qn N bs bm sn sub ab col dd k0 k1 k2 k3 k5, K.lookup C = some (excClassObj nm qn C N bs bm true sn sub ab col dd k0 k1 k2 k3 k5 newId) ∧ PySem.W.excTail bmB bm = true := by
  unfold PySem.W.hasDictIn PySem.W.clsIn at hh
  unfold PySem.W.excInitIn at q
  split at q
  · rename_i dd cd sl ho
    rw [ho] at hh
    split at q
    · rename_i C' bm k0 k1 k2 k3 n k5 hm hs
      simp only [Bool.and_eq_true, beq_iff_eq, Bool.not_eq_true'] at q
      obtain ⟨⟨⟨rfl, rfl⟩, hdel⟩, ht⟩ := q
      obtain ⟨nm, bs, mro, ns, qn, hd, sn, sub, ab, col, del⟩ := cd
      dsimp only at hm hdel
      subst hm hdel
      have hsl : sl = #[k0, k1, k2, k3, some (.builtin n), k5] := by
        obtain ⟨l⟩ := sl
        simp only at hs
        rw [hs]
      subst hsl
      have e : hd = true := by simpa using hh
      subst e
      exact ⟨nm, qn, ns, bs, bm, sn, sub, ab, col, dd, k0, k1, k2, k3, k5, ho, ht⟩
    · cases q
  · cases q
theorem iniB_ok {K : PySem.W.Frag} {i : IniC} (h : iniB K i = true) : IniOk K i := by
  obtain ⟨h1, h2⟩ := Bool.and_eq_true_iff.mp h
  obtain ⟨a1, a2⟩ := Bool.and_eq_true_iff.mp h1
  obtain ⟨h3, h4⟩ := Bool.and_eq_true_iff.mp h2
  obtain ⟨b1, h5⟩ := Bool.and_eq_true_iff.mp h3
  obtain ⟨b2, h6⟩ := Bool.and_eq_true_iff.mp h5
  obtain ⟨b3, b4⟩ := Bool.and_eq_true_iff.mp h6
  obtain ⟨c1, h7⟩ := Bool.and_eq_true_iff.mp h4
  obtain ⟨c2, c3⟩ := Bool.and_eq_true_iff.mp h7
  exact ⟨⟨excInit_K a1 a2, of_decide_eq_true b1, of_decide_eq_true b2, of_decide_eq_true b3, b4⟩, of_decide_eq_true c1, of_decide_eq_true c2, of_decide_eq_true c3⟩
/-! ### the head, with tables -/
abbrev Zt := List (Str × Tb)
structure ZO where
  fa : List He.Fa
  fn : List He.DefD
  T : XT
  bs : List String
  ts : Zt
  ini : List IniC
  mks : List Str
def apartB (K : PySem.W.Frag) (mk : List Str) : Bool := mk.all fun x => mk.all fun y => decide (x = y) || !decide ((He.cT K (x, none)).2 = (He.cT K (y, none)).2)
abbrev AlZ : Type := AlY × Bool
/-- what is looked at: what the module's names reach; the dict of the modules, too -/
def asZ (g : Addr → Option Obj) (n : Nat) : List Addr := sysModules :: He.asD g n
def obsZ (z : ZO) (n : Nat) (g : Addr → Option Obj) : AlZ := (obsY z.fa z.fn z.T z.bs z.ts (He.frT g (asZ g n)),
  (z.ini.all (iniB (He.frT g (asZ g n))) && (apartB (He.frT g (asZ g n)) z.mks && ((He.frT g (asZ g n)).lookup sysModules).isSome)) && He.tabsB g (z.mks.map fun x => (x, none)) (He.frT g (asZ g n)))
def valZ (z : ZO) (w : World) : AlZ := (valY z.fn z.ts w, true)
structure SaysZ (z : ZO) (w : World) (h : Heap) (K : PySem.W.Frag) : Prop where
  y : SaysY z.fa z.fn z.T z.bs z.ts w K
  ini : ∀ i ∈ z.ini, IniOk K i
  inj : ∀ x ∈ z.mks, ∀ y ∈ z.mks, (He.cT K (x, none)).2 = (He.cT K (y, none)).2 → x = y
  hd : ∀ x ∈ z.mks, PySem.W.codeHdIn K (He.cT K (x, none)).1 (He.cT K (x, none)).2 = true
  out : ∀ x ∈ z.mks, K.lookup (He.cT K (x, none)).2 = none
  sys : ∃ o, K.lookup sysModules = some o
  empty : ∀ x ∈ z.mks, h.get? (He.cT K (x, none)).2 = some { cls := .none, data := .fields #[] }
theorem saysZ_of {z : ZO} {n : Nat} {w : World} {h : Heap} (e : obsZ z n h.get? = valZ z w) : SaysZ z w h (He.frT h.get? (asZ h.get? n)) := by
  have e1 := congrArg (fun q : AlZ => q.1) e
  have e2 : ((z.ini.all (iniB (He.frT h.get? (asZ h.get? n))) && (apartB (He.frT h.get? (asZ h.get? n)) z.mks && ((He.frT h.get? (asZ h.get? n)).lookup sysModules).isSome)) && He.tabsB h.get? (z.mks.map fun x => (x, none)) (He.frT h.get? (asZ h.get? n))) = true := congrArg (fun q : AlZ => q.2) e
  obtain ⟨h1, h2⟩ := Bool.and_eq_true_iff.mp e2
  obtain ⟨h3, h4⟩ := Bool.and_eq_true_iff.mp h1
  obtain ⟨h4, h9⟩ := Bool.and_eq_true_iff.mp h4
  have key : ∀ x ∈ z.mks, PySem.W.codeHdIn (He.frT h.get? (asZ h.get? n)) (He.cT (He.frT h.get? (asZ h.get? n)) (x, none)).1 (He.cT (He.frT h.get? (asZ h.get? n)) (x, none)).2 = true ∧ ∃ o, h.get? (He.cT (He.frT h.get? (asZ h.get? n)) (x, none)).2 = some o ∧ He.emptyTab o = true := fun x hx => by
    obtain ⟨h5, h6⟩ := Bool.and_eq_true_iff.mp (List.all_eq_true.mp h2 (x, none) (List.mem_map.mpr ⟨x, hx, rfl⟩))
    refine ⟨h5, ?_⟩
    cases q : h.get? (He.cT (He.frT h.get? (asZ h.get? n)) (x, none)).2 with
    | none => rw [q] at h6; cases h6
    | some o => rw [q] at h6; exact ⟨o, rfl, h6⟩
  refine ⟨e1, fun i hi => iniB_ok (List.all_eq_true.mp h3 i hi), fun x hx y hy q => ?_, fun x hx => (key x hx).1, fun x hx => ?_, Option.isSome_iff_exists.mp h9, fun x hx => ?_⟩
  · have a := List.all_eq_true.mp (List.all_eq_true.mp h4 x hx) y hy
    rcases Bool.or_eq_true_iff.mp a with a | a
    · exact of_decide_eq_true a
    · rw [q] at a
      simp at a
  · obtain ⟨_, o, q, e⟩ := key x hx
    exact He.frT_none q e
  · obtain ⟨_, o, q, e⟩ := key x hx
    rw [q, He.emptyTab_eq e]
def hookZ (z : ZO) (n : Nat) : PySem.W.Hook where
  α := AlZ
  obs := fun s => obsZ z n s.heap.get?
  val := fun w => valZ z w
  says := fun w h => ∃ K : PySem.W.Frag, K.In h ∧ SaysZ z w h K
  of := fun _ _ e => ⟨_, He.frT_in, saysZ_of e⟩
  keeps := fun _ _ _ ⟨K, hK, c⟩ k => ⟨K, PySem.W.Frag.In.keeps hK k, ⟨c.y, c.ini, c.inj, c.hd, c.out, c.sys, fun x hx => k _ _ (c.empty x hx)⟩⟩
theorem obsZ_eq {z : ZO} {n : Nat} {g : Addr → Option Obj} {s : Shared} (h : ∀ a, g a = s.heap.get? a) : obsZ z n g = (hookZ z n).obs s := by
  have e : g = s.heap.get? := funext h
  rw [e] <;> rfl
/-- what the makers' defs ask -/
def TBs (K : PySem.W.Frag) (mg : Str → Option Value) (base : Heap) (mk : List Str) : Prop := ∀ x ∈ mk, TabB base mg (He.cT K (x, none)).1 (He.cT K (x, none)).2
/-! ### the end -/
theorem law_runT {P : Program} {w : World} {K : PySem.W.Frag} {mg mb : Str → Option Value} {k : Nat} {fa a : Addr} {cs : List (Addr × Addr)} {fd : FuncData} {x : Str} {sp : Sp} {s₁ : Shared} {vs : List Value} {ns : List Int}
    (KX : K.In s₁.heap) (hns : s₁.heap.Ns mainGlobals mg) (hb : s₁.heap.Ns builtinsNs mb) (hbb : ∀ x : Str, x ≠ "__name__" → mb x = bootBuiltins x) (hlim : s₁.heap.NoLimit) (hg : s₁.gens = #[])
    (hT : ∀ p ∈ cs, s₁.heap.get? p.2 = some { cls := .none, data := .fields #[] }) (nT : ∀ p ∈ cs, K.lookup p.2 = none) (C : ∀ p ∈ cs, PySem.W.CodeHd s₁.heap p.1 p.2)
    (hbm : ∃ (bm : Addr) (ob : Obj), mg "__builtins__" = some (.ref bm) ∧ bm ≠ builtinsNs ∧ s₁.heap.get? bm = some ob ∧ ob.cls = .type "module" ∧ ob.dict = some builtinsNs ∧ ob.data = .plain)
    (ha : s₁.heap.get? a = some { cls := .type "list", data := .seq vs.toArray }) (hi : IntsAre vs ns) (hl : ns.length ≤ sizeLine) (hr : RG k callerA)
    (F : ∀ base : Heap, K.In base → base.Ns mainGlobals mg → (∀ p ∈ cs, TabB base mg p.1 p.2) → FnG P w K mg base k fa fd [x] sp) (hbind : ∀ (s : Shared) (u : Value), BindsTo s fd ⟨[u], []⟩ [(x, u)])
    (hsp : ∀ H : Hp, (∀ p ∈ cs, H p.2 = some (.tbl #[])) → SqL K H a (ns.map V.int) → sp [.ref a] H (fun v _ => v = .bl true) fun _ _ _ => False) :
    codeAny (model P w) callerA (.call (.ref fa) ⟨[.ref a], []⟩) (fun r s' => r = .ok (.ret (.bool true)) ∧ OldK s₁.heap s'.heap ∧ s'.os = s₁.os ∧ AllBare s'.gens) s₁ := by
  have rv := vals_ints hi
  have lenV := hi.length
  have isT : ∀ b : Addr, b ∈ cs.map (·.2) → s₁.heap.get? b = some { cls := .none, data := .fields #[] } := fun b hb => by
    obtain ⟨p, hp, e⟩ := List.mem_map.mp hb
    rw [← e]
    exact hT p hp
  have aT : a ∉ cs.map (·.2) := fun z => by
    have q := isT a z
    rw [ha] at q
    have z' : Data.seq vs.toArray _ = Data.fields #[] := congrArg Obj.data (Option.some.inj q)
    cases z'
  have memT : ∀ p ∈ cs, p.2 ∈ cs.map (·.2) := fun p hp => List.mem_map.mpr ⟨p, hp, rfl⟩
  have core : ∀ H : Hp, (∀ p ∈ cs, H p.2 = some (.tbl #[])) → (∀ b, H b = none ∨ b ∈ cs.map (·.2) ∨ ∃ o xs, H b = some (.frz o (.lst xs))) → SqL K H a (ns.map V.int) → HOk P w H s₁.heap → (∀ b, H b ≠ none → b = a ∨ b ∈ cs.map (·.2)) → (H a ≠ none → K.lookup a = none) →
      codeAny (model P w) callerA (.call (.ref fa) ⟨[.ref a], []⟩) (fun r s' => r = .ok (.ret (.bool true)) ∧ OldK s₁.heap s'.heap ∧ s'.os = s₁.os ∧ AllBare s'.gens) s₁ := by
    intro H hH hO hS hok hA hK
    have base_of : ∀ {b : Addr} {o : Obj}, s₁.heap.get? b = some o → H b = none → (hidT s₁.heap H).get? b = some o := fun e n => hidT_get e n
    have noD : ∀ {b : Addr} {o : Obj}, s₁.heap.get? b = some o → (∀ vs n, o.data ≠ .seq vs n) → o.data ≠ .fields #[] → H b = none := fun {b o} e h1 h2 => by
      cases q : H b with
      | none => rfl
      | some u =>
        rcases hA b (by rw [q]; simp) with e' | e'
        · rw [e', ha] at e
          cases e
          exact (h1 _ _ rfl).elim
        · rw [isT b e'] at e
          cases e
          exact (h2 rfl).elim
    have noA : ∀ {b : Addr} {o : Obj} {es : Array DictEntry} {ep : Nat}, s₁.heap.get? b = some o → o.data = .dict es ep → H b = none := fun {b o es ep} e d => by
      refine noD e (fun vs n z => ?_) fun z => ?_
      · rw [d] at z
        cases z
      · rw [d] at z
        cases z
    have nsK : ∀ {b : Addr} {m : Str → Option Value}, s₁.heap.Ns b m → (hidT s₁.heap H).Ns b m := fun {b m} ⟨o, es, ep, e, d, r⟩ => ⟨o, es, ep, base_of e (noA e d), d, r⟩
    have hKb : K.In (hidT s₁.heap H) := fun b o e => base_of (KX b o e) (by
      cases q : H b with
      | none => rfl
      | some u =>
        rcases hA b (by rw [q]; simp) with e' | e'
        · rw [e'] at e q
          rw [hK (by rw [q]; simp)] at e
          cases e
        · obtain ⟨p, hp, ep⟩ := List.mem_map.mp e'
          rw [← ep, nT p hp] at e
          cases e)
    have hM : L2.Mod K mg (hidT s₁.heap H) := ⟨hKb, nsK hns, ⟨mb, nsK hb, hbb⟩, let ⟨mc, h1, h2⟩ := hlim; ⟨mc, nsK h1, h2⟩⟩
    have TB : ∀ p ∈ cs, TabB (hidT s₁.heap H) mg p.1 p.2 := fun p hp => by
      have hTp := hT p hp
      refine ⟨?_, ?_, fun z => ?_⟩
      · obtain ⟨o, us, file, tf, flags, tg, inF, text, tt, e1, r1, r2, r3, r4, r5, r6, r7, r8, hne⟩ := C p hp
        refine ⟨o, us, file, tf, flags, tg, inF, text, tt, base_of e1 (noD e1 (fun vs n z => ?_) fun z => ?_), r1, r2, r3, r4, r5, r6, r7, r8, hne⟩
        · rw [r2] at z
          cases z
        · rw [r2] at z
          cases z
          simp at r3
      · obtain ⟨bm, ob, b1, b2, b3, b4, b5, b6⟩ := hbm
        have nG : bm ≠ mainGlobals := fun q => by
          obtain ⟨o, es, ep, e, hd, _⟩ := hns
          rw [q, e] at b3
          cases b3
          rw [hd] at b6
          cases b6
        have nP : bm ≠ p.2 := fun q => by
          rw [q, hTp] at b3
          cases b3
          cases b6
        refine ⟨bm, ob, b1, b2, nG, nP, base_of b3 (noD b3 (fun vs n z => ?_) fun z => ?_), b4, b5, b6⟩
        · rw [b6] at z
          cases z
        · rw [b6] at z
          cases z
      · obtain ⟨o, es, ep, e, hd, _⟩ := hns
        rw [z, hTp] at e
        cases e
        cases hd
    have e0 : Env0 P w K mg (hidT s₁.heap H) callerA [] s₁ H := ⟨rfl, hM, fun b o e => of_hidT e, Nat.le_of_eq (hidT_size _ _), trivial, fun b hb => absurd (show b ∈ ([] : List Addr) from hb) (by simp), hok, .of_eq hg⟩
    refine codeAny_mono ((F _ hKb (nsK hns) TB).run callerA [] s₁ H ⟨[.ref a], []⟩ [.ref a] [.ref a] _ _ hr e0 (hbind s₁ (.ref a)) (.cons rfl .nil) (hsp H hH hS)) fun r s' h => ?_
    cases r with
    | error e =>
      obtain ⟨_, _, _, _, _, _, _, _, _, _, _, _, z⟩ := h
      exact z.elim
    | ok fl =>
      cases fl with
      | next => exact False.elim h
      | brk => exact False.elim h
      | cont => exact False.elim h
      | ret u =>
        obtain ⟨v, H', os, bare, un, hok', r', q⟩ := h
        have q' : v = .bl true := q
        subst q'
        obtain rfl : u = Value.bool true := r'
        have key : ∀ b o, b ∉ cs.map (·.2) → s₁.heap.get? b = some o → s'.heap.get? b = some o := fun b o nb e => by
          cases q : H b with
          | none => exact un.keep b o e q (by intro z; exact absurd (show b ∈ ([] : List Addr) from z) (by simp)) (by simp)
          | some u =>
            rcases hO b with z | z | ⟨ob, xs, z⟩
            · rw [q] at z; cases z
            · exact absurd z nb
            · have z2 := un.frzs b ob _ z
              obtain ⟨e1, _⟩ := hok b _ z
              obtain ⟨e2, _⟩ := hok' b _ z2
              rw [e] at e1; cases e1
              exact e2
        have grown : ∀ p ∈ cs, ∃ more : Array Value, s'.heap.get? p.2 = some { cls := .none, data := .fields more } := fun p hp => by
          obtain ⟨more, z⟩ := un.tbls p.2 #[] (hH p hp)
          exact ⟨_, hok' p.2 _ z⟩
        refine ⟨rfl, ⟨fun b o e => ?_, fun b o e => ?_⟩, os, bare⟩
        · by_cases hb : b ∈ cs.map (·.2)
          · obtain ⟨p, hp, ep⟩ := List.mem_map.mp hb
            obtain ⟨more, hm⟩ := grown p hp
            rw [← ep] at e ⊢
            rw [hT p hp] at e
            cases e
            exact .inr (.inl ⟨((C p hp).tab (hT p hp)).isCodeTable, rfl, #[], more, rfl, by rw [Array.empty_append]; exact hm⟩)
          · exact .inl (key b o hb e)
        · by_cases hb : b ∈ cs.map (·.2)
          · obtain ⟨p, hp, ep⟩ := List.mem_map.mp hb
            obtain ⟨more, hm⟩ := grown p hp
            rw [← ep]
            exact ⟨_, hm⟩
          · exact ⟨o, key b o hb e⟩
  cases hk : K.lookup a with
  | some o =>
    have e := KX a o hk
    rw [ha] at e
    cases e
    refine core (fun b => if b ∈ cs.map (·.2) then some (.tbl #[]) else none) (fun p hp => if_pos (memT p hp)) (fun b => ?_) (.inr ⟨_, vs.toArray, _, hk, rfl, rfl, rfl, by rw [List.size_toArray, lenV]; exact hl, by simpa using rv⟩) (fun b u z => ?_) (fun b z => ?_) fun z => absurd (show (if a ∈ cs.map (·.2) then some (HO.tbl #[]) else none) = none from if_neg aT) z
    · by_cases hb : b ∈ cs.map (·.2)
      · exact .inr (.inl hb)
      · exact .inl (if_neg hb)
    · by_cases hb : b ∈ cs.map (·.2)
      · have z' := (if_pos hb).symm.trans z
        cases z'
        exact isT b hb
      · have z' := (if_neg hb).symm.trans z
        cases z'
    · by_cases hb : b ∈ cs.map (·.2)
      · exact .inr hb
      · exact absurd (if_neg hb) z
  | none =>
    refine core (fun b => if b = a then some (.frz { cls := .type "list", data := .seq vs.toArray } (.lst (ns.map V.int))) else if b ∈ cs.map (·.2) then some (.tbl #[]) else none) (fun p hp => (if_neg (show ¬ p.2 = a from fun z => aT (by rw [← z]; exact memT p hp))).trans (if_pos (memT p hp))) (fun b => ?_)
      (.inl (.inr ⟨{ cls := .type "list", data := .seq vs.toArray }, if_pos rfl⟩)) (fun b u z => ?_) (fun b z => ?_) fun _ => hk
    · by_cases hb : b = a
      · exact .inr (.inr ⟨_, _, if_pos hb⟩)
      · by_cases hb2 : b ∈ cs.map (·.2)
        · exact .inr (.inl hb2)
        · exact .inl ((if_neg hb).trans (if_neg hb2))
    · by_cases hb : b = a
      · have z' := (if_pos hb).symm.trans z
        cases z'
        rw [hb]
        exact ⟨ha, by rw [List.length_map]; exact hl, vs, _, rv, ha⟩
      · have z1 := (if_neg hb).symm.trans z
        by_cases hb2 : b ∈ cs.map (·.2)
        · have z' := (if_pos hb2).symm.trans z1
          cases z'
          exact isT b hb2
        · have z' := (if_neg hb2).symm.trans z1
          cases z'
    · by_cases hb : b = a
      · exact .inl hb
      · by_cases hb2 : b ∈ cs.map (·.2)
        · exact .inr hb2
        · exact absurd ((if_neg hb).trans (if_neg hb2)) z
/-- what the head leaves, with the makers' tables -/
theorem walkT {l : PySem.W.OpenLaw} {n k : Nat} {q : Program} {loose : List Str} {XP : (Str → Option Value) → Heap → Prop} {YP : World → Heap → Prop} {d : DefRec} {x : Str} {z : ZO}
    (hn : l.most = some n) (hn2 : n ≤ sizeLine) (hdf : d.params.defaults = []) (hr : RG k callerA)
    (F : ∀ (w : World) (mg : Str → Option Value) (fa : Addr) (h : Heap), YP w h → h.Ns mainGlobals mg →
      mg d.name = some (.ref fa) →
      ∃ (K : PySem.W.Frag) (fd : FuncData), K.In h ∧ SaysZ z w h K ∧ n ≤ 63 ∧
        (∀ (s : Shared) (u : Value), BindsTo s fd ⟨[u], []⟩ [(x, u)]) ∧
        ∀ base : Heap, K.In base → base.Ns mainGlobals mg → TBs K mg base z.mks → FnG l.prog w K mg base k fa fd [x] (spLawT K z.mks)) :
    PySem.W.WalkO q loose XP YP l.row.toRowW d [] (fun f vs => PySem.call f vs) := by
  refine Att.attach_callB hn hdf fun w s₀ s₁ mg mb fa o pm cd doc a vs ns G Y ho hd hcd hmg hobj hints hlen hbits hg => ?_
  obtain ⟨K, fd, KX, c, n63, hb, hF⟩ := F w mg fa _ Y G.T.g hmg
  have at_ : ∀ {R : Addr × Addr → Prop}, (∀ x ∈ z.mks, R (He.cT K (x, none))) → ∀ p ∈ z.mks.map (fun x => He.cT K (x, none)), R p := fun {R} h p hp => by
    obtain ⟨x, hx, rfl⟩ := List.mem_map.mp hp
    exact h x hx
  exact law_runT (cs := z.mks.map fun x => He.cT K (x, none)) KX G.T.g G.T.b G.T.builtins G.T.nolimit hg (at_ fun x hx => c.empty x hx) (at_ fun x hx => c.out x hx) (at_ fun x hx => PySem.W.codeHd_of_K KX (c.hd x hx)) G.T.bmain hobj hints (Nat.le_trans hlen hn2) hr
    (fun base h1 h2 h3 => hF base h1 h2 fun x hx => h3 _ (List.mem_map.mpr ⟨x, hx, rfl⟩)) hb
    fun H hH hS => ⟨a, ns, rfl, hS, Nat.le_trans hlen n63, c.inj, fun x hx => hH _ (List.mem_map.mpr ⟨x, hx, rfl⟩), fun _ => rfl⟩
end U

set_option Elab.async false
set_option linter.all false
set_option maxRecDepth 100000
set_option maxHeartbeats 4000000
/-! A def that makes lambdas; try around a lambda's call; insert, pop. -/
namespace U
open PySem PySem.Spec L2 LamX
open PyProof.Rows hiding St
/-! ### a def that makes lambdas: its code object is known -/
section
variable {P : Program} {w : World} {K : PySem.W.Frag} {mg : Str → Option Value} {base : Heap}
theorem fnG_mkL {x qual : Str} {params : Arguments} {body : List Stmt} {scope : Scope} {dvs : List V} {kws : List (Str × V)} {fd : FuncData} {N ps : List Str} {k : Nat} {sp : Sp}
    (F : FunD K x qual params body scope dvs kws (He.fAd K (x, none)) fd) (S : FnScope N ps scope)
    (len : ∀ vs H Q E, sp vs H Q E → vs.length = ps.length)
    (hbody : ∀ (cdv : Value) (A : Around) (outer : List Env) (s : Shared) (H : Hp) (vs : List V) (Q : VK) (E : XK), cdv = .ref (He.codeOf K (x, none)) →
      RG k (A.deeper (envOfC qual scope s.heap.objs.size (He.fAd K (x, none)) cdv)) → sp vs H Q E →
      ∃ t, PSs (cxOf (L2.CX P w) P w K mg base N qual scope (He.fAd K (x, none)) cdv A outer s H E) body t ∧
        t { nx := fun _ H' => Q .non H', rt := Q } (start N vs) H) :
    FnG P w K mg base (k + 1) (He.fAd K (x, none)) fd ps sp := by
  obtain ⟨oc, od, dV, kV, doc, pm, an, cdv, ct, osl, rfl, lk, hcd, _, _⟩ := F.ex
  have ecd : cdv = .ref (He.codeOf K (x, none)) := by
    obtain ⟨c, e⟩ := He.codeIn_ref hcd
    rw [e, He.codeOf_eq lk e]
  refine ⟨len, ?_⟩
  intro A outer s H args us vs Q E hr e0 hb r hsp
  have up : ∀ b o, base.get? b = some o → s.heap.get? b = some o := fun b o e => (e0.bs b o e).1
  have KX : K.In s.heap := e0.mod.kin.keeps up
  have lim := e0.mod.nolimit.keeps up
  refine codeAny_call_function hr.room.depth (KX _ _ lk) rfl S.co S.gen rfl (PySem.W.codeRec_of KX hcd)
    (hb _ _ _ _ (wpAny_newFunctionEnv_cells S.kind ?_ ?_))
  · rintro ⟨n, v⟩ hy
    have hn := (List.of_mem_zip hy).1
    cases S.par n hn with
    | inl q => exact Or.inl q
    | inr q => exact Or.inr ⟨q, PySem.W.cellsFrom_some _ _ _ (Or.inl q)⟩
  · rintro env rfl s1 x
    obtain ⟨t, ht, hq⟩ := hbody cdv A outer s H vs Q E ecd hr.deep hsp
    have I := inv_start (CX := L2.CX P w) (E := E) S hr.room.hd e0 (len _ _ _ _ hsp) r x
    refine ⟨lim.keeps x.toInCall.keep, codeAny_func (wpAny_mono (ht.run [] s1 _ H _ I hq) ?_ (fun _ _ z => z))⟩
    intro fl s' hs
    cases fl with
    | brk => exact hs.elim fun _ z => z.elim fun _ z => z.2.elim
    | cont => exact hs.elim fun _ z => z.elim fun _ z => z.2.elim
    | ret u =>
      obtain ⟨v, _, H', J, rv, q⟩ := hs
      exact ⟨v, H', J.os, J.bare, J.base, J.hok, rv, q⟩
    | next =>
      obtain ⟨_, H', J, q⟩ := hs
      exact ⟨V.non, H', J.os, J.bare, J.base, J.hok, rfl, q⟩
theorem fn_mkL {x : Str} {st : Stmt} {fd : FuncData} {N ps : List Str} {k : Nat} {usp : USp} (F : FunD K x x (defArgs st) (defBody st) (defScope st) [] [] (He.fAd K (x, none)) fd) (g : mg x = some (.ref (He.fAd K (x, none)))) (S : FnScope N ps (defScope st))
    (hb : Binds K fd ps []) (len : ∀ ds pen n Q E, usp ds pen n Q E → ds.length = ps.length)
    (hbody : ∀ (cdv : Value) (A : Around) (outer : List Env) (s : Shared) (H : Hp) (E : XK) (O0 : Ad) (pen : PenT) (PX : UX → Nat → Prop), cdv = .ref (He.codeOf K (x, none)) →
      RG k (cxOf (L2.CX P w) P w K mg base N x (defScope st) (He.fAd K (x, none)) cdv A outer s H E).A →
      Takes (cxOf (L2.CX P w) P w K mg base N x (defScope st) (He.fAd K (x, none)) cdv A outer s H E) (LW K O0 H fun x ρ => ρ.pen = pen ∧ PX x ρ.fuel) →
      ∃ u, UPB (cxOf (L2.CX P w) P w K mg base N x (defScope st) (He.fAd K (x, none)) cdv A outer s H E) O0 H (defBody st) u ∧
        ∀ ds n (Q : D → Nat → Prop), usp ds pen n Q PX → u { nx := fun ρ => Q .non ρ.fuel, rt := Q } ⟨startU N ds, pen, n⟩) :
    Fn P w K mg base (k + 1) x st ps usp := by
  refine ⟨⟨fd, fnG_mkL F S (fun vs H Q E ⟨ds, O, pen, n, PD, PX, ra, _, _, _, hu, _⟩ => by rw [ra.length]; exact len _ _ _ _ _ hu) ?_, hb, F.kp, F⟩, g⟩
  intro cdv A outer s H vs Q E hc hr ⟨ds, O, pen, n, PD, PX, ra, tr, hp, pn, hu, hQ, hE⟩
  have lenN : ps.length ≤ N.length := by have := congrArg List.length S.pre; rw [List.length_take] at this; omega
  have tk : Takes (cxOf (L2.CX P w) P w K mg base N x (defScope st) (He.fAd K (x, none)) cdv A outer s H E) (LW K O H fun x ρ => ρ.pen = pen ∧ PX x ρ.fuel) := by
    refine Takes.imp (takes_of rfl rfl rfl rfl) ?_
    rintro cls d σ H' ⟨ρ', x, r', rfl, xr, e, hx⟩
    have fr := r'.fr
    have pn' := r'.pen
    rw [e] at fr pn'
    exact hE x _ hx d H' fr (pn'.less fun b h => .inl h) (xr.keep (.less fun b h => .inl h))
  obtain ⟨u, hb, hr'⟩ := hbody cdv A outer s H E O pen PX hc hr tk
  · refine ⟨_, hb, ⟨startU N ds, pen, n⟩, _, R.start (by rw [len _ _ _ _ _ hu]; exact lenN) ra tr hp pn, hr' ds n PD hu, fun ρ' hx σ' H' r' t' => ?_, fun _ z => z.elim, fun _ z => z.elim, ⟨fun d m hd v H' fr pn' rp => ?_, fun _ _ z => z.elim, fun _ _ z => z.elim⟩⟩
    · have e : ρ'.pen = pen := t'.pn
      have fr := r'.fr
      have pn' := r'.pen
      rw [e] at fr pn'
      exact hQ .non _ hx .non H' fr (pn'.less fun b h => .inl h) .non
    · exact hQ d m hd v H' fr (pn'.less fun b h => .inl h) (rp.keep (.less fun b h => .inl h))
/-- the __init__ of such a class -/
theorem init_mk {x f : Str} {b : Bas} {params : Arguments} {scope : Scope} {body : List Stmt} {fd : FuncData} {fI : Addr} {nm qual : Str}
    (F : FunD K nm qual params body scope [] [] fI fd) (S : FnScope ["self", f] ["self", f] scope)
    (hbody : ∀ (cdv : Value) (A : Around) (outer : List Env) (s : Shared) (H : Hp) (E : XK), PSs (cxOf (L2.CX P w) P w K mg base ["self", f] qual scope fI cdv A outer s H E) body (tSeq (tOstG K b f (tVar 0) (tVar 1)) tNext)) :
    FnG P w K mg base 1 fI fd ["self", f] (spI K b f) := by
  refine fnG_mk F S (fun vs H Q E ⟨a, C, v, e, _⟩ => by rw [e]; rfl) ?_
  intro cdv A outer s H vs Q E hr h
  exact ⟨_, hbody cdv A outer s H E, init_read h⟩
end
/-! ### try around the lambda's call -/
def uTryP (pen : PenT) (m : Cn → Bool) (i : Nat) (ub : WU → US) (us : US) : US := fun E ρ => ρ.pen = pen ∧ uTry m i ub us E ρ
section
variable {X : Cx} {O0 : Ad} {H0 : Hp} {n : Str} {i : Nat} {body suite : List Stmt} {b₀ : Stmt} {test : Expr} {cs : List Value} {pos pos' : Pos} {ub : WU → US} {us : US} {m : Cn → Bool} {e : Expr} {ua : UE}
theorem us_tryP {pen : PenT} (hs : X.stack = X.env :: X.outer) (hf : X.env.frame = some X.env.locals) (hN : X.N.Nodup) (hi : X.N[i]? = some n) (hln : X.env.kindOf n = some .local) (hc : CTest X test cs)
    (hm : ∀ c, m c = true → ∃ sub : Value → Bool, (∀ k ∈ cs, PySem.W.exmOne X.K (c.val X.K) k = some (sub k)) ∧ cs.any sub = true)
    (hb : ∀ (H1 : Hp) (W : WU) (pn : List (Addr × Obj)) (xe : Value → Shared → Prop), Frm pen H0 H1 → Takes (X.tr pn xe) (LW X.K O0 H1 W) → PassesOwn (model X.prog X.w) X.A X.env xe → UPB (X.tr pn xe) O0 H1 body (ub W))
    (hsu : ∀ (a : Addr) (pn : List (Addr × Obj)), UPB (held X a pn) O0 H0 (b₀ :: suite) us) :
    UPS X O0 H0 (.Try body [.ExceptHandler (some test) (some n) (b₀ :: suite) pos'] [] [] pos) (uTryP pen m i ub us) := by
  refine PS.imp (ps_try_kept (tb := fun Wx => fun D σ H => ∃ (H1 : Hp) (W : WU), Frm pen H0 H1 ∧ (∀ cls d σ H, LW X.K O0 H1 W cls d σ H → Wx cls d σ H) ∧ lS X.K O0 H1 (ub W) D σ H) (ts := fun _ _ _ => lS X.K O0 H0 us) hs hf hN hi hln hc
    (fun Wx pn xe tk po => ⟨fun pins s σ H D I ⟨H1, W, hfr, himp, hl⟩ => (hb H1 W pn xe hfr (Takes.imp tk himp) po).run pins s σ H D I hl⟩) fun _ _ a pn => hsu a pn) ?_
  intro σ H D ⟨ρ, E, r, ⟨epen, hno, hu⟩, hn, hbk, hct, hr⟩
  have pen0 : ∀ b, IsPen ρ.pen b → H b ≠ none := fun b hb => r.tr b (OO.pen b hb)
  refine ⟨H, _, (by rw [← epen]; exact r.fr), ?_, ρ, E, r.base hno, hu, fun ρ' hx σ' H' r1 t1 => hn ρ' hx σ' H' (r.rebase r1 t1.pn) t1, fun ρ' hx σ' H' r1 t1 => hbk ρ' hx σ' H' (r.rebase r1 t1.pn) t1,
    fun ρ' hx σ' H' r1 t1 => hct ρ' hx σ' H' (r.rebase r1 t1.pn) t1, hr.base r.fr pen0⟩
  rintro cls d σ1 H1 ⟨ρ1, x, r1, rfl, xr, e1, hm1, hus⟩
  refine ⟨hm _ hm1, fun a na => ?_⟩
  have sm : Same H1 (upd H1 a (ExH (x.cls.val X.K) d a)) := Same.new na
  have t1 : Tr O0 ρ H ρ1 H1 := r.trOf r1 e1
  have r2 : R X.K O0 H0 σ1 (upd H1 a (ExH (x.cls.val X.K) d a)) ρ1 := (r.rebase r1 e1).same sm
  have rp := xr.rp na ((r.rebase r1 e1).fresh na)
  have t2 : Tr O0 ρ H (ρ1.put i (.dat (.exc x.cls (x.fld.getD [])))) (upd H1 a (ExH (x.cls.val X.K) d a)) := (t1.trans ⟨.same sm, rfl⟩).trans Tr.put
  refine ⟨_, behindX i E, r2.put rp, hus, fun ρ2 hx σ2 H2 r3 t3 => ?_, fun ρ2 hx σ2 H2 r3 t3 => ?_, fun ρ2 hx σ2 H2 r3 t3 => ?_, ?_⟩
  · exact hn _ hx _ H2 (r3.emp i none) ((t2.trans t3).trans ⟨.less fun b h => OO.put_emp h, rfl⟩)
  · exact hbk _ hx _ H2 (r3.emp i none) ((t2.trans t3).trans ⟨.less fun b h => OO.put_emp h, rfl⟩)
  · exact hct _ hx _ H2 (r3.emp i none) ((t2.trans t3).trans ⟨.less fun b h => OO.put_emp h, rfl⟩)
  · exact ⟨(hr.at_ t2.pn).d, (hr.at_ t2.pn).f, (hr.at_ t2.pn).n⟩
/-! ### insert, pop of an own list -/
def uIns (i : Nat) (u : UA) : US := fun E ρ => match ρ.sl[i]? with
  | some (.own a (.l ds)) => u ρ fun zs n => match zs with
    | [.int k, d] => (0 ≤ k ∧ k < 2 ^ 63 ∧ ds.length < sizeLine) ∧ E.nx ((ρ.f n).put i (.own a (ds.take k.toNat ++ [d] ++ ds.drop k.toNat)))
    | _ => False
  | _ => False
def uPop (i : Nat) : US := fun E ρ => match ρ.sl[i]? with
  | some (.own a (.l ds)) => ds ≠ [] ∧ E.nx (ρ.put i (.own a ds.dropLast))
  | _ => False
theorem RpA.dropLast {K : PySem.W.Frag} {O : Ad} {H : Hp} {vs : List V} {ds : List D} (h : RpA K O H vs ds) : RpA K O H vs.dropLast ds.dropLast := by
  rw [List.dropLast_eq_take, List.dropLast_eq_take, h.length]
  exact h.take _
/-! ### rewriting -/
variable {E : UEnds} {W : WU} {sl : List Sl} {pn pen : PenT} {k : Nat} {Q : D → Nat → Prop} {f : Addr} {th : UTh}
theorem sTryP : uTryP pen m i ub us E ⟨sl, pn, k⟩ = (pn = pen ∧ uTry m i ub us E ⟨sl, pn, k⟩) := id rfl
theorem xAct : uAct pen f i th W ⟨sl, pn, k⟩ Q = ((pn = pen ∧ sl[i]? = some (.dat (.ref f))) ∧ th k Q (kX W ⟨sl, pn, k⟩)) := id rfl
theorem hide0 : hideS [] = [] := id rfl
theorem hide1 {r : List Sl} : hideS (.emp :: r) = .emp :: hideS r := id rfl
theorem hide2 {d : D} {r : List Sl} : hideS (.dat d :: r) = .dat d :: hideS r := id rfl
theorem hide3 {a : Addr} {c : OC} {r : List Sl} : hideS (.own a c :: r) = .emp :: hideS r := id rfl
/-- what a lambda does, for any wishes -/
def ThOk (th : UTh) (n : Nat) (T : D → Nat → Prop) (S : UX → Nat → Prop) : Prop := ∀ P PX, (∀ d m, T d m → P d m) → (∀ x m, S x m → PX x m) → th n P PX
/-- the lambda at a def's call -/
def thL (ub : WU → UE) (sl : List Sl) (pn : PenT) : UTh := fun n P PX => ub (Wd pn PX) ⟨sl, pn, n⟩ P
theorem xLam {mkr : Str} {usp : USpT} {ubx : WU → UE} : uLam mkr usp ubx ⟨sl, pn, k⟩ Q = (LamIn pn mkr ∧ usp (thL ubx (hideS sl) pn) pn k Q) := id rfl
theorem thOk_of {ubx : WU → UE} {n : Nat} {T : D → Nat → Prop} {S : UX → Nat → Prop} (h : ∀ P PX, (∀ d m, T d m → P d m) → (∀ x m, S x m → PX x m) → ubx (Wd pn PX) ⟨sl, pn, n⟩ P) : ThOk (thL ubx sl pn) n T S := h
def kRevF (L : List D → Nat → Prop) : D → Nat → Prop := fun d n => match d with
  | .lst ds => L ds.reverse n
  | _ => False
theorem xRevF {a : UE} {ρ : Ro} {L : List D → Nat → Prop} : uRevF a ρ L = a ρ (kRevF L) := by
  unfold uRevF kRevF
  rfl
theorem xRevF1 {ds : List D} {n : Nat} {L : List D → Nat → Prop} : kRevF L (.lst ds) n = L ds.reverse n := id rfl
def kIns (i : Nat) (a : Addr) (ds : List D) (E : UEnds) (ρ : Ro) : List D → Nat → Prop := fun zs n => match zs with
  | [.int k, d] => (0 ≤ k ∧ k < 2 ^ 63 ∧ ds.length < sizeLine) ∧ E.nx ((ρ.f n).put i (.own a (ds.take k.toNat ++ [d] ++ ds.drop k.toNat)))
  | _ => False
def kInsS (i : Nat) (u : UA) (E : UEnds) (ρ : Ro) : Option Sl → Prop
  | some (.own a (.l ds)) => u ρ (kIns i a ds E ρ)
  | _ => False
theorem sIns {u : UA} {ρ : Ro} : uIns i u E ρ = kInsS i u E ρ ρ.sl[i]? := by
  unfold uIns kInsS kIns
  split <;> simp_all
theorem sIns1 {u : UA} {ρ : Ro} {a : Addr} {ds : List D} : kInsS i u E ρ (some (.own a (.l ds))) = u ρ (kIns i a ds E ρ) := id rfl
theorem sIns2 {a : Addr} {ds : List D} {z : Int} {d : D} {n : Nat} : kIns i a ds E ⟨sl, pn, k⟩ [.int z, d] n = ((0 ≤ z ∧ z < 2 ^ 63 ∧ ds.length < sizeLine) ∧ E.nx ⟨sl.set i (.own a (ds.take z.toNat ++ [d] ++ ds.drop z.toNat)), pn, n⟩) := id rfl
def kPop (i : Nat) (E : UEnds) (ρ : Ro) : Option Sl → Prop
  | some (.own a (.l ds)) => ds ≠ [] ∧ E.nx (ρ.put i (.own a ds.dropLast))
  | _ => False
theorem sPop {ρ : Ro} : uPop i E ρ = kPop i E ρ ρ.sl[i]? := by
  unfold uPop kPop
  split <;> simp_all
theorem sPop1 {a : Addr} {ds : List D} : kPop i E ⟨sl, pn, k⟩ (some (.own a (.l ds))) = (ds ≠ [] ∧ E.nx ⟨sl.set i (.own a ds.dropLast), pn, k⟩) := id rfl
end
/-! ### repr of lists with dicts within -/
section
variable {X : Cx} {pins : List (Addr × Obj)} {σ : L2.St} {H : Hp} {s : Shared} {O : Ad}
end
structure ShwZ (d : D) : Prop where
  ok : d.okr = true
  sh : d.py.showable = true
  len : d.py.shown.length ≤ sizeLine
  dep : d.py.depth ≤ 60
theorem Shw.z {d : D} (h : Shw d) : ShwZ d := ⟨h.ok, h.sh, h.len, h.dep⟩
theorem ShwZ.of {n : Nat} {d : D} (h : D.fit n d = true) (hn : n ≤ 60) (hz : d.sz ≤ 16777216) : ShwZ d := by
  obtain ⟨a, b, c, e⟩ := fit_facts n d h
  exact ⟨a, b, Nat.le_trans (shown_sz n d h) hz, by omega⟩
section
variable {X : Cx} {O0 : Ad} {H0 : Hp}
end
def clsBody (s : Stmt) : List Stmt := match s with
  | .ClassDef _ _ _ b _ _ _ _ _ _ _ => b
  | _ => []
def isDef (s : Stmt) : Bool := match s with
  | .FunctionDef .. => true
  | _ => false
/-- the first method of a class -/
def clsInit (s : Stmt) : Stmt := ((clsBody s).filter isDef).getD 0 s
end U

set_option Elab.async false
set_option linter.all false
set_option maxRecDepth 100000
set_option maxHeartbeats 4000000
/-! A nested list that is handed to a def, then changed: what the def gave back holds no list. -/
namespace U
open PySem PySem.Spec L2
open PyProof.Rows hiding St
section
variable {K : PySem.W.Frag} {O O' : Ad} {H H' : Hp}
theorem Pen.same {pen : PenT} {n : Nat} (h : Pen K O H pen n) (s : Same H H') : Pen K O H' pen n := fun p c e => by
  obtain ⟨ns, t, r, h1, h2, h3, h4, h5, h6, h7, h8⟩ := h p c e
  exact ⟨ns, t, r, s _ _ h1, s _ _ h2, h3, h4, h5, h6, h7, h8.same s⟩
theorem Pen.updL {pen : PenT} {n : Nat} {D : Addr} {xs : List V} {o : HO} (h : Pen K O H pen n) (e : H D = some (.lst xs)) (np : ∀ p c, pen = some (p, c) → p ≠ D ∧ c.c ≠ D) : Pen K O (upd H D o) pen n := fun p c e2 => by
  obtain ⟨ns, t, r, h1, h2, h3, h4, h5, h6, h7, h8⟩ := h p c e2
  obtain ⟨n1, n2⟩ := np p c e2
  exact ⟨ns, t, r, by rw [upd_ne n1]; exact h1, by rw [upd_ne n2]; exact h2, h3, h4, h5, h6, h7, h8.updL e⟩
end
def rows02 : D := .lst [.lst [.str "make", .int 1, .int 2], .lst [.str "append", .int 0, .lst [.int 7, .int 8]], .lst [.str "write", .int 1, .int 2, .int 5]]
def uRows (i j : Nat) (ua : UE) (u' : US) : US := fun E ρ => ua (ρ.put i (.dat rows02)) fun d n => D.noL d = true ∧ u' E (((ρ.put i .emp).f n).put j (.dat d))
section
variable {X : Cx} {O0 : Ad} {H0 : Hp} {ua : UE} {u' : US} {s1 s2 s3 s4 s5 : Stmt} {rest : List Stmt}
end
theorem sRows {i j : Nat} {ua : UE} {u' : US} {E : UEnds} {sl : List Sl} {pn : PenT} {n : Nat} : uRows i j ua u' E ⟨sl, pn, n⟩ = ua ⟨sl.set i (.dat rows02), pn, n⟩ (fun d m => D.noL d = true ∧ u' E ⟨(sl.set i .emp).set j (.dat d), pn, m⟩) := id rfl
/-! ### list(e), a new list; an own list's item -/
def ufListOf (u : UA) : UF := fun ρ Q => u ρ fun ds n => match ds with
  | [.lst xs] => Q xs n
  | [.tup xs] => Q xs n
  | _ => False
def uOIx (i : Nat) (k : Int) : UE := fun ρ Q => match ρ.sl[i]? with
  | some (.own _ (.l ds)) => gIx (.lst ds) (.int k) fun z => Q z ρ.fuel
  | _ => False
section
variable {X : Cx} {O0 : Ad} {H0 : Hp} {e : Expr} {p pos : Pos}
end
def kfListOf (L : List D → Nat → Prop) : List D → Nat → Prop := fun ds n => match ds with
  | [.lst xs] => L xs n
  | [.tup xs] => L xs n
  | _ => False
theorem xfListOf {u : UA} {ρ : Ro} {L : List D → Nat → Prop} : ufListOf u ρ L = u ρ (kfListOf L) := by
  unfold ufListOf kfListOf
  rfl
theorem xfListOf1 {xs : List D} {n : Nat} {L : List D → Nat → Prop} : kfListOf L [.lst xs] n = L xs n := id rfl
theorem xfListOf2 {xs : List D} {n : Nat} {L : List D → Nat → Prop} : kfListOf L [.tup xs] n = L xs n := id rfl
def kOIx (k : Int) (n : Nat) (Q : D → Nat → Prop) : Option Sl → Prop
  | some (.own _ (.l ds)) => gIx (.lst ds) (.int k) fun z => Q z n
  | _ => False
theorem xOIx {i : Nat} {k : Int} {ρ : Ro} {Q : D → Nat → Prop} : uOIx i k ρ Q = kOIx k ρ.fuel Q ρ.sl[i]? := by
  unfold uOIx kOIx
  split <;> simp_all
theorem xOIx1 {k : Int} {n : Nat} {Q : D → Nat → Prop} {a : Addr} {ds : List D} : kOIx k n Q (some (.own a (.l ds))) = gIx (.lst ds) (.int k) fun z => Q z n := id rfl
end U
/-! ### a text is no dict -/
namespace PySem.SeqAt
open AutoSeq1 (wpAny_loadPart')
open MeetsSeq
section
variable {A : Around} {s : Shared}
end
end PySem.SeqAt
namespace U
open PySem PySem.Spec L2
open PyProof.Rows hiding St
def D.cont : D → Bool
  | .lst _ => true
  | .tup _ => true
  | .dic _ => true
  | _ => false
section
variable {X : Cx}
end
end U

set_option Elab.async false
set_option linter.all false
set_option maxRecDepth 100000
set_option maxHeartbeats 4000000
/-! Trees of objects of one's own: parts, changes. -/
namespace U
open PySem PySem.Spec L2
open PyProof.Rows hiding St
/-- the value of the first entry of the key is another one -/
def updD : List (Key × D) → Key → D → List (Key × D)
  | [], _, _ => []
  | (j, x) :: r, k, d => if j = k then (j, d) :: r else (j, x) :: updD r k d
section
variable {K : PySem.W.Frag} {O O' : Ad} {H H' : Hp}
mutual
theorem Nt.leafOf : ∀ {as : List Addr} {v : V} {d : D}, Nt K O H as v d → D.noL d = true → Rp K O H v d
  | _, _, _, .leaf _ r, _ => r
  | _, _, _, .lst _ _ _, h => by simp [D.noL] at h
  | _, _, _, .tup t r, h => .tup t (NtA.leafOf r (by simpa [D.noL] using h))
  | _, _, _, .dic _ _ _, h => by simp [D.noL] at h
  | _, _, _, .obj _ _ _ _ _ _, h => by simp [D.noL] at h
theorem NtA.leafOf : ∀ {as : List Addr} {v : List V} {d : List D}, NtA K O H as v d → D.noLs d = true → RpA K O H v d
  | _, _, _, .nil, _ => .nil
  | _, _, _, .cons h r _, e => by
    simp only [D.noLs, Bool.and_eq_true] at e
    exact .cons (Nt.leafOf h e.1) (NtA.leafOf r e.2)
end
theorem Nt.dicN {as : List Addr} {v : V} {es : List (Key × D)} (h : Nt K O H as v (.dic es)) : ∃ a kvs bs, as = a :: bs ∧ v = .ref a ∧ H a = some (.dK kvs) ∧ NtK K O H bs kvs es ∧ a ∉ bs := by
  cases h with
  | leaf e r => simp [D.noL] at e
  | dic t r n => exact ⟨_, _, _, rfl, rfl, t, r, n⟩
theorem NtA.length {as : List Addr} {vs : List V} {ds : List D} (h : NtA K O H as vs ds) : vs.length = ds.length := by
  induction ds generalizing as vs with
  | nil => cases h; rfl
  | cons d ds ih => cases h with
    | cons a b _ => rw [List.length_cons, List.length_cons, ih b]
theorem NtK.length {as : List Addr} {vs : List (Key × V)} {ds : List (Key × D)} (h : NtK K O H as vs ds) : vs.length = ds.length := by
  induction ds generalizing as vs with
  | nil => cases h; rfl
  | cons d ds ih => cases h with
    | cons a b _ => rw [List.length_cons, List.length_cons, ih b]
/-- the rest stays, the part is another one -/
def Re (K : PySem.W.Frag) (O : Ad) (H : Hp) (as bs : List Addr) (w : V) (F : (O' : Ad) → Hp → List Addr → D → Prop) : Prop :=
  ∀ (O' : Ad) (H' : Hp) (bs' : List Addr) (d' : D), Keeps O O' H H' → (∀ b ∈ as, b ∉ bs → ∀ o, H b = some o → H' b = some o) → Nt K O' H' bs' w d' → (∀ b ∈ bs', b ∈ bs ∨ b ∉ as) → ∃ as', F O' H' as' d' ∧ ∀ b ∈ as', b ∈ as ∨ b ∈ bs'
theorem NtA.sub {as : List Addr} {vs : List V} {ds : List D} {j : Nat} {d : D} (h : NtA K O H as vs ds) (e : ds[j]? = some d) :
    ∃ bs w, vs[j]? = some w ∧ Nt K O H bs w d ∧ (∀ b ∈ bs, b ∈ as) ∧ Re K O H as bs w fun O' H' as' d' => NtA K O' H' as' vs (ds.set j d') := by
  induction ds generalizing as vs j with
  | nil => simp at e
  | cons x ds ih => cases h with
    | @cons xs ys v vs _ _ hx hr hd =>
      cases j with
      | zero =>
        cases (Option.some.inj e)
        refine ⟨xs, v, rfl, hx, fun b hb => List.mem_append_left _ hb, fun O' H' bs' d' k ha hn hb => ?_⟩
        have hr' := hr.keep k fun b hy => ha b (List.mem_append_right _ hy) fun hx => hd b hx hy
        refine ⟨bs' ++ ys, .cons hn hr' fun b h1 h2 => ?_, fun b hb => ?_⟩
        · rcases hb b h1 with h | h
          · exact hd b h h2
          · exact h (List.mem_append_right _ h2)
        · rcases List.mem_append.mp hb with h | h
          · exact .inr h
          · exact .inl (List.mem_append_right _ h)
      | succ j =>
        obtain ⟨bs, w, e1, n1, s1, re⟩ := ih hr (by simpa using e)
        refine ⟨bs, w, by simpa using e1, n1, fun b hb => List.mem_append_right _ (s1 b hb), fun O' H' bs' d' k ha hn hb => ?_⟩
        have hx' := hx.keep k fun b h => ha b (List.mem_append_left _ h) fun z => hd b h (s1 b z)
        obtain ⟨ys', f, g⟩ := re O' H' bs' d' k (fun b h z => ha b (List.mem_append_right _ h) z) hn fun b h => (hb b h).imp id fun z q => z (List.mem_append_right _ q)
        refine ⟨xs ++ ys', .cons hx' f fun b h1 h2 => ?_, fun b h => ?_⟩
        · rcases g b h2 with q | q
          · exact hd b h1 q
          · rcases hb b q with z | z
            · exact hd b h1 (s1 b z)
            · exact z (List.mem_append_left _ h1)
        · rcases List.mem_append.mp h with h | h
          · exact .inl (List.mem_append_left _ h)
          · exact (g b h).imp (fun z => List.mem_append_right _ z) id
theorem NtK.sub {as : List Addr} {vs : List (Key × V)} {ds : List (Key × D)} {j : Key} {d : D} (h : NtK K O H as vs ds) (e : valD ds j = some d) :
    ∃ bs w, valV vs j = some w ∧ Nt K O H bs w d ∧ (∀ b ∈ bs, b ∈ as) ∧ Re K O H as bs w fun O' H' as' d' => NtK K O' H' as' vs (updD ds j d') := by
  induction ds generalizing as vs with
  | nil => simp [valD] at e
  | cons x ds ih => cases h with
    | @cons xs ys k v vs x ds hx hr hd =>
      unfold valD at e
      rw [List.find?_cons] at e
      by_cases q : k = j
      · subst q
        rw [show (decide (k = k)) = true from decide_eq_true rfl] at e
        cases (Option.some.inj e)
        refine ⟨xs, v, by simp [valV], hx, fun b hb => List.mem_append_left _ hb, fun O' H' bs' d' kk ha hn hb => ?_⟩
        have hr' := hr.keep kk fun b hy => ha b (List.mem_append_right _ hy) fun hx => hd b hx hy
        refine ⟨bs' ++ ys, ?_, fun b hb => ?_⟩
        · dsimp only
          rw [show updD ((k, x) :: ds) k d' = (k, d') :: ds from by simp [updD]]
          refine .cons hn hr' fun b h1 h2 => ?_
          rcases hb b h1 with h | h
          · exact hd b h h2
          · exact h (List.mem_append_right _ h2)
        · rcases List.mem_append.mp hb with h | h
          · exact .inr h
          · exact .inl (List.mem_append_right _ h)
      · rw [show (decide (k = j)) = false from decide_eq_false q] at e
        obtain ⟨bs, w, e1, n1, s1, re⟩ := ih hr e
        refine ⟨bs, w, ?_, n1, fun b hb => List.mem_append_right _ (s1 b hb), fun O' H' bs' d' kk ha hn hb => ?_⟩
        · unfold valV at e1 ⊢
          rw [List.find?_cons, show (decide (k = j)) = false from decide_eq_false q]
          exact e1
        have hx' := hx.keep kk fun b h => ha b (List.mem_append_left _ h) fun z => hd b h (s1 b z)
        obtain ⟨ys', f, g⟩ := re O' H' bs' d' kk (fun b h z => ha b (List.mem_append_right _ h) z) hn fun b h => (hb b h).imp id fun z q => z (List.mem_append_right _ q)
        refine ⟨xs ++ ys', ?_, fun b h => ?_⟩
        · dsimp only
          rw [show updD ((k, x) :: ds) j d' = (k, x) :: updD ds j d' from by simp [updD, q]]
          refine .cons hx' f fun b h1 h2 => ?_
          rcases g b h2 with q | q
          · exact hd b h1 q
          · rcases hb b q with z | z
            · exact hd b h1 (s1 b z)
            · exact z (List.mem_append_left _ h1)
        · rcases List.mem_append.mp h with h | h
          · exact .inl (List.mem_append_left _ h)
          · exact (g b h).imp (fun z => List.mem_append_right _ z) id
theorem Re.comp {as bs bs2 : List Addr} {v0 v w : V} {C C2 : D → D} (s1 : ∀ b ∈ bs, b ∈ as) (s2 : ∀ b ∈ bs2, b ∈ bs)
    (h1 : Re K O H as bs v fun O' H' as' d' => Nt K O' H' as' v0 (C d')) (h2 : Re K O H bs bs2 w fun O' H' as' d' => Nt K O' H' as' v (C2 d')) : Re K O H as bs2 w fun O' H' as' d' => Nt K O' H' as' v0 (C (C2 d')) := by
  intro O' H' bs' d' k ha hn hb
  obtain ⟨bs1, f, g⟩ := h2 O' H' bs' d' k (fun b h => ha b (s1 b h)) hn fun b h => (hb b h).imp id fun z q => z (s1 b q)
  obtain ⟨as', f', g'⟩ := h1 O' H' bs1 (C2 d') k (fun b h n => ha b h fun z => n (s2 b z)) f fun b h => by
    rcases g b h with q | q
    · exact .inl q
    · exact (hb b q).imp (s2 b) id
  refine ⟨as', f', fun b h => ?_⟩
  rcases g' b h with q | q
  · exact .inl q
  · rcases g b q with z | z
    · exact .inl (s1 b z)
    · exact .inr z
/-- at the place of C in the tree v0, within S: v, with the content d -/
def Hole (K : PySem.W.Frag) (O : Ad) (H : Hp) (S : List Addr) (v0 : V) (C : D → D) (v : V) (d : D) : Prop :=
  ∃ as bs, (∀ b ∈ as, b ∈ S) ∧ (∀ b ∈ bs, b ∈ as) ∧ Nt K O H bs v d ∧ Re K O H as bs v fun O' H' as' d' => Nt K O' H' as' v0 (C d')
theorem Hole.root {S : List Addr} {v0 : V} {t : D} (h : NtS K O H S v0 t) : Hole K O H S v0 id v0 t := by
  obtain ⟨as, n, e⟩ := h
  exact ⟨as, as, e, fun _ z => z, n, fun O' H' bs' d' k ha hn hb => ⟨bs', hn, fun b h => .inr h⟩⟩
theorem Hole.keep {S : List Addr} {v0 v : V} {C : D → D} {d : D} (k : Keeps O O' H H') (ha : ∀ b ∈ S, ∀ o, H b = some o → H' b = some o) (h : Hole K O H S v0 C v d) : Hole K O' H' S v0 C v d := by
  obtain ⟨as, bs, s1, s2, n, re⟩ := h
  refine ⟨as, bs, s1, s2, n.keep k fun b hb => ha b (s1 b (s2 b hb)), fun O2 H2 bs' d' k2 ha2 hn hb => ?_⟩
  exact re O2 H2 bs' d' (k.trans k2) (fun b h nb o z => ha2 b h nb o (ha b (s1 b h) o z)) hn hb
theorem Hole.leaf {S : List Addr} {v0 v : V} {C : D → D} {d : D} (h : Hole K O H S v0 C v d) (e : D.noL d = true) : Rp K O H v d :=
  let ⟨_, _, _, _, n, _⟩ := h
  n.leafOf e
theorem Hole.step {S : List Addr} {v0 v w : V} {C C2 : D → D} {d d2 : D} (h : Hole K O H S v0 C v d)
    (h2 : ∀ bs, Nt K O H bs v d → ∃ bs2, Nt K O H bs2 w d2 ∧ (∀ b ∈ bs2, b ∈ bs) ∧ Re K O H bs bs2 w fun O' H' as' d' => Nt K O' H' as' v (C2 d')) : Hole K O H S v0 (fun x => C (C2 x)) w d2 := by
  obtain ⟨as, bs, s1, s2, n, re⟩ := h
  obtain ⟨bs2, n2, s3, re2⟩ := h2 bs n
  exact ⟨as, bs2, s1, fun b hb => s2 b (s3 b hb), n2, Re.comp s2 s3 re re2⟩
theorem Hole.key {S : List Addr} {v0 v : V} {C : D → D} {es : List (Key × D)} {j : Key} {d : D} (h : Hole K O H S v0 C v (.dic es)) (e : valD es j = some d) :
    ∃ a kvs w, v = .ref a ∧ H a = some (.dK kvs) ∧ valV kvs j = some w ∧ Hole K O H S v0 (fun x => C (.dic (updD es j x))) w d := by
  have ⟨as, bs, s1, s2, n, re⟩ := h
  obtain ⟨a, vs, cs, rfl, rfl, ha, na, hna⟩ := n.dicN
  obtain ⟨bs2, w, e1, n2, s3, re2⟩ := na.sub e
  refine ⟨a, vs, w, rfl, ha, e1, as, bs2, s1, fun b hb => s2 b (List.mem_cons_of_mem _ (s3 b hb)), n2, Re.comp (C2 := fun x => .dic (updD es j x)) s2 (fun b hb => List.mem_cons_of_mem _ (s3 b hb)) re ?_⟩
  intro O' H' bs' d' k hk hn hb
  obtain ⟨cs', f, g⟩ := re2 O' H' bs' d' k (fun b h => hk b (List.mem_cons_of_mem _ h)) hn fun b h => (hb b h).imp id fun z q => z (List.mem_cons_of_mem _ q)
  refine ⟨a :: cs', .dic (hk a List.mem_cons_self (fun z => hna (s3 a z)) _ ha) f fun z => ?_, fun b h => ?_⟩
  · rcases g a z with q | q
    · exact hna q
    · rcases hb a q with q | q
      · exact hna (s3 a q)
      · exact q List.mem_cons_self
  · rcases List.mem_cons.mp h with q | q
    · exact .inl (by rw [q]; exact List.mem_cons_self)
    · exact (g b q).imp (fun z => List.mem_cons_of_mem _ z) id
/-! ### children change -/
theorem NtA.snoc {as bs : List Addr} {vs : List V} {ds : List D} {v : V} {d : D} (h : NtA K O H as vs ds) (g : Nt K O H bs v d) (hd : ∀ b ∈ bs, b ∉ as) : ∃ cs, NtA K O H cs (vs ++ [v]) (ds ++ [d]) ∧ ∀ b ∈ cs, b ∈ as ∨ b ∈ bs := by
  induction ds generalizing as vs with
  | nil =>
    cases h
    exact ⟨bs ++ [], .cons g .nil (fun _ _ z => nomatch z), fun b h => .inr (by simpa using h)⟩
  | cons x ds ih => cases h with
    | @cons xs ys _ _ _ _ hx hr hn =>
      obtain ⟨cs, n, e⟩ := ih hr fun b hb z => hd b hb (List.mem_append_right _ z)
      refine ⟨xs ++ cs, .cons hx n fun b h1 h2 => ?_, fun b h => ?_⟩
      · rcases e b h2 with q | q
        · exact hn b h1 q
        · exact hd b q (List.mem_append_left _ h1)
      · rcases List.mem_append.mp h with q | q
        · exact .inl (List.mem_append_left _ q)
        · exact (e b q).imp (fun z => List.mem_append_right _ z) id
theorem NtA.set {as bs : List Addr} {vs : List V} {ds : List D} {v : V} {d : D} (j : Nat) (h : NtA K O H as vs ds) (g : Nt K O H bs v d) (hd : ∀ b ∈ bs, b ∉ as) : ∃ cs, NtA K O H cs (vs.set j v) (ds.set j d) ∧ ∀ b ∈ cs, b ∈ as ∨ b ∈ bs := by
  induction ds generalizing as vs j with
  | nil =>
    cases h
    exact ⟨[], .nil, fun _ z => nomatch z⟩
  | cons x ds ih => cases h with
    | @cons xs ys _ _ _ _ hx hr hn =>
      cases j with
      | zero => exact ⟨bs ++ ys, .cons g hr fun b h1 h2 => hd b h1 (List.mem_append_right _ h2), fun b h => (List.mem_append.mp h).elim .inr fun z => .inl (List.mem_append_right _ z)⟩
      | succ j =>
        obtain ⟨cs, n, e⟩ := ih j hr fun b hb z => hd b hb (List.mem_append_right _ z)
        refine ⟨xs ++ cs, .cons hx n fun b h1 h2 => ?_, fun b h => ?_⟩
        · rcases e b h2 with q | q
          · exact hn b h1 q
          · exact hd b q (List.mem_append_left _ h1)
        · rcases List.mem_append.mp h with q | q
          · exact .inl (List.mem_append_left _ q)
          · exact (e b q).imp (fun z => List.mem_append_right _ z) id
theorem NtA.take {as : List Addr} {vs : List V} {ds : List D} (n : Nat) (h : NtA K O H as vs ds) : ∃ cs, NtA K O H cs (vs.take n) (ds.take n) ∧ ∀ b ∈ cs, b ∈ as := by
  induction ds generalizing as vs n with
  | nil => cases h; exact ⟨[], by rw [List.take_nil, List.take_nil]; exact .nil, fun _ z => nomatch z⟩
  | cons x ds ih => cases h with
    | @cons xs ys _ _ _ _ hx hr hn =>
      cases n with
      | zero => exact ⟨[], .nil, fun _ z => nomatch z⟩
      | succ n =>
        obtain ⟨cs, m, e⟩ := ih n hr
        exact ⟨xs ++ cs, .cons hx m fun b h1 h2 => hn b h1 (e b h2), fun b h => (List.mem_append.mp h).elim (fun z => List.mem_append_left _ z) fun z => List.mem_append_right _ (e b z)⟩
theorem NtA.drop {as : List Addr} {vs : List V} {ds : List D} (n : Nat) (h : NtA K O H as vs ds) : ∃ cs, NtA K O H cs (vs.drop n) (ds.drop n) ∧ ∀ b ∈ cs, b ∈ as := by
  induction ds generalizing as vs n with
  | nil => cases h; exact ⟨[], by rw [List.drop_nil, List.drop_nil]; exact .nil, fun _ z => nomatch z⟩
  | cons x ds ih => cases h with
    | @cons xs ys _ _ _ _ hx hr hn =>
      cases n with
      | zero => exact ⟨xs ++ ys, .cons hx hr hn, fun _ z => z⟩
      | succ n =>
        obtain ⟨cs, m, e⟩ := ih n hr
        exact ⟨cs, m, fun b h => List.mem_append_right _ (e b h)⟩
theorem NtK.any {as : List Addr} {kvs : List (Key × V)} {es : List (Key × D)} (h : NtK K O H as kvs es) (k : Key) : (kvs.any fun kv => decide (kv.1 = k)) = es.any fun e => decide (e.1 = k) := by
  induction es generalizing as kvs with
  | nil => cases h; rfl
  | cons e es ih => cases h with
    | cons a b _ => rw [List.any_cons, List.any_cons, ih b]
theorem NtK.snoc {as bs : List Addr} {vs : List (Key × V)} {ds : List (Key × D)} {k : Key} {v : V} {d : D} (h : NtK K O H as vs ds) (g : Nt K O H bs v d) (hd : ∀ b ∈ bs, b ∉ as) : ∃ cs, NtK K O H cs (vs ++ [(k, v)]) (ds ++ [(k, d)]) ∧ ∀ b ∈ cs, b ∈ as ∨ b ∈ bs := by
  induction ds generalizing as vs with
  | nil =>
    cases h
    exact ⟨bs ++ [], .cons g .nil (fun _ _ z => nomatch z), fun b h => .inr (by simpa using h)⟩
  | cons x ds ih => cases h with
    | @cons xs ys _ _ _ _ _ hx hr hn =>
      obtain ⟨cs, n, e⟩ := ih hr fun b hb z => hd b hb (List.mem_append_right _ z)
      refine ⟨xs ++ cs, .cons hx n fun b h1 h2 => ?_, fun b h => ?_⟩
      · rcases e b h2 with q | q
        · exact hn b h1 q
        · exact hd b q (List.mem_append_left _ h1)
      · rcases List.mem_append.mp h with q | q
        · exact .inl (List.mem_append_left _ q)
        · exact (e b q).imp (fun z => List.mem_append_right _ z) id
theorem NtK.repl {as : List Addr} {vs : List (Key × V)} {ds : List (Key × D)} {k : Key} {v : V} {d : D} (h : NtK K O H as vs ds) (g : Rp K O H v d) (e : D.noL d = true) :
    ∃ cs, NtK K O H cs (vs.map fun kv => if kv.1 = k then (kv.1, v) else kv) (ds.map fun e => if e.1 = k then (e.1, d) else e) ∧ ∀ b ∈ cs, b ∈ as := by
  induction ds generalizing as vs with
  | nil => cases h; exact ⟨[], .nil, fun _ z => nomatch z⟩
  | cons x ds ih => cases h with
    | @cons xs ys j _ _ _ _ hx hr hn =>
      obtain ⟨cs, n, e1⟩ := ih hr
      rw [List.map_cons, List.map_cons]
      by_cases q : j = k
      · rw [if_pos q, if_pos q]
        exact ⟨[] ++ cs, .cons (.leaf e g) n (fun _ z => nomatch z), fun b h => List.mem_append_right _ (e1 b (by simpa using h))⟩
      · rw [if_neg q, if_neg q]
        exact ⟨xs ++ cs, .cons hx n fun b h1 h2 => hn b h1 (e1 b h2), fun b h => (List.mem_append.mp h).elim (fun z => List.mem_append_left _ z) fun z => List.mem_append_right _ (e1 b z)⟩
theorem NtK.put {as bs : List Addr} {vs : List (Key × V)} {ds : List (Key × D)} {k : Key} {v : V} {d : D} (h : NtK K O H as vs ds) (g : Nt K O H bs v d) (hd : ∀ b ∈ bs, b ∉ as) (hk : D.noL d = true ∨ (ds.any fun e => decide (e.1 = k)) = false) :
    ∃ cs, NtK K O H cs (putK vs k v) (putD ds k d) ∧ ∀ b ∈ cs, b ∈ as ∨ b ∈ bs := by
  unfold putK putD
  rw [h.any k]
  cases q : (ds.any fun e => decide (e.1 = k)) with
  | false =>
    rw [if_neg Bool.false_ne_true, if_neg Bool.false_ne_true]
    exact h.snoc g hd
  | true =>
    rw [if_pos rfl, if_pos rfl]
    rcases hk with hk | hk
    · obtain ⟨cs, n, e⟩ := h.repl (k := k) (g.leafOf hk) hk
      exact ⟨cs, n, fun b z => .inl (e b z)⟩
    · rw [q] at hk; cases hk
end
/-! ### a store into a tree -/
section
variable {K : PySem.W.Frag} {O0 : Ad} {H0 H : Hp} {σ : L2.St} {ρ : Ro}
/-- beside what is not to be met: these, too -/
abbrev Ov (O0 : Ad) (ns : List Addr) : Ad := fun b => O0 b ∨ b ∈ ns
theorem OO.ov {ns : List Addr} {b : Addr} : OO (Ov O0 ns) ρ b ↔ OO O0 ρ b ∨ b ∈ ns := by
  constructor
  · rintro ((h | h) | h)
    · exact .inl (.inl h)
    · exact .inr h
    · exact .inl (.inr h)
  · rintro ((h | h) | h)
    · exact .inl (.inl h)
    · exact .inr h
    · exact .inl (.inr h)
end
end U

set_option Elab.async false
set_option linter.all false
set_option maxRecDepth 100000
set_option maxHeartbeats 4000000
/-! Trees: where an expression leads to, new trees, stores. -/
namespace U
open PySem PySem.Spec L2
open PyProof.Rows hiding St
/-! ### where an expression leads to -/
abbrev UP := Ro → (D → (D → D) → Nat → Prop) → Prop
def uRoot (i : Nat) : UP := fun ρ Q => match ρ.sl[i]? with
  | some (.tre _ t) => Q t id ρ.fuel
  | _ => False
def atD (ds : List D) (z : Int) : Option (Nat × D) := (ixN ds.length z).bind fun j => (ds[j]?).map fun d => (j, d)
def stepD : D → D → Option (D × (D → D))
  | .lst ds, .int z => (atD ds z).map fun p => (p.2, fun x => .lst (ds.set p.1 x))
  | .tup ds, .int z => (atD ds z).map fun p => (p.2, fun x => .tup (ds.set p.1 x))
  | .dic es, .int z => (valD es (.inl z)).map fun d => (d, fun x => .dic (updD es (.inl z) x))
  | .dic es, .str z => (valD es (.inr z)).map fun d => (d, fun x => .dic (updD es (.inr z) x))
  | _, _ => none
def uStep (up : UP) (uk : UE) : UP := fun ρ Q => up ρ fun d C n => uk (ρ.f n) fun k m => match stepD d k with
  | some p => Q p.1 (fun x => C (p.2 x)) m
  | none => False
def uLeaf (up : UP) : UE := fun ρ Q => up ρ fun d _ n => D.noL d = true ∧ Q d n
/-! ### new trees -/
abbrev UV := Ro → (D → Nat → Prop) → Prop
def uLf (u : UE) : UV := fun ρ Q => u ρ fun d n => D.noL d = true ∧ Q d n
def uFv (u : UF) : UV := fun ρ Q => u ρ fun ds n => D.noLs ds = true ∧ Q (.lst ds) n
section
variable {K : PySem.W.Frag} {O0 : Ad} {H0 H H1 : Hp} {σ : L2.St} {ρ : Ro}
theorem ov_nil : Ov O0 [] = O0 := by
  funext b
  simp [Ov]
theorem ov_cons {p : Addr} {ns : List Addr} : (fun b => Ov O0 ns b ∨ b = p) = Ov O0 (p :: ns) := by
  funext b
  simp only [Ov, List.mem_cons, eq_iff_iff]
  constructor
  · rintro ((h | h) | h)
    · exact .inl h
    · exact .inr (.inr h)
    · exact .inr (.inl h)
  · rintro (h | h | h)
    · exact .inl (.inl h)
    · exact .inr h
    · exact .inl (.inr h)
theorem R.less {ns : List Addr} (r : R K (Ov O0 ns) H0 σ H ρ) : R K O0 H0 σ H ρ := by
  have le : ∀ b, OO O0 ρ b → OO (Ov O0 ns) ρ b := fun b h => OO.ov.mpr (.inl h)
  exact {
    len := r.len
    dat := fun i d e => let ⟨v, h1, h2⟩ := r.dat i d e; ⟨v, h1, h2.keep (.less le)⟩
    own := fun i a ds e => let ⟨h1, h2, h3, h4, h5⟩ := r.own i a ds e; ⟨h1, fun z => h2 (.inl z), h3, h4, h5.keep (.less le) fun _ q => q⟩
    inj := r.inj
    fr := r.fr
    tr := fun b h => r.tr b (le b h)
    pen := r.pen.less le
    tre := fun i as d e => let ⟨⟨h1, h2⟩, h3, h4⟩ := r.tre i as d e; ⟨⟨h1, h2.keep (.less le) fun _ _ _ q => q⟩, fun b q => let ⟨k1, k2, k3, k4⟩ := h3 b q; ⟨fun z => k1 (.inl z), k2, k3, k4⟩, h4⟩ }
theorem Free.leaf {n : Nat} {v : V} {d : D} (r : R K O0 H0 σ H ρ) (p : Rp K (OO O0 ρ) H v d) (e : D.noL d = true) : Free K O0 H0 σ ρ H [] v d := by
  refine ⟨?_, ?_, fun _ z => nomatch z⟩
  · show R K (Ov O0 []) H0 σ H ρ
    rw [ov_nil]; exact r
  · show NtS K (OO (Ov O0 []) ρ) H [] v d
    rw [ov_nil]; exact ⟨[], .leaf e p, fun _ z => z⟩
theorem R.freshO (r : R K O0 H0 σ H ρ) {p : Addr} (h : H p = none) : ¬ OO O0 ρ p ∧ H0 p = none := by
  have nO : ¬ OO O0 ρ p := r.fresh h
  refine ⟨nO, ?_⟩
  cases q : H0 p with
  | none => rfl
  | some o =>
    have := r.fr p o q fun z => nO (OO.pen p z)
    rw [h] at this
    cases this
/-- a new object above what is free -/
theorem Free.up {ns : List Addr} (r : R K (Ov O0 ns) H0 σ H ρ) (hn : ∀ b ∈ ns, ¬ OO O0 ρ b ∧ H0 b = none ∧ H b ≠ none) {p : Addr} {o : HO} {d : D} (hp : H p = none)
    (nt : NtS K (OO (Ov O0 (p :: ns)) ρ) (upd H p o) (p :: ns) (.ref p) d) : Free K O0 H0 σ ρ (upd H p o) (p :: ns) (.ref p) d := by
  have fr := r.freshO hp
  refine ⟨?_, nt, fun b hb => ?_⟩
  · have := r.more (o := o) hp
    rw [ov_cons] at this
    exact this
  · rcases List.mem_cons.mp hb with e | e
    · subst e
      exact ⟨fun z => fr.1 (OO.ov.mpr (.inl z)), fr.2, by rw [upd_same]; simp⟩
    · obtain ⟨k1, k2, k3⟩ := hn b e
      refine ⟨k1, k2, ?_⟩
      rw [upd_ne (fun z => k3 (by rw [z]; exact hp))]
      exact k3
end
section
variable {X : Cx} {O0 : Ad} {H0 : Hp} {a b c e : Expr} {ua ub uc : UE} {pos p : Pos} {W : WU} {i : Nat} {up : UP} {uv : UV}
def uDic0 : UV := fun ρ Q => Q (.dic []) ρ.fuel
theorem Nt.ref {K : PySem.W.Frag} {O : Ad} {H : Hp} {as : List Addr} {v : V} {d : D} (h : Nt K O H as v d) (e : D.noL d = false) : ∃ a, v = .ref a := by
  cases h with
  | leaf q _ => rw [q] at e; cases e
  | lst => exact ⟨_, rfl⟩
  | tup => exact ⟨_, rfl⟩
  | dic => exact ⟨_, rfl⟩
  | obj => exact ⟨_, rfl⟩
theorem Free.ref {K : PySem.W.Frag} {O0 : Ad} {H0 H1 : Hp} {σ : L2.St} {ρ : Ro} {ns : List Addr} {v : V} {d : D} (F : Free K O0 H0 σ ρ H1 ns v d) (e : D.noL d = false) : ∃ a, v = .ref a :=
  let ⟨_, ⟨_, n, _⟩, _⟩ := F
  n.ref e
/-- a slot gets a tree that is free -/
theorem Free.put {K : PySem.W.Frag} {O0 : Ad} {H0 H1 : Hp} {σ : L2.St} {ρ : Ro} {ns : List Addr} {a : Addr} {d : D} {j : Nat} (F : Free K O0 H0 σ ρ H1 ns (.ref a) d) (hj : j < σ.length) :
    R K O0 H0 (σ.set j (some (.ref a))) H1 (ρ.put j (.tre ⟨a, ns⟩ d)) ∧ Keeps (OO (Ov O0 ns) ρ) (OO O0 (ρ.put j (.tre ⟨a, ns⟩ d))) H1 H1 := by
  obtain ⟨r, nt, hn⟩ := F
  have hl : j < ρ.sl.length := by rw [← r.len]; exact hj
  have le : ∀ b, OO O0 (ρ.put j (.tre ⟨a, ns⟩ d)) b → OO (Ov O0 ns) ρ b := fun b h => by
    rcases h with h | h | ⟨k, c, h⟩ | ⟨k, bs, t, h, m⟩
    · exact .inl (.inl h)
    · exact .inr (.inl h)
    · rcases set_some h with ⟨_, e2, _⟩ | ⟨_, e2⟩
      · cases e2
      · exact .own e2
    · rcases set_some h with ⟨_, e2, _⟩ | ⟨_, e2⟩
      · cases e2; exact .inl (.inr m)
      · exact .tre e2 m
  have k0 : Keeps (OO (Ov O0 ns) ρ) (OO O0 (ρ.put j (.tre ⟨a, ns⟩ d))) H1 H1 := .less le
  refine ⟨⟨?_, fun k c q => ?_, fun k c fs q => ?_, fun k l c fs gs q1 q2 => ?_, r.fr, fun b z => r.tr b (le b z), fun p c q => ?_, fun k bs t q => ?_⟩, k0⟩
  · show _ = (ρ.sl.set j _).length
    rw [List.length_set, List.length_set]; exact r.len
  · rcases set_some q with ⟨_, e2, _⟩ | ⟨e1, e2⟩
    · cases e2
    · obtain ⟨w, h1, h2⟩ := r.dat k c e2
      exact ⟨w, by rw [List.getElem?_set_ne e1]; exact h1, h2.keep k0⟩
  · rcases set_some q with ⟨_, e2, _⟩ | ⟨e1, e2⟩
    · cases e2
    · obtain ⟨h1, h2, h3, h4, h5⟩ := r.own k c fs e2
      exact ⟨by rw [List.getElem?_set_ne e1]; exact h1, fun z => h2 (.inl z), h3, h4, h5.keep k0 fun _ q => q⟩
  · rcases set_some q1 with ⟨_, e2, _⟩ | ⟨_, e2⟩
    · cases e2
    · rcases set_some q2 with ⟨_, e4, _⟩ | ⟨_, e4⟩
      · cases e4
      · exact r.inj k l c fs gs e2 e4
  · exact r.pen.less le p c q
  · rcases set_some q with ⟨e1, e2, _⟩ | ⟨e1, e2⟩
    · cases e2
      subst e1
      refine ⟨⟨by rw [List.getElem?_set_self hj], nt.keep k0 fun _ _ _ z => z⟩, fun b hb => ?_, fun l s el nl b hb w => ?_⟩
      · obtain ⟨k1, k2, k3⟩ := hn b hb
        exact ⟨fun z => k1 (.inl z), k2, fun z => k1 (OO.pen b z), k3⟩
      · rcases set_some el with ⟨e5, _, _⟩ | ⟨_, e5⟩
        · exact nl e5.symm
        · refine (hn b hb).1 ?_
          cases s with
          | own c fs => exact .own (i := l) (c := fs) (by rw [List.mem_singleton.mp w]; exact e5)
          | tre bs2 d2 => exact .tre e5 w
          | emp => cases w
          | dat _ => cases w
    · obtain ⟨⟨h1, h2⟩, h3, h4⟩ := r.tre k bs t e2
      refine ⟨⟨by rw [List.getElem?_set_ne e1]; exact h1, h2.keep k0 fun _ _ _ z => z⟩, fun b hb => ?_, fun l s el nl b hb w => ?_⟩
      · obtain ⟨k1, k2, k3, k4⟩ := h3 b hb
        exact ⟨fun z => k1 (.inl z), k2, k3, k4⟩
      · rcases set_some el with ⟨e5, e6, _⟩ | ⟨_, e6⟩
        · cases e6
          exact (h3 b hb).1 (.inr w)
        · exact h4 l s e6 nl b hb w
/-- x = e, a new tree -/
def uTNew (j : Nat) (uv : UV) : US := fun E ρ => uv ρ fun d n => D.noL d = false ∧ ∀ as, E.nx ((ρ.f n).put j (.tre as d))
/-- the root of the tree in slot i -/
def rtOf (ρ : Ro) (i : Nat) : Addr := match ρ.sl[i]? with
  | some (.tre as _) => as.rt
  | _ => sysModules
/-- what a store makes of the part -/
def putS : D → D → D → (D → Prop) → Prop
  | .lst ds, .int z, x, Q => match ixN ds.length z with
    | some j => Q (.lst (ds.set j x))
    | none => False
  | .dic es, .int z, x, Q => (es.length < sizeLine ∧ (D.noL x = true ∨ (es.any fun e => decide (e.1 = .inl z)) = false)) ∧ Q (.dic (putD es (.inl z) x))
  | .dic es, .str z, x, Q => (es.length < sizeLine ∧ (D.noL x = true ∨ (es.any fun e => decide (e.1 = .inr z)) = false)) ∧ Q (.dic (putD es (.inr z) x))
  | _, _, _, _ => False
/-- tree[..][k] = e -/
def uTSet (i : Nat) (up : UP) (uk : UE) (uv : UV) : US := fun E ρ => uv ρ fun x n => up (ρ.f n) fun d C m => uk (ρ.f m) fun k l => putS d k x fun d' => ∀ as, E.nx ((ρ.f l).put i (.tre ⟨rtOf ρ i, as⟩ (C d')))
end
end U

set_option Elab.async false
set_option linter.all false
set_option maxRecDepth 100000
set_option maxHeartbeats 4000000
/-! Trees: statements that store into them, that let them go. -/
namespace U
open PySem PySem.Spec L2
open PyProof.Rows hiding St
section
variable {X : Cx} {O0 : Ad} {H0 : Hp} {a b c e : Expr} {ua ub uc : UE} {pos p : Pos} {W : WU} {i : Nat} {up : UP} {uv : UV}
theorem PSet.or {t t' : TSet} (h : PSet X t) (h' : PSet X t') : PSet X (fun o i v H Q => t o i v H Q ∨ t' o i v H Q) := by
  intro pins s σ H o i v ov iv u Q I ro ri rv q
  rcases q with q | q
  · exact h pins s σ H o i v ov iv u Q I ro ri rv q
  · exact h' pins s σ H o i v ov iv u Q I ro ri rv q
/-- tree[..].append(e) -/
def uTApp (i : Nat) (up : UP) (uv : UV) : US := fun E ρ => up ρ fun d C n => match d with
  | .lst ds => uv (ρ.f n) fun x m => ds.length < sizeLine ∧ ∀ as, E.nx ((ρ.f m).put i (.tre ⟨rtOf ρ i, as⟩ (C (.lst (ds ++ [x])))))
  | _ => False
/-- x = tree[..].pop(k), what is taken out is data -/
def uTPop (i j : Nat) (up : UP) (uk : UE) : US := fun E ρ => up ρ fun d C n => match d with
  | .lst ds => uk (ρ.f n) fun k m => match k with
    | .int z => (-(2 ^ 63) ≤ z ∧ z < 2 ^ 63) ∧ match atD ds z with
      | some p => D.noL p.2 = true ∧ ∀ as, E.nx (((ρ.f m).put i (.tre ⟨rtOf ρ i, as⟩ (C (.lst (ds.eraseIdx p.1))))).put j (.dat p.2))
      | none => False
    | _ => False
  | _ => False
theorem NtA.erase {K : PySem.W.Frag} {O : Ad} {H : Hp} {as : List Addr} {vs : List V} {ds : List D} (j : Nat) (h : NtA K O H as vs ds) : ∃ cs, NtA K O H cs (vs.eraseIdx j) (ds.eraseIdx j) ∧ ∀ b ∈ cs, b ∈ as := by
  induction ds generalizing as vs j with
  | nil => cases h; exact ⟨[], .nil, fun _ z => nomatch z⟩
  | cons x ds ih => cases h with
    | @cons xs ys _ _ _ _ hx hr hn =>
      cases j with
      | zero => exact ⟨ys, hr, fun b z => List.mem_append_right _ z⟩
      | succ j =>
        obtain ⟨cs, n, e⟩ := ih j hr
        exact ⟨xs ++ cs, .cons hx n (fun b h1 h2 => hn b h1 (e b h2)), fun b h => (List.mem_append.mp h).elim (fun z => List.mem_append_left _ z) fun z => List.mem_append_right _ (e b z)⟩
end
end U

set_option Elab.async false
set_option linter.all false
set_option maxRecDepth 100000
set_option maxHeartbeats 4000000
/-! Trees: defs that make one, defs that are given one. -/
namespace U
open PySem PySem.Spec L2
open PyProof.Rows hiding St
/-! ### defs that hand back a new tree -/
abbrev USpV := List D → PenT → Nat → (D → Nat → Prop) → (UX → Nat → Prop) → Prop
def LSpV (K : PySem.W.Frag) (usp : USpV) : Sp := fun vs H Q E => ∃ (ds : List D) (O : Ad) (pen : PenT) (n : Nat) (P : D → Nat → Prop) (PX : UX → Nat → Prop),
  RpA K O H vs ds ∧ (∀ b, O b → H b ≠ none) ∧ (∀ p, IsPen pen p → O p) ∧ Pen K O H pen n ∧ usp ds pen n P PX ∧
  (∀ t m, P t m → ∀ ns v H', (∀ b ∈ ns, H b = none ∧ H' b ≠ none) → Frm pen H H' → Pen K (fun b => O b ∨ b ∈ ns) H' pen m → NtS K (fun b => O b ∨ b ∈ ns) H' ns v t → Q v H') ∧
  ∀ x m, PX x m → ∀ d H', Frm pen H H' → Pen K O H' pen m → XRp K O H' x d → E (x.cls.val K) d H'
def uCallV (usp : USpV) (W : WU) (a : UA) : UV := fun ρ Q => a ρ fun ds n => usp ds ρ.pen n Q fun x m => W x (ρ.f m)
section
variable {K : PySem.W.Frag} {O0 : Ad} {H0 H H' : Hp} {σ : L2.St} {ρ : Ro}
end
structure FnV (P : Program) (w : World) (K : PySem.W.Frag) (mg : Str → Option Value) (base : Heap) (k : Nat) (x : Str) (st : Stmt) (ps : List Str) (usp : USpV) : Prop where
  ex : ∃ fd, FnG P w K mg base k (He.fAd K (x, none)) fd ps (LSpV K usp) ∧ Binds K fd ps [] ∧ PySem.W.keepIn K (.ref (He.fAd K (x, none))) = true ∧ FunD K x x (defArgs st) (defBody st) (defScope st) [] [] (He.fAd K (x, none)) fd
  gl : mg x = some (.ref (He.fAd K (x, none)))
section
variable {X : Cx} {O0 : Ad} {H0 : Hp} {a b c e : Expr} {ua ub uc : UE} {pos p : Pos} {W : WU}
end
section
variable {P : Program} {w : World} {K : PySem.W.Frag} {mg : Str → Option Value} {base : Heap}
/-- the ends of a def that hands back a new tree -/
def endsV (Q : D → Nat → Prop) : UEnds := { nx := fun _ => False, rt := fun _ _ => False, rn := fun x ρ => match x with
  | .new _ d => Q d ρ.fuel
  | .dat _ => False }
end
/-! ### a tree is let go -/
mutual
/-- no dict, no object within -/
def D.noDX : D → Bool
  | .lst ds => D.noDXs ds
  | .tup ds => D.noDXs ds
  | .dic _ => false
  | .exc _ _ => false
  | _ => true
def D.noDXs : List D → Bool
  | [] => true
  | d :: ds => D.noDX d && D.noDXs ds
end
section
variable {K : PySem.W.Frag} {O O' : Ad} {H : Hp}
mutual
theorem Nt.thaw (ho : ∀ b, O' b → O b) : ∀ {as : List Addr} {v : V} {d : D}, (∀ b ∈ as, ¬ O' b) → D.noDX d = true → Nt K O H as v d → Rp K O' H v d
  | _, _, _, _, _, .leaf _ r => r.keep (.less ho)
  | _, _, _, ha, hd, .lst h r _ => .lst ⟨ha _ List.mem_cons_self, h⟩ (NtA.thaw ho (fun b hb => ha b (List.mem_cons_of_mem _ hb)) (by simpa [D.noDX] using hd) r)
  | _, _, _, ha, hd, .tup h r => .tup (h.keep (.less ho)) (NtA.thaw ho ha (by simpa [D.noDX] using hd) r)
  | _, _, _, _, hd, .dic _ _ _ => by simp [D.noDX] at hd
  | _, _, _, _, hd, .obj _ _ _ _ _ _ => by simp [D.noDX] at hd
theorem NtA.thaw (ho : ∀ b, O' b → O b) : ∀ {as : List Addr} {v : List V} {d : List D}, (∀ b ∈ as, ¬ O' b) → D.noDXs d = true → NtA K O H as v d → RpA K O' H v d
  | _, _, _, _, _, .nil => .nil
  | _, _, _, ha, hd, .cons h r _ => by
    simp only [D.noDXs, Bool.and_eq_true] at hd
    exact .cons (Nt.thaw ho (fun b hb => ha b (List.mem_append_left _ hb)) hd.1 h) (NtA.thaw ho (fun b hb => ha b (List.mem_append_right _ hb)) hd.2 r)
end
end
section
variable {K : PySem.W.Frag} {O0 : Ad} {H0 H H' : Hp} {σ : L2.St} {ρ : Ro}
end
section
variable {X : Cx} {O0 : Ad} {H0 : Hp} {a b c e : Expr} {ua ub uc : UE} {pos p : Pos} {W : WU} {i : Nat}
/-- return x, x holds a tree -/
def uRetT (i : Nat) : US := fun E ρ => match ρ.sl[i]? with
  | some (.tre as d) => E.rn (.new as.as d) (ρ.put i .emp)
  | _ => False
/-- return e, e data, of a def with trees -/
def uRetN1 (u : UE) : US := fun E ρ => u ρ fun d n => E.rn (.dat d) (ρ.f n)
def uRetN0 : US := fun E ρ => E.rn (.dat .non) ρ
/-- return e, e a new tree -/
def uRetV (u : UV) : US := fun E ρ => u ρ fun d n => ∀ ns, E.rn (.new ns d) (ρ.f n)
/-- ahead of a statement: the tree in slot i is let go -/
def uThawT (i : Nat) (u : US) : US := fun E ρ => match ρ.sl[i]? with
  | some (.tre _ d) => D.noDX d = true ∧ u E (ρ.put i (.dat d))
  | _ => u E ρ
/-- within an expression whose value holds no list, the tree in slot i is read -/
def uPeekN (i : Nat) (u : UE) : UE := fun ρ Q => match ρ.sl[i]? with
  | some (.tre _ d) => D.noDX d = true ∧ u (ρ.put i (.dat d)) fun d n => D.noL d = true ∧ Q d n
  | _ => u ρ Q
def uPeekNT (i : Nat) (u : UT) : UT := fun ρ Q => match ρ.sl[i]? with
  | some (.tre _ d) => D.noDX d = true ∧ u (ρ.put i (.dat d)) Q
  | _ => u ρ Q
end
end U

set_option Elab.async false
set_option linter.all false
set_option maxRecDepth 100000
set_option maxHeartbeats 4000000
/-! Trees: defs that are given one, as their first argument, and may change it. -/
namespace U
open PySem PySem.Spec L2
open PyProof.Rows hiding St
abbrev USpN := D → List D → PenT → Nat → (Rv → D → Nat → Prop) → (UX → D → Nat → Prop) → Prop
/-- what is not to be met behind the call: all that was not, but the tree's old addresses, and its new ones -/
abbrev O1n (O : Ad) (as as' : List Addr) : Ad := fun b => (O b ∧ b ∉ as) ∨ b ∈ as'
def Rv.ns : Rv → List Addr
  | .new ns _ => ns
  | .dat _ => []
def Rv.d : Rv → D
  | .new _ d => d
  | .dat d => d
/-- how the heap stands behind the call -/
structure Aft (K : PySem.W.Frag) (O : Ad) (pen : PenT) (H : Hp) (rt : Addr) (as : List Addr) (H' : Hp) (as' ns : List Addr) (t' : D) (m : Nat) : Prop where
  fr : ∀ b o, H b = some o → ¬ IsPen pen b → b ∉ as → H' b = some o
  pn : Pen K (Ov (O1n O as as') ns) H' pen m
  tr : NtS K (Ov (O1n O as as') ns) H' as' (.ref rt) t'
  as_ : ∀ b ∈ as', (b ∈ as ∨ H b = none) ∧ ¬ IsPen pen b ∧ H' b ≠ none
  ns_ : ∀ b ∈ ns, (b ∈ as ∨ H b = none) ∧ H' b ≠ none ∧ b ∉ as'
def RvA (K : PySem.W.Frag) (O' : Ad) (H' : Hp) (v : V) : Rv → Prop
  | .dat d => Rp K O' H' v d
  | .new ns d => NtS K O' H' ns v d
def LSpN (K : PySem.W.Frag) (usp : USpN) : Sp := fun vs H Q E => ∃ (rt : Addr) (us : List V) (t : D) (as : List Addr) (ds : List D) (O : Ad) (pen : PenT) (n : Nat) (P : Rv → D → Nat → Prop) (PX : UX → D → Nat → Prop),
  vs = .ref rt :: us ∧ RpA K O H us ds ∧ NtS K O H as (.ref rt) t ∧ (∀ b, O b → H b ≠ none) ∧ (∀ p, IsPen pen p → O p) ∧ (∀ b ∈ as, O b ∧ ¬ IsPen pen b) ∧ Pen K O H pen n ∧ usp t ds pen n P PX ∧
  (∀ x t' m, P x t' m → ∀ as' v H', Aft K O pen H rt as H' as' x.ns t' m → RvA K (Ov (O1n O as as') x.ns) H' v x → Q v H') ∧
  ∀ x t' m, PX x t' m → ∀ as' d H', Aft K O pen H rt as H' as' [] t' m → XRp K (O1n O as as') H' x d → E (x.cls.val K) d H'
section
variable {K : PySem.W.Frag}
end
structure FnN (P : Program) (w : World) (K : PySem.W.Frag) (mg : Str → Option Value) (base : Heap) (k : Nat) (x : Str) (st : Stmt) (ps : List Str) (usp : USpN) : Prop where
  ex : ∃ fd, FnG P w K mg base k (He.fAd K (x, none)) fd ps (LSpN K usp) ∧ Binds K fd ps [] ∧ PySem.W.keepIn K (.ref (He.fAd K (x, none))) = true ∧ FunD K x x (defArgs st) (defBody st) (defScope st) [] [] (He.fAd K (x, none)) fd
  gl : mg x = some (.ref (He.fAd K (x, none)))
/-- the ends of a def that is given a tree: what stands in slot 0 then, at rt -/
def endsN (rt : Addr) (Q : Rv → D → Nat → Prop) : UEnds := { nx := fun ρ => ∃ as t, ρ.sl[0]? = some (.tre ⟨rt, as⟩ t) ∧ Q (.dat .non) t ρ.fuel, rt := fun _ _ => False, rn := fun x ρ => ∃ as t, ρ.sl[0]? = some (.tre ⟨rt, as⟩ t) ∧ Q x t ρ.fuel }
section
variable {K : PySem.W.Frag} {O : Ad} {H H' : Hp} {σ' : L2.St} {ρ' : Ro} {rt : Addr} {as as' ns : List Addr} {t' : D}
/-- what the callee's frame tells at its end -/
theorem Aft.of (r : R K (Ov (fun b => O b ∧ b ∉ as) ns) (fun b => if b ∈ as then none else H b) σ' H' ρ') (hn : ∀ b ∈ ns, ¬ OO (fun b => O b ∧ b ∉ as) ρ' b ∧ (if b ∈ as then none else H b) = none ∧ H' b ≠ none) (e : ρ'.sl[0]? = some (.tre ⟨rt, as'⟩ t')) :
    Aft K O ρ'.pen H rt as H' as' ns t' ρ'.fuel ∧ ∀ b, Ov (O1n O as as') ns b → OO (Ov (fun b => O b ∧ b ∉ as) ns) ρ' b := by
  obtain ⟨⟨s1, nt⟩, ht, _⟩ := r.tre 0 _ _ e
  have le : ∀ b, Ov (O1n O as as') ns b → OO (Ov (fun b => O b ∧ b ∉ as) ns) ρ' b := fun b h => by
    rcases h with (h | h) | h
    · exact .inl (.inl h)
    · exact .tre e h
    · exact .inl (.inr h)
  refine ⟨⟨fun b o h np nb => r.fr b o (by rw [if_neg nb]; exact h) np, r.pen.less le, nt.keep (.less le) fun _ _ _ z => z, fun b hb => ?_, fun b hb => ?_⟩, le⟩
  · obtain ⟨k1, k2, k3, k4⟩ := ht b hb
    refine ⟨?_, k3, k4⟩
    by_cases q : b ∈ as
    · exact .inl q
    · dsimp only at k2
      rw [if_neg q] at k2
      exact .inr k2
  · obtain ⟨k1, k2, k3⟩ := hn b hb
    refine ⟨?_, k3, fun z => k1 (.tre e z)⟩
    by_cases q : b ∈ as
    · exact .inl q
    · rw [if_neg q] at k2
      exact .inr k2
end
section
variable {P : Program} {w : World} {K : PySem.W.Frag} {mg : Str → Option Value} {base : Heap}
end
end U

set_option Elab.async false
set_option linter.all false
set_option maxRecDepth 100000
set_option maxHeartbeats 4000000
/-! Trees: calls of defs that are given one. -/
namespace U
open PySem PySem.Spec L2
open PyProof.Rows hiding St
section
variable {K : PySem.W.Frag} {O0 : Ad} {H0 H1 H' : Hp} {σ : L2.St} {ρ : Ro}
end
/-! ### expressions that change trees -/
abbrev UXe := Ro → (Rv → Ro → Prop) → Prop
def uCallN (i : Nat) (usp : USpN) (W : WU) (a : UA) : UXe := fun ρ Q => match ρ.sl[i]? with
  | some (.tre T t) => a ρ fun ds n => usp t ds ρ.pen n (fun x t' m => ∀ as', Q x ((ρ.f m).put i (.tre ⟨T.rt, as'⟩ t'))) (fun x t' m => ∀ as', W x ((ρ.f m).put i (.tre ⟨T.rt, as'⟩ t')))
  | _ => False
section
variable {X : Cx} {O0 : Ad} {H0 : Hp} {a b c e : Expr} {ua ub uc : UE} {pos p : Pos} {W : WU} {i : Nat}
/-- a call as a statement -/
def uXDrop (u : UXe) : US := fun E ρ => u ρ fun _ ρ' => E.nx ρ'
/-- x = a call -/
def uXSet (j : Nat) (u : UXe) : US := fun E ρ => u ρ fun x ρ' => match x with
  | .dat d => E.nx (ρ'.put j (.dat d))
  | .new ns d => D.noL d = false ∧ ∀ a, E.nx (ρ'.put j (.tre ⟨a, ns⟩ d))
/-- return of a call -/
def uXRet (u : UXe) : US := fun E ρ => u ρ E.rn
end
end U

set_option Elab.async false
set_option linter.all false
set_option maxRecDepth 100000
set_option maxHeartbeats 4000000
/-! Trees: dicts of them: get, items, dict(..), displays; a part of a new tree. -/
namespace U
open PySem PySem.Spec L2
open PyProof.Rows hiding St
/-- tree[..].get(k, z), data -/
def uNGet (up : UP) (uk ud : UE) : UE := fun ρ Q => up ρ fun d _ n => match d with
  | .dic es => uk (ρ.f n) fun k m => ud (ρ.f m) fun z l => match dK k with
    | some key => match valD es key with
      | some x => D.noL x = true ∧ Q x l
      | none => Q z l
    | none => False
  | _ => False
/-- list(tree[..].items()), of data -/
def uNItems (up : UP) : UF := fun ρ Q => up ρ fun d _ n => match d with
  | .dic es => (es.length ≤ sizeLine ∧ D.noLs (es.map (·.2)) = true) ∧ Q (itemsD es) n
  | _ => False
/-- a key of the new tree e[z], data -/
def uVKey (uv : UV) (z : Str) : UE := fun ρ Q => uv ρ fun d n => match d with
  | .dic es => match valD es (.inr z) with
    | some x => D.noDX x = true ∧ Q x n
    | none => False
  | _ => False
def pairsK : List D → Option (List (Key × D))
  | [] => some []
  | .tup [.int i, d] :: r => (pairsK r).map fun es => (.inl i, d) :: es
  | .tup [.str x, d] :: r => (pairsK r).map fun es => (.inr x, d) :: es
  | _ :: _ => none
def mergeD (es more : List (Key × D)) : List (Key × D) := more.foldl (fun acc e => putD acc e.1 e.2) es
/-- dict(e), e a list of pairs -/
def uDictV (u : UE) : UV := fun ρ Q => u ρ fun d n => match d with
  | .lst ds => match pairsK ds with
    | some es => D.noLs (es.map (·.2)) = true ∧ Q (.dic (mergeD [] es)) n
    | none => False
  | _ => False
section
variable {K : PySem.W.Frag} {O : Ad} {H : Hp}
theorem NtK.leaves : ∀ {as : List Addr} {kvs : List (Key × V)} {es : List (Key × D)}, NtK K O H as kvs es → D.noLs (es.map (·.2)) = true → RpK K O H kvs es
  | _, _, _, .nil, _ => .nil
  | _, _, _, .cons h r _, e => by
    simp only [List.map_cons, D.noLs, Bool.and_eq_true] at e
    exact .cons (h.leafOf e.1) (NtK.leaves r e.2)
theorem kV_rp {k : Key} : Rp K O H (kV k) (kDt k) := by
  cases k with
  | inl i => exact .int i
  | inr x => exact .str x
end
section
variable {X : Cx} {O0 : Ad} {H0 : Hp} {a b c e : Expr} {ua ub uc : UE} {pos p : Pos} {W : WU} {i : Nat} {up : UP} {uv : UV}
theorem RpK.items {K : PySem.W.Frag} {O : Ad} {H : Hp} : ∀ {ts : List Addr} {kvs : List (Key × V)} {es : List (Key × D)}, (∀ t ∈ ts, ¬ O t) → Paired (fun (t : Addr) (q : Key × V) => H t = some (.tup [kV q.1, q.2])) ts kvs → RpK K O H kvs es → RpA K O H (ts.map V.ref) (itemsD es)
  | _, _, _, _, .nil, .nil => .nil
  | t :: ts, _, (k, d) :: es, hO, .cons h r, .cons g s => .cons (.tup (.inl ⟨hO t List.mem_cons_self, h⟩) (.cons kV_rp (.cons g .nil))) (RpK.items (fun t ht => hO t (List.mem_cons_of_mem _ ht)) r s)
/-! ### a dict display of texts and new trees -/
abbrev UKr := Ro → (List (Key × D) → Nat → Prop) → Prop
def uKNil : UKr := fun ρ Q => Q [] ρ.fuel
def uKCons (z : Str) (uv : UV) (r : UKr) : UKr := fun ρ Q => uv ρ fun d n => r (ρ.f n) fun es m => Q ((.inr z, d) :: es) m
def FreeK (K : PySem.W.Frag) (O0 : Ad) (H0 : Hp) (σ : L2.St) (ρ : Ro) (H : Hp) (ns : List Addr) (kvs : List (Key × V)) (es : List (Key × D)) : Prop :=
  R K (Ov O0 ns) H0 σ H ρ ∧ (∃ as, NtK K (OO (Ov O0 ns) ρ) H as kvs es ∧ ∀ b ∈ as, b ∈ ns) ∧ ∀ b ∈ ns, ¬ OO O0 ρ b ∧ H0 b = none ∧ H b ≠ none
structure UKs (X : Cx) (H0 : Hp) (pos : Pos) (keys : List (Option Expr)) (vals : List Expr) (u : UKr) : Prop where
  ex : ∃ trs, PPs X pos keys vals trs ∧ ∀ (O0 : Ad) (σ : L2.St) (H : Hp) (Q : List (V × V) → Hp → Prop) (ρ : Ro) (P : List (Key × D) → Nat → Prop), R X.K O0 H0 σ H ρ → u ρ P →
    (∀ es n, P es n → ∀ ns kvs H', FreeK X.K O0 H0 σ (ρ.f n) H' ns kvs es → Frm ρ.pen H H' → (∀ b ∈ ns, H b = none) → Q (kvs.map fun kv => (kV kv.1, kv.2)) H') → tPairs trs σ H Q
def uDispN (u : UKr) : UV := fun ρ Q => u ρ fun es n => ((es.map (·.1)).Nodup ∧ es.length ≤ 15) ∧ Q (.dic es) n
theorem NtK.keys {K : PySem.W.Frag} {O : Ad} {H : Hp} {as : List Addr} {kvs : List (Key × V)} {es : List (Key × D)} (h : NtK K O H as kvs es) : kvs.map (·.1) = es.map (·.1) := by
  induction es generalizing as kvs with
  | nil => cases h; rfl
  | cons e es ih => cases h with
    | cons a b _ => rw [List.map_cons, List.map_cons, ih b]
end
end U

set_option Elab.async false
set_option linter.all false
set_option maxRecDepth 100000
set_option maxHeartbeats 4000000
/-! Readings of trees, step by step. -/
namespace U
open PySem PySem.Spec L2
open PyProof.Rows hiding St
section
variable {ρ : Ro} {sl : List Sl} {pn : PenT} {fu : Nat} {Q : D → Nat → Prop} {E : UEnds} {i j n m : Nat} {a b c : UE} {x y d k z t : D} {up : UP} {uv : UV} {ud uk : UE} {T : TrA} {C : D → D} {QP : D → (D → D) → Nat → Prop} {L : List D → Nat → Prop} {ds : List D} {es : List (Key × D)} {ul : UA} {uf : UF}
def kRoot (Q : D → (D → D) → Nat → Prop) (n : Nat) : Option Sl → Prop
  | some (.tre _ t) => Q t id n
  | _ => False
theorem xRoot : uRoot i ρ QP = kRoot QP ρ.fuel ρ.sl[i]? := by
  unfold uRoot kRoot
  rfl
theorem xRoot1 : kRoot QP n (some (.tre T t)) = QP t id n := id rfl
def kStepO (C : D → D) (Q : D → (D → D) → Nat → Prop) (m : Nat) : Option (D × (D → D)) → Prop
  | some p => Q p.1 (fun x => C (p.2 x)) m
  | none => False
def kStep2 (C : D → D) (d : D) (Q : D → (D → D) → Nat → Prop) : D → Nat → Prop := fun k m => kStepO C Q m (stepD d k)
def kStep1 (uk : UE) (ρ : Ro) (Q : D → (D → D) → Nat → Prop) : D → (D → D) → Nat → Prop := fun d C n => uk (ρ.f n) (kStep2 C d Q)
theorem xStep : uStep up uk ρ QP = up ρ (kStep1 uk ρ QP) := by
  unfold uStep kStep1 kStep2 kStepO
  rfl
theorem xStep1 : kStep1 uk ⟨sl, pn, fu⟩ QP d C n = uk ⟨sl, pn, n⟩ (kStep2 C d QP) := id rfl
theorem xStep2 : kStep2 C d QP k m = kStepO C QP m (stepD d k) := id rfl
theorem xStepO {C' : D → D} : kStepO C QP m (some (d, C')) = QP d (fun x => C (C' x)) m := id rfl
def kLeaf (Q : D → Nat → Prop) : D → (D → D) → Nat → Prop := fun d _ n => D.noL d = true ∧ Q d n
theorem xLeaf : uLeaf up ρ Q = up ρ (kLeaf Q) := id rfl
theorem xLeaf1 : kLeaf Q d C n = (D.noL d = true ∧ Q d n) := id rfl
theorem xLf : uLf a ρ Q = a ρ (kPeek2 Q) := id rfl
def kFv (Q : D → Nat → Prop) : List D → Nat → Prop := fun ds n => D.noLs ds = true ∧ Q (.lst ds) n
theorem xFv : uFv uf ρ Q = uf ρ (kFv Q) := id rfl
theorem xFv1 : kFv Q ds n = (D.noLs ds = true ∧ Q (.lst ds) n) := id rfl
theorem xDic0 : uDic0 ρ Q = Q (.dic []) ρ.fuel := id rfl
def kTNew (j : Nat) (E : UEnds) (ρ : Ro) : D → Nat → Prop := fun d n => D.noL d = false ∧ ∀ as, E.nx ((ρ.f n).put j (.tre as d))
theorem sTNew : uTNew j uv E ρ = uv ρ (kTNew j E ρ) := id rfl
theorem sTNew1 : kTNew j E ⟨sl, pn, fu⟩ d n = (D.noL d = false ∧ ∀ as, E.nx ⟨sl.set j (.tre as d), pn, n⟩) := id rfl
def rtS : Option Sl → Addr
  | some (.tre as _) => as.rt
  | _ => sysModules
theorem rtOf1 : rtOf ⟨sl, pn, fu⟩ i = rtS sl[i]? := by
  unfold rtOf rtS
  rfl
theorem rtS1 : rtS (some (.tre T t)) = T.rt := id rfl
def kTSet4 (i : Nat) (C : D → D) (E : UEnds) (ρ : Ro) (l : Nat) : D → Prop := fun d' => ∀ as, E.nx ((ρ.f l).put i (.tre ⟨rtOf ρ i, as⟩ (C d')))
def kTSet3 (i : Nat) (d : D) (C : D → D) (x : D) (E : UEnds) (ρ : Ro) : D → Nat → Prop := fun k l => putS d k x (kTSet4 i C E ρ l)
def kTSet2 (i : Nat) (uk : UE) (x : D) (E : UEnds) (ρ : Ro) : D → (D → D) → Nat → Prop := fun d C m => uk (ρ.f m) (kTSet3 i d C x E ρ)
def kTSet1 (i : Nat) (up : UP) (uk : UE) (E : UEnds) (ρ : Ro) : D → Nat → Prop := fun x n => up (ρ.f n) (kTSet2 i uk x E ρ)
theorem sTSet : uTSet i up uk uv E ρ = uv ρ (kTSet1 i up uk E ρ) := id rfl
theorem sTSet1 : kTSet1 i up uk E ⟨sl, pn, fu⟩ x n = up ⟨sl, pn, n⟩ (kTSet2 i uk x E ⟨sl, pn, fu⟩) := id rfl
theorem sTSet2 : kTSet2 i uk x E ⟨sl, pn, fu⟩ d C m = uk ⟨sl, pn, m⟩ (kTSet3 i d C x E ⟨sl, pn, fu⟩) := id rfl
theorem sTSet3 : kTSet3 i d C x E ⟨sl, pn, fu⟩ k m = putS d k x (kTSet4 i C E ⟨sl, pn, fu⟩ m) := id rfl
theorem sTSet4 : kTSet4 i C E ⟨sl, pn, fu⟩ m d = ∀ as, E.nx ⟨sl.set i (.tre ⟨rtS sl[i]?, as⟩ (C d)), pn, m⟩ := by
  unfold kTSet4
  rw [rtOf1]
def kTApp2 (i : Nat) (C : D → D) (ds : List D) (E : UEnds) (ρ : Ro) : D → Nat → Prop := fun x m => ds.length < sizeLine ∧ ∀ as, E.nx ((ρ.f m).put i (.tre ⟨rtOf ρ i, as⟩ (C (.lst (ds ++ [x])))))
def kTApp1 (i : Nat) (uv : UV) (E : UEnds) (ρ : Ro) : D → (D → D) → Nat → Prop := fun d C n => match d with
  | .lst ds => uv (ρ.f n) (kTApp2 i C ds E ρ)
  | _ => False
theorem sTApp : uTApp i up uv E ρ = up ρ (kTApp1 i uv E ρ) := by
  unfold uTApp kTApp1 kTApp2
  rfl
theorem sTApp1 : kTApp1 i uv E ⟨sl, pn, fu⟩ (.lst ds) C n = uv ⟨sl, pn, n⟩ (kTApp2 i C ds E ⟨sl, pn, fu⟩) := id rfl
theorem sTApp2 : kTApp2 i C ds E ⟨sl, pn, fu⟩ x m = (ds.length < sizeLine ∧ ∀ as, E.nx ⟨sl.set i (.tre ⟨rtS sl[i]?, as⟩ (C (.lst (ds ++ [x])))), pn, m⟩) := by
  unfold kTApp2
  rw [rtOf1]
def kTPopO (i j : Nat) (C : D → D) (ds : List D) (E : UEnds) (ρ : Ro) (m : Nat) : Option (Nat × D) → Prop
  | some p => D.noL p.2 = true ∧ ∀ as, E.nx (((ρ.f m).put i (.tre ⟨rtOf ρ i, as⟩ (C (.lst (ds.eraseIdx p.1))))).put j (.dat p.2))
  | none => False
def kTPop2 (i j : Nat) (C : D → D) (ds : List D) (E : UEnds) (ρ : Ro) : D → Nat → Prop := fun k m => match k with
  | .int z => (-(2 ^ 63) ≤ z ∧ z < 2 ^ 63) ∧ kTPopO i j C ds E ρ m (atD ds z)
  | _ => False
def kTPop1 (i j : Nat) (uk : UE) (E : UEnds) (ρ : Ro) : D → (D → D) → Nat → Prop := fun d C n => match d with
  | .lst ds => uk (ρ.f n) (kTPop2 i j C ds E ρ)
  | _ => False
theorem sTPop : uTPop i j up uk E ρ = up ρ (kTPop1 i j uk E ρ) := by
  unfold uTPop kTPop1 kTPop2 kTPopO
  rfl
theorem sTPop1 : kTPop1 i j uk E ⟨sl, pn, fu⟩ (.lst ds) C n = uk ⟨sl, pn, n⟩ (kTPop2 i j C ds E ⟨sl, pn, fu⟩) := id rfl
theorem sTPop2 {w : Int} : kTPop2 i j C ds E ρ (.int w) m = ((-(2 ^ 63) ≤ w ∧ w < 2 ^ 63) ∧ kTPopO i j C ds E ρ m (atD ds w)) := id rfl
theorem sTPopO {p : Nat} : kTPopO i j C ds E ⟨sl, pn, fu⟩ m (some (p, x)) = (D.noL x = true ∧ ∀ as, E.nx ⟨(sl.set i (.tre ⟨rtS sl[i]?, as⟩ (C (.lst (ds.eraseIdx p))))).set j (.dat x), pn, m⟩) := by
  unfold kTPopO
  rw [rtOf1]
def kRetT (i : Nat) (E : UEnds) (ρ : Ro) : Option Sl → Prop
  | some (.tre as d) => E.rn (.new as.as d) (ρ.put i .emp)
  | _ => False
theorem sRetT : uRetT i E ρ = kRetT i E ρ ρ.sl[i]? := by
  unfold uRetT kRetT
  rfl
theorem sRetT1 : kRetT i E ⟨sl, pn, fu⟩ (some (.tre T d)) = E.rn (.new T.as d) ⟨sl.set i .emp, pn, fu⟩ := id rfl
def kRetN1 (E : UEnds) (ρ : Ro) : D → Nat → Prop := fun d n => E.rn (.dat d) (ρ.f n)
theorem sRetN1 : uRetN1 a E ρ = a ρ (kRetN1 E ρ) := id rfl
theorem sRetN11 : kRetN1 E ⟨sl, pn, fu⟩ d n = E.rn (.dat d) ⟨sl, pn, n⟩ := id rfl
theorem sRetN0 : uRetN0 E ρ = E.rn (.dat .non) ρ := id rfl
def kRetV (E : UEnds) (ρ : Ro) : D → Nat → Prop := fun d n => ∀ ns, E.rn (.new ns d) (ρ.f n)
theorem sRetV : uRetV uv E ρ = uv ρ (kRetV E ρ) := id rfl
theorem sRetV1 : kRetV E ⟨sl, pn, fu⟩ d n = ∀ ns, E.rn (.new ns d) ⟨sl, pn, n⟩ := id rfl
def kThawT (i : Nat) (u : US) (E : UEnds) (ρ : Ro) : Option Sl → Prop
  | some (.tre _ d) => D.noDX d = true ∧ u E (ρ.put i (.dat d))
  | _ => u E ρ
theorem sThawT {u : US} : uThawT i u E ρ = kThawT i u E ρ ρ.sl[i]? := by
  unfold uThawT kThawT
  rfl
theorem sThawT1 {u : US} : kThawT i u E ⟨sl, pn, fu⟩ (some (.tre T d)) = (D.noDX d = true ∧ u E ⟨sl.set i (.dat d), pn, fu⟩) := id rfl
theorem sThawT2 {u : US} : kThawT i u E ρ (some (.dat d)) = u E ρ := id rfl
theorem sThawT3 {u : US} : kThawT i u E ρ (some .emp) = u E ρ := id rfl
def kPeekN (i : Nat) (u : UE) (ρ : Ro) (Q : D → Nat → Prop) : Option Sl → Prop
  | some (.tre _ d) => D.noDX d = true ∧ u (ρ.put i (.dat d)) (kPeek2 Q)
  | _ => u ρ Q
theorem xPeekN : uPeekN i a ρ Q = kPeekN i a ρ Q ρ.sl[i]? := by
  unfold uPeekN kPeekN kPeek2
  rfl
theorem xPeekN1 : kPeekN i a ⟨sl, pn, fu⟩ Q (some (.tre T d)) = (D.noDX d = true ∧ a ⟨sl.set i (.dat d), pn, fu⟩ (kPeek2 Q)) := id rfl
theorem xPeekN2 : kPeekN i a ρ Q (some (.dat d)) = a ρ Q := id rfl
theorem xPeekN3 : kPeekN i a ρ Q (some .emp) = a ρ Q := id rfl
variable {ta : UT} {B : Bool → Nat → Prop}
def kPeekNT (i : Nat) (u : UT) (ρ : Ro) (Q : Bool → Nat → Prop) : Option Sl → Prop
  | some (.tre _ d) => D.noDX d = true ∧ u (ρ.put i (.dat d)) Q
  | _ => u ρ Q
theorem xPeekNT : uPeekNT i ta ρ B = kPeekNT i ta ρ B ρ.sl[i]? := by
  unfold uPeekNT kPeekNT
  rfl
theorem xPeekNT1 : kPeekNT i ta ⟨sl, pn, fu⟩ B (some (.tre T d)) = (D.noDX d = true ∧ ta ⟨sl.set i (.dat d), pn, fu⟩ B) := id rfl
theorem xPeekNT2 : kPeekNT i ta ρ B (some (.dat d)) = ta ρ B := id rfl
variable {QX : Rv → Ro → Prop} {usp : USpN} {uspv : USpV} {W : WU} {ux : UXe}
def kCallN2 (i : Nat) (T : TrA) (ρ : Ro) (Q : Rv → Ro → Prop) : Rv → D → Nat → Prop := fun x t' m => ∀ as', Q x ((ρ.f m).put i (.tre ⟨T.rt, as'⟩ t'))
def kCallN3 (i : Nat) (T : TrA) (ρ : Ro) (W : WU) : UX → D → Nat → Prop := fun x t' m => ∀ as', W x ((ρ.f m).put i (.tre ⟨T.rt, as'⟩ t'))
def kCallN1 (i : Nat) (usp : USpN) (W : WU) (T : TrA) (t : D) (ρ : Ro) (Q : Rv → Ro → Prop) : List D → Nat → Prop := fun ds n => usp t ds ρ.pen n (kCallN2 i T ρ Q) (kCallN3 i T ρ W)
def kCallN (i : Nat) (usp : USpN) (W : WU) (a : UA) (ρ : Ro) (Q : Rv → Ro → Prop) : Option Sl → Prop
  | some (.tre T t) => a ρ (kCallN1 i usp W T t ρ Q)
  | _ => False
theorem xCallN : uCallN i usp W ul ρ QX = kCallN i usp W ul ρ QX ρ.sl[i]? := by
  unfold uCallN kCallN kCallN1 kCallN2 kCallN3
  rfl
theorem xCallN0 : kCallN i usp W ul ρ QX (some (.tre T t)) = ul ρ (kCallN1 i usp W T t ρ QX) := id rfl
theorem xCallN1 : kCallN1 i usp W T t ⟨sl, pn, fu⟩ QX ds n = usp t ds pn n (kCallN2 i T ⟨sl, pn, fu⟩ QX) (kCallN3 i T ⟨sl, pn, fu⟩ W) := id rfl
theorem xCallN2 {v : Rv} : kCallN2 i T ⟨sl, pn, fu⟩ QX v t m = ∀ as', QX v ⟨sl.set i (.tre ⟨T.rt, as'⟩ t), pn, m⟩ := id rfl
def kXDrop (E : UEnds) : Rv → Ro → Prop := fun _ ρ' => E.nx ρ'
theorem sXDrop : uXDrop ux E ρ = ux ρ (kXDrop E) := id rfl
theorem sXDrop1 {v : Rv} : kXDrop E v ρ = E.nx ρ := id rfl
def kXSet (j : Nat) (E : UEnds) : Rv → Ro → Prop := fun x ρ' => match x with
  | .dat d => E.nx (ρ'.put j (.dat d))
  | .new ns d => D.noL d = false ∧ ∀ a, E.nx (ρ'.put j (.tre ⟨a, ns⟩ d))
theorem sXSet : uXSet j ux E ρ = ux ρ (kXSet j E) := by
  unfold uXSet kXSet
  rfl
theorem sXSet1 : kXSet j E (.dat d) ⟨sl, pn, n⟩ = E.nx ⟨sl.set j (.dat d), pn, n⟩ := id rfl
theorem sXSet2 {ns : List Addr} : kXSet j E (.new ns d) ⟨sl, pn, n⟩ = (D.noL d = false ∧ ∀ a, E.nx ⟨sl.set j (.tre ⟨a, ns⟩ d), pn, n⟩) := id rfl
theorem sXRet : uXRet ux E ρ = ux ρ E.rn := id rfl
def kCallV (usp : USpV) (W : WU) (ρ : Ro) (Q : D → Nat → Prop) : List D → Nat → Prop := fun ds n => usp ds ρ.pen n Q (kX W ρ)
theorem xCallV : uCallV uspv W ul ρ Q = ul ρ (kCallV uspv W ρ Q) := id rfl
theorem xCallV1 : kCallV uspv W ⟨sl, pn, fu⟩ Q ds n = uspv ds pn n Q (kX W ⟨sl, pn, fu⟩) := id rfl
def kGetO (Q : D → Nat → Prop) (z : D) (l : Nat) : Option D → Prop
  | some x => D.noL x = true ∧ Q x l
  | none => Q z l
def kNGet3 (es : List (Key × D)) (k : D) (Q : D → Nat → Prop) : D → Nat → Prop := fun z l => match dK k with
  | some key => kGetO Q z l (valD es key)
  | none => False
def kNGet2 (ud : UE) (es : List (Key × D)) (ρ : Ro) (Q : D → Nat → Prop) : D → Nat → Prop := fun k m => ud (ρ.f m) (kNGet3 es k Q)
def kNGet1 (uk ud : UE) (ρ : Ro) (Q : D → Nat → Prop) : D → (D → D) → Nat → Prop := fun d _ n => match d with
  | .dic es => uk (ρ.f n) (kNGet2 ud es ρ Q)
  | _ => False
theorem xNGet : uNGet up uk ud ρ Q = up ρ (kNGet1 uk ud ρ Q) := by
  unfold uNGet kNGet1 kNGet2 kNGet3 kGetO
  rfl
theorem xNGet1 : kNGet1 uk ud ⟨sl, pn, fu⟩ Q (.dic es) C n = uk ⟨sl, pn, n⟩ (kNGet2 ud es ⟨sl, pn, fu⟩ Q) := id rfl
theorem xNGet2 : kNGet2 ud es ⟨sl, pn, fu⟩ Q k n = ud ⟨sl, pn, n⟩ (kNGet3 es k Q) := id rfl
theorem xNGet3 {w : Int} : kNGet3 es (.int w) Q z n = kGetO Q z n (valD es (.inl w)) := id rfl
theorem xNGetO1 : kGetO Q z n (some x) = (D.noL x = true ∧ Q x n) := id rfl
theorem xNGetO2 : kGetO Q z n none = Q z n := id rfl
def kNItems (L : List D → Nat → Prop) : D → (D → D) → Nat → Prop := fun d _ n => match d with
  | .dic es => (es.length ≤ sizeLine ∧ D.noLs (es.map (·.2)) = true) ∧ L (itemsD es) n
  | _ => False
theorem xNItems : uNItems up ρ L = up ρ (kNItems L) := by
  unfold uNItems kNItems
  rfl
theorem xNItems1 : kNItems L (.dic es) C n = ((es.length ≤ sizeLine ∧ D.noLs (es.map (·.2)) = true) ∧ L (itemsD es) n) := id rfl
def kVKeyO (Q : D → Nat → Prop) (n : Nat) : Option D → Prop
  | some x => D.noDX x = true ∧ Q x n
  | none => False
def kVKey (z : Str) (Q : D → Nat → Prop) : D → Nat → Prop := fun d n => match d with
  | .dic es => kVKeyO Q n (valD es (.inr z))
  | _ => False
theorem xVKey {w : Str} : uVKey uv w ρ Q = uv ρ (kVKey w Q) := by
  unfold uVKey kVKey kVKeyO
  rfl
theorem xVKey1 {w : Str} : kVKey w Q (.dic es) n = kVKeyO Q n (valD es (.inr w)) := id rfl
theorem xVKeyO : kVKeyO Q n (some x) = (D.noDX x = true ∧ Q x n) := id rfl
def kDictO (Q : D → Nat → Prop) (n : Nat) : Option (List (Key × D)) → Prop
  | some es => D.noLs (es.map (·.2)) = true ∧ Q (.dic (mergeD [] es)) n
  | none => False
def kDictV (Q : D → Nat → Prop) : D → Nat → Prop := fun d n => match d with
  | .lst ds => kDictO Q n (pairsK ds)
  | _ => False
theorem xDictV : uDictV a ρ Q = a ρ (kDictV Q) := by
  unfold uDictV kDictV kDictO
  rfl
theorem xDictV1 : kDictV Q (.lst ds) n = kDictO Q n (pairsK ds) := id rfl
theorem xDictO : kDictO Q n (some es) = (D.noLs (es.map (·.2)) = true ∧ Q (.dic (mergeD [] es)) n) := id rfl
variable {LK : List (Key × D) → Nat → Prop} {ur : UKr} {w : Str}
def kDisp (Q : D → Nat → Prop) : List (Key × D) → Nat → Prop := fun es n => ((es.map (·.1)).Nodup ∧ es.length ≤ 15) ∧ Q (.dic es) n
theorem xDisp : uDispN ur ρ Q = ur ρ (kDisp Q) := id rfl
theorem xDisp1 : kDisp Q es n = (((es.map (·.1)).Nodup ∧ es.length ≤ 15) ∧ Q (.dic es) n) := id rfl
theorem xKNil : uKNil ρ LK = LK [] ρ.fuel := id rfl
def kKCons2 (w : Str) (d : D) (L : List (Key × D) → Nat → Prop) : List (Key × D) → Nat → Prop := fun es m => L ((.inr w, d) :: es) m
def kKCons1 (w : Str) (r : UKr) (ρ : Ro) (L : List (Key × D) → Nat → Prop) : D → Nat → Prop := fun d n => r (ρ.f n) (kKCons2 w d L)
theorem xKCons : uKCons w uv ur ρ LK = uv ρ (kKCons1 w ur ρ LK) := id rfl
theorem xKCons1 : kKCons1 w ur ⟨sl, pn, fu⟩ LK d n = ur ⟨sl, pn, n⟩ (kKCons2 w d LK) := id rfl
theorem xKCons2 : kKCons2 w d LK es n = LK ((.inr w, d) :: es) n := id rfl
end
end U

set_option Elab.async false
set_option linter.all false
set_option maxRecDepth 100000
set_option maxHeartbeats 4000000
/-! Trees: what the printed derivations want beside. -/
namespace U
open PySem PySem.Spec L2
open PyProof.Rows hiding St
section
variable {X : Cx} {H0 : Hp} {e : Expr} {i : Nat} {up : UP} {u : UE} {uv : UV}
end
section
variable {rt : Addr} {Q : Rv → D → Nat → Prop} {as : List Addr} {t : D} {sl : List Sl} {pn : PenT} {n : Nat} {v : Rv} {QV : D → Nat → Prop} {ns : List Addr} {ρ : Ro}
theorem endN1 : (endsN rt Q).rn v ⟨.tre ⟨rt, as⟩ t :: sl, pn, n⟩ = Q v t n := by
  refine propext ⟨fun ⟨as', t', e, h⟩ => ?_, fun h => ⟨as, t, rfl, h⟩⟩
  cases (Option.some.inj e)
  exact h
theorem endN2 : (endsN rt Q).nx ⟨.tre ⟨rt, as⟩ t :: sl, pn, n⟩ = Q (.dat .non) t n := by
  refine propext ⟨fun ⟨as', t', e, h⟩ => ?_, fun h => ⟨as, t, rfl, h⟩⟩
  cases (Option.some.inj e)
  exact h
theorem endV1 : (endsV QV).rn (.new ns t) ρ = QV t ρ.fuel := id rfl
end
/-- a list display of new trees -/
abbrev UVL := Ro → (List D → Nat → Prop) → Prop
def uVNil : UVL := fun ρ Q => Q [] ρ.fuel
def uVCons (uv : UV) (r : UVL) : UVL := fun ρ Q => uv ρ fun d n => r (ρ.f n) fun ds m => Q (d :: ds) m
def FreeA (K : PySem.W.Frag) (O0 : Ad) (H0 : Hp) (σ : L2.St) (ρ : Ro) (H : Hp) (ns : List Addr) (vs : List V) (ds : List D) : Prop :=
  R K (Ov O0 ns) H0 σ H ρ ∧ (∃ as, NtA K (OO (Ov O0 ns) ρ) H as vs ds ∧ ∀ b ∈ as, b ∈ ns) ∧ ∀ b ∈ ns, ¬ OO O0 ρ b ∧ H0 b = none ∧ H b ≠ none
structure UVs (X : Cx) (H0 : Hp) (es : List Expr) (u : UVL) : Prop where
  ex : ∃ t, PA X es t ∧ ∀ (O0 : Ad) (σ : L2.St) (H : Hp) (Q : List V → Hp → Prop) (ρ : Ro) (P : List D → Nat → Prop), R X.K O0 H0 σ H ρ → u ρ P →
    (∀ ds n, P ds n → ∀ ns vs H', vs.length = es.length → FreeA X.K O0 H0 σ (ρ.f n) H' ns vs ds → Frm ρ.pen H H' → (∀ b ∈ ns, H b = none) → Q vs H') → t σ H Q
section
variable {X : Cx} {H0 : Hp} {e : Expr} {uv : UV} {pos : Pos}
def uVLst (u : UVL) : UV := fun ρ Q => u ρ fun ds n => Q (.lst ds) n
end
section
variable {sl : List Sl} {pn : PenT} {fu n : Nat} {uv : UV} {ur : UVL} {L : List D → Nat → Prop} {Q : D → Nat → Prop} {d : D} {ds : List D} {ρ : Ro}
theorem xVNil : uVNil ρ L = L [] ρ.fuel := id rfl
def kVCons2 (d : D) (L : List D → Nat → Prop) : List D → Nat → Prop := fun ds m => L (d :: ds) m
def kVCons1 (r : UVL) (ρ : Ro) (L : List D → Nat → Prop) : D → Nat → Prop := fun d n => r (ρ.f n) (kVCons2 d L)
theorem xVCons : uVCons uv ur ρ L = uv ρ (kVCons1 ur ρ L) := id rfl
theorem xVCons1 : kVCons1 ur ⟨sl, pn, fu⟩ L d n = ur ⟨sl, pn, n⟩ (kVCons2 d L) := id rfl
theorem xVCons2 : kVCons2 d L ds n = L (d :: ds) n := id rfl
theorem xVLst : uVLst ur ρ Q = ur ρ (kLst Q) := id rfl
end
/-- a fresh list without lists within, made while the own list in slot i is read -/
def uPeekF (i : Nat) (u : UF) : UF := fun ρ Q => match ρ.sl[i]? with
  | some (.own _ (.l ds)) => u (ρ.put i (.dat (.lst ds))) fun es n => D.noLs es = true ∧ Q es n
  | _ => u ρ Q
section
variable {sl : List Sl} {pn : PenT} {fu n : Nat} {uf : UF} {L : List D → Nat → Prop} {d : D} {ds es : List D} {ρ : Ro} {i : Nat} {ad : Addr}
def kPeekF2 (L : List D → Nat → Prop) : List D → Nat → Prop := fun es n => D.noLs es = true ∧ L es n
def kPeekF (i : Nat) (u : UF) (ρ : Ro) (L : List D → Nat → Prop) : Option Sl → Prop
  | some (.own _ (.l ds)) => u (ρ.put i (.dat (.lst ds))) (kPeekF2 L)
  | _ => u ρ L
theorem xPeekF : uPeekF i uf ρ L = kPeekF i uf ρ L ρ.sl[i]? := by
  unfold uPeekF kPeekF kPeekF2
  rfl
theorem xPeekF1 : kPeekF i uf ⟨sl, pn, fu⟩ L (some (.own ad ds)) = uf ⟨sl.set i (.dat (.lst ds)), pn, fu⟩ (kPeekF2 L) := id rfl
theorem xPeekF2 : kPeekF2 L es n = (D.noLs es = true ∧ L es n) := id rfl
end
/-! ### targets within targets, of comprehensions -/
section
variable {K : PySem.W.Frag} {H0 : Hp} {vs : List Nat} {O1 : Ad} {σ0 : L2.St}
end
/-- a fresh list or another one -/
def uFIf (c : UT) (a b : UF) : UF := fun ρ Q => c ρ fun k n => if k = true then a (ρ.f n) Q else b (ρ.f n) Q
theorem New.back {K : PySem.W.Frag} {O0 : Ad} {H0 H H1 H2 : Hp} {σ : L2.St} {ρ : Ro} {n m : Nat} {c : OC} {a : Addr} (r1 : R K O0 H0 σ H1 (ρ.f n)) (f : Frm ρ.pen H H1) (w : New K O0 (ρ.f n) H1 m c a H2) : New K O0 ρ H m c a H2 := by
  refine ⟨?_, f.trans w.fr, w.pen, w.at_⟩
  cases q : H a with
  | none => rfl
  | some u => exact absurd w.new (f.there r1.pen (b := a) (by rw [q]; simp))
section
variable {sl : List Sl} {pn : PenT} {fu n : Nat} {tc : UT} {ua ub : UF} {L : List D → Nat → Prop} {ρ : Ro} {k : Bool}
def kFIf (a b : UF) (ρ : Ro) (L : List D → Nat → Prop) : Bool → Nat → Prop := fun k n => if k = true then a (ρ.f n) L else b (ρ.f n) L
theorem xFIf : uFIf tc ua ub ρ L = tc ρ (kFIf ua ub ρ L) := id rfl
theorem xFIf1 : kFIf ua ub ⟨sl, pn, fu⟩ L true n = ua ⟨sl, pn, n⟩ L := id rfl
theorem xFIf2 : kFIf ua ub ⟨sl, pn, fu⟩ L false n = ub ⟨sl, pn, n⟩ L := id rfl
end
end U

set_option Elab.async false
set_option linter.all false
set_option maxRecDepth 100000
set_option maxHeartbeats 4000000
/-! zip of two lists, strict=True. -/
namespace ZS
open PySem PySem.Spec PyProof.Rows L2
section
variable {M : Model} {A : Around} {E : Value → Shared → Prop} {s : Shared} {env : Env}
end
section
variable {prog : Program} {w : World} {A : Around} {E : Value → Shared → Prop} {s : Shared}
abbrev kS : List (Str × Value) := [("strict", .bool true)]
theorem tc_zipS (a b : Value) : checkTypeCall "zip" ⟨[a, b], kS⟩ = pure () := by kernel_rfl
theorem nc_zipS (a b : Value) : checkBuiltinCall "zip.__new__" ⟨[.type "zip", a, b], kS⟩ = pure () := by kernel_rfl
theorem ao_zipS (a b c : Value) : argsOk "object.__init__" ⟨[a, b, c], kS⟩ := by
  unfold argsOk
  rw [signature?_of (id := "object.__init__") (n := ['_', '_', 't', 'i', 'n', 'i', '_', '_']) (o := ['t', 'c', 'e', 'j', 'b', 'o']) (by kernel_rfl) F.owner_object]
  kernel_rfl
abbrev IsZs (h : Heap) (z TI TO : Addr) (f : Value) : Prop := h.get? z = some { cls := .type "zip", dict := none, data := .fields #[f, .bool false, .bool true, .ref TI, .ref TO], slots := #[] }
theorem oi_zs {x a b : Value} : Meets (Builtin.«object.__init__» ⟨[x, a, b], kS⟩) (fun _ R s => s.TypeIs x "zip" ∧ R (.ok (.ret .none)) s) := by
  have li := F.called_zip.init.lookup
  have md := F.called_zip.made
  have ne : (some "zip.__new__" != some "object.__new__") = true := by decide
  refine Meets.of_wp fun prog w A R s ⟨hT, hq⟩ => ?_; (repeat (any_goals (first | assumption | wp_step)))
  exact ⟨_, rfl, hq⟩
theorem stop_zs {Q : Fin → Shared → Prop} (hh : A.handled = none) (hE : ∀ g e, (∀ c o, s.heap.get? c = some o → g.get? c = some o) → (∃ o, g.get? e = some o ∧ o.cls = .type "StopIteration") → E (.ref e) { s with heap := g }) :
    wpAny (model prog w) A (Builtin.SmallTypes.stopIteration) Q E s := by
  refine (show wpAny _ _ (newExc (.type "StopIteration") [] >>= _) _ _ _ from wpAny_bind ?_)
  simp only [newExc, newTuple]
  refine wpAny_bind (wpAny_newObj_type (wpAny_bind (m := firstArgMember _ _) (wpAny_of_eq (a := Value.none) (by first | rfl | (simp only [firstArgMember]; rfl)) (wpAny_newObj_type ?_ (by size_fits)))) (by size_fits))
  simp only [raiseNew]
  refine wpAny_bind (wpAny_handled ?_); (first | rw [show A.in1.handled = none from hh] | rw [hh])
  exact wpAny_bind (wpAny_pure (wpAny_throw (hE _ _ (fun c o e => Heap.get?_push_of_some _ (Heap.get?_push_of_some _ e)) ⟨_, Heap.get?_push_size _ rfl, rfl⟩)))
end
end ZS

set_option Elab.async false
set_option linter.all false
set_option maxRecDepth 100000
set_option maxHeartbeats 4000000
/-! a loop over zip(xs, ys, strict=True) of two lists of one length. -/
namespace U
open PySem PySem.Spec L2
open PyProof.Rows hiding St
/-- the pairs -/
def zipD : List D → List D → List D
  | d :: ds, e :: es => .tup [d, e] :: zipD ds es
  | _, _ => []
def uiZ (u : UA) : UI := fun ρ Q => u ρ fun ds n => match ds with
  | [.lst ds, .lst es] => ds.length = es.length ∧ Q (zipD ds es) n
  | _ => False
def kZ (Q : List D → Nat → Prop) : List D → Nat → Prop := fun ds n => match ds with
  | [.lst ds, .lst es] => ds.length = es.length ∧ Q (zipD ds es) n
  | _ => False
theorem xZ {u : UA} {ρ : Ro} {L : List D → Nat → Prop} : uiZ u ρ L = u ρ (kZ L) := id rfl
theorem xZ1 {ds es : List D} {L : List D → Nat → Prop} {n : Nat} : kZ L [.lst ds, .lst es] n = (ds.length = es.length ∧ L (zipD ds es) n) := id rfl
end U

set_option Elab.async false
set_option linter.all false
set_option maxRecDepth 100000
set_option maxHeartbeats 4000000
/-! sorted(pairs) as a list of one's own. -/
namespace U
open PySem PySem.Spec L2
open PyProof.Rows hiding St
section
variable {X : Cx} {O0 : Ad} {H0 : Hp} {e : Expr} {pos p : Pos}
def ufSortP (u : UA) : UF := fun ρ Q => u ρ fun ds n => match ds with
  | [.lst ds] => match pairsD ds with
    | some ps => ∀ qs : List (Int × Int), qs.Perm ps → qs.Pairwise leP → Q (qs.map pD) n
    | none => False
  | _ => False
end
section
variable {u : UA} {ρ : Ro} {L : List D → Nat → Prop} {n : Nat}
def kfSortP (L : List D → Nat → Prop) : List D → Nat → Prop := fun ds n => match ds with
  | [.lst ds] => match pairsD ds with
    | some ps => ∀ qs : List (Int × Int), qs.Perm ps → qs.Pairwise leP → L (qs.map pD) n
    | none => False
  | _ => False
theorem xfSortP : ufSortP u ρ L = u ρ (kfSortP L) := id rfl
theorem xfSortP1 {ps : List (Int × Int)} : kfSortP L [.lst (ps.map pD)] n ↔ ∀ qs : List (Int × Int), qs.Perm ps → qs.Pairwise leP → L (qs.map pD) n := by
  show (match pairsD (ps.map pD) with
    | some ps => ∀ qs : List (Int × Int), qs.Perm ps → qs.Pairwise leP → L (qs.map pD) n
    | none => False) ↔ _
  rw [pairsD_map]
end
end U

set_option Elab.async false
set_option linter.all false
set_option maxRecDepth 100000
set_option maxHeartbeats 4000000
/-! list(zip(xs, ys, strict=True)). -/
namespace ZS
open PySem PySem.Spec PyProof.Rows L2
section
variable {prog : Program} {w : World} {A : Around} {E : Value → Shared → Prop} {s : Shared}
abbrev IsZx (h : Heap) (z TI TO : Addr) (f0 : Value) (b : Bool) : Prop := h.get? z = some { cls := .type "zip", dict := none, data := .fields #[f0, .bool b, .bool true, .ref TI, .ref TO], slots := #[] }
end
/-- the zip behind i items -/
def ZSt (h : Heap) (z TI TO i1 i2 l1 l2 S : Addr) (xs ys : Array Value) (i : Nat) : Prop :=
  ((IsZs h z TI TO .none ∧ ∃ a b, IsPair h TO a b) ∨ ∃ (T : Addr) (b : Bool) (o : Obj), IsZx h z TI TO (rawInt T) b ∧ h.get? T = some o ∧ S < T) ∧ IsPair h TI (.ref i1) (.ref i2) ∧ h.IsListIter i1 l1 i ∧ h.IsListIter i2 l2 i ∧ h.IsList l1 xs ∧ h.IsList l2 ys
structure ZLo (z TI TO i1 i2 l1 l2 S : Addr) : Prop where
  z : z < S
  TI : TI < S
  TO : TO < S
  i1 : i1 < S
  i2 : i2 < S
  l1 : l1 < S
  l2 : l2 < S
theorem ZSt.keep {h h' : Heap} {z TI TO i1 i2 l1 l2 S : Addr} {xs ys : Array Value} {i : Nat} (L : ZLo z TI TO i1 i2 l1 l2 S) (st : ZSt h z TI TO i1 i2 l1 l2 S xs ys i) (k : ∀ b o, b ≠ S → h.get? b = some o → h'.get? b = some o) : ZSt h' z TI TO i1 i2 l1 l2 S xs ys i := by
  obtain ⟨a, b, c, d, e, f⟩ := st
  refine ⟨?_, k _ _ (Nat.ne_of_lt L.TI) b, c.at fun o q => k _ o (Nat.ne_of_lt L.i1) q, d.at fun o q => k _ o (Nat.ne_of_lt L.i2) q, e.at fun o q => k _ o (Nat.ne_of_lt L.l1) q, f.at fun o q => k _ o (Nat.ne_of_lt L.l2) q⟩
  rcases a with ⟨a1, x, y, a2⟩ | ⟨T, b, o, a1, a2, a3⟩
  · exact .inl ⟨k _ _ (Nat.ne_of_lt L.z) a1, x, y, k _ _ (Nat.ne_of_lt L.TO) a2⟩
  · exact .inr ⟨T, b, o, k _ _ (Nat.ne_of_lt L.z) a1, k _ _ (Nat.ne_of_gt a3) a2, a3⟩
structure ZMade (xs ys : Array Value) (lo : Addr) (h : Heap) (as : List Addr) : Prop where
  rise : as.Pairwise (· < ·)
  above : ∀ a ∈ as, lo < a
  pairs : ∀ (j : Nat) (a : Addr), as[j]? = some a → ∃ x y, xs[j]? = some x ∧ ys[j]? = some y ∧ IsPair h a x y
section
variable {prog : Program} {w : World} {A : Around} {E : Value → Shared → Prop} {s : Shared} {R : Result → Shared → Prop} {z TI TO i1 i2 l1 l2 S : Addr} {xs ys : Array Value}
theorem ZMade.there {lo : Addr} {h : Heap} {as : List Addr} (hl : as.length ≤ xs.size) (g : ZMade xs ys lo h as) {a : Addr} (ha : a ∈ as) : a < h.objs.size := by
  obtain ⟨j, hj⟩ := List.mem_iff_getElem?.mp ha
  obtain ⟨_, _, _, _, e⟩ := g.pairs j a hj
  exact Heap.lt_size e
end
section
variable {prog : Program} {w : World} {A : Around} {E : Value → Shared → Prop} {s : Shared} {z TI TO i1 i2 l1 l2 : Addr} {xs ys : Array Value}
end
end ZS
namespace U
open PySem PySem.Spec L2
open PyProof.Rows hiding St
section
variable {X : Cx} {pins : List (Addr × Obj)} {σ : L2.St} {H : Hp} {s : Shared}
variable {O0 : Ad} {H0 : Hp}
def ufListZ (u : UA) : UF := fun ρ Q => u ρ fun ds n => match ds with
  | [.lst xs, .lst ys] => xs.length = ys.length ∧ Q (zipD xs ys) n
  | _ => False
end
section
variable {u : UA} {ρ : Ro} {L : List D → Nat → Prop} {n : Nat} {xs ys : List D}
def kfListZ (L : List D → Nat → Prop) : List D → Nat → Prop := fun ds n => match ds with
  | [.lst xs, .lst ys] => xs.length = ys.length ∧ L (zipD xs ys) n
  | _ => False
theorem xfListZ : ufListZ u ρ L = u ρ (kfListZ L) := id rfl
theorem xfListZ1 : kfListZ L [.lst xs, .lst ys] n = (xs.length = ys.length ∧ L (zipD xs ys) n) := id rfl
end
end U

set_option Elab.async false
set_option linter.all false
set_option maxRecDepth 100000
set_option maxHeartbeats 4000000
/-! The head, with constant tuples of words. -/
namespace U
open PySem PySem.Spec L2
open PyProof.Rows hiding St
abbrev Tc : Type := Str × List Str
def strOf : Value → Option Str
  | .str y _ => some y
  | _ => none
def tcB (K : PySem.W.Frag) (t : Tc) : Bool := match K.lookup (He.ga K t.1) with
  | some o => decide (o.cls = .type "tuple") && (match o.data with
    | .seq its n => decide (its.toList.map strOf = t.2.map some)
    | _ => false)
  | none => false
theorem vals_strs : ∀ {us : List Value} {ys : List Str}, us.map strOf = ys.map some → Vals (ys.map V.str) us
  | [], [], _ => .nil
  | [], _ :: _, h => by cases h
  | _ :: _, [], h => by cases h
  | u :: us, y :: ys, h => by
    simp only [List.map_cons, List.cons.injEq] at h
    obtain ⟨h1, h2⟩ := h
    cases u with
    | str z t =>
      have : z = y := by simpa [strOf] using h1
      subst this
      exact .cons ⟨t, rfl⟩ (vals_strs h2)
    | _ => simp [strOf] at h1
theorem tcB_ok {K : PySem.W.Frag} {t : Tc} (h : tcB K t = true) (hl : t.2.length ≤ 1000) : KT K (He.ga K t.1) (t.2.map V.str) := by
  unfold tcB at h
  cases e : K.lookup (He.ga K t.1) with
  | none => rw [e] at h; cases h
  | some o =>
    rw [e] at h
    obtain ⟨h1, h2⟩ := Bool.and_eq_true_iff.mp h
    cases q : o.data with
    | seq its n =>
      rw [q] at h2
      have h3 := of_decide_eq_true h2
      have hz := congrArg List.length h3
      simp at hz
      exact ⟨o, its, n, e, of_decide_eq_true h1, q, by rw [hz, sizeLine_eq]; omega, vals_strs h3⟩
    | _ => rw [q] at h2; cases h2
abbrev AlXT : Type := AlX × Bool
def obsXT (fa : List He.Fa) (fn : List He.DefD) (T : XT) (bs : List String) (tc : List Tc) (K : PySem.W.Frag) : AlXT := (obsX fa fn T bs K, tc.all fun t => tcB K t && decide (t.2.length ≤ 1000))
def SaysXT (fa : List He.Fa) (fn : List He.DefD) (T : XT) (bs : List String) (tc : List Tc) (K : PySem.W.Frag) : Prop := obsXT fa fn T bs tc K = ((He.valD fn, true), true)
section
variable {fa : List He.Fa} {fn : List He.DefD} {T : XT} {bs : List String} {tc : List Tc} {K : PySem.W.Frag}
theorem SaysXT.s (c : SaysXT fa fn T bs tc K) : SaysX fa fn T bs K := congrArg (fun z : AlXT => z.1) c
theorem SaysXT.d (c : SaysXT fa fn T bs tc K) : He.SaysD fa fn K := c.s.d
theorem SaysXT.x (c : SaysXT fa fn T bs tc K) : XF K T bs := c.s.x
theorem SaysXT.tup (c : SaysXT fa fn T bs tc K) (i : Nat) {t : Tc} (h : tc[i]? = some t := by rfl) : KT K (He.ga K t.1) (t.2.map V.str) := by
  have e : (tc.all fun t => tcB K t && decide (t.2.length ≤ 1000)) = true := congrArg (fun z : AlXT => z.2) c
  obtain ⟨h1, h2⟩ := Bool.and_eq_true_iff.mp (List.all_eq_true.mp e t (List.mem_of_getElem? h))
  exact tcB_ok h1 (of_decide_eq_true h2)
end
end U

set_option Elab.async false
set_option linter.all false
set_option maxRecDepth 100000
set_option maxHeartbeats 4000000
/-! zip of two tuples, strict=True. -/
namespace ZT
open PySem PySem.Spec PyProof.Rows L2
open ZS (kS IsZs oi_zs stop_zs nc_zipS tc_zipS ao_zipS)
section
variable {prog : Program} {w : World} {A : Around} {E : Value → Shared → Prop} {s : Shared}
end
end ZT

set_option Elab.async false
set_option linter.all false
set_option maxRecDepth 100000
set_option maxHeartbeats 4000000
/-! a loop over zip(xs, ys, strict=True) of two lists, or two tuples, of one length. -/
namespace U
open PySem PySem.Spec L2
open PyProof.Rows hiding St
def uiY (u : UA) : UI := fun ρ Q => u ρ fun ds n => match ds with
  | [.lst ds, .lst es] => ds.length = es.length ∧ Q (zipD ds es) n
  | [.tup ds, .tup es] => ds.length = es.length ∧ Q (zipD ds es) n
  | _ => False
def kY (Q : List D → Nat → Prop) : List D → Nat → Prop := fun ds n => match ds with
  | [.lst ds, .lst es] => ds.length = es.length ∧ Q (zipD ds es) n
  | [.tup ds, .tup es] => ds.length = es.length ∧ Q (zipD ds es) n
  | _ => False
theorem xZy {u : UA} {ρ : Ro} {L : List D → Nat → Prop} : uiY u ρ L = u ρ (kY L) := id rfl
theorem xZy1 {ds es : List D} {L : List D → Nat → Prop} {n : Nat} : kY L [.lst ds, .lst es] n = (ds.length = es.length ∧ L (zipD ds es) n) := id rfl
theorem xZy2 {ds es : List D} {L : List D → Nat → Prop} {n : Nat} : kY L [.tup ds, .tup es] n = (ds.length = es.length ∧ L (zipD ds es) n) := id rfl
end U

set_option Elab.async false
set_option linter.all false
set_option maxRecDepth 100000
set_option maxHeartbeats 4000000
/-! A tree whose top is a dict, given up: the dict as data, of which the parts without dicts are known. -/
namespace U
open PySem PySem.Spec L2
open PyProof.Rows hiding St
/-- the same keys; what holds no dict is the same -/
def FzE : List (Key × D) → List (Key × D) → Prop
  | [], [] => True
  | (k, d) :: es, (k', d') :: es' => k' = k ∧ (D.noDX d = true → d' = d) ∧ FzE es es'
  | _, _ => False
section
variable {K : PySem.W.Frag} {O O' : Ad} {H : Hp}
theorem RpK.look {kvs : List (Key × V)} {es : List (Key × D)} {k : Key} {x : D} (h : RpK K O H kvs es) (e : valD es k = some x) : ∃ w, valV kvs k = some w ∧ Rp K O H w x := by
  induction es generalizing kvs with
  | nil => simp [valD] at e
  | cons y es ih =>
    cases h with
    | @cons k2 v vs d ds a b =>
      unfold valD at e
      rw [List.find?_cons] at e
      unfold valV
      rw [List.find?_cons]
      by_cases q : k2 = k
      · rw [show decide (k2 = k) = true from decide_eq_true q] at e ⊢
        cases (Option.some.inj e)
        exact ⟨v, rfl, a⟩
      · rw [show decide (k2 = k) = false from decide_eq_false q] at e ⊢
        exact ih b e
end
section
variable {K : PySem.W.Frag} {O0 : Ad} {H0 H : Hp} {σ : L2.St} {ρ : Ro}
theorem R.updD (r : R K O0 H0 σ H ρ) {D : Addr} {o : HO} (hD : O0 D) (h0 : H0 D = none) (np : ¬ IsPen ρ.pen D) (hl : ∃ xs, H D = some (.dK xs)) : R K O0 H0 σ (upd H D o) ρ := by
  have hO : OO O0 ρ D := .inl hD
  have ne : ∀ {b : Addr}, ¬ OO O0 ρ b → b ≠ D := fun nb e => nb (by rw [e]; exact hO)
  have k : Keeps (OO O0 ρ) (OO O0 ρ) H (upd H D o) := ⟨fun b u h nb => by rw [upd_ne (ne nb)]; exact h, fun _ _ _ n => n⟩
  refine ⟨r.len, fun i d e => let ⟨v, h1, h2⟩ := r.dat i d e; ⟨v, h1, h2.keep k⟩, fun i a ds e => ?_, r.inj, fun b u h nb => ?_, fun b h => ?_, fun p c e => ?_, r.tre.heap (n := ρ.fuel) k fun i as d e b q o z => by rw [upd_ne fun w => ((r.tre i as d e).2.1 b q).1 (by rw [w]; exact hD)]; exact z⟩
  · obtain ⟨h1, h2, h3, h4, h5⟩ := r.own i a ds e
    exact ⟨h1, h2, h3, h4, h5.keep k fun o q => by rw [upd_ne (fun e => h2 (by rw [e]; exact hD))]; exact q⟩
  · rw [upd_ne (fun e => by rw [e, h0] at h; cases h)]
    exact r.fr b u h nb
  · by_cases e : b = D
    · rw [e, upd_same]; simp
    · rw [upd_ne e]; exact r.tr b h
  · obtain ⟨ns, t, q, h1, h2, h3, h4⟩ := r.pen p c e
    obtain ⟨h4, h5, h6, h7, h8⟩ := h4
    obtain ⟨xs, hl⟩ := hl
    exact ⟨ns, t, q, by rw [upd_ne (fun e2 => np (by rw [← e2]; exact isPen_p e))]; exact h1, by rw [upd_ne (ne h3)]; exact h2, h3, h4, h5, h6, h7, h8.updK hl⟩
end
section
variable {X : Cx} {O0 : Ad} {H0 : Hp} {e : Expr} {ua : UE} {pos : Pos}
def uThawF (i : Nat) (u : US) : US := fun E ρ => match ρ.sl[i]? with
  | some (.tre _ (.dic es)) => ∀ es', FzE es es' → u E (ρ.put i (.dat (.dic es')))
  | _ => False
/-- a key of a dict that is data -/
def uFKey (ua : UE) (z : Str) : UE := fun ρ Q => ua ρ fun d n => match d with
  | .dic es => match valD es (.inr z) with
    | some x => Q x n
    | none => False
  | _ => False
end
section
variable {ρ : Ro} {E : UEnds} {i : Nat} {T : TrA} {es : List (Key × D)} {ua : UE} {w : Str} {Q : D → Nat → Prop} {n : Nat} {x : D}
def kThawF (i : Nat) (u : US) (E : UEnds) (ρ : Ro) : Option Sl → Prop
  | some (.tre _ (.dic es)) => ∀ es', FzE es es' → u E (ρ.put i (.dat (.dic es')))
  | _ => False
theorem sThawF {u : US} : uThawF i u E ρ = kThawF i u E ρ ρ.sl[i]? := by
  unfold uThawF kThawF
  rfl
def kFKeyO (Q : D → Nat → Prop) (n : Nat) : Option D → Prop
  | some x => Q x n
  | none => False
def kFKey (z : Str) (Q : D → Nat → Prop) : D → Nat → Prop := fun d n => match d with
  | .dic es => kFKeyO Q n (valD es (.inr z))
  | _ => False
theorem xFKey : uFKey ua w ρ Q = ua ρ (kFKey w Q) := by
  unfold uFKey kFKey kFKeyO
  rfl
end
end U

set_option Elab.async false
set_option linter.all false
set_option maxRecDepth 100000
set_option maxHeartbeats 4000000
/-! zip without strict; an item of a dict that is data; a dict display of one pair, as data. -/
namespace U
open PySem PySem.Spec L2
open PyProof.Rows hiding St
section
variable {K : PySem.W.Frag} {O : Ad} {H : Hp} {a b : Addr} {xs ys : List V} {ds es : List D}
end
def uiN (u : UA) : UI := fun ρ Q => u ρ fun ds n => match ds with
  | [.lst ds, .lst es] => Q (zipD ds es) n
  | _ => False
def kZN (Q : List D → Nat → Prop) : List D → Nat → Prop := fun ds n => match ds with
  | [.lst ds, .lst es] => Q (zipD ds es) n
  | _ => False
theorem xZn {u : UA} {ρ : Ro} {L : List D → Nat → Prop} : uiN u ρ L = u ρ (kZN L) := id rfl
theorem xZn1 {ds es : List D} {L : List D → Nat → Prop} {n : Nat} : kZN L [.lst ds, .lst es] n = L (zipD ds es) n := id rfl
/-! ### an item of a list, a tuple or a dict -/
def gOpt (Q : D → Prop) : Option D → Prop
  | some x => Q x
  | none => False
def gIxD : G2
  | .dic es, .int i, Q => gOpt Q (valD es (.inl i))
  | .dic es, .str z, Q => gOpt Q (valD es (.inr z))
  | d, k, Q => gIx d k Q
section
variable {X : Cx} {O0 : Ad} {H0 : Hp} {a b : Expr} {ua ub : UE} {pos : Pos}
theorem gIxD_lst {ds : List D} {k : D} {Q : D → Prop} : gIxD (.lst ds) k Q = gIx (.lst ds) k Q := by unfold gIxD; rfl
theorem gIxD_dic {es : List (Key × D)} {i : Int} {Q : D → Prop} : gIxD (.dic es) (.int i) Q = gOpt Q (valD es (.inl i)) := id rfl
end
section
variable {X : Cx} {O0 : Ad} {H0 : Hp} {k v : Expr} {uk uv : UE} {pos : Pos}
/-- {k: v}, k a whole number, as data -/
def uDic1 (uk uv : UE) : UE := fun ρ Q => uk ρ fun dk n => uv (ρ.f n) fun dv m => match dk with
  | .int i => Q (.dic [(.inl i, dv)]) m
  | _ => False
def kDic1 (uv : UE) (ρ : Ro) (Q : D → Nat → Prop) : D → Nat → Prop := fun dk n => uv (ρ.f n) fun dv m => match dk with
  | .int i => Q (.dic [(.inl i, dv)]) m
  | _ => False
def kDic2 (dk : D) (Q : D → Nat → Prop) : D → Nat → Prop := fun dv m => match dk with
  | .int i => Q (.dic [(.inl i, dv)]) m
  | _ => False
theorem xDic1 {ρ : Ro} {Q : D → Nat → Prop} : uDic1 uk uv ρ Q = uk ρ (kDic1 uv ρ Q) := id rfl
theorem xDic11 {sl : List Sl} {pn : PenT} {fu n : Nat} {dk : D} {Q : D → Nat → Prop} : kDic1 uv ⟨sl, pn, fu⟩ Q dk n = uv ⟨sl, pn, n⟩ (kDic2 dk Q) := id rfl
theorem xDic12 {i : Int} {dv : D} {m : Nat} {Q : D → Nat → Prop} : kDic2 (.int i) Q dv m = Q (.dic [(.inl i, dv)]) m := id rfl
end
end U

set_option Elab.async false
set_option linter.all false
set_option maxRecDepth 100000
set_option maxHeartbeats 4000000
/-! {"a": 0} as data. -/
namespace U
open PySem PySem.Spec L2
open PyProof.Rows hiding St
section
variable {X : Cx} {O0 : Ad} {H0 : Hp}
end
end U

set_option Elab.async false
set_option linter.all false
set_option maxRecDepth 100000
set_option maxHeartbeats 4000000
/-! Defs with keyword-only parameters that have a default (data without addresses). -/
namespace U
open PySem PySem.Spec L2
open PyProof.Rows hiding St
/-- the module's def x keeps the promise; dfl: what the keyword-only parameters stand for where none is written -/
structure FnD (P : Program) (w : World) (K : PySem.W.Frag) (mg : Str → Option Value) (base : Heap) (k : Nat) (x : Str) (st : Stmt) (ps : List Str) (dfl : List D) (usp : USp) : Prop where
  ex : ∃ (fd : FuncData) (us : List Value) (vs : List V) (kws : List (Str × V)), FnG P w K mg base k (He.fAd K (x, none)) fd ps (LSp K usp) ∧ Binds K fd ps us ∧ Vals vs us ∧ (∀ (O : Ad) (H : Hp), RpA K O H vs dfl) ∧ PySem.W.keepIn K (.ref (He.fAd K (x, none))) = true ∧ FunD K x x (defArgs st) (defBody st) (defScope st) [] kws (He.fAd K (x, none)) fd
  gl : mg x = some (.ref (He.fAd K (x, none)))
section
variable {X : Cx} {O0 : Ad} {H0 : Hp} {a b c e : Expr} {ua ub uc : UE} {pos p : Pos} {W : WU} {dfl : List D}
end
section
variable {P : Program} {w : World} {K : PySem.W.Frag} {mg : Str → Option Value} {base : Heap}
end
end U

set_option Elab.async false
set_option linter.all false
set_option maxRecDepth 100000
set_option maxHeartbeats 4000000
/-! Dict comprehensions as new trees; a new dict as data. -/
namespace U
open PySem PySem.Spec L2
open PyProof.Rows hiding St
section
variable {X : Cx} {O0 : Ad} {H0 : Hp} {e : Expr} {uv : UV}
/-- a new dict that nobody will change: data -/
def uFrz (uv : UV) : UE := fun ρ Q => uv ρ fun d n => match d with
  | .dic es => D.noLs (es.map (·.2)) = true ∧ Q (.dic es) n
  | _ => False
end
/-! ### {k: v for target in iter if ..} -/
def keyD : D → Option Key
  | .int z => some (.inl z)
  | .str z => some (.inr z)
  | _ => none
def uDComp (ui : UI) (vs : List Nat) (g : UG) (tt : UT) (tk te : UE) : UV := fun ρ Q => ui ρ fun ds n => (ds.length ≤ sizeLine ∧ noOwn ρ vs = true) ∧ ∃ I : List D → List (Key × D) → Nat → Prop, I ds [] n ∧ (∀ acc m, I [] acc m → D.noLs (acc.map (·.2)) = true ∧ Q (.dic acc) m) ∧
  ∀ d r acc m, I (d :: r) acc m → g d ((wipeR ρ vs).f m) fun ρ' => tt ρ' fun k j => if k = true then tk (ρ'.f j) fun kd i => te (ρ'.f i) fun y l => ∃ kk, keyD kd = some kk ∧ I r (putD acc kk y) l else I r acc j
section
variable {K : PySem.W.Frag} {O0 : Ad} {H0 H : Hp} {σ : L2.St}
end
section
variable {X : Cx} {O0 : Ad} {H0 : Hp} {kx vx tg it : Expr} {ifs : List Expr} {scope : Scope} {own : List (Str × Nat)} {pos : Pos} {ui : UI} {G : TG} {g : UG} {tt : UT} {tk te : UE}
end
end U

set_option Elab.async false
set_option linter.all false
set_option maxRecDepth 100000
set_option maxHeartbeats 4000000
/-! max(xs, default=d) of a list of whole numbers. -/
namespace MxD
open PySem PySem.Spec PyProof.Rows L2
open Sem (wp)
section
variable {prog : Program} {w : World} {A : Around} {R : Result → Shared → Prop} {I : Addr} {fp wr : List Addr} {n : Nat} {P : Nat → Value → Prop} {St : Nat → Heap → Prop} {dv : Value}
end
section
variable {prog : Program} {w : World} {A : Around} {E : Value → Shared → Prop} {s : Shared} {dv : Value}
end
section
variable {prog : Program} {w : World} {A : Around} {E : Value → Shared → Prop} {s : Shared} {dv : Value} {its : List Value} {ns : List Int} {l : Addr} {Q : Value → Shared → Prop}
end
section
variable {X : Cx}
end
end MxD

set_option Elab.async false
set_option linter.all false
set_option maxRecDepth 100000
set_option maxHeartbeats 4000000
/-! max(xs, default=k), walks over the keys of a dict that is data. -/
namespace U
open PySem PySem.Spec L2
open PyProof.Rows hiding St
section
variable {X : Cx} {O0 : Ad} {H0 : Hp} {a b c e : Expr} {ua ub uc : UE} {pos p : Pos}
/-- max(xs, default=k) -/
def uMaxD (ue uk : UA) : UE := fun ρ Q => ue ρ fun ds n => uk (ρ.f n) fun es m => match ds, es with
  | [.lst l], [.int z] => ∃ ns : List Int, l = ns.map D.int ∧ (∀ x, x ∈ ns → (∀ y, y ∈ ns → y ≤ x) → Q (.int x) m) ∧ (ns = [] → Q (.int z) m)
  | _, _ => False
/-- for k in d -/
def keysD (es : List (Key × D)) : List D := es.map fun e => kDt e.1
def uiKeys (u : UE) : UI := fun ρ Q => u ρ fun d n => match d with
  | .dic es => Q (keysD es) n
  | _ => False
end
section
variable {ρ : Ro} {Q : D → Nat → Prop} {n m : Nat} {L : List D → Nat → Prop} {ue uk : UA} {ua : UE}
def kMaxD (uk : UA) (ρ : Ro) (Q : D → Nat → Prop) : List D → Nat → Prop := fun ds n => uk (ρ.f n) fun es m => match ds, es with
  | [.lst l], [.int z] => ∃ ns : List Int, l = ns.map D.int ∧ (∀ x, x ∈ ns → (∀ y, y ∈ ns → y ≤ x) → Q (.int x) m) ∧ (ns = [] → Q (.int z) m)
  | _, _ => False
def kMaxD2 (ds : List D) (Q : D → Nat → Prop) : List D → Nat → Prop := fun es m => match ds, es with
  | [.lst l], [.int z] => ∃ ns : List Int, l = ns.map D.int ∧ (∀ x, x ∈ ns → (∀ y, y ∈ ns → y ≤ x) → Q (.int x) m) ∧ (ns = [] → Q (.int z) m)
  | _, _ => False
theorem xMaxD : uMaxD ue uk ρ Q = ue ρ (kMaxD uk ρ Q) := id rfl
theorem xMaxD1 {sl : List Sl} {pn : PenT} {fu : Nat} {ds : List D} : kMaxD uk ⟨sl, pn, fu⟩ Q ds n = uk ⟨sl, pn, n⟩ (kMaxD2 ds Q) := id rfl
theorem xMaxD2 {l : List D} {z : Int} : kMaxD2 [.lst l] Q [.int z] m = ∃ ns : List Int, l = ns.map D.int ∧ (∀ x, x ∈ ns → (∀ y, y ∈ ns → y ≤ x) → Q (.int x) m) ∧ (ns = [] → Q (.int z) m) := id rfl
def kiKeys (L : List D → Nat → Prop) : D → Nat → Prop := fun d n => match d with
  | .dic es => L (keysD es) n
  | _ => False
theorem iKy : uiKeys ua ρ L = ua ρ (kiKeys L) := id rfl
theorem iKy1 {es : List (Key × D)} : kiKeys L (.dic es) n = L (keysD es) n := id rfl
def kFrz (Q : D → Nat → Prop) : D → Nat → Prop := fun d n => match d with
  | .dic es => D.noLs (es.map (·.2)) = true ∧ Q (.dic es) n
  | _ => False
theorem xFrz {uv : UV} : uFrz uv ρ Q = uv ρ (kFrz Q) := id rfl
theorem xFrz1 {es : List (Key × D)} : kFrz Q (.dic es) n = (D.noLs (es.map (·.2)) = true ∧ Q (.dic es) n) := id rfl
def kDComp (vs : List Nat) (g : UG) (tt : UT) (tk te : UE) (ρ : Ro) (Q : D → Nat → Prop) : List D → Nat → Prop := fun ds n => (ds.length ≤ sizeLine ∧ noOwn ρ vs = true) ∧ ∃ I : List D → List (Key × D) → Nat → Prop, I ds [] n ∧ (∀ acc m, I [] acc m → D.noLs (acc.map (·.2)) = true ∧ Q (.dic acc) m) ∧
  ∀ d r acc m, I (d :: r) acc m → g d ((wipeR ρ vs).f m) fun ρ' => tt ρ' fun k j => if k = true then tk (ρ'.f j) fun kd i => te (ρ'.f i) fun y l => ∃ kk, keyD kd = some kk ∧ I r (putD acc kk y) l else I r acc j
theorem xDComp {ui : UI} {vs : List Nat} {g : UG} {tt : UT} {tk te : UE} : uDComp ui vs g tt tk te ρ Q = ui ρ (kDComp vs g tt tk te ρ Q) := id rfl
end
end U

set_option Elab.async false
set_option linter.all false
set_option maxRecDepth 100000
set_option maxHeartbeats 4000000
/-! sorted(set(xs)) of a list of ints. -/
namespace U.SetL
open PySem PySem.Spec PyProof.Rows L2
abbrev nullSet (w : World) : Obj := { cls := .type "set", dict := none, data := .set #[] 0 (.fresh 0 0 (!w.params.followText "set-order")) }
section
variable {P : Program} {w : World} {A : Around} {E : Value → Shared → Prop} {s : Shared}
/-- set(xs), turned from the kit's law about tuples -/
theorem call_set_lstI {l : Addr} {items : Array Value} (ns : List Int) {Q : Value → Shared → Prop} (hh : A.handled = none) (hl : s.heap.IsList l items) (hit : IntsAre items.toList ns) (hb : ns.length + 1 < scanBound)
    (h : ∀ (h' : Heap) (tk c : Nat), SetR w h' s.heap.objs.size (fun j => decide (j ∈ ns)) c → c ≤ ns.length → (∀ b o, s.heap.get? b = some o → h'.get? b = some o) → Q (.ref s.heap.objs.size) { s with heap := h', toks := tk }) :
    wpAny (model P w) A (call (.type "set") [.ref l]) Q E s := by
  have hisz : items.size = ns.length := by
    have q := IntsAre.length hit
    rw [Array.length_toList] at q
    exact q
  obtain ⟨c, tl, hmro⟩ := F.called_set.mro
  have hmade := F.called_set.made
  have hsub := F.called_set.sub
  refine wpAny_call (codeAny_of_tree ?_)
  show wpAny _ _ (callAny (.type "set") _) _ _ _
  refine wpAny_pure ⟨Code.quiet_builtin _ (by decide +kernel), codeAny_builtin F.entry_type_call ?_⟩
  rw [Around.under_plain (weight_type_call_type "set" [.ref l] []) rfl]
  have h1 := F.called_set.notType
  have h2 := F.called_set.canCreate
  have hct := F.typeCall_set_1 (.ref l)
  repeat (any_goals (first | assumption | wp_step))

  refine codeAny_mono (code_set_led1 (.ref l) (E := E) (Q₁ := fun obj s₁ => obj = .ref s.heap.objs.size ∧ s₁ = { s with heap := s.heap.push (nullSet w) }) ⟨rfl, rfl⟩) fun r s₁ hr => ?_
  cases r with
  | error e => exact hr
  | ok fl =>
    cases fl with
    | ret obj =>
      obtain ⟨rfl, rfl⟩ := hr
      have hS : (s.heap.push (nullSet w)).get? s.heap.objs.size = some (nullSet w) := Heap.get?_push_size _ rfl
      have hT : Shared.TypeIs { s with heap := s.heap.push (nullSet w) } (.ref s.heap.objs.size) "set" := ⟨_, hS, rfl⟩
      have hli := F.called_set.init.lookup
      have hbi := F.called_set.init.bind (.ref s.heap.objs.size)
      repeat (any_goals (first | assumption | wp_step))

      refine codeAny_mono (codeAny_call_builtin (R := wants (fun r s₂ => r = .none ∧ ∃ h' tk c, s₂ = { s with heap := h', toks := tk } ∧ SetR w h' s.heap.objs.size (fun j => decide (j ∈ ns)) c ∧ c ≤ ns.length ∧
          (∀ b o, s.heap.get? b = some o → h'.get? b = some o)) E) F.called_set.init.plain F.entry_set_init (check_set_init_1 hT ?_)) fun r₂ s₂ hr₂ => ?_
      · obtain ⟨ol, hol, hcl, nl, hdl⟩ := hl
        obtain ⟨ocls, odict, odata, oslots⟩ := ol
        simp only at hcl hdl
        subst hcl; subst hdl
        have hol' : (s.heap.push (nullSet w)).get? l = some { cls := .type "list", dict := odict, data := .seq items nl, slots := oslots } := Heap.get?_push_of_some _ hol
        have hsls := F.sub_list_set
        have hslf := F.sub_list_frozenset
        have hne : (Value.type "list" == Value.type "dict") = false := by decide
        have hl1 : (s.heap.push (nullSet w)).IsList l items := ⟨_, hol', rfl, nl, rfl⟩
        unfold Builtin.«set.__init__» noKeywords Builtin.Frozenset.updateFrom
        generalize hPI : pyIter = PI
        wp_walk
        subst hPI

        refine wpAny_pyIter_list hl1 ?_
        refine wpAny_bind (wpAny_runValue ?_)
        have hlS : l < s.heap.objs.size := Heap.lt_size hol
        have hh3 : A.in1.in1.in1.handled = none := by simp [hh]
        have hz1 : (s.heap.push (nullSet w)).objs.size = s.heap.objs.size + 1 := Heap.size_push ..
        have hneI : l ≠ (s.heap.push (nullSet w)).objs.size := by
          rw [Heap.size_push]; exact Nat.ne_of_lt (Nat.lt_succ_of_lt hlS)
        have hSf : s.heap.objs.size ∉ [(s.heap.push (nullSet w)).objs.size, l] := by
          rw [Heap.size_push]; simp only [List.mem_cons, List.mem_singleton, List.not_mem_nil, or_false, not_or]
          exact ⟨Nat.ne_of_lt (Nat.lt_succ_self _), Nat.ne_of_gt hlS⟩
        have hval : ∀ (i : Nat) (v : Value), items[i]? = some v → ∃ k t, ns[i]? = some k ∧ v = .int k t := fun i v hv => by
          have hi : i < ns.length := by rw [← hisz]; exact (Array.getElem?_eq_some_iff.mp hv).1
          obtain ⟨t, e⟩ := PyProof.Rows.IntsAre.int_at hit i v (by rw [Array.getElem?_toList]; exact hv)
          refine ⟨ns[i], t, List.getElem?_eq_getElem hi, ?_⟩
          rw [e, List.getD_eq_getElem?_getD, List.getElem?_eq_getElem hi] <;> rfl
        refine set_update_ints ((Walks.list hh3 _ l hneI items).toS) s.heap.objs.size
          hSf ns hisz hb hval (items.size - 0) 0 _ (by omega) (Nat.zero_le _)
          ⟨⟨_, Heap.get?_push_size _ rfl, rfl, rfl⟩, (hl1.push _)⟩ ?hS0 ?hR
        case hS0 =>
          have hget : ((s.heap.push (nullSet w)).push { cls := .type "list_iterator", data := .fields #[.ref l, .int 0 0] }).get? s.heap.objs.size
              = some (nullSet w) := Heap.get?_push_of_some _ hS
          exact ⟨0, Nat.le_refl 0, setR_new_at hget⟩
        case hR =>
          intro s' c' hm hc' hS'
          obtain ⟨h', g2, d', tk', os'⟩ := s'
          have eg : g2 = s.gens := hm.gens
          have ed : d' = s.drawn := hm.drawn
          have eo : os' = s.os := hm.os
          subst eg; subst ed; subst eo
          show wpAny _ _ _ _ _ _
          refine wpAny_pure ?_
          show wpAny _ _ (ret Value.none) _ _ _
          rw [hisz] at hc'
          refine wpAny_pure ⟨rfl, h', tk', c', rfl, hS', hc', fun b o e => ?_⟩
          have hb0 : b < s.heap.objs.size := Heap.lt_size e
          have hb1 : b ≠ s.heap.objs.size := Nat.ne_of_lt hb0
          have hb2 : b ≠ (s.heap.push (nullSet w)).objs.size := by
            rw [Heap.size_push]; exact Nat.ne_of_lt (Nat.lt_succ_of_lt hb0)
          exact hm.heap b o (by simp only [List.mem_cons, List.mem_singleton, List.not_mem_nil, or_false, not_or]; exact ⟨hb1, hb2⟩) (Heap.get?_push_of_some _ (Heap.get?_push_of_some _ e))

      · cases r₂ with
        | error e => exact hr₂
        | ok fl₂ =>
          cases fl₂ with
          | ret r =>
            obtain ⟨rfl, h', tk, c', rfl, hS', hc', hk'⟩ := hr₂
            repeat (any_goals (first | assumption | wp_step))
            exact h _ _ _ hS' hc' hk'
          | _ => exact hr₂.elim
    | _ => exact hr.elim
end
section
variable {X : Cx}
theorem nodup_le : ∀ (l D : List Int), l.Nodup → (∀ x ∈ l, x ∈ D) → l.length ≤ D.length
  | [], _, _, _ => Nat.zero_le _
  | x :: l, D, hn, hs => by
    obtain ⟨h1, h2⟩ := List.nodup_cons.mp hn
    have hx : x ∈ D := hs x List.mem_cons_self
    have ih := nodup_le l (D.erase x) h2 fun y hy => by
      have hne : y ≠ x := fun e => h1 (by rw [← e]; exact hy)
      exact (List.mem_erase_of_ne hne).2 (hs y (List.mem_cons_of_mem _ hy))
    have e := List.length_erase_of_mem hx
    have hp := List.length_pos_of_mem hx
    rw [List.length_cons]
    omega
theorem setR_le {w : World} {h : Heap} {a : Addr} {S : Int → Bool} {n : Nat} (R : SetR w h a S n) {D : List Int} (hD : ∀ k, S k = true → k ∈ D) : n ≤ D.length := by
  obtain ⟨o, es, ep, t, ho, hx, hd, g, nd, hm, hb, hf, hn, _⟩ := R
  have := nodup_le _ D nd fun k hk => hD k ((hm k).mpr hk)
  rw [List.length_map, Array.length_toList] at this
  omega
/-- set(xs) -/
def rSetI (K : PySem.W.Frag) (w : World) : List V → Hp → VK → Prop := fun vs H Q => ∃ (a : Addr) (ns : List Int), vs = [V.ref a] ∧ SqL K H a (ns.map V.int) ∧ ns.length ≤ 4000 ∧
  ∀ (p : Addr) (c : Nat), (∀ D : List Int, (∀ k ∈ ns, k ∈ D) → c ≤ D.length) → H p = none → Q (.ref p) (upd H p (SetO w p (fun j => decide (j ∈ ns)) c))
theorem cr_setI (hc : X.calm = true) : CallR X (.type "set") (rSetI X.K X.w) := by
  intro pins s σ H vs us Q I r h
  obtain ⟨a, ns, rfl, hs, h64, q⟩ := h
  obtain ⟨its, rv, hl, _⟩ := I.list hs
  rw [Vals.ref1 r]
  have hi := rv.ints
  refine call_set_lstI ns (I.ok.hd hc) hl.isList hi (by unfold scanBound; omega) fun h' tk c new hcn keep => ?_
  exact ⟨.ref _, upd H s.heap.objs.size (SetO X.w s.heap.objs.size (fun j => decide (j ∈ ns)) c), I.laid (t' := tk) (fun b u e => keep b u e) (Nat.le_refl _) (setO_new new), rfl, q _ c (fun D hD => setR_le new fun k hk => hD k (of_decide_eq_true hk)) (I.hok.fresh (Nat.le_refl _))⟩
end
end U.SetL
namespace U
open PySem PySem.Spec L2
open PyProof.Rows hiding St
section
variable {X : Cx} {O0 : Ad} {H0 : Hp} {e : Expr} {pos p p2 pos2 : Pos}
/-- sorted(set(xs)) -/
def ufSortS (u : UA) : UF := fun ρ Q => u ρ fun ds n => match ds with
  | [.lst ds] => match D.ints ds with
    | some ns => (ns.length ≤ 4000 ∧ ∃ D : List Int, D.length < 64 ∧ ∀ k ∈ ns, k ∈ D) ∧ ∀ ms : List Int, ms.Pairwise (· < ·) → (∀ k, k ∈ ms ↔ k ∈ ns) → Q (ms.map D.int) n
    | none => False
  | _ => False
theorem uf_sortS {u : UA} (hc : X.calm = true) (hg : Gl X "sorted") (hm : X.mg "sorted" = none) (hg2 : Gl X "set") (hm2 : X.mg "set" = none) (ha : UPL X O0 H0 [e] u)
    (he : starEach [e] X.env = (false, eval e X.env) :: starEach [] X.env := by rfl) (hpl : (backTo pos2 (starEach [] X.env)).any (·.1) = false := by rfl)
    (he2 : starEach [.Call (.Name "set" p2) [e] [] pos2] X.env = (false, eval (.Call (.Name "set" p2) [e] [] pos2) X.env) :: starEach [] X.env := by rfl) (hpl2 : (backTo pos (starEach [] X.env)).any (·.1) = false := by rfl) :
    UPF X O0 H0 (.Call (.Name "sorted" p) [.Call (.Name "set" p2) [e] [] pos2] [] pos) (ufSortS u) := by
  obtain ⟨t, ht, hi⟩ := ha
  have p1 : PE X (.Call (.Name "set" p2) [e] [] pos2) _ := pe_callTy (SetL.cr_setI hc) hg2 hm2 boot_set ht (by decide) (by decide) he hpl
  refine PE.imp (pe_callB (cr_sortedSet hc) hg hm boot_sorted (pa_cons p1 pa_nil he2) (by decide) (by decide) he2 hpl2) fun σ H Q ⟨ρ, P, r, hu, hP⟩ => ?_
  show tCB (SetL.rSetI X.K X.w) t σ H _
  refine hi σ H _ ⟨ρ, _, r, hu, fun ds n hd vs H1 r1 f1 p1 hn => ?_⟩
  split at hd
  · split at hd
    · rename_i e
      cases ints_eq e
      cases p1 with
      | cons h t =>
        cases t
        cases h with
        | lst l a =>
          cases rp_int_inv a
          obtain ⟨⟨h4k, D, h64, hD⟩, hd⟩ := hd
          refine ⟨_, _, rfl, l.sq, h4k, fun q c hcn hq => ⟨q, _, c, rfl, upd_same, Nat.lt_of_le_of_lt (hcn D hD) h64, fun ms p' h1 h2 _ hp => ?_⟩⟩
          exact hP _ n (hd ms h1 fun k => (h2 k).trans decide_eq_true_iff) p' _ (New.of_alloc r (r1.same (Same.new hq)) (f1.trans (Frm.of (Same.new hq))) (rp_ints ms) hp)
    · exact hd.elim
  · exact hd.elim
def kfSortS (L : List D → Nat → Prop) : List D → Nat → Prop := fun ds n => match ds with
  | [.lst ds] => match D.ints ds with
    | some ns => (ns.length ≤ 4000 ∧ ∃ D : List Int, D.length < 64 ∧ ∀ k ∈ ns, k ∈ D) ∧ ∀ ms : List Int, ms.Pairwise (· < ·) → (∀ k, k ∈ ms ↔ k ∈ ns) → L (ms.map D.int) n
    | none => False
  | _ => False
theorem xfSortS {u : UA} {ρ : Ro} {L : List D → Nat → Prop} : ufSortS u ρ L = u ρ (kfSortS L) := id rfl
theorem xfSortS1 {ns : List Int} {n : Nat} {L : List D → Nat → Prop} : kfSortS L [.lst (ns.map D.int)] n ↔ (ns.length ≤ 4000 ∧ ∃ D : List Int, D.length < 64 ∧ ∀ k ∈ ns, k ∈ D) ∧ ∀ ms : List Int, ms.Pairwise (· < ·) → (∀ k, k ∈ ms ↔ k ∈ ns) → L (ms.map D.int) n := by
  have e : D.ints (ns.map D.int) = some ns := by
    induction ns with
    | nil => rfl
    | cons x ns ih => simp [D.ints, ih]
  show (match D.ints (ns.map D.int) with
    | some ns => (ns.length ≤ 4000 ∧ ∃ D : List Int, D.length < 64 ∧ ∀ k ∈ ns, k ∈ D) ∧ ∀ ms : List Int, ms.Pairwise (· < ·) → (∀ k, k ∈ ms ↔ k ∈ ns) → L (ms.map D.int) n
    | none => False) ↔ _
  rw [e]
end
end U

set_option Elab.async false
set_option linter.all false
set_option maxRecDepth 100000
set_option maxHeartbeats 4000000
/-! A new tree, dicts among it, as data. -/
namespace U
open PySem PySem.Spec L2
open PyProof.Rows hiding St
mutual
/-- no object within -/
def D.noOb : D → Bool
  | .lst ds => D.noObs ds
  | .tup ds => D.noObs ds
  | .dic es => D.noObk es
  | .exc _ _ => false
  | _ => true
def D.noObs : List D → Bool
  | [] => true
  | d :: ds => D.noOb d && D.noObs ds
def D.noObk : List (Key × D) → Bool
  | [] => true
  | (_, d) :: es => D.noOb d && D.noObk es
end
/-- H' is H, the dicts at as locked -/
structure Lkd (as : List Addr) (H H' : Hp) : Prop where
  ne : ∀ b, b ∉ as → H' b = H b
  at_ : ∀ b ∈ as, (∃ kvs o, H b = some (.dK kvs) ∧ H' b = some (.frz o (.dK kvs))) ∨ ((∀ kvs, H b ≠ some (.dK kvs)) ∧ H' b = H b)
section
variable {K : PySem.W.Frag} {O O' : Ad} {H H' : Hp} {ns : List Addr}
theorem Lkd.keeps (L : Lkd ns H H') (ho : ∀ b, O' b → O b) (hO : ∀ b ∈ ns, O b) : Keeps O O' H H' :=
  ⟨fun b o hb nO => (L.ne b fun z => nO (hO b z)).trans hb, fun b _ _ n z => n (ho b z)⟩
theorem Lkd.same {a : Addr} {o : HO} (L : Lkd ns H H') (h : H a = some o) (hd : ∀ kvs, o ≠ .dK kvs) : H' a = some o := by
  by_cases q : a ∈ ns
  · rcases L.at_ a q with ⟨kvs, _, e, _⟩ | ⟨_, e⟩
    · rw [h] at e
      exact absurd (Option.some.inj e) (hd kvs)
    · rw [e, h]
  · rw [L.ne a q, h]
mutual
theorem Nt.frz (L : Lkd ns H H') (ho : ∀ b, O' b → O b) (hO : ∀ b ∈ ns, O b) : ∀ {as : List Addr} {v : V} {d : D}, (∀ b ∈ as, b ∈ ns ∧ ¬ O' b) → D.noOb d = true → Nt K O H as v d → Rp K O' H' v d
  | _, _, _, _, _, .leaf _ r => r.keep (L.keeps ho hO)
  | _, _, _, ha, hd, .lst h r _ => .lst ⟨(ha _ List.mem_cons_self).2, L.same h fun _ => nofun⟩ (NtA.frz L ho hO (fun b hb => ha b (List.mem_cons_of_mem _ hb)) (by simpa [D.noOb] using hd) r)
  | _, _, _, ha, hd, .tup h r => .tup (h.keep (L.keeps ho hO)) (NtA.frz L ho hO ha (by simpa [D.noOb] using hd) r)
  | _, _, _, ha, hd, .dic (kvs := kvs) h r _ => by
    have hm := ha _ List.mem_cons_self
    rcases L.at_ _ hm.1 with ⟨kvs', o, e, e'⟩ | ⟨n, _⟩
    · rw [h] at e
      cases e
      exact .dic hm.2 e' (NtK.frz L ho hO (fun b hb => ha b (List.mem_cons_of_mem _ hb)) (by simpa [D.noOb] using hd) r)
    · exact absurd h (n _)
  | _, _, _, _, hd, .obj _ _ _ _ _ _ => by simp [D.noOb] at hd
theorem NtA.frz (L : Lkd ns H H') (ho : ∀ b, O' b → O b) (hO : ∀ b ∈ ns, O b) : ∀ {as : List Addr} {v : List V} {d : List D}, (∀ b ∈ as, b ∈ ns ∧ ¬ O' b) → D.noObs d = true → NtA K O H as v d → RpA K O' H' v d
  | _, _, _, _, _, .nil => .nil
  | _, _, _, ha, hd, .cons h r _ => by
    simp only [D.noObs, Bool.and_eq_true] at hd
    exact .cons (Nt.frz L ho hO (fun b hb => ha b (List.mem_append_left _ hb)) hd.1 h) (NtA.frz L ho hO (fun b hb => ha b (List.mem_append_right _ hb)) hd.2 r)
theorem NtK.frz (L : Lkd ns H H') (ho : ∀ b, O' b → O b) (hO : ∀ b ∈ ns, O b) : ∀ {as : List Addr} {v : List (Key × V)} {d : List (Key × D)}, (∀ b ∈ as, b ∈ ns ∧ ¬ O' b) → D.noObk d = true → NtK K O H as v d → RpK K O' H' v d
  | _, _, _, _, _, .nil => .nil
  | _, _, _, ha, hd, .cons h r _ => by
    simp only [D.noObk, Bool.and_eq_true] at hd
    exact .cons (Nt.frz L ho hO (fun b hb => ha b (List.mem_append_left _ hb)) hd.1 h) (NtK.frz L ho hO (fun b hb => ha b (List.mem_append_right _ hb)) hd.2 r)
end
end
section
variable {X : Cx} {O0 : Ad} {H0 : Hp} {e : Expr} {uv : UV}
/-- a new tree that nobody will change: data -/
def uFrT (uv : UV) : UE := fun ρ Q => uv ρ fun d n => D.noOb d = true ∧ Q d n
theorem xFrT {ρ : Ro} {L : D → Nat → Prop} : uFrT uv ρ L = uv ρ fun d n => D.noOb d = true ∧ L d n := id rfl
theorem gIxD_dicS {es : List (Key × D)} {z : Str} {Q : D → Prop} : gIxD (.dic es) (.str z) Q = gOpt Q (valD es (.inr z)) := id rfl
end
end U

set_option Elab.async false
set_option linter.all false
set_option maxRecDepth 100000
set_option maxHeartbeats 4000000
/-! A head with classes of its own and with constant tuples. -/
namespace U
open PySem PySem.Spec L2
open PyProof.Rows hiding St
structure SaysZT (z : ZO) (tc : List Tc) (w : World) (h : Heap) (K : PySem.W.Frag) : Prop where
  z : SaysZ z w h K
  tup : ∀ t ∈ tc, KT K (He.ga K t.1) (t.2.map V.str)
end U

set_option Elab.async false
set_option linter.all false
set_option maxRecDepth 100000
set_option maxHeartbeats 4000000
/-! try, with a list of one's own beside it. -/
namespace U
open PySem PySem.Spec L2
open PyProof.Rows hiding St
def BackOk (j : Nat) (a : Addr) (ρ : Ro) : Prop := ρ.sl[j]? = some (.dat (.ref a)) ∧ noOwns ρ.sl = true
section
variable {K : PySem.W.Frag} {O0 : Ad} {H0 H H' : Hp} {σ σ' : L2.St} {ρ ρ' : Ro} {j : Nat} {a : Addr} {c : OC}
theorem set_at {α : Type} {l : List α} {i j : Nat} {x y : α} (h : (l.set j x)[i]? = some y) : (i = j ∧ y = x) ∨ (i ≠ j ∧ l[i]? = some y) := by
  by_cases q : i = j
  · subst q
    rw [List.getElem?_set_self' ] at h
    cases w : l[i]? with
    | none => rw [w] at h; cases h
    | some z => rw [w] at h; exact .inl ⟨rfl, (Option.some.inj h).symm⟩
  · rw [List.getElem?_set_ne (fun z => q z.symm)] at h
    exact .inr ⟨q, h⟩
theorem R.back (r : R K O0 H0 σ H ρ) (e : ρ.sl[j]? = some (.own a c)) (r1 : R K (fun b => O0 b ∨ b = a) H σ' H' ρ') (ep : ρ'.pen = ρ.pen) (hb : BackOk j a ρ') : R K O0 H0 σ' H' (ρ'.put j (.own a c)) ∧ Tr O0 ρ H (ρ'.put j (.own a c)) H' ∧ ∀ b, OO O0 (ρ'.put j (.own a c)) b → OO (fun b => O0 b ∨ b = a) ρ' b := by
  obtain ⟨e1, hno⟩ := hb
  have own_at : ∀ (i : Nat) b d, (ρ'.put j (.own a c)).sl[i]? = some (.own b d) → i = j ∧ b = a ∧ d = c := fun i b d h => by
    rcases set_at h with ⟨q, w⟩ | ⟨_, q⟩
    · cases w; exact ⟨q, rfl, rfl⟩
    · exact absurd q (noOwns_ok hno i b d)
  have no_tre : ∀ (i : Nat) as d, (ρ'.put j (.own a c)).sl[i]? ≠ some (.tre as d) := fun i as d h => by
    rcases set_at h with ⟨_, w⟩ | ⟨_, q⟩
    · cases w
    · exact absurd q (noOwns_tre hno i as d)
  have le : ∀ b, OO O0 (ρ'.put j (.own a c)) b → OO (fun b => O0 b ∨ b = a) ρ' b := fun b h => by
    rcases h with h | h | ⟨i, d, h⟩ | ⟨i, as, d, h, _⟩
    · exact .inl (.inl h)
    · exact .inr (.inl h)
    · exact .inl (.inr (own_at i b d h).2.1)
    · exact absurd h (no_tre i as d)
  have le0 : ∀ b, OO O0 (ρ'.put j (.own a c)) b → OO O0 ρ b := fun b h => by
    rcases h with h | h | ⟨i, d, h⟩ | ⟨i, as, d, h, _⟩
    · exact .inl h
    · refine .inr (.inl ?_)
      rw [← ep]
      exact h
    · rw [(own_at i b d h).2.1]
      exact OO.own e
    · exact absurd h (no_tre i as d)
  obtain ⟨o1, o2, o3, o4, o5⟩ := r.own j a c e
  have f0 : Frm ρ.pen H H' := by rw [← ep]; exact r1.fr
  have kk : Keeps (OO O0 ρ) (OO O0 (ρ'.put j (.own a c))) H H' := ⟨fun b o h n => f0 b o h fun z => n (OO.pen b z), fun b o _ n z => n (le0 b z)⟩
  refine ⟨?_, ⟨kk, ep⟩, le⟩
  exact {
    len := by
      show σ'.length = (ρ'.sl.set j _).length
      rw [List.length_set]
      exact r1.len
    dat := fun i d h => by
      rcases set_at h with ⟨_, q⟩ | ⟨_, q⟩
      · cases q
      · obtain ⟨v, h1, h2⟩ := r1.dat i d q
        exact ⟨v, h1, h2.keep (.less le)⟩
    own := fun i b d h => by
      obtain ⟨rfl, rfl, rfl⟩ := own_at i b d h
      obtain ⟨v, h1, h2⟩ := r1.dat i _ e1
      cases h2
      exact ⟨h1, o2, o3, fun z => o4 (by rw [← ep]; exact z), o5.keep kk fun o q => f0 _ o q o4⟩
    inj := fun i k b d d' h h' => by rw [(own_at i b d h).1, (own_at k b d' h').1]
    fr := by
      show Frm ρ'.pen H0 H'
      rw [ep]
      exact r.fr.trans f0
    tr := fun b h => r1.tr b (le b h)
    pen := r1.pen.less le
    tre := Trees.none no_tre }
end
def endsO (j : Nat) (a : Addr) (c : OC) (E : UEnds) : UEnds := { nx := fun ρ' => BackOk j a ρ' ∧ E.nx (ρ'.put j (.own a c)), bk := fun ρ' => BackOk j a ρ' ∧ E.bk (ρ'.put j (.own a c)), ct := fun ρ' => BackOk j a ρ' ∧ E.ct (ρ'.put j (.own a c)), rt := fun _ _ => False }
/-- a try while slot j holds a list of one's own -/
def uTryO (j : Nat) (m : Cn → Bool) (i : Nat) (ub : WU → US) (us : US) : US := fun E ρ => match ρ.sl[j]? with
  | some (.own a c) => noOwns (ρ.put j (.dat (.ref a))).sl = true ∧
    ub (fun x ρ1 => ρ1.pen = ρ.pen ∧ m x.cls = true ∧ BackOk j a ρ1 ∧ us (behindX i E) ((ρ1.put j (.own a c)).put i (.dat (.exc x.cls (x.fld.getD []))))) (endsO j a c E) (ρ.put j (.dat (.ref a)))
  | _ => False
section
variable {X : Cx} {O0 : Ad} {H0 : Hp} {n : Str} {i j : Nat} {body suite : List Stmt} {b₀ : Stmt} {test : Expr} {cs : List Value} {pos pos' : Pos} {ub : WU → US} {us : US} {m : Cn → Bool}
end
def kXO (j : Nat) (a : Addr) (c : OC) (m : Cn → Bool) (i : Nat) (us : US) (E : UEnds) (pn : PenT) : WU := fun x ρ1 => ρ1.pen = pn ∧ m x.cls = true ∧ BackOk j a ρ1 ∧ us (behindX i E) ((ρ1.put j (.own a c)).put i (.dat (.exc x.cls (x.fld.getD []))))
def kTryO (j : Nat) (m : Cn → Bool) (i : Nat) (ub : WU → US) (us : US) (E : UEnds) (ρ : Ro) : Option Sl → Prop
  | some (.own a c) => noOwns (ρ.put j (.dat (.ref a))).sl = true ∧ ub (kXO j a c m i us E ρ.pen) (endsO j a c E) (ρ.put j (.dat (.ref a)))
  | _ => False
section
variable {j i : Nat} {m : Cn → Bool} {ub : WU → US} {us : US} {E : UEnds} {ρ : Ro} {a : Addr} {c : OC} {sl : List Sl} {pn : PenT} {k : Nat}
theorem sTryO : uTryO j m i ub us E ρ = kTryO j m i ub us E ρ ρ.sl[j]? := by
  unfold uTryO kTryO kXO
  rfl
theorem sTryO1 : kTryO j m i ub us E ⟨sl, pn, k⟩ (some (.own a c)) = (noOwns (sl.set j (.dat (.ref a))) = true ∧ ub (kXO j a c m i us E pn) (endsO j a c E) ⟨sl.set j (.dat (.ref a)), pn, k⟩) := id rfl
theorem endsO_nx : (endsO j a c E).nx ρ = (BackOk j a ρ ∧ E.nx (ρ.put j (.own a c))) := id rfl
end
end U

set_option Elab.async false
set_option linter.all false
set_option maxRecDepth 100000
set_option maxHeartbeats 4000000
/-! texts: a part of one, one many times, a sign that is not within, partition, startswith, endswith -/
namespace U
open PySem PySem.Spec L2
open PyProof.Rows hiding St
section
variable {X : Cx} {O0 : Ad} {H0 : Hp} {e o tg a : Expr} {ua ub uo : UE} {pos apos : Pos}
/-! ### a part of a text -/
def gCutS : D → Option Int → Option Int → (D → Prop) → Prop
  | .str z, lo, hi, Q => z.length ≤ sizeLine ∧ Q (.str (L2.cutS z lo hi))
  | _, _, _, _ => False
def lSlS (K : PySem.W.Frag) : V → Option Int → Option Int → Hp → VK → Prop := fun x lo hi H Q => ∃ (O : Ad) (dx : D) (P : D → Prop), (∀ b, O b → H b ≠ none) ∧ Rp K O H x dx ∧ gCutS dx lo hi P ∧ ∀ d, P d → ∀ v H', Same H H' → Rp K O H' v d → Q v H'
theorem sl_S : SlR X (lSlS X.K) := by
  intro pins s σ H x v vl vu lo hi sl Q I rx hs pl pu ⟨O, dx, P, tr, hx, hg, hP⟩
  cases dx <;> try exact hg.elim
  cases hx
  exact L2.sl_str pins s σ H _ v vl vu lo hi sl Q I rx hs pl pu ⟨_, rfl, hg.1, hP _ hg.2 _ _ (Same.refl _) (.str _)⟩
def uCutS (a : UE) (l h : UO) : UE := fun ρ Q => a ρ fun x n => l (ρ.f n) fun lo m => h (ρ.f m) fun hi k => gCutS x lo hi fun z => Q z k
theorem up_cutS {lo hi : Option Expr} {ul uh : UO} {p2 : Pos} (ha : UPE X O0 H0 a ua) (hl : UPO X O0 H0 lo ul) (hh : UPO X O0 H0 hi uh) : UPE X O0 H0 (.Subscript a (.Slice lo hi none p2) pos) (uCutS ua ul uh) :=
  PE.imp (pe_slice sl_S ha hl hh) fun σ H Q ⟨ρ, P, r, hu, hP⟩ => by
    refine ⟨ρ, _, r, hu, fun dx n hx v H1 r1 f1 p1 => ⟨ρ.f n, _, r1, hx, fun o1 m h1 H2 r2 f2 => ⟨ρ.f m, _, r2, h1, fun o2 k h2 H3 r3 f3 => ?_⟩⟩⟩
    refine ⟨OO O0 ρ, dx, _, r3.tr, (p1.keep (Frm.keepsO (ρ := ρ) f2)).keep (Frm.keepsO (ρ := ρ) f3), h2, fun d hd v' H4 sm p4 => ?_⟩
    exact hP d k hd v' H4 (r3.same sm) (((f1.trans f2).trans f3).trans (.of sm)) p4
/-! ### many times -/
def gMulS : G2
  | .str x, .int k, Q => PySem.MulOk x k ∧ Q (.str (Txt.mul x k))
  | _, _, _ => False
theorem op_mulS : OpR X (binaryOp .Mult) (lR2 X.K gMulS) := by
  intro pins s σ H x y v u Q I rx ry ⟨O, dx, dy, P, tr, hx, hy, hg, hP⟩
  unfold gMulS at hg
  split at hg
  · cases hx
    cases hy
    obtain ⟨t, rfl⟩ := rx
    obtain ⟨w, rfl⟩ := ry
    exact PySem.SB.mul hg.1 fun t' k => ⟨.str _, H, I.tok k, ⟨_, rfl⟩, hP _ hg.2 _ _ (Same.refl _) (.str _)⟩
  · exact hg.elim
/-! ### a sign that is not within -/
def gNotInS : G2
  | .str ⟨x⟩, .str z, Q => match x.toList with
    | [c] => Q (.bl (!decide (c ∈ z.cps.toList)))
    | _ => False
  | _, _, _ => False
theorem op_notInSg : OpR X (compareOp .NotIn) (lR2 X.K gNotInS) := by
  intro pins s σ H x y v u Q I rx ry ⟨O, dx, dy, P, tr, hx, hy, hg, hP⟩
  unfold gNotInS at hg
  split at hg
  · rename_i a z
    split at hg
    · rename_i c e
      have e2 : a = #[c] := by
        obtain ⟨l⟩ := a
        exact congrArg Array.mk e
      subst e2
      cases hx
      cases hy
      exact op_notIn_sign pins s σ H _ _ v u Q I rx ry ⟨c, z, rfl, rfl, hP _ hg _ _ (Same.refl _) (.bl _)⟩
    · exact hg.elim
  · exact hg.elim
/-! ### partition, startswith, endswith -/
def gPartn : G2
  | .str a, .str b, Q => ((b.length == 0) = false ∧ a.length ≤ sizeLine) ∧ Q (.tup [.str (Txt.partition a b).1, .str (Txt.partition a b).2.1, .str (Txt.partition a b).2.2])
  | _, _, _ => False
def gStW : G2
  | .str a, .str b, Q => Q (.bl (Txt.startswith a b))
  | _, _, _ => False
def gEnW : G2
  | .str a, .str b, Q => Q (.bl (Txt.endswith a b))
  | _, _, _ => False
end
/-! ### rewriting -/
section
variable {sl : List Sl} {pn : PenT} {fu n m : Nat} {ρ : Ro} {Q : D → Nat → Prop} {P : D → Prop} {a : UE} {ol oh : UO} {s t : Str} {x : D}
def kCutS3 (x : D) (lo : Option Int) (Q : D → Nat → Prop) : Option Int → Nat → Prop := fun hi k => gCutS x lo hi (kN Q k)
def kCutS2 (h : UO) (ρ : Ro) (Q : D → Nat → Prop) (x : D) : Option Int → Nat → Prop := fun lo m => h (ρ.f m) (kCutS3 x lo Q)
def kCutS1 (l h : UO) (ρ : Ro) (Q : D → Nat → Prop) : D → Nat → Prop := fun x n => l (ρ.f n) (kCutS2 h ρ Q x)
theorem xCutS : uCutS a ol oh ρ Q = a ρ (kCutS1 ol oh ρ Q) := id rfl
theorem xCutS1 : kCutS1 ol oh ⟨sl, pn, fu⟩ Q x n = ol ⟨sl, pn, n⟩ (kCutS2 oh ⟨sl, pn, fu⟩ Q x) := id rfl
theorem xCutS2 {o : Option Int} : kCutS2 oh ⟨sl, pn, fu⟩ Q x o n = oh ⟨sl, pn, n⟩ (kCutS3 x o Q) := id rfl
theorem xCutS3 {o o' : Option Int} : kCutS3 x o Q o' n = gCutS x o o' (kN Q n) := id rfl
theorem xCutS4 {o o' : Option Int} : gCutS (.str s) o o' P = (s.length ≤ sizeLine ∧ P (.str (L2.cutS s o o'))) := id rfl
theorem xMulS {k : Int} : gMulS (.str s) (.int k) P = (PySem.MulOk s k ∧ P (.str (Txt.mul s k))) := id rfl
theorem xNotInSg {c : Nat} : gNotInS (.str ⟨#[c]⟩) (.str s) P = P (.bl (!decide (c ∈ s.cps.toList))) := id rfl
theorem xPartn : gPartn (.str s) (.str t) P = (((t.length == 0) = false ∧ s.length ≤ sizeLine) ∧ P (.tup [.str (Txt.partition s t).1, .str (Txt.partition s t).2.1, .str (Txt.partition s t).2.2])) := id rfl
theorem xStW : gStW (.str s) (.str t) P = P (.bl (Txt.startswith s t)) := id rfl
theorem xEnW : gEnW (.str s) (.str t) P = P (.bl (Txt.endswith s t)) := id rfl
end
end U

set_option Elab.async false
set_option linter.all false
set_option maxRecDepth 100000
set_option maxHeartbeats 4000000
/-! the pen that is a dict; a dict within a tree, under a name of its own -/
namespace U
open PySem PySem.Spec L2
open PyProof.Rows hiding St
section
variable {X : Cx} {e : Expr}
end
section
variable {P : Program} {w : World} {K : PySem.W.Frag} {mg : Str → Option Value} {base : Heap}
end
/-! ### reads and stores of such a pen -/
section
variable {X : Cx} {O0 : Ad} {H0 : Hp} {e : Expr} {ua : UE}
def uPenNextD (i : Nat) (u : UE) : US := fun E ρ => u ρ fun d n => match d, ρ.sl[i]?, ρ.pen with
  | .int z, some (.dat (.ref a)), some (p, c) => (a = p ∧ c.dk = true) ∧ 0 ≤ z ∧ ∃ m : Nat, z + m ≤ 1048576 ∧ E.nx (ρ.f m)
  | _, _, _ => False
def uPenRestD (i : Nat) (u : UE) : US := fun E ρ => u ρ fun d n => match d, ρ.sl[i]?, ρ.pen with
  | .int z, some (.dat (.ref a)), some (p, c) => (a = p ∧ c.dk = true) ∧ 0 ≤ z ∧ ∃ m : Nat, m ≤ n ∧ E.nx (ρ.f m)
  | _, _, _ => False
/-! ### x = tree[..]; return x.get(k, x[z]) -/
def uAliGet (i j : Nat) (up : UP) (uk uz : UE) : US := fun E ρ => up ρ fun d C n => match d with
  | .dic es => ∀ a, uk ((ρ.f n).put j (.dat (.ref a))) fun k m => uz (((ρ.f n).put j (.dat (.ref a))).f m) fun z l => match dK k, dK z with
    | some kk, some kz => match valD es kz with
      | some dz => D.noL dz = true ∧ match valD es kk with
        | some dx => D.noL dx = true ∧ E.rn (.dat dx) (((ρ.f n).put j (.dat (.ref a))).f l)
        | none => E.rn (.dat dz) (((ρ.f n).put j (.dat (.ref a))).f l)
      | none => False
    | _, _ => False
  | _ => False
end
/-! ### rewriting -/
section
variable {sl : List Sl} {pn : PenT} {fu n m f : Nat} {ρ : Ro} {Q : D → Nat → Prop} {E : UEnds} {a uk uz : UE} {up : UP} {i j : Nat} {p : Addr} {c : PenC} {z w : Int} {C : D → D} {es : List (Key × D)}
def kPenND (i : Nat) (E : UEnds) (ρ : Ro) : D → Nat → Prop := fun d n => match d, ρ.sl[i]?, ρ.pen with
  | .int z, some (.dat (.ref a)), some (p, c) => (a = p ∧ c.dk = true) ∧ 0 ≤ z ∧ ∃ m : Nat, z + m ≤ 1048576 ∧ E.nx (ρ.f m)
  | _, _, _ => False
def kPenRD (i : Nat) (E : UEnds) (ρ : Ro) : D → Nat → Prop := fun d n => match d, ρ.sl[i]?, ρ.pen with
  | .int z, some (.dat (.ref a)), some (p, c) => (a = p ∧ c.dk = true) ∧ 0 ≤ z ∧ ∃ m : Nat, m ≤ n ∧ E.nx (ρ.f m)
  | _, _, _ => False
theorem sPenND : uPenNextD i a E ρ = a ρ (kPenND i E ρ) := id rfl
theorem sPenRD : uPenRestD i a E ρ = a ρ (kPenRD i E ρ) := id rfl
def kAliO2 (E : UEnds) (ρ : Ro) (dz : D) : Option D → Prop
  | some dx => D.noL dx = true ∧ E.rn (.dat dx) ρ
  | none => E.rn (.dat dz) ρ
def kAliO (es : List (Key × D)) (E : UEnds) (ρ : Ro) (w : Int) : Option D → Prop
  | some dz => D.noL dz = true ∧ kAliO2 E ρ dz (valD es (.inl w))
  | none => False
def kAli3 (es : List (Key × D)) (E : UEnds) (ρ : Ro) (k : D) : D → Nat → Prop := fun z l => match dK k, dK z with
    | some kk, some kz => match valD es kz with
      | some dz => D.noL dz = true ∧ match valD es kk with
        | some dx => D.noL dx = true ∧ E.rn (.dat dx) (ρ.f l)
        | none => E.rn (.dat dz) (ρ.f l)
      | none => False
    | _, _ => False
def kAli2 (uz : UE) (es : List (Key × D)) (E : UEnds) (ρ : Ro) : D → Nat → Prop := fun k m => uz (ρ.f m) (kAli3 es E ρ k)
def kAli1 (j : Nat) (uk uz : UE) (E : UEnds) (ρ : Ro) : D → (D → D) → Nat → Prop := fun d C n => match d with
  | .dic es => ∀ a, uk ((ρ.f n).put j (.dat (.ref a))) (kAli2 uz es E ((ρ.f n).put j (.dat (.ref a))))
  | _ => False
theorem sAli : uAliGet i j up uk uz E ρ = up ρ (kAli1 j uk uz E ρ) := by
  unfold uAliGet kAli1 kAli2 kAli3
  rfl
theorem sAli1 : kAli1 j uk uz E ⟨sl, pn, fu⟩ (.dic es) C n = ∀ a, uk ⟨sl.set j (.dat (.ref a)), pn, n⟩ (kAli2 uz es E ⟨sl.set j (.dat (.ref a)), pn, n⟩) := id rfl
theorem sAli2 {k : D} : kAli2 uz es E ⟨sl, pn, fu⟩ k n = uz ⟨sl, pn, n⟩ (kAli3 es E ⟨sl, pn, fu⟩ k) := id rfl
theorem sAli3 : kAli3 es E ⟨sl, pn, fu⟩ (.int w) (.int z) n = kAliO es E ⟨sl, pn, n⟩ w (valD es (.inl z)) := by
  show (match valD es (.inl z) with
    | some dz => D.noL dz = true ∧ match valD es (.inl w) with
      | some dx => D.noL dx = true ∧ E.rn (.dat dx) ⟨sl, pn, n⟩
      | none => E.rn (.dat dz) ⟨sl, pn, n⟩
    | none => False) = _
  unfold kAliO kAliO2
  rfl
theorem sAliO {dz : D} : kAliO es E ρ w (some dz) = (D.noL dz = true ∧ kAliO2 E ρ dz (valD es (.inl w))) := id rfl
theorem sAliO1 {dx dz : D} : kAliO2 E ρ dz (some dx) = (D.noL dx = true ∧ E.rn (.dat dx) ρ) := id rfl
theorem sAliO2 {dz : D} : kAliO2 E ρ dz none = E.rn (.dat dz) ρ := id rfl
end
end U

set_option Elab.async false
set_option linter.all false
set_option maxRecDepth 100000
set_option maxHeartbeats 4000000
/-! a tree with dicts in it, read as data within one expression: its dicts are locked, and unlocked behind it -/
namespace U
open PySem PySem.Spec L2
open PyProof.Rows hiding St
section
variable {X : Cx} {O0 : Ad} {H0 : Hp} {e : Expr} {i : Nat} {ua : UE}
/-- within an expression whose value holds no list, the tree in slot i is read as data -/
def uPeekD (i : Nat) (u : UE) : UE := fun ρ Q => match ρ.sl[i]? with
  | some (.tre _ d) => D.noOb d = true ∧ u (ρ.put i (.dat d)) fun d n => D.noL d = true ∧ Q d n
  | _ => u ρ Q
/-- x = [.. for ..], the items without lists, while the tree in slot i is read as data -/
def uPeekFD (i : Nat) (u : UF) : UF := fun ρ Q => match ρ.sl[i]? with
  | some (.tre _ d) => D.noOb d = true ∧ u (ρ.put i (.dat d)) fun es n => D.noLs es = true ∧ Q es n
  | _ => u ρ Q
/-! ### d.get(k, x), d data -/
def gGetD (d k z : D) (Q : D → Prop) : Prop := match d, dK k with
  | .dic es, some kk => match valD es kk with
    | some x => Q x
    | none => Q z
  | _, _ => False
def uGetD (a k z : UE) : UE := fun ρ Q => a ρ fun d n => (∃ es, d = .dic es) ∧ k (ρ.f n) fun kd m => z (ρ.f m) fun zd l => gGetD d kd zd fun x => Q x l
end
/-! ### rewriting -/
section
variable {sl : List Sl} {pn : PenT} {fu n : Nat} {uf : UF} {L : List D → Nat → Prop} {Q : D → Nat → Prop} {d : D} {ρ : Ro} {i : Nat} {T : TrA} {a : UE}
def kPkD (i : Nat) (u : UE) (ρ : Ro) (Q : D → Nat → Prop) : Option Sl → Prop
  | some (.tre _ d) => D.noOb d = true ∧ u (ρ.put i (.dat d)) (kPeek2 Q)
  | _ => u ρ Q
theorem xPkD : uPeekD i a ρ Q = kPkD i a ρ Q ρ.sl[i]? := by
  unfold uPeekD kPkD
  rfl
theorem xPkD1 : kPkD i a ⟨sl, pn, fu⟩ Q (some (.tre T d)) = (D.noOb d = true ∧ a ⟨sl.set i (.dat d), pn, fu⟩ (kPeek2 Q)) := id rfl
theorem xPkD2 : kPkD i a ρ Q (some (.dat d)) = a ρ Q := id rfl
def kPkF (i : Nat) (u : UF) (ρ : Ro) (L : List D → Nat → Prop) : Option Sl → Prop
  | some (.tre _ d) => D.noOb d = true ∧ u (ρ.put i (.dat d)) (kPeekF2 L)
  | _ => u ρ L
theorem xPkF : uPeekFD i uf ρ L = kPkF i uf ρ L ρ.sl[i]? := by
  unfold uPeekFD kPkF
  rfl
theorem xPkF1 : kPkF i uf ⟨sl, pn, fu⟩ L (some (.tre T d)) = (D.noOb d = true ∧ uf ⟨sl.set i (.dat d), pn, fu⟩ (kPeekF2 L)) := id rfl
theorem xPkF2 : kPkF i uf ρ L (some (.dat d)) = uf ρ L := id rfl
def kGetDO (Q : D → Nat → Prop) (l : Nat) (z : D) : Option D → Prop
  | some x => Q x l
  | none => Q z l
def kGetD3 (d k : D) (Q : D → Nat → Prop) : D → Nat → Prop := fun zd l => gGetD d k zd fun x => Q x l
def kGetD2 (z : UE) (d : D) (ρ : Ro) (Q : D → Nat → Prop) : D → Nat → Prop := fun kd m => z (ρ.f m) (kGetD3 d kd Q)
def kGetD1 (k z : UE) (ρ : Ro) (Q : D → Nat → Prop) : D → Nat → Prop := fun d n => (∃ es, d = .dic es) ∧ k (ρ.f n) (kGetD2 z d ρ Q)
theorem xGetD {k z : UE} : uGetD a k z ρ Q = a ρ (kGetD1 k z ρ Q) := id rfl
theorem xGetD1 {k z : UE} {es : List (Key × D)} : kGetD1 k z ⟨sl, pn, fu⟩ Q (.dic es) n ↔ k ⟨sl, pn, n⟩ (kGetD2 z (.dic es) ⟨sl, pn, fu⟩ Q) := ⟨fun h => h.2, fun h => ⟨⟨es, rfl⟩, h⟩⟩
theorem xGetD2 {z : UE} {kd : D} : kGetD2 z d ⟨sl, pn, fu⟩ Q kd n = z ⟨sl, pn, n⟩ (kGetD3 d kd Q) := id rfl
theorem xGetD3 {es : List (Key × D)} {w : Int} {zd : D} : kGetD3 (.dic es) (.int w) Q zd n = kGetDO Q n zd (valD es (.inl w)) := id rfl
theorem xGetDO1 {x z : D} : kGetDO Q n z (some x) = Q x n := id rfl
theorem xGetDO2 {z : D} : kGetDO Q n z none = Q z n := id rfl
end
end U

set_option Elab.async false
set_option linter.all false
set_option maxRecDepth 100000
set_option maxHeartbeats 0

namespace Lw
open PySem PySem.Spec L2 U
open PyProof.Rows hiding St
def top (i : Nat) : Stmt := PySem.Challenge.pw_growblind_k68_texts_of_no_policy.main.body.getD i (.Pass ⟨0, 0, 0, 0⟩)
abbrev s_is_integer : Stmt := top 9
abbrev F_is_integer (K : PySem.W.Frag) (fd : FuncData) : Prop := FunD K "is_integer" "is_integer" (defArgs s_is_integer) (defBody s_is_integer) (defScope s_is_integer) [] [] (He.fAd K ("is_integer", none)) fd
def d_is_integer : He.DefD := ⟨("is_integer", none), "is_integer", "is_integer", defArgs s_is_integer, defBody s_is_integer, defScope s_is_integer, [], []⟩
abbrev s_is_between : Stmt := top 10
abbrev F_is_between (K : PySem.W.Frag) (fd : FuncData) : Prop := FunD K "is_between" "is_between" (defArgs s_is_between) (defBody s_is_between) (defScope s_is_between) [] [] (He.fAd K ("is_between", none)) fd
def d_is_between : He.DefD := ⟨("is_between", none), "is_between", "is_between", defArgs s_is_between, defBody s_is_between, defScope s_is_between, [], []⟩
abbrev s_are_entries : Stmt := top 16
abbrev F_are_entries (K : PySem.W.Frag) (fd : FuncData) : Prop := FunD K "are_entries" "are_entries" (defArgs s_are_entries) (defBody s_are_entries) (defScope s_are_entries) [] [] (He.fAd K ("are_entries", none)) fd
def d_are_entries : He.DefD := ⟨("are_entries", none), "are_entries", "are_entries", defArgs s_are_entries, defBody s_are_entries, defScope s_are_entries, [], []⟩
abbrev s_is_factor : Stmt := top 17
abbrev F_is_factor (K : PySem.W.Frag) (fd : FuncData) : Prop := FunD K "is_factor" "is_factor" (defArgs s_is_factor) (defBody s_is_factor) (defScope s_is_factor) [] [] (He.fAd K ("is_factor", none)) fd
def d_is_factor : He.DefD := ⟨("is_factor", none), "is_factor", "is_factor", defArgs s_is_factor, defBody s_is_factor, defScope s_is_factor, [], []⟩
abbrev s_is_policy : Stmt := top 18
abbrev F_is_policy (K : PySem.W.Frag) (fd : FuncData) : Prop := FunD K "is_policy" "is_policy" (defArgs s_is_policy) (defBody s_is_policy) (defScope s_is_policy) [] [] (He.fAd K ("is_policy", none)) fd
def d_is_policy : He.DefD := ⟨("is_policy", none), "is_policy", "is_policy", defArgs s_is_policy, defBody s_is_policy, defScope s_is_policy, [], []⟩
abbrev s_policy_text : Stmt := top 20
abbrev F_policy_text (K : PySem.W.Frag) (fd : FuncData) : Prop := FunD K "policy_text" "policy_text" (defArgs s_policy_text) (defBody s_policy_text) (defScope s_policy_text) [] [] (He.fAd K ("policy_text", none)) fd
def d_policy_text : He.DefD := ⟨("policy_text", none), "policy_text", "policy_text", defArgs s_policy_text, defBody s_policy_text, defScope s_policy_text, [], []⟩
abbrev s_number_in : Stmt := top 24
abbrev F_number_in (K : PySem.W.Frag) (fd : FuncData) : Prop := FunD K "number_in" "number_in" (defArgs s_number_in) (defBody s_number_in) (defScope s_number_in) [] [] (He.fAd K ("number_in", none)) fd
def d_number_in : He.DefD := ⟨("number_in", none), "number_in", "number_in", defArgs s_number_in, defBody s_number_in, defScope s_number_in, [], []⟩
abbrev s_numbers_in : Stmt := top 25
abbrev F_numbers_in (K : PySem.W.Frag) (fd : FuncData) : Prop := FunD K "numbers_in" "numbers_in" (defArgs s_numbers_in) (defBody s_numbers_in) (defScope s_numbers_in) [] [] (He.fAd K ("numbers_in", none)) fd
def d_numbers_in : He.DefD := ⟨("numbers_in", none), "numbers_in", "numbers_in", defArgs s_numbers_in, defBody s_numbers_in, defScope s_numbers_in, [], []⟩
abbrev s_entries_in : Stmt := top 26
abbrev F_entries_in (K : PySem.W.Frag) (fd : FuncData) : Prop := FunD K "entries_in" "entries_in" (defArgs s_entries_in) (defBody s_entries_in) (defScope s_entries_in) [] [] (He.fAd K ("entries_in", none)) fd
def d_entries_in : He.DefD := ⟨("entries_in", none), "entries_in", "entries_in", defArgs s_entries_in, defBody s_entries_in, defScope s_entries_in, [], []⟩
abbrev s_policy_in : Stmt := top 27
abbrev F_policy_in (K : PySem.W.Frag) (fd : FuncData) : Prop := FunD K "policy_in" "policy_in" (defArgs s_policy_in) (defBody s_policy_in) (defScope s_policy_in) [] [] (He.fAd K ("policy_in", none)) fd
def d_policy_in : He.DefD := ⟨("policy_in", none), "policy_in", "policy_in", defArgs s_policy_in, defBody s_policy_in, defScope s_policy_in, [], []⟩
abbrev s_read_policy : Stmt := top 28
abbrev F_read_policy (K : PySem.W.Frag) (fd : FuncData) : Prop := FunD K "read_policy" "read_policy" (defArgs s_read_policy) (defBody s_read_policy) (defScope s_read_policy) [] [] (He.fAd K ("read_policy", none)) fd
def d_read_policy : He.DefD := ⟨("read_policy", none), "read_policy", "read_policy", defArgs s_read_policy, defBody s_read_policy, defScope s_read_policy, [], []⟩
abbrev s__law_pen : Stmt := top 30
abbrev F__law_pen (K : PySem.W.Frag) (fd : FuncData) : Prop := FunD K "_law_pen" "_law_pen" (defArgs s__law_pen) (defBody s__law_pen) (defScope s__law_pen) [] [] (He.fAd K ("_law_pen", none)) fd
def d__law_pen : He.DefD := ⟨("_law_pen", none), "_law_pen", "_law_pen", defArgs s__law_pen, defBody s__law_pen, defScope s__law_pen, [], []⟩
abbrev s__law_draw : Stmt := top 31
abbrev F__law_draw (K : PySem.W.Frag) (fd : FuncData) : Prop := FunD K "_law_draw" "_law_draw" (defArgs s__law_draw) (defBody s__law_draw) (defScope s__law_draw) [] [] (He.fAd K ("_law_draw", none)) fd
def d__law_draw : He.DefD := ⟨("_law_draw", none), "_law_draw", "_law_draw", defArgs s__law_draw, defBody s__law_draw, defScope s__law_draw, [], []⟩
abbrev s__law_policy : Stmt := top 32
abbrev F__law_policy (K : PySem.W.Frag) (fd : FuncData) : Prop := FunD K "_law_policy" "_law_policy" (defArgs s__law_policy) (defBody s__law_policy) (defScope s__law_policy) [] [] (He.fAd K ("_law_policy", none)) fd
def d__law_policy : He.DefD := ⟨("_law_policy", none), "_law_policy", "_law_policy", defArgs s__law_policy, defBody s__law_policy, defScope s__law_policy, [], []⟩
abbrev s__law_heard : Stmt := top 33
abbrev F__law_heard (K : PySem.W.Frag) (fd : FuncData) : Prop := FunD K "_law_heard" "_law_heard" (defArgs s__law_heard) (defBody s__law_heard) (defScope s__law_heard) [] [] (He.fAd K ("_law_heard", none)) fd
def d__law_heard : He.DefD := ⟨("_law_heard", none), "_law_heard", "_law_heard", defArgs s__law_heard, defBody s__law_heard, defScope s__law_heard, [], []⟩
abbrev s__law_words : Stmt := top 34
abbrev F__law_words (K : PySem.W.Frag) (fd : FuncData) : Prop := FunD K "_law_words" "_law_words" (defArgs s__law_words) (defBody s__law_words) (defScope s__law_words) [] [] (He.fAd K ("_law_words", none)) fd
def d__law_words : He.DefD := ⟨("_law_words", none), "_law_words", "_law_words", defArgs s__law_words, defBody s__law_words, defScope s__law_words, [], []⟩
abbrev s__law_number : Stmt := top 35
abbrev F__law_number (K : PySem.W.Frag) (fd : FuncData) : Prop := FunD K "_law_number" "_law_number" (defArgs s__law_number) (defBody s__law_number) (defScope s__law_number) [] [] (He.fAd K ("_law_number", none)) fd
def d__law_number : He.DefD := ⟨("_law_number", none), "_law_number", "_law_number", defArgs s__law_number, defBody s__law_number, defScope s__law_number, [], []⟩
abbrev s__law_pair : Stmt := top 36
abbrev F__law_pair (K : PySem.W.Frag) (fd : FuncData) : Prop := FunD K "_law_pair" "_law_pair" (defArgs s__law_pair) (defBody s__law_pair) (defScope s__law_pair) [] [] (He.fAd K ("_law_pair", none)) fd
def d__law_pair : He.DefD := ⟨("_law_pair", none), "_law_pair", "_law_pair", defArgs s__law_pair, defBody s__law_pair, defScope s__law_pair, [], []⟩
abbrev s__law_due : Stmt := top 37
abbrev F__law_due (K : PySem.W.Frag) (fd : FuncData) : Prop := FunD K "_law_due" "_law_due" (defArgs s__law_due) (defBody s__law_due) (defScope s__law_due) [] [] (He.fAd K ("_law_due", none)) fd
def d__law_due : He.DefD := ⟨("_law_due", none), "_law_due", "_law_due", defArgs s__law_due, defBody s__law_due, defScope s__law_due, [], []⟩
abbrev s__law_bent : Stmt := top 38
abbrev F__law_bent (K : PySem.W.Frag) (fd : FuncData) : Prop := FunD K "_law_bent" "_law_bent" (defArgs s__law_bent) (defBody s__law_bent) (defScope s__law_bent) [] [] (He.fAd K ("_law_bent", none)) fd
def d__law_bent : He.DefD := ⟨("_law_bent", none), "_law_bent", "_law_bent", defArgs s__law_bent, defBody s__law_bent, defScope s__law_bent, [], []⟩
abbrev s__law_is_right : Stmt := top 39
abbrev F__law_is_right (K : PySem.W.Frag) (fd : FuncData) : Prop := FunD K "_law_is_right" "_law_is_right" (defArgs s__law_is_right) (defBody s__law_is_right) (defScope s__law_is_right) [] [] (He.fAd K ("_law_is_right", none)) fd
def d__law_is_right : He.DefD := ⟨("_law_is_right", none), "_law_is_right", "_law_is_right", defArgs s__law_is_right, defBody s__law_is_right, defScope s__law_is_right, [], []⟩
abbrev s_law : Stmt := top 40
abbrev F_law (K : PySem.W.Frag) (fd : FuncData) : Prop := FunD K "law" "law" (defArgs s_law) (defBody s_law) (defScope s_law) [] [] (He.fAd K ("law", none)) fd
def d_law : He.DefD := ⟨("law", none), "law", "law", defArgs s_law, defBody s_law, defScope s_law, [], []⟩
abbrev si_InvalidText : Stmt := clsInit (top 6)
def di_InvalidText : He.DefD := ⟨("InvalidText", some "__init__"), "__init__", "InvalidText.__init__", defArgs si_InvalidText, defBody si_InvalidText, defScope si_InvalidText, [], []⟩
def fn : List He.DefD := [d_is_integer, d_is_between, d_are_entries, d_is_factor, d_is_policy, d_policy_text, d_number_in, d_numbers_in, d_entries_in, d_policy_in, d_read_policy, d__law_pen, d__law_draw, d__law_policy, d__law_heard, d__law_words, d__law_number, d__law_pair, d__law_due, d__law_bent, d__law_is_right, d_law, di_InvalidText]
def fa : List He.Fa := [.glo "is_integer", .glo "is_between", .glo "are_entries", .glo "is_factor", .glo "is_policy", .glo "policy_text", .glo "number_in", .glo "numbers_in", .glo "entries_in", .glo "policy_in", .glo "read_policy", .glo "_law_pen", .glo "_law_draw", .glo "_law_policy", .glo "_law_heard", .glo "_law_words", .glo "_law_number", .glo "_law_pair", .glo "_law_due", .glo "_law_bent", .glo "_law_is_right", .glo "law", .int "MOST_STATEMENTS" 60, .int "MOST_CELLS" 1000000000000000000000000000000, .int "CAPACITY_LIMIT" 10000000000000000000000000000000000000000, .int "MOST_PART" 100, .str "DIGITS" "0123456789", .int "MOST_DIGITS" 40, .free "ValueError", .free "abs", .free "all", .free "bool", .free "int", .free "isinstance", .free "len", .free "list", .free "min", .free "range", .free "repr", .free "set", .free "sorted", .free "str", .free "tuple", .glo "GrowError", .glo "InvalidProgram", .glo "InvalidPolicy", .glo "InvalidDemand", .glo "InvalidChoice", .glo "InvalidText", .glo "InvalidOrder", .exc "GrowError", .exc "InvalidPolicy", .exc "InvalidOrder", .noat "InvalidProgram" "index", .noat "InvalidDemand" "index", .noat "InvalidChoice" "statement", .noat "InvalidText" "line"]
abbrev R_ : PySem.W.OpenRow := PySem.W.OpenLaw.row PySem.Challenge.rw_growblind_k68_texts_of_no_policy
def exT : XT := [("GrowError", [.blt "ValueError", .blt "Exception", .blt "BaseException"]), ("InvalidProgram", [.own "GrowError", .blt "ValueError", .blt "Exception", .blt "BaseException"]), ("InvalidPolicy", [.own "GrowError", .blt "ValueError", .blt "Exception", .blt "BaseException"]), ("InvalidDemand", [.own "GrowError", .blt "ValueError", .blt "Exception", .blt "BaseException"]), ("InvalidChoice", [.own "GrowError", .blt "ValueError", .blt "Exception", .blt "BaseException"]), ("InvalidText", [.own "GrowError", .blt "ValueError", .blt "Exception", .blt "BaseException"]), ("InvalidOrder", [.own "GrowError", .blt "ValueError", .blt "Exception", .blt "BaseException"])]
def exB : List String := ["ValueError"]
def inis : List IniC := [⟨"InvalidText", "line", basVE⟩]
def mks : List Str := ["_law_is_right"]
def tabs : List (Str × Tb) := []
def zo : ZO := ⟨fa, fn, exT, exB, tabs, inis, mks⟩
abbrev hk : PySem.W.Hook := hookZ zo 5
def ob (s : PySem.W.SharedT) : AlZ := obsZ zo 5 (HandSHeadRun.getT s)
theorem ob_eq (s : PySem.W.SharedT) : ob s = hk.obs s.abs := obsZ_eq (HandSHeadRun.getT_eq s)
def loose0 : List PySem.Str := ["GrowError", "InvalidProgram", "InvalidPolicy", "InvalidDemand", "InvalidChoice", "InvalidText", "InvalidOrder", "is_integer", "is_between", "MOST_STATEMENTS", "MOST_CELLS", "CAPACITY_LIMIT", "MOST_PART", "are_entries", "is_factor", "is_policy", "policy_text", "DIGITS", "MOST_DIGITS", "number_in", "numbers_in", "entries_in", "policy_in", "read_policy", "_law_pen", "_law_draw", "_law_policy", "_law_heard", "_law_words", "_law_number"]
def loose1 : List PySem.Str := ["_law_pair", "_law_due", "_law_bent", "_law_is_right"]
abbrev loose_ : List PySem.Str := loose0 ++ loose1
theorem run (w : World) : HandSHeadRun.RunEq R_ (PySem.W.view R_.prog [40]) hk ob 4000 loose_ w := by
  intro os
  kernel_rfl
/-- what the head tells -/
structure Txt (K : PySem.W.Frag) (w : World) (mg : Str → Option Value) : Prop where
  g_is_integer : mg "is_integer" = some (.ref (He.fAd K ("is_integer", none)))
  g_is_between : mg "is_between" = some (.ref (He.fAd K ("is_between", none)))
  g_are_entries : mg "are_entries" = some (.ref (He.fAd K ("are_entries", none)))
  g_is_factor : mg "is_factor" = some (.ref (He.fAd K ("is_factor", none)))
  g_is_policy : mg "is_policy" = some (.ref (He.fAd K ("is_policy", none)))
  g_policy_text : mg "policy_text" = some (.ref (He.fAd K ("policy_text", none)))
  g_number_in : mg "number_in" = some (.ref (He.fAd K ("number_in", none)))
  g_numbers_in : mg "numbers_in" = some (.ref (He.fAd K ("numbers_in", none)))
  g_entries_in : mg "entries_in" = some (.ref (He.fAd K ("entries_in", none)))
  g_policy_in : mg "policy_in" = some (.ref (He.fAd K ("policy_in", none)))
  g_read_policy : mg "read_policy" = some (.ref (He.fAd K ("read_policy", none)))
  g__law_pen : mg "_law_pen" = some (.ref (He.fAd K ("_law_pen", none)))
  g__law_draw : mg "_law_draw" = some (.ref (He.fAd K ("_law_draw", none)))
  g__law_policy : mg "_law_policy" = some (.ref (He.fAd K ("_law_policy", none)))
  g__law_heard : mg "_law_heard" = some (.ref (He.fAd K ("_law_heard", none)))
  g__law_words : mg "_law_words" = some (.ref (He.fAd K ("_law_words", none)))
  g__law_number : mg "_law_number" = some (.ref (He.fAd K ("_law_number", none)))
  g__law_pair : mg "_law_pair" = some (.ref (He.fAd K ("_law_pair", none)))
  g__law_due : mg "_law_due" = some (.ref (He.fAd K ("_law_due", none)))
  g__law_bent : mg "_law_bent" = some (.ref (He.fAd K ("_law_bent", none)))
  g__law_is_right : mg "_law_is_right" = some (.ref (He.fAd K ("_law_is_right", none)))
  g_law : mg "law" = some (.ref (He.fAd K ("law", none)))
  i_MOST_STATEMENTS : ∃ t, mg "MOST_STATEMENTS" = some (.int 60 t)
  i_MOST_CELLS : ∃ t, mg "MOST_CELLS" = some (.int 1000000000000000000000000000000 t)
  i_CAPACITY_LIMIT : ∃ t, mg "CAPACITY_LIMIT" = some (.int 10000000000000000000000000000000000000000 t)
  i_MOST_PART : ∃ t, mg "MOST_PART" = some (.int 100 t)
  i_DIGITS : ∃ t, mg "DIGITS" = some (.str "0123456789" t)
  i_MOST_DIGITS : ∃ t, mg "MOST_DIGITS" = some (.int 40 t)
  n_ValueError : mg "ValueError" = none
  n_abs : mg "abs" = none
  n_all : mg "all" = none
  n_bool : mg "bool" = none
  n_int : mg "int" = none
  n_isinstance : mg "isinstance" = none
  n_len : mg "len" = none
  n_list : mg "list" = none
  n_min : mg "min" = none
  n_range : mg "range" = none
  n_repr : mg "repr" = none
  n_set : mg "set" = none
  n_sorted : mg "sorted" = none
  n_str : mg "str" = none
  n_tuple : mg "tuple" = none
  g_GrowError : mg "GrowError" = some (.ref (He.fAd K ("GrowError", none)))
  g_InvalidProgram : mg "InvalidProgram" = some (.ref (He.fAd K ("InvalidProgram", none)))
  g_InvalidPolicy : mg "InvalidPolicy" = some (.ref (He.fAd K ("InvalidPolicy", none)))
  g_InvalidDemand : mg "InvalidDemand" = some (.ref (He.fAd K ("InvalidDemand", none)))
  g_InvalidChoice : mg "InvalidChoice" = some (.ref (He.fAd K ("InvalidChoice", none)))
  g_InvalidText : mg "InvalidText" = some (.ref (He.fAd K ("InvalidText", none)))
  g_InvalidOrder : mg "InvalidOrder" = some (.ref (He.fAd K ("InvalidOrder", none)))
  e_GrowError : (He.Fa.exc "GrowError").ok K = true
  e_InvalidPolicy : (He.Fa.exc "InvalidPolicy").ok K = true
  e_InvalidOrder : (He.Fa.exc "InvalidOrder").ok K = true
  no_InvalidProgram : PySem.W.findIn K (.ref (He.ga K "InvalidProgram")) "index" = some none
  no_InvalidDemand : PySem.W.findIn K (.ref (He.ga K "InvalidDemand")) "index" = some none
  no_InvalidChoice : PySem.W.findIn K (.ref (He.ga K "InvalidChoice")) "statement" = some none
  no_InvalidText : PySem.W.findIn K (.ref (He.ga K "InvalidText")) "line" = some none
  F_is_integer : ∃ fd, F_is_integer K fd
  F_is_between : ∃ fd, F_is_between K fd
  F_are_entries : ∃ fd, F_are_entries K fd
  F_is_factor : ∃ fd, F_is_factor K fd
  F_is_policy : ∃ fd, F_is_policy K fd
  F_policy_text : ∃ fd, F_policy_text K fd
  F_number_in : ∃ fd, F_number_in K fd
  F_numbers_in : ∃ fd, F_numbers_in K fd
  F_entries_in : ∃ fd, F_entries_in K fd
  F_policy_in : ∃ fd, F_policy_in K fd
  F_read_policy : ∃ fd, F_read_policy K fd
  F__law_pen : ∃ fd, F__law_pen K fd
  F__law_draw : ∃ fd, F__law_draw K fd
  F__law_policy : ∃ fd, F__law_policy K fd
  F__law_heard : ∃ fd, F__law_heard K fd
  F__law_words : ∃ fd, F__law_words K fd
  F__law_number : ∃ fd, F__law_number K fd
  F__law_pair : ∃ fd, F__law_pair K fd
  F__law_due : ∃ fd, F__law_due K fd
  F__law_bent : ∃ fd, F__law_bent K fd
  F__law_is_right : ∃ fd, F__law_is_right K fd
  F_law : ∃ fd, F_law K fd
  ini_InvalidText : IniOk K ⟨"InvalidText", "line", basVE⟩
  F_init_InvalidText : ∃ fd, FunD K "__init__" "InvalidText.__init__" (defArgs si_InvalidText) (defBody si_InvalidText) (defScope si_InvalidText) [] [] (fIni K "InvalidText") fd
  sys : ∃ o, K.lookup sysModules = some o
  xf : XF K exT exB
theorem txt_of {K : PySem.W.Frag} {w : World} {h : Heap} {mg : Str → Option Value} (X : K.In h) (G : h.Ns mainGlobals mg) (c : SaysZ zo w h K) : Txt K w mg :=
  ⟨He.glo_ok X G (c.y.d.fact 0 (f := .glo "is_integer") rfl),
   He.glo_ok X G (c.y.d.fact 1 (f := .glo "is_between") rfl),
   He.glo_ok X G (c.y.d.fact 2 (f := .glo "are_entries") rfl),
   He.glo_ok X G (c.y.d.fact 3 (f := .glo "is_factor") rfl),
   He.glo_ok X G (c.y.d.fact 4 (f := .glo "is_policy") rfl),
   He.glo_ok X G (c.y.d.fact 5 (f := .glo "policy_text") rfl),
   He.glo_ok X G (c.y.d.fact 6 (f := .glo "number_in") rfl),
   He.glo_ok X G (c.y.d.fact 7 (f := .glo "numbers_in") rfl),
   He.glo_ok X G (c.y.d.fact 8 (f := .glo "entries_in") rfl),
   He.glo_ok X G (c.y.d.fact 9 (f := .glo "policy_in") rfl),
   He.glo_ok X G (c.y.d.fact 10 (f := .glo "read_policy") rfl),
   He.glo_ok X G (c.y.d.fact 11 (f := .glo "_law_pen") rfl),
   He.glo_ok X G (c.y.d.fact 12 (f := .glo "_law_draw") rfl),
   He.glo_ok X G (c.y.d.fact 13 (f := .glo "_law_policy") rfl),
   He.glo_ok X G (c.y.d.fact 14 (f := .glo "_law_heard") rfl),
   He.glo_ok X G (c.y.d.fact 15 (f := .glo "_law_words") rfl),
   He.glo_ok X G (c.y.d.fact 16 (f := .glo "_law_number") rfl),
   He.glo_ok X G (c.y.d.fact 17 (f := .glo "_law_pair") rfl),
   He.glo_ok X G (c.y.d.fact 18 (f := .glo "_law_due") rfl),
   He.glo_ok X G (c.y.d.fact 19 (f := .glo "_law_bent") rfl),
   He.glo_ok X G (c.y.d.fact 20 (f := .glo "_law_is_right") rfl),
   He.glo_ok X G (c.y.d.fact 21 (f := .glo "law") rfl),
   He.int_ok X G (c.y.d.fact 22 (f := .int "MOST_STATEMENTS" 60) rfl),
   He.int_ok X G (c.y.d.fact 23 (f := .int "MOST_CELLS" 1000000000000000000000000000000) rfl),
   He.int_ok X G (c.y.d.fact 24 (f := .int "CAPACITY_LIMIT" 10000000000000000000000000000000000000000) rfl),
   He.int_ok X G (c.y.d.fact 25 (f := .int "MOST_PART" 100) rfl),
   He.str_ok X G (c.y.d.fact 26 (f := .str "DIGITS" "0123456789") rfl),
   He.int_ok X G (c.y.d.fact 27 (f := .int "MOST_DIGITS" 40) rfl),
   He.free_ok X G (c.y.d.fact 28 (f := .free "ValueError") rfl),
   He.free_ok X G (c.y.d.fact 29 (f := .free "abs") rfl),
   He.free_ok X G (c.y.d.fact 30 (f := .free "all") rfl),
   He.free_ok X G (c.y.d.fact 31 (f := .free "bool") rfl),
   He.free_ok X G (c.y.d.fact 32 (f := .free "int") rfl),
   He.free_ok X G (c.y.d.fact 33 (f := .free "isinstance") rfl),
   He.free_ok X G (c.y.d.fact 34 (f := .free "len") rfl),
   He.free_ok X G (c.y.d.fact 35 (f := .free "list") rfl),
   He.free_ok X G (c.y.d.fact 36 (f := .free "min") rfl),
   He.free_ok X G (c.y.d.fact 37 (f := .free "range") rfl),
   He.free_ok X G (c.y.d.fact 38 (f := .free "repr") rfl),
   He.free_ok X G (c.y.d.fact 39 (f := .free "set") rfl),
   He.free_ok X G (c.y.d.fact 40 (f := .free "sorted") rfl),
   He.free_ok X G (c.y.d.fact 41 (f := .free "str") rfl),
   He.free_ok X G (c.y.d.fact 42 (f := .free "tuple") rfl),
   He.glo_ok X G (c.y.d.fact 43 (f := .glo "GrowError") rfl),
   He.glo_ok X G (c.y.d.fact 44 (f := .glo "InvalidProgram") rfl),
   He.glo_ok X G (c.y.d.fact 45 (f := .glo "InvalidPolicy") rfl),
   He.glo_ok X G (c.y.d.fact 46 (f := .glo "InvalidDemand") rfl),
   He.glo_ok X G (c.y.d.fact 47 (f := .glo "InvalidChoice") rfl),
   He.glo_ok X G (c.y.d.fact 48 (f := .glo "InvalidText") rfl),
   He.glo_ok X G (c.y.d.fact 49 (f := .glo "InvalidOrder") rfl),
   c.y.d.fact 50 (f := .exc "GrowError") rfl,
   c.y.d.fact 51 (f := .exc "InvalidPolicy") rfl,
   c.y.d.fact 52 (f := .exc "InvalidOrder") rfl,
   He.eqO_ok (c.y.d.fact 53 (f := .noat "InvalidProgram" "index") rfl),
   He.eqO_ok (c.y.d.fact 54 (f := .noat "InvalidDemand" "index") rfl),
   He.eqO_ok (c.y.d.fact 55 (f := .noat "InvalidChoice" "statement") rfl),
   He.eqO_ok (c.y.d.fact 56 (f := .noat "InvalidText" "line") rfl),
   c.y.d.def_ 0 (d := d_is_integer) rfl,
   c.y.d.def_ 1 (d := d_is_between) rfl,
   c.y.d.def_ 2 (d := d_are_entries) rfl,
   c.y.d.def_ 3 (d := d_is_factor) rfl,
   c.y.d.def_ 4 (d := d_is_policy) rfl,
   c.y.d.def_ 5 (d := d_policy_text) rfl,
   c.y.d.def_ 6 (d := d_number_in) rfl,
   c.y.d.def_ 7 (d := d_numbers_in) rfl,
   c.y.d.def_ 8 (d := d_entries_in) rfl,
   c.y.d.def_ 9 (d := d_policy_in) rfl,
   c.y.d.def_ 10 (d := d_read_policy) rfl,
   c.y.d.def_ 11 (d := d__law_pen) rfl,
   c.y.d.def_ 12 (d := d__law_draw) rfl,
   c.y.d.def_ 13 (d := d__law_policy) rfl,
   c.y.d.def_ 14 (d := d__law_heard) rfl,
   c.y.d.def_ 15 (d := d__law_words) rfl,
   c.y.d.def_ 16 (d := d__law_number) rfl,
   c.y.d.def_ 17 (d := d__law_pair) rfl,
   c.y.d.def_ 18 (d := d__law_due) rfl,
   c.y.d.def_ 19 (d := d__law_bent) rfl,
   c.y.d.def_ 20 (d := d__law_is_right) rfl,
   c.y.d.def_ 21 (d := d_law) rfl,
   c.ini _ (List.mem_of_getElem? (i := 0) rfl),
   c.y.d.def_ 22 (d := di_InvalidText) rfl,
   c.sys,
   c.y.x⟩
end Lw

set_option Elab.async false
set_option linter.all false
set_option maxRecDepth 100000
set_option maxHeartbeats 0
namespace Lw
open PySem PySem.Spec L2 U
open PyProof.Rows hiding St
/-! ### what a policy is, in plain Lean -/
def btw (d : D) (lo hi : Int) : Bool := match d with
  | .int i => decide (lo ≤ i) && decide (i ≤ hi)
  | _ => false
def entL : Int → List D → Bool
  | _, [] => true
  | lo, .tup [.int a, b] :: r => btw (.int a) lo 59 && btw b 0 9999999999999999999999999999999999999999 && entL (a + 1) r
  | _, _ :: _ => false
def entD : D → Bool
  | .tup ds => decide (ds.length ≤ 60) && entL 0 ds
  | _ => false
def facD : D → D → Bool
  | .int t, .int b => btw (.int t) 1 100 && btw (.int b) 1 100 && decide (5 * b ≤ 4 * t)
  | _, _ => false
def polL : Str → List D → Bool
  | s, [] => s == "exact" || s == "endless"
  | s, [x] => (s == "table" && entD x) || (s == "step" && btw x 0 1000000000000000000000000000000)
  | s, [x, y] => s == "factor" && facD x y
  | _, _ => false
def polD : D → Bool
  | .tup (.str s :: r) => polL s r
  | _ => false
/-! ### specs -/
def sp_is_integer : USp := fun ds pen n Q _ => match ds with
  | [x] => x.tyn.isSome = true ∧ Q (.bl (match x with | .int _ => true | _ => false)) n
  | _ => False
def sp_is_between : USp := fun ds pen n Q _ => match ds with
  | [x, .int lo, .int hi] => x.tyn.isSome = true ∧ Q (.bl (btw x lo hi)) n
  | _ => False
def sp_are_entries : USp := fun ds pen n Q _ => match ds with
  | [x] => (∃ k, D.fit k x = true) ∧ Q (.bl (entD x)) n
  | _ => False
def sp_is_factor : USp := fun ds pen n Q _ => match ds with
  | [x, y] => (x.tyn.isSome = true ∧ y.tyn.isSome = true) ∧ Q (.bl (facD x y)) n
  | _ => False
def sp_is_policy : USp := fun ds pen n Q _ => match ds with
  | [x] => (∃ k, D.fit k x = true) ∧ Q (.bl (polD x)) n
  | _ => False
/-! ### policies of all forms -/
def enD (e : Int × Int) : D := .tup [.int e.1, .int e.2]
inductive Py where | exact | endless | step (s : Int) | factor (t b : Int) | table (es : List (Int × Int))
def Py.d : Py → D
  | .exact => .tup [.str "exact"]
  | .endless => .tup [.str "endless"]
  | .step s => .tup [.str "step", .int s]
  | .factor t b => .tup [.str "factor", .int t, .int b]
  | .table es => .tup [.str "table", .tup (es.map enD)]
/-- entries in order, from lo on -/
def asc : Int → List (Int × Int) → Prop
  | _, [] => True
  | lo, e :: r => lo ≤ e.1 ∧ e.1 ≤ 59 ∧ 0 ≤ e.2 ∧ e.2 ≤ 9999999999999999999999999999999999999999 ∧ asc (e.1 + 1) r
def Py.ok : Py → Prop
  | .step s => 0 ≤ s ∧ s ≤ 1000000000000000000000000000000
  | .factor t b => 1 ≤ t ∧ t ≤ 100 ∧ 1 ≤ b ∧ b ≤ 100 ∧ 5 * b ≤ 4 * t
  | .table es => es.length ≤ 60 ∧ asc 0 es
  | _ => True
theorem asc_entL : ∀ {es : List (Int × Int)} {lo : Int}, asc lo es → entL lo (es.map enD) = true
  | [], _, _ => rfl
  | e :: r, lo, h => by
    obtain ⟨h1, h2, h3, h4, h5⟩ := h
    have := asc_entL h5
    simp [enD, entL, btw, h1, h2, h3, h4, this]
theorem asc_mem : ∀ {es : List (Int × Int)} {lo : Int}, asc lo es → 0 ≤ lo → ∀ e ∈ es, 0 ≤ e.1 ∧ e.1 ≤ 59 ∧ 0 ≤ e.2 ∧ e.2 ≤ 9999999999999999999999999999999999999999
  | [], _, _, _, _, he => by cases he
  | e :: r, lo, h, h0, x, hx => by
    obtain ⟨h1, h2, h3, h4, h5⟩ := h
    rcases List.mem_cons.mp hx with rfl | hx
    · exact ⟨by omega, h2, h3, h4⟩
    · exact asc_mem h5 (by omega) x hx
theorem fits_all {k : Nat} : ∀ {ds : List D}, (∀ d ∈ ds, D.fit k d = true) → D.fits k ds = true
  | [], _ => rfl
  | d :: ds, h => by
    simp only [D.fits, Bool.and_eq_true]
    exact ⟨h d List.mem_cons_self, fits_all fun e he => h e (List.mem_cons_of_mem _ he)⟩
theorem fit_py {P : Py} (h : P.ok) : D.fit 3 P.d = true := by
  cases P with
  | exact => decide +kernel
  | endless => decide +kernel
  | step s =>
    obtain ⟨h1, h2⟩ := h
    have e : s.natAbs < 10 ^ 60 := by omega
    have w : PyData.strOk ("step" : Str) = true := by decide +kernel
    simp only [Py.d, D.fit, D.fits, decide_eq_true e, w, Bool.and_self]
  | factor t b =>
    obtain ⟨h1, h2, h3, h4, _⟩ := h
    have e : t.natAbs < 10 ^ 60 := by omega
    have e2 : b.natAbs < 10 ^ 60 := by omega
    have w : PyData.strOk ("factor" : Str) = true := by decide +kernel
    simp only [Py.d, D.fit, D.fits, decide_eq_true e, decide_eq_true e2, w, Bool.and_self]
  | table es =>
    have w : PyData.strOk ("table" : Str) = true := by decide +kernel
    have m : D.fits 1 (es.map enD) = true := fits_all fun d hd => by
      obtain ⟨e, he, rfl⟩ := List.mem_map.mp hd
      obtain ⟨h1, h2, h3, h4⟩ := asc_mem h.2 (Int.le_refl _) e he
      have e1 : e.1.natAbs < 10 ^ 60 := by omega
      have e2 : e.2.natAbs < 10 ^ 60 := by omega
      simp only [enD, D.fit, D.fits, decide_eq_true e1, decide_eq_true e2, Bool.and_self]
    simp only [Py.d, D.fit, D.fits, w, m, Bool.and_self]
theorem pol_py {P : Py} (h : P.ok) : polD P.d = true := by
  cases P with
  | exact => rfl
  | endless => rfl
  | step s =>
    have e : btw (.int s) 0 1000000000000000000000000000000 = true := by simp [btw, h.1, h.2]
    show ((("step" : Str) == "table") && entD (.int s) || (("step" : Str) == "step") && btw (.int s) 0 1000000000000000000000000000000) = true
    rw [e]
    rfl
  | factor t b =>
    obtain ⟨h1, h2, h3, h4, h5⟩ := h
    show ((("factor" : Str) == "factor") && facD (.int t) (.int b)) = true
    simp [facD, btw, h1, h2, h3, h4, h5]
  | table es =>
    have e : entD (.tup (es.map enD)) = true := by simp [entD, h.1, asc_entL h.2]
    show ((("table" : Str) == "table") && entD (.tup (es.map enD)) || (("table" : Str) == "step") && btw (.tup (es.map enD)) 0 1000000000000000000000000000000) = true
    rw [e]
    rfl
/-! ### texts -/
def nS (i : Int) : Str := toString i
theorem sapp_assoc (a b c : Str) : a ++ b ++ c = a ++ (b ++ c) := by
  obtain ⟨a⟩ := a
  obtain ⟨b⟩ := b
  obtain ⟨c⟩ := c
  show Str.mk (a ++ b ++ c) = Str.mk (a ++ (b ++ c))
  rw [Array.append_assoc]
theorem empty_app (a : Str) : Str.empty ++ a = a := by
  obtain ⟨a⟩ := a
  show Str.mk (#[] ++ a) = Str.mk a
  rw [Array.empty_append]
theorem nS_len {i : Int} (h : i.natAbs < 10 ^ 60) : (nS i).length ≤ 61 := by
  have := int_text_length_le10 (k := 60) (by decide) h
  show (Str.ofString (toString i)).length ≤ 61
  rw [PySem.ofString_length]
  exact this
theorem str_pos {i : Int} : 0 < (toString i).length := by
  cases i with
  | ofNat m =>
    show 0 < (Nat.repr m).length
    have := String.length_toList (s := Nat.repr m)
    rw [← String.length_toList, Nat.toList_repr]
    exact Nat.length_toDigits_pos
  | negSucc m =>
    show 0 < ("-" ++ Nat.repr (m + 1)).length
    rw [String.length_append]
    have : "-".length = 1 := rfl
    omega
theorem nS_pos (i : Int) : 0 < (nS i).length := by
  show 0 < (Str.ofString (toString i)).length
  rw [PySem.ofString_length]
  exact str_pos
theorem strOk_of (s : String) : PyData.strOk (Str.ofString s) = true := by
  rw [Str.ofString_eq_toList]
  show Array.all _ _ = true
  rw [List.all_toArray, List.all_map, List.all_eq_true]
  intro c _
  have := c.valid
  refine decide_eq_true ?_
  show c.val.toNat < 0x110000
  rcases this with h | h
  · have : c.val.toNat < 0xd800 := h
    omega
  · exact h.2
theorem strOk_app {a b : Str} (ha : PyData.strOk a = true) (hb : PyData.strOk b = true) : PyData.strOk (a ++ b) = true := by
  cases a; cases b
  show Array.all _ _ = true
  simp only [PyData.strOk] at ha hb
  show Array.all (_ ++ _) _ = true
  rw [Array.all_append, ha, hb]; rfl
def Tx (k : Nat) (s : Str) : Prop := PyData.strOk s = true ∧ s.length ≤ k
theorem tx_lit {s : String} (k : Nat) (h : s.length ≤ k) : Tx k s := ⟨strOk_of s, by rw [PySem.ofString_length]; exact h⟩
theorem tx_app {a b : Str} {j k : Nat} (ha : Tx j a) (hb : Tx k b) : Tx (j + k) (a ++ b) := ⟨strOk_app ha.1 hb.1, by rw [strLen_append]; have := ha.2; have := hb.2; omega⟩
theorem tx_nS {i : Int} (h : i.natAbs < 10 ^ 60) : Tx 61 (nS i) := ⟨strOk_of _, nS_len h⟩
theorem Tx.le {j k : Nat} {s : Str} (h : Tx j s) (hk : j ≤ k) : Tx k s := ⟨h.1, Nat.le_trans h.2 hk⟩
theorem join_snoc (a : Str) : ∀ (ys : List Str) (y : Str), ys ≠ [] → Str.join a (ys ++ [y]) = Str.join a ys ++ a ++ y
  | [], _, h => absurd rfl h
  | [x], y, _ => rfl
  | x :: z :: r, y, _ => by
    show x ++ a ++ Str.join a ((z :: r) ++ [y]) = x ++ a ++ Str.join a (z :: r) ++ a ++ y
    rw [join_snoc a (z :: r) y (by simp)]
    simp only [sapp_assoc]
theorem tx_join {a : Str} {j k : Nat} (ha : Tx j a) : ∀ {ys : List Str}, (∀ y ∈ ys, Tx k y) → Tx (ys.length * (j + k)) (Str.join a ys)
  | [], _ => tx_lit (s := "") _ (by simp)
  | [x], h => (h x List.mem_cons_self).le (by simp)
  | x :: z :: r, h => by
    have h1 := tx_app (tx_app (h x List.mem_cons_self) ha) (tx_join ha (ys := z :: r) fun y hy => h y (List.mem_cons_of_mem _ hy))
    refine h1.le ?_
    simp only [List.length_cons]
    rw [Nat.add_mul (r.length + 1) 1 (j + k)]
    omega
theorem join_sz {a : Str} {j k : Nat} (ha : a.length ≤ j) {ys : List Str} (h : ∀ y ∈ ys, y.length ≤ k) (hl : ys.length * (j + k) ≤ 16777216) : joinSz a ys := by
  unfold joinSz
  have s : (ys.map (·.length)).sum ≤ ys.length * k := by
    clear hl
    induction ys with
    | nil => simp
    | cons y ys ih =>
      have := h y List.mem_cons_self
      have := ih fun z hz => h z (List.mem_cons_of_mem _ hz)
      simp only [List.map_cons, List.sum_cons, List.length_cons]
      rw [Nat.add_mul]; omega
  have t : ys.length * a.length ≤ ys.length * j := Nat.mul_le_mul_left _ ha
  rw [Nat.mul_add] at hl
  omega
/-! ### numbers of no great length -/
def smallI (i : Int) : Prop := i.natAbs < 10 ^ 60
theorem small_log {i : Int} (h : smallI i) : i.natAbs.log2 < 1920 := log2_60 h
/-! ### policies as texts -/
def entT (e : Int × Int) : Str := nS e.1 ++ (":" ++ nS e.2)
def polW : Py → List Str
  | .exact => ["exact"]
  | .endless => ["endless"]
  | .step s => ["step", nS s]
  | .factor t b => ["factor", nS t ++ ("/" ++ nS b)]
  | .table es => "table" :: es.map entT
def polT (P : Py) : Str := Str.join " " (polW P)
/-- a number without a sign, of at most forty digits -/
def natI (i : Int) : Prop := 0 ≤ i ∧ i ≤ 9999999999999999999999999999999999999999
theorem nat_small {i : Int} (h : natI i) : smallI i := by unfold natI at h; unfold smallI; omega
theorem nS_tl {i : Int} (h : natI i) : TL.tl (nS i) = TL.numL i.toNat := by
  obtain ⟨n, rfl⟩ : ∃ n : Nat, i = n := ⟨i.toNat, by have := h.1; omega⟩
  rw [Int.toNat_natCast]
  exact TL.tl_num n
theorem nS_free {i : Int} (h : natI i) {c : Nat} (hc : c < 48 ∨ 57 < c) : c ∉ TL.tl (nS i) := by rw [nS_tl h]; exact TL.numL_free hc
theorem nS_l40 {i : Int} (h : natI i) : (nS i).length ≤ 40 := by
  rw [TL.len_tl, nS_tl h]
  refine TL.numL_len (by decide) ?_
  have := h.2
  have := h.1
  omega
theorem nS_int {i : Int} (h : natI i) : PySem.intText? (nS i) = some i := by
  have hl := nS_l40 h
  obtain ⟨n, rfl⟩ : ∃ n : Nat, i = n := ⟨i.toNat, by have := h.1; omega⟩
  refine TL.int_num ?_
  rw [TL.len_tl, nS_tl h, Int.toNat_natCast] at hl
  omega
theorem rmpre_none {s : Str} {c : Nat} (h : c ∉ TL.tl s) : Txt.removeprefix s ⟨#[c]⟩ = s := by
  have e : PySem.Builtin.Str.subAt s ⟨#[c]⟩ 0 = false := by
    cases q : PySem.Builtin.Str.subAt s ⟨#[c]⟩ 0 with
    | false => rfl
    | true =>
      exfalso
      have q2 : (s.cps.extract 0 (0 + 1) == #[c]) = true := q
      have q3 := eq_of_beq q2
      have m : c ∈ (s.cps.extract 0 (0 + 1)).toList := by rw [q3]; simp
      rw [Array.toList_extract] at m
      refine h ?_
      show c ∈ s.cps.toList
      have m2 : c ∈ (s.cps.toList.drop 0).take (0 + 1 - 0) := m
      exact List.mem_of_mem_drop (List.mem_of_mem_take m2)
  unfold Txt.removeprefix
  rw [e]
  rfl
theorem lit1 {s : String} {c : Nat} (h : (Str.ofString s).cps.toList = [c]) : Str.ofString s = ⟨#[c]⟩ := TL.ext_tl h
theorem tl_cons {a b : Str} {c : Nat} (ha : c ∉ TL.tl a) (hb : c ∉ TL.tl b) : c ∉ TL.tl (a ++ b) := by
  rw [TL.tl_append]
  intro h
  rcases List.mem_append.mp h with h | h
  · exact ha h
  · exact hb h
theorem join_split {y : Str} {c : Nat} (ey : TL.tl y = [c]) (hk : c < 256) {parts : List Str} (hne : parts ≠ []) (hp : ∀ p ∈ parts, c ∉ TL.tl p) : Txt.split (Str.join y parts) y = parts := by
  rw [← TL.join_eq]
  refine TL.split_join ey ?_ hne hp
  have e : y = ⟨#[c]⟩ := TL.ext_tl ey
  rw [e]
  simp [hk]
theorem two_split {y a b : Str} {c : Nat} (ey : TL.tl y = [c]) (hk : c < 256) (ha : c ∉ TL.tl a) (hb : c ∉ TL.tl b) : Txt.split (a ++ (y ++ b)) y = [a, b] := by
  have : Str.join y [a, b] = a ++ (y ++ b) := by show a ++ y ++ b = _; rw [sapp_assoc]
  rw [← this]
  refine join_split ey hk (by simp) fun p hp => ?_
  rcases List.mem_cons.mp hp with rfl | hp
  · exact ha
  · rw [List.mem_singleton] at hp; subst hp; exact hb
theorem ent_nat {es : List (Int × Int)} (h : asc 0 es) : ∀ e ∈ es, natI e.1 ∧ natI e.2 := fun e he => by
  obtain ⟨h1, h2, h3, h4⟩ := asc_mem h (Int.le_refl _) e he
  exact ⟨⟨h1, by omega⟩, h3, h4⟩
theorem sp_tl : TL.tl (Str.ofString " ") = [32] := by decide +kernel
theorem co_tl : TL.tl (Str.ofString ":") = [58] := by decide +kernel
theorem sl_tl : TL.tl (Str.ofString "/") = [47] := by decide +kernel
theorem mi_tl : TL.tl (Str.ofString "-") = [45] := by decide +kernel
theorem lit_free {s : String} {c : Nat} (h : ((Str.ofString s).cps.toList.contains c) = false := by decide +kernel) : c ∉ TL.tl (Str.ofString s) := fun m => by
  rw [List.contains_iff_mem.mpr m] at h
  cases h
theorem step_nat {s : Int} (h : 0 ≤ s ∧ s ≤ 1000000000000000000000000000000) : natI s := ⟨h.1, by omega⟩
theorem small_nI {s : Int} (h : 1 ≤ s ∧ s ≤ 100) : natI s := ⟨by omega, by omega⟩
theorem words_free {P : Py} (ok : P.ok) : ∀ w ∈ polW P, 32 ∉ TL.tl w := by
  cases P with
  | exact => intro w h; rw [List.mem_singleton.mp h]; exact lit_free
  | endless => intro w h; rw [List.mem_singleton.mp h]; exact lit_free
  | step s =>
    intro w h
    rcases List.mem_cons.mp h with rfl | h
    · exact lit_free
    · rw [List.mem_singleton.mp h]; exact nS_free (step_nat ok) (by decide)
  | factor t b =>
    intro w h
    rcases List.mem_cons.mp h with rfl | h
    · exact lit_free
    · rw [List.mem_singleton.mp h]
      exact tl_cons (nS_free (small_nI ⟨ok.1, ok.2.1⟩) (by decide)) (tl_cons lit_free (nS_free (small_nI ⟨ok.2.2.1, ok.2.2.2.1⟩) (by decide)))
  | table es =>
    intro w h
    rcases List.mem_cons.mp h with rfl | h
    · exact lit_free
    · obtain ⟨e, he, rfl⟩ := List.mem_map.mp h
      obtain ⟨h1, h2⟩ := ent_nat ok.2 e he
      exact tl_cons (nS_free h1 (by decide)) (tl_cons lit_free (nS_free h2 (by decide)))
theorem words_split {P : Py} (ok : P.ok) : Txt.split (polT P) " " = polW P := join_split sp_tl (by decide) (by cases P <;> simp [polW]) (words_free ok)
theorem word_tx {P : Py} (ok : P.ok) : ∀ w ∈ polW P, Tx 130 w := by
  cases P with
  | exact => intro w h; rw [List.mem_singleton.mp h]; exact tx_lit _ (by decide)
  | endless => intro w h; rw [List.mem_singleton.mp h]; exact tx_lit _ (by decide)
  | step s =>
    intro w h
    rcases List.mem_cons.mp h with rfl | h
    · exact tx_lit _ (by decide)
    · rw [List.mem_singleton.mp h]; exact (tx_nS (nat_small (step_nat ok))).le (by decide)
  | factor t b =>
    intro w h
    rcases List.mem_cons.mp h with rfl | h
    · exact tx_lit _ (by decide)
    · rw [List.mem_singleton.mp h]
      exact (tx_app (tx_nS (nat_small (small_nI ⟨ok.1, ok.2.1⟩))) (tx_app (tx_lit (s := "/") 1 (by decide)) (tx_nS (nat_small (small_nI ⟨ok.2.2.1, ok.2.2.2.1⟩))))).le (by decide)
  | table es =>
    intro w h
    rcases List.mem_cons.mp h with rfl | h
    · exact tx_lit _ (by decide)
    · obtain ⟨e, he, rfl⟩ := List.mem_map.mp h
      obtain ⟨h1, h2⟩ := ent_nat ok.2 e he
      exact (tx_app (tx_nS (nat_small h1)) (tx_app (tx_lit (s := ":") 1 (by decide)) (tx_nS (nat_small h2)))).le (by decide)
theorem pol_len {P : Py} (ok : P.ok) : (polW P).length ≤ 61 := by
  cases P with
  | table es => have := ok.1; simp [polW]; omega
  | _ => simp [polW]
theorem polT_tx {P : Py} (ok : P.ok) : Tx 8000 (polT P) := by
  have := tx_join (tx_lit (s := " ") 1 (by decide)) (word_tx ok)
  have l := pol_len ok
  exact this.le (by omega)
def sp_policy_text : USp := fun ds pen n Q _ => ∃ P : Py, ds = [P.d] ∧ P.ok ∧ Q (.str (polT P)) n
theorem len_policy_text : ∀ ds pen n Q E, sp_policy_text ds pen n Q E → ds.length = 1 := by rintro ds pen n Q E ⟨P, rfl, _⟩; rfl
/-! ### texts, cut and joined -/
theorem spl1_hit {c d : Nat} {acc r : List Nat} (h : d = c) : TL.spl [c] 0 acc (d :: r) = acc :: TL.spl [c] 0 [] r := by
  subst h
  exact TL.spl_hit (by unfold TL.pre; simp)
theorem spl1_miss {c d : Nat} {acc r : List Nat} (h : d ≠ c) : TL.spl [c] 0 acc (d :: r) = TL.spl [c] 0 (acc ++ [d]) r := TL.spl_miss (by unfold TL.pre; simp [h])
theorem spl1_ne {c : Nat} : ∀ (l acc : List Nat), TL.spl [c] 0 acc l ≠ []
  | [], acc => by rw [TL.spl_nil]; simp
  | d :: l, acc => by
    by_cases h : d = c
    · rw [spl1_hit h]; simp
    · rw [spl1_miss h]; exact spl1_ne l _
theorem joinL_cons {S a : List Nat} {r : List (List Nat)} (h : r ≠ []) : TL.joinL S (a :: r) = a ++ S ++ TL.joinL S r := by
  cases r with
  | nil => exact absurd rfl h
  | cons b r => simp [TL.joinL]
theorem join_spl {c : Nat} : ∀ (l acc : List Nat), TL.joinL [c] (TL.spl [c] 0 acc l) = acc ++ l
  | [], acc => by rw [TL.spl_nil]; simp [TL.joinL]
  | d :: l, acc => by
    by_cases h : d = c
    · rw [spl1_hit h, joinL_cons (spl1_ne l []), join_spl l []]
      subst h
      simp
    · rw [spl1_miss h, join_spl l]
      simp
theorem spl_mem {c : Nat} : ∀ (l acc : List Nat), ∀ p ∈ TL.spl [c] 0 acc l, ∀ x ∈ p, x ∈ acc ∨ x ∈ l
  | [], acc, p, hp, x, hx => by
    rw [TL.spl_nil, List.mem_singleton] at hp
    subst hp
    exact .inl hx
  | d :: l, acc, p, hp, x, hx => by
    by_cases h : d = c
    · rw [spl1_hit h] at hp
      rcases List.mem_cons.mp hp with rfl | hp
      · exact .inl hx
      · rcases spl_mem l [] p hp x hx with h | h
        · cases h
        · exact .inr (List.mem_cons_of_mem _ h)
    · rw [spl1_miss h] at hp
      rcases spl_mem l _ p hp x hx with h | h
      · rcases List.mem_append.mp h with h | h
        · exact .inl h
        · exact .inr (by rw [List.mem_singleton.mp h]; exact List.mem_cons_self)
      · exact .inr (List.mem_cons_of_mem _ h)
/-- the signs of all parts, one for each part beside -/
def mu (ws : List Str) : Nat := (ws.map fun w => w.length + 1).sum
theorem spl_sum {c : Nat} : ∀ (l acc : List Nat), ((TL.spl [c] 0 acc l).map fun p => p.length + 1).sum = acc.length + l.length + 1
  | [], acc => by rw [TL.spl_nil]; simp
  | d :: l, acc => by
    by_cases h : d = c
    · rw [spl1_hit h, List.map_cons, List.sum_cons, spl_sum l []]
      simp; omega
    · rw [spl1_miss h, spl_sum l]
      simp; omega
theorem split_tl {s y : Str} {c : Nat} (ey : TL.tl y = [c]) (hc : c < 256) : (Txt.split s y).map TL.tl = TL.spl [c] 0 [] (TL.tl s) := by
  have e : y = ⟨#[c]⟩ := TL.ext_tl ey
  have h := TL.split_spl s y (by rw [ey]; simp) (TL.kind_ok (by rw [e]; simp [hc]))
  rw [ey] at h
  exact h
theorem of_split {s y : Str} {c : Nat} (ey : TL.tl y = [c]) (hc : c < 256) : Str.join y (Txt.split s y) = s := by
  apply TL.ext_tl
  rw [TL.tl_join, split_tl ey hc, ey, join_spl]
  rfl
theorem split_ne {s y : Str} {c : Nat} (ey : TL.tl y = [c]) (hc : c < 256) : Txt.split s y ≠ [] := fun z => by
  have h := split_tl (s := s) ey hc
  rw [z] at h
  exact spl1_ne _ _ h.symm
theorem split_mu {s y : Str} {c : Nat} (ey : TL.tl y = [c]) (hc : c < 256) : mu (Txt.split s y) = s.length + 1 := by
  have h := congrArg (fun l => (l.map fun p : List Nat => p.length + 1).sum) (split_tl (s := s) ey hc)
  simp only [spl_sum, List.map_map] at h
  rw [TL.len_tl]
  unfold mu
  rw [show (Txt.split s y).map (fun w => w.length + 1) = (Txt.split s y).map ((fun p : List Nat => p.length + 1) ∘ TL.tl) from List.map_congr_left fun w _ => by simp only [Function.comp]; rw [TL.len_tl]]
  rw [h]; simp
theorem mu_app (a b : List Str) : mu (a ++ b) = mu a + mu b := by simp [mu]
theorem mu_rev (a : List Str) : mu a.reverse = mu a := by simp [mu]
theorem mu_cons (a : Str) (b : List Str) : mu (a :: b) = a.length + 1 + mu b := by simp [mu]
theorem mu_len (a : List Str) : a.length ≤ mu a := by
  induction a with
  | nil => exact Nat.zero_le _
  | cons x a ih => rw [mu_cons, List.length_cons]; omega
theorem mu_mem {a : List Str} {x : Str} (h : x ∈ a) : x.length + 1 ≤ mu a := by
  induction a with
  | nil => cases h
  | cons y a ih =>
    rw [mu_cons]
    rcases List.mem_cons.mp h with rfl | h
    · omega
    · have := ih h; omega
theorem mu_cut (a : List Str) (k : Nat) : mu (a.take k) + mu (a.drop k) = mu a := by rw [← mu_app, List.take_append_drop]
theorem join_mu {y : Str} (h : y.length = 1) : ∀ ws : List Str, (Str.join y ws).length ≤ mu ws
  | [] => Nat.zero_le _
  | [x] => by show x.length ≤ _; rw [mu_cons]; omega
  | x :: z :: r => by
    show (x ++ y ++ Str.join y (z :: r)).length ≤ _
    have := join_mu h (z :: r)
    rw [strLen_append, strLen_append, mu_cons]
    omega
theorem joinSz_mu {y : Str} (h : y.length = 1) {ws : List Str} (hm : mu ws ≤ 16777216) : joinSz y ws := by
  unfold joinSz
  have : mu ws = (ws.map (·.length)).sum + ws.length := by
    clear hm
    induction ws with
    | nil => rfl
    | cons x ws ih => rw [mu_cons, ih]; simp; omega
  rw [h]; omega
def okS (s : Str) : Prop := ∀ c ∈ TL.tl s, c < 1114112
theorem okS_iff {s : Str} : PyData.strOk s = true ↔ okS s := by
  obtain ⟨a⟩ := s
  show Array.all a _ = true ↔ ∀ c ∈ a.toList, c < 1114112
  rw [Array.all_eq_true']
  constructor
  · intro h c hc
    have := h c (Array.mem_toList_iff.mp hc)
    simpa using this
  · intro h c hc
    have := h c (Array.mem_toList_iff.mpr hc)
    simpa using this
theorem tx_part {s y w : Str} {c k : Nat} (ey : TL.tl y = [c]) (hc : c < 256) (h : Tx k s) (hw : w ∈ Txt.split s y) : Tx k w := by
  have h1 := split_tl (s := s) ey hc
  refine ⟨okS_iff.mpr fun x hx => ?_, ?_⟩
  · have m : TL.tl w ∈ (Txt.split s y).map TL.tl := List.mem_map_of_mem hw
    rw [h1] at m
    rcases spl_mem _ _ _ m x hx with z | z
    · cases z
    · exact okS_iff.mp h.1 x z
  · have := mu_mem hw
    rw [split_mu ey hc] at this
    have := h.2
    omega
theorem tx_cut {s : Str} {k : Nat} (lo hi : Option Int) (h : Tx k s) : Tx k (L2.cutS s lo hi) := by
  refine ⟨okS_iff.mpr fun c hc => ?_, Nat.le_trans (cutS_length s lo hi) h.2⟩
  have hc : c ∈ (s.cps.toList.drop (HT.sIx s.length 0 lo)).take (HT.sIx s.length s.length hi - HT.sIx s.length 0 lo) := by simpa [L2.cutS, TL.tl] using hc
  exact okS_iff.mp h.1 c (List.mem_of_mem_drop (List.mem_of_mem_take hc))
theorem tx_mu {y : Str} (hy : Tx 1 y) (h1 : y.length = 1) {ws : List Str} {k j : Nat} (h : ∀ w ∈ ws, Tx j w) (hm : mu ws ≤ k) : Tx k (Str.join y ws) := ⟨(tx_join hy h).1, Nat.le_trans (join_mu h1 ws) hm⟩
/-! ### numbers, as texts write them -/
def allDig (s : Str) : Bool := (TL.tl s).all fun c => decide (48 ≤ c) && decide (c ≤ 57)
theorem allDig_iff {s : Str} : allDig s = true ↔ NumText.AllDigits (TL.tl s) := by
  unfold allDig
  rw [List.all_eq_true]
  constructor
  · intro h c hc
    have := h c hc
    rw [Bool.and_eq_true, decide_eq_true_eq, decide_eq_true_eq] at this
    exact this
  · intro h c hc
    rw [Bool.and_eq_true, decide_eq_true_eq, decide_eq_true_eq]
    exact h c hc
theorem dig_in (c : Nat) : c ∈ (Str.ofString "0123456789").cps.toList ↔ 48 ≤ c ∧ c ≤ 57 := by
  have e : (Str.ofString "0123456789").cps.toList = [48, 49, 50, 51, 52, 53, 54, 55, 56, 57] := by decide +kernel
  rw [e]
  simp only [List.mem_cons, List.not_mem_nil, or_false]
  omega
/-- a number up to a greatest one, written as str writes it -/
def numO (w : Str) (most : Int) : Option Int := match PySem.intText? w with
  | some i => if 0 ≤ i ∧ i ≤ most ∧ nS i = w then some i else none
  | none => none
theorem numO_iff {w : Str} {most i : Int} (hm : most ≤ 9999999999999999999999999999999999999999) : numO w most = some i ↔ 0 ≤ i ∧ i ≤ most ∧ w = nS i := by
  unfold numO
  constructor
  · intro h
    cases e : PySem.intText? w with
    | none => rw [e] at h; cases h
    | some j =>
      rw [e] at h
      dsimp only at h
      split at h
      · cases h
        rename_i q
        exact ⟨q.1, q.2.1, q.2.2.symm⟩
      · cases h
  · rintro ⟨h0, h1, rfl⟩
    rw [nS_int ⟨h0, by omega⟩]
    dsimp only
    rw [if_pos ⟨h0, h1, rfl⟩]
def numV (w : Str) (most : Int) : Int := (numO w most).getD (-1)
def pairO (w y : Str) : Option (Int × Int) := match Txt.split w y with
  | [a, b] => match numO a 100, numO b 9999999999999999999999999999999999999999 with
    | some i, some j => some (i, j)
    | _, _ => none
  | _ => none
theorem two_join (y a b : Str) : Str.join y [a, b] = a ++ (y ++ b) := by show a ++ y ++ b = _; rw [sapp_assoc]
theorem pairO_iff {w y : Str} {c : Nat} {e : Int × Int} (ey : TL.tl y = [c]) (hk : c < 256) (hc : c < 48 ∨ 57 < c) : pairO w y = some e ↔ (0 ≤ e.1 ∧ e.1 ≤ 100) ∧ natI e.2 ∧ w = nS e.1 ++ (y ++ nS e.2) := by
  unfold pairO
  constructor
  · intro h
    split at h
    · rename_i a b hs
      split at h
      · rename_i i j hi hj
        cases h
        obtain ⟨i0, i1, ei⟩ := (numO_iff (by omega)).mp hi
        obtain ⟨j0, j1, ej⟩ := (numO_iff (by omega)).mp hj
        refine ⟨⟨i0, i1⟩, ⟨j0, j1⟩, ?_⟩
        have := of_split (s := w) ey hk
        rw [hs, two_join] at this
        rw [← this, ei, ej]
      · cases h
    · cases h
  · rintro ⟨⟨h0, h1⟩, h2, rfl⟩
    have n1 : natI e.1 := ⟨h0, by omega⟩
    rw [two_split ey hk (nS_free n1 hc) (nS_free h2 hc)]
    dsimp only
    rw [(numO_iff (by omega)).mpr ⟨h0, h1, rfl⟩, (numO_iff (by omega)).mpr ⟨h2.1, h2.2, rfl⟩]
/-! ### what a text of a policy writes -/
def pairsO : List Str → Option (List (Int × Int))
  | [] => some []
  | w :: r => match pairO w ":", pairsO r with
    | some e, some es => some (e :: es)
    | _, _ => none
def ascB : Int → List (Int × Int) → Bool
  | _, [] => true
  | lo, e :: r => decide (lo ≤ e.1) && decide (e.1 ≤ 59) && ascB (e.1 + 1) r
def readW (ws : List Str) : Option Py := match ws with
  | [] => none
  | w :: r => if w = "exact" ∧ r = [] then some .exact else if w = "endless" ∧ r = [] then some .endless else
    if w = "step" then (match r with
      | [x] => (numO x 1000000000000000000000000000000).map .step
      | _ => none)
    else if w = "factor" then (match r with
      | [x] => match pairO x "/" with
        | some (t, b) => if 1 ≤ b ∧ b ≤ 100 ∧ 5 * b ≤ 4 * t then some (.factor t b) else none
        | none => none
      | _ => none)
    else if w = "table" then (if r.length ≤ 60 then (match pairsO r with
      | some es => if ascB 0 es = true then some (.table es) else none
      | none => none) else none)
    else none
def readP (s : Str) : Option Py := readW (Txt.split s " ")
theorem pairs_iff : ∀ {r : List Str} {es : List (Int × Int)}, pairsO r = some es ↔ r = es.map entT ∧ ∀ e ∈ es, (0 ≤ e.1 ∧ e.1 ≤ 100) ∧ natI e.2
  | [], es => by
    constructor
    · intro h; cases h; exact ⟨rfl, nofun⟩
    · rintro ⟨h, _⟩
      cases es with
      | nil => rfl
      | cons e es => cases h
  | w :: r, es => by
    simp only [pairsO]
    constructor
    · intro h
      split at h
      · rename_i e fs he hf
        cases h
        obtain ⟨h1, h2, h3⟩ := (pairO_iff co_tl (by decide) (by decide)).mp he
        obtain ⟨h4, h5⟩ := pairs_iff.mp hf
        refine ⟨?_, fun x hx => ?_⟩
        · rw [List.map_cons, ← h4, h3]; rfl
        · rcases List.mem_cons.mp hx with rfl | hx
          · exact ⟨h1, h2⟩
          · exact h5 x hx
      · cases h
    · rintro ⟨h1, h2⟩
      cases es with
      | nil => cases h1
      | cons e es =>
        rw [List.map_cons] at h1
        obtain ⟨rfl, rfl⟩ := List.cons.inj h1
        have a := h2 e List.mem_cons_self
        rw [show entT e = nS e.1 ++ (":" ++ nS e.2) from rfl, (pairO_iff (e := e) co_tl (by decide) (by decide)).mpr ⟨a.1, a.2, rfl⟩, pairs_iff.mpr ⟨rfl, fun x hx => h2 x (List.mem_cons_of_mem _ hx)⟩]
theorem ascB_iff : ∀ {es : List (Int × Int)} {lo : Int}, (∀ e ∈ es, natI e.2) → (ascB lo es = true ↔ asc lo es)
  | [], lo, _ => by simp [ascB, asc]
  | e :: r, lo, h => by
    have ih := ascB_iff (es := r) (lo := e.1 + 1) fun x hx => h x (List.mem_cons_of_mem _ hx)
    have h2 := h e List.mem_cons_self
    simp only [ascB, asc, Bool.and_eq_true, decide_eq_true_eq, ih]
    unfold natI at h2
    constructor
    · rintro ⟨⟨a, b⟩, c⟩; exact ⟨a, b, h2.1, h2.2, c⟩
    · rintro ⟨a, b, _, _, c⟩; exact ⟨⟨a, b⟩, c⟩
theorem lit_ne {a b : String} (h : (Str.ofString a == Str.ofString b) = false := by decide +kernel) : Str.ofString a ≠ Str.ofString b := fun e => by
  rw [e, beq_self_eq_true] at h
  cases h
theorem readW_iff {ws : List Str} {P : Py} : readW ws = some P ↔ P.ok ∧ ws = polW P := by
  unfold readW
  constructor
  · intro h
    split at h
    · cases h
    rename_i w r
    split at h
    · rename_i q; cases h; rw [q.1, q.2]; exact ⟨trivial, rfl⟩
    split at h
    · rename_i q; cases h; rw [q.1, q.2]; exact ⟨trivial, rfl⟩
    split at h
    · rename_i q
      rcases r with _ | ⟨x, _ | ⟨x2, r⟩⟩
      · cases h
      · dsimp only at h
        cases e : numO x 1000000000000000000000000000000 with
        | none => rw [e] at h; cases h
        | some i =>
          rw [e] at h
          cases h
          obtain ⟨h0, h1, h2⟩ := (numO_iff (by omega)).mp e
          refine ⟨⟨h0, h1⟩, ?_⟩
          rw [q, h2]; rfl
      · cases h
    split at h
    · rename_i q
      rcases r with _ | ⟨x, _ | ⟨x2, r⟩⟩
      · cases h
      · dsimp only at h
        split at h
        · rename_i t b e
          split at h
          · rename_i z
            cases h
            obtain ⟨h0, h1, h2⟩ := (pairO_iff sl_tl (by decide) (by decide)).mp e
            dsimp only at h0 h1 h2
            refine ⟨⟨by omega, h0.2, z.1, z.2.1, z.2.2⟩, ?_⟩
            rw [q, h2]; rfl
          · cases h
        · cases h
      · cases h
    split at h
    · rename_i q
      split at h
      · rename_i hl
        split at h
        · rename_i es e
          split at h
          · rename_i z
            cases h
            obtain ⟨h1, h2⟩ := pairs_iff.mp e
            refine ⟨⟨by rw [h1, List.length_map] at hl; exact hl, (ascB_iff fun x hx => (h2 x hx).2).mp z⟩, ?_⟩
            rw [q, h1]; rfl
          · cases h
        · cases h
      · cases h
    · cases h
  · rintro ⟨ok, rfl⟩
    have w1 : Str.ofString "endless" ≠ Str.ofString "exact" := lit_ne
    have w2 : Str.ofString "step" ≠ Str.ofString "exact" := lit_ne
    have w3 : Str.ofString "step" ≠ Str.ofString "endless" := lit_ne
    have w4 : Str.ofString "factor" ≠ Str.ofString "exact" := lit_ne
    have w5 : Str.ofString "factor" ≠ Str.ofString "endless" := lit_ne
    have w6 : Str.ofString "factor" ≠ Str.ofString "step" := lit_ne
    have w7 : Str.ofString "table" ≠ Str.ofString "exact" := lit_ne
    have w8 : Str.ofString "table" ≠ Str.ofString "endless" := lit_ne
    have w9 : Str.ofString "table" ≠ Str.ofString "step" := lit_ne
    have w0 : Str.ofString "table" ≠ Str.ofString "factor" := lit_ne
    cases P with
    | exact => dsimp only [polW]; rw [if_pos ⟨rfl, rfl⟩]
    | endless => dsimp only [polW]; simp only [w1, false_and, if_false, true_and, if_true]
    | step s =>
      dsimp only [polW]
      simp only [w2, w3, false_and, if_false, if_true]
      rw [(numO_iff (by omega)).mpr ⟨ok.1, ok.2, rfl⟩]; rfl
    | factor t b =>
      dsimp only [polW]
      simp only [w4, w5, w6, false_and, if_false, if_true]
      obtain ⟨h1, h2, h3, h4, h5⟩ := ok
      rw [(pairO_iff (e := (t, b)) sl_tl (by decide) (by decide)).mpr ⟨⟨by dsimp only; omega, h2⟩, ⟨by dsimp only; omega, by dsimp only; omega⟩, rfl⟩]
      dsimp only
      rw [if_pos ⟨h3, h4, h5⟩]
    | table es =>
      dsimp only [polW]
      simp only [w7, w8, w9, w0, false_and, if_false, if_true]
      have hn := ent_nat ok.2
      have ha : ∀ e ∈ es, (0 ≤ e.1 ∧ e.1 ≤ 100) ∧ natI e.2 := fun e he => by
        obtain ⟨h1, h2, h3, h4⟩ := asc_mem ok.2 (Int.le_refl _) e he
        exact ⟨⟨h1, by omega⟩, h3, h4⟩
      rw [if_pos (by rw [List.length_map]; exact ok.1), pairs_iff.mpr ⟨rfl, ha⟩]
      dsimp only
      rw [if_pos ((ascB_iff fun x hx => (ha x hx).2).mpr ok.2)]
theorem readP_iff {s : Str} {P : Py} : readP s = some P ↔ P.ok ∧ s = polT P := by
  unfold readP
  rw [readW_iff]
  constructor
  · rintro ⟨ok, e⟩
    refine ⟨ok, ?_⟩
    rw [polT, ← e, of_split sp_tl (by decide)]
  · rintro ⟨ok, rfl⟩
    exact ⟨ok, words_split ok⟩
abbrev sp__law_draw : USp := spDraw false
theorem len__law_draw : ∀ ds pen n Q E, sp__law_draw ds pen n Q E → ds.length = 2 := len_draw
def sp__law_policy : USp := fun ds pen n Q _ => match ds with
  | [x] => isPen false pen x ∧ 1000 ≤ n ∧ ∀ (P : Py) m, P.ok → n ≤ m + 1000 → Q P.d m
  | _ => False
def sp__law_words : USp := fun ds pen n Q _ => ∃ P : Py, ds = [P.d] ∧ P.ok ∧ Q (.str (polT P)) n
theorem len__law_words : ∀ ds pen n Q E, sp__law_words ds pen n Q E → ds.length = 1 := by rintro ds pen n Q E ⟨P, rfl, _⟩; rfl
abbrev invText (e : D) : UX := ⟨.own "InvalidText", some [("line", e)]⟩
/-- a value that may be no text at all -/
def ValT (k : Nat) (x : D) : Prop := x.tyn.isSome = true ∧ ∀ s, x = .str s → Tx k s
def numG (w : Str) : D := if (1 ≤ (Txt.removeprefix w "-").length ∧ (Txt.removeprefix w "-").length ≤ 40) ∧ allDig (Txt.removeprefix w "-") = true then (match PySem.intText? w with
    | some i => .int i
    | none => .non) else .non
def entG (w : Str) : D := .tup ((Txt.split w ":").map numG)
def polG (ws : List Str) : D := match ws with
  | [] => .non
  | w :: r => if w = "table" then .tup [.str "table", .tup (r.map entG)] else if w = "step" then .tup (.str "step" :: r.map numG) else
    match r with
    | [x] => if w = "factor" then .tup (.str "factor" :: (Txt.split x "/").map numG) else .tup [.str w, .str x]
    | _ => .tup ((w :: r).map D.str)
def sp_number_in : USp := fun ds pen n Q _ => ∃ w : Str, ds = [.str w] ∧ w.length ≤ 50000 ∧ Q (numG w) n
theorem len_number_in : ∀ ds pen n Q E, sp_number_in ds pen n Q E → ds.length = 1 := by rintro ds pen n Q E ⟨P, rfl, _⟩; rfl
def sp_numbers_in : USp := fun ds pen n Q _ => ∃ ws : List Str, ds = [.lst (ws.map D.str)] ∧ mu ws ≤ 50000 ∧ Q (.tup (ws.map numG)) n
theorem len_numbers_in : ∀ ds pen n Q E, sp_numbers_in ds pen n Q E → ds.length = 1 := by rintro ds pen n Q E ⟨P, rfl, _⟩; rfl
def sp_entries_in : USp := fun ds pen n Q _ => ∃ ws : List Str, ds = [.lst (ws.map D.str)] ∧ mu ws ≤ 50000 ∧ Q (.tup (ws.map entG)) n
theorem len_entries_in : ∀ ds pen n Q E, sp_entries_in ds pen n Q E → ds.length = 1 := by rintro ds pen n Q E ⟨P, rfl, _⟩; rfl
def sp_policy_in : USp := fun ds pen n Q _ => ∃ ws : List Str, ds = [.lst (ws.map D.str)] ∧ ws ≠ [] ∧ mu ws ≤ 50000 ∧ Q (polG ws) n
theorem len_policy_in : ∀ ds pen n Q E, sp_policy_in ds pen n Q E → ds.length = 1 := by rintro ds pen n Q E ⟨P, rfl, _⟩; rfl
/-- the text of a policy, or not -/
def readT (x : D) : Option Py := match x with
  | .str s => readP s
  | _ => none
def sp_read_policy : USp := fun ds pen n Q PX => ∃ x : D, ds = [x] ∧ ValT 40000 x ∧ match readT x with
  | some P => Q P.d n
  | none => PX (invText (.int 0)) n
theorem len_read_policy : ∀ ds pen n Q E, sp_read_policy ds pen n Q E → ds.length = 1 := by rintro ds pen n Q E ⟨P, rfl, _⟩; rfl
def sp__law_number : USp := fun ds pen n Q _ => ∃ (w : Str) (most : Int), ds = [.str w, .int most] ∧ Tx 50000 w ∧ most ≤ 9999999999999999999999999999999999999999 ∧ Q (.int (numV w most)) n
theorem len__law_number : ∀ ds pen n Q E, sp__law_number ds pen n Q E → ds.length = 2 := by rintro ds pen n Q E ⟨w, m, rfl, _⟩; rfl
def pairD : Option (Int × Int) → D
  | some e => enD e
  | none => .tup []
def sp__law_pair : USp := fun ds pen n Q _ => ∃ (w y : Str) (c : Nat), ds = [.str w, .str y] ∧ TL.tl y = [c] ∧ c < 256 ∧ Tx 50000 w ∧ Q (pairD (pairO w y)) n
theorem len__law_pair : ∀ ds pen n Q E, sp__law_pair ds pen n Q E → ds.length = 2 := by rintro ds pen n Q E ⟨w, m, c, rfl, _⟩; rfl
def dueD (x : D) : D := match readT x with
  | some P => .lst [P.d]
  | none => .tup [.int 0]
def sp__law_due : USp := fun ds pen n Q _ => ∃ x : D, ds = [x] ∧ ValT 40000 x ∧ Q (dueD x) n
theorem len__law_due : ∀ ds pen n Q E, sp__law_due ds pen n Q E → ds.length = 1 := by rintro ds pen n Q E ⟨P, rfl, _⟩; rfl
def sp__law_heard : USpT := fun th pen n Q => (∃ d, ThOk th n (fun d' m => d' = d ∧ m = n) (fun _ _ => False) ∧ Q (.lst [d]) n) ∨ (∃ d, ThOk th n (fun _ _ => False) (fun x m => x = invText d ∧ m = n) ∧ Q (.tup [d]) n)
def sp__law_is_right : USp := fun ds pen n Q _ => ∃ x : D, LamIn pen "_law_is_right" ∧ ds = [x] ∧ ValT 40000 x ∧ Q (.bl true) n
theorem len__law_is_right : ∀ ds pen n Q E, sp__law_is_right ds pen n Q E → ds.length = 1 := by rintro ds pen n Q E ⟨P, _, rfl, _⟩; rfl
def sp__law_bent : USp := fun ds pen n Q _ => ∃ (x : D) (s : Str) (k : Nat), ds = [x, .str s] ∧ isPen false pen x ∧ Tx k s ∧ k ≤ 18000 ∧ 10 ≤ n ∧ ∀ (t : Str) m, Tx (2 * k + 100) t → n ≤ m + 10 → Q (.str t) m
theorem len__law_bent : ∀ ds pen n Q E, sp__law_bent ds pen n Q E → ds.length = 2 := by rintro ds pen n Q E ⟨x, s, k, rfl, _⟩; rfl
end Lw


set_option Elab.async false
set_option linter.all false
set_option maxRecDepth 100000
set_option maxHeartbeats 0

namespace Lw
open PySem PySem.Spec L2 U
open PyProof.Rows hiding St
def u_is_integer (W : WU) : US :=
  (uRet (uAnd (uB gIsi (uCons (uVar 0) (uCons (uC (.ty "int")) uNil))) (uNot (uB gIsi (uCons (uVar 0) (uCons (uC (.ty "bool")) uNil))))))
theorem len_is_integer : ∀ ds pen n Q E, sp_is_integer ds pen n Q E → ds.length = 1 := by
  intro ds pen n Q E h
  unfold sp_is_integer at h
  split at h
  · rfl
  · exact h.elim
abbrev N_is_integer : List Str := ["thing"]
theorem run_is_integer {pen : PenT} {PX : UX → Nat → Prop} (h : ∀ x0 n (Q : D → Nat → Prop), sp_is_integer [x0] pen n Q PX → u_is_integer (Wd pen PX) { nx := fun ρ => Q .non ρ.fuel, rt := Q } ⟨[.dat x0], pen, n⟩) :
    ∀ ds n (Q : D → Nat → Prop), sp_is_integer ds pen n Q PX → u_is_integer (Wd pen PX) { nx := fun ρ => Q .non ρ.fuel, rt := Q } ⟨startU N_is_integer ds, pen, n⟩ := by
  intro ds n Q hs
  have hl := len_is_integer _ _ _ _ _ hs
  match ds, hl, hs with
  | [x0], _, hs => exact h x0 n Q hs
def u_is_between (W : WU) : US :=
  (uRet (uAnd (uCall sp_is_integer [] W (uCons (uVar 0) uNil)) (uChain gLe gLe (uVar 1) (uVar 0) (uVar 2))))
theorem len_is_between : ∀ ds pen n Q E, sp_is_between ds pen n Q E → ds.length = 3 := by
  intro ds pen n Q E h
  unfold sp_is_between at h
  split at h
  · rfl
  · exact h.elim
abbrev N_is_between : List Str := ["thing", "least", "most"]
theorem run_is_between {pen : PenT} {PX : UX → Nat → Prop} (h : ∀ x0 x1 x2 n (Q : D → Nat → Prop), sp_is_between [x0, x1, x2] pen n Q PX → u_is_between (Wd pen PX) { nx := fun ρ => Q .non ρ.fuel, rt := Q } ⟨[.dat x0, .dat x1, .dat x2], pen, n⟩) :
    ∀ ds n (Q : D → Nat → Prop), sp_is_between ds pen n Q PX → u_is_between (Wd pen PX) { nx := fun ρ => Q .non ρ.fuel, rt := Q } ⟨startU N_is_between ds, pen, n⟩ := by
  intro ds n Q hs
  have hl := len_is_between _ _ _ _ _ hs
  match ds, hl, hs with
  | [x0, x1, x2], _, hs => exact h x0 x1 x2 n Q hs
def u_are_entries (W : WU) : US :=
  (uSeq (uIfS (uOrT (uNotT (uTru (uB gIsi (uCons (uVar 0) (uCons (uC (.ty "tuple")) uNil))))) (uTB (uOp gGt (uB gLen (uCons (uVar 0) uNil)) (uC (.int 60))))) (uRet (uC (.bl false))) uSkip) (uSeq (uSet 1 (uC (.int 0))) (uSeq (uFor (uiS (uVar 0)) (ugN 2) (uSeq (uIfS (uOrT (uNotT (uTru (uB gIsi (uCons (uVar 2) (uCons (uC (.ty "tuple")) uNil))))) (uTB (uOp gNe (uB gLen (uCons (uVar 2) uNil)) (uC (.int 2))))) (uRet (uC (.bl false))) uSkip) (uSeq (uIfS (uOrT (uNotT (uTru (uCall sp_is_between [] W (uCons (uOp gIx (uVar 2) (uC (.int 0))) (uCons (uVar 1) (uCons (uOp gSub (uC (.int 60)) (uC (.int 1))) uNil)))))) (uNotT (uTru (uCall sp_is_between [] W (uCons (uOp gIx (uVar 2) (uC (.int 1))) (uCons (uC (.int 0)) (uCons (uOp gSub (uC (.int 10000000000000000000000000000000000000000)) (uC (.int 1))) uNil))))))) (uRet (uC (.bl false))) uSkip) (uSet 1 (uOp gAdd (uOp gIx (uVar 2) (uC (.int 0))) (uC (.int 1))))))) (uRet (uC (.bl true))))))
theorem len_are_entries : ∀ ds pen n Q E, sp_are_entries ds pen n Q E → ds.length = 1 := by
  intro ds pen n Q E h
  unfold sp_are_entries at h
  split at h
  · rfl
  · exact h.elim
abbrev N_are_entries : List Str := ["thing", "least", "entry"]
theorem run_are_entries {pen : PenT} {PX : UX → Nat → Prop} (h : ∀ x0 n (Q : D → Nat → Prop), sp_are_entries [x0] pen n Q PX → u_are_entries (Wd pen PX) { nx := fun ρ => Q .non ρ.fuel, rt := Q } ⟨[.dat x0, .emp, .emp], pen, n⟩) :
    ∀ ds n (Q : D → Nat → Prop), sp_are_entries ds pen n Q PX → u_are_entries (Wd pen PX) { nx := fun ρ => Q .non ρ.fuel, rt := Q } ⟨startU N_are_entries ds, pen, n⟩ := by
  intro ds n Q hs
  have hl := len_are_entries _ _ _ _ _ hs
  match ds, hl, hs with
  | [x0], _, hs => exact h x0 n Q hs
def u_is_factor (W : WU) : US :=
  (uRet (uAnd (uCall sp_is_between [] W (uCons (uVar 0) (uCons (uC (.int 1)) (uCons (uC (.int 100)) uNil)))) (uAnd (uCall sp_is_between [] W (uCons (uVar 1) (uCons (uC (.int 1)) (uCons (uC (.int 100)) uNil)))) (uOp gGe (uOp gMul (uC (.int 4)) (uVar 0)) (uOp gMul (uC (.int 5)) (uVar 1))))))
theorem len_is_factor : ∀ ds pen n Q E, sp_is_factor ds pen n Q E → ds.length = 2 := by
  intro ds pen n Q E h
  unfold sp_is_factor at h
  split at h
  · rfl
  · exact h.elim
abbrev N_is_factor : List Str := ["top", "bottom"]
theorem run_is_factor {pen : PenT} {PX : UX → Nat → Prop} (h : ∀ x0 x1 n (Q : D → Nat → Prop), sp_is_factor [x0, x1] pen n Q PX → u_is_factor (Wd pen PX) { nx := fun ρ => Q .non ρ.fuel, rt := Q } ⟨[.dat x0, .dat x1], pen, n⟩) :
    ∀ ds n (Q : D → Nat → Prop), sp_is_factor ds pen n Q PX → u_is_factor (Wd pen PX) { nx := fun ρ => Q .non ρ.fuel, rt := Q } ⟨startU N_is_factor ds, pen, n⟩ := by
  intro ds n Q hs
  have hl := len_is_factor _ _ _ _ _ hs
  match ds, hl, hs with
  | [x0, x1], _, hs => exact h x0 x1 n Q hs
def u_is_policy (W : WU) : US :=
  (uSeq (uIfS (uOrT (uNotT (uTru (uB gIsi (uCons (uVar 0) (uCons (uC (.ty "tuple")) uNil))))) (uOrT (uTB (uOp gEqV (uB gLen (uCons (uVar 0) uNil)) (uC (.int 0)))) (uNotT (uTru (uB gIsi (uCons (uOp gIx (uVar 0) (uC (.int 0))) (uCons (uC (.ty "str")) uNil))))))) (uRet (uC (.bl false))) uSkip) (uSeq (uIfS (uTB (uOp gIn (uOp gIx (uVar 0) (uC (.int 0))) (uTup (uCons (uC (.str "exact")) (uCons (uC (.str "endless")) uNil))))) (uRet (uOp gEqV (uB gLen (uCons (uVar 0) uNil)) (uC (.int 1)))) uSkip) (uSeq (uIfS (uTB (uOp gEqV (uOp gIx (uVar 0) (uC (.int 0))) (uC (.str "table")))) (uRet (uAnd (uOp gEqV (uB gLen (uCons (uVar 0) uNil)) (uC (.int 2))) (uCall sp_are_entries [] W (uCons (uOp gIx (uVar 0) (uC (.int 1))) uNil)))) uSkip) (uSeq (uIfS (uTB (uOp gEqV (uOp gIx (uVar 0) (uC (.int 0))) (uC (.str "step")))) (uRet (uAnd (uOp gEqV (uB gLen (uCons (uVar 0) uNil)) (uC (.int 2))) (uCall sp_is_between [] W (uCons (uOp gIx (uVar 0) (uC (.int 1))) (uCons (uC (.int 0)) (uCons (uC (.int 1000000000000000000000000000000)) uNil)))))) uSkip) (uRet (uAnd (uOp gEqV (uOp gIx (uVar 0) (uC (.int 0))) (uC (.str "factor"))) (uAnd (uOp gEqV (uB gLen (uCons (uVar 0) uNil)) (uC (.int 3))) (uCall sp_is_factor [] W (uCons (uOp gIx (uVar 0) (uC (.int 1))) (uCons (uOp gIx (uVar 0) (uC (.int 2))) uNil))))))))))
theorem len_is_policy : ∀ ds pen n Q E, sp_is_policy ds pen n Q E → ds.length = 1 := by
  intro ds pen n Q E h
  unfold sp_is_policy at h
  split at h
  · rfl
  · exact h.elim
abbrev N_is_policy : List Str := ["thing"]
theorem run_is_policy {pen : PenT} {PX : UX → Nat → Prop} (h : ∀ x0 n (Q : D → Nat → Prop), sp_is_policy [x0] pen n Q PX → u_is_policy (Wd pen PX) { nx := fun ρ => Q .non ρ.fuel, rt := Q } ⟨[.dat x0], pen, n⟩) :
    ∀ ds n (Q : D → Nat → Prop), sp_is_policy ds pen n Q PX → u_is_policy (Wd pen PX) { nx := fun ρ => Q .non ρ.fuel, rt := Q } ⟨startU N_is_policy ds, pen, n⟩ := by
  intro ds n Q hs
  have hl := len_is_policy _ _ _ _ _ hs
  match ds, hl, hs with
  | [x0], _, hs => exact h x0 n Q hs
def u_policy_text (W : WU) : US :=
  (uSeq (uIfS (uTB (uOp gEqV (uOp gIx (uVar 0) (uC (.int 0))) (uC (.str "step")))) (uRet (uFs [(uC (.str "step ")), (uFmt (uOp gIx (uVar 0) (uC (.int 1))))])) uSkip) (uSeq (uIfS (uTB (uOp gEqV (uOp gIx (uVar 0) (uC (.int 0))) (uC (.str "factor")))) (uRet (uFs [(uC (.str "factor ")), (uFmt (uOp gIx (uVar 0) (uC (.int 1)))), (uC (.str "/")), (uFmt (uOp gIx (uVar 0) (uC (.int 2))))])) uSkip) (uSeq (uIfS (uTB (uOp gEqV (uOp gIx (uVar 0) (uC (.int 0))) (uC (.str "table")))) (uRet (uM1 gJoin (uC (.str " ")) (uOp gAdd (uLst (uCons (uC (.str "table")) uNil)) (uFr (uComp (uiS (uOp gIx (uVar 0) (uC (.int 1)))) [1, 2] (ugT [1, 2]) uYes (uFs [(uFmt (uVar 1)), (uC (.str ":")), (uFmt (uVar 2))])))))) uSkip) (uRet (uOp gIx (uVar 0) (uC (.int 0)))))))
abbrev N_policy_text : List Str := ["policy", "statement", "capacity"]
theorem run_policy_text {pen : PenT} {PX : UX → Nat → Prop} (h : ∀ x0 n (Q : D → Nat → Prop), sp_policy_text [x0] pen n Q PX → u_policy_text (Wd pen PX) { nx := fun ρ => Q .non ρ.fuel, rt := Q } ⟨[.dat x0, .emp, .emp], pen, n⟩) :
    ∀ ds n (Q : D → Nat → Prop), sp_policy_text ds pen n Q PX → u_policy_text (Wd pen PX) { nx := fun ρ => Q .non ρ.fuel, rt := Q } ⟨startU N_policy_text ds, pen, n⟩ := by
  intro ds n Q hs
  have hl := len_policy_text _ _ _ _ _ hs
  match ds, hl, hs with
  | [x0], _, hs => exact h x0 n Q hs
def u_number_in (W : WU) : US :=
  (uSeq (uSet 1 (uM1 gRmPre (uVar 0) (uC (.str "-")))) (uSeq (uIfS (uOrT (uNotT (uTB (uChain gLe gLe (uC (.int 1)) (uB gLen (uCons (uVar 1) uNil)) (uC (.int 40))))) (uNotT (uTru (uB gAll (uCons (uFr (uComp (uiStr (uVar 1)) [2] (ugN 2) uYes (uOp gInS (uVar 2) (uC (.str "0123456789"))))) uNil))))) (uRet (uC .non)) uSkip) (uRet (uB gIntT (uCons (uVar 0) uNil)))))
abbrev N_number_in : List Str := ["text", "digits", "sign"]
theorem run_number_in {pen : PenT} {PX : UX → Nat → Prop} (h : ∀ x0 n (Q : D → Nat → Prop), sp_number_in [x0] pen n Q PX → u_number_in (Wd pen PX) { nx := fun ρ => Q .non ρ.fuel, rt := Q } ⟨[.dat x0, .emp, .emp], pen, n⟩) :
    ∀ ds n (Q : D → Nat → Prop), sp_number_in ds pen n Q PX → u_number_in (Wd pen PX) { nx := fun ρ => Q .non ρ.fuel, rt := Q } ⟨startU N_number_in ds, pen, n⟩ := by
  intro ds n Q hs
  have hl := len_number_in _ _ _ _ _ hs
  match ds, hl, hs with
  | [x0], _, hs => exact h x0 n Q hs
def u_numbers_in (W : WU) : US :=
  (uRet (uB gTuple (uCons (uFr (uComp (uiS (uVar 0)) [1] (ugN 1) uYes (uCall sp_number_in [] W0 (uCons (uVar 1) uNil)))) uNil)))
abbrev N_numbers_in : List Str := ["words", "word"]
theorem run_numbers_in {pen : PenT} {PX : UX → Nat → Prop} (h : ∀ x0 n (Q : D → Nat → Prop), sp_numbers_in [x0] pen n Q PX → u_numbers_in (Wd pen PX) { nx := fun ρ => Q .non ρ.fuel, rt := Q } ⟨[.dat x0, .emp], pen, n⟩) :
    ∀ ds n (Q : D → Nat → Prop), sp_numbers_in ds pen n Q PX → u_numbers_in (Wd pen PX) { nx := fun ρ => Q .non ρ.fuel, rt := Q } ⟨startU N_numbers_in ds, pen, n⟩ := by
  intro ds n Q hs
  have hl := len_numbers_in _ _ _ _ _ hs
  match ds, hl, hs with
  | [x0], _, hs => exact h x0 n Q hs
def u_entries_in (W : WU) : US :=
  (uRet (uB gTuple (uCons (uFr (uComp (uiS (uVar 0)) [1] (ugN 1) uYes (uCall sp_numbers_in [] W0 (uCons (uM1 gSplit (uVar 1) (uC (.str ":"))) uNil)))) uNil)))
abbrev N_entries_in : List Str := ["words", "word"]
theorem run_entries_in {pen : PenT} {PX : UX → Nat → Prop} (h : ∀ x0 n (Q : D → Nat → Prop), sp_entries_in [x0] pen n Q PX → u_entries_in (Wd pen PX) { nx := fun ρ => Q .non ρ.fuel, rt := Q } ⟨[.dat x0, .emp], pen, n⟩) :
    ∀ ds n (Q : D → Nat → Prop), sp_entries_in ds pen n Q PX → u_entries_in (Wd pen PX) { nx := fun ρ => Q .non ρ.fuel, rt := Q } ⟨startU N_entries_in ds, pen, n⟩ := by
  intro ds n Q hs
  have hl := len_entries_in _ _ _ _ _ hs
  match ds, hl, hs with
  | [x0], _, hs => exact h x0 n Q hs
def u_policy_in (W : WU) : US :=
  (uSeq (uIfS (uTB (uOp gEqV (uOp gIx (uVar 0) (uC (.int 0))) (uC (.str "table")))) (uRet (uTup (uCons (uC (.str "table")) (uCons (uCall sp_entries_in [] W (uCons (uCut (uVar 0) (uPart (uC (.int 1))) uNoP) uNil)) uNil)))) uSkip) (uSeq (uIfS (uTB (uOp gEqV (uOp gIx (uVar 0) (uC (.int 0))) (uC (.str "step")))) (uRet (uOp gAdd (uTup (uCons (uC (.str "step")) uNil)) (uCall sp_numbers_in [] W (uCons (uCut (uVar 0) (uPart (uC (.int 1))) uNoP) uNil)))) uSkip) (uSeq (uIfS (uAndT (uTB (uOp gEqV (uOp gIx (uVar 0) (uC (.int 0))) (uC (.str "factor")))) (uTB (uOp gEqV (uB gLen (uCons (uVar 0) uNil)) (uC (.int 2))))) (uRet (uOp gAdd (uTup (uCons (uC (.str "factor")) uNil)) (uCall sp_numbers_in [] W (uCons (uM1 gSplit (uOp gIx (uVar 0) (uC (.int 1))) (uC (.str "/"))) uNil)))) uSkip) (uRet (uB gTuple (uCons (uVar 0) uNil))))))
abbrev N_policy_in : List Str := ["words"]
theorem run_policy_in {pen : PenT} {PX : UX → Nat → Prop} (h : ∀ x0 n (Q : D → Nat → Prop), sp_policy_in [x0] pen n Q PX → u_policy_in (Wd pen PX) { nx := fun ρ => Q .non ρ.fuel, rt := Q } ⟨[.dat x0], pen, n⟩) :
    ∀ ds n (Q : D → Nat → Prop), sp_policy_in ds pen n Q PX → u_policy_in (Wd pen PX) { nx := fun ρ => Q .non ρ.fuel, rt := Q } ⟨startU N_policy_in ds, pen, n⟩ := by
  intro ds n Q hs
  have hl := len_policy_in _ _ _ _ _ hs
  match ds, hl, hs with
  | [x0], _, hs => exact h x0 n Q hs
def u_read_policy (W : WU) : US :=
  (uSeq (uIfS (uNotT (uTru (uB gIsi (uCons (uVar 0) (uCons (uC (.ty "str")) uNil))))) (uRaiseF (.own "InvalidText") "line" W (uC (.int 0))) uSkip) (uSeq (uSet 1 (uCall sp_policy_in [] W (uCons (uM1 gSplit (uVar 0) (uC (.str " "))) uNil))) (uSeq (uIfS (uOrT (uNotT (uTru (uCall sp_is_policy [] W (uCons (uVar 1) uNil)))) (uTB (uOp gNe (uCall sp_policy_text [] W (uCons (uVar 1) uNil)) (uVar 0)))) (uRaiseF (.own "InvalidText") "line" W (uC (.int 0))) uSkip) (uRet (uVar 1)))))
abbrev N_read_policy : List Str := ["text", "policy"]
theorem run_read_policy {pen : PenT} {PX : UX → Nat → Prop} (h : ∀ x0 n (Q : D → Nat → Prop), sp_read_policy [x0] pen n Q PX → u_read_policy (Wd pen PX) { nx := fun ρ => Q .non ρ.fuel, rt := Q } ⟨[.dat x0, .emp], pen, n⟩) :
    ∀ ds n (Q : D → Nat → Prop), sp_read_policy ds pen n Q PX → u_read_policy (Wd pen PX) { nx := fun ρ => Q .non ρ.fuel, rt := Q } ⟨startU N_read_policy ds, pen, n⟩ := by
  intro ds n Q hs
  have hl := len_read_policy _ _ _ _ _ hs
  match ds, hl, hs with
  | [x0], _, hs => exact h x0 n Q hs
def u__law_draw (W : WU) : US :=
  (uSeq (uIfS (uTB (uOp gGt (uPenX 0 2) (uC (.int 0)))) (uSeq (uSet 5 (uOp gMod (uPenX 0 2) (uVar 1))) (uSeq (uPenRest 0 (uOp gDiv (uPenX 0 2) (uVar 1))) (uRet (uVar 5)))) uSkip) (uSeq (uSet 2 (uPenX 0 1)) (uSeq (uPenNext 0 (uOp gAdd (uVar 2) (uC (.int 1)))) (uSeq (uSet 3 (uOp gAdd (uOp gMul (uC (.int 76531)) (uVar 2)) (uC (.int 2125)))) (uSeq (uIfS (uTB (uOp gNe (uPenX 0 0) (uLst uNil))) (uSet 3 (uOp gIx (uPenX 0 0) (uOp gMod (uVar 2) (uB gLen (uCons (uPenX 0 0) uNil))))) uSkip) (uSeq (uIfS (uAndT (uTB (uOp gLt (uVar 2) (uB gLen (uCons (uPenX 0 0) uNil)))) (uTB (uOp gGe (uB gAbs (uCons (uVar 3) uNil)) (uOp gPow (uC (.int 10)) (uC (.int 18)))))) (uSeq (uSet 6 (uOp gAdd (uOp gMul (uC (.int 2)) (uB gAbs (uCons (uVar 3) uNil))) (uB gInt (uCons (uOp gLt (uVar 3) (uC (.int 0))) uNil)))) (uSeq (uPenRest 0 (uOp gDiv (uVar 6) (uVar 1))) (uRet (uOp gMod (uVar 6) (uVar 1))))) uSkip) (uSeq (uSet 4 (uOp gMod (uOp gPow (uOp gAdd (uOp gAdd (uOp gMod (uVar 3) (uC (.int 2147483579))) (uOp gMul (uC (.int 322089)) (uVar 2))) (uC (.int 889))) (uC (.int 5))) (uC (.int 2147483497)))) (uSeq (uSet 4 (uOp gMod (uOp gPow (uOp gAdd (uOp gMul (uVar 4) (uOp gAdd (uVar 2) (uC (.int 44359)))) (uOp gMul (uOp gMul (uC (.int 76597)) (uVar 2)) (uVar 2))) (uC (.int 3))) (uC (.int 2147483399)))) (uRet (uOp gMod (uOp gDiv (uVar 4) (uC (.int 32))) (uVar 1)))))))))))
abbrev N__law_draw : List Str := ["_law_pen_here", "_law_size", "_law_turn", "_law_cell", "_law_mixed", "_law_digit", "_law_great"]
theorem run__law_draw {pen : PenT} {PX : UX → Nat → Prop} (h : ∀ x0 x1 n (Q : D → Nat → Prop), sp__law_draw [x0, x1] pen n Q PX → u__law_draw (Wd pen PX) { nx := fun ρ => Q .non ρ.fuel, rt := Q } ⟨[.dat x0, .dat x1, .emp, .emp, .emp, .emp, .emp], pen, n⟩) :
    ∀ ds n (Q : D → Nat → Prop), sp__law_draw ds pen n Q PX → u__law_draw (Wd pen PX) { nx := fun ρ => Q .non ρ.fuel, rt := Q } ⟨startU N__law_draw ds, pen, n⟩ := by
  intro ds n Q hs
  have hl := len__law_draw _ _ _ _ _ hs
  match ds, hl, hs with
  | [x0, x1], _, hs => exact h x0 x1 n Q hs
def u__law_policy (W : WU) : US :=
  (uSeq (uSet 1 (uCall sp__law_draw [] W (uCons (uVar 0) (uCons (uC (.int 6)) uNil)))) (uSeq (uIfS (uTB (uOp gEqV (uVar 1) (uC (.int 0)))) (uRet (uTup (uCons (uC (.str "exact")) uNil))) uSkip) (uSeq (uIfS (uTB (uOp gEqV (uVar 1) (uC (.int 1)))) (uRet (uTup (uCons (uC (.str "endless")) uNil))) uSkip) (uSeq (uIfS (uTB (uOp gEqV (uVar 1) (uC (.int 2)))) (uRet (uTup (uCons (uC (.str "step")) (uCons (uOp gIx (uLst (uCons (uC (.int 0)) (uCons (uC (.int 1)) (uCons (uC (.int 2)) (uCons (uC (.int 3)) (uCons (uCall sp__law_draw [] W (uCons (uVar 0) (uCons (uC (.int 9)) uNil))) (uCons (uOp gPow (uC (.int 10)) (uC (.int 30))) uNil))))))) (uCall sp__law_draw [] W (uCons (uVar 0) (uCons (uC (.int 6)) uNil)))) uNil)))) uSkip) (uSeq (uIfS (uTB (uOp gEqV (uVar 1) (uC (.int 3)))) (uSeq (uSet 5 (uOp gAdd (uC (.int 1)) (uCall sp__law_draw [] W (uCons (uVar 0) (uCons (uOp gIx (uLst (uCons (uC (.int 3)) (uCons (uC (.int 80)) uNil))) (uCall sp__law_draw [] W (uCons (uVar 0) (uCons (uC (.int 2)) uNil)))) uNil))))) (uSeq (uSet 6 (uOp gDiv (uOp gAdd (uOp gMul (uC (.int 5)) (uVar 5)) (uC (.int 3))) (uC (.int 4)))) (uRet (uTup (uCons (uC (.str "factor")) (uCons (uB gMin2 (uCons (uC (.int 100)) (uCons (uOp gAdd (uVar 6) (uCall sp__law_draw [] W (uCons (uVar 0) (uCons (uOp gIx (uLst (uCons (uC (.int 1)) (uCons (uC (.int 2)) (uCons (uC (.int 40)) uNil)))) (uCall sp__law_draw [] W (uCons (uVar 0) (uCons (uC (.int 3)) uNil)))) uNil)))) uNil))) (uCons (uVar 5) uNil))))))) uSkip) (uSeq (uOwn 2 (ufLst uNil)) (uSeq (uSet 3 (uCall sp__law_draw [] W (uCons (uVar 0) (uCons (uC (.int 4)) uNil)))) (uSeq (uFor (uiR1 (uCons (uOp gIx (uLst (uCons (uC (.int 0)) (uCons (uC (.int 1)) (uCons (uC (.int 3)) (uCons (uC (.int 60)) uNil))))) (uCall sp__law_draw [] W (uCons (uVar 0) (uCons (uC (.int 4)) uNil)))) uNil)) (ugN 4) (uSeq (uIfS (uTB (uOp gLt (uVar 3) (uC (.int 60)))) (uApp 2 (uTup (uCons (uVar 3) (uCons (uOp gIx (uLst (uCons (uC (.int 0)) (uCons (uC (.int 1)) (uCons (uC (.int 4)) (uCons (uC (.int 7)) (uCons (uCall sp__law_draw [] W (uCons (uVar 0) (uCons (uC (.int 12)) uNil))) (uCons (uOp gSub (uOp gPow (uC (.int 10)) (uC (.int 40))) (uC (.int 1))) uNil))))))) (uCall sp__law_draw [] W (uCons (uVar 0) (uCons (uC (.int 6)) uNil)))) uNil)))) uSkip) (uSet 3 (uOp gAdd (uOp gAdd (uVar 3) (uC (.int 1))) (uCall sp__law_draw [] W (uCons (uVar 0) (uCons (uC (.int 3)) uNil))))))) (uThaw 2 (uRet (uTup (uCons (uC (.str "table")) (uCons (uB gTuple (uCons (uVar 2) uNil)) uNil)))))))))))))
theorem len__law_policy : ∀ ds pen n Q E, sp__law_policy ds pen n Q E → ds.length = 1 := by
  intro ds pen n Q E h
  unfold sp__law_policy at h
  split at h
  · rfl
  · exact h.elim
abbrev N__law_policy : List Str := ["_law_pen_here", "_law_way", "_law_found", "_law_last", "_law_turn", "_law_bottom", "_law_least"]
theorem run__law_policy {pen : PenT} {PX : UX → Nat → Prop} (h : ∀ x0 n (Q : D → Nat → Prop), sp__law_policy [x0] pen n Q PX → u__law_policy (Wd pen PX) { nx := fun ρ => Q .non ρ.fuel, rt := Q } ⟨[.dat x0, .emp, .emp, .emp, .emp, .emp, .emp], pen, n⟩) :
    ∀ ds n (Q : D → Nat → Prop), sp__law_policy ds pen n Q PX → u__law_policy (Wd pen PX) { nx := fun ρ => Q .non ρ.fuel, rt := Q } ⟨startU N__law_policy ds, pen, n⟩ := by
  intro ds n Q hs
  have hl := len__law_policy _ _ _ _ _ hs
  match ds, hl, hs with
  | [x0], _, hs => exact h x0 n Q hs
def u__law_heard (pen : PenT) (f : Addr) (th : UTh) : US :=
  (uSeq (uSet 1 (uC .non)) (uSeq (uSet 2 (uC .non)) (uSeq (uTryP pen (takesX exT exB [.own "GrowError"]) 3 (fun W1 => (uSet 2 (uAct pen f 0 th W1))) (uSet 1 (uVar 3))) (uSeq (uIfS (uTB (uOp gIs (uVar 1) (uC .non))) (uRet (uLst (uCons (uVar 2) uNil))) uSkip) (uSeq (uIfS (uOrT (uNotT (uTru (uB (gIsX exT exB) (uCons (uVar 1) (uCons (uC (.cls "InvalidText")) uNil))))) (uNotT (uTru (uB (gIsX exT exB) (uCons (uVar 1) (uCons (uC (.ty "ValueError")) uNil)))))) (uRet (uTup uNil)) uSkip) (uSeq (uIfS (uTru (uB (gIsX exT exB) (uCons (uVar 1) (uCons (uTup (uCons (uC (.cls "InvalidChoice")) (uCons (uC (.cls "InvalidDemand")) (uCons (uC (.cls "InvalidOrder")) (uCons (uC (.cls "InvalidPolicy")) (uCons (uC (.cls "InvalidProgram")) uNil)))))) uNil)))) (uRet (uTup uNil)) uSkip) (uRet (uTup (uCons (uFld ["InvalidText"] "line" (uVar 1)) uNil)))))))))
abbrev N__law_heard : List Str := ["_law_call", "_law_caught", "_law_found", "e"]
theorem run__law_heard (h : ∀ pen n f th (Q : D → Nat → Prop), sp__law_heard th pen n Q → u__law_heard pen f th { nx := fun ρ => Q .non ρ.fuel, rt := Q } ⟨[.dat (.ref f), .emp, .emp, .emp], pen, n⟩) :
    ∀ pen n f th (Q : D → Nat → Prop), sp__law_heard th pen n Q → u__law_heard pen f th { nx := fun ρ => Q .non ρ.fuel, rt := Q } ⟨startU N__law_heard [.ref f], pen, n⟩ := h
def u__law_words (W : WU) : US :=
  (uSeq (uIfS (uTB (uOp gEqV (uOp gIx (uVar 0) (uC (.int 0))) (uC (.str "step")))) (uRet (uOp gAdd (uC (.str "step ")) (uB gStr (uCons (uOp gIx (uVar 0) (uC (.int 1))) uNil)))) uSkip) (uSeq (uIfS (uTB (uOp gEqV (uOp gIx (uVar 0) (uC (.int 0))) (uC (.str "factor")))) (uRet (uOp gAdd (uOp gAdd (uOp gAdd (uC (.str "factor ")) (uB gStr (uCons (uOp gIx (uVar 0) (uC (.int 1))) uNil))) (uC (.str "/"))) (uB gStr (uCons (uOp gIx (uVar 0) (uC (.int 2))) uNil)))) uSkip) (uSeq (uSet 1 (uOp gIx (uVar 0) (uC (.int 0)))) (uSeq (uIfS (uTB (uOp gEqV (uOp gIx (uVar 0) (uC (.int 0))) (uC (.str "table")))) (uFor (uiS (uOp gIx (uVar 0) (uC (.int 1)))) (ugT [2, 3]) (uSet 1 (uOp gAdd (uOp gAdd (uOp gAdd (uOp gAdd (uVar 1) (uC (.str " "))) (uB gStr (uCons (uVar 2) uNil))) (uC (.str ":"))) (uB gStr (uCons (uVar 3) uNil))))) uSkip) (uRet (uVar 1))))))
abbrev N__law_words : List Str := ["_law_rule", "_law_found", "_law_one", "_law_two"]
theorem run__law_words {pen : PenT} {PX : UX → Nat → Prop} (h : ∀ x0 n (Q : D → Nat → Prop), sp__law_words [x0] pen n Q PX → u__law_words (Wd pen PX) { nx := fun ρ => Q .non ρ.fuel, rt := Q } ⟨[.dat x0, .emp, .emp, .emp], pen, n⟩) :
    ∀ ds n (Q : D → Nat → Prop), sp__law_words ds pen n Q PX → u__law_words (Wd pen PX) { nx := fun ρ => Q .non ρ.fuel, rt := Q } ⟨startU N__law_words ds, pen, n⟩ := by
  intro ds n Q hs
  have hl := len__law_words _ _ _ _ _ hs
  match ds, hl, hs with
  | [x0], _, hs => exact h x0 n Q hs
def u__law_number (W : WU) : US :=
  (uSeq (uIfS (uOrT (uNotT (uTB (uChain gLt gLt (uC (.int 0)) (uB gLen (uCons (uVar 0) uNil)) (uC (.int 42))))) (uTB (uOp gNe (uFr (uComp (uiStr (uVar 0)) [2] (ugN 2) (uTB (uOp gNotInS (uVar 2) (uC (.str "0123456789")))) (uVar 2))) (uLst uNil)))) (uRet (uUn gNeg (uC (.int 1)))) uSkip) (uSeq (uIfS (uOrT (uTB (uOp gNe (uB gStr (uCons (uB gIntT (uCons (uVar 0) uNil)) uNil)) (uVar 0))) (uTB (uOp gGt (uB gIntT (uCons (uVar 0) uNil)) (uVar 1)))) (uRet (uUn gNeg (uC (.int 1)))) uSkip) (uRet (uB gIntT (uCons (uVar 0) uNil)))))
abbrev N__law_number : List Str := ["_law_word", "_law_most", "_law_sign"]
theorem run__law_number {pen : PenT} {PX : UX → Nat → Prop} (h : ∀ x0 x1 n (Q : D → Nat → Prop), sp__law_number [x0, x1] pen n Q PX → u__law_number (Wd pen PX) { nx := fun ρ => Q .non ρ.fuel, rt := Q } ⟨[.dat x0, .dat x1, .emp], pen, n⟩) :
    ∀ ds n (Q : D → Nat → Prop), sp__law_number ds pen n Q PX → u__law_number (Wd pen PX) { nx := fun ρ => Q .non ρ.fuel, rt := Q } ⟨startU N__law_number ds, pen, n⟩ := by
  intro ds n Q hs
  have hl := len__law_number _ _ _ _ _ hs
  match ds, hl, hs with
  | [x0, x1], _, hs => exact h x0 x1 n Q hs
def u__law_pair (W : WU) : US :=
  (uSeq (uSet 2 (uM1 gSplit (uVar 0) (uVar 1))) (uSeq (uIfS (uTB (uOp gNe (uB gLen (uCons (uVar 2) uNil)) (uC (.int 2)))) (uRet (uTup uNil)) uSkip) (uSeq (uSet 3 (uTup (uCons (uCall sp__law_number [] W (uCons (uOp gIx (uVar 2) (uC (.int 0))) (uCons (uOp gPow (uC (.int 10)) (uC (.int 2))) uNil))) (uCons (uCall sp__law_number [] W (uCons (uOp gIx (uVar 2) (uC (.int 1))) (uCons (uOp gSub (uOp gPow (uC (.int 10)) (uC (.int 40))) (uC (.int 1))) uNil))) uNil)))) (uRet (uOp gIx (uLst (uCons (uVar 3) (uCons (uTup uNil) uNil))) (uB gInt (uCons (uOp gIn (uUn gNeg (uC (.int 1))) (uVar 3)) uNil)))))))
abbrev N__law_pair : List Str := ["_law_word", "_law_sign", "_law_parts", "_law_pair_here"]
theorem run__law_pair {pen : PenT} {PX : UX → Nat → Prop} (h : ∀ x0 x1 n (Q : D → Nat → Prop), sp__law_pair [x0, x1] pen n Q PX → u__law_pair (Wd pen PX) { nx := fun ρ => Q .non ρ.fuel, rt := Q } ⟨[.dat x0, .dat x1, .emp, .emp], pen, n⟩) :
    ∀ ds n (Q : D → Nat → Prop), sp__law_pair ds pen n Q PX → u__law_pair (Wd pen PX) { nx := fun ρ => Q .non ρ.fuel, rt := Q } ⟨startU N__law_pair ds, pen, n⟩ := by
  intro ds n Q hs
  have hl := len__law_pair _ _ _ _ _ hs
  match ds, hl, hs with
  | [x0, x1], _, hs => exact h x0 x1 n Q hs
def u__law_due (W : WU) : US :=
  (uSeq (uIfS (uNotT (uTru (uB gIsi (uCons (uVar 0) (uCons (uC (.ty "str")) uNil))))) (uRet (uTup (uCons (uC (.int 0)) uNil))) uSkip) (uSeq (uSet 1 (uM1 gSplit (uVar 0) (uC (.str " ")))) (uSeq (uIfS (uTB (uOp gIn (uVar 0) (uTup (uCons (uC (.str "exact")) (uCons (uC (.str "endless")) uNil))))) (uRet (uLst (uCons (uTup (uCons (uVar 0) uNil)) uNil))) uSkip) (uSeq (uIfS (uAndT (uTB (uOp gEqV (uOp gIx (uVar 1) (uC (.int 0))) (uC (.str "step")))) (uAndT (uTB (uOp gEqV (uB gLen (uCons (uVar 1) uNil)) (uC (.int 2)))) (uTB (uOp gGe (uCall sp__law_number [] W (uCons (uOp gIx (uVar 1) (uC (.int 1))) (uCons (uOp gPow (uC (.int 10)) (uC (.int 30))) uNil))) (uC (.int 0)))))) (uRet (uLst (uCons (uTup (uCons (uC (.str "step")) (uCons (uB gIntT (uCons (uOp gIx (uVar 1) (uC (.int 1))) uNil)) uNil))) uNil))) uSkip) (uSeq (uIfS (uAndT (uTB (uOp gEqV (uOp gIx (uVar 1) (uC (.int 0))) (uC (.str "factor")))) (uTB (uOp gEqV (uB gLen (uCons (uVar 1) uNil)) (uC (.int 2))))) (uSeq (uSet 4 (uCall sp__law_pair [] W (uCons (uOp gIx (uVar 1) (uC (.int 1))) (uCons (uC (.str "/")) uNil)))) (uSeq (uIfS (uOrT (uTB (uOp gEqV (uVar 4) (uTup uNil))) (uOrT (uNotT (uTB (uChain gLe gLe (uC (.int 1)) (uOp gIx (uVar 4) (uC (.int 1))) (uC (.int 100))))) (uTB (uOp gLt (uOp gMul (uC (.int 4)) (uOp gIx (uVar 4) (uC (.int 0)))) (uOp gMul (uC (.int 5)) (uOp gIx (uVar 4) (uC (.int 1)))))))) (uRet (uTup (uCons (uC (.int 0)) uNil))) uSkip) (uRet (uLst (uCons (uOp gAdd (uTup (uCons (uC (.str "factor")) uNil)) (uVar 4)) uNil))))) uSkip) (uSeq (uIfS (uOrT (uTB (uOp gNe (uOp gIx (uVar 1) (uC (.int 0))) (uC (.str "table")))) (uTB (uOp gGt (uB gLen (uCons (uVar 1) uNil)) (uC (.int 61))))) (uRet (uTup (uCons (uC (.int 0)) uNil))) uSkip) (uSeq (uSet 2 (uFr (uComp (uiS (uCut (uVar 1) (uPart (uC (.int 1))) uNoP)) [5] (ugN 5) uYes (uCall sp__law_pair [] W0 (uCons (uVar 5) (uCons (uC (.str ":")) uNil)))))) (uSeq (uIfS (uOrT (uTB (uOp gIn (uTup uNil) (uVar 2))) (uTB (uOp gNe (uFr (uComp (uiS (uVar 2)) [4] (ugN 4) (uTB (uOp gGt (uOp gIx (uVar 4) (uC (.int 0))) (uC (.int 59)))) (uVar 4))) (uLst uNil)))) (uRet (uTup (uCons (uC (.int 0)) uNil))) uSkip) (uSeq (uSet 3 (uFr (uComp (uiS (uVar 2)) [4] (ugN 4) uYes (uOp gIx (uVar 4) (uC (.int 0)))))) (uSeq (uIfS (uTB (uOp gNe (uVar 3) (uFr (ufSortS (uCons (uVar 3) uNil))))) (uRet (uTup (uCons (uC (.int 0)) uNil))) uSkip) (uRet (uLst (uCons (uTup (uCons (uC (.str "table")) (uCons (uB gTuple (uCons (uVar 2) uNil)) uNil))) uNil)))))))))))))
abbrev N__law_due : List Str := ["_law_it", "_law_words_here", "_law_pairs", "_law_marks", "_law_pair_here", "_law_word"]
theorem run__law_due {pen : PenT} {PX : UX → Nat → Prop} (h : ∀ x0 n (Q : D → Nat → Prop), sp__law_due [x0] pen n Q PX → u__law_due (Wd pen PX) { nx := fun ρ => Q .non ρ.fuel, rt := Q } ⟨[.dat x0, .emp, .emp, .emp, .emp, .emp], pen, n⟩) :
    ∀ ds n (Q : D → Nat → Prop), sp__law_due ds pen n Q PX → u__law_due (Wd pen PX) { nx := fun ρ => Q .non ρ.fuel, rt := Q } ⟨startU N__law_due ds, pen, n⟩ := by
  intro ds n Q hs
  have hl := len__law_due _ _ _ _ _ hs
  match ds, hl, hs with
  | [x0], _, hs => exact h x0 n Q hs
def u__law_bent (W : WU) : US :=
  (uSeq (uSet 2 (uC (.str " !#$&'()*+,-./0123456789:;<=>?@ABCDEFGHIJKLMNOPQRSTUVWXYZ[]^_`abcdefghijklmnopqrstuvwxyz{|}~\n\"\\"))) (uSeq (uSet 3 (uC (.str "0123456789:/ -"))) (uSeq (uSet 4 (uOp gIx (uLst (uCons (uOp gIx (uVar 2) (uCall sp__law_draw [] W (uCons (uVar 0) (uCons (uB gLen (uCons (uVar 2) uNil)) uNil)))) (uCons (uOp gIx (uVar 3) (uCall sp__law_draw [] W (uCons (uVar 0) (uCons (uB gLen (uCons (uVar 3) uNil)) uNil)))) uNil))) (uCall sp__law_draw [] W (uCons (uVar 0) (uCons (uC (.int 2)) uNil))))) (uSeq (uSet 5 (uCall sp__law_draw [] W (uCons (uVar 0) (uCons (uC (.int 8)) uNil)))) (uSeq (uSet 6 (uCall sp__law_draw [] W (uCons (uVar 0) (uCons (uOp gAdd (uB gLen (uCons (uVar 1) uNil)) (uC (.int 1))) uNil)))) (uSeq (uSet 7 (uM1 gSplit (uVar 1) (uC (.str " ")))) (uSeq (uSet 8 (uCall sp__law_draw [] W (uCons (uVar 0) (uCons (uB gLen (uCons (uVar 7) uNil)) uNil)))) (uSeq (uSet 9 (uCall sp__law_draw [] W (uCons (uVar 0) (uCons (uB gLen (uCons (uVar 7) uNil)) uNil)))) (uSeq (uIfS (uTB (uOp gLt (uVar 5) (uC (.int 2)))) (uRet (uOp gAdd (uOp gAdd (uCutS (uVar 1) uNoP (uPart (uVar 6))) (uVar 4)) (uCutS (uVar 1) (uPart (uOp gAdd (uVar 6) (uVar 5))) uNoP))) uSkip) (uSeq (uIfS (uTB (uOp gEqV (uVar 5) (uC (.int 2)))) (uRet (uOp gAdd (uCutS (uVar 1) uNoP (uPart (uVar 6))) (uCutS (uVar 1) (uPart (uOp gAdd (uVar 6) (uC (.int 1)))) uNoP))) uSkip) (uSeq (uIfS (uTB (uOp gEqV (uVar 5) (uC (.int 3)))) (uRet (uM1 gJoin (uC (.str " ")) (uOp gAdd (uCut (uVar 7) uNoP (uPart (uVar 8))) (uCut (uVar 7) (uPart (uOp gAdd (uVar 8) (uC (.int 1)))) uNoP)))) uSkip) (uSeq (uIfS (uTB (uOp gEqV (uVar 5) (uC (.int 4)))) (uRet (uM1 gJoin (uC (.str " ")) (uOp gAdd (uOp gAdd (uCut (uVar 7) uNoP (uPart (uVar 8))) (uLst (uCons (uOp gIx (uVar 7) (uVar 9)) uNil))) (uCut (uVar 7) (uPart (uVar 8)) uNoP)))) uSkip) (uSeq (uIfS (uTB (uOp gEqV (uVar 5) (uC (.int 5)))) (uRet (uM1 gJoin (uC (.str " ")) (uOp gAdd (uCut (uVar 7) uNoP (uPart (uVar 8))) (uRev (uCut (uVar 7) (uPart (uVar 8)) uNoP))))) uSkip) (uSeq (uSet 10 (uOp gIx (uLst (uCons (uC (.str "0")) (uCons (uC (.str "-")) (uCons (uOp gMulS (uC (.str "1")) (uC (.int 41))) (uCons (uC (.str " ")) (uCons (uC (.str "60:1")) (uCons (uC (.str "+")) uNil))))))) (uCall sp__law_draw [] W (uCons (uVar 0) (uCons (uC (.int 6)) uNil))))) (uRet (uOp gIx (uLst (uCons (uOp gAdd (uOp gAdd (uCutS (uVar 1) uNoP (uPart (uVar 6))) (uVar 10)) (uCutS (uVar 1) (uPart (uVar 6)) uNoP)) (uCons (uOp gAdd (uOp gAdd (uVar 1) (uC (.str " "))) (uVar 10)) uNil))) (uOp gSub (uVar 5) (uC (.int 6)))))))))))))))))))
abbrev N__law_bent : List Str := ["_law_pen_here", "_law_paper", "_law_signs", "_law_some", "_law_sign", "_law_way", "_law_at", "_law_words_here", "_law_one", "_law_two", "_law_more"]
theorem run__law_bent {pen : PenT} {PX : UX → Nat → Prop} (h : ∀ x0 x1 n (Q : D → Nat → Prop), sp__law_bent [x0, x1] pen n Q PX → u__law_bent (Wd pen PX) { nx := fun ρ => Q .non ρ.fuel, rt := Q } ⟨[.dat x0, .dat x1, .emp, .emp, .emp, .emp, .emp, .emp, .emp, .emp, .emp], pen, n⟩) :
    ∀ ds n (Q : D → Nat → Prop), sp__law_bent ds pen n Q PX → u__law_bent (Wd pen PX) { nx := fun ρ => Q .non ρ.fuel, rt := Q } ⟨startU N__law_bent ds, pen, n⟩ := by
  intro ds n Q hs
  have hl := len__law_bent _ _ _ _ _ hs
  match ds, hl, hs with
  | [x0, x1], _, hs => exact h x0 x1 n Q hs
def u__law_is_right (W : WU) : US :=
  (uRet (uOp gEqV (uB gRepr (uCons (uLam "_law_is_right" sp__law_heard fun WL => (uCall sp_read_policy [] WL (uCons (uVar 0) uNil))) uNil)) (uB gRepr (uCons (uCall sp__law_due [] W (uCons (uVar 0) uNil)) uNil))))
abbrev N__law_is_right : List Str := ["_law_it"]
theorem run__law_is_right {pen : PenT} {PX : UX → Nat → Prop} (h : ∀ x0 n (Q : D → Nat → Prop), sp__law_is_right [x0] pen n Q PX → u__law_is_right (Wd pen PX) { nx := fun ρ => Q .non ρ.fuel, rt := Q } ⟨[.dat x0], pen, n⟩) :
    ∀ ds n (Q : D → Nat → Prop), sp__law_is_right ds pen n Q PX → u__law_is_right (Wd pen PX) { nx := fun ρ => Q .non ρ.fuel, rt := Q } ⟨startU N__law_is_right ds, pen, n⟩ := by
  intro ds n Q hs
  have hl := len__law_is_right _ _ _ _ _ hs
  match ds, hl, hs with
  | [x0], _, hs => exact h x0 n Q hs
def u_law (W : WU) : US :=
  (uSeq (uFor (uiR1 (uCons (uC (.int 6)) uNil)) (ugN 2) (uSeq (uSet 4 (uCall sp__law_policy [] W0 (uCons (uVar 1) uNil))) (uSeq (uSet 5 (uCall sp__law_words [] W0 (uCons (uVar 4) uNil))) (uSeq (uIfS (uTB (uOp gNe (uCall sp__law_due [] W0 (uCons (uVar 5) uNil)) (uLst (uCons (uVar 4) uNil)))) (uRet (uC (.bl false))) uSkip) (uSeq (uFor (uiR1 (uCons (uC (.int 6)) uNil)) (ugN 6) (uSeq (uSet 7 (uCall sp__law_bent [] W0 (uCons (uVar 1) (uCons (uVar 5) uNil)))) (uIfS (uOrT (uNotT (uTru (uCall sp__law_is_right [] W0 (uCons (uVar 7) uNil)))) (uNotT (uTru (uCall sp__law_is_right [] W0 (uCons (uCall sp__law_bent [] W0 (uCons (uVar 1) (uCons (uVar 7) uNil))) uNil))))) (uRet (uC (.bl false))) uSkip))) (uIfS (uNotT (uTru (uCall sp__law_is_right [] W0 (uCons (uOp gIx (uLst (uCons (uC .non) (uCons (uC (.int 0)) (uCons (uC (.bl true)) (uCons (uLst (uCons (uVar 5) uNil)) (uCons (uVar 4) (uCons (uC (.dic [])) (uCons (uC (.str "")) (uCons (uC (.str "table ")) (uCons (uC (.str " exact")) uNil)))))))))) (uCall sp__law_draw [] W0 (uCons (uVar 1) (uCons (uC (.int 9)) uNil)))) uNil)))) (uRet (uC (.bl false))) uSkip)))))) (uSeq (uSet 3 (uLst (uCons (uC (.str "table")) (uCons (uC (.str "table 1:4")) (uCons (uC (.str "table 1:4 1:5")) (uCons (uC (.str "table 2:1 1:4")) (uCons (uC (.str "table 60:1")) (uCons (uC (.str "table 1:04")) (uCons (uC (.str "table  1:4")) (uCons (uC (.str "step")) uNil)))))))))) (uSeq (uSet 3 (uOp gAdd (uVar 3) (uLst (uCons (uC (.str "step -0")) (uCons (uC (.str "step 01")) (uCons (uOp gAdd (uC (.str "step ")) (uB gStr (uCons (uOp gAdd (uOp gPow (uC (.int 10)) (uC (.int 30))) (uC (.int 1))) uNil))) (uCons (uC (.str "factor 5/4")) (uCons (uC (.str "factor 4/4")) uNil)))))))) (uSeq (uSet 3 (uOp gAdd (uVar 3) (uLst (uCons (uC (.str "factor 101/2")) (uCons (uC (.str "Exact")) uNil))))) (uRet (uAnd (uOp gEqV (uFr (uComp (uiS (uVar 3)) [8] (ugN 8) (uNotT (uTru (uCall sp__law_is_right [] W0 (uCons (uVar 8) uNil)))) (uVar 8))) (uLst uNil)) (uCall sp__law_is_right [] W0 (uCons (uOp gAdd (uC (.str "step ")) (uOp gMulS (uC (.str "9")) (uC (.int 4301)))) uNil))))))))
abbrev N_law : List Str := ["_law_script", "_law_pen_here", "_law_turn", "_law_some", "_law_rule", "_law_paper", "_law_time", "_law_bent_here", "_law_it"]
end Lw

set_option Elab.async false
set_option linter.all false
set_option maxRecDepth 100000
set_option maxHeartbeats 0
namespace Lw
open PySem PySem.Spec L2 U
open PyProof.Rows hiding St
local macro_rules | `(tactic| simp_arith only [$ts,*]) => `(tactic| simp only [xGetD, xGetD1, xGetD2, xGetD3, xGetDO1, xGetDO2, xPkD, xPkD1, xPkD2, xPkF, xPkF1, xPkF2, sPenND, sPenRD, sAli, sAli1, sAli2, sAli3, sAliO, sAliO1, sAliO2, xCutS, xCutS1, xCutS2, xCutS3, xCutS4, xMulS, xNotInSg, xPartn, xStW, xEnW, xMaxD, xMaxD1, xMaxD2, iKy, iKy1, xFrz, xFrz1, xDComp, gIxD_dic, gIxD_lst, xZn, xZn1, xDic1, xDic11, xDic12, sThawF, xFKey, xZy, xZy1, xZy2, xfListZ, xfListZ1, xfSortP, xfSortP1, xRoot, xRoot1, xStep, xStep1, xStep2, xStepO, xLeaf, xLeaf1, xLf, xFv, xFv1, xDic0, sTNew, sTNew1, rtS1, sTSet, sTSet1, sTSet2, sTSet3, sTSet4, sTApp, sTApp1, sTApp2, sTPop, sTPop1, sTPop2, sTPopO, sRetT, sRetT1, sRetN1, sRetN11, sRetN0, sRetV, sRetV1, sThawT, sThawT1, sThawT2, sThawT3, xPeekN, xPeekN1, xPeekN2, xPeekN3, xPeekNT, xPeekNT1, xPeekNT2, xCallN, xCallN0, xCallN1, xCallN2, sXDrop, sXDrop1, sXSet, sXSet1, sXSet2, sXRet, xCallV, xCallV1, xNGet, xNGet1, xNGet2, xNGet3, xNGetO1, xNGetO2, xNItems, xNItems1, xVKey, xVKey1, xVKeyO, xDictV, xDictV1, xDictO, xDisp, xDisp1, xKNil, xKCons, xKCons1, xKCons2, endN1, endN2, endV1, xVNil, xVCons, xVCons1, xVCons2, xVLst, xPeekF, xPeekF1, xPeekF2, xFIf, xFIf1, xFIf2, xZ, xZ1, xfListOf, xfListOf1, xfListOf2, xOIx, xOIx1, sRows, xRevF, xRevF1, sTryP, xAct, xLam, hide0, hide1, hide2, hide3, sIns, sIns1, sIns2, sPop, sPop1, sRaiseF, xFld, iSt, iSt1, xSplit, xRmPre, xInSg, xFs, xFs0, xFs1, xFs2, xFs3, xFmt, xFmtI, xFmtS, xStrI, xStrS, xM1, xM11, xM12, xInK, xNotInK, xfSorted, xfSortS, xFrT, gIxD_dicS, sTryO, sTryO1, endsO_nx, xVar, xVar1, xC, xN, xOp, xOp1, xOp2, xUn, xUn1, xNil, xCons, xCons1, xCons2, xTup, xTup1, xLst, xLst1, xTru, xTru1, xOb, tru_non, tru_bl, tru_int, tru_lst, tru_tup, xTB, xTB1, xAndT, xAndT1, xAndT2, xOrT, xOrT1, xOrT2, xNotT, xNotT1, xAnd, xAnd1, xAnd2, xOr, xOr1, xOr2, xNot, xNot1, xIfE, xIfE1, xIfE2, xCh, xCh1, xCh2, xCh3, xCh3b, xCh4, xNoP, xPart, xPart1, xCut, xCut1, xCut2, xCut3, xB, xB1, xCall, xCall1, xCallK, xCallK1, perm_nil, perm_cons, xCat, xCat1, xCat2, xRev, xRevL, xRevT, sSkip, sSeq, sRet, sRetN, sIf, sIf1, sIf2, sDrop, sDrop1, sBrk, sCnt, sSet, sSet1, sAsg, sAsg1, gN, gT, gPut, put_nil, put_cons, sAug, sAug1, sAug2, xFr, xFr1, xfLst, sOwn, sOwn1, sApp, sApp1, sApp2, sThaw, sThaw1, sThaw2, sThaw3, xPeek, xPeek1, xPeekd, xPeek2, xPeekT, xPeekT1, xPeekTd, sSetIx, sSetIx1, sSetIx2, sSetIx3, sSetIx4, iSq, iSqL, iSqT, iEn, iEnL, iEnT, iR1, iR11, iR2, iR21, sFor, xComp, sPenN, sPenR, sOwnD, sDSet, sDSet1, sDSet2, sDSet3, sDSet5, dKi, dKs, sThawD, sThawD1, iIt, iIt1, gPn, gPt, gPs0, gPs1, gPs2, sTry, sTry1, sTryN, sTryR, sTryR2, sTryB, sTryC, sRaise, nOw0, nOw1, nOw2, fld0, fld1, xIsX1, xIsX2, xIsNotX, xIsNX, U.l0, U.l1, U.s0, U.s1, wS0, wS1, beq_self_eq_true, sSet2, sSet21, sPar, sPar1, sOwnM, sOwnM1, sExt, sExt1, sExt2, sWh1, sWh2, xIsNI, xIsNNo, xIsNotI, xIsNotNo, xIsNotL, xIsNotT, xIsNotS, xIsS, xIsL, xIsT, xNeS, sRetO, sRetO1, sRetF, xCallF, xCallF1, xCallFK, xCallFK1, List.getD_cons_zero, List.getD_cons_succ, Bool.not_true, Bool.not_false, Bool.not_not, xLt, xLe, xGt, xGe, xEqI, xEqS, xNeI, xLenS, xLenL, xLenT, xAddI, xAddS, xAddL, xAddT, xSubI, xMulI, xMulL, xMulT, xDivI, xModI, xPowI, xNegI, xIntI, xIntB, xAbsI, xMin2, xMax2, xListL, xListT, xTupleL, xTupleT, xCutL, xCutT, xIsN, xIsB, xIsNotB, xIx0T, xIx1T, xIx2T, xIx3T, xIx0L, xIx1L, Int.reduceSub, Int.reduceAdd, Int.reduceMul, Int.reduceToNat, Int.reducePow, Int.reduceNeg, $ts,*])
local macro_rules | `(tactic| simp_arith only []) => `(tactic| simp only [xGetD, xGetD1, xGetD2, xGetD3, xGetDO1, xGetDO2, xPkD, xPkD1, xPkD2, xPkF, xPkF1, xPkF2, sPenND, sPenRD, sAli, sAli1, sAli2, sAli3, sAliO, sAliO1, sAliO2, xCutS, xCutS1, xCutS2, xCutS3, xCutS4, xMulS, xNotInSg, xPartn, xStW, xEnW, xMaxD, xMaxD1, xMaxD2, iKy, iKy1, xFrz, xFrz1, xDComp, gIxD_dic, gIxD_lst, xZn, xZn1, xDic1, xDic11, xDic12, sThawF, xFKey, xZy, xZy1, xZy2, xfListZ, xfListZ1, xfSortP, xfSortP1, xRoot, xRoot1, xStep, xStep1, xStep2, xStepO, xLeaf, xLeaf1, xLf, xFv, xFv1, xDic0, sTNew, sTNew1, rtS1, sTSet, sTSet1, sTSet2, sTSet3, sTSet4, sTApp, sTApp1, sTApp2, sTPop, sTPop1, sTPop2, sTPopO, sRetT, sRetT1, sRetN1, sRetN11, sRetN0, sRetV, sRetV1, sThawT, sThawT1, sThawT2, sThawT3, xPeekN, xPeekN1, xPeekN2, xPeekN3, xPeekNT, xPeekNT1, xPeekNT2, xCallN, xCallN0, xCallN1, xCallN2, sXDrop, sXDrop1, sXSet, sXSet1, sXSet2, sXRet, xCallV, xCallV1, xNGet, xNGet1, xNGet2, xNGet3, xNGetO1, xNGetO2, xNItems, xNItems1, xVKey, xVKey1, xVKeyO, xDictV, xDictV1, xDictO, xDisp, xDisp1, xKNil, xKCons, xKCons1, xKCons2, endN1, endN2, endV1, xVNil, xVCons, xVCons1, xVCons2, xVLst, xPeekF, xPeekF1, xPeekF2, xFIf, xFIf1, xFIf2, xZ, xZ1, xfListOf, xfListOf1, xfListOf2, xOIx, xOIx1, sRows, xRevF, xRevF1, sTryP, xAct, xLam, hide0, hide1, hide2, hide3, sIns, sIns1, sIns2, sPop, sPop1, sRaiseF, xFld, iSt, iSt1, xSplit, xRmPre, xInSg, xFs, xFs0, xFs1, xFs2, xFs3, xFmt, xFmtI, xFmtS, xStrI, xStrS, xM1, xM11, xM12, xInK, xNotInK, xfSorted, xfSortS, xFrT, gIxD_dicS, sTryO, sTryO1, endsO_nx, xVar, xVar1, xC, xN, xOp, xOp1, xOp2, xUn, xUn1, xNil, xCons, xCons1, xCons2, xTup, xTup1, xLst, xLst1, xTru, xTru1, xOb, tru_non, tru_bl, tru_int, tru_lst, tru_tup, xTB, xTB1, xAndT, xAndT1, xAndT2, xOrT, xOrT1, xOrT2, xNotT, xNotT1, xAnd, xAnd1, xAnd2, xOr, xOr1, xOr2, xNot, xNot1, xIfE, xIfE1, xIfE2, xCh, xCh1, xCh2, xCh3, xCh3b, xCh4, xNoP, xPart, xPart1, xCut, xCut1, xCut2, xCut3, xB, xB1, xCall, xCall1, xCallK, xCallK1, perm_nil, perm_cons, xCat, xCat1, xCat2, xRev, xRevL, xRevT, sSkip, sSeq, sRet, sRetN, sIf, sIf1, sIf2, sDrop, sDrop1, sBrk, sCnt, sSet, sSet1, sAsg, sAsg1, gN, gT, gPut, put_nil, put_cons, sAug, sAug1, sAug2, xFr, xFr1, xfLst, sOwn, sOwn1, sApp, sApp1, sApp2, sThaw, sThaw1, sThaw2, sThaw3, xPeek, xPeek1, xPeekd, xPeek2, xPeekT, xPeekT1, xPeekTd, sSetIx, sSetIx1, sSetIx2, sSetIx3, sSetIx4, iSq, iSqL, iSqT, iEn, iEnL, iEnT, iR1, iR11, iR2, iR21, sFor, xComp, sPenN, sPenR, sOwnD, sDSet, sDSet1, sDSet2, sDSet3, sDSet5, dKi, dKs, sThawD, sThawD1, iIt, iIt1, gPn, gPt, gPs0, gPs1, gPs2, sTry, sTry1, sTryN, sTryR, sTryR2, sTryB, sTryC, sRaise, nOw0, nOw1, nOw2, fld0, fld1, xIsX1, xIsX2, xIsNotX, xIsNX, U.l0, U.l1, U.s0, U.s1, wS0, wS1, beq_self_eq_true, sSet2, sSet21, sPar, sPar1, sOwnM, sOwnM1, sExt, sExt1, sExt2, sWh1, sWh2, xIsNI, xIsNNo, xIsNotI, xIsNotNo, xIsNotL, xIsNotT, xIsNotS, xIsS, xIsL, xIsT, xNeS, sRetO, sRetO1, sRetF, xCallF, xCallF1, xCallFK, xCallFK1, List.getD_cons_zero, List.getD_cons_succ, Bool.not_true, Bool.not_false, Bool.not_not, xLt, xLe, xGt, xGe, xEqI, xEqS, xNeI, xLenS, xLenL, xLenT, xAddI, xAddS, xAddL, xAddT, xSubI, xMulI, xMulL, xMulT, xDivI, xModI, xPowI, xNegI, xIntI, xIntB, xAbsI, xMin2, xMax2, xListL, xListT, xTupleL, xTupleT, xCutL, xCutT, xIsN, xIsB, xIsNotB, xIx0T, xIx1T, xIx2T, xIx3T, xIx0L, xIx1L, Int.reduceSub, Int.reduceAdd, Int.reduceMul, Int.reduceToNat, Int.reducePow, Int.reduceNeg])
theorem pure__law_draw {pen : PenT} {PX : UX → Nat → Prop} : ∀ ds n (Q : D → Nat → Prop), sp__law_draw ds pen n Q PX → u__law_draw (Wd pen PX) { nx := fun ρ => Q .non ρ.fuel, rt := Q } ⟨startU N__law_draw ds, pen, n⟩ := by
  refine run__law_draw fun x y n Q h => ?_
  match y, h with
  | .int m, ⟨⟨p, c, hp, hk, hx⟩, h0, h1, h2, hQ⟩ =>
  have h1 := log_of h0 h1
  subst hx hp
  have md : ∀ z : Int, 0 ≤ z % m ∧ z % m < m := fun z => ⟨Int.emod_nonneg _ (by omega), Int.emod_lt_of_pos _ h0⟩
  have cn : ∀ z b : Int, 0 < b → 0 ≤ z % b ∧ z % b < b := fun z b h => ⟨Int.emod_nonneg _ (by omega), Int.emod_lt_of_pos _ h⟩
  unfold u__law_draw
  simp_arith only [xPenK0 hk, xPenK1 hk, xPenK2 hk, sPenN1 hk, sPenR1 hk]
  intro t ht
  refine sIfk.mpr ⟨fun hc => ?_, fun hc => ?_⟩
  · simp_arith only [xPenK0 hk, xPenK1 hk, xPenK2 hk, sPenN1 hk, sPenR1 hk]
    intro t1 ht1
    refine ⟨h0, ?_⟩
    intro t2 ht2
    exact ⟨⟨h0, h1⟩, Int.ediv_nonneg ht2 (by omega), n - 1, Nat.sub_le _ _, hQ _ (md t1).1 (md t1).2⟩
  · simp_arith only [xPenK0 hk, xPenK1 hk, xPenK2 hk, sPenN1 hk, sPenR1 hk]
    intro u hu0 hu1
    refine ⟨by omega, n - 1, by omega, .inl (by omega), ⟨by simp [D.flat, flats_ints], by simp [D.flat, D.flats]⟩, ?_⟩
    rw [eqv_ints_nil]
    refine kIf_with (fun z : Int => ⟨[.dat (.ref p), .dat (.int m), .dat (.int u), .dat (.int z), .emp, .emp, .emp], some (p, c), n - 1⟩) (fun z => ?_) fun hz => ?_
    · -- behind the cell
      simp_arith only [xPenK0 hk, xPenK1 hk, xPenK2 hk, sPenN1 hk, sPenR1 hk]
      refine kAnd_with (fun _ : Unit => ⟨[.dat (.ref p), .dat (.int m), .dat (.int u), .dat (.int z), .emp, .emp, .emp], some (p, c), n - 1⟩) (fun _ => ?_) fun hz => ?_
      · have b1 := cn z 2147483579 (by decide)
        simp_arith only []
        refine ⟨by decide, .inl (by omega), ⟨by decide, by decide, by omega⟩, by decide, ?_⟩
        generalize hw : (z % 2147483579 + 322089 * u + 889) ^ _ % 2147483497 = w
        have b2 : 0 ≤ w ∧ w < 2147483497 := by rw [← hw]; exact cn _ _ (by decide)
        have b3 := mul_bd (A := 2147483497) (B := 1048576 + 44359) b2.1 (by omega) (by omega : (0 : Int) ≤ u + 44359) (by omega)
        have b4 := mul_bd (A := 76597 * 1048576) (B := 1048576) (by omega : (0 : Int) ≤ 76597 * u) (by omega) hu0 (by omega)
        refine ⟨.inl (by omega), .inl (by omega), .inl (by omega), ⟨by decide, by decide, by omega⟩, by decide, ⟨by decide, by decide⟩, h0, hQ _ (md _).1 (md _).2⟩
      · cases hb : decide (u < ((c.ns.map D.int).length : Int))
        · simp_arith only []
          exact hz ()
        · simp_arith only []
          refine ⟨⟨by decide, by decide, by decide⟩, sIfk.mpr ⟨fun hg => ?_, fun hg => ?_⟩⟩
          · simp_arith only []
            refine ⟨.inl (by omega), ?_⟩
            cases hd : decide (z < 0)
            all_goals
              simp_arith only [sPenR1 hk]
              have gg : 0 ≤ (if z < 0 then -z else z) := by split <;> omega
              refine ⟨⟨h0, h1⟩, Int.ediv_nonneg (by simp; omega) (by omega), n - 1, Nat.le_refl _, h0, hQ _ (md _).1 (md _).2⟩
          · simp_arith only []
            exact hz ()
    · refine sIfk.mpr ⟨fun he => ?_, fun he => ?_⟩
      · have ne : 0 < (c.ns.length : Int) := by
          cases q : c.ns with
          | nil => rw [q] at he; simp at he
          | cons a b => simp
        have := cn u c.ns.length ne
        simp_arith only [xPenK0 hk, xPenK1 hk, xPenK2 hk, sPenN1 hk, sPenR1 hk, List.length_map]
        refine ⟨ne, gIx_lst this.1 (by rw [List.length_map]; exact this.2) fun d hd => ?_⟩
        obtain ⟨z, _, rfl⟩ := List.mem_map.mp hd
        exact hz z
      · simp_arith only []
        exact hz _


theorem pure_is_integer {pen : PenT} {PX : UX → Nat → Prop} : ∀ ds n (Q : D → Nat → Prop), sp_is_integer ds pen n Q PX → u_is_integer (Wd pen PX) { nx := fun ρ => Q .non ρ.fuel, rt := Q } ⟨startU N_is_integer ds, pen, n⟩ := by
  refine run_is_integer fun x n Q ⟨hx, hQ⟩ => ?_
  unfold u_is_integer
  simp_arith only [xIsiI hx, xIsiB hx]
  cases x <;> first | exact absurd hx Bool.false_ne_true | (simp_arith only [D.isI, D.isB, xIsiB hx]; exact hQ)
theorem pure_is_between {pen : PenT} {PX : UX → Nat → Prop} : ∀ ds n (Q : D → Nat → Prop), sp_is_between ds pen n Q PX → u_is_between (Wd pen PX) { nx := fun ρ => Q .non ρ.fuel, rt := Q } ⟨startU N_is_between ds, pen, n⟩ := by
  refine run_is_between fun x y z n Q h => ?_
  match y, z, h with
  | .int lo, .int hi, ⟨hx, hQ⟩ =>
  unfold u_is_between
  simp_arith only [sp_is_integer]
  refine ⟨hx, ?_⟩
  cases x with
  | int i =>
    simp_arith only []
    cases h1 : decide (lo ≤ i)
    · simp_arith only []
      simpa [btw, h1] using hQ
    · simp_arith only []
      simpa [btw, h1] using hQ
  | _ =>
    simp_arith only []
    exact hQ
theorem pure_is_factor {pen : PenT} {PX : UX → Nat → Prop} : ∀ ds n (Q : D → Nat → Prop), sp_is_factor ds pen n Q PX → u_is_factor (Wd pen PX) { nx := fun ρ => Q .non ρ.fuel, rt := Q } ⟨startU N_is_factor ds, pen, n⟩ := by
  refine run_is_factor fun x y n Q ⟨⟨hx, hy⟩, hQ⟩ => ?_
  unfold u_is_factor
  simp_arith only [sp_is_between]
  refine ⟨hx, ?_⟩
  cases h1 : btw x 1 100
  · simp_arith only []
    have e : facD x y = false := by cases x <;> cases y <;> simp_all [facD]
    rw [e] at hQ
    exact hQ
  · simp_arith only []
    refine ⟨hy, ?_⟩
    cases h2 : btw y 1 100
    · simp_arith only []
      have e : facD x y = false := by cases x <;> cases y <;> simp_all [facD]
      rw [e] at hQ
      exact hQ
    · cases x <;> first | exact absurd h1 Bool.false_ne_true | skip
      cases y <;> first | exact absurd h2 Bool.false_ne_true | skip
      simp_arith only []
      refine ⟨.inl (by decide), .inl (by decide), ?_⟩
      simpa [facD, h1, h2] using hQ
theorem pure_are_entries {pen : PenT} {PX : UX → Nat → Prop} : ∀ ds n (Q : D → Nat → Prop), sp_are_entries ds pen n Q PX → u_are_entries (Wd pen PX) { nx := fun ρ => Q .non ρ.fuel, rt := Q } ⟨startU N_are_entries ds, pen, n⟩ := by
  refine run_are_entries fun x n Q ⟨⟨k, hk⟩, hQ⟩ => ?_
  have hx := fit_tyn hk
  unfold u_are_entries
  simp_arith only [xIsiT hx]
  cases x with
  | tup ds =>
    simp_arith only [D.isT]
    refine sIfk.mpr ⟨fun hc => ?_, fun hc => ?_⟩
    · simp_arith only []
      have e : entD (.tup ds) = false := by
        have : ¬ ds.length ≤ 60 := by have := of_decide_eq_true hc; omega
        simp [entD, this]
      rw [e] at hQ
      exact hQ
    · simp_arith only []
      have hl : ds.length ≤ 60 := by have := of_decide_eq_false hc; omega
      have eD : entD (.tup ds) = entL 0 ds := by simp [entD, hl]
      rw [eD] at hQ
      have hf : ∃ j, D.fits j ds = true := by
        cases k with
        | zero => simp [D.fit] at hk
        | succ j => exact ⟨j, by simpa [D.fit] using hk⟩
      obtain ⟨j, hf⟩ := hf
      refine sFor1 (fun r ρ => ∃ lo y, ρ = ⟨[.dat (.tup ds), .dat (.int lo), y], pen, n⟩ ∧ entL lo r = entL 0 ds ∧ D.fits j r = true) ⟨0, _, rfl, rfl, hf⟩ ?_ ?_
      · rintro ρ ⟨lo, y, rfl, e, _⟩
        simp_arith only []
        rw [← e] at hQ
        exact hQ
      · rintro d r ρ ⟨lo, y, rfl, e, hfr⟩
        simp only [D.fits, Bool.and_eq_true] at hfr
        have hd := fit_tyn hfr.1
        simp_arith only [xIsiT hd]
        cases d with
        | tup es =>
          simp_arith only [D.isT]
          refine sIfk.mpr ⟨fun hc => ?_, fun hc => ?_⟩
          · simp_arith only []
            have : entL lo (.tup es :: r) = false := by
              match es, hc with
              | [], _ => simp [entL]
              | [_], _ => simp [entL]
              | _ :: _ :: _ :: _, _ => simp [entL]
              | [a, b], hc => simp at hc
            rw [← e, this] at hQ
            exact hQ
          · match es, hc, hfr with
            | [], hc, _ => simp at hc
            | [_], hc, _ => simp at hc
            | _ :: _ :: _ :: _, hc, _ => simp at hc; omega
            | [a, b], _, hfr =>
              simp_arith only [sp_is_between]
              have ha : a.tyn.isSome = true ∧ b.tyn.isSome = true := by
                cases j with
                | zero => simp [D.fit] at hfr
                | succ j =>
                  have := hfr.1
                  simp only [D.fit, D.fits, Bool.and_eq_true] at this
                  exact ⟨fit_tyn this.1, fit_tyn this.2.1⟩
              refine ⟨ha.1, ?_⟩
              cases h1 : btw a lo 59
              · simp_arith only []
                have : entL lo (.tup [a, b] :: r) = false := by
                  cases a <;> simp_all [entL]
                rw [← e, this] at hQ
                exact hQ
              · simp_arith only []
                refine ⟨ha.2, ?_⟩
                obtain ⟨i, rfl⟩ : ∃ i, a = .int i := by
                  cases a with
                  | int i => exact ⟨i, rfl⟩
                  | _ => exact absurd h1 Bool.false_ne_true
                cases h2 : btw b 0 9999999999999999999999999999999999999999
                · simp_arith only []
                  have : entL lo (.tup [.int i, b] :: r) = false := by simp [entL, h1, h2]
                  rw [← e, this] at hQ
                  exact hQ
                · simp_arith only []
                  exact ⟨i + 1, _, rfl, by rw [← e]; simp [entL, h1, h2], hfr.2⟩
        | _ =>
          simp_arith only [D.isT]
          rw [← e] at hQ
          first | exact hQ | exact absurd hd Bool.false_ne_true
  | _ =>
    simp_arith only [D.isT]
    first | exact hQ | exact absurd hx Bool.false_ne_true
theorem sq_exact_endless : ((("exact" : Str) == "endless") : Bool) = false := by decide
theorem sq_exact_table : ((("exact" : Str) == "table") : Bool) = false := by decide
theorem sq_exact_step : ((("exact" : Str) == "step") : Bool) = false := by decide
theorem sq_exact_factor : ((("exact" : Str) == "factor") : Bool) = false := by decide
theorem sq_endless_exact : ((("endless" : Str) == "exact") : Bool) = false := by decide
theorem sq_endless_table : ((("endless" : Str) == "table") : Bool) = false := by decide
theorem sq_endless_step : ((("endless" : Str) == "step") : Bool) = false := by decide
theorem sq_endless_factor : ((("endless" : Str) == "factor") : Bool) = false := by decide
theorem sq_table_exact : ((("table" : Str) == "exact") : Bool) = false := by decide
theorem sq_table_endless : ((("table" : Str) == "endless") : Bool) = false := by decide
theorem sq_table_step : ((("table" : Str) == "step") : Bool) = false := by decide
theorem sq_table_factor : ((("table" : Str) == "factor") : Bool) = false := by decide
theorem sq_step_exact : ((("step" : Str) == "exact") : Bool) = false := by decide
theorem sq_step_endless : ((("step" : Str) == "endless") : Bool) = false := by decide
theorem sq_step_table : ((("step" : Str) == "table") : Bool) = false := by decide
theorem sq_step_factor : ((("step" : Str) == "factor") : Bool) = false := by decide
theorem sq_factor_exact : ((("factor" : Str) == "exact") : Bool) = false := by decide
theorem sq_factor_endless : ((("factor" : Str) == "endless") : Bool) = false := by decide
theorem sq_factor_table : ((("factor" : Str) == "table") : Bool) = false := by decide
theorem sq_factor_step : ((("factor" : Str) == "step") : Bool) = false := by decide
theorem str_cases (s : Str) : s = "exact" ∨ s = "endless" ∨ s = "table" ∨ s = "step" ∨ s = "factor" ∨ (((s == "exact") = false ∧ (s == "endless") = false ∧ (s == "table") = false ∧ (s == "step") = false ∧ (s == "factor") = false) ∧ ((("exact" : Str) == s) = false ∧ (("endless" : Str) == s) = false)) := by
  by_cases h1 : s = "exact"
  · exact .inl h1
  by_cases h2 : s = "endless"
  · exact .inr (.inl h2)
  by_cases h3 : s = "table"
  · exact .inr (.inr (.inl h3))
  by_cases h4 : s = "step"
  · exact .inr (.inr (.inr (.inl h4)))
  by_cases h5 : s = "factor"
  · exact .inr (.inr (.inr (.inr (.inl h5))))
  refine .inr (.inr (.inr (.inr (.inr ⟨⟨?_, ?_, ?_, ?_, ?_⟩, ?_, ?_⟩)))) <;> simp [*] <;> intro z <;> simp_all
theorem fit_tup {k : Nat} {ds : List D} (h : D.fit k (.tup ds) = true) : ∃ j, D.fits j ds = true := by
  cases k with
  | zero => simp [D.fit] at h
  | succ j => exact ⟨j, by simpa [D.fit] using h⟩
theorem pure_is_policy {pen : PenT} {PX : UX → Nat → Prop} : ∀ ds n (Q : D → Nat → Prop), sp_is_policy ds pen n Q PX → u_is_policy (Wd pen PX) { nx := fun ρ => Q .non ρ.fuel, rt := Q } ⟨startU N_is_policy ds, pen, n⟩ := by
  refine run_is_policy fun x n Q ⟨⟨k, hk⟩, hQ⟩ => ?_
  have hx := fit_tyn hk
  unfold u_is_policy
  simp_arith only [xIsiT hx]
  cases x with
  | tup ds =>
    obtain ⟨j, hf⟩ := fit_tup hk
    simp_arith only [D.isT]
    cases ds with
    | nil =>
      rw [show decide ((([] : List D).length : Int) = 0) = true from rfl]
      simp_arith only []
      exact hQ
    | cons a r =>
      simp only [D.fits, Bool.and_eq_true] at hf
      have ha := fit_tyn hf.1
      have el : (((a :: r).length : Nat) : Int) = r.length + 1 := by rw [List.length_cons]; omega
      rw [el, decide_eq_false (by omega : ¬ ((r.length : Int) + 1 = 0))]
      simp_arith only [xIsiS ha]
      cases a with
      | str s =>
        have hs : PyData.strOk s = true := by have := hf.1; cases j <;> simpa [D.fit] using this
        simp_arith only [D.isS]
        refine (xInT (strs_in (ws := ["exact", "endless"]) hs (by decide +kernel))).mpr ?_
        have eP : polD (.tup (.str s :: r)) = polL s r := rfl
        rw [eP] at hQ
        show kN _ n (.bl (((["exact", "endless"] : List Str).map D.str).any fun d => D.eqv d (.str s)))
        simp only [List.map_cons, List.map_nil, List.any_cons, List.any_nil, eqv_str, Bool.or_false]
        rcases str_cases s with rfl | rfl | rfl | rfl | rfl | ⟨⟨n1, n2, n3, n4, n5⟩, n6, n7⟩
        all_goals simp_arith only [sq_exact_endless, sq_exact_table, sq_exact_step, sq_exact_factor, sq_endless_exact, sq_endless_table, sq_endless_step, sq_endless_factor, sq_table_exact, sq_table_endless, sq_table_step, sq_table_factor, sq_step_exact, sq_step_endless, sq_step_table, sq_step_factor, sq_factor_exact, sq_factor_endless, sq_factor_table, sq_factor_step, beq_self_eq_true, Bool.or_false, Bool.or_true, Bool.false_or, Bool.true_or, el]
        · cases r with
          | nil => exact hQ
          | cons b r =>
            have : polL "exact" (b :: r) = false := by
              cases r with
              | nil => simp only [polL, sq_exact_endless, sq_exact_table, sq_exact_step, sq_exact_factor, sq_endless_exact, sq_endless_table, sq_endless_step, sq_endless_factor, sq_table_exact, sq_table_endless, sq_table_step, sq_table_factor, sq_step_exact, sq_step_endless, sq_step_table, sq_step_factor, sq_factor_exact, sq_factor_endless, sq_factor_table, sq_factor_step, Bool.false_and, Bool.or_false]
              | cons c r => cases r <;> simp only [polL, sq_exact_endless, sq_exact_table, sq_exact_step, sq_exact_factor, sq_endless_exact, sq_endless_table, sq_endless_step, sq_endless_factor, sq_table_exact, sq_table_endless, sq_table_step, sq_table_factor, sq_step_exact, sq_step_endless, sq_step_table, sq_step_factor, sq_factor_exact, sq_factor_endless, sq_factor_table, sq_factor_step, Bool.false_and]
            rw [this] at hQ
            rw [decide_eq_false (by rw [List.length_cons]; omega)]
            exact hQ
        · cases r with
          | nil => exact hQ
          | cons b r =>
            have : polL "endless" (b :: r) = false := by
              cases r with
              | nil => simp only [polL, sq_exact_endless, sq_exact_table, sq_exact_step, sq_exact_factor, sq_endless_exact, sq_endless_table, sq_endless_step, sq_endless_factor, sq_table_exact, sq_table_endless, sq_table_step, sq_table_factor, sq_step_exact, sq_step_endless, sq_step_table, sq_step_factor, sq_factor_exact, sq_factor_endless, sq_factor_table, sq_factor_step, Bool.false_and, Bool.or_false]
              | cons c r => cases r <;> simp only [polL, sq_exact_endless, sq_exact_table, sq_exact_step, sq_exact_factor, sq_endless_exact, sq_endless_table, sq_endless_step, sq_endless_factor, sq_table_exact, sq_table_endless, sq_table_step, sq_table_factor, sq_step_exact, sq_step_endless, sq_step_table, sq_step_factor, sq_factor_exact, sq_factor_endless, sq_factor_table, sq_factor_step, Bool.false_and]
            rw [this] at hQ
            rw [decide_eq_false (by rw [List.length_cons]; omega)]
            exact hQ
        · match r, hf, hQ with
          | [], _, hQ => exact hQ
          | [b], hf, hQ =>
            rw [decide_eq_true (by simp)]
            simp_arith only [sp_are_entries]
            simp only [D.fits, Bool.and_eq_true] at hf
            refine ⟨⟨j, hf.2.1⟩, ?_⟩
            simpa only [polL, sq_exact_endless, sq_exact_table, sq_exact_step, sq_exact_factor, sq_endless_exact, sq_endless_table, sq_endless_step, sq_endless_factor, sq_table_exact, sq_table_endless, sq_table_step, sq_table_factor, sq_step_exact, sq_step_endless, sq_step_table, sq_step_factor, sq_factor_exact, sq_factor_endless, sq_factor_table, sq_factor_step, beq_self_eq_true, Bool.true_and, Bool.false_and, Bool.or_false] using hQ
          | b :: c :: r, _, hQ =>
            rw [decide_eq_false (by rw [List.length_cons, List.length_cons]; omega)]
            simp_arith only []
            have : polL "table" (b :: c :: r) = false := by cases r <;> simp only [polL, sq_exact_endless, sq_exact_table, sq_exact_step, sq_exact_factor, sq_endless_exact, sq_endless_table, sq_endless_step, sq_endless_factor, sq_table_exact, sq_table_endless, sq_table_step, sq_table_factor, sq_step_exact, sq_step_endless, sq_step_table, sq_step_factor, sq_factor_exact, sq_factor_endless, sq_factor_table, sq_factor_step, Bool.false_and]
            rw [this] at hQ
            exact hQ
        · match r, hf, hQ with
          | [], _, hQ => exact hQ
          | [b], hf, hQ =>
            rw [decide_eq_true (by simp)]
            simp_arith only [sp_is_between]
            simp only [D.fits, Bool.and_eq_true] at hf
            refine ⟨fit_tyn hf.2.1, ?_⟩
            simpa only [polL, sq_exact_endless, sq_exact_table, sq_exact_step, sq_exact_factor, sq_endless_exact, sq_endless_table, sq_endless_step, sq_endless_factor, sq_table_exact, sq_table_endless, sq_table_step, sq_table_factor, sq_step_exact, sq_step_endless, sq_step_table, sq_step_factor, sq_factor_exact, sq_factor_endless, sq_factor_table, sq_factor_step, beq_self_eq_true, Bool.true_and, Bool.false_and, Bool.false_or] using hQ
          | b :: c :: r, _, hQ =>
            rw [decide_eq_false (by rw [List.length_cons, List.length_cons]; omega)]
            simp_arith only []
            have : polL "step" (b :: c :: r) = false := by cases r <;> simp only [polL, sq_exact_endless, sq_exact_table, sq_exact_step, sq_exact_factor, sq_endless_exact, sq_endless_table, sq_endless_step, sq_endless_factor, sq_table_exact, sq_table_endless, sq_table_step, sq_table_factor, sq_step_exact, sq_step_endless, sq_step_table, sq_step_factor, sq_factor_exact, sq_factor_endless, sq_factor_table, sq_factor_step, Bool.false_and]
            rw [this] at hQ
            exact hQ
        · match r, hf, hQ with
          | [], _, hQ => exact hQ
          | [b], hf, hQ =>
            have : polL "factor" [b] = false := by simp only [polL, sq_exact_endless, sq_exact_table, sq_exact_step, sq_exact_factor, sq_endless_exact, sq_endless_table, sq_endless_step, sq_endless_factor, sq_table_exact, sq_table_endless, sq_table_step, sq_table_factor, sq_step_exact, sq_step_endless, sq_step_table, sq_step_factor, sq_factor_exact, sq_factor_endless, sq_factor_table, sq_factor_step, Bool.false_and, Bool.or_false]
            rw [this] at hQ
            exact hQ
          | [b, c], hf, hQ =>
            rw [decide_eq_true (by simp)]
            simp_arith only [sp_is_factor]
            simp only [D.fits, Bool.and_eq_true] at hf
            refine ⟨⟨fit_tyn hf.2.1, fit_tyn hf.2.2.1⟩, ?_⟩
            simpa only [polL, beq_self_eq_true, Bool.true_and] using hQ
          | b :: c :: d :: r, _, hQ =>
            rw [decide_eq_false (by rw [List.length_cons, List.length_cons, List.length_cons]; omega)]
            simp_arith only []
            exact hQ
        · simp_arith only [n1, n2, n3, n4, n5, n6, n7, Bool.or_false]
          have : polL s r = false := by
            match r with
            | [] => simp only [polL, n1, n2, Bool.or_false]
            | [_] => simp only [polL, n3, n4, Bool.or_false, Bool.false_and]
            | [_, _] => simp only [polL, n5, Bool.false_and]
            | _ :: _ :: _ :: _ => rfl
          rw [this] at hQ
          exact hQ
      | _ =>
        simp_arith only [D.isS]
        first | exact hQ | exact absurd ha Bool.false_ne_true
  | _ =>
    simp_arith only [D.isT]
    first | exact hQ | exact absurd hx Bool.false_ne_true


end Lw


set_option Elab.async false
set_option linter.all false
set_option maxRecDepth 100000
set_option maxHeartbeats 0
namespace Lw
open PySem PySem.Spec L2 U
open PyProof.Rows hiding St
local macro_rules | `(tactic| simp_arith only [$ts,*]) => `(tactic| simp only [xGetD, xGetD1, xGetD2, xGetD3, xGetDO1, xGetDO2, xPkD, xPkD1, xPkD2, xPkF, xPkF1, xPkF2, sPenND, sPenRD, sAli, sAli1, sAli2, sAli3, sAliO, sAliO1, sAliO2, xCutS, xCutS1, xCutS2, xCutS3, xCutS4, xMulS, xNotInSg, xPartn, xStW, xEnW, xMaxD, xMaxD1, xMaxD2, iKy, iKy1, xFrz, xFrz1, xDComp, gIxD_dic, gIxD_lst, xZn, xZn1, xDic1, xDic11, xDic12, sThawF, xFKey, xZy, xZy1, xZy2, xfListZ, xfListZ1, xfSortP, xfSortP1, xRoot, xRoot1, xStep, xStep1, xStep2, xStepO, xLeaf, xLeaf1, xLf, xFv, xFv1, xDic0, sTNew, sTNew1, rtS1, sTSet, sTSet1, sTSet2, sTSet3, sTSet4, sTApp, sTApp1, sTApp2, sTPop, sTPop1, sTPop2, sTPopO, sRetT, sRetT1, sRetN1, sRetN11, sRetN0, sRetV, sRetV1, sThawT, sThawT1, sThawT2, sThawT3, xPeekN, xPeekN1, xPeekN2, xPeekN3, xPeekNT, xPeekNT1, xPeekNT2, xCallN, xCallN0, xCallN1, xCallN2, sXDrop, sXDrop1, sXSet, sXSet1, sXSet2, sXRet, xCallV, xCallV1, xNGet, xNGet1, xNGet2, xNGet3, xNGetO1, xNGetO2, xNItems, xNItems1, xVKey, xVKey1, xVKeyO, xDictV, xDictV1, xDictO, xDisp, xDisp1, xKNil, xKCons, xKCons1, xKCons2, endN1, endN2, endV1, xVNil, xVCons, xVCons1, xVCons2, xVLst, xPeekF, xPeekF1, xPeekF2, xFIf, xFIf1, xFIf2, xZ, xZ1, xfListOf, xfListOf1, xfListOf2, xOIx, xOIx1, sRows, xRevF, xRevF1, sTryP, xAct, xLam, hide0, hide1, hide2, hide3, sIns, sIns1, sIns2, sPop, sPop1, sRaiseF, xFld, iSt, iSt1, xSplit, xRmPre, xInSg, xFs, xFs0, xFs1, xFs2, xFs3, xFmt, xFmtI, xFmtS, xStrI, xStrS, xM1, xM11, xM12, xInK, xNotInK, xfSorted, xfSortS, xFrT, gIxD_dicS, sTryO, sTryO1, endsO_nx, xVar, xVar1, xC, xN, xOp, xOp1, xOp2, xUn, xUn1, xNil, xCons, xCons1, xCons2, xTup, xTup1, xLst, xLst1, xTru, xTru1, xOb, tru_non, tru_bl, tru_int, tru_lst, tru_tup, xTB, xTB1, xAndT, xAndT1, xAndT2, xOrT, xOrT1, xOrT2, xNotT, xNotT1, xAnd, xAnd1, xAnd2, xOr, xOr1, xOr2, xNot, xNot1, xIfE, xIfE1, xIfE2, xCh, xCh1, xCh2, xCh3, xCh3b, xCh4, xNoP, xPart, xPart1, xCut, xCut1, xCut2, xCut3, xB, xB1, xCall, xCall1, xCallK, xCallK1, perm_nil, perm_cons, xCat, xCat1, xCat2, xRev, xRevL, xRevT, sSkip, sSeq, sRet, sRetN, sIf, sIf1, sIf2, sDrop, sDrop1, sBrk, sCnt, sSet, sSet1, sAsg, sAsg1, gN, gT, gPut, put_nil, put_cons, sAug, sAug1, sAug2, xFr, xFr1, xfLst, sOwn, sOwn1, sApp, sApp1, sApp2, sThaw, sThaw1, sThaw2, sThaw3, xPeek, xPeek1, xPeekd, xPeek2, xPeekT, xPeekT1, xPeekTd, sSetIx, sSetIx1, sSetIx2, sSetIx3, sSetIx4, iSq, iSqL, iSqT, iEn, iEnL, iEnT, iR1, iR11, iR2, iR21, sFor, xComp, sPenN, sPenR, sOwnD, sDSet, sDSet1, sDSet2, sDSet3, sDSet5, dKi, dKs, sThawD, sThawD1, iIt, iIt1, gPn, gPt, gPs0, gPs1, gPs2, sTry, sTry1, sTryN, sTryR, sTryR2, sTryB, sTryC, sRaise, nOw0, nOw1, nOw2, fld0, fld1, xIsX1, xIsX2, xIsNotX, xIsNX, U.l0, U.l1, U.s0, U.s1, wS0, wS1, beq_self_eq_true, sSet2, sSet21, sPar, sPar1, sOwnM, sOwnM1, sExt, sExt1, sExt2, sWh1, sWh2, xIsNI, xIsNNo, xIsNotI, xIsNotNo, xIsNotL, xIsNotT, xIsNotS, xIsS, xIsL, xIsT, xNeS, sRetO, sRetO1, sRetF, xCallF, xCallF1, xCallFK, xCallFK1, List.getD_cons_zero, List.getD_cons_succ, Bool.not_true, Bool.not_false, Bool.not_not, xLt, xLe, xGt, xGe, xEqI, xEqS, xNeI, xLenS, xLenL, xLenT, xAddI, xAddS, xAddL, xAddT, xSubI, xMulI, xMulL, xMulT, xDivI, xModI, xPowI, xNegI, xIntI, xIntB, xAbsI, xMin2, xMax2, xListL, xListT, xTupleL, xTupleT, xCutL, xCutT, xIsN, xIsB, xIsNotB, xIx0T, xIx1T, xIx2T, xIx3T, xIx0L, xIx1L, Int.reduceSub, Int.reduceAdd, Int.reduceMul, Int.reduceToNat, Int.reducePow, Int.reduceNeg, $ts,*])
local macro_rules | `(tactic| simp_arith only []) => `(tactic| simp only [xGetD, xGetD1, xGetD2, xGetD3, xGetDO1, xGetDO2, xPkD, xPkD1, xPkD2, xPkF, xPkF1, xPkF2, sPenND, sPenRD, sAli, sAli1, sAli2, sAli3, sAliO, sAliO1, sAliO2, xCutS, xCutS1, xCutS2, xCutS3, xCutS4, xMulS, xNotInSg, xPartn, xStW, xEnW, xMaxD, xMaxD1, xMaxD2, iKy, iKy1, xFrz, xFrz1, xDComp, gIxD_dic, gIxD_lst, xZn, xZn1, xDic1, xDic11, xDic12, sThawF, xFKey, xZy, xZy1, xZy2, xfListZ, xfListZ1, xfSortP, xfSortP1, xRoot, xRoot1, xStep, xStep1, xStep2, xStepO, xLeaf, xLeaf1, xLf, xFv, xFv1, xDic0, sTNew, sTNew1, rtS1, sTSet, sTSet1, sTSet2, sTSet3, sTSet4, sTApp, sTApp1, sTApp2, sTPop, sTPop1, sTPop2, sTPopO, sRetT, sRetT1, sRetN1, sRetN11, sRetN0, sRetV, sRetV1, sThawT, sThawT1, sThawT2, sThawT3, xPeekN, xPeekN1, xPeekN2, xPeekN3, xPeekNT, xPeekNT1, xPeekNT2, xCallN, xCallN0, xCallN1, xCallN2, sXDrop, sXDrop1, sXSet, sXSet1, sXSet2, sXRet, xCallV, xCallV1, xNGet, xNGet1, xNGet2, xNGet3, xNGetO1, xNGetO2, xNItems, xNItems1, xVKey, xVKey1, xVKeyO, xDictV, xDictV1, xDictO, xDisp, xDisp1, xKNil, xKCons, xKCons1, xKCons2, endN1, endN2, endV1, xVNil, xVCons, xVCons1, xVCons2, xVLst, xPeekF, xPeekF1, xPeekF2, xFIf, xFIf1, xFIf2, xZ, xZ1, xfListOf, xfListOf1, xfListOf2, xOIx, xOIx1, sRows, xRevF, xRevF1, sTryP, xAct, xLam, hide0, hide1, hide2, hide3, sIns, sIns1, sIns2, sPop, sPop1, sRaiseF, xFld, iSt, iSt1, xSplit, xRmPre, xInSg, xFs, xFs0, xFs1, xFs2, xFs3, xFmt, xFmtI, xFmtS, xStrI, xStrS, xM1, xM11, xM12, xInK, xNotInK, xfSorted, xfSortS, xFrT, gIxD_dicS, sTryO, sTryO1, endsO_nx, xVar, xVar1, xC, xN, xOp, xOp1, xOp2, xUn, xUn1, xNil, xCons, xCons1, xCons2, xTup, xTup1, xLst, xLst1, xTru, xTru1, xOb, tru_non, tru_bl, tru_int, tru_lst, tru_tup, xTB, xTB1, xAndT, xAndT1, xAndT2, xOrT, xOrT1, xOrT2, xNotT, xNotT1, xAnd, xAnd1, xAnd2, xOr, xOr1, xOr2, xNot, xNot1, xIfE, xIfE1, xIfE2, xCh, xCh1, xCh2, xCh3, xCh3b, xCh4, xNoP, xPart, xPart1, xCut, xCut1, xCut2, xCut3, xB, xB1, xCall, xCall1, xCallK, xCallK1, perm_nil, perm_cons, xCat, xCat1, xCat2, xRev, xRevL, xRevT, sSkip, sSeq, sRet, sRetN, sIf, sIf1, sIf2, sDrop, sDrop1, sBrk, sCnt, sSet, sSet1, sAsg, sAsg1, gN, gT, gPut, put_nil, put_cons, sAug, sAug1, sAug2, xFr, xFr1, xfLst, sOwn, sOwn1, sApp, sApp1, sApp2, sThaw, sThaw1, sThaw2, sThaw3, xPeek, xPeek1, xPeekd, xPeek2, xPeekT, xPeekT1, xPeekTd, sSetIx, sSetIx1, sSetIx2, sSetIx3, sSetIx4, iSq, iSqL, iSqT, iEn, iEnL, iEnT, iR1, iR11, iR2, iR21, sFor, xComp, sPenN, sPenR, sOwnD, sDSet, sDSet1, sDSet2, sDSet3, sDSet5, dKi, dKs, sThawD, sThawD1, iIt, iIt1, gPn, gPt, gPs0, gPs1, gPs2, sTry, sTry1, sTryN, sTryR, sTryR2, sTryB, sTryC, sRaise, nOw0, nOw1, nOw2, fld0, fld1, xIsX1, xIsX2, xIsNotX, xIsNX, U.l0, U.l1, U.s0, U.s1, wS0, wS1, beq_self_eq_true, sSet2, sSet21, sPar, sPar1, sOwnM, sOwnM1, sExt, sExt1, sExt2, sWh1, sWh2, xIsNI, xIsNNo, xIsNotI, xIsNotNo, xIsNotL, xIsNotT, xIsNotS, xIsS, xIsL, xIsT, xNeS, sRetO, sRetO1, sRetF, xCallF, xCallF1, xCallFK, xCallFK1, List.getD_cons_zero, List.getD_cons_succ, Bool.not_true, Bool.not_false, Bool.not_not, xLt, xLe, xGt, xGe, xEqI, xEqS, xNeI, xLenS, xLenL, xLenT, xAddI, xAddS, xAddL, xAddT, xSubI, xMulI, xMulL, xMulT, xDivI, xModI, xPowI, xNegI, xIntI, xIntB, xAbsI, xMin2, xMax2, xListL, xListT, xTupleL, xTupleT, xCutL, xCutT, xIsN, xIsB, xIsNotB, xIx0T, xIx1T, xIx2T, xIx3T, xIx0L, xIx1L, Int.reduceSub, Int.reduceAdd, Int.reduceMul, Int.reduceToNat, Int.reducePow, Int.reduceNeg])
theorem list1 {α : Type} {a x : α} (h : [a] = [x]) : a = x := by simpa using h
theorem list2 {α : Type} {a b x y : α} (h : [a, b] = [x, y]) : a = x ∧ b = y := by simpa using h
theorem mem2 {α : Type} {x a b : α} (h : x ∈ [a, b]) : x = a ∨ x = b := by simpa using h
theorem nS_foldP (i : Int) : Str.ofString (toString i) = nS i := rfl
theorem ent_split {e : Int × Int} (h : natI e.1 ∧ natI e.2) : Txt.split (entT e) ":" = [nS e.1, nS e.2] := two_split co_tl (by decide) (nS_free h.1 (by decide)) (nS_free h.2 (by decide))
def entD2 : D → D
  | .tup [.int a, .int b] => .str (entT (a, b))
  | d => d
theorem entM (es : List (Int × Int)) : (es.map enD).map entD2 = (es.map entT).map D.str := by rw [List.map_map, List.map_map]; rfl
theorem step_lit : (Str.ofString "step " : Str) = Str.ofString "step" ++ Str.ofString " " := by decide +kernel
theorem factor_lit : (Str.ofString "factor " : Str) = Str.ofString "factor" ++ Str.ofString " " := by decide +kernel
theorem polT_step (s : Int) : polT (.step s) = Str.ofString "step " ++ nS s := by rw [step_lit]; rfl
theorem polT_factor (t b : Int) : polT (.factor t b) = Str.ofString "factor " ++ (nS t ++ (Str.ofString "/" ++ nS b)) := by rw [factor_lit]; rfl
theorem pol_sz {P : Py} (ok : P.ok) : joinSz " " (polW P) := by
  have l := pol_len ok
  exact join_sz (j := 1) (k := 130) (by decide) (fun y hy => (word_tx ok y hy).2) (by omega)
theorem pure_policy_text {pen : PenT} {PX : UX → Nat → Prop} : ∀ ds n (Q : D → Nat → Prop), sp_policy_text ds pen n Q PX → u_policy_text (Wd pen PX) { nx := fun ρ => Q .non ρ.fuel, rt := Q } ⟨startU N_policy_text ds, pen, n⟩ := by
  refine run_policy_text ?_
  rintro x n Q ⟨P, e, ok, hQ⟩
  obtain rfl := list1 e
  unfold u_policy_text
  cases P with
  | exact => simp_arith only [Py.d, sq_exact_endless, sq_exact_table, sq_exact_step, sq_exact_factor, sq_endless_exact, sq_endless_table, sq_endless_step, sq_endless_factor, sq_table_exact, sq_table_endless, sq_table_step, sq_table_factor, sq_step_exact, sq_step_endless, sq_step_table, sq_step_factor, sq_factor_exact, sq_factor_endless, sq_factor_table, sq_factor_step]; exact hQ
  | endless => simp_arith only [Py.d, sq_exact_endless, sq_exact_table, sq_exact_step, sq_exact_factor, sq_endless_exact, sq_endless_table, sq_endless_step, sq_endless_factor, sq_table_exact, sq_table_endless, sq_table_step, sq_table_factor, sq_step_exact, sq_step_endless, sq_step_table, sq_step_factor, sq_factor_exact, sq_factor_endless, sq_factor_table, sq_factor_step]; exact hQ
  | step s =>
    have h1 := step_nat ok
    have l1 := nS_l40 h1
    have g1 := small_log (nat_small h1)
    have z : (Str.ofString "step ").length = 5 := by rw [PySem.ofString_length]; rfl
    have z0 : Str.empty.length = 0 := rfl
    rw [polT_step] at hQ
    simp_arith only [Py.d, sq_exact_endless, sq_exact_table, sq_exact_step, sq_exact_factor, sq_endless_exact, sq_endless_table, sq_endless_step, sq_endless_factor, sq_table_exact, sq_table_endless, sq_table_step, sq_table_factor, sq_step_exact, sq_step_endless, sq_step_table, sq_step_factor, sq_factor_exact, sq_factor_endless, sq_factor_table, sq_factor_step, nS_foldP, empty_app, strLen_append, z, z0]
    exact ⟨lim5 (by omega), g1, lim5 (by omega), hQ⟩
  | factor t b =>
    have h1 := small_nI ⟨ok.1, ok.2.1⟩
    have h2 := small_nI ⟨ok.2.2.1, ok.2.2.2.1⟩
    have l1 := nS_l40 h1
    have l2 := nS_l40 h2
    have g1 := small_log (nat_small h1)
    have g2 := small_log (nat_small h2)
    have z : (Str.ofString "factor ").length = 7 := by rw [PySem.ofString_length]; rfl
    have z1 : (Str.ofString "/").length = 1 := by rw [PySem.ofString_length]; rfl
    have z0 : Str.empty.length = 0 := rfl
    rw [polT_factor] at hQ
    simp_arith only [Py.d, sq_exact_endless, sq_exact_table, sq_exact_step, sq_exact_factor, sq_endless_exact, sq_endless_table, sq_endless_step, sq_endless_factor, sq_table_exact, sq_table_endless, sq_table_step, sq_table_factor, sq_step_exact, sq_step_endless, sq_step_table, sq_step_factor, sq_factor_exact, sq_factor_endless, sq_factor_table, sq_factor_step, nS_foldP, empty_app, sapp_assoc, strLen_append, z, z0, z1]
    exact ⟨lim5 (by omega), g1, lim5 (by omega), lim5 (by omega), g2, lim5 (by omega), hQ⟩
  | table es =>
    simp_arith only [Py.d, sq_exact_endless, sq_exact_table, sq_exact_step, sq_exact_factor, sq_endless_exact, sq_endless_table, sq_endless_step, sq_endless_factor, sq_table_exact, sq_table_endless, sq_table_step, sq_table_factor, sq_step_exact, sq_step_endless, sq_step_table, sq_step_factor, sq_factor_exact, sq_factor_endless, sq_factor_table, sq_factor_step]
    refine xMap entD2 (lim5 (by rw [List.length_map]; have := ok.1; omega)) (by rfl) (fun d hd m T hT => ?_) ?_
    · obtain ⟨e, he, rfl⟩ := List.mem_map.mp hd
      obtain ⟨h1, h2⟩ := ent_nat ok.2 e he
      have l1 := nS_l40 h1
      have l2 := nS_l40 h2
      have g1 := small_log (nat_small h1)
      have g2 := small_log (nat_small h2)
      have z1 : (Str.ofString ":").length = 1 := by rw [PySem.ofString_length]; rfl
      have z0 : Str.empty.length = 0 := rfl
      have hT : T (.str (nS e.1 ++ (Str.ofString ":" ++ nS e.2))) m := hT
      simp_arith only [enD, nS_foldP, empty_app, sapp_assoc, strLen_append, z0, z1]
      exact ⟨g1, lim5 (by omega), lim5 (by omega), g2, lim5 (by omega), hT⟩
    · rw [entM]
      (try simp_arith only [])
      refine ⟨lim5 (by rw [List.length_map, List.length_map]; have := ok.1; simp; omega), ?_⟩
      rw [show ([D.str (Str.ofString "table")] ++ (es.map entT).map D.str) = (polW (.table es)).map D.str from rfl]
      rw [xJoinL rfl]
      exact ⟨pol_sz ok, hQ⟩

/-! ### what reads texts -/
theorem dig_fold : ∀ (cs : List Nat) (a : Nat), NumText.AllDigits cs → cs.foldl (fun acc c => acc * 10 + (c - 48)) a < (a + 1) * 10 ^ cs.length
  | [], a, _ => by simp
  | c :: cs, a, h => by
    have hc := h.head
    have := dig_fold cs (a * 10 + (c - 48)) h.tail
    rw [List.foldl_cons, List.length_cons, Nat.pow_succ]
    refine Nat.lt_of_lt_of_le this ?_
    rw [Nat.mul_comm (10 ^ cs.length) 10, ← Nat.mul_assoc]
    exact Nat.mul_le_mul_right _ (by omega)
theorem dig_lt {cs : List Nat} (h : NumText.AllDigits cs) {k : Nat} (hk : cs.length ≤ k) : NumText.digitsVal cs < 10 ^ k := by
  have := dig_fold cs 0 h
  unfold NumText.digitsVal
  refine Nat.lt_of_lt_of_le this ?_
  rw [Nat.zero_add, Nat.one_mul]
  exact Nat.pow_le_pow_right (by decide) hk
theorem rm_len (w : Str) : (Txt.removeprefix w "-").length ≤ w.length := by
  rw [StrLaws.removeprefix_eq]
  split
  · show ((w.cps.toList.drop _).take _).toArray.size ≤ w.cps.size
    rw [List.size_toArray, List.length_take, List.length_drop, Array.length_toList]
    omega
  · exact Nat.le_refl _
/-- behind a sign, or as it is -/
theorem rm_tl (w : Str) : TL.tl w = 45 :: TL.tl (Txt.removeprefix w "-") ∨ Txt.removeprefix w "-" = w := by
  rw [StrLaws.removeprefix_eq]
  split
  · rename_i h
    left
    rw [Bool.and_eq_true, decide_eq_true_eq] at h
    have hl : (Str.ofString "-").length = 1 := rfl
    have h2 : (w.cps.extract 0 (0 + (Str.ofString "-").length) == (Str.ofString "-").cps) = true := h.2
    have h3 := congrArg Array.toList (eq_of_beq h2)
    rw [Array.toList_extract, hl] at h3
    have h4 : (w.cps.toList.drop 0).take 1 = [45] := by
      have e : (Str.ofString "-").cps.toList = [45] := mi_tl
      rw [e] at h3
      exact h3
    rw [List.drop_zero] at h4
    show w.cps.toList = 45 :: ((w.cps.toList.drop (Str.ofString "-").length).take (w.length - (Str.ofString "-").length))
    rw [hl, List.take_of_length_le (by rw [List.length_drop, Array.length_toList]; exact Nat.le_refl _)]
    have := List.take_append_drop 1 w.cps.toList
    rw [h4] at this
    exact this.symm
  · exact .inr rfl
theorem numG_ok {w : Str} (h1 : 1 ≤ (Txt.removeprefix w "-").length ∧ (Txt.removeprefix w "-").length ≤ 40) (h2 : allDig (Txt.removeprefix w "-") = true) : ∃ i : Int, PySem.intText? w = some i ∧ smallI i ∧ w.length ≤ 41 := by
  have hd := allDig_iff.mp h2
  have ne : TL.tl (Txt.removeprefix w "-") ≠ [] := fun z => by
    have := TL.len_tl (Txt.removeprefix w "-")
    rw [z] at this
    simp at this
    omega
  have b := dig_lt hd (k := 40) (by rw [← TL.len_tl]; exact h1.2)
  have b2 : (10 : Nat) ^ 40 < 10 ^ 60 := by decide
  rcases rm_tl w with e | e
  · have l : w.length ≤ 41 := by
      rw [TL.len_tl, e, List.length_cons, ← TL.len_tl]
      omega
    refine ⟨_, intText_neg e hd ne (by omega), ?_, l⟩
    unfold smallI
    omega
  · rw [e] at hd ne b h1
    refine ⟨_, intText_digits hd ne (by omega), ?_, by omega⟩
    show (((NumText.digitsVal (TL.tl w) : Nat) : Int)).natAbs < 10 ^ 60
    omega
theorem numG_cases (w : Str) : numG w = .non ∨ ∃ i : Int, numG w = .int i ∧ smallI i := by
  unfold numG
  split
  · rename_i h
    obtain ⟨i, e, hi, _⟩ := numG_ok h.1 h.2
    rw [e]
    exact .inr ⟨i, rfl, hi⟩
  · exact .inl rfl
theorem numG_fit (w : Str) (k : Nat) : D.fit k (numG w) = true := by
  rcases numG_cases w with e | ⟨i, e, hi⟩
  · rw [e]; rfl
  · rw [e]; simp only [D.fit]; exact decide_eq_true hi
theorem numG_nS {i : Int} (h : natI i) : numG (nS i) = .int i := by
  have er : Txt.removeprefix (nS i) "-" = nS i := by
    show Txt.removeprefix (nS i) (Str.ofString "-") = nS i
    rw [lit1 mi_tl]; exact rmpre_none (nS_free h (by decide))
  unfold numG
  rw [er, if_pos ⟨⟨nS_pos i, nS_l40 h⟩, allDig_iff.mpr (by rw [nS_tl h]; exact TL.numL_digits _)⟩, nS_int h]
theorem numsG_fit (ws : List Str) (k : Nat) : D.fits k (ws.map numG) = true := fits_iff.mpr fun d hd => by
  obtain ⟨w, _, rfl⟩ := List.mem_map.mp hd
  exact numG_fit w k
theorem polD_py {x : D} (h : polD x = true) : ∃ P : Py, P.ok ∧ x = P.d := by
  unfold polD at h
  split at h
  · rename_i s r
    unfold polL at h
    split at h
    · rcases Bool.or_eq_true_iff.mp h with h | h
      · exact ⟨.exact, trivial, by rw [eq_of_beq h]; rfl⟩
      · exact ⟨.endless, trivial, by rw [eq_of_beq h]; rfl⟩
    · rename_i x
      rcases Bool.or_eq_true_iff.mp h with h | h
      · rw [Bool.and_eq_true] at h
        have h2 := h.2
        cases x with
        | tup ds =>
          simp only [entD] at h2
          rw [Bool.and_eq_true, decide_eq_true_eq] at h2
          have : ∀ (ds : List D) (lo : Int), entL lo ds = true → ∃ es : List (Int × Int), ds = es.map enD ∧ asc lo es := by
            intro ds
            induction ds with
            | nil => intro lo _; exact ⟨[], rfl, trivial⟩
            | cons d ds ih =>
              intro lo h
              unfold entL at h
              split at h
              · rename_i h0; cases h0
              · rename_i a b r h0
                obtain ⟨rfl, rfl⟩ := List.cons.inj h0
                simp only [Bool.and_eq_true] at h
                obtain ⟨es, e1, e2⟩ := ih _ h.2
                have hb := h.1.2
                unfold btw at hb
                split at hb
                · rename_i c
                  simp only [Bool.and_eq_true, decide_eq_true_eq] at hb
                  have ha := h.1.1
                  simp only [btw, Bool.and_eq_true, decide_eq_true_eq] at ha
                  exact ⟨(a, c) :: es, by rw [e1]; rfl, ha.1, ha.2, hb.1, hb.2, e2⟩
                · cases hb
              · cases h
          obtain ⟨es, e1, e2⟩ := this ds 0 h2.2
          refine ⟨.table es, ⟨by rw [e1, List.length_map] at h2; exact h2.1, e2⟩, ?_⟩
          rw [eq_of_beq h.1, e1]; rfl
        | _ => simp [entD] at h2
      · rw [Bool.and_eq_true] at h
        have h2 := h.2
        cases x with
        | int i =>
          simp only [btw, Bool.and_eq_true, decide_eq_true_eq] at h2
          exact ⟨.step i, h2, by rw [eq_of_beq h.1]; rfl⟩
        | _ => simp [btw] at h2
    · rename_i x y
      rw [Bool.and_eq_true] at h
      have h2 := h.2
      unfold facD at h2
      split at h2
      · rename_i t b
        simp only [btw, Bool.and_eq_true, decide_eq_true_eq] at h2
        exact ⟨.factor t b, ⟨h2.1.1.1, h2.1.1.2, h2.1.2.1, h2.1.2.2, h2.2⟩, by rw [eq_of_beq h.1]; rfl⟩
      · cases h2
    · cases h
  · cases h
theorem py_inj {P Q : Py} (h : P.d = Q.d) : P = Q := by
  have en : ∀ {a b : List (Int × Int)}, a.map enD = b.map enD → a = b := by
    intro a
    induction a with
    | nil => intro b h; cases b with
      | nil => rfl
      | cons y b => cases h
    | cons x a ih => intro b h; cases b with
      | nil => cases h
      | cons y b =>
        rw [List.map_cons, List.map_cons] at h
        obtain ⟨h1, h2⟩ := List.cons.inj h
        unfold enD at h1
        injection h1 with h1
        injection h1 with h1 h3
        injection h1 with h1
        injection h3 with h3
        injection h3 with h3
        rw [ih h2, Prod.ext h1 h3]
  have q1 : Str.ofString "exact" ≠ Str.ofString "endless" := lit_ne
  have q2 : Str.ofString "step" ≠ Str.ofString "table" := lit_ne
  cases P <;> cases Q <;> simp only [Py.d, D.tup.injEq, List.cons.injEq, D.str.injEq, D.int.injEq, and_true, true_and, reduceCtorEq, and_false, false_and] at h
  · rfl
  · exact absurd h q1
  · exact absurd h.symm q1
  · rfl
  · rw [h]
  · rw [h.1, h.2]
  · rw [en h]
theorem polG_ok {P : Py} (ok : P.ok) : polG (polW P) = P.d := by
  have w1 : Str.ofString "endless" ≠ Str.ofString "table" := lit_ne
  have w2 : Str.ofString "endless" ≠ Str.ofString "step" := lit_ne
  have w3 : Str.ofString "exact" ≠ Str.ofString "table" := lit_ne
  have w4 : Str.ofString "exact" ≠ Str.ofString "step" := lit_ne
  have w5 : Str.ofString "step" ≠ Str.ofString "table" := lit_ne
  have w6 : Str.ofString "factor" ≠ Str.ofString "table" := lit_ne
  have w7 : Str.ofString "factor" ≠ Str.ofString "step" := lit_ne
  cases P with
  | exact => dsimp only [polW, polG]; rw [if_neg w3, if_neg w4]; rfl
  | endless => dsimp only [polW, polG]; rw [if_neg w1, if_neg w2]; rfl
  | step s =>
    dsimp only [polW, polG]; rw [if_neg w5, if_pos rfl]
    show D.tup [.str "step", numG (nS s)] = _
    rw [numG_nS (step_nat ok)]; rfl
  | factor t b =>
    have h1 := small_nI ⟨ok.1, ok.2.1⟩
    have h2 := small_nI ⟨ok.2.2.1, ok.2.2.2.1⟩
    have es : Txt.split (nS t ++ (Str.ofString "/" ++ nS b)) (Str.ofString "/") = [nS t, nS b] := two_split sl_tl (by decide) (nS_free h1 (by decide)) (nS_free h2 (by decide))
    dsimp only [polW, polG]; rw [if_neg w6, if_neg w7, if_pos rfl, es]
    show D.tup [.str "factor", numG (nS t), numG (nS b)] = _
    rw [numG_nS h1, numG_nS h2]; rfl
  | table es =>
    have hn := ent_nat ok.2
    dsimp only [polW, polG]; rw [if_pos rfl]
    show D.tup [.str "table", .tup ((es.map entT).map entG)] = .tup [.str "table", .tup (es.map enD)]
    rw [List.map_map]
    congr 4
    refine List.map_congr_left fun e he => ?_
    obtain ⟨h1, h2⟩ := hn e he
    show entG (entT e) = enD e
    unfold entG
    rw [ent_split ⟨h1, h2⟩]
    show D.tup [numG (nS e.1), numG (nS e.2)] = _
    rw [numG_nS h1, numG_nS h2]; rfl
theorem strs_fit {ws : List Str} {j k : Nat} (h : ∀ w ∈ ws, Tx j w) : D.fits k (ws.map D.str) = true := fits_iff.mpr fun d hd => by
  obtain ⟨w, hw, rfl⟩ := List.mem_map.mp hd
  simpa [D.fit] using (h w hw).1
theorem polG_fit {ws : List Str} {j : Nat} (hw : ∀ w ∈ ws, Tx j w) : ∃ k, D.fit k (polG ws) = true := by
  have lit : ∀ (s : String), PyData.strOk (Str.ofString s) = true := strOk_of
  unfold polG
  split
  · exact ⟨0, rfl⟩
  · rename_i w r
    split
    · refine ⟨3, ?_⟩
      have : D.fits 1 (r.map entG) = true := fits_iff.mpr fun d hd => by
        obtain ⟨x, _, rfl⟩ := List.mem_map.mp hd
        simp only [entG, D.fit]
        exact numsG_fit _ _
      simp only [D.fit, D.fits, lit, this, Bool.and_self, Bool.and_true]
    split
    · refine ⟨3, ?_⟩
      simp only [D.fit, D.fits, lit, numsG_fit, Bool.and_self]
    split
    · rename_i x
      split
      · refine ⟨3, ?_⟩
        simp only [D.fit, D.fits, lit, numsG_fit, Bool.and_self]
      · refine ⟨3, ?_⟩
        have h1 := (hw w List.mem_cons_self).1
        have h2 := (hw x (List.mem_cons_of_mem _ List.mem_cons_self)).1
        simp only [D.fit, D.fits, h1, h2, Bool.and_self]
    · exact ⟨3, by simp only [D.fit]; exact strs_fit hw⟩
theorem pure_number_in {pen : PenT} {PX : UX → Nat → Prop} : ∀ ds n (Q : D → Nat → Prop), sp_number_in ds pen n Q PX → u_number_in (Wd pen PX) { nx := fun ρ => Q .non ρ.fuel, rt := Q } ⟨startU N_number_in ds, pen, n⟩ := by
  refine run_number_in ?_
  rintro x n Q ⟨w, e, hw, hQ⟩
  obtain rfl := list1 e
  unfold u_number_in
  have hl := rm_len w
  unfold numG at hQ
  have fold : ∀ s : Str, Txt.removeprefix s (Str.ofString "-") = Txt.removeprefix s "-" := fun _ => rfl
  simp_arith only [fold]
  refine ⟨lim5 (by omega), ?_⟩
  generalize hs : Txt.removeprefix w "-" = s at hQ hl ⊢
  by_cases h1 : 1 ≤ s.length ∧ s.length ≤ 40
  · rw [decide_eq_true (show (1 : Int) ≤ (s.length : Int) by omega)]
    simp_arith only [decide_eq_true (show (s.length : Int) ≤ 40 by omega)]
    refine ⟨lim5 (by omega), ?_⟩
    refine xMap (fun d => match d with | .str ⟨a⟩ => (match a.toList with | [c] => .bl (decide (48 ≤ c ∧ c ≤ 57)) | _ => .non) | _ => .non) ?_ (by rfl) (fun d hd m T hT => ?_) ?_
    · unfold signsD
      rw [List.length_map, ← TL.len_tl]
      exact lim5 (by omega)
    · unfold signsD at hd
      obtain ⟨c, hc, rfl⟩ := List.mem_map.mp hd
      simp_arith only []
      have e : decide (c ∈ (Str.ofString "0123456789").cps.toList) = decide (48 ≤ c ∧ c ≤ 57) := by rw [decide_eq_decide]; exact dig_in c
      rw [e]
      exact hT
    · have e1 : (signsD s).map (fun d => match d with | .str ⟨a⟩ => (match a.toList with | [c] => D.bl (decide (48 ≤ c ∧ c ≤ 57)) | _ => .non) | _ => .non) = ((TL.tl s).map fun c => decide (48 ≤ c ∧ c ≤ 57)).map D.bl := by
        unfold signsD
        rw [List.map_map, List.map_map]; rfl
      rw [e1]
      have e2 : ((TL.tl s).map fun c => decide (48 ≤ c ∧ c ≤ 57)).all id = allDig s := by
        unfold allDig
        rw [List.all_map]
        congr 1
        funext c
        simp [Function.comp, Bool.decide_and]
      simp_arith only [xAll, e2]
      cases hd : allDig s with
      | false =>
        rw [if_neg (by rw [hd]; simp)] at hQ
        (try simp_arith only [])
        exact hQ
      | true =>
        rw [if_pos ⟨h1, hd⟩] at hQ
        rw [← hs] at h1 hd
        obtain ⟨i, ei, _, l41⟩ := numG_ok h1 hd
        rw [ei] at hQ
        simp_arith only [xIntT ei (show w.length ≤ 640 by omega)]
        exact hQ
  · rw [if_neg (fun z => h1 z.1)] at hQ
    by_cases q : 1 ≤ s.length
    · rw [decide_eq_true (show (1 : Int) ≤ (s.length : Int) by omega)]
      simp_arith only [decide_eq_false (show ¬ (s.length : Int) ≤ 40 by omega)]
      exact ⟨lim5 (by omega), hQ⟩
    · rw [decide_eq_false (show ¬ (1 : Int) ≤ (s.length : Int) by omega)]
      (try simp_arith only [])
      exact ⟨lim5 (by omega), hQ⟩
def strM (f : Str → D) : D → D
  | .str w => f w
  | d => d
theorem pure_numbers_in {pen : PenT} {PX : UX → Nat → Prop} : ∀ ds n (Q : D → Nat → Prop), sp_numbers_in ds pen n Q PX → u_numbers_in (Wd pen PX) { nx := fun ρ => Q .non ρ.fuel, rt := Q } ⟨startU N_numbers_in ds, pen, n⟩ := by
  refine run_numbers_in ?_
  rintro x n Q ⟨ws, e, hm, hQ⟩
  obtain rfl := list1 e
  have hl := mu_len ws
  unfold u_numbers_in
  (try simp_arith only [])
  refine xMap (strM numG) (lim5 (by rw [List.length_map]; omega)) (by rfl) (fun d hd m T hT => ?_) ?_
  · obtain ⟨w, hw, rfl⟩ := List.mem_map.mp hd
    have := mu_mem hw
    (try simp_arith only [])
    exact ⟨w, rfl, by omega, hT⟩
  · rw [List.map_map, show (strM numG ∘ D.str) = numG from rfl]
    (try simp_arith only [])
    exact hQ
theorem pure_entries_in {pen : PenT} {PX : UX → Nat → Prop} : ∀ ds n (Q : D → Nat → Prop), sp_entries_in ds pen n Q PX → u_entries_in (Wd pen PX) { nx := fun ρ => Q .non ρ.fuel, rt := Q } ⟨startU N_entries_in ds, pen, n⟩ := by
  refine run_entries_in ?_
  rintro x n Q ⟨ws, e, hm, hQ⟩
  obtain rfl := list1 e
  have hl := mu_len ws
  unfold u_entries_in
  (try simp_arith only [])
  refine xMap (strM entG) (lim5 (by rw [List.length_map]; omega)) (by rfl) (fun d hd m T hT => ?_) ?_
  · obtain ⟨w, hw, rfl⟩ := List.mem_map.mp hd
    have := mu_mem hw
    have hz : ((Str.ofString ":").length == 0) = false := by decide +kernel
    simp_arith only [xSplit]
    refine ⟨⟨hz, lim5 (by omega)⟩, _, rfl, ?_, hT⟩
    have := split_mu (s := w) co_tl (by decide)
    omega
  · rw [List.map_map, show (strM entG ∘ D.str) = entG from rfl]
    (try simp_arith only [])
    exact hQ
theorem beqS (a b : Str) : (a == b) = decide (a = b) := by
  cases h : a == b with
  | true => rw [eq_of_beq h]; simp
  | false =>
    symm
    refine decide_eq_false fun z => ?_
    rw [z, beq_self_eq_true] at h
    cases h
theorem pure_policy_in {pen : PenT} {PX : UX → Nat → Prop} : ∀ ds n (Q : D → Nat → Prop), sp_policy_in ds pen n Q PX → u_policy_in (Wd pen PX) { nx := fun ρ => Q .non ρ.fuel, rt := Q } ⟨startU N_policy_in ds, pen, n⟩ := by
  refine run_policy_in ?_
  rintro x n Q ⟨ws, e, hne, hm, hQ⟩
  obtain rfl := list1 e
  unfold u_policy_in
  cases ws with
  | nil => exact absurd rfl hne
  | cons w r =>
    have hl := mu_len r
    rw [mu_cons] at hm
    dsimp only [polG] at hQ
    simp_arith only [List.map_cons, beqS]
    by_cases h1 : w = "table"
    · rw [if_pos h1] at hQ
      rw [decide_eq_true h1]
      (try simp_arith only [])
      refine ⟨r, ?_, by omega, ?_⟩
      · rw [cut_from (by decide)]; rfl
      · (try simp_arith only [])
        exact hQ
    rw [if_neg h1] at hQ
    rw [decide_eq_false h1]
    simp_arith only [beqS]
    by_cases h2 : w = "step"
    · rw [if_pos h2] at hQ
      rw [decide_eq_true h2]
      (try simp_arith only [])
      refine ⟨r, ?_, by omega, ?_⟩
      · rw [cut_from (by decide)]; rfl
      · (try simp_arith only [])
        exact ⟨lim5 (by simp; omega), hQ⟩
    rw [if_neg h2] at hQ
    rw [decide_eq_false h2]
    simp_arith only [beqS]
    have tup : ∀ l : List D, ∀ Q : D → Prop, gTuple [.lst l] Q ↔ Q (.tup l) := fun _ _ => Iff.rfl
    rcases r with _ | ⟨x, _ | ⟨x2, r⟩⟩
    · by_cases h3 : w = "factor"
      · rw [decide_eq_true h3]
        simp_arith only [List.map_nil, List.length_cons, List.length_nil]
        rw [decide_eq_false (by decide)]
        simp_arith only [tup]
        exact hQ
      · rw [decide_eq_false h3]
        simp_arith only [tup]
        exact hQ
    · dsimp only at hQ
      by_cases h3 : w = "factor"
      · rw [if_pos h3] at hQ
        rw [decide_eq_true h3]
        have hz : ((Str.ofString "/").length == 0) = false := by decide +kernel
        simp_arith only [List.map_cons, List.map_nil, List.length_cons, List.length_nil]
        rw [decide_eq_true (by decide)]
        simp_arith only [xSplit]
        have := split_mu (s := x) sl_tl (by decide)
        have l2 := mu_len (Txt.split x (Str.ofString "/"))
        simp only [mu_cons] at hm
        refine ⟨⟨hz, lim5 (by omega)⟩, _, rfl, by omega, ?_⟩
        (try simp_arith only [])
        exact ⟨lim5 (by simp; omega), hQ⟩
      · rw [if_neg h3] at hQ
        rw [decide_eq_false h3]
        simp_arith only [tup]
        exact hQ
    · dsimp only at hQ
      by_cases h3 : w = "factor"
      · rw [decide_eq_true h3]
        simp_arith only [List.map_cons, List.length_cons]
        rw [decide_eq_false (by omega)]
        simp_arith only [tup]
        exact hQ
      · rw [decide_eq_false h3]
        simp_arith only [tup]
        exact hQ
theorem xIsiSN {x : D} {Q : D → Prop} (h1 : x.tyn.isSome = true) (h2 : ∀ s, x ≠ .str s) : gIsi [x, .ty "str"] Q ↔ Q (.bl false) := by
  have e : isD x "str" = false := by
    cases x with
    | str s => exact absurd rfl (h2 s)
    | _ => first | rfl | decide | (exfalso; revert h1; decide) | (simp [D.tyn] at h1)
  show ((x.tyn.isSome = true ∧ _) ∧ Q (.bl (isD x "str"))) ↔ _
  rw [e]
  exact ⟨fun h => h.2, fun h => ⟨⟨h1, by decide⟩, h⟩⟩
theorem pure_read_policy {pen : PenT} {PX : UX → Nat → Prop} : ∀ ds n (Q : D → Nat → Prop), sp_read_policy ds pen n Q PX → u_read_policy (Wd pen PX) { nx := fun ρ => Q .non ρ.fuel, rt := Q } ⟨startU N_read_policy ds, pen, n⟩ := by
  refine run_read_policy ?_
  rintro x n Q ⟨x', e, ⟨hx, htx⟩, hQ⟩
  obtain rfl := list1 e
  unfold u_read_policy
  have hz : ((Str.ofString " ").length == 0) = false := by decide +kernel
  by_cases hs : ∃ s, x = .str s
  · obtain ⟨s, rfl⟩ := hs
    have tx := htx s rfl
    have tl := tx.2
    dsimp only [readT] at hQ
    simp_arith only [xIsiS hx, D.isS, xSplit]
    refine ⟨⟨hz, lim5 (by omega)⟩, _, rfl, split_ne sp_tl (by decide), by rw [split_mu sp_tl (by decide)]; omega, ?_⟩
    simp_arith only [sp_is_policy]
    refine ⟨polG_fit fun w hw => tx_part sp_tl (by decide) tx hw, ?_⟩
    cases hp : polD (polG (Txt.split s (Str.ofString " "))) with
    | true =>
      obtain ⟨P, ok, eP⟩ := polD_py hp
      rw [eP]
      (try simp_arith only [])
      refine ⟨P, rfl, ok, ?_⟩
      simp_arith only [xNeS, beqS]
      by_cases q : polT P = s
      · rw [readP_iff.mpr ⟨ok, q.symm⟩] at hQ
        rw [decide_eq_true q]
        (try simp_arith only [])
        exact hQ
      · have : readP s = none := by
          cases e : readP s with
          | none => rfl
          | some P' =>
            obtain ⟨ok', e'⟩ := readP_iff.mp e
            have e2 : polG (Txt.split s (Str.ofString " ")) = P'.d := by rw [e', words_split ok', polG_ok ok']
            rw [eP] at e2
            rw [py_inj e2] at q
            exact absurd e'.symm q
        rw [this] at hQ
        rw [decide_eq_false q]
        (try simp_arith only [Wd])
        exact ⟨trivial, hQ⟩
    | false =>
      have : readP s = none := by
        cases e : readP s with
        | none => rfl
        | some P' =>
          obtain ⟨ok', e'⟩ := readP_iff.mp e
          have e2 : polG (Txt.split s (Str.ofString " ")) = P'.d := by rw [e', words_split ok', polG_ok ok']
          rw [e2, pol_py ok'] at hp
          cases hp
      rw [this] at hQ
      (try simp_arith only [Wd])
      exact ⟨trivial, hQ⟩
  · have hn : ∀ s, x ≠ .str s := fun s z => hs ⟨s, z⟩
    have : readT x = none := by
      cases x with
      | str s => exact absurd rfl (hn s)
      | _ => rfl
    rw [this] at hQ
    (try simp_arith only [])
    refine (xIsiSN hx hn).mpr ?_
    (try simp_arith only [Wd])
    exact ⟨trivial, hQ⟩

end Lw


set_option Elab.async false
set_option linter.all false
set_option maxRecDepth 100000
set_option maxHeartbeats 0
namespace Lw
open PySem PySem.Spec L2 U
open PyProof.Rows hiding St
local macro_rules | `(tactic| simp_arith only [$ts,*]) => `(tactic| simp only [xGetD, xGetD1, xGetD2, xGetD3, xGetDO1, xGetDO2, xPkD, xPkD1, xPkD2, xPkF, xPkF1, xPkF2, sPenND, sPenRD, sAli, sAli1, sAli2, sAli3, sAliO, sAliO1, sAliO2, xCutS, xCutS1, xCutS2, xCutS3, xCutS4, xMulS, xNotInSg, xPartn, xStW, xEnW, xMaxD, xMaxD1, xMaxD2, iKy, iKy1, xFrz, xFrz1, xDComp, gIxD_dic, gIxD_lst, xZn, xZn1, xDic1, xDic11, xDic12, sThawF, xFKey, xZy, xZy1, xZy2, xfListZ, xfListZ1, xfSortP, xfSortP1, xRoot, xRoot1, xStep, xStep1, xStep2, xStepO, xLeaf, xLeaf1, xLf, xFv, xFv1, xDic0, sTNew, sTNew1, rtS1, sTSet, sTSet1, sTSet2, sTSet3, sTSet4, sTApp, sTApp1, sTApp2, sTPop, sTPop1, sTPop2, sTPopO, sRetT, sRetT1, sRetN1, sRetN11, sRetN0, sRetV, sRetV1, sThawT, sThawT1, sThawT2, sThawT3, xPeekN, xPeekN1, xPeekN2, xPeekN3, xPeekNT, xPeekNT1, xPeekNT2, xCallN, xCallN0, xCallN1, xCallN2, sXDrop, sXDrop1, sXSet, sXSet1, sXSet2, sXRet, xCallV, xCallV1, xNGet, xNGet1, xNGet2, xNGet3, xNGetO1, xNGetO2, xNItems, xNItems1, xVKey, xVKey1, xVKeyO, xDictV, xDictV1, xDictO, xDisp, xDisp1, xKNil, xKCons, xKCons1, xKCons2, endN1, endN2, endV1, xVNil, xVCons, xVCons1, xVCons2, xVLst, xPeekF, xPeekF1, xPeekF2, xFIf, xFIf1, xFIf2, xZ, xZ1, xfListOf, xfListOf1, xfListOf2, xOIx, xOIx1, sRows, xRevF, xRevF1, sTryP, xAct, xLam, hide0, hide1, hide2, hide3, sIns, sIns1, sIns2, sPop, sPop1, sRaiseF, xFld, iSt, iSt1, xSplit, xRmPre, xInSg, xFs, xFs0, xFs1, xFs2, xFs3, xFmt, xFmtI, xFmtS, xStrI, xStrS, xM1, xM11, xM12, xInK, xNotInK, xfSorted, xfSortS, xFrT, gIxD_dicS, sTryO, sTryO1, endsO_nx, xVar, xVar1, xC, xN, xOp, xOp1, xOp2, xUn, xUn1, xNil, xCons, xCons1, xCons2, xTup, xTup1, xLst, xLst1, xTru, xTru1, xOb, tru_non, tru_bl, tru_int, tru_lst, tru_tup, xTB, xTB1, xAndT, xAndT1, xAndT2, xOrT, xOrT1, xOrT2, xNotT, xNotT1, xAnd, xAnd1, xAnd2, xOr, xOr1, xOr2, xNot, xNot1, xIfE, xIfE1, xIfE2, xCh, xCh1, xCh2, xCh3, xCh3b, xCh4, xNoP, xPart, xPart1, xCut, xCut1, xCut2, xCut3, xB, xB1, xCall, xCall1, xCallK, xCallK1, perm_nil, perm_cons, xCat, xCat1, xCat2, xRev, xRevL, xRevT, sSkip, sSeq, sRet, sRetN, sIf, sIf1, sIf2, sDrop, sDrop1, sBrk, sCnt, sSet, sSet1, sAsg, sAsg1, gN, gT, gPut, put_nil, put_cons, sAug, sAug1, sAug2, xFr, xFr1, xfLst, sOwn, sOwn1, sApp, sApp1, sApp2, sThaw, sThaw1, sThaw2, sThaw3, xPeek, xPeek1, xPeekd, xPeek2, xPeekT, xPeekT1, xPeekTd, sSetIx, sSetIx1, sSetIx2, sSetIx3, sSetIx4, iSq, iSqL, iSqT, iEn, iEnL, iEnT, iR1, iR11, iR2, iR21, sFor, xComp, sPenN, sPenR, sOwnD, sDSet, sDSet1, sDSet2, sDSet3, sDSet5, dKi, dKs, sThawD, sThawD1, iIt, iIt1, gPn, gPt, gPs0, gPs1, gPs2, sTry, sTry1, sTryN, sTryR, sTryR2, sTryB, sTryC, sRaise, nOw0, nOw1, nOw2, fld0, fld1, xIsX1, xIsX2, xIsNotX, xIsNX, U.l0, U.l1, U.s0, U.s1, wS0, wS1, beq_self_eq_true, sSet2, sSet21, sPar, sPar1, sOwnM, sOwnM1, sExt, sExt1, sExt2, sWh1, sWh2, xIsNI, xIsNNo, xIsNotI, xIsNotNo, xIsNotL, xIsNotT, xIsNotS, xIsS, xIsL, xIsT, xNeS, sRetO, sRetO1, sRetF, xCallF, xCallF1, xCallFK, xCallFK1, List.getD_cons_zero, List.getD_cons_succ, Bool.not_true, Bool.not_false, Bool.not_not, xLt, xLe, xGt, xGe, xEqI, xEqS, xNeI, xLenS, xLenL, xLenT, xAddI, xAddS, xAddL, xAddT, xSubI, xMulI, xMulL, xMulT, xDivI, xModI, xPowI, xNegI, xIntI, xIntB, xAbsI, xMin2, xMax2, xListL, xListT, xTupleL, xTupleT, xCutL, xCutT, xIsN, xIsB, xIsNotB, xIx0T, xIx1T, xIx2T, xIx3T, xIx0L, xIx1L, Int.reduceSub, Int.reduceAdd, Int.reduceMul, Int.reduceToNat, Int.reducePow, Int.reduceNeg, $ts,*])
local macro_rules | `(tactic| simp_arith only []) => `(tactic| simp only [xGetD, xGetD1, xGetD2, xGetD3, xGetDO1, xGetDO2, xPkD, xPkD1, xPkD2, xPkF, xPkF1, xPkF2, sPenND, sPenRD, sAli, sAli1, sAli2, sAli3, sAliO, sAliO1, sAliO2, xCutS, xCutS1, xCutS2, xCutS3, xCutS4, xMulS, xNotInSg, xPartn, xStW, xEnW, xMaxD, xMaxD1, xMaxD2, iKy, iKy1, xFrz, xFrz1, xDComp, gIxD_dic, gIxD_lst, xZn, xZn1, xDic1, xDic11, xDic12, sThawF, xFKey, xZy, xZy1, xZy2, xfListZ, xfListZ1, xfSortP, xfSortP1, xRoot, xRoot1, xStep, xStep1, xStep2, xStepO, xLeaf, xLeaf1, xLf, xFv, xFv1, xDic0, sTNew, sTNew1, rtS1, sTSet, sTSet1, sTSet2, sTSet3, sTSet4, sTApp, sTApp1, sTApp2, sTPop, sTPop1, sTPop2, sTPopO, sRetT, sRetT1, sRetN1, sRetN11, sRetN0, sRetV, sRetV1, sThawT, sThawT1, sThawT2, sThawT3, xPeekN, xPeekN1, xPeekN2, xPeekN3, xPeekNT, xPeekNT1, xPeekNT2, xCallN, xCallN0, xCallN1, xCallN2, sXDrop, sXDrop1, sXSet, sXSet1, sXSet2, sXRet, xCallV, xCallV1, xNGet, xNGet1, xNGet2, xNGet3, xNGetO1, xNGetO2, xNItems, xNItems1, xVKey, xVKey1, xVKeyO, xDictV, xDictV1, xDictO, xDisp, xDisp1, xKNil, xKCons, xKCons1, xKCons2, endN1, endN2, endV1, xVNil, xVCons, xVCons1, xVCons2, xVLst, xPeekF, xPeekF1, xPeekF2, xFIf, xFIf1, xFIf2, xZ, xZ1, xfListOf, xfListOf1, xfListOf2, xOIx, xOIx1, sRows, xRevF, xRevF1, sTryP, xAct, xLam, hide0, hide1, hide2, hide3, sIns, sIns1, sIns2, sPop, sPop1, sRaiseF, xFld, iSt, iSt1, xSplit, xRmPre, xInSg, xFs, xFs0, xFs1, xFs2, xFs3, xFmt, xFmtI, xFmtS, xStrI, xStrS, xM1, xM11, xM12, xInK, xNotInK, xfSorted, xfSortS, xFrT, gIxD_dicS, sTryO, sTryO1, endsO_nx, xVar, xVar1, xC, xN, xOp, xOp1, xOp2, xUn, xUn1, xNil, xCons, xCons1, xCons2, xTup, xTup1, xLst, xLst1, xTru, xTru1, xOb, tru_non, tru_bl, tru_int, tru_lst, tru_tup, xTB, xTB1, xAndT, xAndT1, xAndT2, xOrT, xOrT1, xOrT2, xNotT, xNotT1, xAnd, xAnd1, xAnd2, xOr, xOr1, xOr2, xNot, xNot1, xIfE, xIfE1, xIfE2, xCh, xCh1, xCh2, xCh3, xCh3b, xCh4, xNoP, xPart, xPart1, xCut, xCut1, xCut2, xCut3, xB, xB1, xCall, xCall1, xCallK, xCallK1, perm_nil, perm_cons, xCat, xCat1, xCat2, xRev, xRevL, xRevT, sSkip, sSeq, sRet, sRetN, sIf, sIf1, sIf2, sDrop, sDrop1, sBrk, sCnt, sSet, sSet1, sAsg, sAsg1, gN, gT, gPut, put_nil, put_cons, sAug, sAug1, sAug2, xFr, xFr1, xfLst, sOwn, sOwn1, sApp, sApp1, sApp2, sThaw, sThaw1, sThaw2, sThaw3, xPeek, xPeek1, xPeekd, xPeek2, xPeekT, xPeekT1, xPeekTd, sSetIx, sSetIx1, sSetIx2, sSetIx3, sSetIx4, iSq, iSqL, iSqT, iEn, iEnL, iEnT, iR1, iR11, iR2, iR21, sFor, xComp, sPenN, sPenR, sOwnD, sDSet, sDSet1, sDSet2, sDSet3, sDSet5, dKi, dKs, sThawD, sThawD1, iIt, iIt1, gPn, gPt, gPs0, gPs1, gPs2, sTry, sTry1, sTryN, sTryR, sTryR2, sTryB, sTryC, sRaise, nOw0, nOw1, nOw2, fld0, fld1, xIsX1, xIsX2, xIsNotX, xIsNX, U.l0, U.l1, U.s0, U.s1, wS0, wS1, beq_self_eq_true, sSet2, sSet21, sPar, sPar1, sOwnM, sOwnM1, sExt, sExt1, sExt2, sWh1, sWh2, xIsNI, xIsNNo, xIsNotI, xIsNotNo, xIsNotL, xIsNotT, xIsNotS, xIsS, xIsL, xIsT, xNeS, sRetO, sRetO1, sRetF, xCallF, xCallF1, xCallFK, xCallFK1, List.getD_cons_zero, List.getD_cons_succ, Bool.not_true, Bool.not_false, Bool.not_not, xLt, xLe, xGt, xGe, xEqI, xEqS, xNeI, xLenS, xLenL, xLenT, xAddI, xAddS, xAddL, xAddT, xSubI, xMulI, xMulL, xMulT, xDivI, xModI, xPowI, xNegI, xIntI, xIntB, xAbsI, xMin2, xMax2, xListL, xListT, xTupleL, xTupleT, xCutL, xCutT, xIsN, xIsB, xIsNotB, xIx0T, xIx1T, xIx2T, xIx3T, xIx0L, xIx1L, Int.reduceSub, Int.reduceAdd, Int.reduceMul, Int.reduceToNat, Int.reducePow, Int.reduceNeg])
theorem asc_snoc : ∀ {es : List (Int × Int)} {lo l c : Int}, asc lo es → (∀ e ∈ es, e.1 < l) → lo ≤ l → l ≤ 59 → 0 ≤ c → c ≤ 9999999999999999999999999999999999999999 → asc lo (es ++ [(l, c)])
  | [], lo, l, c, _, _, h1, h2, h3, h4 => ⟨h1, h2, h3, h4, trivial⟩
  | e :: r, lo, l, c, h, hm, h1, h2, h3, h4 => ⟨h.1, h.2.1, h.2.2.1, h.2.2.2.1, asc_snoc h.2.2.2.2 (fun x hx => hm x (List.mem_cons_of_mem _ hx)) (by have := hm e List.mem_cons_self; omega) h2 h3 h4⟩
theorem pure__law_policy {pen : PenT} {PX : UX → Nat → Prop} : ∀ ds n (Q : D → Nat → Prop), sp__law_policy ds pen n Q PX → u__law_policy (Wd pen PX) { nx := fun ρ => Q .non ρ.fuel, rt := Q } ⟨startU N__law_policy ds, pen, n⟩ := by
  refine run__law_policy fun x n Q ⟨hp, hn, hQ⟩ => ?_
  unfold u__law_policy
  simp_arith only []
  refine draw_use hp (by decide) (by decide) (by omega) fun w h0 h1 => ?_
  simp_arith only []
  refine sIfk.mpr ⟨fun hc => ?_, fun hc => ?_⟩
  · simp_arith only []
    exact hQ .exact _ trivial (by omega)
  simp_arith only []
  refine sIfk.mpr ⟨fun hc => ?_, fun hc => ?_⟩
  · simp_arith only []
    exact hQ .endless _ trivial (by omega)
  simp_arith only []
  refine sIfk.mpr ⟨fun hc => ?_, fun hc => ?_⟩
  · simp_arith only []
    refine draw_use hp (by decide) (by decide) (by omega) fun v h2 h3 => ?_
    simp_arith only []
    refine ⟨by decide, draw_use hp (by decide) (by decide) (by omega) fun j h4 h5 => ?_⟩
    simp_arith only []
    refine gIx_lst h4 h5 fun e he => ?_
    obtain ⟨z, rfl, z0, z1⟩ : ∃ z : Int, e = .int z ∧ 0 ≤ z ∧ z ≤ 1000000000000000000000000000000 := by
      simp only [List.mem_cons, List.not_mem_nil, or_false] at he
      rcases he with rfl | rfl | rfl | rfl | rfl | rfl <;> exact ⟨_, rfl, by omega, by omega⟩
    simp_arith only []
    exact hQ (.step z) _ ⟨z0, z1⟩ (by omega)
  simp_arith only []
  refine sIfk.mpr ⟨fun hc => ?_, fun hc => ?_⟩
  · simp_arith only []
    refine draw_use hp (by decide) (by decide) (by omega) fun j h2 h3 => ?_
    simp_arith only []
    refine gIx_lst h2 h3 fun e he => ?_
    obtain ⟨z, rfl, z0, z1⟩ : ∃ z : Int, e = .int z ∧ 0 < z ∧ z ≤ 80 := by
      simp only [List.mem_cons, List.not_mem_nil, or_false] at he
      rcases he with rfl | rfl <;> exact ⟨_, rfl, by omega, by omega⟩
    simp_arith only []
    refine draw_use hp z0 (by omega) (by omega) fun v h4 h5 => ?_
    simp_arith only []
    refine ⟨.inl (by decide), ⟨by decide, by decide⟩, ?_⟩
    refine draw_use hp (by decide) (by decide) (by omega) fun j2 h6 h7 => ?_
    simp_arith only []
    refine gIx_lst h6 h7 fun e he => ?_
    obtain ⟨y, rfl, y0, y1⟩ : ∃ z : Int, e = .int z ∧ 0 < z ∧ z ≤ 40 := by
      simp only [List.mem_cons, List.not_mem_nil, or_false] at he
      rcases he with rfl | rfl | rfl <;> exact ⟨_, rfl, by omega, by omega⟩
    simp_arith only []
    refine draw_use hp y0 (by omega) (by omega) fun u h8 h9 => ?_
    simp_arith only []
    refine hQ (.factor _ _) _ ⟨?_, ?_, ?_, ?_, ?_⟩ (by omega)
    · split <;> omega
    · split <;> omega
    · omega
    · omega
    · split <;> omega
  simp_arith only []
  intro a
  refine draw_use hp (by decide) (by decide) (by omega) fun l0 h2 h3 => ?_
  simp_arith only []
  refine draw_use hp (by decide) (by decide) (by omega) fun j h4 h5 => ?_
  simp_arith only []
  refine gIx_lst h4 h5 fun e he => ?_
  obtain ⟨z, rfl, z0, z1⟩ : ∃ z : Int, e = .int z ∧ 0 ≤ z ∧ z ≤ 60 := by
    simp only [List.mem_cons, List.not_mem_nil, or_false] at he
    rcases he with rfl | rfl | rfl | rfl <;> exact ⟨_, rfl, by omega, by omega⟩
  simp_arith only []
  refine ⟨⟨by omega, by omega⟩, ?_⟩
  have rl : (rngD 0 z.toNat).length = z.toNat := by unfold rngD; simp
  refine sFor1 (fun r ρ => ∃ (es : List (Int × Int)) (l : Int) (y s1 s2 : Sl) (m : Nat), ρ = ⟨[.dat x, .dat (.int w), .own a (es.map enD), .dat (.int l), y, s1, s2], pen, m⟩ ∧ (asc 0 es ∧ (∀ e ∈ es, e.1 < l) ∧ (es.length : Int) ≤ l ∧ es.length ≤ 60) ∧ 0 ≤ l ∧ r.length ≤ 60 ∧ n ≤ m + 3 * (60 - r.length) + 10 ∧ 1000 ≤ n ∧ r.length * 3 + 100 ≤ m) ⟨[], l0, _, _, _, _, rfl, ⟨trivial, (fun _ z => nomatch z), (by simpa using h2), (by simp)⟩, h2, by rw [rl]; omega, by rw [rl]; omega, hn, by rw [rl]; omega⟩ ?_ ?_
  · rintro ρ ⟨es, l, y, s1, s2, m, rfl, hE, h6, h7, h8, h9, h10⟩
    simp_arith only []
    exact hQ (.table es) _ ⟨hE.2.2.2, hE.1⟩ (by simp at h8; omega)
  · rintro d r ρ ⟨es, l, y, s1, s2, m, rfl, ⟨hE1, hE2, hE3, hE4⟩, h6, h7, h8, h9, h10⟩
    rw [List.length_cons] at h7 h8 h10
    simp_arith only []
    refine sIfk.mpr ⟨fun hl => ?_, fun hl => ?_⟩
    · simp_arith only []
      refine draw_use hp (by decide) (by decide) (by omega) fun v1 g1 g2 => ?_
      simp_arith only []
      refine ⟨by decide, draw_use hp (by decide) (by decide) (by omega) fun v2 g3 g4 => ?_⟩
      simp_arith only []
      refine gIx_lst g3 g4 fun e he => ?_
      obtain ⟨c, rfl, c0, c1⟩ : ∃ z : Int, e = .int z ∧ 0 ≤ z ∧ z ≤ 9999999999999999999999999999999999999999 := by
        simp only [List.mem_cons, List.not_mem_nil, or_false] at he
        rcases he with rfl | rfl | rfl | rfl | rfl | rfl <;> exact ⟨_, rfl, by omega, by omega⟩
      have hl' := of_decide_eq_true hl
      have hlen : (es.map enD).length < sizeLine := lim6 (by rw [List.length_map]; omega)
      simp_arith only []
      refine ⟨hlen, ?_⟩
      refine draw_use hp (by decide) (by decide) (by omega) fun v3 g5 g6 => ?_
      simp_arith only []
      refine ⟨es ++ [(l, c)], _, _, _, _, _, by rw [List.map_append]; rfl, ⟨asc_snoc hE1 hE2 h6 (by omega) c0 c1, fun e he => ?_, by simp; omega, by simp; omega⟩, by omega, by omega, by omega, h9, by omega⟩
      rcases List.mem_append.mp he with he | he
      · have := hE2 e he; omega
      · have : e = (l, c) := by simpa using he
        rw [this]
        show l < _
        omega
    · simp_arith only []
      refine draw_use hp (by decide) (by decide) (by omega) fun v3 g5 g6 => ?_
      simp_arith only []
      exact ⟨es, _, _, _, _, _, rfl, ⟨hE1, fun e he => by have := hE2 e he; omega, by omega, hE4⟩, by omega, by omega, by omega, h9, by omega⟩

theorem pure__law_words {pen : PenT} {PX : UX → Nat → Prop} : ∀ ds n (Q : D → Nat → Prop), sp__law_words ds pen n Q PX → u__law_words (Wd pen PX) { nx := fun ρ => Q .non ρ.fuel, rt := Q } ⟨startU N__law_words ds, pen, n⟩ := by
  refine run__law_words ?_
  rintro x n Q ⟨P, e, ok, hQ⟩
  obtain rfl := list1 e
  unfold u__law_words
  cases P with
  | exact => simp_arith only [Py.d, sq_exact_endless, sq_exact_table, sq_exact_step, sq_exact_factor, sq_endless_exact, sq_endless_table, sq_endless_step, sq_endless_factor, sq_table_exact, sq_table_endless, sq_table_step, sq_table_factor, sq_step_exact, sq_step_endless, sq_step_table, sq_step_factor, sq_factor_exact, sq_factor_endless, sq_factor_table, sq_factor_step]; exact hQ
  | endless => simp_arith only [Py.d, sq_exact_endless, sq_exact_table, sq_exact_step, sq_exact_factor, sq_endless_exact, sq_endless_table, sq_endless_step, sq_endless_factor, sq_table_exact, sq_table_endless, sq_table_step, sq_table_factor, sq_step_exact, sq_step_endless, sq_step_table, sq_step_factor, sq_factor_exact, sq_factor_endless, sq_factor_table, sq_factor_step]; exact hQ
  | step s =>
    have h1 := step_nat ok
    have l1 := nS_l40 h1
    have g1 := small_log (nat_small h1)
    have z : (Str.ofString "step ").length = 5 := by rw [PySem.ofString_length]; rfl
    rw [polT_step] at hQ
    simp_arith only [Py.d, sq_exact_endless, sq_exact_table, sq_exact_step, sq_exact_factor, sq_endless_exact, sq_endless_table, sq_endless_step, sq_endless_factor, sq_table_exact, sq_table_endless, sq_table_step, sq_table_factor, sq_step_exact, sq_step_endless, sq_step_table, sq_step_factor, sq_factor_exact, sq_factor_endless, sq_factor_table, sq_factor_step, nS_foldP, z]
    exact ⟨g1, lim5 (by omega), hQ⟩
  | factor t b =>
    have h1 := small_nI ⟨ok.1, ok.2.1⟩
    have h2 := small_nI ⟨ok.2.2.1, ok.2.2.2.1⟩
    have l1 := nS_l40 h1
    have l2 := nS_l40 h2
    have g1 := small_log (nat_small h1)
    have g2 := small_log (nat_small h2)
    have z : (Str.ofString "factor ").length = 7 := by rw [PySem.ofString_length]; rfl
    have z1 : (Str.ofString "/").length = 1 := by rw [PySem.ofString_length]; rfl
    rw [polT_factor] at hQ
    simp_arith only [Py.d, sq_exact_endless, sq_exact_table, sq_exact_step, sq_exact_factor, sq_endless_exact, sq_endless_table, sq_endless_step, sq_endless_factor, sq_table_exact, sq_table_endless, sq_table_step, sq_table_factor, sq_step_exact, sq_step_endless, sq_step_table, sq_step_factor, sq_factor_exact, sq_factor_endless, sq_factor_table, sq_factor_step, nS_foldP, sapp_assoc, strLen_append, z, z1]
    exact ⟨g1, lim5 (by omega), lim5 (by omega), g2, lim5 (by omega), hQ⟩
  | table es =>
    simp_arith only [Py.d, sq_exact_endless, sq_exact_table, sq_exact_step, sq_exact_factor, sq_endless_exact, sq_endless_table, sq_endless_step, sq_endless_factor, sq_table_exact, sq_table_endless, sq_table_step, sq_table_factor, sq_step_exact, sq_step_endless, sq_step_table, sq_step_factor, sq_factor_exact, sq_factor_endless, sq_factor_table, sq_factor_step]
    refine sFor1 (fun ds ρ => ∃ (e1 r : List (Int × Int)) (s2 s3 : Sl), ds = r.map enD ∧ ρ = ⟨[.dat (.tup [.str "table", .tup (es.map enD)]), .dat (.str (Str.join " " ("table" :: e1.map entT))), s2, s3], pen, n⟩ ∧ e1 ++ r = es) ⟨[], es, _, _, rfl, rfl, rfl⟩ ?_ ?_
    · rintro ρ ⟨e1, r, s2, s3, ed, rfl, he⟩
      cases r with
      | cons y r => cases ed
      | nil =>
        rw [List.append_nil] at he
        subst he
        (try simp_arith only [])
        exact hQ
    · rintro d r' ρ ⟨e1, r, s2, s3, ed, rfl, he⟩
      cases r with
      | nil => cases ed
      | cons y r =>
        cases ed
        have hn := ent_nat ok.2
        obtain ⟨h1, h2⟩ := hn y (by rw [← he]; simp)
        have l1 := nS_l40 h1
        have l2 := nS_l40 h2
        have g1 := small_log (nat_small h1)
        have g2 := small_log (nat_small h2)
        have z0 : (Str.ofString " ").length = 1 := by rw [PySem.ofString_length]; rfl
        have z1 : (Str.ofString ":").length = 1 := by rw [PySem.ofString_length]; rfl
        have tx : (Str.join " " ("table" :: e1.map entT)).length ≤ 8000 := by
          have := tx_join (a := Str.ofString " ") (tx_lit (s := " ") 1 (by decide)) (k := 130) (ys := (Str.ofString "table") :: e1.map entT) fun w hw => by
            refine word_tx ok w ?_
            rcases List.mem_cons.mp hw with rfl | hw
            · exact List.mem_cons_self
            · refine List.mem_cons_of_mem _ ?_
              obtain ⟨e, hx, rfl⟩ := List.mem_map.mp hw
              exact List.mem_map_of_mem (by rw [← he]; simp [hx])
          have l := ok.1
          rw [← he, List.length_append] at l
          refine (this.le ?_).2
          simp only [List.length_cons, List.length_map]
          omega
        have sn : Str.join " " ("table" :: (e1 ++ [y]).map entT) = Str.join " " ("table" :: e1.map entT) ++ (Str.ofString " " ++ (nS y.1 ++ (Str.ofString ":" ++ nS y.2))) := by
          rw [List.map_append, ← List.cons_append, List.map_cons, List.map_nil, join_snoc _ _ _ (by simp), sapp_assoc]; rfl
        simp_arith only [enD, nS_foldP, sapp_assoc, strLen_append, z0, z1]
        exact ⟨lim5 (by omega), g1, lim5 (by omega), lim5 (by omega), g2, lim5 (by omega), e1 ++ [y], r, _, _, rfl, by rw [sn], by rw [← he]; simp⟩
mutual
theorem eqv_refl : ∀ (n : Nat) (d : D), D.flat n d = true → D.eqv d d = true
  | _, .non, _ => by simp [D.eqv]
  | _, .bl _, _ => by simp [D.eqv]
  | _, .int _, _ => by simp [D.eqv]
  | _, .str _, _ => by simp [D.eqv]
  | 0, .lst _, h => by simp [D.flat] at h
  | 0, .tup _, h => by simp [D.flat] at h
  | n + 1, .lst ds, h => by simp only [D.eqv]; exact eqvs_refl n ds (by simpa [D.flat] using h)
  | n + 1, .tup ds, h => by simp only [D.eqv]; exact eqvs_refl n ds (by simpa [D.flat] using h)
  | _, .dic _, h => by simp [D.flat] at h
  | _, .ref _, h => by simp [D.flat] at h
  | _, .ty _, h => by simp [D.flat] at h
  | _, .exc _ _, h => by simp [D.flat] at h
  | _, .cls _, h => by simp [D.flat] at h
theorem eqvs_refl : ∀ (n : Nat) (ds : List D), D.flats n ds = true → D.eqvs ds ds = true
  | _, [], _ => by simp [D.eqvs]
  | n, d :: ds, h => by
    simp only [D.flats, Bool.and_eq_true] at h
    simp only [D.eqvs, eqv_refl n d h.1, eqvs_refl n ds h.2, Bool.and_true]
end
theorem flats_of {k : Nat} : ∀ {ds : List D}, (∀ d ∈ ds, D.flat k d = true) → D.flats k ds = true
  | [], _ => rfl
  | d :: ds, h => by
    simp only [D.flats, Bool.and_eq_true]
    exact ⟨h d List.mem_cons_self, flats_of fun x hx => h x (List.mem_cons_of_mem _ hx)⟩
theorem flat_lst {k : Nat} {ds : List D} (h : ∀ d ∈ ds, D.flat k d = true) : D.flat (k + 1) (.lst ds) = true := by simp only [D.flat]; exact flats_of h
theorem len_nil {l : List D} : D.eqv (.lst l) (.lst []) = l.isEmpty := by cases l <;> rfl
def oddB : D → Bool
  | .str ⟨a⟩ => (match a.toList with
    | [c] => !decide (c ∈ (Str.ofString "0123456789").cps.toList)
    | _ => false)
  | _ => false
theorem odd_none {w : Str} : ((signsD w).filter oddB).isEmpty = allDig w := by
  unfold signsD allDig
  rw [List.filter_map, List.isEmpty_map]
  have e : (oddB ∘ fun c => D.str ⟨#[c]⟩) = fun c => !decide (48 ≤ c ∧ c ≤ 57) := by
    funext c
    show (!decide (c ∈ (Str.ofString "0123456789").cps.toList)) = _
    congr 1
    rw [decide_eq_decide]; exact dig_in c
  rw [e]
  show _ = (w.cps.toList).all _
  induction w.cps.toList with
  | nil => rfl
  | cons c l ih =>
    rw [List.filter_cons, List.all_cons]
    by_cases q : 48 ≤ c ∧ c ≤ 57
    · rw [decide_eq_true q, if_neg (by simp), ih, decide_eq_true q.1, decide_eq_true q.2]; rfl
    · rw [decide_eq_false q, if_pos (by rfl)]
      have : (decide (48 ≤ c) && decide (c ≤ 57)) = false := by
        rw [← Bool.decide_and]; exact decide_eq_false q
      rw [this]; rfl
theorem numV_odd {w : Str} {most : Int} (hm : most ≤ 9999999999999999999999999999999999999999) (h : ¬ (0 < w.length ∧ w.length < 42 ∧ allDig w = true)) : numV w most = -1 := by
  unfold numV
  cases e : numO w most with
  | none => rfl
  | some i =>
    obtain ⟨h0, h1, rfl⟩ := (numO_iff hm).mp e
    have n1 : natI i := ⟨h0, by omega⟩
    refine absurd ⟨nS_pos i, ?_, allDig_iff.mpr (by rw [nS_tl n1]; exact TL.numL_digits _)⟩ h
    have := nS_l40 n1
    omega
theorem pure__law_number {pen : PenT} {PX : UX → Nat → Prop} : ∀ ds n (Q : D → Nat → Prop), sp__law_number ds pen n Q PX → u__law_number (Wd pen PX) { nx := fun ρ => Q .non ρ.fuel, rt := Q } ⟨startU N__law_number ds, pen, n⟩ := by
  refine run__law_number ?_
  rintro x y n Q ⟨w, most, e, tx, hm, hQ⟩
  obtain ⟨rfl, rfl⟩ := list2 e
  have wl := tx.2
  unfold u__law_number
  (try simp_arith only [])
  by_cases h0 : 0 < w.length
  · rw [decide_eq_true (show (0 : Int) < (w.length : Int) by omega)]
    (try simp_arith only [])
    by_cases h1 : w.length < 42
    · rw [decide_eq_true (show (w.length : Int) < 42 by omega)]
      (try simp_arith only [])
      refine ⟨lim5 (by omega), ?_⟩
      have sl : (signsD w).length = w.length := by unfold signsD; rw [List.length_map, ← TL.len_tl]
      refine xFilt oddB (fun d => d) (by rw [sl]; exact lim5 (by omega)) (by rfl) (fun d hd m T1 F0 hT hF => ?_) ?_
      · unfold signsD at hd
        obtain ⟨c, hc, rfl⟩ := List.mem_map.mp hd
        change (!decide (c ∈ (Str.ofString "0123456789").cps.toList)) = true → _ at hT
        change (!decide (c ∈ (Str.ofString "0123456789").cps.toList)) = false → _ at hF
        (try simp_arith only [])
        cases q : !decide (c ∈ (Str.ofString "0123456789").cps.toList) with
        | true =>
          (try simp_arith only [kSel1])
          exact hT q
        | false =>
          (try simp_arith only [kSel2])
          exact hF q
      · rw [List.map_id']
        (try simp_arith only [])
        refine (xNeF (x := .lst ((signsD w).filter oddB)) (y := .lst []) (flat_lst fun d hd => ?_) (by rfl)).mpr ?_
        · unfold signsD at hd
          obtain ⟨c, hc, rfl⟩ := List.mem_map.mp (List.mem_filter.mp hd).1
          simp only [D.flat]
          refine okS_iff.mpr fun z hz => ?_
          rw [List.mem_singleton.mp (show z ∈ [c] from hz)]
          exact okS_iff.mp tx.1 c hc
        rw [len_nil, odd_none]
        cases hd : allDig w with
        | false =>
          rw [numV_odd hm (fun z => by rw [hd] at z; cases z.2.2)] at hQ
          (try simp_arith only [])
          exact hQ
        | true =>
          have ad := allDig_iff.mp hd
          have ne : TL.tl w ≠ [] := fun z => by
            have := TL.len_tl w
            rw [z] at this
            simp at this
            omega
          have b := dig_lt ad (k := 41) (by rw [← TL.len_tl]; omega)
          have b2 : (10 : Nat) ^ 41 < 10 ^ 60 := by decide
          have ei : PySem.intText? w = some ((NumText.digitsVal (TL.tl w) : Nat) : Int) := intText_digits ad ne (by omega)
          unfold numV numO at hQ
          rw [ei] at hQ
          dsimp only at hQ
          generalize NumText.digitsVal (TL.tl w) = v at ei b hQ
          have g1 : ((v : Int)).natAbs.log2 < 1920 := small_log (show ((v : Int)).natAbs < 10 ^ 60 by omega)
          simp_arith only [xIntT ei (show w.length ≤ 640 by omega), nS_foldP]
          refine ⟨g1, ?_⟩
          simp_arith only [xNeS, beqS]
          by_cases q : nS (v : Int) = w
          · rw [decide_eq_true q]
            simp_arith only [xIntT ei (show w.length ≤ 640 by omega)]
            by_cases q2 : (v : Int) ≤ most
            · rw [if_pos ⟨by omega, q2, q⟩] at hQ
              rw [decide_eq_false (show ¬ most < (v : Int) by omega)]
              simp_arith only [xIntT ei (show w.length ≤ 640 by omega)]
              exact hQ
            · rw [if_neg (fun z => q2 z.2.1)] at hQ
              rw [decide_eq_true (show most < (v : Int) by omega)]
              (try simp_arith only [])
              exact hQ
          · rw [if_neg (fun z => q z.2.2)] at hQ
            rw [decide_eq_false q]
            (try simp_arith only [])
            exact hQ
    · rw [numV_odd hm (fun z => h1 z.2.1)] at hQ
      rw [decide_eq_false (show ¬ (w.length : Int) < 42 by omega)]
      (try simp_arith only [])
      exact ⟨lim5 (by omega), hQ⟩
  · rw [numV_odd hm (fun z => h0 z.1)] at hQ
    rw [decide_eq_false (show ¬ (0 : Int) < (w.length : Int) by omega)]
    (try simp_arith only [])
    exact ⟨lim5 (by omega), hQ⟩
end Lw


set_option Elab.async false
set_option linter.all false
set_option maxRecDepth 100000
set_option maxHeartbeats 0
namespace Lw
open PySem PySem.Spec L2 U
open PyProof.Rows hiding St
local macro_rules | `(tactic| simp_arith only [$ts,*]) => `(tactic| simp only [xGetD, xGetD1, xGetD2, xGetD3, xGetDO1, xGetDO2, xPkD, xPkD1, xPkD2, xPkF, xPkF1, xPkF2, sPenND, sPenRD, sAli, sAli1, sAli2, sAli3, sAliO, sAliO1, sAliO2, xCutS, xCutS1, xCutS2, xCutS3, xCutS4, xMulS, xNotInSg, xPartn, xStW, xEnW, xMaxD, xMaxD1, xMaxD2, iKy, iKy1, xFrz, xFrz1, xDComp, gIxD_dic, gIxD_lst, xZn, xZn1, xDic1, xDic11, xDic12, sThawF, xFKey, xZy, xZy1, xZy2, xfListZ, xfListZ1, xfSortP, xfSortP1, xRoot, xRoot1, xStep, xStep1, xStep2, xStepO, xLeaf, xLeaf1, xLf, xFv, xFv1, xDic0, sTNew, sTNew1, rtS1, sTSet, sTSet1, sTSet2, sTSet3, sTSet4, sTApp, sTApp1, sTApp2, sTPop, sTPop1, sTPop2, sTPopO, sRetT, sRetT1, sRetN1, sRetN11, sRetN0, sRetV, sRetV1, sThawT, sThawT1, sThawT2, sThawT3, xPeekN, xPeekN1, xPeekN2, xPeekN3, xPeekNT, xPeekNT1, xPeekNT2, xCallN, xCallN0, xCallN1, xCallN2, sXDrop, sXDrop1, sXSet, sXSet1, sXSet2, sXRet, xCallV, xCallV1, xNGet, xNGet1, xNGet2, xNGet3, xNGetO1, xNGetO2, xNItems, xNItems1, xVKey, xVKey1, xVKeyO, xDictV, xDictV1, xDictO, xDisp, xDisp1, xKNil, xKCons, xKCons1, xKCons2, endN1, endN2, endV1, xVNil, xVCons, xVCons1, xVCons2, xVLst, xPeekF, xPeekF1, xPeekF2, xFIf, xFIf1, xFIf2, xZ, xZ1, xfListOf, xfListOf1, xfListOf2, xOIx, xOIx1, sRows, xRevF, xRevF1, sTryP, xAct, xLam, hide0, hide1, hide2, hide3, sIns, sIns1, sIns2, sPop, sPop1, sRaiseF, xFld, iSt, iSt1, xSplit, xRmPre, xInSg, xFs, xFs0, xFs1, xFs2, xFs3, xFmt, xFmtI, xFmtS, xStrI, xStrS, xM1, xM11, xM12, xInK, xNotInK, xfSorted, xfSortS, xFrT, gIxD_dicS, sTryO, sTryO1, endsO_nx, xVar, xVar1, xC, xN, xOp, xOp1, xOp2, xUn, xUn1, xNil, xCons, xCons1, xCons2, xTup, xTup1, xLst, xLst1, xTru, xTru1, xOb, tru_non, tru_bl, tru_int, tru_lst, tru_tup, xTB, xTB1, xAndT, xAndT1, xAndT2, xOrT, xOrT1, xOrT2, xNotT, xNotT1, xAnd, xAnd1, xAnd2, xOr, xOr1, xOr2, xNot, xNot1, xIfE, xIfE1, xIfE2, xCh, xCh1, xCh2, xCh3, xCh3b, xCh4, xNoP, xPart, xPart1, xCut, xCut1, xCut2, xCut3, xB, xB1, xCall, xCall1, xCallK, xCallK1, perm_nil, perm_cons, xCat, xCat1, xCat2, xRev, xRevL, xRevT, sSkip, sSeq, sRet, sRetN, sIf, sIf1, sIf2, sDrop, sDrop1, sBrk, sCnt, sSet, sSet1, sAsg, sAsg1, gN, gT, gPut, put_nil, put_cons, sAug, sAug1, sAug2, xFr, xFr1, xfLst, sOwn, sOwn1, sApp, sApp1, sApp2, sThaw, sThaw1, sThaw2, sThaw3, xPeek, xPeek1, xPeekd, xPeek2, xPeekT, xPeekT1, xPeekTd, sSetIx, sSetIx1, sSetIx2, sSetIx3, sSetIx4, iSq, iSqL, iSqT, iEn, iEnL, iEnT, iR1, iR11, iR2, iR21, sFor, xComp, sPenN, sPenR, sOwnD, sDSet, sDSet1, sDSet2, sDSet3, sDSet5, dKi, dKs, sThawD, sThawD1, iIt, iIt1, gPn, gPt, gPs0, gPs1, gPs2, sTry, sTry1, sTryN, sTryR, sTryR2, sTryB, sTryC, sRaise, nOw0, nOw1, nOw2, fld0, fld1, xIsX1, xIsX2, xIsNotX, xIsNX, U.l0, U.l1, U.s0, U.s1, wS0, wS1, beq_self_eq_true, sSet2, sSet21, sPar, sPar1, sOwnM, sOwnM1, sExt, sExt1, sExt2, sWh1, sWh2, xIsNI, xIsNNo, xIsNotI, xIsNotNo, xIsNotL, xIsNotT, xIsNotS, xIsS, xIsL, xIsT, xNeS, sRetO, sRetO1, sRetF, xCallF, xCallF1, xCallFK, xCallFK1, List.getD_cons_zero, List.getD_cons_succ, Bool.not_true, Bool.not_false, Bool.not_not, xLt, xLe, xGt, xGe, xEqI, xEqS, xNeI, xLenS, xLenL, xLenT, xAddI, xAddS, xAddL, xAddT, xSubI, xMulI, xMulL, xMulT, xDivI, xModI, xPowI, xNegI, xIntI, xIntB, xAbsI, xMin2, xMax2, xListL, xListT, xTupleL, xTupleT, xCutL, xCutT, xIsN, xIsB, xIsNotB, xIx0T, xIx1T, xIx2T, xIx3T, xIx0L, xIx1L, Int.reduceSub, Int.reduceAdd, Int.reduceMul, Int.reduceToNat, Int.reducePow, Int.reduceNeg, $ts,*])
local macro_rules | `(tactic| simp_arith only []) => `(tactic| simp only [xGetD, xGetD1, xGetD2, xGetD3, xGetDO1, xGetDO2, xPkD, xPkD1, xPkD2, xPkF, xPkF1, xPkF2, sPenND, sPenRD, sAli, sAli1, sAli2, sAli3, sAliO, sAliO1, sAliO2, xCutS, xCutS1, xCutS2, xCutS3, xCutS4, xMulS, xNotInSg, xPartn, xStW, xEnW, xMaxD, xMaxD1, xMaxD2, iKy, iKy1, xFrz, xFrz1, xDComp, gIxD_dic, gIxD_lst, xZn, xZn1, xDic1, xDic11, xDic12, sThawF, xFKey, xZy, xZy1, xZy2, xfListZ, xfListZ1, xfSortP, xfSortP1, xRoot, xRoot1, xStep, xStep1, xStep2, xStepO, xLeaf, xLeaf1, xLf, xFv, xFv1, xDic0, sTNew, sTNew1, rtS1, sTSet, sTSet1, sTSet2, sTSet3, sTSet4, sTApp, sTApp1, sTApp2, sTPop, sTPop1, sTPop2, sTPopO, sRetT, sRetT1, sRetN1, sRetN11, sRetN0, sRetV, sRetV1, sThawT, sThawT1, sThawT2, sThawT3, xPeekN, xPeekN1, xPeekN2, xPeekN3, xPeekNT, xPeekNT1, xPeekNT2, xCallN, xCallN0, xCallN1, xCallN2, sXDrop, sXDrop1, sXSet, sXSet1, sXSet2, sXRet, xCallV, xCallV1, xNGet, xNGet1, xNGet2, xNGet3, xNGetO1, xNGetO2, xNItems, xNItems1, xVKey, xVKey1, xVKeyO, xDictV, xDictV1, xDictO, xDisp, xDisp1, xKNil, xKCons, xKCons1, xKCons2, endN1, endN2, endV1, xVNil, xVCons, xVCons1, xVCons2, xVLst, xPeekF, xPeekF1, xPeekF2, xFIf, xFIf1, xFIf2, xZ, xZ1, xfListOf, xfListOf1, xfListOf2, xOIx, xOIx1, sRows, xRevF, xRevF1, sTryP, xAct, xLam, hide0, hide1, hide2, hide3, sIns, sIns1, sIns2, sPop, sPop1, sRaiseF, xFld, iSt, iSt1, xSplit, xRmPre, xInSg, xFs, xFs0, xFs1, xFs2, xFs3, xFmt, xFmtI, xFmtS, xStrI, xStrS, xM1, xM11, xM12, xInK, xNotInK, xfSorted, xfSortS, xFrT, gIxD_dicS, sTryO, sTryO1, endsO_nx, xVar, xVar1, xC, xN, xOp, xOp1, xOp2, xUn, xUn1, xNil, xCons, xCons1, xCons2, xTup, xTup1, xLst, xLst1, xTru, xTru1, xOb, tru_non, tru_bl, tru_int, tru_lst, tru_tup, xTB, xTB1, xAndT, xAndT1, xAndT2, xOrT, xOrT1, xOrT2, xNotT, xNotT1, xAnd, xAnd1, xAnd2, xOr, xOr1, xOr2, xNot, xNot1, xIfE, xIfE1, xIfE2, xCh, xCh1, xCh2, xCh3, xCh3b, xCh4, xNoP, xPart, xPart1, xCut, xCut1, xCut2, xCut3, xB, xB1, xCall, xCall1, xCallK, xCallK1, perm_nil, perm_cons, xCat, xCat1, xCat2, xRev, xRevL, xRevT, sSkip, sSeq, sRet, sRetN, sIf, sIf1, sIf2, sDrop, sDrop1, sBrk, sCnt, sSet, sSet1, sAsg, sAsg1, gN, gT, gPut, put_nil, put_cons, sAug, sAug1, sAug2, xFr, xFr1, xfLst, sOwn, sOwn1, sApp, sApp1, sApp2, sThaw, sThaw1, sThaw2, sThaw3, xPeek, xPeek1, xPeekd, xPeek2, xPeekT, xPeekT1, xPeekTd, sSetIx, sSetIx1, sSetIx2, sSetIx3, sSetIx4, iSq, iSqL, iSqT, iEn, iEnL, iEnT, iR1, iR11, iR2, iR21, sFor, xComp, sPenN, sPenR, sOwnD, sDSet, sDSet1, sDSet2, sDSet3, sDSet5, dKi, dKs, sThawD, sThawD1, iIt, iIt1, gPn, gPt, gPs0, gPs1, gPs2, sTry, sTry1, sTryN, sTryR, sTryR2, sTryB, sTryC, sRaise, nOw0, nOw1, nOw2, fld0, fld1, xIsX1, xIsX2, xIsNotX, xIsNX, U.l0, U.l1, U.s0, U.s1, wS0, wS1, beq_self_eq_true, sSet2, sSet21, sPar, sPar1, sOwnM, sOwnM1, sExt, sExt1, sExt2, sWh1, sWh2, xIsNI, xIsNNo, xIsNotI, xIsNotNo, xIsNotL, xIsNotT, xIsNotS, xIsS, xIsL, xIsT, xNeS, sRetO, sRetO1, sRetF, xCallF, xCallF1, xCallFK, xCallFK1, List.getD_cons_zero, List.getD_cons_succ, Bool.not_true, Bool.not_false, Bool.not_not, xLt, xLe, xGt, xGe, xEqI, xEqS, xNeI, xLenS, xLenL, xLenT, xAddI, xAddS, xAddL, xAddT, xSubI, xMulI, xMulL, xMulT, xDivI, xModI, xPowI, xNegI, xIntI, xIntB, xAbsI, xMin2, xMax2, xListL, xListT, xTupleL, xTupleT, xCutL, xCutT, xIsN, xIsB, xIsNotB, xIx0T, xIx1T, xIx2T, xIx3T, xIx0L, xIx1L, Int.reduceSub, Int.reduceAdd, Int.reduceMul, Int.reduceToNat, Int.reducePow, Int.reduceNeg])
theorem numO_nn {w : Str} {most i : Int} (h : numO w most = some i) : 0 ≤ i := by
  unfold numO at h
  split at h
  · split at h
    · rename_i q; cases h; exact q.1
    · cases h
  · cases h
theorem xIn1 {a b : Int} {Q : D → Prop} : gIn (.int (-1)) (.tup [.int a, .int b]) Q ↔ Q (.bl (decide (a = -1) || decide (b = -1))) := by
  show ((∀ d ∈ [D.int a, .int b], D.flat 60 d = true ∧ D.cq d (.int (-1)) = true) ∧ Q (.bl ([D.int a, .int b].any fun d => D.eqv d (.int (-1))))) ↔ _
  have e : ([D.int a, .int b].any fun d => D.eqv d (.int (-1))) = (decide (a = -1) || decide (b = -1)) := by
    simp only [List.any_cons, List.any_nil, D.eqv, Bool.or_false]
    rfl
  rw [e]
  exact ⟨fun h => h.2, fun h => ⟨fun d hd => by rcases mem2 hd with rfl | rfl <;> exact ⟨rfl, rfl⟩, h⟩⟩
theorem pure__law_pair {pen : PenT} {PX : UX → Nat → Prop} : ∀ ds n (Q : D → Nat → Prop), sp__law_pair ds pen n Q PX → u__law_pair (Wd pen PX) { nx := fun ρ => Q .non ρ.fuel, rt := Q } ⟨startU N__law_pair ds, pen, n⟩ := by
  refine run__law_pair ?_
  rintro x y n Q ⟨w, y', c, e, ey, hc, tx, hQ⟩
  obtain ⟨rfl, rfl⟩ := list2 e
  have tl := tx.2
  have hz : (y'.length == 0) = false := by rw [TL.len_tl, ey]; rfl
  unfold u__law_pair
  simp_arith only [xSplit]
  refine ⟨⟨hz, lim5 (by omega)⟩, ?_⟩
  unfold pairO at hQ
  have tp : ∀ p ∈ Txt.split w y', Tx 50000 p := fun p hp => tx_part ey hc tx hp
  generalize Txt.split w y' = ws at hQ tp ⊢
  rcases ws with _ | ⟨a, _ | ⟨b, _ | ⟨b2, r⟩⟩⟩
  · (try simp_arith only [List.map_nil, List.length_nil])
    exact hQ
  · (try simp_arith only [List.map_cons, List.map_nil, List.length_cons, List.length_nil])
    exact hQ
  · (try simp_arith only [List.map_cons, List.map_nil, List.length_cons, List.length_nil])
    rw [decide_eq_false (by decide)]
    (try simp_arith only [])
    refine ⟨⟨by decide, by decide, by decide⟩, a, 100, by rfl, tp a List.mem_cons_self, by decide, ?_⟩
    (try simp_arith only [])
    refine ⟨⟨by decide, by decide, by decide⟩, b, 9999999999999999999999999999999999999999, by rfl, tp b (List.mem_cons_of_mem _ List.mem_cons_self), by decide, ?_⟩
    simp_arith only [xIn1]
    dsimp only at hQ
    unfold numV
    cases e1 : numO a 100 with
    | none =>
      rw [e1] at hQ
      (try simp_arith only [Option.getD_none, decide_true, Bool.true_or])
      exact hQ
    | some i =>
      have i0 := numO_nn e1
      cases e2 : numO b 9999999999999999999999999999999999999999 with
      | none =>
        rw [e1, e2] at hQ
        (try simp_arith only [Option.getD_none, Option.getD_some, decide_true, Bool.or_true])
        exact hQ
      | some j =>
        have j0 := numO_nn e2
        rw [e1, e2] at hQ
        have e : (decide (i = -1) || decide (j = -1)) = false := by rw [decide_eq_false (show ¬ i = -1 by omega), decide_eq_false (show ¬ j = -1 by omega)]; rfl
        simp only [Option.getD_some, e]
        (try simp_arith only [])
        exact hQ
  · (try simp_arith only [List.map_cons, List.length_cons])
    rw [decide_eq_true (by omega)]
    (try simp_arith only [])
    exact hQ
/-! ### what is due -/
theorem xInS2 {a b s : Str} {Q : D → Prop} (ha : PyData.strOk a = true) (hb : PyData.strOk b = true) (hs : PyData.strOk s = true) : gIn (.str s) (.tup [.str a, .str b]) Q ↔ Q (.bl (decide (a = s) || decide (b = s))) := by
  show ((∀ d ∈ [D.str a, .str b], D.flat 60 d = true ∧ D.cq d (.str s) = true) ∧ Q (.bl ([D.str a, .str b].any fun d => D.eqv d (.str s)))) ↔ _
  have e : ([D.str a, .str b].any fun d => D.eqv d (.str s)) = (decide (a = s) || decide (b = s)) := by
    simp only [List.any_cons, List.any_nil, D.eqv, Bool.or_false, beqS]
  rw [e]
  exact ⟨fun h => h.2, fun h => ⟨fun d hd => by rcases mem2 hd with rfl | rfl <;> simp [D.flat, D.cq, ha, hb, hs], h⟩⟩
theorem ascU : ∀ {a b : List Int}, a.Pairwise (· < ·) → b.Pairwise (· < ·) → (∀ k, k ∈ a ↔ k ∈ b) → a = b
  | [], [], _, _, _ => rfl
  | [], y :: b, _, _, h => by have := (h y).mpr List.mem_cons_self; cases this
  | x :: a, [], _, _, h => by have := (h x).mp List.mem_cons_self; cases this
  | x :: a, y :: b, ha, hb, h => by
    obtain ⟨a1, a2⟩ := List.pairwise_cons.mp ha
    obtain ⟨b1, b2⟩ := List.pairwise_cons.mp hb
    have e : x = y := by
      rcases List.mem_cons.mp ((h x).mp List.mem_cons_self) with e | e
      · exact e
      · rcases List.mem_cons.mp ((h y).mpr List.mem_cons_self) with e2 | e2
        · exact e2.symm
        · have := b1 x e
          have := a1 y e2
          omega
    subst e
    rw [ascU a2 b2 fun k => ?_]
    constructor
    · intro hk
      rcases List.mem_cons.mp ((h k).mp (List.mem_cons_of_mem _ hk)) with e | e
      · have := a1 k hk; omega
      · exact e
    · intro hk
      rcases List.mem_cons.mp ((h k).mpr (List.mem_cons_of_mem _ hk)) with e | e
      · have := b1 k hk; omega
      · exact e
theorem ascB_pw : ∀ {es : List (Int × Int)} {lo : Int}, ascB lo es = true ↔ (es.map (·.1)).Pairwise (· < ·) ∧ ∀ e ∈ es, lo ≤ e.1 ∧ e.1 ≤ 59
  | [], lo => by simp [ascB]
  | e :: r, lo => by
    simp only [ascB, Bool.and_eq_true, decide_eq_true_eq, ascB_pw (es := r), List.map_cons, List.pairwise_cons, List.mem_map, List.mem_cons]
    constructor
    · rintro ⟨⟨h1, h2⟩, h3, h4⟩
      refine ⟨⟨?_, h3⟩, ?_⟩
      · rintro _ ⟨x, hx, rfl⟩
        have := h4 x hx; omega
      · rintro x (rfl | hx)
        · exact ⟨h1, h2⟩
        · have := h4 x hx; omega
    · rintro ⟨⟨h1, h2⟩, h3⟩
      refine ⟨h3 e (.inl rfl), h2, fun x hx => ?_⟩
      have := h1 _ ⟨x, hx, rfl⟩
      have := h3 x (.inr hx)
      omega
theorem pairs_none : ∀ {r : List Str}, pairsO r = none → ∃ w ∈ r, pairO w ":" = none
  | [], h => by cases h
  | w :: r, h => by
    simp only [pairsO] at h
    cases e1 : pairO w ":" with
    | none => exact ⟨w, List.mem_cons_self, e1⟩
    | some p =>
      cases e2 : pairsO r with
      | none =>
        obtain ⟨x, hx, e⟩ := pairs_none e2
        exact ⟨x, List.mem_cons_of_mem _ hx, e⟩
      | some ps => rw [e1, e2] at h; cases h
theorem pairs_map : ∀ {r : List Str} {es : List (Int × Int)}, pairsO r = some es → (r.map fun w => pairD (pairO w ":")) = es.map enD
  | [], es, h => by cases h; rfl
  | w :: r, es, h => by
    simp only [pairsO] at h
    cases e1 : pairO w ":" with
    | none => rw [e1] at h; cases h
    | some p =>
      cases e2 : pairsO r with
      | none => rw [e1, e2] at h; cases h
      | some ps =>
        rw [e1, e2] at h
        cases h
        rw [List.map_cons, List.map_cons, pairs_map e2, e1]; rfl
theorem pairD_flat (o : Option (Int × Int)) : D.flat 59 (pairD o) = true := by
  cases o with
  | none => rfl
  | some e => rfl
def gt59 : D → Bool
  | .tup [.int a, _] => decide (59 < a)
  | _ => false
def fstD : D → D
  | .tup [a, _] => a
  | _ => .non
theorem gt_none {es : List (Int × Int)} : ((es.map enD).filter gt59).isEmpty = es.all fun e => decide (e.1 ≤ 59) := by
  induction es with
  | nil => rfl
  | cons e es ih =>
    rw [List.map_cons, List.filter_cons, List.all_cons]
    by_cases q : e.1 ≤ 59
    · rw [show gt59 (enD e) = decide (59 < e.1) from rfl, decide_eq_false (by omega), if_neg (by simp), ih, decide_eq_true q]; rfl
    · rw [show gt59 (enD e) = decide (59 < e.1) from rfl, decide_eq_true (by omega), if_pos rfl, decide_eq_false q]; rfl
theorem eqvs_ints : ∀ {a b : List Int}, D.eqvs (a.map D.int) (b.map D.int) = decide (a = b)
  | [], [] => by simp [D.eqvs]
  | [], y :: b => by simp [D.eqvs]
  | x :: a, [] => by simp [D.eqvs]
  | x :: a, y :: b => by
    simp only [List.map_cons, D.eqvs, D.eqv, eqvs_ints (a := a) (b := b), List.cons.injEq, Bool.decide_and]
    rfl
theorem dueD_str (s : Str) : dueD (.str s) = match readP s with
  | some P => .lst [P.d]
  | none => .tup [.int 0] := rfl
theorem readP_w {s w : Str} {r : List Str} (hw : Txt.split s (Str.ofString " ") = w :: r) (h1 : Str.ofString "exact" ≠ s) (h2 : Str.ofString "endless" ≠ s) : readP s = if w = Str.ofString "step" then (match r with
      | [x] => (numO x 1000000000000000000000000000000).map .step
      | _ => none)
    else if w = Str.ofString "factor" then (match r with
      | [x] => match pairO x "/" with
        | some (t, b) => if 1 ≤ b ∧ b ≤ 100 ∧ 5 * b ≤ 4 * t then some (.factor t b) else none
        | none => none
      | _ => none)
    else if w = Str.ofString "table" then (if r.length ≤ 60 then (match pairsO r with
      | some es => if ascB 0 es = true then some (.table es) else none
      | none => none) else none)
    else none := by
  have ej := of_split (s := s) sp_tl (by decide)
  rw [hw] at ej
  unfold readP readW
  rw [show Txt.split s " " = w :: r from hw]
  dsimp only
  rw [if_neg (fun z => h1 (by rw [← ej, z.1, z.2]; rfl)), if_neg (fun z => h2 (by rw [← ej, z.1, z.2]; rfl))]
  all_goals rfl
theorem pure__law_due {pen : PenT} {PX : UX → Nat → Prop} : ∀ ds n (Q : D → Nat → Prop), sp__law_due ds pen n Q PX → u__law_due (Wd pen PX) { nx := fun ρ => Q .non ρ.fuel, rt := Q } ⟨startU N__law_due ds, pen, n⟩ := by
  refine run__law_due ?_
  rintro x n Q ⟨x', e, ⟨hx, htx⟩, hQ⟩
  obtain rfl := list1 e
  unfold u__law_due
  have hz : ((Str.ofString " ").length == 0) = false := by decide +kernel
  have oe := strOk_of "exact"
  have on := strOk_of "endless"
  by_cases hs : ∃ s, x = .str s
  · obtain ⟨s, rfl⟩ := hs
    have tx := htx s rfl
    have tl := tx.2
    have ej := of_split (s := s) sp_tl (by decide)
    have tp : ∀ p ∈ Txt.split s (Str.ofString " "), Tx 40000 p := fun p hp => tx_part sp_tl (by decide) tx hp
    simp_arith only [xIsiS hx, D.isS, xSplit, xInS2 oe on tx.1]
    refine ⟨⟨hz, lim5 (by omega)⟩, ?_⟩
    by_cases h1 : Str.ofString "exact" = s
    · rw [show dueD (.str s) = .lst [.tup [.str s]] by
        rw [← h1, dueD_str, show readP (Str.ofString "exact") = some .exact from readP_iff.mpr ⟨trivial, rfl⟩]; rfl] at hQ
      rw [decide_eq_true h1, Bool.true_or]
      (try simp_arith only [])
      exact hQ
    rw [decide_eq_false h1]
    by_cases h2 : Str.ofString "endless" = s
    · rw [show dueD (.str s) = .lst [.tup [.str s]] by
        rw [← h2, dueD_str, show readP (Str.ofString "endless") = some .endless from readP_iff.mpr ⟨trivial, rfl⟩]; rfl] at hQ
      rw [decide_eq_true h2, Bool.or_true]
      (try simp_arith only [])
      exact hQ
    rw [decide_eq_false h2, Bool.or_self]
    have hne := split_ne (s := s) sp_tl (by decide)
    have hmu := split_mu (s := s) sp_tl (by decide)
    rw [dueD_str] at hQ
    cases hw : Txt.split s (Str.ofString " ") with
    | nil => exact absurd hw hne
    | cons w r =>
    rw [readP_w hw h1 h2] at hQ
    rw [hw] at tp hmu
    rw [mu_cons] at hmu
    have hl := mu_len r
    have tr : ∀ p ∈ r, Tx 40000 p := fun p hp => tp p (List.mem_cons_of_mem _ hp)
    clear tp hw hne ej
    (try simp_arith only [List.map_cons, beqS])
    by_cases c1 : w = Str.ofString "step"
    · rw [if_pos c1] at hQ
      rw [decide_eq_true c1]
      (try simp_arith only [List.length_cons, List.length_map])
      subst c1
      rcases r with _ | ⟨x, _ | ⟨x2, r⟩⟩
      · (try simp_arith only [List.length_nil, sq_exact_endless, sq_exact_table, sq_exact_step, sq_exact_factor, sq_endless_exact, sq_endless_table, sq_endless_step, sq_endless_factor, sq_table_exact, sq_table_endless, sq_table_step, sq_table_factor, sq_step_exact, sq_step_endless, sq_step_table, sq_step_factor, sq_factor_exact, sq_factor_endless, sq_factor_table, sq_factor_step])
        exact hQ
      · (try simp_arith only [List.length_cons, List.length_nil, List.map_cons, List.map_nil])
        rw [decide_eq_true (by decide)]
        (try simp_arith only [])
        refine ⟨⟨by decide, by decide, by decide⟩, x, 1000000000000000000000000000000, by rfl, (tr x List.mem_cons_self).le (by decide), by decide, ?_⟩
        dsimp only at hQ
        unfold numV
        cases e : numO x 1000000000000000000000000000000 with
        | none =>
          rw [e] at hQ
          (try simp_arith only [Option.getD_none, sq_exact_endless, sq_exact_table, sq_exact_step, sq_exact_factor, sq_endless_exact, sq_endless_table, sq_endless_step, sq_endless_factor, sq_table_exact, sq_table_endless, sq_table_step, sq_table_factor, sq_step_exact, sq_step_endless, sq_step_table, sq_step_factor, sq_factor_exact, sq_factor_endless, sq_factor_table, sq_factor_step])
          rw [decide_eq_false (by decide)]
          (try simp_arith only [sq_exact_endless, sq_exact_table, sq_exact_step, sq_exact_factor, sq_endless_exact, sq_endless_table, sq_endless_step, sq_endless_factor, sq_table_exact, sq_table_endless, sq_table_step, sq_table_factor, sq_step_exact, sq_step_endless, sq_step_table, sq_step_factor, sq_factor_exact, sq_factor_endless, sq_factor_table, sq_factor_step])
          exact hQ
        | some i =>
          rw [e] at hQ
          obtain ⟨i0, i1, ei⟩ := (numO_iff (by decide)).mp e
          have hi := nS_int (show natI i from ⟨i0, by omega⟩)
          rw [← ei] at hi
          have l40 := nS_l40 (show natI i from ⟨i0, by omega⟩)
          rw [← ei] at l40
          (try simp_arith only [Option.getD_some])
          rw [decide_eq_true i0]
          simp_arith only [xIntT hi (show x.length ≤ 640 by omega)]
          exact hQ
      · (try simp_arith only [List.length_cons])
        rw [decide_eq_false (by omega)]
        (try simp_arith only [sq_exact_endless, sq_exact_table, sq_exact_step, sq_exact_factor, sq_endless_exact, sq_endless_table, sq_endless_step, sq_endless_factor, sq_table_exact, sq_table_endless, sq_table_step, sq_table_factor, sq_step_exact, sq_step_endless, sq_step_table, sq_step_factor, sq_factor_exact, sq_factor_endless, sq_factor_table, sq_factor_step])
        exact hQ
    rw [if_neg c1] at hQ
    rw [decide_eq_false c1]
    (try simp_arith only [List.map_cons, beqS])
    by_cases c2 : w = Str.ofString "factor"
    · rw [if_pos c2] at hQ
      rw [decide_eq_true c2]
      (try simp_arith only [List.length_cons, List.length_map])
      subst c2
      rcases r with _ | ⟨x, _ | ⟨x2, r⟩⟩
      · (try simp_arith only [List.length_nil, sq_exact_endless, sq_exact_table, sq_exact_step, sq_exact_factor, sq_endless_exact, sq_endless_table, sq_endless_step, sq_endless_factor, sq_table_exact, sq_table_endless, sq_table_step, sq_table_factor, sq_step_exact, sq_step_endless, sq_step_table, sq_step_factor, sq_factor_exact, sq_factor_endless, sq_factor_table, sq_factor_step])
        exact hQ
      · (try simp_arith only [List.length_cons, List.length_nil, List.map_cons, List.map_nil])
        rw [decide_eq_true (by decide)]
        (try simp_arith only [])
        refine ⟨x, _, 47, rfl, sl_tl, by decide, (tr x List.mem_cons_self).le (by decide), ?_⟩
        dsimp only at hQ
        cases e : pairO x (Str.ofString "/") with
        | none =>
          rw [show pairO x "/" = none from e] at hQ
          (try simp_arith only [pairD])
          refine (xEqF (by rfl) (by rfl)).mpr ?_
          rw [show D.eqv (.tup []) (.tup []) = true from rfl]
          (try simp_arith only [])
          exact hQ
        | some p =>
          rw [show pairO x "/" = some p from e] at hQ
          obtain ⟨i0, i1, ei⟩ := (pairO_iff sl_tl (by decide) (by decide)).mp e
          obtain ⟨a, b⟩ := p
          dsimp only at i0 i1 hQ
          (try simp_arith only [pairD, enD])
          refine (xEqF (by rfl) (by rfl)).mpr ?_
          rw [show D.eqv (.tup [.int a, .int b]) (.tup []) = false from rfl]
          (try simp_arith only [])
          by_cases q1 : 1 ≤ b
          · rw [decide_eq_true q1]
            (try simp_arith only [])
            by_cases q2 : b ≤ 100
            · rw [decide_eq_true q2]
              (try simp_arith only [])
              refine ⟨.inl (by omega), .inl (by omega), ?_⟩
              by_cases q3 : 5 * b ≤ 4 * a
              · rw [if_pos ⟨q1, q2, q3⟩] at hQ
                rw [decide_eq_false (show ¬ 4 * a < 5 * b by omega)]
                (try simp_arith only [List.length_cons, List.length_nil])
                exact ⟨lim5 (by omega), hQ⟩
              · rw [if_neg (fun z => q3 z.2.2)] at hQ
                rw [decide_eq_true (show 4 * a < 5 * b by omega)]
                (try simp_arith only [])
                exact hQ
            · rw [if_neg (fun z => q2 z.2.1)] at hQ
              rw [decide_eq_false q2]
              (try simp_arith only [])
              exact hQ
          · rw [if_neg (fun z => q1 z.1)] at hQ
            rw [decide_eq_false q1]
            (try simp_arith only [])
            exact hQ
      · (try simp_arith only [List.length_cons])
        rw [decide_eq_false (by omega)]
        (try simp_arith only [sq_exact_endless, sq_exact_table, sq_exact_step, sq_exact_factor, sq_endless_exact, sq_endless_table, sq_endless_step, sq_endless_factor, sq_table_exact, sq_table_endless, sq_table_step, sq_table_factor, sq_step_exact, sq_step_endless, sq_step_table, sq_step_factor, sq_factor_exact, sq_factor_endless, sq_factor_table, sq_factor_step])
        exact hQ
    rw [if_neg c2] at hQ
    rw [decide_eq_false c2]
    (try simp_arith only [List.map_cons, beqS])
    by_cases c3 : w = Str.ofString "table"
    · rw [if_pos c3] at hQ
      (try simp_arith only [xNeS, beqS])
      rw [decide_eq_true c3]
      (try simp_arith only [List.length_cons, List.length_map])
      by_cases hr : r.length ≤ 60
      · rw [if_pos hr] at hQ
        rw [decide_eq_false (by omega)]
        (try simp_arith only [])
        rw [cut_from (by decide), show ((1 : Int).toNat) = 1 from rfl, List.drop_succ_cons, List.drop_zero]
        refine xMap (strM fun w => pairD (pairO w (Str.ofString ":"))) (lim5 (by rw [List.length_map]; omega)) (by rfl) (fun d hd m T hT => ?_) ?_
        · obtain ⟨p, hp, rfl⟩ := List.mem_map.mp hd
          (try simp_arith only [])
          exact ⟨p, _, 58, rfl, co_tl, by decide, (tr p hp).le (by decide), hT⟩
        rw [List.map_map, show (strM (fun w => pairD (pairO w (Str.ofString ":"))) ∘ D.str) = fun w => pairD (pairO w (Str.ofString ":")) from rfl]
        (try simp_arith only [])
        refine (xInL fun d hd => ?_).mpr ?_
        · obtain ⟨p, _, rfl⟩ := List.mem_map.mp hd
          have := pairD_flat (pairO p (Str.ofString ":"))
          have f := flat_le 59 60 _ (by decide) this
          exact ⟨f, by unfold D.cq; rw [f]; rfl⟩
        cases e : pairsO r with
        | none =>
          rw [e] at hQ
          obtain ⟨p, hp, ep⟩ := pairs_none e
          rw [show ((r.map fun w => pairD (pairO w (Str.ofString ":"))).any fun d => D.eqv d (.tup [])) = true from List.any_eq_true.mpr ⟨_, List.mem_map_of_mem hp, by rw [show pairO p (Str.ofString ":") = none from ep]; rfl⟩]
          (try simp_arith only [])
          exact hQ
        | some es =>
          rw [e] at hQ
          dsimp only at hQ
          obtain ⟨er, hes⟩ := pairs_iff.mp e
          rw [show (r.map fun w => pairD (pairO w (Str.ofString ":"))) = es.map enD from pairs_map e]
          rw [show ((es.map enD).any fun d => D.eqv d (.tup [])) = false from by
            rw [List.any_eq_false]
            intro d hd
            obtain ⟨x, _, rfl⟩ := List.mem_map.mp hd
            simp [enD, D.eqv, D.eqvs]]
          have le : es.length ≤ 60 := by rw [er, List.length_map] at hr; exact hr
          (try simp_arith only [])
          refine xFilt gt59 (fun d => d) (lim5 (by rw [List.length_map]; omega)) (by rfl) (fun d hd m T1 F0 hT hF => ?_) ?_
          · obtain ⟨x, _, rfl⟩ := List.mem_map.mp hd
            change decide (59 < x.1) = true → _ at hT
            change decide (59 < x.1) = false → _ at hF
            (try simp_arith only [enD])
            cases q : decide (59 < x.1) with
            | true =>
              (try simp_arith only [kSel1])
              exact hT q
            | false =>
              (try simp_arith only [kSel2])
              exact hF q
          rw [List.map_id']
          (try simp_arith only [])
          refine (xNeF (x := .lst ((es.map enD).filter gt59)) (y := .lst []) (flat_lst fun d hd => ?_) (by rfl)).mpr ?_
          · obtain ⟨x, _, rfl⟩ := List.mem_map.mp (List.mem_filter.mp hd).1
            rfl
          rw [len_nil, gt_none]
          cases q : es.all fun e => decide (e.1 ≤ 59) with
          | false =>
            rw [if_neg (fun z => by
              have := (ascB_pw.mp z).2
              have : (es.all fun e => decide (e.1 ≤ 59)) = true := List.all_eq_true.mpr fun x hx => decide_eq_true (this x hx).2
              rw [q] at this; cases this)] at hQ
            (try simp_arith only [])
            exact hQ
          | true =>
            have q59 : ∀ x ∈ es, x.1 ≤ 59 := fun x hx => of_decide_eq_true (List.all_eq_true.mp q x hx)
            (try simp_arith only [])
            refine xMap fstD (lim5 (by rw [List.length_map]; omega)) (by rfl) (fun d hd m T hT => ?_) ?_
            · obtain ⟨x, _, rfl⟩ := List.mem_map.mp hd
              (try simp_arith only [enD])
              exact hT
            rw [List.map_map, show (fstD ∘ enD) = D.int ∘ (fun x : Int × Int => x.1) from rfl, ← List.map_map]
            (try simp_arith only [])
            refine xfSortS1.mpr ⟨⟨by rw [List.length_map]; omega, (List.range 60).map Int.ofNat, by simp, fun k hk => ?_⟩, fun ms m1 m2 => ?_⟩
            · obtain ⟨x, hx, rfl⟩ := List.mem_map.mp hk
              have a := (hes x hx).1.1
              have b := q59 x hx
              exact List.mem_map.mpr ⟨x.1.toNat, List.mem_range.mpr (by omega), by show ((x.1.toNat : Nat) : Int) = x.1; omega⟩
            (try simp_arith only [])
            refine (xNeF (x := .lst _) (y := .lst _) (flat_lst fun d hd => ?_) (flat_lst fun d hd => ?_)).mpr ?_
            · obtain ⟨k, _, rfl⟩ := List.mem_map.mp hd; rfl
            · obtain ⟨k, _, rfl⟩ := List.mem_map.mp hd; rfl
            rw [show ∀ a b : List Int, D.eqv (.lst (a.map D.int)) (.lst (b.map D.int)) = decide (a = b) from fun a b => eqvs_ints]
            have tup : ∀ l : List D, ∀ Q : D → Prop, gTuple [.lst l] Q ↔ Q (.tup l) := fun _ _ => Iff.rfl
            by_cases z : es.map (fun x => x.1) = ms
            · rw [if_pos (ascB_pw.mpr ⟨by rw [z]; exact m1, fun x hx => ⟨(hes x hx).1.1, q59 x hx⟩⟩)] at hQ
              rw [decide_eq_true z]
              simp_arith only [tup]
              exact hQ
            · rw [if_neg (fun y => z (ascU (ascB_pw.mp y).1 m1 fun k => (m2 k).symm))] at hQ
              rw [decide_eq_false z]
              (try simp_arith only [])
              exact hQ
      · rw [if_neg hr] at hQ
        rw [decide_eq_true (by omega)]
        (try simp_arith only [])
        exact hQ
    · rw [if_neg c3] at hQ
      (try simp_arith only [xNeS, beqS])
      rw [decide_eq_false c3]
      (try simp_arith only [])
      exact hQ
  · have hn : ∀ s, x ≠ .str s := fun s z => hs ⟨s, z⟩
    have : dueD x = .tup [.int 0] := by
      cases x with
      | str s => exact absurd rfl (hn s)
      | _ => rfl
    rw [this] at hQ
    (try simp_arith only [])
    refine (xIsiSN hx hn).mpr ?_
    (try simp_arith only [])
    exact hQ
end Lw


set_option Elab.async false
set_option linter.all false
set_option maxRecDepth 100000
set_option maxHeartbeats 0
namespace Lw
open PySem PySem.Spec L2 U
open PyProof.Rows hiding St
local macro_rules | `(tactic| simp_arith only [$ts,*]) => `(tactic| simp only [xGetD, xGetD1, xGetD2, xGetD3, xGetDO1, xGetDO2, xPkD, xPkD1, xPkD2, xPkF, xPkF1, xPkF2, sPenND, sPenRD, sAli, sAli1, sAli2, sAli3, sAliO, sAliO1, sAliO2, xCutS, xCutS1, xCutS2, xCutS3, xCutS4, xMulS, xNotInSg, xPartn, xStW, xEnW, xMaxD, xMaxD1, xMaxD2, iKy, iKy1, xFrz, xFrz1, xDComp, gIxD_dic, gIxD_lst, xZn, xZn1, xDic1, xDic11, xDic12, sThawF, xFKey, xZy, xZy1, xZy2, xfListZ, xfListZ1, xfSortP, xfSortP1, xRoot, xRoot1, xStep, xStep1, xStep2, xStepO, xLeaf, xLeaf1, xLf, xFv, xFv1, xDic0, sTNew, sTNew1, rtS1, sTSet, sTSet1, sTSet2, sTSet3, sTSet4, sTApp, sTApp1, sTApp2, sTPop, sTPop1, sTPop2, sTPopO, sRetT, sRetT1, sRetN1, sRetN11, sRetN0, sRetV, sRetV1, sThawT, sThawT1, sThawT2, sThawT3, xPeekN, xPeekN1, xPeekN2, xPeekN3, xPeekNT, xPeekNT1, xPeekNT2, xCallN, xCallN0, xCallN1, xCallN2, sXDrop, sXDrop1, sXSet, sXSet1, sXSet2, sXRet, xCallV, xCallV1, xNGet, xNGet1, xNGet2, xNGet3, xNGetO1, xNGetO2, xNItems, xNItems1, xVKey, xVKey1, xVKeyO, xDictV, xDictV1, xDictO, xDisp, xDisp1, xKNil, xKCons, xKCons1, xKCons2, endN1, endN2, endV1, xVNil, xVCons, xVCons1, xVCons2, xVLst, xPeekF, xPeekF1, xPeekF2, xFIf, xFIf1, xFIf2, xZ, xZ1, xfListOf, xfListOf1, xfListOf2, xOIx, xOIx1, sRows, xRevF, xRevF1, sTryP, xAct, xLam, hide0, hide1, hide2, hide3, sIns, sIns1, sIns2, sPop, sPop1, sRaiseF, xFld, iSt, iSt1, xSplit, xRmPre, xInSg, xFs, xFs0, xFs1, xFs2, xFs3, xFmt, xFmtI, xFmtS, xStrI, xStrS, xM1, xM11, xM12, xInK, xNotInK, xfSorted, xfSortS, xFrT, gIxD_dicS, sTryO, sTryO1, endsO_nx, xVar, xVar1, xC, xN, xOp, xOp1, xOp2, xUn, xUn1, xNil, xCons, xCons1, xCons2, xTup, xTup1, xLst, xLst1, xTru, xTru1, xOb, tru_non, tru_bl, tru_int, tru_lst, tru_tup, xTB, xTB1, xAndT, xAndT1, xAndT2, xOrT, xOrT1, xOrT2, xNotT, xNotT1, xAnd, xAnd1, xAnd2, xOr, xOr1, xOr2, xNot, xNot1, xIfE, xIfE1, xIfE2, xCh, xCh1, xCh2, xCh3, xCh3b, xCh4, xNoP, xPart, xPart1, xCut, xCut1, xCut2, xCut3, xB, xB1, xCall, xCall1, xCallK, xCallK1, perm_nil, perm_cons, xCat, xCat1, xCat2, xRev, xRevL, xRevT, sSkip, sSeq, sRet, sRetN, sIf, sIf1, sIf2, sDrop, sDrop1, sBrk, sCnt, sSet, sSet1, sAsg, sAsg1, gN, gT, gPut, put_nil, put_cons, sAug, sAug1, sAug2, xFr, xFr1, xfLst, sOwn, sOwn1, sApp, sApp1, sApp2, sThaw, sThaw1, sThaw2, sThaw3, xPeek, xPeek1, xPeekd, xPeek2, xPeekT, xPeekT1, xPeekTd, sSetIx, sSetIx1, sSetIx2, sSetIx3, sSetIx4, iSq, iSqL, iSqT, iEn, iEnL, iEnT, iR1, iR11, iR2, iR21, sFor, xComp, sPenN, sPenR, sOwnD, sDSet, sDSet1, sDSet2, sDSet3, sDSet5, dKi, dKs, sThawD, sThawD1, iIt, iIt1, gPn, gPt, gPs0, gPs1, gPs2, sTry, sTry1, sTryN, sTryR, sTryR2, sTryB, sTryC, sRaise, nOw0, nOw1, nOw2, fld0, fld1, xIsX1, xIsX2, xIsNotX, xIsNX, U.l0, U.l1, U.s0, U.s1, wS0, wS1, beq_self_eq_true, sSet2, sSet21, sPar, sPar1, sOwnM, sOwnM1, sExt, sExt1, sExt2, sWh1, sWh2, xIsNI, xIsNNo, xIsNotI, xIsNotNo, xIsNotL, xIsNotT, xIsNotS, xIsS, xIsL, xIsT, xNeS, sRetO, sRetO1, sRetF, xCallF, xCallF1, xCallFK, xCallFK1, List.getD_cons_zero, List.getD_cons_succ, Bool.not_true, Bool.not_false, Bool.not_not, xLt, xLe, xGt, xGe, xEqI, xEqS, xNeI, xLenS, xLenL, xLenT, xAddI, xAddS, xAddL, xAddT, xSubI, xMulI, xMulL, xMulT, xDivI, xModI, xPowI, xNegI, xIntI, xIntB, xAbsI, xMin2, xMax2, xListL, xListT, xTupleL, xTupleT, xCutL, xCutT, xIsN, xIsB, xIsNotB, xIx0T, xIx1T, xIx2T, xIx3T, xIx0L, xIx1L, Int.reduceSub, Int.reduceAdd, Int.reduceMul, Int.reduceToNat, Int.reducePow, Int.reduceNeg, $ts,*])
local macro_rules | `(tactic| simp_arith only []) => `(tactic| simp only [xGetD, xGetD1, xGetD2, xGetD3, xGetDO1, xGetDO2, xPkD, xPkD1, xPkD2, xPkF, xPkF1, xPkF2, sPenND, sPenRD, sAli, sAli1, sAli2, sAli3, sAliO, sAliO1, sAliO2, xCutS, xCutS1, xCutS2, xCutS3, xCutS4, xMulS, xNotInSg, xPartn, xStW, xEnW, xMaxD, xMaxD1, xMaxD2, iKy, iKy1, xFrz, xFrz1, xDComp, gIxD_dic, gIxD_lst, xZn, xZn1, xDic1, xDic11, xDic12, sThawF, xFKey, xZy, xZy1, xZy2, xfListZ, xfListZ1, xfSortP, xfSortP1, xRoot, xRoot1, xStep, xStep1, xStep2, xStepO, xLeaf, xLeaf1, xLf, xFv, xFv1, xDic0, sTNew, sTNew1, rtS1, sTSet, sTSet1, sTSet2, sTSet3, sTSet4, sTApp, sTApp1, sTApp2, sTPop, sTPop1, sTPop2, sTPopO, sRetT, sRetT1, sRetN1, sRetN11, sRetN0, sRetV, sRetV1, sThawT, sThawT1, sThawT2, sThawT3, xPeekN, xPeekN1, xPeekN2, xPeekN3, xPeekNT, xPeekNT1, xPeekNT2, xCallN, xCallN0, xCallN1, xCallN2, sXDrop, sXDrop1, sXSet, sXSet1, sXSet2, sXRet, xCallV, xCallV1, xNGet, xNGet1, xNGet2, xNGet3, xNGetO1, xNGetO2, xNItems, xNItems1, xVKey, xVKey1, xVKeyO, xDictV, xDictV1, xDictO, xDisp, xDisp1, xKNil, xKCons, xKCons1, xKCons2, endN1, endN2, endV1, xVNil, xVCons, xVCons1, xVCons2, xVLst, xPeekF, xPeekF1, xPeekF2, xFIf, xFIf1, xFIf2, xZ, xZ1, xfListOf, xfListOf1, xfListOf2, xOIx, xOIx1, sRows, xRevF, xRevF1, sTryP, xAct, xLam, hide0, hide1, hide2, hide3, sIns, sIns1, sIns2, sPop, sPop1, sRaiseF, xFld, iSt, iSt1, xSplit, xRmPre, xInSg, xFs, xFs0, xFs1, xFs2, xFs3, xFmt, xFmtI, xFmtS, xStrI, xStrS, xM1, xM11, xM12, xInK, xNotInK, xfSorted, xfSortS, xFrT, gIxD_dicS, sTryO, sTryO1, endsO_nx, xVar, xVar1, xC, xN, xOp, xOp1, xOp2, xUn, xUn1, xNil, xCons, xCons1, xCons2, xTup, xTup1, xLst, xLst1, xTru, xTru1, xOb, tru_non, tru_bl, tru_int, tru_lst, tru_tup, xTB, xTB1, xAndT, xAndT1, xAndT2, xOrT, xOrT1, xOrT2, xNotT, xNotT1, xAnd, xAnd1, xAnd2, xOr, xOr1, xOr2, xNot, xNot1, xIfE, xIfE1, xIfE2, xCh, xCh1, xCh2, xCh3, xCh3b, xCh4, xNoP, xPart, xPart1, xCut, xCut1, xCut2, xCut3, xB, xB1, xCall, xCall1, xCallK, xCallK1, perm_nil, perm_cons, xCat, xCat1, xCat2, xRev, xRevL, xRevT, sSkip, sSeq, sRet, sRetN, sIf, sIf1, sIf2, sDrop, sDrop1, sBrk, sCnt, sSet, sSet1, sAsg, sAsg1, gN, gT, gPut, put_nil, put_cons, sAug, sAug1, sAug2, xFr, xFr1, xfLst, sOwn, sOwn1, sApp, sApp1, sApp2, sThaw, sThaw1, sThaw2, sThaw3, xPeek, xPeek1, xPeekd, xPeek2, xPeekT, xPeekT1, xPeekTd, sSetIx, sSetIx1, sSetIx2, sSetIx3, sSetIx4, iSq, iSqL, iSqT, iEn, iEnL, iEnT, iR1, iR11, iR2, iR21, sFor, xComp, sPenN, sPenR, sOwnD, sDSet, sDSet1, sDSet2, sDSet3, sDSet5, dKi, dKs, sThawD, sThawD1, iIt, iIt1, gPn, gPt, gPs0, gPs1, gPs2, sTry, sTry1, sTryN, sTryR, sTryR2, sTryB, sTryC, sRaise, nOw0, nOw1, nOw2, fld0, fld1, xIsX1, xIsX2, xIsNotX, xIsNX, U.l0, U.l1, U.s0, U.s1, wS0, wS1, beq_self_eq_true, sSet2, sSet21, sPar, sPar1, sOwnM, sOwnM1, sExt, sExt1, sExt2, sWh1, sWh2, xIsNI, xIsNNo, xIsNotI, xIsNotNo, xIsNotL, xIsNotT, xIsNotS, xIsS, xIsL, xIsT, xNeS, sRetO, sRetO1, sRetF, xCallF, xCallF1, xCallFK, xCallFK1, List.getD_cons_zero, List.getD_cons_succ, Bool.not_true, Bool.not_false, Bool.not_not, xLt, xLe, xGt, xGe, xEqI, xEqS, xNeI, xLenS, xLenL, xLenT, xAddI, xAddS, xAddL, xAddT, xSubI, xMulI, xMulL, xMulT, xDivI, xModI, xPowI, xNegI, xIntI, xIntB, xAbsI, xMin2, xMax2, xListL, xListT, xTupleL, xTupleT, xCutL, xCutT, xIsN, xIsB, xIsNotB, xIx0T, xIx1T, xIx2T, xIx3T, xIx0L, xIx1L, Int.reduceSub, Int.reduceAdd, Int.reduceMul, Int.reduceToNat, Int.reducePow, Int.reduceNeg])
theorem pure__law_heard : ∀ pen n f th (Q : D → Nat → Prop), sp__law_heard th pen n Q → u__law_heard pen f th { nx := fun ρ => Q .non ρ.fuel, rt := Q } ⟨startU N__law_heard [.ref f], pen, n⟩ := by
  have i1 : inX exT exB (.own "InvalidText") = true := by decide +kernel
  have i2 : inX exT exB (.blt "ValueError") = true := by decide +kernel
  have b1 : subC exT (.own "InvalidText") (.own "InvalidText") = true := by decide +kernel
  have b2 : subC exT (.own "InvalidText") (.blt "ValueError") = true := by decide +kernel
  refine run__law_heard ?_
  rintro pen n f th Q (⟨d, hth, hQ⟩ | ⟨d, hth, hQ⟩)
  · unfold u__law_heard
    (try simp_arith only [])
    refine ⟨trivial, trivial, ⟨trivial, trivial⟩, hth _ _ ?_ (fun _ _ z => z.elim)⟩
    rintro d' m ⟨rfl, rfl⟩
    (try simp_arith only [])
    exact hQ
  · unfold u__law_heard
    (try simp_arith only [])
    refine ⟨trivial, trivial, ⟨trivial, trivial⟩, hth _ _ (fun _ _ z => z.elim) ?_⟩
    rintro x m ⟨rfl, rfl⟩
    show kX _ _ ⟨.own "InvalidText", some [("line", d)]⟩ m
    unfold kX
    (try simp_arith only [])
    refine ⟨trivial, by decide +kernel, ?_⟩
    (try simp_arith only [i1, i2, b1, b2])
    refine ⟨⟨trivial, trivial⟩, ⟨trivial, trivial⟩, xIsX3.mpr ⟨_, rfl, ⟨by decide +kernel, by decide +kernel⟩, ?_⟩⟩
    rw [show (([.own "InvalidChoice", .own "InvalidDemand", .own "InvalidOrder", .own "InvalidPolicy", .own "InvalidProgram"] : List Cn).any (subC exT (.own "InvalidText"))) = false by decide +kernel]
    (try simp_arith only [])
    refine (xFld1 (List.mem_cons_self) rfl).mpr ?_
    (try simp_arith only [])
    exact hQ
/-! ### texts that are bent -/
theorem gIx_str {z : Str} {k : Int} {Q : D → Prop} (h : 0 ≤ k) (h2 : k < (z.length : Int)) (hl : z.length ≤ sizeLine) (hQ : ∀ c ∈ TL.tl z, Q (.str ⟨#[c]⟩)) : gIx (.str z) (.int k) Q := by
  have h3 : k < ((z.cps.toList).length : Int) := by rw [Array.length_toList]; exact h2
  obtain ⟨x, e, hx, _⟩ := atI_in h h3
  show z.length ≤ sizeLine ∧ (match L2.atI z.cps.toList k with | some c => Q (.str ⟨#[c]⟩) | none => False)
  rw [e]
  exact ⟨hl, hQ x hx⟩
theorem tx_sign {z : Str} {c : Nat} (h : PyData.strOk z = true) (hc : c ∈ TL.tl z) : Tx 1 ⟨#[c]⟩ := ⟨okS_iff.mpr fun x hx => by rw [List.mem_singleton.mp (show x ∈ [c] from hx)]; exact okS_iff.mp h c hc, Nat.le_refl _⟩
theorem cut_sum (s : Str) (a b : Nat) (h : a ≤ b) : (L2.cutS s none (some (a : Int))).length + (L2.cutS s (some (b : Int)) none).length ≤ s.length := by
  have e : s.cps.toList.length = s.length := Array.length_toList
  show ((s.cps.toList.drop _).take _).toArray.size + ((s.cps.toList.drop _).take _).toArray.size ≤ s.length
  rw [List.size_toArray, List.size_toArray, List.length_take, List.length_drop, List.length_take, List.length_drop, e, HT.sIx_none, HT.sIx_none, HT.sIx_nat, HT.sIx_nat]
  omega
theorem sgs : (0 < (Str.ofString " !#$&'()*+,-./0123456789:;<=>?@ABCDEFGHIJKLMNOPQRSTUVWXYZ[]^_`abcdefghijklmnopqrstuvwxyz{|}~\n\"\\").length ∧ (Str.ofString " !#$&'()*+,-./0123456789:;<=>?@ABCDEFGHIJKLMNOPQRSTUVWXYZ[]^_`abcdefghijklmnopqrstuvwxyz{|}~\n\"\\").length ≤ 200) ∧ 0 < (Str.ofString "0123456789:/ -").length ∧ (Str.ofString "0123456789:/ -").length ≤ 200 := by decide +kernel
theorem sp1 : (Str.ofString " ").length = 1 := by decide +kernel
theorem dat_strs {ws : List Str} {k : Int} {Q : D → Prop} (h : 0 ≤ k) (h2 : k < (ws.length : Int)) (hQ : ∀ w ∈ ws, Q (.str w)) : gIx (.lst (ws.map D.str)) (.int k) Q := gIx_lst h (by rw [List.length_map]; exact h2) fun d hd => by
  obtain ⟨w, hw, rfl⟩ := List.mem_map.mp hd
  exact hQ w hw
theorem pure__law_bent {pen : PenT} {PX : UX → Nat → Prop} : ∀ ds n (Q : D → Nat → Prop), sp__law_bent ds pen n Q PX → u__law_bent (Wd pen PX) { nx := fun ρ => Q .non ρ.fuel, rt := Q } ⟨startU N__law_bent ds, pen, n⟩ := by
  refine run__law_bent ?_
  rintro x y n Q ⟨x', s, k, e, hp, tx, hk, hn, hQ⟩
  obtain ⟨rfl, rfl⟩ := list2 e
  obtain ⟨⟨s1, s2⟩, s3, s4⟩ := sgs
  have t1 := strOk_of " !#$&'()*+,-./0123456789:;<=>?@ABCDEFGHIJKLMNOPQRSTUVWXYZ[]^_`abcdefghijklmnopqrstuvwxyz{|}~\n\"\\"
  have t2 := strOk_of "0123456789:/ -"
  have wl := tx.2
  have hz : ((Str.ofString " ").length == 0) = false := by decide +kernel
  unfold u__law_bent
  generalize Str.ofString " !#$&'()*+,-./0123456789:;<=>?@ABCDEFGHIJKLMNOPQRSTUVWXYZ[]^_`abcdefghijklmnopqrstuvwxyz{|}~\n\"\\" = S1 at *
  generalize Str.ofString "0123456789:/ -" = S2 at *
  (try simp_arith only [])
  refine ⟨lim5 (by omega), draw_use hp (by omega) (by omega) (by omega) fun a0 a1 a2 => ?_⟩
  (try simp_arith only [])
  refine gIx_str a1 a2 (lim5 (by omega)) fun c1 hc1 => ?_
  (try simp_arith only [])
  refine ⟨lim5 (by omega), draw_use hp (by omega) (by omega) (by omega) fun b0 b1 b2 => ?_⟩
  (try simp_arith only [])
  refine gIx_str b1 b2 (lim5 (by omega)) fun c2 hc2 => ?_
  (try simp_arith only [])
  refine draw_use hp (by decide) (by decide) (by omega) fun d0 d1 d2 => ?_
  (try simp_arith only [])
  refine gIx_lst d1 (by simpa using d2) fun d hd => ?_
  obtain ⟨g, rfl, tg⟩ : ∃ g, d = .str g ∧ Tx 1 g := by
    rcases mem2 hd with rfl | rfl
    · exact ⟨_, rfl, tx_sign t1 hc1⟩
    · exact ⟨_, rfl, tx_sign t2 hc2⟩
  (try simp_arith only [])
  refine draw_use hp (by decide) (by decide) (by omega) fun w0 h0 h1 => ?_
  (try simp_arith only [])
  refine ⟨lim5 (by omega), draw_use hp (by omega) (by omega) (by omega) fun a0 h2 h3 => ?_⟩
  obtain ⟨at_, rfl⟩ := Int.eq_ofNat_of_zero_le h2
  simp_arith only [xSplit]
  refine ⟨⟨hz, lim5 (by omega)⟩, ?_⟩
  have hne := split_ne (s := s) sp_tl (by decide)
  have hmu := split_mu (s := s) sp_tl (by decide)
  have tp : ∀ p ∈ Txt.split s (Str.ofString " "), Tx k p := fun p hp => tx_part sp_tl (by decide) tx hp
  generalize Txt.split s (Str.ofString " ") = ws at hne hmu tp ⊢
  have wpos : 0 < ws.length := List.length_pos_iff.mpr hne
  have wle := mu_len ws
  (try simp_arith only [List.length_map])
  refine draw_use hp (by omega) (by omega) (by omega) fun o0 h4 h5 => ?_
  obtain ⟨one, rfl⟩ := Int.eq_ofNat_of_zero_le h4
  (try simp_arith only [List.length_map])
  refine draw_use hp (by omega) (by omega) (by omega) fun u0 h6 h7 => ?_
  have tsp : Tx 1 (Str.ofString " ") := tx_lit _ (by decide)
  have cuts : ∀ a b : Nat, a ≤ b → Tx k (L2.cutS s none (some (a : Int))) ∧ Tx k (L2.cutS s (some (b : Int)) none) ∧ (L2.cutS s none (some (a : Int))).length + (L2.cutS s (some (b : Int)) none).length ≤ k := fun a b h => ⟨tx_cut _ _ tx, tx_cut _ _ tx, by have := cut_sum s a b h; omega⟩
  have cat2 : ∀ {a b : Str} {j : Nat}, PyData.strOk a = true → PyData.strOk b = true → a.length + b.length ≤ j → Tx j (a ++ b) := fun ha hb hl => ⟨strOk_app ha hb, by rw [strLen_append]; exact hl⟩
  have jn : ∀ l : List Str, (∀ w ∈ l, w ∈ ws) → mu l ≤ 2 * k + 100 → joinSz (Str.ofString " ") l ∧ Tx (2 * k + 100) (Str.join (Str.ofString " ") l) := fun l hl hm => ⟨joinSz_mu sp1 (by omega), tx_mu tsp sp1 (fun w hw => tp w (hl w hw)) hm⟩
  obtain ⟨w, rfl⟩ := Int.eq_ofNat_of_zero_le h0
  have cl := fun i : Nat => cutS_length s none (some (i : Int))
  have cr := fun i : Nat => cutS_length s (some (i : Int)) none
  have fin : ∀ t m, Tx (2 * k + 100) t → n ≤ m + 10 → Q (.str t) m := hQ
  have c40 : PyData.strOk (Str.ofString " ") = true := strOk_of _
  (try simp_arith only [])
  refine ifT (fun hc => ?_) fun hc1 => ?_
  · have e : (at_ : Int) + (w : Int) = ((at_ + w : Nat) : Int) := by omega
    (try simp_arith only [])
    rw [e]
    obtain ⟨z1, z2, z3⟩ := cuts at_ (at_ + w) (by omega)
    have := tg.2
    refine ⟨lim5 (by omega), lim5 (by omega), lim5 (by omega), lim5 (by rw [strLen_append]; omega), fin _ _ ?_ (by omega)⟩
    exact cat2 (strOk_app z1.1 tg.1) z2.1 (by rw [strLen_append]; omega)
  (try simp_arith only [])
  refine ifT (fun hc => ?_) fun hc2 => ?_
  · have e : (at_ : Int) + 1 = ((at_ + 1 : Nat) : Int) := by omega
    (try simp_arith only [])
    rw [e]
    obtain ⟨z1, z2, z3⟩ := cuts at_ (at_ + 1) (by omega)
    refine ⟨lim5 (by omega), lim5 (by omega), lim5 (by omega), fin _ _ ?_ (by omega)⟩
    exact cat2 z1.1 z2.1 (by omega)
  (try simp_arith only [])
  have mt := fun i : Nat => mu_cut ws i
  have md := fun i : Nat => mu_cut (ws.drop i) 1
  refine ifT (fun hc => ?_) fun hc3 => ?_
  · have e : (one : Int) + 1 = ((one + 1 : Nat) : Int) := by omega
    (try simp_arith only [])
    rw [e, cut_to (by omega), cut_from (by omega), Int.toNat_natCast, Int.toNat_natCast, ← List.map_take, ← List.map_drop, ← List.map_append, xJoinL rfl]
    have q1 := mt one
    have q2 := md one
    rw [List.drop_drop] at q2
    obtain ⟨j1, j2⟩ := jn (ws.take one ++ ws.drop (one + 1)) (fun w hw => (List.mem_append.mp hw).elim List.mem_of_mem_take List.mem_of_mem_drop) (by rw [mu_app]; omega)
    exact ⟨lim5 (by simp; omega), j1, fin _ _ j2 (by omega)⟩
  (try simp_arith only [])
  refine ifT (fun hc => ?_) fun hc4 => ?_
  · (try simp_arith only [])
    rw [cut_to (by omega), Int.toNat_natCast, ← List.map_take]
    refine dat_strs h6 h7 fun v hv => ?_
    (try simp_arith only [])
    rw [cut_from (by omega), Int.toNat_natCast, ← List.map_drop]
    rw [show ((ws.take one).map D.str ++ [D.str v] ++ (ws.drop one).map D.str) = (ws.take one ++ [v] ++ ws.drop one).map D.str by simp, xJoinL rfl]
    have q1 := mt one
    have q2 := mu_mem hv
    obtain ⟨j1, j2⟩ := jn (ws.take one ++ [v] ++ ws.drop one) (fun w hw => by
      rcases List.mem_append.mp hw with hw | hw
      · rcases List.mem_append.mp hw with hw | hw
        · exact List.mem_of_mem_take hw
        · rw [List.mem_singleton.mp hw]; exact hv
      · exact List.mem_of_mem_drop hw) (by rw [mu_app, mu_app, mu_cons]; simp only [mu, List.map_nil, List.sum_nil]; simp only [mu] at q1 q2 hmu; omega)
    exact ⟨lim5 (by simp; omega), lim5 (by simp; omega), j1, fin _ _ j2 (by omega)⟩
  (try simp_arith only [])
  refine ifT (fun hc => ?_) fun hc5 => ?_
  · (try simp_arith only [])
    rw [cut_to (by omega), cut_from (by omega), Int.toNat_natCast, ← List.map_take, ← List.map_drop, ← List.map_reverse, ← List.map_append, xJoinL rfl]
    have q1 := mt one
    obtain ⟨j1, j2⟩ := jn (ws.take one ++ (ws.drop one).reverse) (fun w hw => (List.mem_append.mp hw).elim List.mem_of_mem_take fun h => List.mem_of_mem_drop (List.mem_reverse.mp h)) (by rw [mu_app, mu_rev]; omega)
    exact ⟨lim5 (by simp; omega), j1, fin _ _ j2 (by omega)⟩
  (try simp_arith only [])
  refine ⟨by unfold PySem.MulOk; decide +kernel, ?_⟩
  refine draw_use hp (by decide) (by decide) (by omega) fun g0 g1 g2 => ?_
  (try simp_arith only [])
  refine gIx_lst g1 (by simpa using g2) fun d hd => ?_
  obtain ⟨v, rfl, tv⟩ : ∃ v, d = .str v ∧ Tx 50 v := by
    simp only [List.mem_cons, List.not_mem_nil, or_false] at hd
    rcases hd with rfl | rfl | rfl | rfl | rfl | rfl
    · exact ⟨_, rfl, tx_lit _ (by decide)⟩
    · exact ⟨_, rfl, tx_lit _ (by decide)⟩
    · exact ⟨_, rfl, by unfold Tx; decide +kernel⟩
    · exact ⟨_, rfl, tx_lit _ (by decide)⟩
    · exact ⟨_, rfl, tx_lit _ (by decide)⟩
    · exact ⟨_, rfl, tx_lit _ (by decide)⟩
  have tvl := tv.2
  obtain ⟨z1, z2, z3⟩ := cuts at_ at_ (Nat.le_refl _)
  have lsp := sp1
  (try simp_arith only [])
  refine ⟨lim5 (by omega), lim5 (by omega), lim5 (by omega), lim5 (by rw [strLen_append]; omega), lim5 (by omega), lim5 (by rw [strLen_append]; omega), ?_⟩
  have n1 := of_decide_eq_false hc1
  have n2 := of_decide_eq_false hc2
  have n3 := of_decide_eq_false hc3
  have n4 := of_decide_eq_false hc4
  have n5 := of_decide_eq_false hc5
  refine gIx_lst (by omega) (by simp; omega) fun d hd => ?_
  rcases mem2 hd with rfl | rfl
  · exact fin _ _ (cat2 (strOk_app z1.1 tv.1) z2.1 (by rw [strLen_append]; omega)) (by omega)
  · exact fin _ _ (cat2 (strOk_app tx.1 c40) tv.1 (by rw [strLen_append]; omega)) (by omega)
theorem shw_pol (P : Py) (ok : P.ok) : Shw (.lst [P.d]) ∧ True := by
  have hf := fit_py ok
  have w : ∀ s ∈ ([("exact" : Str), "endless", "step", "factor", "table"]), s.length ≤ 7 := by decide +kernel
  have ff : D.fit 4 (.lst [P.d]) = true := by simp only [D.fit, D.fits, hf, Bool.and_self]
  refine ⟨?_, trivial⟩
  cases P with
  | exact => exact Shw.of (n := 4) ff (by decide) (by decide +kernel) (.inl rfl)
  | endless => exact Shw.of (n := 4) ff (by decide) (by decide +kernel) (.inl rfl)
  | step s =>
    have := w "step" (by simp)
    exact Shw.of (n := 4) ff (by decide) (by simp only [Py.d, D.sz, D.szs]; omega) (.inl rfl)
  | factor t b =>
    have := w "factor" (by simp)
    exact Shw.of (n := 4) ff (by decide) (by simp only [Py.d, D.sz, D.szs]; omega) (.inl rfl)
  | table es =>
    have := w "table" (by simp)
    have l := ok.1
    have s := szs_le (a := es.map enD) (B := 130) fun d hd => by obtain ⟨e, _, rfl⟩ := List.mem_map.mp hd; simp only [enD, D.sz, D.szs]; decide
    rw [List.length_map] at s
    refine Shw.of (n := 4) ff (by decide) (by simp only [Py.d, D.sz, D.szs]; omega) (.inl ?_)
    simp only [Py.d, D.noDc, D.noDcs, Bool.true_and, Bool.and_true]
    exact noDcs_iff.mpr fun d hd => by obtain ⟨e, _, rfl⟩ := List.mem_map.mp hd; rfl
theorem pure__law_is_right {pen : PenT} {PX : UX → Nat → Prop} : ∀ ds n (Q : D → Nat → Prop), sp__law_is_right ds pen n Q PX → u__law_is_right (Wd pen PX) { nx := fun ρ => Q .non ρ.fuel, rt := Q } ⟨startU N__law_is_right ds, pen, n⟩ := by
  refine run__law_is_right ?_
  rintro x n Q ⟨x', hL, e, hv, hQ⟩
  obtain rfl := list1 e
  unfold u__law_is_right
  (try simp_arith only [])
  have hp := shw_pol
  cases e : readT x with
  | some P =>
    have ok : P.ok := by
      unfold readT at e
      split at e
      · exact (readP_iff.mp e).1
      · cases e
    refine ⟨hL, .inl ⟨P.d, thOk_of fun P1 PX' hT _ => ?_, ?_⟩⟩
    · (try simp_arith only [])
      refine ⟨x, rfl, hv, ?_⟩
      rw [e]
      exact hT _ _ ⟨rfl, rfl⟩
    · simp_arith only [xRepr]
      refine ⟨(hp P ok).1, x, rfl, hv, ?_⟩
      unfold dueD
      rw [e]
      simp_arith only [xRepr]
      refine ⟨(hp P ok).1, ?_⟩
      (try simp_arith only [xEqS, beq_self_eq_true])
      exact hQ
  | none =>
    refine ⟨hL, .inr ⟨.int 0, thOk_of fun P1 PX' _ hS => ?_, ?_⟩⟩
    · (try simp_arith only [])
      refine ⟨x, rfl, hv, ?_⟩
      rw [e]
      exact ⟨rfl, hS _ _ ⟨rfl, rfl⟩⟩
    · simp_arith only [xRepr]
      have sz : Shw (.tup [.int 0]) := Shw.of (n := 2) (by decide +kernel) (by decide) (by decide +kernel) (.inl rfl)
      refine ⟨sz, x, rfl, hv, ?_⟩
      unfold dueD
      rw [e]
      simp_arith only [xRepr]
      refine ⟨sz, ?_⟩
      (try simp_arith only [xEqS, beq_self_eq_true])
      exact hQ
end Lw


set_option Elab.async false
set_option linter.all false
set_option maxRecDepth 100000
set_option maxHeartbeats 0
namespace Lw
open PySem PySem.Spec L2 U
open PyProof.Rows hiding St
local macro_rules | `(tactic| simp_arith only [$ts,*]) => `(tactic| simp only [xGetD, xGetD1, xGetD2, xGetD3, xGetDO1, xGetDO2, xPkD, xPkD1, xPkD2, xPkF, xPkF1, xPkF2, sPenND, sPenRD, sAli, sAli1, sAli2, sAli3, sAliO, sAliO1, sAliO2, xCutS, xCutS1, xCutS2, xCutS3, xCutS4, xMulS, xNotInSg, xPartn, xStW, xEnW, xMaxD, xMaxD1, xMaxD2, iKy, iKy1, xFrz, xFrz1, xDComp, gIxD_dic, gIxD_lst, xZn, xZn1, xDic1, xDic11, xDic12, sThawF, xFKey, xZy, xZy1, xZy2, xfListZ, xfListZ1, xfSortP, xfSortP1, xRoot, xRoot1, xStep, xStep1, xStep2, xStepO, xLeaf, xLeaf1, xLf, xFv, xFv1, xDic0, sTNew, sTNew1, rtS1, sTSet, sTSet1, sTSet2, sTSet3, sTSet4, sTApp, sTApp1, sTApp2, sTPop, sTPop1, sTPop2, sTPopO, sRetT, sRetT1, sRetN1, sRetN11, sRetN0, sRetV, sRetV1, sThawT, sThawT1, sThawT2, sThawT3, xPeekN, xPeekN1, xPeekN2, xPeekN3, xPeekNT, xPeekNT1, xPeekNT2, xCallN, xCallN0, xCallN1, xCallN2, sXDrop, sXDrop1, sXSet, sXSet1, sXSet2, sXRet, xCallV, xCallV1, xNGet, xNGet1, xNGet2, xNGet3, xNGetO1, xNGetO2, xNItems, xNItems1, xVKey, xVKey1, xVKeyO, xDictV, xDictV1, xDictO, xDisp, xDisp1, xKNil, xKCons, xKCons1, xKCons2, endN1, endN2, endV1, xVNil, xVCons, xVCons1, xVCons2, xVLst, xPeekF, xPeekF1, xPeekF2, xFIf, xFIf1, xFIf2, xZ, xZ1, xfListOf, xfListOf1, xfListOf2, xOIx, xOIx1, sRows, xRevF, xRevF1, sTryP, xAct, xLam, hide0, hide1, hide2, hide3, sIns, sIns1, sIns2, sPop, sPop1, sRaiseF, xFld, iSt, iSt1, xSplit, xRmPre, xInSg, xFs, xFs0, xFs1, xFs2, xFs3, xFmt, xFmtI, xFmtS, xStrI, xStrS, xM1, xM11, xM12, xInK, xNotInK, xfSorted, xfSortS, xFrT, gIxD_dicS, sTryO, sTryO1, endsO_nx, xVar, xVar1, xC, xN, xOp, xOp1, xOp2, xUn, xUn1, xNil, xCons, xCons1, xCons2, xTup, xTup1, xLst, xLst1, xTru, xTru1, xOb, tru_non, tru_bl, tru_int, tru_lst, tru_tup, xTB, xTB1, xAndT, xAndT1, xAndT2, xOrT, xOrT1, xOrT2, xNotT, xNotT1, xAnd, xAnd1, xAnd2, xOr, xOr1, xOr2, xNot, xNot1, xIfE, xIfE1, xIfE2, xCh, xCh1, xCh2, xCh3, xCh3b, xCh4, xNoP, xPart, xPart1, xCut, xCut1, xCut2, xCut3, xB, xB1, xCall, xCall1, xCallK, xCallK1, perm_nil, perm_cons, xCat, xCat1, xCat2, xRev, xRevL, xRevT, sSkip, sSeq, sRet, sRetN, sIf, sIf1, sIf2, sDrop, sDrop1, sBrk, sCnt, sSet, sSet1, sAsg, sAsg1, gN, gT, gPut, put_nil, put_cons, sAug, sAug1, sAug2, xFr, xFr1, xfLst, sOwn, sOwn1, sApp, sApp1, sApp2, sThaw, sThaw1, sThaw2, sThaw3, xPeek, xPeek1, xPeekd, xPeek2, xPeekT, xPeekT1, xPeekTd, sSetIx, sSetIx1, sSetIx2, sSetIx3, sSetIx4, iSq, iSqL, iSqT, iEn, iEnL, iEnT, iR1, iR11, iR2, iR21, sFor, xComp, sPenN, sPenR, sOwnD, sDSet, sDSet1, sDSet2, sDSet3, sDSet5, dKi, dKs, sThawD, sThawD1, iIt, iIt1, gPn, gPt, gPs0, gPs1, gPs2, sTry, sTry1, sTryN, sTryR, sTryR2, sTryB, sTryC, sRaise, nOw0, nOw1, nOw2, fld0, fld1, xIsX1, xIsX2, xIsNotX, xIsNX, U.l0, U.l1, U.s0, U.s1, wS0, wS1, beq_self_eq_true, sSet2, sSet21, sPar, sPar1, sOwnM, sOwnM1, sExt, sExt1, sExt2, sWh1, sWh2, xIsNI, xIsNNo, xIsNotI, xIsNotNo, xIsNotL, xIsNotT, xIsNotS, xIsS, xIsL, xIsT, xNeS, sRetO, sRetO1, sRetF, xCallF, xCallF1, xCallFK, xCallFK1, List.getD_cons_zero, List.getD_cons_succ, Bool.not_true, Bool.not_false, Bool.not_not, xLt, xLe, xGt, xGe, xEqI, xEqS, xNeI, xLenS, xLenL, xLenT, xAddI, xAddS, xAddL, xAddT, xSubI, xMulI, xMulL, xMulT, xDivI, xModI, xPowI, xNegI, xIntI, xIntB, xAbsI, xMin2, xMax2, xListL, xListT, xTupleL, xTupleT, xCutL, xCutT, xIsN, xIsB, xIsNotB, xIx0T, xIx1T, xIx2T, xIx3T, xIx0L, xIx1L, Int.reduceSub, Int.reduceAdd, Int.reduceMul, Int.reduceToNat, Int.reducePow, Int.reduceNeg, $ts,*])
local macro_rules | `(tactic| simp_arith only []) => `(tactic| simp only [xGetD, xGetD1, xGetD2, xGetD3, xGetDO1, xGetDO2, xPkD, xPkD1, xPkD2, xPkF, xPkF1, xPkF2, sPenND, sPenRD, sAli, sAli1, sAli2, sAli3, sAliO, sAliO1, sAliO2, xCutS, xCutS1, xCutS2, xCutS3, xCutS4, xMulS, xNotInSg, xPartn, xStW, xEnW, xMaxD, xMaxD1, xMaxD2, iKy, iKy1, xFrz, xFrz1, xDComp, gIxD_dic, gIxD_lst, xZn, xZn1, xDic1, xDic11, xDic12, sThawF, xFKey, xZy, xZy1, xZy2, xfListZ, xfListZ1, xfSortP, xfSortP1, xRoot, xRoot1, xStep, xStep1, xStep2, xStepO, xLeaf, xLeaf1, xLf, xFv, xFv1, xDic0, sTNew, sTNew1, rtS1, sTSet, sTSet1, sTSet2, sTSet3, sTSet4, sTApp, sTApp1, sTApp2, sTPop, sTPop1, sTPop2, sTPopO, sRetT, sRetT1, sRetN1, sRetN11, sRetN0, sRetV, sRetV1, sThawT, sThawT1, sThawT2, sThawT3, xPeekN, xPeekN1, xPeekN2, xPeekN3, xPeekNT, xPeekNT1, xPeekNT2, xCallN, xCallN0, xCallN1, xCallN2, sXDrop, sXDrop1, sXSet, sXSet1, sXSet2, sXRet, xCallV, xCallV1, xNGet, xNGet1, xNGet2, xNGet3, xNGetO1, xNGetO2, xNItems, xNItems1, xVKey, xVKey1, xVKeyO, xDictV, xDictV1, xDictO, xDisp, xDisp1, xKNil, xKCons, xKCons1, xKCons2, endN1, endN2, endV1, xVNil, xVCons, xVCons1, xVCons2, xVLst, xPeekF, xPeekF1, xPeekF2, xFIf, xFIf1, xFIf2, xZ, xZ1, xfListOf, xfListOf1, xfListOf2, xOIx, xOIx1, sRows, xRevF, xRevF1, sTryP, xAct, xLam, hide0, hide1, hide2, hide3, sIns, sIns1, sIns2, sPop, sPop1, sRaiseF, xFld, iSt, iSt1, xSplit, xRmPre, xInSg, xFs, xFs0, xFs1, xFs2, xFs3, xFmt, xFmtI, xFmtS, xStrI, xStrS, xM1, xM11, xM12, xInK, xNotInK, xfSorted, xfSortS, xFrT, gIxD_dicS, sTryO, sTryO1, endsO_nx, xVar, xVar1, xC, xN, xOp, xOp1, xOp2, xUn, xUn1, xNil, xCons, xCons1, xCons2, xTup, xTup1, xLst, xLst1, xTru, xTru1, xOb, tru_non, tru_bl, tru_int, tru_lst, tru_tup, xTB, xTB1, xAndT, xAndT1, xAndT2, xOrT, xOrT1, xOrT2, xNotT, xNotT1, xAnd, xAnd1, xAnd2, xOr, xOr1, xOr2, xNot, xNot1, xIfE, xIfE1, xIfE2, xCh, xCh1, xCh2, xCh3, xCh3b, xCh4, xNoP, xPart, xPart1, xCut, xCut1, xCut2, xCut3, xB, xB1, xCall, xCall1, xCallK, xCallK1, perm_nil, perm_cons, xCat, xCat1, xCat2, xRev, xRevL, xRevT, sSkip, sSeq, sRet, sRetN, sIf, sIf1, sIf2, sDrop, sDrop1, sBrk, sCnt, sSet, sSet1, sAsg, sAsg1, gN, gT, gPut, put_nil, put_cons, sAug, sAug1, sAug2, xFr, xFr1, xfLst, sOwn, sOwn1, sApp, sApp1, sApp2, sThaw, sThaw1, sThaw2, sThaw3, xPeek, xPeek1, xPeekd, xPeek2, xPeekT, xPeekT1, xPeekTd, sSetIx, sSetIx1, sSetIx2, sSetIx3, sSetIx4, iSq, iSqL, iSqT, iEn, iEnL, iEnT, iR1, iR11, iR2, iR21, sFor, xComp, sPenN, sPenR, sOwnD, sDSet, sDSet1, sDSet2, sDSet3, sDSet5, dKi, dKs, sThawD, sThawD1, iIt, iIt1, gPn, gPt, gPs0, gPs1, gPs2, sTry, sTry1, sTryN, sTryR, sTryR2, sTryB, sTryC, sRaise, nOw0, nOw1, nOw2, fld0, fld1, xIsX1, xIsX2, xIsNotX, xIsNX, U.l0, U.l1, U.s0, U.s1, wS0, wS1, beq_self_eq_true, sSet2, sSet21, sPar, sPar1, sOwnM, sOwnM1, sExt, sExt1, sExt2, sWh1, sWh2, xIsNI, xIsNNo, xIsNotI, xIsNotNo, xIsNotL, xIsNotT, xIsNotS, xIsS, xIsL, xIsT, xNeS, sRetO, sRetO1, sRetF, xCallF, xCallF1, xCallFK, xCallFK1, List.getD_cons_zero, List.getD_cons_succ, Bool.not_true, Bool.not_false, Bool.not_not, xLt, xLe, xGt, xGe, xEqI, xEqS, xNeI, xLenS, xLenL, xLenT, xAddI, xAddS, xAddL, xAddT, xSubI, xMulI, xMulL, xMulT, xDivI, xModI, xPowI, xNegI, xIntI, xIntB, xAbsI, xMin2, xMax2, xListL, xListT, xTupleL, xTupleT, xCutL, xCutT, xIsN, xIsB, xIsNotB, xIx0T, xIx1T, xIx2T, xIx3T, xIx0L, xIx1L, Int.reduceSub, Int.reduceAdd, Int.reduceMul, Int.reduceToNat, Int.reducePow, Int.reduceNeg])
theorem lam1 {p : Addr} {c : PenC} (h : c.tb.map Prod.fst = mks) : LamIn (some (p, c)) "_law_is_right" := lamIn_of h (by simp [mks])
theorem val_oth {k : Nat} {x : D} (h1 : x.tyn.isSome = true) (h2 : ∀ s, x ≠ .str s) : ValT k x := ⟨h1, fun s e => absurd e (h2 s)⟩
theorem val_str {j k : Nat} {s : Str} (h : Tx j s) (hk : j ≤ k) : ValT k (.str s) := ⟨rfl, fun t e => by cases e; exact h.le hk⟩
theorem fold_app : ∀ (l : List (Array Nat)) (acc : Array Nat), (l.foldl (· ++ ·) acc).toList = acc.toList ++ (l.map Array.toList).flatten
  | [], acc => by simp
  | a :: l, acc => by rw [List.foldl_cons, fold_app l]; simp
theorem rep_len (l : List Nat) : ∀ k : Nat, (List.replicate k l).flatten.length = k * l.length
  | 0 => by simp
  | k + 1 => by rw [List.replicate_succ, List.flatten_cons, List.length_append, rep_len l k, Nat.add_mul]; omega
theorem mul_tx {x : Str} {j k : Nat} (h : Tx j x) : Tx (k * j + j) (Txt.mul x (k : Int)) := by
  unfold Txt.mul
  split
  · exact ⟨strOk_of "", Nat.zero_le _⟩
  split
  · exact h.le (Nat.le_add_left _ _)
  · have e : TL.tl ⟨(List.replicate ((k : Int)).toNat x.cps).foldl (· ++ ·) #[]⟩ = ((List.replicate k x.cps).map Array.toList).flatten := by
      show ((List.replicate ((k : Int)).toNat x.cps).foldl (· ++ ·) #[]).toList = _
      rw [fold_app, Int.toNat_natCast]; rfl
    refine ⟨okS_iff.mpr fun c hc => ?_, ?_⟩
    · rw [e] at hc
      obtain ⟨l, hl, hc⟩ := List.mem_flatten.mp hc
      obtain ⟨a, ha, rfl⟩ := List.mem_map.mp hl
      rw [List.eq_of_mem_replicate ha] at hc
      exact okS_iff.mp h.1 c hc
    · rw [TL.len_tl, e, List.map_replicate]
      have : (List.replicate k x.cps.toList).flatten.length = k * x.length := by
        rw [rep_len, Array.length_toList]; rfl
      rw [this]
      have := Nat.mul_le_mul_left k h.2
      omega
theorem noDc_py (P : Py) : P.d.noDc = true := by
  cases P with
  | table es =>
    simp only [Py.d, D.noDc, D.noDcs, Bool.true_and, Bool.and_true]
    exact noDcs_iff.mpr fun d hd => by obtain ⟨e, _, rfl⟩ := List.mem_map.mp hd; rfl
  | _ => rfl
theorem pure_law : ∀ a p (c : PenC), c.ns.length ≤ 63 → c.dk = false → c.tb.map (·.1) = mks → u_law W0 { nx := fun _ => False, rt := fun d _ => d = .bl true } ⟨lawSl N_law 1 a p, some (p, c), 1048576⟩ := by
  intro a p c hl hk hmk
  have hp : isPen false (some (p, c)) (.ref p) := isPen_of hk
  have hL : LamIn (some (p, c)) "_law_is_right" := lam1 hmk
  show u_law W0 _ ⟨[.dat (.ref a), .dat (.ref p), .emp, .emp, .emp, .emp, .emp, .emp, .emp], some (p, c), 1048576⟩
  unfold u_law
  (try simp_arith only [])
  refine ⟨by decide, ?_⟩
  refine sFor1 (fun ds ρ => ∃ (s2 s4 s5 s6 s7 : Sl) (n : Nat), ρ = ⟨[.dat (.ref a), .dat (.ref p), s2, .emp, s4, s5, s6, s7, .emp], some (p, c), n⟩ ∧ 2000 * ds.length + 100 ≤ n) ⟨_, _, _, _, _, _, rfl, by decide⟩ ?_ ?_
  · rintro ρ ⟨s2, s4, s5, s6, s7, n, rfl, hn⟩
    (try simp_arith only [])
    have ls : (Str.ofString "step ").length = 5 := by decide +kernel
    have lb : (Str.ofString (toString (1000000000000000000000000000001 : Int))).length = 31 := by decide +kernel
    refine ⟨⟨by decide, by decide, by decide⟩, by decide +kernel, lim5 (by rw [ls, lb]; decide), lim5 (by decide), lim5 (by decide), ?_⟩
    refine xFilt (fun _ => false) (fun d => d) (lim5 (by decide)) (by rfl) (fun d hd m T1 F0 hT hF => ?_) ?_
    · have hv : ValT 40000 d := by
        simp only [List.mem_cons, List.cons_append, List.nil_append, List.not_mem_nil, or_false] at hd
        have lit : ∀ s : String, s.length ≤ 100 → ValT 40000 (.str (Str.ofString s)) := fun s h => val_str (tx_lit 100 h) (by decide)
        rcases hd with rfl | rfl | rfl | rfl | rfl | rfl | rfl | rfl | rfl | rfl | rfl | rfl | rfl | rfl | rfl
        all_goals first | exact lit _ (by decide) | exact val_str (j := 100) ⟨strOk_app (strOk_of _) (strOk_of _), by rw [strLen_append, ls, lb]; decide⟩ (by decide)
      (try simp_arith only [])
      refine ⟨d, hL, rfl, hv, ?_⟩
      (try simp_arith only [kSel2])
      exact hF rfl
    rw [List.map_id', show ∀ l : List D, l.filter (fun _ => false) = [] from fun l => by simp]
    (try simp_arith only [])
    refine (xEqF (x := .lst []) (y := .lst []) (by rfl) (by rfl)).mpr ?_
    rw [show D.eqv (.lst []) (.lst []) = true from rfl]
    (try simp_arith only [])
    have tm0 := mul_tx (x := Str.ofString "9") (j := 1) (k := 4301) (tx_lit 1 (by decide))
    have e43 : ((4301 : Nat) : Int) = 4301 := by omega
    rw [e43] at tm0
    have tm : Tx 5000 (Txt.mul (Str.ofString "9") 4301) := tm0.le (by omega)
    clear tm0
    have ts : Tx 5 (Str.ofString "step ") := tx_lit 5 (by decide)
    have l1 := tm.2
    have l2 := ts.2
    refine ⟨by unfold PySem.MulOk; decide +kernel, lim5 (by omega), _, hL, rfl, val_str (tx_app ts tm) (by decide), rfl⟩
  · rintro x rr ρ ⟨s2, s4, s5, s6, s7, n, rfl, hn⟩
    have hn : 2000 * (rr.length + 1) + 100 ≤ n := hn
    (try simp_arith only [])
    refine ⟨hp, by omega, fun P m ok hm => ?_⟩
    (try simp_arith only [])
    refine ⟨P, rfl, ok, ?_⟩
    have tx := polT_tx ok
    have eP : dueD (.str (polT P)) = .lst [P.d] := by rw [dueD_str, readP_iff.mpr ⟨ok, rfl⟩]
    (try simp_arith only [])
    refine ⟨_, rfl, val_str tx (by decide), ?_⟩
    rw [eP]
    have fP : D.flat 60 (.lst [P.d]) = true := flat_le 4 60 _ (by decide) (fit_flat 4 _ (by simp only [D.fit, D.fits, fit_py ok, Bool.and_self]) (by simp only [D.noDc, D.noDcs, noDc_py P, Bool.and_self]))
    refine (xNeF fP fP).mpr ?_
    rw [eqv_refl 60 _ fP]
    (try simp_arith only [])
    refine ⟨by decide, ?_⟩
    refine sFor1 (fun ds ρ => ∃ (s6 s7 : Sl) (n : Nat), ρ = ⟨[.dat (.ref a), .dat (.ref p), .dat x, .emp, .dat P.d, .dat (.str (polT P)), s6, s7, .emp], some (p, c), n⟩ ∧ 40 * ds.length + 2000 * rr.length + 200 ≤ n) ⟨_, _, _, rfl, by show 40 * 6 + _ + _ ≤ _; omega⟩ ?_ ?_
    · rintro ρ ⟨s6, s7, n, rfl, hn⟩
      have hn : 40 * 0 + 2000 * rr.length + 200 ≤ n := hn
      (try simp_arith only [])
      refine draw_use hp (by decide) (by decide) (by omega) fun g0 g1 g2 => ?_
      (try simp_arith only [])
      refine gIx_lst g1 (by simpa using g2) fun d hd => ?_
      (try simp_arith only [])
      refine ⟨d, hL, rfl, ?_, ?_⟩
      · simp only [List.mem_cons, List.not_mem_nil, or_false] at hd
        rcases hd with rfl | rfl | rfl | rfl | rfl | rfl | rfl | rfl | rfl
        · exact val_oth rfl nofun
        · exact val_oth rfl nofun
        · exact val_oth rfl nofun
        · exact val_oth rfl nofun
        · exact val_oth (by cases P <;> rfl) (by intro s; cases P <;> nofun)
        · exact val_oth rfl nofun
        · exact val_str (tx_lit 100 (by decide)) (by decide)
        · exact val_str (tx_lit 100 (by decide)) (by decide)
        · exact val_str (tx_lit 100 (by decide)) (by decide)
      · (try simp_arith only [])
        exact ⟨_, _, _, _, _, _, rfl, by omega⟩
    · rintro y r2 ρ ⟨s6, s7, n, rfl, hn⟩
      have hn : 40 * (r2.length + 1) + 2000 * rr.length + 200 ≤ n := hn
      (try simp_arith only [])
      refine ⟨.ref p, polT P, 8000, rfl, hp, tx, by decide, by omega, fun t m2 tt hm2 => ?_⟩
      (try simp_arith only [])
      refine ⟨.str t, hL, rfl, val_str tt (by decide), ?_⟩
      (try simp_arith only [])
      refine ⟨.ref p, t, 16100, rfl, hp, tt, by decide, by omega, fun t2 m3 tt2 hm3 => ?_⟩
      (try simp_arith only [])
      refine ⟨.str t2, hL, rfl, val_str tt2 (by decide), ?_⟩
      (try simp_arith only [])
      exact ⟨_, _, _, rfl, by omega⟩
end Lw


set_option Elab.async false
set_option linter.all false
set_option maxRecDepth 100000
set_option maxHeartbeats 0

namespace Lw
open PySem PySem.Spec L2 U
open PyProof.Rows hiding St
section
variable {P : Program} {w : World} {K : PySem.W.Frag} {mg : Str → Option Value} {base : Heap}
theorem ok_init_InvalidText (T : Txt K w mg) : ∃ fd, FnG P w K mg base 1 (fIni K "InvalidText") fd ["self", "line"] (spI K basVE "line") ∧ Binds K fd ["self", "line"] [] := by
  obtain ⟨fd, F⟩ := T.F_init_InvalidText
  exact ⟨fd, init_mk (x := "") F ⟨rfl, rfl, rfl, by decide +kernel, rfl, by decide +kernel, by decide +kernel⟩ (fun cdv A outer s H E => pss_cons (ps_ostG (pv 0) (pv 1)) pss_nil), F.bindsN fun _ _ _ _ _ _ us hl => match us, hl with | [_, _], _ => rfl⟩
theorem sc_is_integer : FnScope ["thing"] ["thing"] (defScope s_is_integer) := ⟨rfl, rfl, rfl, by decide +kernel, rfl, by decide +kernel, by decide +kernel⟩
theorem ok_is_integer (T : Txt K w mg) (TB : TBs K mg base mks) : Fn P w K mg base 1 "is_integer" s_is_integer ["thing"] sp_is_integer := by
  obtain ⟨fd, F⟩ := T.F_is_integer
  refine fn_mk (k := 0) F T.g_is_integer sc_is_integer (F.bindsN fun _ _ _ _ _ _ us hl => match us, hl with | [_], _ => rfl) len_is_integer ?_
  intro cdv A outer s H E O0 pen PX hr tk
  have hu := hu_of hr
  exact ⟨u_is_integer (Wd pen PX), (ub_one (us_ret (up_and (up_callB call_isiU (by rfl) T.n_isinstance boot_isinstance (ul_cons (up_var (pv 0)) (ul_cons (up_bt rfl T.n_int boot_int) ul_nil))) (up_one (up_not (up_callB call_isiU (by rfl) T.n_isinstance boot_isinstance (ul_cons (up_var (pv 0)) (ul_cons (up_bt rfl T.n_bool boot_bool) ul_nil)))))))), pure_is_integer⟩
theorem sc_is_between : FnScope ["thing", "least", "most"] ["thing", "least", "most"] (defScope s_is_between) := ⟨rfl, rfl, rfl, by decide +kernel, rfl, by decide +kernel, by decide +kernel⟩
theorem ok_is_between (T : Txt K w mg) (TB : TBs K mg base mks) : Fn P w K mg base 2 "is_between" s_is_between ["thing", "least", "most"] sp_is_between := by
  have h_is_integer := ok_is_integer T TB (P := P) (w := w) (base := base)
  obtain ⟨fd, F⟩ := T.F_is_between
  refine fn_mk (k := 1) F T.g_is_between sc_is_between (F.bindsN fun _ _ _ _ _ _ us hl => match us, hl with | [_, _, _], _ => rfl) len_is_between ?_
  intro cdv A outer s H E O0 pen PX hr tk
  have hu := hu_of hr
  exact ⟨u_is_between (Wd pen PX), (ub_one (us_ret (up_and (up_fn h_is_integer hr (by decide) (by rfl) tk (ul_cons (up_var (pv 0)) ul_nil)) (up_one (up_chain op_leU op_leU (up_var (pv 1)) (up_var (pv 0)) (up_var (pv 2))))))), pure_is_between⟩
theorem sc_are_entries : FnScope ["thing", "least", "entry"] ["thing"] (defScope s_are_entries) := ⟨rfl, rfl, rfl, by decide +kernel, rfl, by decide +kernel, by decide +kernel⟩
theorem ok_are_entries (T : Txt K w mg) (TB : TBs K mg base mks) : Fn P w K mg base 3 "are_entries" s_are_entries ["thing"] sp_are_entries := by
  have h_is_between := ok_is_between T TB (P := P) (w := w) (base := base)
  obtain ⟨fd, F⟩ := T.F_are_entries
  refine fn_mk (k := 2) F T.g_are_entries sc_are_entries (F.bindsN fun _ _ _ _ _ _ us hl => match us, hl with | [_], _ => rfl) len_are_entries ?_
  intro cdv A outer s H E O0 pen PX hr tk
  have hu := hu_of hr
  exact ⟨u_are_entries (Wd pen PX), (ub_cons (us_if (PW.pt (uw_or (ut_not (ut_tru (up_callB call_isiU (by rfl) T.n_isinstance boot_isinstance (ul_cons (up_var (pv 0)) (ul_cons (up_bt rfl T.n_tuple boot_tuple) ul_nil))) (fun _ => rfl))) (uw_or1 (ut_cmp op_gtU (up_callB call_lenU (by rfl) T.n_len PySem.boot_len (ul_cons (up_var (pv 0)) ul_nil)) (up_gi rfl T.i_MOST_STATEMENTS) (nomark _))))) (ub_one (us_ret up_bl)) ub_nil) (ub_cons (us_set (i := 1) sc_are_entries.nd rfl (Or.inl rfl) up_int) (ub_cons (us_for (passes_of rfl) rfl (ui_seq (up_var (pv 0))) (ug_name (pg_name (i := 2) sc_are_entries.nd rfl (Or.inl rfl))) (ub_cons (us_if (PW.pt (uw_or (ut_not (ut_tru (up_callB call_isiU (by rfl) T.n_isinstance boot_isinstance (ul_cons (up_var (pv 2)) (ul_cons (up_bt rfl T.n_tuple boot_tuple) ul_nil))) (fun _ => rfl))) (uw_or1 (ut_cmp (op_neU hu) (up_callB call_lenU (by rfl) T.n_len PySem.boot_len (ul_cons (up_var (pv 2)) ul_nil)) up_int (nomark _))))) (ub_one (us_ret up_bl)) ub_nil) (ub_cons (us_if (PW.pt (uw_or (ut_not (ut_tru (up_fn h_is_between hr (by decide) (by rfl) tk (ul_cons (up_ix (up_var (pv 2)) up_int) (ul_cons (up_var (pv 1)) (ul_cons (up_op op_subU (up_gi rfl T.i_MOST_STATEMENTS) up_int) ul_nil)))) (fun _ => rfl))) (uw_or1 (ut_not (ut_tru (up_fn h_is_between hr (by decide) (by rfl) tk (ul_cons (up_ix (up_var (pv 2)) up_int) (ul_cons up_int (ul_cons (up_op op_subU (up_gi rfl T.i_CAPACITY_LIMIT) up_int) ul_nil)))) (fun _ => rfl)))))) (ub_one (us_ret up_bl)) ub_nil) (ub_one (us_set (i := 1) sc_are_entries.nd rfl (Or.inl rfl) (up_op op_addU (up_ix (up_var (pv 2)) up_int) up_int)))))) (ub_one (us_ret up_bl))))), pure_are_entries⟩
theorem sc_is_factor : FnScope ["top", "bottom"] ["top", "bottom"] (defScope s_is_factor) := ⟨rfl, rfl, rfl, by decide +kernel, rfl, by decide +kernel, by decide +kernel⟩
theorem ok_is_factor (T : Txt K w mg) (TB : TBs K mg base mks) : Fn P w K mg base 3 "is_factor" s_is_factor ["top", "bottom"] sp_is_factor := by
  have h_is_between := ok_is_between T TB (P := P) (w := w) (base := base)
  obtain ⟨fd, F⟩ := T.F_is_factor
  refine fn_mk (k := 2) F T.g_is_factor sc_is_factor (F.bindsN fun _ _ _ _ _ _ us hl => match us, hl with | [_, _], _ => rfl) len_is_factor ?_
  intro cdv A outer s H E O0 pen PX hr tk
  have hu := hu_of hr
  exact ⟨u_is_factor (Wd pen PX), (ub_one (us_ret (up_and (up_fn h_is_between hr (by decide) (by rfl) tk (ul_cons (up_var (pv 0)) (ul_cons up_int (ul_cons (up_gi rfl T.i_MOST_PART) ul_nil)))) (up_and (up_fn h_is_between hr (by decide) (by rfl) tk (ul_cons (up_var (pv 1)) (ul_cons up_int (ul_cons (up_gi rfl T.i_MOST_PART) ul_nil)))) (up_one (up_cmp op_geU (up_op op_mulU up_int (up_var (pv 0))) (up_op op_mulU up_int (up_var (pv 1))) (nomark _))))))), pure_is_factor⟩
theorem sc_is_policy : FnScope ["thing"] ["thing"] (defScope s_is_policy) := ⟨rfl, rfl, rfl, by decide +kernel, rfl, by decide +kernel, by decide +kernel⟩
theorem ok_is_policy (T : Txt K w mg) (TB : TBs K mg base mks) : Fn P w K mg base 4 "is_policy" s_is_policy ["thing"] sp_is_policy := by
  have h_are_entries := ok_are_entries T TB (P := P) (w := w) (base := base)
  have h_is_between := ok_is_between T TB (P := P) (w := w) (base := base)
  have h_is_factor := ok_is_factor T TB (P := P) (w := w) (base := base)
  obtain ⟨fd, F⟩ := T.F_is_policy
  refine fn_mk (k := 3) F T.g_is_policy sc_is_policy (F.bindsN fun _ _ _ _ _ _ us hl => match us, hl with | [_], _ => rfl) len_is_policy ?_
  intro cdv A outer s H E O0 pen PX hr tk
  have hu := hu_of hr
  exact ⟨u_is_policy (Wd pen PX), (ub_cons (us_if (PW.pt (uw_or (ut_not (ut_tru (up_callB call_isiU (by rfl) T.n_isinstance boot_isinstance (ul_cons (up_var (pv 0)) (ul_cons (up_bt rfl T.n_tuple boot_tuple) ul_nil))) (fun _ => rfl))) (uw_or (ut_cmp (op_eqV hu) (up_callB call_lenU (by rfl) T.n_len PySem.boot_len (ul_cons (up_var (pv 0)) ul_nil)) up_int (nomark _)) (uw_or1 (ut_not (ut_tru (up_callB call_isiU (by rfl) T.n_isinstance boot_isinstance (ul_cons (up_ix (up_var (pv 0)) up_int) (ul_cons (up_bt rfl T.n_str boot_str) ul_nil))) (fun _ => rfl))))))) (ub_one (us_ret up_bl)) ub_nil) (ub_cons (us_if (ut_cmp (op_inU hr) (up_ix (up_var (pv 0)) up_int) (up_tup (ul_cons up_str (ul_cons up_str ul_nil))) (by rfl)) (ub_one (us_ret (up_cmp (op_eqV hu) (up_callB call_lenU (by rfl) T.n_len PySem.boot_len (ul_cons (up_var (pv 0)) ul_nil)) up_int (nomark _)))) ub_nil) (ub_cons (us_if (ut_cmp (op_eqV hu) (up_ix (up_var (pv 0)) up_int) up_str (nomark _)) (ub_one (us_ret (up_and (up_cmp (op_eqV hu) (up_callB call_lenU (by rfl) T.n_len PySem.boot_len (ul_cons (up_var (pv 0)) ul_nil)) up_int (nomark _)) (up_one (up_fn h_are_entries hr (by decide) (by rfl) tk (ul_cons (up_ix (up_var (pv 0)) up_int) ul_nil)))))) ub_nil) (ub_cons (us_if (ut_cmp (op_eqV hu) (up_ix (up_var (pv 0)) up_int) up_str (nomark _)) (ub_one (us_ret (up_and (up_cmp (op_eqV hu) (up_callB call_lenU (by rfl) T.n_len PySem.boot_len (ul_cons (up_var (pv 0)) ul_nil)) up_int (nomark _)) (up_one (up_fn h_is_between hr (by decide) (by rfl) tk (ul_cons (up_ix (up_var (pv 0)) up_int) (ul_cons up_int (ul_cons (up_gi rfl T.i_MOST_CELLS) ul_nil)))))))) ub_nil) (ub_one (us_ret (up_and (up_cmp (op_eqV hu) (up_ix (up_var (pv 0)) up_int) up_str (nomark _)) (up_and (up_cmp (op_eqV hu) (up_callB call_lenU (by rfl) T.n_len PySem.boot_len (ul_cons (up_var (pv 0)) ul_nil)) up_int (nomark _)) (up_one (up_fn h_is_factor hr (by decide) (by rfl) tk (ul_cons (up_ix (up_var (pv 0)) up_int) (ul_cons (up_ix (up_var (pv 0)) up_int) ul_nil)))))))))))), pure_is_policy⟩
theorem sc_policy_text : FnScope ["policy", "statement", "capacity"] ["policy"] (defScope s_policy_text) := ⟨rfl, rfl, rfl, by decide +kernel, rfl, by decide +kernel, by decide +kernel⟩
theorem ok_policy_text (T : Txt K w mg) (TB : TBs K mg base mks) : Fn P w K mg base 1 "policy_text" s_policy_text ["policy"] sp_policy_text := by
  obtain ⟨fd, F⟩ := T.F_policy_text
  refine fn_mk (k := 0) F T.g_policy_text sc_policy_text (F.bindsN fun _ _ _ _ _ _ us hl => match us, hl with | [_], _ => rfl) len_policy_text ?_
  intro cdv A outer s H E O0 pen PX hr tk
  have hu := hu_of hr
  exact ⟨u_policy_text (Wd pen PX), (ub_cons (us_if (ut_cmp (op_eqV hu) (up_ix (up_var (pv 0)) up_int) up_str (nomark _)) (ub_one (us_ret (up_joined (.cons up_str (.cons (up_fmt (up_ix (up_var (pv 0)) up_int)) UPJ.nil))))) ub_nil) (ub_cons (us_if (ut_cmp (op_eqV hu) (up_ix (up_var (pv 0)) up_int) up_str (nomark _)) (ub_one (us_ret (up_joined (.cons up_str (.cons (up_fmt (up_ix (up_var (pv 0)) up_int)) (.cons up_str (.cons (up_fmt (up_ix (up_var (pv 0)) up_int)) UPJ.nil))))))) ub_nil) (ub_cons (us_if (ut_cmp (op_eqV hu) (up_ix (up_var (pv 0)) up_int) up_str (nomark _)) (ub_one (us_ret (up_join up_str (up_op op_addU (up_lst (ul_cons up_str ul_nil)) (uf_val (uf_comp (own := [("statement", 1), ("capacity", 2)]) (g := ugT [1, 2]) rfl sc_policy_text.nd (ui_seq (up_ix (up_var (pv 0)) up_int)) (blkOk_by (by kernel_rfl)) (gok_tup (by decide)) (fun _ _ _ _ _ => pg_tup rfl (pgs_cons (pg_name (i := 1) sc_policy_text.nd rfl (Or.inl rfl)) (pgs_cons (pg_name (i := 2) sc_policy_text.nd rfl (Or.inl rfl)) pgs_nil))) (fun _ _ _ _ _ => uts_nil) (fun _ _ _ _ _ _ => (up_joined (.cons (up_fmt (up_var (pv 1))) (.cons up_str (.cons (up_fmt (up_var (pv 2))) UPJ.nil))))))))))) ub_nil) (ub_one (us_ret (up_ix (up_var (pv 0)) up_int)))))), pure_policy_text⟩
theorem sc_number_in : FnScope ["text", "digits", "sign"] ["text"] (defScope s_number_in) := ⟨rfl, rfl, rfl, by decide +kernel, rfl, by decide +kernel, by decide +kernel⟩
theorem ok_number_in (T : Txt K w mg) (TB : TBs K mg base mks) : Fn P w K mg base 1 "number_in" s_number_in ["text"] sp_number_in := by
  obtain ⟨fd, F⟩ := T.F_number_in
  refine fn_mk (k := 0) F T.g_number_in sc_number_in (F.bindsN fun _ _ _ _ _ _ us hl => match us, hl with | [_], _ => rfl) len_number_in ?_
  intro cdv A outer s H E O0 pen PX hr tk
  have hu := hu_of hr
  exact ⟨u_number_in (Wd pen PX), (ub_cons (us_set (i := 1) sc_number_in.nd rfl (Or.inl rfl) (up_rmpre (up_var (pv 0)) up_str)) (ub_cons (us_if (PW.pt (uw_or (ut_not (ut_chain op_leU op_leU up_int (up_callB call_lenU (by rfl) T.n_len PySem.boot_len (ul_cons (up_var (pv 1)) ul_nil)) (up_gi rfl T.i_MOST_DIGITS))) (uw_or1 (ut_not (ut_tru (up_callB (call_AllU rfl) (by rfl) T.n_all boot_all (ul_cons (uf_val (uf_comp (own := [("sign", 2)]) (g := ugN 2) rfl sc_number_in.nd (ui_str (up_var (pv 1))) (blkOk_by (by kernel_rfl)) (gok_name (by decide)) (fun _ _ _ _ _ => pg_name (i := 2) sc_number_in.nd rfl (Or.inl rfl)) (fun _ _ _ _ _ => uts_nil) (fun _ _ _ _ _ _ => (up_cmp op_inSg (up_var (pv 2)) (up_gs rfl T.i_DIGITS) (by rfl))))) ul_nil)) (fun _ => rfl)))))) (ub_one (us_ret up_non)) ub_nil) (ub_one (us_ret (up_callTy call_intT (by rfl) T.n_int boot_int (ul_cons (up_var (pv 0)) ul_nil)))))), pure_number_in⟩
theorem sc_numbers_in : FnScope ["words", "word"] ["words"] (defScope s_numbers_in) := ⟨rfl, rfl, rfl, by decide +kernel, rfl, by decide +kernel, by decide +kernel⟩
theorem ok_numbers_in (T : Txt K w mg) (TB : TBs K mg base mks) : Fn P w K mg base 2 "numbers_in" s_numbers_in ["words"] sp_numbers_in := by
  have h_number_in := ok_number_in T TB (P := P) (w := w) (base := base)
  obtain ⟨fd, F⟩ := T.F_numbers_in
  refine fn_mk (k := 1) F T.g_numbers_in sc_numbers_in (F.bindsN fun _ _ _ _ _ _ us hl => match us, hl with | [_], _ => rfl) len_numbers_in ?_
  intro cdv A outer s H E O0 pen PX hr tk
  have hu := hu_of hr
  exact ⟨u_numbers_in (Wd pen PX), (ub_one (us_ret (up_callTy call_tupleU (by rfl) T.n_tuple boot_tuple (ul_cons (uf_val (uf_comp (own := [("word", 1)]) (g := ugN 1) rfl sc_numbers_in.nd (ui_seq (up_var (pv 0))) (blkOk_by (by kernel_rfl)) (gok_name (by decide)) (fun _ _ _ _ _ => pg_name (i := 1) sc_numbers_in.nd rfl (Or.inl rfl)) (fun _ _ _ _ _ => uts_nil) (fun _ _ _ _ _ _ => (up_fn h_number_in hr (by decide) (by rfl) takesN (ul_cons (up_var (pv 1)) ul_nil))))) ul_nil)))), pure_numbers_in⟩
theorem sc_entries_in : FnScope ["words", "word"] ["words"] (defScope s_entries_in) := ⟨rfl, rfl, rfl, by decide +kernel, rfl, by decide +kernel, by decide +kernel⟩
theorem ok_entries_in (T : Txt K w mg) (TB : TBs K mg base mks) : Fn P w K mg base 3 "entries_in" s_entries_in ["words"] sp_entries_in := by
  have h_numbers_in := ok_numbers_in T TB (P := P) (w := w) (base := base)
  obtain ⟨fd, F⟩ := T.F_entries_in
  refine fn_mk (k := 2) F T.g_entries_in sc_entries_in (F.bindsN fun _ _ _ _ _ _ us hl => match us, hl with | [_], _ => rfl) len_entries_in ?_
  intro cdv A outer s H E O0 pen PX hr tk
  have hu := hu_of hr
  exact ⟨u_entries_in (Wd pen PX), (ub_one (us_ret (up_callTy call_tupleU (by rfl) T.n_tuple boot_tuple (ul_cons (uf_val (uf_comp (own := [("word", 1)]) (g := ugN 1) rfl sc_entries_in.nd (ui_seq (up_var (pv 0))) (blkOk_by (by kernel_rfl)) (gok_name (by decide)) (fun _ _ _ _ _ => pg_name (i := 1) sc_entries_in.nd rfl (Or.inl rfl)) (fun _ _ _ _ _ => uts_nil) (fun _ _ _ _ _ _ => (up_fn h_numbers_in hr (by decide) (by rfl) takesN (ul_cons (up_split (up_var (pv 1)) up_str) ul_nil))))) ul_nil)))), pure_entries_in⟩
theorem sc_policy_in : FnScope ["words"] ["words"] (defScope s_policy_in) := ⟨rfl, rfl, rfl, by decide +kernel, rfl, by decide +kernel, by decide +kernel⟩
theorem ok_policy_in (T : Txt K w mg) (TB : TBs K mg base mks) : Fn P w K mg base 4 "policy_in" s_policy_in ["words"] sp_policy_in := by
  have h_entries_in := ok_entries_in T TB (P := P) (w := w) (base := base)
  have h_numbers_in := ok_numbers_in T TB (P := P) (w := w) (base := base)
  obtain ⟨fd, F⟩ := T.F_policy_in
  refine fn_mk (k := 3) F T.g_policy_in sc_policy_in (F.bindsN fun _ _ _ _ _ _ us hl => match us, hl with | [_], _ => rfl) len_policy_in ?_
  intro cdv A outer s H E O0 pen PX hr tk
  have hu := hu_of hr
  exact ⟨u_policy_in (Wd pen PX), (ub_cons (us_if (ut_cmp (op_eqV hu) (up_ix (up_var (pv 0)) up_int) up_str (nomark _)) (ub_one (us_ret (up_tup (ul_cons up_str (ul_cons (up_fn h_entries_in hr (by decide) (by rfl) tk (ul_cons (up_cut (up_var (pv 0)) (uo_some up_int) uo_none) ul_nil)) ul_nil))))) ub_nil) (ub_cons (us_if (ut_cmp (op_eqV hu) (up_ix (up_var (pv 0)) up_int) up_str (nomark _)) (ub_one (us_ret (up_op op_addU (up_tup (ul_cons up_str ul_nil)) (up_fn h_numbers_in hr (by decide) (by rfl) tk (ul_cons (up_cut (up_var (pv 0)) (uo_some up_int) uo_none) ul_nil))))) ub_nil) (ub_cons (us_if (PW.pt (uw_and (ut_cmp (op_eqV hu) (up_ix (up_var (pv 0)) up_int) up_str (nomark _)) (uw_and1 (ut_cmp (op_eqV hu) (up_callB call_lenU (by rfl) T.n_len PySem.boot_len (ul_cons (up_var (pv 0)) ul_nil)) up_int (nomark _))))) (ub_one (us_ret (up_op op_addU (up_tup (ul_cons up_str ul_nil)) (up_fn h_numbers_in hr (by decide) (by rfl) tk (ul_cons (up_split (up_ix (up_var (pv 0)) up_int) up_str) ul_nil))))) ub_nil) (ub_one (us_ret (up_callTy call_tupleU (by rfl) T.n_tuple boot_tuple (ul_cons (up_var (pv 0)) ul_nil))))))), pure_policy_in⟩
theorem sc_read_policy : FnScope ["text", "policy"] ["text"] (defScope s_read_policy) := ⟨rfl, rfl, rfl, by decide +kernel, rfl, by decide +kernel, by decide +kernel⟩
theorem ok_read_policy (T : Txt K w mg) (TB : TBs K mg base mks) : Fn P w K mg base 5 "read_policy" s_read_policy ["text"] sp_read_policy := by
  have h_is_policy := ok_is_policy T TB (P := P) (w := w) (base := base)
  have h_policy_in := ok_policy_in T TB (P := P) (w := w) (base := base)
  have h_policy_text := ok_policy_text T TB (P := P) (w := w) (base := base)
  obtain ⟨fi_InvalidText, Gi_InvalidText, bi_InvalidText⟩ := ok_init_InvalidText T (P := P) (w := w) (base := base)
  obtain ⟨fd, F⟩ := T.F_read_policy
  refine fn_mk (k := 4) F T.g_read_policy sc_read_policy (F.bindsN fun _ _ _ _ _ _ us hl => match us, hl with | [_], _ => rfl) len_read_policy ?_
  intro cdv A outer s H E O0 pen PX hr tk
  have hu := hu_of hr
  exact ⟨u_read_policy (Wd pen PX), (ub_cons (us_if (ut_not (ut_tru (up_callB call_isiU (by rfl) T.n_isinstance boot_isinstance (ul_cons (up_var (pv 0)) (ul_cons (up_bt rfl T.n_str boot_str) ul_nil))) (fun _ => rfl))) (ub_one (us_raiseF rfl tk T.ini_InvalidText.T T.ini_InvalidText.iC T.ini_InvalidText.tI T.ini_InvalidText.no Gi_InvalidText bi_InvalidText (hr.mono (by decide)) rfl T.g_InvalidText up_int)) ub_nil) (ub_cons (us_set (i := 1) sc_read_policy.nd rfl (Or.inl rfl) (up_fn h_policy_in hr (by decide) (by rfl) tk (ul_cons (up_split (up_var (pv 0)) up_str) ul_nil))) (ub_cons (us_if (PW.pt (uw_or (ut_not (ut_tru (up_fn h_is_policy hr (by decide) (by rfl) tk (ul_cons (up_var (pv 1)) ul_nil)) (fun _ => rfl))) (uw_or1 (ut_cmp (op_neU hu) (up_fn h_policy_text hr (by decide) (by rfl) tk (ul_cons (up_var (pv 1)) ul_nil)) (up_var (pv 0)) (nomark _))))) (ub_one (us_raiseF rfl tk T.ini_InvalidText.T T.ini_InvalidText.iC T.ini_InvalidText.tI T.ini_InvalidText.no Gi_InvalidText bi_InvalidText (hr.mono (by decide)) rfl T.g_InvalidText up_int)) ub_nil) (ub_one (us_ret (up_var (pv 1))))))), pure_read_policy⟩
theorem sc__law_pen : FnScope ["_law_script"] ["_law_script"] (defScope s__law_pen) := ⟨rfl, rfl, rfl, by decide +kernel, rfl, by decide +kernel, by decide +kernel⟩
theorem ok__law_pen (T : Txt K w mg) : ∃ fd, FnG P w K mg base 1 (He.fAd K ("_law_pen", none)) fd ["_law_script"] (spPenK K) ∧ Binds K fd ["_law_script"] [] ∧ PySem.W.keepIn K (.ref (He.fAd K ("_law_pen", none))) = true := by
  obtain ⟨fd, F⟩ := T.F__law_pen
  refine ⟨fd, fnG_mk F sc__law_pen (fun vs H Q E ⟨a, ns, e, _⟩ => by rw [e]; rfl) ?_, F.bindsN fun _ _ _ _ _ _ us hl => match us, hl with | [_], _ => rfl, F.kp⟩
  intro cdv A outer s H vs Q E hr ⟨a, ns, ev, hq, hz, hQ⟩
  subst ev
  exact ⟨_, pen_ps (by rfl) T.n_list (pv 0), a, ns, rfl, hq, hz, hQ⟩
theorem sc__law_draw : FnScope ["_law_pen_here", "_law_size", "_law_turn", "_law_cell", "_law_mixed", "_law_digit", "_law_great"] ["_law_pen_here", "_law_size"] (defScope s__law_draw) := ⟨rfl, rfl, rfl, by decide +kernel, rfl, by decide +kernel, by decide +kernel⟩
theorem ok__law_draw (T : Txt K w mg) (TB : TBs K mg base mks) : Fn P w K mg base 1 "_law_draw" s__law_draw ["_law_pen_here", "_law_size"] sp__law_draw := by
  obtain ⟨fd, F⟩ := T.F__law_draw
  refine fn_mk (k := 0) F T.g__law_draw sc__law_draw (F.bindsN fun _ _ _ _ _ _ us hl => match us, hl with | [_, _], _ => rfl) len__law_draw ?_
  intro cdv A outer s H E O0 pen PX hr tk
  have hu := hu_of hr
  exact ⟨u__law_draw (Wd pen PX), (ub_cons (us_if (ut_cmp op_gtU (up_penL (i := 0) (k := 2) (pe_ix ix_list (pv 0) pe_int (fun _ _ => rfl))) up_int (nomark _)) (ub_cons (us_set (i := 5) sc__law_draw.nd rfl (Or.inl rfl) (up_op op_modU (up_penL (i := 0) (k := 2) (pe_ix ix_list (pv 0) pe_int (fun _ _ => rfl))) (up_var (pv 1)))) (ub_cons (us_penRest (i := 0) (ps_asg (up_op op_divU (up_penL (i := 0) (k := 2) (pe_ix ix_list (pv 0) pe_int (fun _ _ => rfl))) (up_var (pv 1))) (pg_sub (pv 0) pe_int set_list))) (ub_one (us_ret (up_var (pv 5)))))) ub_nil) (ub_cons (us_set (i := 2) sc__law_draw.nd rfl (Or.inl rfl) (up_penL (i := 0) (k := 1) (pe_ix ix_list (pv 0) pe_int (fun _ _ => rfl)))) (ub_cons (us_penNext (i := 0) (ps_asg (up_op op_addU (up_var (pv 2)) up_int) (pg_sub (pv 0) pe_int set_list))) (ub_cons (us_set (i := 3) sc__law_draw.nd rfl (Or.inl rfl) (up_op op_addU (up_op op_mulU up_int (up_var (pv 2))) up_int)) (ub_cons (us_if (ut_cmp (op_neU hu) (up_penL (i := 0) (k := 0) (pe_ix ix_list (pv 0) pe_int (fun _ _ => rfl))) (up_lst ul_nil) (nomark _)) (ub_one (us_set (i := 3) sc__law_draw.nd rfl (Or.inl rfl) (up_ix (up_penL (i := 0) (k := 0) (pe_ix ix_list (pv 0) pe_int (fun _ _ => rfl))) (up_op op_modU (up_var (pv 2)) (up_callB call_lenU (by rfl) T.n_len PySem.boot_len (ul_cons (up_penL (i := 0) (k := 0) (pe_ix ix_list (pv 0) pe_int (fun _ _ => rfl))) ul_nil)))))) ub_nil) (ub_cons (us_if (PW.pt (uw_and (ut_cmp op_ltU (up_var (pv 2)) (up_callB call_lenU (by rfl) T.n_len PySem.boot_len (ul_cons (up_penL (i := 0) (k := 0) (pe_ix ix_list (pv 0) pe_int (fun _ _ => rfl))) ul_nil)) (nomark _)) (uw_and1 (ut_cmp op_geU (up_callB call_absU (by rfl) T.n_abs boot_abs (ul_cons (up_var (pv 3)) ul_nil)) (up_op op_powU up_int up_int) (nomark _))))) (ub_cons (us_set (i := 6) sc__law_draw.nd rfl (Or.inl rfl) (up_op op_addU (up_op op_mulU up_int (up_callB call_absU (by rfl) T.n_abs boot_abs (ul_cons (up_var (pv 3)) ul_nil))) (up_callTy call_intU (by rfl) T.n_int boot_int (ul_cons (up_cmp op_ltU (up_var (pv 3)) up_int (nomark _)) ul_nil)))) (ub_cons (us_penRest (i := 0) (ps_asg (up_op op_divU (up_var (pv 6)) (up_var (pv 1))) (pg_sub (pv 0) pe_int set_list))) (ub_one (us_ret (up_op op_modU (up_var (pv 6)) (up_var (pv 1))))))) ub_nil) (ub_cons (us_set (i := 4) sc__law_draw.nd rfl (Or.inl rfl) (up_op op_modU (up_op op_powU (up_op op_addU (up_op op_addU (up_op op_modU (up_var (pv 3)) up_int) (up_op op_mulU up_int (up_var (pv 2)))) up_int) up_int) up_int)) (ub_cons (us_set (i := 4) sc__law_draw.nd rfl (Or.inl rfl) (up_op op_modU (up_op op_powU (up_op op_addU (up_op op_mulU (up_var (pv 4)) (up_op op_addU (up_var (pv 2)) up_int)) (up_op op_mulU (up_op op_mulU up_int (up_var (pv 2))) (up_var (pv 2)))) up_int) up_int)) (ub_one (us_ret (up_op op_modU (up_op op_divU (up_var (pv 4)) up_int) (up_var (pv 1))))))))))))), pure__law_draw⟩
theorem sc__law_policy : FnScope ["_law_pen_here", "_law_way", "_law_found", "_law_last", "_law_turn", "_law_bottom", "_law_least"] ["_law_pen_here"] (defScope s__law_policy) := ⟨rfl, rfl, rfl, by decide +kernel, rfl, by decide +kernel, by decide +kernel⟩
theorem ok__law_policy (T : Txt K w mg) (TB : TBs K mg base mks) : Fn P w K mg base 2 "_law_policy" s__law_policy ["_law_pen_here"] sp__law_policy := by
  have h__law_draw := ok__law_draw T TB (P := P) (w := w) (base := base)
  obtain ⟨fd, F⟩ := T.F__law_policy
  refine fn_mk (k := 1) F T.g__law_policy sc__law_policy (F.bindsN fun _ _ _ _ _ _ us hl => match us, hl with | [_], _ => rfl) len__law_policy ?_
  intro cdv A outer s H E O0 pen PX hr tk
  have hu := hu_of hr
  exact ⟨u__law_policy (Wd pen PX), (ub_cons (us_set (i := 1) sc__law_policy.nd rfl (Or.inl rfl) (up_fn h__law_draw hr (by decide) (by rfl) tk (ul_cons (up_var (pv 0)) (ul_cons up_int ul_nil)))) (ub_cons (us_if (ut_cmp (op_eqV hu) (up_var (pv 1)) up_int (nomark _)) (ub_one (us_ret (up_tup (ul_cons up_str ul_nil)))) ub_nil) (ub_cons (us_if (ut_cmp (op_eqV hu) (up_var (pv 1)) up_int (nomark _)) (ub_one (us_ret (up_tup (ul_cons up_str ul_nil)))) ub_nil) (ub_cons (us_if (ut_cmp (op_eqV hu) (up_var (pv 1)) up_int (nomark _)) (ub_one (us_ret (up_tup (ul_cons up_str (ul_cons (up_ix (up_lst (ul_cons up_int (ul_cons up_int (ul_cons up_int (ul_cons up_int (ul_cons (up_fn h__law_draw hr (by decide) (by rfl) tk (ul_cons (up_var (pv 0)) (ul_cons up_int ul_nil))) (ul_cons (up_op op_powU up_int up_int) ul_nil))))))) (up_fn h__law_draw hr (by decide) (by rfl) tk (ul_cons (up_var (pv 0)) (ul_cons up_int ul_nil)))) ul_nil))))) ub_nil) (ub_cons (us_if (ut_cmp (op_eqV hu) (up_var (pv 1)) up_int (nomark _)) (ub_cons (us_set (i := 5) sc__law_policy.nd rfl (Or.inl rfl) (up_op op_addU up_int (up_fn h__law_draw hr (by decide) (by rfl) tk (ul_cons (up_var (pv 0)) (ul_cons (up_ix (up_lst (ul_cons up_int (ul_cons up_int ul_nil))) (up_fn h__law_draw hr (by decide) (by rfl) tk (ul_cons (up_var (pv 0)) (ul_cons up_int ul_nil)))) ul_nil))))) (ub_cons (us_set (i := 6) sc__law_policy.nd rfl (Or.inl rfl) (up_op op_divU (up_op op_addU (up_op op_mulU up_int (up_var (pv 5))) up_int) up_int)) (ub_one (us_ret (up_tup (ul_cons up_str (ul_cons (up_callB (call_min2U rfl) (by rfl) T.n_min boot_min (ul_cons up_int (ul_cons (up_op op_addU (up_var (pv 6)) (up_fn h__law_draw hr (by decide) (by rfl) tk (ul_cons (up_var (pv 0)) (ul_cons (up_ix (up_lst (ul_cons up_int (ul_cons up_int (ul_cons up_int ul_nil)))) (up_fn h__law_draw hr (by decide) (by rfl) tk (ul_cons (up_var (pv 0)) (ul_cons up_int ul_nil)))) ul_nil)))) ul_nil))) (ul_cons (up_var (pv 5)) ul_nil)))))))) ub_nil) (ub_cons (us_own (i := 2) sc__law_policy.nd rfl (Or.inl rfl) (uf_lst ul_nil)) (ub_cons (us_set (i := 3) sc__law_policy.nd rfl (Or.inl rfl) (up_fn h__law_draw hr (by decide) (by rfl) tk (ul_cons (up_var (pv 0)) (ul_cons up_int ul_nil)))) (ub_cons (us_for (passes_of rfl) rfl (ui_rng1 (by rfl) T.n_range (ul_cons (up_ix (up_lst (ul_cons up_int (ul_cons up_int (ul_cons up_int (ul_cons up_int ul_nil))))) (up_fn h__law_draw hr (by decide) (by rfl) tk (ul_cons (up_var (pv 0)) (ul_cons up_int ul_nil)))) ul_nil)) (ug_name (pg_name (i := 4) sc__law_policy.nd rfl (Or.inl rfl))) (ub_cons (us_if (ut_cmp op_ltU (up_var (pv 3)) up_int (nomark _)) (ub_one (us_app (i := 2) (ps_expr (pe_bm PySem.F.plainAttrs_list PySem.F.slot_list_append PySem.F.type_list_append mt_append (pv 2) (pa_cons (up_tup (ul_cons (up_var (pv 3)) (ul_cons (up_ix (up_lst (ul_cons up_int (ul_cons up_int (ul_cons up_int (ul_cons up_int (ul_cons (up_fn h__law_draw hr (by decide) (by rfl) tk (ul_cons (up_var (pv 0)) (ul_cons up_int ul_nil))) (ul_cons (up_op op_subU (up_op op_powU up_int up_int) up_int) ul_nil))))))) (up_fn h__law_draw hr (by decide) (by rfl) tk (ul_cons (up_var (pv 0)) (ul_cons up_int ul_nil)))) ul_nil))) pa_nil))))) ub_nil) (ub_one (us_set (i := 3) sc__law_policy.nd rfl (Or.inl rfl) (up_op op_addU (up_op op_addU (up_var (pv 3)) up_int) (up_fn h__law_draw hr (by decide) (by rfl) tk (ul_cons (up_var (pv 0)) (ul_cons up_int ul_nil)))))))) (ub_one (us_thaw (i := 2) (us_ret (up_tup (ul_cons up_str (ul_cons (up_callTy call_tupleU (by rfl) T.n_tuple boot_tuple (ul_cons (up_var (pv 2)) ul_nil)) ul_nil)))))))))))))), pure__law_policy⟩
theorem sc__law_heard : FnScope ["_law_call", "_law_caught", "_law_found", "e"] ["_law_call"] (defScope s__law_heard) := ⟨rfl, rfl, rfl, by decide +kernel, rfl, by decide +kernel, by decide +kernel⟩
theorem ok__law_heard (T : Txt K w mg) (TB : TBs K mg base mks) : FnL P w K mg base 1 "_law_heard" "_law_call" s__law_heard sp__law_heard := by
  obtain ⟨fd, F⟩ := T.F__law_heard
  refine ⟨⟨fd, N__law_heard, F, F.bindsN fun _ _ _ _ _ _ us hl => match us, hl with | [_], _ => rfl, sc__law_heard, ?_⟩, T.g__law_heard⟩
  intro cdv A outer s H O pen n f th hr act
  have hu := hu_of hr
  exact ⟨u__law_heard pen f th, (ub_cons (us_set (i := 1) sc__law_heard.nd rfl (Or.inl rfl) up_non) (ub_cons (us_set (i := 2) sc__law_heard.nd rfl (Or.inl rfl) up_non) (ub_cons (us_tryP (pen := pen) (i := 3) rfl rfl sc__law_heard.nd rfl rfl (CNs.one (CNs.own rfl (by decide) T.g_GrowError CNs.nil)) (takesX_ok T.xf) (fun _ W1 _ _ hfr tk1 po1 => (ub_one (us_set (i := 2) sc__law_heard.nd rfl (Or.inl rfl) (act _ W1 _ _ _ _ hfr tk1)))) (fun _ _ => (ub_one (us_set (i := 1) sc__law_heard.nd rfl (Or.inl rfl) (up_var (pv 3)))))) (ub_cons (us_if (ut_cmp op_isU (up_var (pv 1)) up_non (nomark _)) (ub_one (us_ret (up_lst (ul_cons (up_var (pv 2)) ul_nil)))) ub_nil) (ub_cons (us_if (PW.pt (uw_or (ut_not (ut_tru (up_callB (call_isX T.xf) (by rfl) T.n_isinstance boot_isinstance (ul_cons (up_var (pv 1)) (ul_cons (up_cls rfl T.g_InvalidText) ul_nil))) (fun _ => rfl))) (uw_or1 (ut_not (ut_tru (up_callB (call_isX T.xf) (by rfl) T.n_isinstance boot_isinstance (ul_cons (up_var (pv 1)) (ul_cons (up_bt rfl T.n_ValueError boot_ValueError) ul_nil))) (fun _ => rfl)))))) (ub_one (us_ret (up_tup ul_nil))) ub_nil) (ub_cons (us_if (ut_tru (up_callB (call_isX T.xf) (by rfl) T.n_isinstance boot_isinstance (ul_cons (up_var (pv 1)) (ul_cons (up_tup (ul_cons (up_cls rfl T.g_InvalidChoice) (ul_cons (up_cls rfl T.g_InvalidDemand) (ul_cons (up_cls rfl T.g_InvalidOrder) (ul_cons (up_cls rfl T.g_InvalidPolicy) (ul_cons (up_cls rfl T.g_InvalidProgram) ul_nil)))))) ul_nil))) (fun _ => rfl)) (ub_one (us_ret (up_tup ul_nil))) ub_nil) (ub_one (us_ret (up_tup (ul_cons (up_fld (cs := ["InvalidText"]) T.xf (by intro c hc; simp only [List.mem_cons, List.not_mem_nil, or_false] at hc; first | (subst hc; exact ⟨by decide +kernel, T.no_InvalidText⟩)) (up_var (pv 1))) ul_nil)))))))))), pure__law_heard pen n f th⟩
theorem sc__law_words : FnScope ["_law_rule", "_law_found", "_law_one", "_law_two"] ["_law_rule"] (defScope s__law_words) := ⟨rfl, rfl, rfl, by decide +kernel, rfl, by decide +kernel, by decide +kernel⟩
theorem ok__law_words (T : Txt K w mg) (TB : TBs K mg base mks) : Fn P w K mg base 1 "_law_words" s__law_words ["_law_rule"] sp__law_words := by
  obtain ⟨fd, F⟩ := T.F__law_words
  refine fn_mk (k := 0) F T.g__law_words sc__law_words (F.bindsN fun _ _ _ _ _ _ us hl => match us, hl with | [_], _ => rfl) len__law_words ?_
  intro cdv A outer s H E O0 pen PX hr tk
  have hu := hu_of hr
  exact ⟨u__law_words (Wd pen PX), (ub_cons (us_if (ut_cmp (op_eqV hu) (up_ix (up_var (pv 0)) up_int) up_str (nomark _)) (ub_one (us_ret (up_op op_addU up_str (up_callTy call_strU (by rfl) T.n_str boot_str (ul_cons (up_ix (up_var (pv 0)) up_int) ul_nil))))) ub_nil) (ub_cons (us_if (ut_cmp (op_eqV hu) (up_ix (up_var (pv 0)) up_int) up_str (nomark _)) (ub_one (us_ret (up_op op_addU (up_op op_addU (up_op op_addU up_str (up_callTy call_strU (by rfl) T.n_str boot_str (ul_cons (up_ix (up_var (pv 0)) up_int) ul_nil))) up_str) (up_callTy call_strU (by rfl) T.n_str boot_str (ul_cons (up_ix (up_var (pv 0)) up_int) ul_nil))))) ub_nil) (ub_cons (us_set (i := 1) sc__law_words.nd rfl (Or.inl rfl) (up_ix (up_var (pv 0)) up_int)) (ub_cons (us_if (ut_cmp (op_eqV hu) (up_ix (up_var (pv 0)) up_int) up_str (nomark _)) (ub_one (us_for (passes_of rfl) rfl (ui_seq (up_ix (up_var (pv 0)) up_int)) (ug_tup (is := [2, 3]) (pg_tup rfl (pgs_cons (pg_name (i := 2) sc__law_words.nd rfl (Or.inl rfl)) (pgs_cons (pg_name (i := 3) sc__law_words.nd rfl (Or.inl rfl)) pgs_nil)))) (ub_one (us_set (i := 1) sc__law_words.nd rfl (Or.inl rfl) (up_op op_addU (up_op op_addU (up_op op_addU (up_op op_addU (up_var (pv 1)) up_str) (up_callTy call_strU (by rfl) T.n_str boot_str (ul_cons (up_var (pv 2)) ul_nil))) up_str) (up_callTy call_strU (by rfl) T.n_str boot_str (ul_cons (up_var (pv 3)) ul_nil))))))) ub_nil) (ub_one (us_ret (up_var (pv 1)))))))), pure__law_words⟩
theorem sc__law_number : FnScope ["_law_word", "_law_most", "_law_sign"] ["_law_word", "_law_most"] (defScope s__law_number) := ⟨rfl, rfl, rfl, by decide +kernel, rfl, by decide +kernel, by decide +kernel⟩
theorem ok__law_number (T : Txt K w mg) (TB : TBs K mg base mks) : Fn P w K mg base 1 "_law_number" s__law_number ["_law_word", "_law_most"] sp__law_number := by
  obtain ⟨fd, F⟩ := T.F__law_number
  refine fn_mk (k := 0) F T.g__law_number sc__law_number (F.bindsN fun _ _ _ _ _ _ us hl => match us, hl with | [_, _], _ => rfl) len__law_number ?_
  intro cdv A outer s H E O0 pen PX hr tk
  have hu := hu_of hr
  exact ⟨u__law_number (Wd pen PX), (ub_cons (us_if (PW.pt (uw_or (ut_not (ut_chain op_ltU op_ltU up_int (up_callB call_lenU (by rfl) T.n_len PySem.boot_len (ul_cons (up_var (pv 0)) ul_nil)) up_int)) (uw_or1 (ut_cmp (op_neU hu) (uf_val (uf_comp (own := [("_law_sign", 2)]) (g := ugN 2) rfl sc__law_number.nd (ui_str (up_var (pv 0))) (blkOk_by (by kernel_rfl)) (gok_name (by decide)) (fun _ _ _ _ _ => pg_name (i := 2) sc__law_number.nd rfl (Or.inl rfl)) (fun _ _ _ _ _ => (uts_one (fun _ => (ut_cmp op_notInSg (up_var (pv 2)) up_str (by rfl))))) (fun _ _ _ _ _ _ => (up_var (pv 2))))) (up_lst ul_nil) (nomark _))))) (ub_one (us_ret (up_neg up_int))) ub_nil) (ub_cons (us_if (PW.pt (uw_or (ut_cmp (op_neU hu) (up_callTy call_strU (by rfl) T.n_str boot_str (ul_cons (up_callTy call_intT (by rfl) T.n_int boot_int (ul_cons (up_var (pv 0)) ul_nil)) ul_nil)) (up_var (pv 0)) (nomark _)) (uw_or1 (ut_cmp op_gtU (up_callTy call_intT (by rfl) T.n_int boot_int (ul_cons (up_var (pv 0)) ul_nil)) (up_var (pv 1)) (nomark _))))) (ub_one (us_ret (up_neg up_int))) ub_nil) (ub_one (us_ret (up_callTy call_intT (by rfl) T.n_int boot_int (ul_cons (up_var (pv 0)) ul_nil)))))), pure__law_number⟩
theorem sc__law_pair : FnScope ["_law_word", "_law_sign", "_law_parts", "_law_pair_here"] ["_law_word", "_law_sign"] (defScope s__law_pair) := ⟨rfl, rfl, rfl, by decide +kernel, rfl, by decide +kernel, by decide +kernel⟩
theorem ok__law_pair (T : Txt K w mg) (TB : TBs K mg base mks) : Fn P w K mg base 2 "_law_pair" s__law_pair ["_law_word", "_law_sign"] sp__law_pair := by
  have h__law_number := ok__law_number T TB (P := P) (w := w) (base := base)
  obtain ⟨fd, F⟩ := T.F__law_pair
  refine fn_mk (k := 1) F T.g__law_pair sc__law_pair (F.bindsN fun _ _ _ _ _ _ us hl => match us, hl with | [_, _], _ => rfl) len__law_pair ?_
  intro cdv A outer s H E O0 pen PX hr tk
  have hu := hu_of hr
  exact ⟨u__law_pair (Wd pen PX), (ub_cons (us_set (i := 2) sc__law_pair.nd rfl (Or.inl rfl) (up_split (up_var (pv 0)) (up_var (pv 1)))) (ub_cons (us_if (ut_cmp (op_neU hu) (up_callB call_lenU (by rfl) T.n_len PySem.boot_len (ul_cons (up_var (pv 2)) ul_nil)) up_int (nomark _)) (ub_one (us_ret (up_tup ul_nil))) ub_nil) (ub_cons (us_set (i := 3) sc__law_pair.nd rfl (Or.inl rfl) (up_tup (ul_cons (up_fn h__law_number hr (by decide) (by rfl) tk (ul_cons (up_ix (up_var (pv 2)) up_int) (ul_cons (up_op op_powU up_int up_int) ul_nil))) (ul_cons (up_fn h__law_number hr (by decide) (by rfl) tk (ul_cons (up_ix (up_var (pv 2)) up_int) (ul_cons (up_op op_subU (up_op op_powU up_int up_int) up_int) ul_nil))) ul_nil)))) (ub_one (us_ret (up_ix (up_lst (ul_cons (up_var (pv 3)) (ul_cons (up_tup ul_nil) ul_nil))) (up_callTy call_intU (by rfl) T.n_int boot_int (ul_cons (up_cmp (op_inU hr) (up_neg up_int) (up_var (pv 3)) (by rfl)) ul_nil)))))))), pure__law_pair⟩
theorem sc__law_due : FnScope ["_law_it", "_law_words_here", "_law_pairs", "_law_marks", "_law_pair_here", "_law_word"] ["_law_it"] (defScope s__law_due) := ⟨rfl, rfl, rfl, by decide +kernel, rfl, by decide +kernel, by decide +kernel⟩
theorem ok__law_due (T : Txt K w mg) (TB : TBs K mg base mks) : Fn P w K mg base 3 "_law_due" s__law_due ["_law_it"] sp__law_due := by
  have h__law_number := ok__law_number T TB (P := P) (w := w) (base := base)
  have h__law_pair := ok__law_pair T TB (P := P) (w := w) (base := base)
  obtain ⟨fd, F⟩ := T.F__law_due
  refine fn_mk (k := 2) F T.g__law_due sc__law_due (F.bindsN fun _ _ _ _ _ _ us hl => match us, hl with | [_], _ => rfl) len__law_due ?_
  intro cdv A outer s H E O0 pen PX hr tk
  have hu := hu_of hr
  exact ⟨u__law_due (Wd pen PX), (ub_cons (us_if (ut_not (ut_tru (up_callB call_isiU (by rfl) T.n_isinstance boot_isinstance (ul_cons (up_var (pv 0)) (ul_cons (up_bt rfl T.n_str boot_str) ul_nil))) (fun _ => rfl))) (ub_one (us_ret (up_tup (ul_cons up_int ul_nil)))) ub_nil) (ub_cons (us_set (i := 1) sc__law_due.nd rfl (Or.inl rfl) (up_split (up_var (pv 0)) up_str)) (ub_cons (us_if (ut_cmp (op_inU hr) (up_var (pv 0)) (up_tup (ul_cons up_str (ul_cons up_str ul_nil))) (by rfl)) (ub_one (us_ret (up_lst (ul_cons (up_tup (ul_cons (up_var (pv 0)) ul_nil)) ul_nil)))) ub_nil) (ub_cons (us_if (PW.pt (uw_and (ut_cmp (op_eqV hu) (up_ix (up_var (pv 1)) up_int) up_str (nomark _)) (uw_and (ut_cmp (op_eqV hu) (up_callB call_lenU (by rfl) T.n_len PySem.boot_len (ul_cons (up_var (pv 1)) ul_nil)) up_int (nomark _)) (uw_and1 (ut_cmp op_geU (up_fn h__law_number hr (by decide) (by rfl) tk (ul_cons (up_ix (up_var (pv 1)) up_int) (ul_cons (up_op op_powU up_int up_int) ul_nil))) up_int (nomark _)))))) (ub_one (us_ret (up_lst (ul_cons (up_tup (ul_cons up_str (ul_cons (up_callTy call_intT (by rfl) T.n_int boot_int (ul_cons (up_ix (up_var (pv 1)) up_int) ul_nil)) ul_nil))) ul_nil)))) ub_nil) (ub_cons (us_if (PW.pt (uw_and (ut_cmp (op_eqV hu) (up_ix (up_var (pv 1)) up_int) up_str (nomark _)) (uw_and1 (ut_cmp (op_eqV hu) (up_callB call_lenU (by rfl) T.n_len PySem.boot_len (ul_cons (up_var (pv 1)) ul_nil)) up_int (nomark _))))) (ub_cons (us_set (i := 4) sc__law_due.nd rfl (Or.inl rfl) (up_fn h__law_pair hr (by decide) (by rfl) tk (ul_cons (up_ix (up_var (pv 1)) up_int) (ul_cons up_str ul_nil)))) (ub_cons (us_if (PW.pt (uw_or (ut_cmp (op_eqV hu) (up_var (pv 4)) (up_tup ul_nil) (nomark _)) (uw_or (ut_not (ut_chain op_leU op_leU up_int (up_ix (up_var (pv 4)) up_int) up_int)) (uw_or1 (ut_cmp op_ltU (up_op op_mulU up_int (up_ix (up_var (pv 4)) up_int)) (up_op op_mulU up_int (up_ix (up_var (pv 4)) up_int)) (nomark _)))))) (ub_one (us_ret (up_tup (ul_cons up_int ul_nil)))) ub_nil) (ub_one (us_ret (up_lst (ul_cons (up_op op_addU (up_tup (ul_cons up_str ul_nil)) (up_var (pv 4))) ul_nil)))))) ub_nil) (ub_cons (us_if (PW.pt (uw_or (ut_cmp (op_neU hu) (up_ix (up_var (pv 1)) up_int) up_str (nomark _)) (uw_or1 (ut_cmp op_gtU (up_callB call_lenU (by rfl) T.n_len PySem.boot_len (ul_cons (up_var (pv 1)) ul_nil)) up_int (nomark _))))) (ub_one (us_ret (up_tup (ul_cons up_int ul_nil)))) ub_nil) (ub_cons (us_setC (ps_comp (i := 2) (own := [("_law_word", 5)]) (g := ugN 5) rfl sc__law_due.nd rfl rfl (sw_true rfl rfl rfl (by decide +kernel)) (ui_seq (up_cut (up_var (pv 1)) (uo_some up_int) uo_none)) (blkOk_by (by kernel_rfl)) (gok_name (by decide)) (fun _ _ _ _ _ => pg_name (i := 5) sc__law_due.nd rfl (Or.inl rfl)) (fun _ _ _ _ _ => uts_nil) (fun _ _ _ _ _ _ => (up_fn h__law_pair hr (by decide) (by rfl) takesN (ul_cons (up_var (pv 5)) (ul_cons up_str ul_nil)))))) (ub_cons (us_if (PW.pt (uw_or (ut_cmp (op_inU hr) (up_tup ul_nil) (up_var (pv 2)) (by rfl)) (uw_or1 (ut_cmp (op_neU hu) (uf_val (uf_comp (own := [("_law_pair_here", 4)]) (g := ugN 4) rfl sc__law_due.nd (ui_seq (up_var (pv 2))) (blkOk_by (by kernel_rfl)) (gok_name (by decide)) (fun _ _ _ _ _ => pg_name (i := 4) sc__law_due.nd rfl (Or.inl rfl)) (fun _ _ _ _ _ => (uts_one (fun _ => (ut_cmp op_gtU (up_ix (up_var (pv 4)) up_int) up_int (nomark _))))) (fun _ _ _ _ _ _ => (up_var (pv 4))))) (up_lst ul_nil) (nomark _))))) (ub_one (us_ret (up_tup (ul_cons up_int ul_nil)))) ub_nil) (ub_cons (us_setC (ps_comp (i := 3) (own := [("_law_pair_here", 4)]) (g := ugN 4) rfl sc__law_due.nd rfl rfl (sw_true rfl rfl rfl (by decide +kernel)) (ui_seq (up_var (pv 2))) (blkOk_by (by kernel_rfl)) (gok_name (by decide)) (fun _ _ _ _ _ => pg_name (i := 4) sc__law_due.nd rfl (Or.inl rfl)) (fun _ _ _ _ _ => uts_nil) (fun _ _ _ _ _ _ => (up_ix (up_var (pv 4)) up_int)))) (ub_cons (us_if (ut_cmp (op_neU hu) (up_var (pv 3)) (uf_val (uf_sortS rfl (by rfl) T.n_sorted (by rfl) T.n_set (ul_cons (up_var (pv 3)) ul_nil))) (nomark _)) (ub_one (us_ret (up_tup (ul_cons up_int ul_nil)))) ub_nil) (ub_one (us_ret (up_lst (ul_cons (up_tup (ul_cons up_str (ul_cons (up_callTy call_tupleU (by rfl) T.n_tuple boot_tuple (ul_cons (up_var (pv 2)) ul_nil)) ul_nil))) ul_nil)))))))))))))), pure__law_due⟩
theorem sc__law_bent : FnScope ["_law_pen_here", "_law_paper", "_law_signs", "_law_some", "_law_sign", "_law_way", "_law_at", "_law_words_here", "_law_one", "_law_two", "_law_more"] ["_law_pen_here", "_law_paper"] (defScope s__law_bent) := ⟨rfl, rfl, rfl, by decide +kernel, rfl, by decide +kernel, by decide +kernel⟩
theorem ok__law_bent (T : Txt K w mg) (TB : TBs K mg base mks) : Fn P w K mg base 2 "_law_bent" s__law_bent ["_law_pen_here", "_law_paper"] sp__law_bent := by
  have h__law_draw := ok__law_draw T TB (P := P) (w := w) (base := base)
  obtain ⟨fd, F⟩ := T.F__law_bent
  refine fn_mk (k := 1) F T.g__law_bent sc__law_bent (F.bindsN fun _ _ _ _ _ _ us hl => match us, hl with | [_, _], _ => rfl) len__law_bent ?_
  intro cdv A outer s H E O0 pen PX hr tk
  have hu := hu_of hr
  exact ⟨u__law_bent (Wd pen PX), (ub_cons (us_set (i := 2) sc__law_bent.nd rfl (Or.inl rfl) up_str) (ub_cons (us_set (i := 3) sc__law_bent.nd rfl (Or.inl rfl) up_str) (ub_cons (us_set (i := 4) sc__law_bent.nd rfl (Or.inl rfl) (up_ix (up_lst (ul_cons (up_ix (up_var (pv 2)) (up_fn h__law_draw hr (by decide) (by rfl) tk (ul_cons (up_var (pv 0)) (ul_cons (up_callB call_lenU (by rfl) T.n_len PySem.boot_len (ul_cons (up_var (pv 2)) ul_nil)) ul_nil)))) (ul_cons (up_ix (up_var (pv 3)) (up_fn h__law_draw hr (by decide) (by rfl) tk (ul_cons (up_var (pv 0)) (ul_cons (up_callB call_lenU (by rfl) T.n_len PySem.boot_len (ul_cons (up_var (pv 3)) ul_nil)) ul_nil)))) ul_nil))) (up_fn h__law_draw hr (by decide) (by rfl) tk (ul_cons (up_var (pv 0)) (ul_cons up_int ul_nil))))) (ub_cons (us_set (i := 5) sc__law_bent.nd rfl (Or.inl rfl) (up_fn h__law_draw hr (by decide) (by rfl) tk (ul_cons (up_var (pv 0)) (ul_cons up_int ul_nil)))) (ub_cons (us_set (i := 6) sc__law_bent.nd rfl (Or.inl rfl) (up_fn h__law_draw hr (by decide) (by rfl) tk (ul_cons (up_var (pv 0)) (ul_cons (up_op op_addU (up_callB call_lenU (by rfl) T.n_len PySem.boot_len (ul_cons (up_var (pv 1)) ul_nil)) up_int) ul_nil)))) (ub_cons (us_set (i := 7) sc__law_bent.nd rfl (Or.inl rfl) (up_split (up_var (pv 1)) up_str)) (ub_cons (us_set (i := 8) sc__law_bent.nd rfl (Or.inl rfl) (up_fn h__law_draw hr (by decide) (by rfl) tk (ul_cons (up_var (pv 0)) (ul_cons (up_callB call_lenU (by rfl) T.n_len PySem.boot_len (ul_cons (up_var (pv 7)) ul_nil)) ul_nil)))) (ub_cons (us_set (i := 9) sc__law_bent.nd rfl (Or.inl rfl) (up_fn h__law_draw hr (by decide) (by rfl) tk (ul_cons (up_var (pv 0)) (ul_cons (up_callB call_lenU (by rfl) T.n_len PySem.boot_len (ul_cons (up_var (pv 7)) ul_nil)) ul_nil)))) (ub_cons (us_if (ut_cmp op_ltU (up_var (pv 5)) up_int (nomark _)) (ub_one (us_ret (up_op op_addU (up_op op_addU (up_cutS (up_var (pv 1)) uo_none (uo_some (up_var (pv 6)))) (up_var (pv 4))) (up_cutS (up_var (pv 1)) (uo_some (up_op op_addU (up_var (pv 6)) (up_var (pv 5)))) uo_none)))) ub_nil) (ub_cons (us_if (ut_cmp (op_eqV hu) (up_var (pv 5)) up_int (nomark _)) (ub_one (us_ret (up_op op_addU (up_cutS (up_var (pv 1)) uo_none (uo_some (up_var (pv 6)))) (up_cutS (up_var (pv 1)) (uo_some (up_op op_addU (up_var (pv 6)) up_int)) uo_none)))) ub_nil) (ub_cons (us_if (ut_cmp (op_eqV hu) (up_var (pv 5)) up_int (nomark _)) (ub_one (us_ret (up_join up_str (up_op op_addU (up_cut (up_var (pv 7)) uo_none (uo_some (up_var (pv 8)))) (up_cut (up_var (pv 7)) (uo_some (up_op op_addU (up_var (pv 8)) up_int)) uo_none))))) ub_nil) (ub_cons (us_if (ut_cmp (op_eqV hu) (up_var (pv 5)) up_int (nomark _)) (ub_one (us_ret (up_join up_str (up_op op_addU (up_op op_addU (up_cut (up_var (pv 7)) uo_none (uo_some (up_var (pv 8)))) (up_lst (ul_cons (up_ix (up_var (pv 7)) (up_var (pv 9))) ul_nil))) (up_cut (up_var (pv 7)) (uo_some (up_var (pv 8))) uo_none))))) ub_nil) (ub_cons (us_if (ut_cmp (op_eqV hu) (up_var (pv 5)) up_int (nomark _)) (ub_one (us_ret (up_join up_str (up_op op_addU (up_cut (up_var (pv 7)) uo_none (uo_some (up_var (pv 8)))) (up_rev (up_cut (up_var (pv 7)) (uo_some (up_var (pv 8))) uo_none)))))) ub_nil) (ub_cons (us_set (i := 10) sc__law_bent.nd rfl (Or.inl rfl) (up_ix (up_lst (ul_cons up_str (ul_cons up_str (ul_cons (up_op op_mulS up_str up_int) (ul_cons up_str (ul_cons up_str (ul_cons up_str ul_nil))))))) (up_fn h__law_draw hr (by decide) (by rfl) tk (ul_cons (up_var (pv 0)) (ul_cons up_int ul_nil))))) (ub_one (us_ret (up_ix (up_lst (ul_cons (up_op op_addU (up_op op_addU (up_cutS (up_var (pv 1)) uo_none (uo_some (up_var (pv 6)))) (up_var (pv 10))) (up_cutS (up_var (pv 1)) (uo_some (up_var (pv 6))) uo_none)) (ul_cons (up_op op_addU (up_op op_addU (up_var (pv 1)) up_str) (up_var (pv 10))) ul_nil))) (up_op op_subU (up_var (pv 5)) up_int)))))))))))))))))), pure__law_bent⟩
theorem sc__law_is_right : FnScope ["_law_it"] ["_law_it"] (defScope s__law_is_right) := ⟨rfl, rfl, rfl, by decide +kernel, rfl, by decide +kernel, by decide +kernel⟩
theorem ok__law_is_right (T : Txt K w mg) (TB : TBs K mg base mks) : Fn P w K mg base 8 "_law_is_right" s__law_is_right ["_law_it"] sp__law_is_right := by
  have h__law_due := ok__law_due T TB (P := P) (w := w) (base := base)
  have h__law_heard := ok__law_heard T TB (P := P) (w := w) (base := base)
  have h_read_policy := ok_read_policy T TB (P := P) (w := w) (base := base)
  obtain ⟨fd, F⟩ := T.F__law_is_right
  refine fn_mkL (k := 7) F T.g__law_is_right sc__law_is_right (F.bindsN fun _ _ _ _ _ _ us hl => match us, hl with | [_], _ => rfl) len__law_is_right ?_
  intro cdv A outer s H E O0 pen PX hc hr tk
  have hu := hu_of hr
  exact ⟨u__law_is_right (Wd pen PX), (ub_one (us_ret (up_cmp (op_eqV hu) (up_callB (call_reprU hr) (by rfl) T.n_repr boot_repr (ul_cons (up_lam h__law_heard hr (by decide) (by rfl) rfl hc (TB "_law_is_right" (by decide)) (LamX.lamS_by (show LamX.lamSB (defScope s__law_is_right) _ = true from (by decide +kernel))) rfl (fun _ _ _ _ _ => rfl) (fun A outer s H E f c O0 WL hr tkL => by have hu := hu_of hr; exact (up_fn h_read_policy hr (by decide) (by rfl) tkL (ul_cons (up_var (pv 0)) ul_nil)))) ul_nil)) (up_callB (call_reprU hr) (by rfl) T.n_repr boot_repr (ul_cons (up_fn h__law_due hr (by decide) (by rfl) tk (ul_cons (up_var (pv 0)) ul_nil)) ul_nil)) (nomark _)))), pure__law_is_right⟩
theorem sc_law : FnScope ["_law_script", "_law_pen_here", "_law_turn", "_law_some", "_law_rule", "_law_paper", "_law_time", "_law_bent_here", "_law_it"] ["_law_script"] (defScope s_law) := ⟨rfl, rfl, rfl, by decide +kernel, rfl, by decide +kernel, by decide +kernel⟩
theorem ok_law (T : Txt K w mg) (TB : TBs K mg base mks) {fd : FuncData} (F : F_law K fd) : FnG P w K mg base 9 (He.fAd K ("law", none)) fd ["_law_script"] (spLawT K mks) := by
  have h__law_bent := ok__law_bent T TB (P := P) (w := w) (base := base)
  have h__law_draw := ok__law_draw T TB (P := P) (w := w) (base := base)
  have h__law_due := ok__law_due T TB (P := P) (w := w) (base := base)
  have h__law_is_right := ok__law_is_right T TB (P := P) (w := w) (base := base)
  have h__law_policy := ok__law_policy T TB (P := P) (w := w) (base := base)
  have h__law_words := ok__law_words T TB (P := P) (w := w) (base := base)
  obtain ⟨fp, Gp, bp, kp⟩ := ok__law_pen T (P := P) (w := w) (base := base)
  refine law_mkT (mk := mks) (k := 8) (i := 1) F sc_law (by rfl) (by decide) (by decide) ?_
  intro cdv A outer s H E hr

  have hu := hu_of hr
  exact ⟨u_law W0, fun σ => WE (LW K (fun _ => False) H W0) σ, ps_set (i := 1) sc_law.nd rfl (Or.inl rfl) (pe_callG Gp (hr.mono (by decide)) (by rfl) T.g__law_pen kp bp (passAt takesN) (pa_cons (pv 0) pa_nil)),
    fun O0 H0 => (ub_cons (us_for (passes_of rfl) rfl (ui_rng1 (by rfl) T.n_range (ul_cons up_int ul_nil)) (ug_name (pg_name (i := 2) sc_law.nd rfl (Or.inl rfl))) (ub_cons (us_set (i := 4) sc_law.nd rfl (Or.inl rfl) (up_fn h__law_policy hr (by decide) (by rfl) takesN (ul_cons (up_var (pv 1)) ul_nil))) (ub_cons (us_set (i := 5) sc_law.nd rfl (Or.inl rfl) (up_fn h__law_words hr (by decide) (by rfl) takesN (ul_cons (up_var (pv 4)) ul_nil))) (ub_cons (us_if (ut_cmp (op_neU hu) (up_fn h__law_due hr (by decide) (by rfl) takesN (ul_cons (up_var (pv 5)) ul_nil)) (up_lst (ul_cons (up_var (pv 4)) ul_nil)) (nomark _)) (ub_one (us_ret up_bl)) ub_nil) (ub_cons (us_for (passes_of rfl) rfl (ui_rng1 (by rfl) T.n_range (ul_cons up_int ul_nil)) (ug_name (pg_name (i := 6) sc_law.nd rfl (Or.inl rfl))) (ub_cons (us_set (i := 7) sc_law.nd rfl (Or.inl rfl) (up_fn h__law_bent hr (by decide) (by rfl) takesN (ul_cons (up_var (pv 1)) (ul_cons (up_var (pv 5)) ul_nil)))) (ub_one (us_if (PW.pt (uw_or (ut_not (ut_tru (up_fn h__law_is_right hr (by decide) (by rfl) takesN (ul_cons (up_var (pv 7)) ul_nil)) (fun _ => rfl))) (uw_or1 (ut_not (ut_tru (up_fn h__law_is_right hr (by decide) (by rfl) takesN (ul_cons (up_fn h__law_bent hr (by decide) (by rfl) takesN (ul_cons (up_var (pv 1)) (ul_cons (up_var (pv 7)) ul_nil))) ul_nil)) (fun _ => rfl)))))) (ub_one (us_ret up_bl)) ub_nil)))) (ub_one (us_if (ut_not (ut_tru (up_fn h__law_is_right hr (by decide) (by rfl) takesN (ul_cons (up_ix (up_lst (ul_cons up_non (ul_cons up_int (ul_cons up_bl (ul_cons (up_lst (ul_cons (up_var (pv 5)) ul_nil)) (ul_cons (up_var (pv 4)) (ul_cons up_dic0 (ul_cons up_str (ul_cons up_str (ul_cons up_str ul_nil)))))))))) (up_fn h__law_draw hr (by decide) (by rfl) takesN (ul_cons (up_var (pv 1)) (ul_cons up_int ul_nil)))) ul_nil)) (fun _ => rfl))) (ub_one (us_ret up_bl)) ub_nil))))))) (ub_cons (us_set (i := 3) sc_law.nd rfl (Or.inl rfl) (up_lst (ul_cons up_str (ul_cons up_str (ul_cons up_str (ul_cons up_str (ul_cons up_str (ul_cons up_str (ul_cons up_str (ul_cons up_str ul_nil)))))))))) (ub_cons (us_set (i := 3) sc_law.nd rfl (Or.inl rfl) (up_op op_addU (up_var (pv 3)) (up_lst (ul_cons up_str (ul_cons up_str (ul_cons (up_op op_addU up_str (up_callTy call_strU (by rfl) T.n_str boot_str (ul_cons (up_op op_addU (up_op op_powU up_int up_int) up_int) ul_nil))) (ul_cons up_str (ul_cons up_str ul_nil)))))))) (ub_cons (us_set (i := 3) sc_law.nd rfl (Or.inl rfl) (up_op op_addU (up_var (pv 3)) (up_lst (ul_cons up_str (ul_cons up_str ul_nil))))) (ub_one (us_ret (up_and (up_cmp (op_eqV hu) (uf_val (uf_comp (own := [("_law_it", 8)]) (g := ugN 8) rfl sc_law.nd (ui_seq (up_var (pv 3))) (blkOk_by (by kernel_rfl)) (gok_name (by decide)) (fun _ _ _ _ _ => pg_name (i := 8) sc_law.nd rfl (Or.inl rfl)) (fun _ _ _ _ _ => (uts_one (fun _ => (ut_not (ut_tru (up_fn h__law_is_right hr (by decide) (by rfl) takesN (ul_cons (up_var (pv 8)) ul_nil)) (fun _ => rfl)))))) (fun _ _ _ _ _ _ => (up_var (pv 8))))) (up_lst ul_nil) (nomark _)) (up_one (up_fn h__law_is_right hr (by decide) (by rfl) takesN (ul_cons (up_op op_addU up_str (up_op op_mulS up_str up_int)) ul_nil)))))))))), pure_law⟩
end
end Lw

set_option Elab.async false
set_option linter.all false
set_option maxRecDepth 100000
set_option maxHeartbeats 0
open PySem PySem.W PySem.Calls PyProof.Rows
theorem PySem.Challenge.cw_growblind_k68_texts_of_no_policy_holds : PySem.Challenge.rw_growblind_k68_texts_of_no_policy.Holds := by
  w_on; o_law
  refine HandSHeadRun.head_any (r := OpenLaw.row PySem.Challenge.rw_growblind_k68_texts_of_no_policy) (q := view (OpenLaw.row PySem.Challenge.rw_growblind_k68_texts_of_no_policy).prog [40]) (H := Lw.hk) (ob := Lw.ob) (M := 4000) (loose := Lw.loose_) (d := HandSHeadRun.topDef (OpenLaw.row PySem.Challenge.rw_growblind_k68_texts_of_no_policy).prog 40) (kwd := []) Lw.ob_eq
    (by kernel_rfl) (fun s => by kernel_rfl) Lw.run (by kernel_rfl) (by kernel_rfl) (by kernel_rfl) (by rfl) (by first | assumption | decide +kernel) (by decide +kernel) ⟨rfl, rfl, rfl, rfl, rfl, by decide +kernel⟩ ?hw ?hc
  case hw => w_witness2
  case hc =>
    refine U.walkT (z := Lw.zo) (l := PySem.Challenge.rw_growblind_k68_texts_of_no_policy) (n := 63) (k := 9) (x := "_law_script") rfl (by decide) (by kernel_rfl) ⟨⟨rfl, by decide, by decide⟩, rfl⟩ ?F
    intro w mg fa h Y G hmg0
    obtain ⟨K, KX, c⟩ := Y
    have hmg : mg ("law" : PySem.Str) = some (.ref fa) := by
      have e : (HandSHeadRun.topDef (OpenLaw.row PySem.Challenge.rw_growblind_k68_texts_of_no_policy).prog 40).name = ("law" : PySem.Str) := by kernel_rfl
      rw [← e]
      exact hmg0
    have T := Lw.txt_of KX G c
    have ef := hmg.symm.trans T.g_law
    cases ef
    obtain ⟨fd, F⟩ := T.F_law
    have b := L2.FunD.bindsA (ps := ["_law_script"]) F fun _ _ _ _ _ _ us hl => match us, hl with | [_], _ => rfl
    refine ⟨K, fd, KX, c, by decide, fun s v => b s [v] rfl, fun base _ _ TB => Lw.ok_law T TB F⟩


