import PyProof.Rows.All
import Wide.All
import OpenK.AllK
import Wide.FinOn
import KE.KStateDown
import HandS.ForMost
import HandS.ForExc
import HandS.IsInst
import HandS.Defaults
import HandS.Wide
import HandS.DictComp
import HandS.CallSlots
import HandS.NoneIn
import HandS.TupAny
import HandS.Deep
import HandS.TupLen
import HandS.Small
import HandS.RaiseMore
import HandS.ExcIs
import HandS.ExcOwn
import HandS.HeadHook1
import HandS.HeadHook2
import HandS.Zip
import HandS.SortInts
import HandS.SetFor
import HandS.ListItems
import PyProof.Rows.SortShellAny
import KE.KDictSum
import KE.KDictList
import HandS.TryOnly
import HandS.More
import HandS.Text
import PyProof.ReprRoads
import HandS.Style
import HandS.Conv
import HandS.DictTup
import KE.KRevSl
import KE.DataFind
import HandS.TupLe
import KE.SortData
import KE.DataEq
import HandS.SortOrd
import KE.KDictWalk
import HandS.ExcInit
import HandS.ExcField
import KE.KExcIs
import HandS.StrMore
import HandS.FStr
import HandS.DeepEq
import KE.KEqNest
import PyProof.NeKinds
import HandS.Head0
import HandS.Head1
import HandS.Head2
import HandS.HeadEnd
import PySem.Challenge.RW_ownerstally_k28_whole_given_behind_stret
set_option Elab.async false
set_option linter.all false
set_option maxRecDepth 100000
set_option maxHeartbeats 4000000
/-! defs that are called where no object is being shown (so that repr of data is known) -/
namespace Fw
open PySem PySem.Spec PyProof.Rows L2

structure RoomG (k : Nat) (A : Around) : Prop where
  rm : Room k A
  gd : A.guards = some []
namespace RoomG
variable {j k : Nat} {A : Around}
theorem un (r : RoomG k A) : A.units + 16 * k + 200 < cLine := r.rm.un
theorem units (r : RoomG k A) : A.units + 64 < cLine := r.rm.units
theorem mono (r : RoomG k A) (h : j ≤ k) : RoomG j A := ⟨r.rm.mono h, r.gd⟩
theorem deeper (r : RoomG (k + 1) A) (env : Env) : RoomG k (A.deeper env) := ⟨r.rm.deeper env, r.gd⟩
theorem make (r : RoomG (k + 1) A) (C : Addr) (us : List Value) (kw : List (Str × Value)) : RoomG k (A.under (.builtin "type.__call__" ⟨.ref C :: us, kw⟩)) := by
  refine ⟨r.rm.make C us kw, ?_⟩
  have e : (Code.builtin "type.__call__" ⟨.ref C :: us, kw⟩).guards = [] := by
    unfold Code.guards
    rw [if_neg]
    show ¬ (guardIds.contains "type.__call__" = true)
    decide +kernel
  unfold Around.under
  dsimp only
  rw [e, r.gd]; rfl
end RoomG
/-- what such a def promises -/
structure FnG (P : Program) (w : World) (K : PySem.W.Frag) (mg : Str → Option Value) (base : Heap) (CX : CXT) (k : Nat) (f : Addr) (fd : FuncData) (ps : List Str) (sp : Sp) : Prop where
  many : ∀ vs H Q E, sp vs H Q E → vs.length = ps.length
  goes : ∀ {A : Around} {outer : List Env} {s : Shared} {H : Hp} {args : Args} {us : List Value} {vs : List V} {Q : VK} {E : XK}, RoomG k A → Env0 P w K mg base A outer s H → BindsTo s fd args (ps.zip us) → Vals vs us →
    sp vs H Q E → codeAny (model P w) A (.call (.ref f) args) (CR CX outer P w H s Q E) s
theorem fng_of {P : Program} {w : World} {K : PySem.W.Frag} {mg : Str → Option Value} {base : Heap} {CX : CXT} {x qual : Str} {params : Arguments} {body : List Stmt} {scope : Scope} {f : Addr} {fd : FuncData} {N ps : List Str} {k : Nat} {sp : Sp}
    (F : FunD K x qual params body scope [] [] f fd) (S : FnScope N ps scope) (many : ∀ vs H Q E, sp vs H Q E → vs.length = ps.length)
    (hb : ∀ (cdv : Value) (A : Around) (outer : List Env) (s : Shared) (H : Hp) (vs : List V) (Q : VK) (E : XK), RoomG k (A.deeper (envOfC qual scope s.heap.objs.size f cdv)) → sp vs H Q E →
      ∃ t, PSs (cxOf CX P w K mg base N qual scope f cdv A outer s H E) body t ∧ t { nx := fun _ => Q .non, rt := Q } (L2.start N vs) H) : FnG P w K mg base CX (k + 1) f fd ps sp := by
  obtain ⟨oc, od, dV, kV, doc, pm, an, cdv, ct, osl, efd, lk, hcd, -, -⟩ := F.ex
  refine ⟨many, ?_⟩
  intro A outer s H args us vs Q E rg env bnd rv hsp
  have inH : K.In s.heap := env.mod.kin.keeps fun b o z => (env.bs b o z).1
  have noL : s.heap.NoLimit := env.mod.nolimit.keeps fun b o z => (env.bs b o z).1
  subst efd
  apply codeAny_call_function rg.rm.depth (inH _ _ lk) rfl S.co S.gen rfl (PySem.W.codeRec_of inH hcd)
  apply bnd
  apply wpAny_newFunctionEnv_cells S.kind
  · rintro ⟨n, v⟩ m
    exact (S.par n (List.of_mem_zip m).1).imp (fun q => q) fun q => ⟨q, PySem.W.cellsFrom_some _ _ _ (.inl q)⟩
  · rintro _ rfl s1 ic
    refine ⟨noL.keeps ic.toInCall.keep, codeAny_func ?_⟩
    obtain ⟨t, pt, ht⟩ := hb cdv A outer s H vs Q E (rg.deeper _) hsp
    have start := inv_start (CX := CX) (E := E) S rg.rm.hd env (many _ _ _ _ hsp) rv ic
    apply wpAny_mono (pt.run [] s1 (L2.start N vs) H _ start ht)
    · intro fl s2 z
      match fl, z with
      | .ret u, ⟨v, _, H2, J, r, q⟩ => exact ⟨v, H2, J.os, J.bare, J.base, J.hok, r, q⟩
      | .next, ⟨_, H2, J, q⟩ => exact ⟨.non, H2, J.os, J.bare, J.base, J.hok, rfl, q⟩
      | .brk, ⟨_, _, _, q⟩ => exact q.elim
      | .cont, ⟨_, _, _, q⟩ => exact q.elim
    · exact fun _ _ z => z
section
variable {X : Cx} {CX : CXT} {k : Nat} {f : Addr} {fd : FuncData} {ps : List Str} {sp : Sp} {E : L2.St → XK}
theorem run_fng {pins : List (Addr × Obj)} {σ : L2.St} {H : Hp} {s : Shared} {Q : VK} {us : List Value} {vs : List V} (F : FnG X.prog X.w X.K X.mg X.base CX k f fd ps sp) (rg : RoomG k X.A) (hb : Binds X.K fd ps []) (hx : PassesAt CX X σ (E σ))
    (I : Inv X pins σ H s) (r : Vals vs us) (q : sp vs H Q (E σ)) : wpAny (model X.prog X.w) X.A (call (.ref f) us) (EP X pins σ Q) X.xe s := by
  have n : us.length = ps.length := r.length.symm.trans (F.many _ _ _ _ q)
  have b := hb s us I.kIn (by simpa using n)
  rw [List.append_nil] at b
  refine wpAny_call (codeAny_mono (F.goes rg I.env0 b r q) ?_)
  intro res s2 z
  match res, z with
  | .error e, z => exact hx pins H s e s2 I z
  | .ok (.ret u), z => exact I.after z
  | .ok .next, z => exact z.elim
  | .ok .brk, z => exact z.elim
  | .ok .cont, z => exact z.elim
def tCallG (sp : Sp) (E : L2.St → XK) (t : TA) : TE := fun σ H Q => t σ H fun vs H1 => sp vs H1 Q (E σ)
theorem pe_callG {x : Str} {p pos : Pos} {e : Expr} {es : List Expr} {t : TA} (F : FnG X.prog X.w X.K X.mg X.base CX k f fd ps sp) (rg : RoomG k X.A) (hg : Gl X x) (hm : X.mg x = some (.ref f)) (hk : PySem.W.keepIn X.K (.ref f) = true) (hb : Binds X.K fd ps []) (hx : ∀ σ, PassesAt CX X σ (E σ))
    (ha : PA X (e :: es) t) (hdb : (x == ("__debug__" : Str)) = false) (he : starEach (e :: es) X.env = (false, eval e X.env) :: starEach es X.env) (hpl : (backTo pos (starEach es X.env)).any (·.1) = false) :
    PE X (.Call (.Name x p) (e :: es) [] pos) (tCallG sp E t) := by
  constructor
  intro pins s σ H Q I q
  apply wpAny_Call_Name_kw
  apply ld_glob I hg hm _ hdb
  apply PySem.W.callWith_K (h₀ := X.base) I.ok.mod.kin hk _ he hpl
  exact thn (ha.run pos pins s σ H _ I q) fun us s1 ⟨vs, H1, J, r, z⟩ => ⟨J.kIn, run_fng F rg hb (hx σ) J r z⟩
end
/-- the abstract heap at a law's call: the script alone, where it isn't of the text -/
noncomputable def scrH (K : PySem.W.Frag) (a : Addr) (o : Obj) (xs : List V) : Hp := fun b => if b = a ∧ K.lookup a = none then some (.frz o (.lst xs)) else none
theorem scrH_some {K : PySem.W.Frag} {a b : Addr} {o : Obj} {xs : List V} {u : HO} (e : scrH K a o xs b = some u) : b = a ∧ K.lookup a = none ∧ u = .frz o (.lst xs) := by
  unfold scrH at e
  split at e
  · rename_i c; cases e; exact ⟨c.1, c.2, rfl⟩
  · cases e
theorem scrH_none {K : PySem.W.Frag} {a b : Addr} {o : Obj} {xs : List V} (n : ¬ (b = a ∧ K.lookup a = none)) : scrH K a o xs b = none := if_neg n
theorem law_goes {P : Program} {w : World} {K : PySem.W.Frag} {mg mb : Str → Option Value} {k : Nat} {fa a : Addr} {fd : FuncData} {x : Str} {sp : Sp} {s : Shared} {us : List Value} {ns : List Int} (inK : K.In s.heap) (hmg : s.heap.Ns mainGlobals mg) (hmb : s.heap.Ns builtinsNs mb)
    (hbo : ∀ y : Str, y ≠ "__name__" → mb y = bootBuiltins y) (noL : s.heap.NoLimit) (g0 : s.gens = #[]) (scr : s.heap.get? a = some { cls := .type "list", data := .seq us.toArray }) (hin : IntsAre us ns) (len : ns.length ≤ sizeLine) (rg : RoomG k callerA)
    (hsm : ∃ mm, s.heap.Ns sysModules mm) (F : ∀ base : Heap, (∃ mm, base.Ns sysModules mm) → FnG P w K mg base CX0 k fa fd [x] sp) (hb : ∀ (s : Shared) (u : Value), BindsTo s fd ⟨[u], []⟩ [(x, u)])
    (hsp : ∀ H : Hp, Only H → SqL K H a (ns.map V.int) → sp [.ref a] H (fun v _ => v = .bl true) fun _ _ _ => False) :
    codeAny (model P w) callerA (.call (.ref fa) ⟨[.ref a], []⟩) (fun r s' => r = .ok (.ret (.bool true)) ∧ OldK s.heap s'.heap ∧ s'.os = s.os ∧ AllBare s'.gens) s := by
  have rv := vals_ints hin
  generalize hH : scrH K a { cls := .type "list", data := .seq us.toArray } (ns.map V.int) = H
  have some_ : ∀ {b u}, H b = some u → b = a ∧ K.lookup a = none ∧ u = .frz { cls := .type "list", data := .seq us.toArray } (.lst (ns.map V.int)) := fun e => scrH_some (by rw [hH]; exact e)
  have only : Only H := fun b => by
    cases z : H b with
    | none => exact .inl rfl
    | some u => exact .inr ⟨_, _, by rw [(some_ z).2.2]⟩
  have sq : SqL K H a (ns.map V.int) := by
    cases lk : K.lookup a with
    | none => exact .inl (.inr ⟨_, by rw [← hH]; exact if_pos ⟨rfl, lk⟩⟩)
    | some o =>
      have z := inK a o lk
      rw [scr] at z
      cases z
      exact .inr ⟨_, us.toArray, _, lk, rfl, rfl, rfl, by simpa [hin.length] using len, by simpa using rv⟩
  have hok : HOk P w H s.heap := fun b u e => by
    obtain ⟨rfl, -, rfl⟩ := some_ e
    exact ⟨scr, by simpa using len, us, _, rv, scr⟩
  -- what isn't tracked
  have gt : ∀ {b o}, s.heap.get? b = some o → (b = a → K.lookup a ≠ none) → (hidT s.heap H).get? b = some o := fun {b o} e n => hidT_get e (by
    rw [← hH]; exact scrH_none fun c => n c.1 c.2)
  have nsp : ∀ {b m}, s.heap.Ns b m → (hidT s.heap H).Ns b m := fun {b m} ⟨o, es, ep, e, d, r⟩ => ⟨o, es, ep, gt e (fun z => by
    subst z; rw [scr] at e; cases e; cases d), d, r⟩
  have inB : K.In (hidT s.heap H) := fun b o e => gt (inK b o e) fun z => by subst z; rw [e]; simp
  have mod : Mod K mg (hidT s.heap H) := by
    obtain ⟨mc, l1, l2⟩ := noL
    exact ⟨inB, nsp hmg, ⟨mb, nsp hmb, hbo⟩, mc, nsp l1, l2⟩
  have env : Env0 P w K mg (hidT s.heap H) callerA [] s H := ⟨rfl, mod, fun _ _ => of_hidT, Nat.le_of_eq (hidT_size _ _), trivial, (by intro b z; exact absurd z (by simp [frs])), hok, .of_eq g0⟩
  obtain ⟨mm, hsm⟩ := hsm
  refine codeAny_mono ((F _ ⟨mm, nsp hsm⟩).goes (us := [.ref a]) (vs := [.ref a]) rg env (hb s (.ref a)) (.cons rfl .nil) (hsp H only sq)) ?_
  intro res s2 z
  match res, z with
  | .error e, z => exact z.elim
  | .ok .next, z => exact z.elim
  | .ok .brk, z => exact z.elim
  | .ok .cont, z => exact z.elim
  | .ok (.ret u), ⟨v, H2, os, bare, un, hok2, r, q⟩ =>
    cases (show v = V.bl true from q)
    cases (show u = Value.bool true from r)
    refine ⟨rfl, OldK.of_keep fun b o e => ?_, os, bare⟩
    cases hb2 : H b with
    | none => exact un.keep b o e hb2 (by intro z; exact absurd z (by simp [frs])) (by simp)
    | some u =>
      obtain ⟨rfl, -, rfl⟩ := some_ hb2
      have k1 := (hok b _ hb2).1
      rw [e] at k1; cases k1
      exact (hok2 b _ (un.frzs _ _ _ hb2)).1
theorem walk_g {l : PySem.W.OpenLaw} {n k : Nat} {q : Program} {loose : List Str} {XP : (Str → Option Value) → Heap → Prop} {YP : World → Heap → Prop} {d : DefRec} {x : Str} (hn : l.most = some n) (hz : n ≤ sizeLine) (hdf : d.params.defaults = []) (rg : RoomG k callerA)
    (F : ∀ (w : World) (mg : Str → Option Value) (fa : Addr) (h : Heap), YP w h → h.Ns mainGlobals mg → mg d.name = some (.ref fa) → ∃ (K : PySem.W.Frag) (fd : FuncData) (sp : Sp), K.In h ∧ (∀ (s : Shared) (u : Value), BindsTo s fd ⟨[u], []⟩ [(x, u)]) ∧
      (∀ (H : Hp) (a : Addr) (ns : List Int), ns.length ≤ n → Only H → SqL K H a (ns.map V.int) → sp [.ref a] H (fun v _ => v = .bl true) fun _ _ _ => False) ∧ ∀ base : Heap, (∃ mm, base.Ns sysModules mm) → FnG l.prog w K mg base CX0 k fa fd [x] sp) (him : importsNone q = true) :
    PySem.W.WalkO q loose XP YP l.row.toRowW d [] (fun f vs => PySem.call f vs) := by
  apply Att.attach_call hn hdf
  intro w s0 s1 mg mb fa o pm cd doc a us ns G Y _ _ _ hm scr hin len g0
  obtain ⟨K, fd, sp, inK, hb, hsp, hF⟩ := F w mg fa _ Y G.T.g hm
  exact law_goes inK G.T.g G.T.b G.T.builtins G.T.nolimit g0 scr hin (Nat.le_trans len hz) rg (let ⟨mm, z, _⟩ := (G.T.seer him).mods; ⟨mm, z⟩) hF hb fun H hO hS => hsp H a ns len hO hS
end Fw

set_option maxRecDepth 100000
set_option maxHeartbeats 4000000
/-! A plain world beside the layer's: tuples are values, lists, dicts and instances stand in a plain list of objects by their number. -/
namespace Fw
open PySem PySem.Spec PyProof.Rows L2

inductive Ty where
  | int | bool | str | list | tuple | dict | verr
  deriving DecidableEq
def Ty.nm : Ty → String
  | .int => "int" | .bool => "bool" | .str => "str" | .list => "list" | .tuple => "tuple" | .dict => "dict" | .verr => "ValueError"
inductive LV where
  | ty (t : Ty) | non | bl (b : Bool) | int (i : Int) | str (x : Str) | tup (xs : List LV) | scr (xs : List LV) | ref (l : Nat) | fn (x : Str) | exc (c : Str) (fs : List (Str × LV))
inductive LO where
  | lst (xs : List LV) | dct (tk : Bool) (kvs : List (LV × LV)) | ins (c : Str) (fs : List (Str × LV)) | fdc (tk : Bool) (kvs : List (LV × LV))
abbrev LH := List LO
abbrev LSt := List (Option LV)
inductive RE (α : Type) where
  | ok (a : α) (h : LH) | exc (c : Str) (fs : List (Str × LV)) (h : LH) | bad
abbrev M (α : Type) := LH → RE α
inductive RS where
  | nx (σ : LSt) (h : LH) | rt (v : LV) (h : LH) | bk (σ : LSt) (h : LH) | ct (σ : LSt) (h : LH) | exc (c : Str) (fs : List (Str × LV)) (σ : LSt) (h : LH) | bad
abbrev LE := LSt → M LV
abbrev LT := LSt → M Bool
abbrev LA := LSt → M (List LV)
abbrev LS := LSt → LH → RS

def ret {α : Type} (a : α) : M α := fun h => .ok a h
def bad {α : Type} : M α := fun _ => .bad
def bnd {α β : Type} (m : M α) (f : α → M β) : M β := fun h => match m h with
  | .ok a h' => f a h'
  | .exc c fs h' => .exc c fs h'
  | .bad => .bad

/-! ### the relation -/
def Imm : HO → Bool
  | .tup _ | .frz _ _ | .xd _ | .ext _ | .met _ _ | .rng _ _ => true
  | _ => false
/-- of these: what values are told by -/
def ImmV : HO → Bool
  | .frz _ (.lst _) => true
  | .frz _ _ => false
  | o => Imm o
theorem ImmV.imm {o : HO} (h : ImmV o = true) : Imm o = true := by
  unfold ImmV at h
  split at h
  · rfl
  · cases h
  · exact h
def keyL : Key → LV
  | .inl i => .int i
  | .inr x => .str x
/-- an exception's object, kept -/
def ExcO (a : Addr) (C : Addr) (d : Option Addr) : Heap → Prop := fun h => ∃ oe vs, h.get? a = some oe ∧ Zc (.ref C) d oe ∧ oe.data = .fields vs

section
variable (K : PySem.W.Frag) (mg : Str → Option Value)
mutual
inductive RV : Hp → List Addr → LV → V → Prop
  | ty {H ρ} (t : Ty) : RV H ρ (.ty t) (.ty t.nm)
  | non {H ρ} : RV H ρ .non .non
  | bl {H ρ} (b : Bool) : RV H ρ (.bl b) (.bl b)
  | int {H ρ} (i : Int) : RV H ρ (.int i) (.int i)
  | str {H ρ} (x : Str) : RV H ρ (.str x) (.str x)
  | tup {H ρ xs a vs} (h : H a = some (.tup vs)) (r : RVs H ρ xs vs) : RV H ρ (.tup xs) (.ref a)
  | scrF {H ρ xs a vs o} (h : H a = some (.frz o (.lst vs))) (r : RVs H ρ xs vs) : RV H ρ (.scr xs) (.ref a)
  | scrK {H ρ xs a vs o its n} (h : K.lookup a = some o) (h1 : o.cls = .type "list") (h2 : o.dict = none) (h3 : o.data = .seq its n) (h4 : its.size ≤ sizeLine) (h5 : Vals vs its.toList) (r : RVs H ρ xs vs) : RV H ρ (.scr xs) (.ref a)
  | ref {H ρ l a} (h : ρ[l]? = some a) : RV H ρ (.ref l) (.ref a)
  | fn {H ρ x f} (h : mg x = some (.ref f)) : RV H ρ (.fn x) (.ref f)
  | exc0 {H ρ c C a} (h : mg c = some (.ref C)) (e : H a = some (.ext (ExcO a C none))) : RV H ρ (.exc c []) (.ref a)
  | excD {H ρ c C a dx fs fs'} (ne : fs ≠ []) (h : mg c = some (.ref C)) (e : H a = some (.ext (ExcO a C (some dx)))) (d : H dx = some (.xd fs')) (r : RFs H ρ fs fs') : RV H ρ (.exc c fs) (.ref a)
inductive RVs : Hp → List Addr → List LV → List V → Prop
  | nil {H ρ} : RVs H ρ [] []
  | cons {H ρ v x vs xs} (r : RV H ρ v x) (t : RVs H ρ vs xs) : RVs H ρ (v :: vs) (x :: xs)
inductive RFs : Hp → List Addr → List (Str × LV) → List (Str × V) → Prop
  | nil {H ρ} : RFs H ρ [] []
  | cons {H ρ n v x vs xs} (r : RV H ρ v x) (t : RFs H ρ vs xs) : RFs H ρ ((n, v) :: vs) ((n, x) :: xs)
end
structure Ext (ρ : List Addr) (H : Hp) (ρ' : List Addr) (H' : Hp) : Prop where
  pre : ∀ (l : Nat) (a : Addr), ρ[l]? = some a → ρ'[l]? = some a
  imm : ∀ a o, H a = some o → Imm o = true → H' a = some o
/-- as Ext, but that a dict that was locked need not be so any more -/
structure Ext0 (ρ : List Addr) (H : Hp) (ρ' : List Addr) (H' : Hp) : Prop where
  pre : ∀ (l : Nat) (a : Addr), ρ[l]? = some a → ρ'[l]? = some a
  imm : ∀ a o, H a = some o → ImmV o = true → H' a = some o
theorem Ext.to0 {ρ ρ' : List Addr} {H H' : Hp} (e : Ext ρ H ρ' H') : Ext0 ρ H ρ' H' := ⟨e.pre, fun a o h i => e.imm a o h (ImmV.imm i)⟩
def RK (H : Hp) (ρ : List Addr) : List (LV × LV) → List (Key × V) → Prop := Paired fun p q => p.1 = keyL q.1 ∧ RV K mg H ρ p.2 q.2
def RT (H : Hp) (ρ : List Addr) : List (LV × LV) → List (List Key × V) → Prop := Paired fun p q => p.1 = .tup (q.1.map keyL) ∧ RV K mg H ρ p.2 q.2
def RO (H : Hp) (ρ : List Addr) (o : LO) (a : Addr) : Prop := match o with
  | .lst xs => ∃ vs, H a = some (.lst vs) ∧ RVs K mg H ρ xs vs
  | .dct false kvs => ∃ kv, H a = some (.dK kv) ∧ RK K mg H ρ kvs kv
  | .dct true kvs => ∃ kv, H a = some (.dT kv) ∧ RT K mg H ρ kvs kv
  | .ins c fs => ∃ C dx fs', mg c = some (.ref C) ∧ H a = some (.ins C dx fs') ∧ RFs K mg H ρ fs fs'
  | .fdc false kvs => ∃ od kv, H a = some (.frz od (.dK kv)) ∧ RK K mg H ρ kvs kv
  | .fdc true kvs => ∃ od kv, H a = some (.frz od (.dT kv)) ∧ RT K mg H ρ kvs kv
structure RH (ρ : List Addr) (h : LH) (H : Hp) : Prop where
  len : ρ.length = h.length
  nd : ∀ (i j : Nat) (a : Addr), ρ[i]? = some a → ρ[j]? = some a → i = j
  obj : ∀ (l : Nat) (o : LO) (a : Addr), h[l]? = some o → ρ[l]? = some a → RO K mg H ρ o a
def RSl (H : Hp) (ρ : List Addr) : Option LV → Option V → Prop
  | some v, some x => RV K mg H ρ v x
  | some _, none => False
  | none, _ => True
def RSt (H : Hp) (ρ : List Addr) : LSt → L2.St → Prop := Paired (RSl K mg H ρ)
def RX (H : Hp) (ρ : List Addr) (c : Str) (fs : List (Str × LV)) (Cv : Value) (d : Option Addr) : Prop :=
  ∃ C, Cv = .ref C ∧ mg c = some (.ref C) ∧ ((d = none ∧ fs = []) ∨ ∃ dx fs', fs ≠ [] ∧ d = some dx ∧ H dx = some (.xd fs') ∧ RFs K mg H ρ fs fs')
end

section
variable {K : PySem.W.Frag} {mg : Str → Option Value} {H H' H1 H2 : Hp} {ρ ρ' ρ1 ρ2 : List Addr} {h h' : LH}
theorem Ext.refl : Ext ρ H ρ H := ⟨fun _ _ e => e, fun _ _ e _ => e⟩
theorem Ext.trans (a : Ext ρ H ρ1 H1) (b : Ext ρ1 H1 ρ2 H2) : Ext ρ H ρ2 H2 := ⟨fun l x e => b.pre l x (a.pre l x e), fun x o e i => b.imm x o (a.imm x o e i) i⟩
mutual
theorem RV.mono (e : Ext0 ρ H ρ' H') : ∀ (v : LV) (x : V), RV K mg H ρ v x → RV K mg H' ρ' v x
  | .ty _, _, r => by cases r; exact .ty _
  | .non, _, r => by cases r; exact .non
  | .bl _, _, r => by cases r; exact .bl _
  | .int _, _, r => by cases r; exact .int _
  | .str _, _, r => by cases r; exact .str _
  | .tup xs, _, r => by
    cases r with
    | tup h r => exact .tup (e.imm _ _ h rfl) (RVs.mono e xs _ r)
  | .scr xs, _, r => by
    cases r with
    | scrF h r => exact .scrF (e.imm _ _ h rfl) (RVs.mono e xs _ r)
    | scrK h h1 h2 h3 h4 h5 r => exact .scrK h h1 h2 h3 h4 h5 (RVs.mono e xs _ r)
  | .ref _, _, r => by
    cases r with
    | ref h => exact .ref (e.pre _ _ h)
  | .fn _, _, r => by
    cases r with
    | fn h => exact .fn h
  | .exc _ fs, _, r => by
    cases r with
    | exc0 h q => exact .exc0 h (e.imm _ _ q rfl)
    | excD ne h q d r => exact .excD ne h (e.imm _ _ q rfl) (e.imm _ _ d rfl) (RFs.mono e fs _ r)
theorem RVs.mono (e : Ext0 ρ H ρ' H') : ∀ (v : List LV) (x : List V), RVs K mg H ρ v x → RVs K mg H' ρ' v x
  | [], _, r => by cases r; exact .nil
  | v :: vs, _, r => by
    cases r with
    | cons r t => exact .cons (RV.mono e v _ r) (RVs.mono e vs _ t)
theorem RFs.mono (e : Ext0 ρ H ρ' H') : ∀ (v : List (Str × LV)) (x : List (Str × V)), RFs K mg H ρ v x → RFs K mg H' ρ' v x
  | [], _, r => by cases r; exact .nil
  | (n, v) :: vs, _, r => by
    cases r with
    | cons r t => exact .cons (RV.mono e v _ r) (RFs.mono e vs _ t)
end
theorem RV.up (e : Ext ρ H ρ' H') {v : LV} {x : V} (r : RV K mg H ρ v x) : RV K mg H' ρ' v x := RV.mono e.to0 v x r
theorem RVs.up (e : Ext ρ H ρ' H') {v : List LV} {x : List V} (r : RVs K mg H ρ v x) : RVs K mg H' ρ' v x := RVs.mono e.to0 v x r
theorem RFs.up (e : Ext ρ H ρ' H') {v : List (Str × LV)} {x : List (Str × V)} (r : RFs K mg H ρ v x) : RFs K mg H' ρ' v x := RFs.mono e.to0 v x r
theorem RK.up0 (e : Ext0 ρ H ρ' H') {v : List (LV × LV)} {x : List (Key × V)} (r : RK K mg H ρ v x) : RK K mg H' ρ' v x := Paired.mapP r fun _ _ z => ⟨z.1, RV.mono e _ _ z.2⟩
theorem RT.up0 (e : Ext0 ρ H ρ' H') {v : List (LV × LV)} {x : List (List Key × V)} (r : RT K mg H ρ v x) : RT K mg H' ρ' v x := Paired.mapP r fun _ _ z => ⟨z.1, RV.mono e _ _ z.2⟩
theorem RK.up (e : Ext ρ H ρ' H') {v : List (LV × LV)} {x : List (Key × V)} (r : RK K mg H ρ v x) : RK K mg H' ρ' v x := Paired.mapP r fun _ _ z => ⟨z.1, z.2.up e⟩
theorem RT.up (e : Ext ρ H ρ' H') {v : List (LV × LV)} {x : List (List Key × V)} (r : RT K mg H ρ v x) : RT K mg H' ρ' v x := Paired.mapP r fun _ _ z => ⟨z.1, z.2.up e⟩
theorem RSt.up (e : Ext ρ H ρ' H') {v : LSt} {x : L2.St} (r : RSt K mg H ρ v x) : RSt K mg H' ρ' v x := Paired.mapP r fun a b z => by
  cases a with
  | none => trivial
  | some v =>
    cases b with
    | none => exact z
    | some x => exact RV.up e (show RV K mg H ρ v x from z)
/-- the object at a is as it was -/
theorem RO.up0 (e : Ext0 ρ H ρ' H') {o : LO} {a : Addr} (s : H' a = H a) (r : RO K mg H ρ o a) : RO K mg H' ρ' o a := by
  cases o with
  | lst xs =>
    obtain ⟨vs, h, r⟩ := r
    exact ⟨vs, s.trans h, RVs.mono e _ _ r⟩
  | dct tk kvs =>
    cases tk with
    | false =>
      obtain ⟨kv, h, r⟩ := r
      exact ⟨kv, s.trans h, RK.up0 e r⟩
    | true =>
      obtain ⟨kv, h, r⟩ := r
      exact ⟨kv, s.trans h, RT.up0 e r⟩
  | ins c fs =>
    obtain ⟨C, dx, fs', hc, h, r⟩ := r
    exact ⟨C, dx, fs', hc, s.trans h, RFs.mono e _ _ r⟩
  | fdc tk kvs =>
    cases tk with
    | false =>
      obtain ⟨od, kv, h, r⟩ := r
      exact ⟨od, kv, s.trans h, RK.up0 e r⟩
    | true =>
      obtain ⟨od, kv, h, r⟩ := r
      exact ⟨od, kv, s.trans h, RT.up0 e r⟩
theorem RO.up (e : Ext ρ H ρ' H') {o : LO} {a : Addr} (s : H' a = H a) (r : RO K mg H ρ o a) : RO K mg H' ρ' o a := r.up0 e.to0 s
theorem RO.some {o : LO} {a : Addr} (r : RO K mg H ρ o a) : ∃ u, H a = some u := by
  cases o with
  | lst xs => obtain ⟨vs, h, r⟩ := r; exact ⟨_, h⟩
  | dct tk kvs =>
    cases tk with
    | false => obtain ⟨kv, h, r⟩ := r; exact ⟨_, h⟩
    | true => obtain ⟨kv, h, r⟩ := r; exact ⟨_, h⟩
  | ins c fs => obtain ⟨C, dx, fs', hc, h, r⟩ := r; exact ⟨_, h⟩
  | fdc tk kvs =>
    cases tk with
    | false => obtain ⟨od, kv, h, r⟩ := r; exact ⟨_, h⟩
    | true => obtain ⟨od, kv, h, r⟩ := r; exact ⟨_, h⟩
theorem RH.at (r : RH K mg ρ h H) {l : Nat} {a : Addr} (e : ρ[l]? = some a) : ∃ o, h[l]? = some o ∧ RO K mg H ρ o a := by
  have hl : l < h.length := by
    rw [← r.len]
    exact (List.getElem?_eq_some_iff.mp e).1
  exact ⟨h[l], List.getElem?_eq_getElem hl, r.obj l _ a (List.getElem?_eq_getElem hl) e⟩
theorem RH.addr (r : RH K mg ρ h H) {l : Nat} {o : LO} (e : h[l]? = some o) : ∃ a, ρ[l]? = some a ∧ RO K mg H ρ o a := by
  have hl : l < ρ.length := by
    rw [r.len]
    exact (List.getElem?_eq_some_iff.mp e).1
  exact ⟨ρ[l], List.getElem?_eq_getElem hl, r.obj l o _ e (List.getElem?_eq_getElem hl)⟩
theorem RH.fresh (r : RH K mg ρ h H) {p : Addr} (n : H p = none) {l : Nat} {a : Addr} (e : ρ[l]? = some a) : a ≠ p := by
  obtain ⟨o, _, ro⟩ := r.at e
  obtain ⟨u, hu⟩ := ro.some
  exact fun z => by rw [z, n] at hu; cases hu
theorem ext_new {p : Addr} {o : HO} (n : H p = none) : Ext ρ H ρ (upd H p o) := ⟨fun _ _ e => e, fun a u e _ => by rw [upd_ne (ne_of_none e n)]; exact e⟩
/-- a new value object (a tuple ..) -/
theorem RH.imm (r : RH K mg ρ h H) {p : Addr} {o : HO} (n : H p = none) : RH K mg ρ h (upd H p o) :=
  ⟨r.len, r.nd, fun l u a e1 e2 => (r.obj l u a e1 e2).up (ext_new n) (upd_ne (r.fresh n e2))⟩
theorem ext_push {p : Addr} {o : HO} (n : H p = none) : Ext ρ H (ρ ++ [p]) (upd H p o) :=
  ⟨fun l a e => by rw [List.getElem?_append_left (List.getElem?_eq_some_iff.mp e).1]; exact e, (ext_new (ρ := ρ) n).imm⟩
/-- a new object -/
theorem RH.new (r : RH K mg ρ h H) {p : Addr} {o : HO} {u : LO} (n : H p = none) (ro : RO K mg (upd H p o) (ρ ++ [p]) u p) : RH K mg (ρ ++ [p]) (h ++ [u]) (upd H p o) := by
  refine ⟨by simp [r.len], fun i j a e1 e2 => ?_, fun l w a e1 e2 => ?_⟩
  · by_cases hi : i < ρ.length
    · rw [List.getElem?_append_left hi] at e1
      by_cases hj : j < ρ.length
      · rw [List.getElem?_append_left hj] at e2
        exact r.nd i j a e1 e2
      · rw [List.getElem?_append_right (by omega)] at e2
        have e3 : a = p := by
          have := List.mem_of_getElem? e2
          simpa using this
        exact absurd e3 (r.fresh n e1)
    · rw [List.getElem?_append_right (by omega)] at e1
      have hi2 : i - ρ.length < 1 := (List.getElem?_eq_some_iff.mp e1).1
      have e3 : a = p := by
        have := List.mem_of_getElem? e1
        simpa using this
      by_cases hj : j < ρ.length
      · rw [List.getElem?_append_left hj] at e2
        exact absurd e3 (r.fresh n e2)
      · rw [List.getElem?_append_right (by omega)] at e2
        have hj2 : j - ρ.length < 1 := (List.getElem?_eq_some_iff.mp e2).1
        omega
  · by_cases hl : l < ρ.length
    · rw [List.getElem?_append_left hl] at e2
      rw [List.getElem?_append_left (by rw [← r.len]; exact hl)] at e1
      exact (r.obj l w a e1 e2).up (ext_push n) (upd_ne (r.fresh n e2))
    · rw [List.getElem?_append_right (by omega)] at e2
      rw [List.getElem?_append_right (by rw [← r.len]; omega)] at e1
      have e3 : a = p := by
        have := List.mem_of_getElem? e2
        simpa using this
      have e4 : w = u := by
        have := List.mem_of_getElem? e1
        simpa using this
      subst e3; subst e4
      exact ro
theorem ext_set (r : RH K mg ρ h H) {l : Nat} {a : Addr} {o : HO} (e : ρ[l]? = some a) (im : ∃ w, H a = some w ∧ Imm w = false := by exact ⟨_, by assumption, rfl⟩) : Ext ρ H ρ (upd H a o) := by
  obtain ⟨w, hw, im⟩ := im
  exact ⟨fun _ _ z => z, fun b q z i => by
    rw [upd_ne (ne_of z hw (fun z2 => by rw [z2, im] at i; cases i))]
    exact z⟩
/-- an object is changed -/
theorem RH.set (r : RH K mg ρ h H) {l : Nat} {a : Addr} {o : HO} {u : LO} (e : ρ[l]? = some a) (ro : RO K mg (upd H a o) ρ u a) (im : ∃ w, H a = some w ∧ Imm w = false := by exact ⟨_, by assumption, rfl⟩) : RH K mg ρ (h.set l u) (upd H a o) := by
  refine ⟨by simp [r.len], r.nd, fun k w b e1 e2 => ?_⟩
  by_cases hk : k = l
  · subst hk
    rw [e] at e2; cases e2
    have hl : k < h.length := by
      rw [← r.len]
      exact (List.getElem?_eq_some_iff.mp e).1
    rw [List.getElem?_set_self hl] at e1
    cases e1
    exact ro
  · rw [List.getElem?_set_ne (Ne.symm hk)] at e1
    have nb : b ≠ a := fun z => hk (r.nd k l b e2 (by rw [z]; exact e))
    exact (r.obj k w b e1 e2).up (ext_set r e im) (upd_ne nb)
theorem RVs.length : ∀ {v : List LV} {x : List V}, RVs K mg H ρ v x → v.length = x.length
  | [], _, r => by cases r; rfl
  | v :: vs, _, r => by
    cases r with
    | cons r t => simp [RVs.length t]
theorem RVs.get : ∀ {v : List LV} {x : List V} {i : Nat} {y : LV}, RVs K mg H ρ v x → v[i]? = some y → ∃ z, x[i]? = some z ∧ RV K mg H ρ y z
  | [], _, _, _, _, e => by simp at e
  | v :: vs, _, i, y, r, e => by
    cases r with
    | cons r t =>
      cases i with
      | zero => simp at e; subst e; exact ⟨_, rfl, r⟩
      | succ i => simpa using RVs.get t (by simpa using e)
theorem RVs.get' : ∀ {v : List LV} {x : List V} {i : Nat} {z : V}, RVs K mg H ρ v x → x[i]? = some z → ∃ y, v[i]? = some y ∧ RV K mg H ρ y z
  | [], _, _, _, r, e => by cases r; simp at e
  | v :: vs, _, i, z, r, e => by
    cases r with
    | cons r t =>
      cases i with
      | zero => simp at e; subst e; exact ⟨_, rfl, r⟩
      | succ i => simpa using RVs.get' t (by simpa using e)
theorem RVs.append : ∀ {v w : List LV} {x y : List V}, RVs K mg H ρ v x → RVs K mg H ρ w y → RVs K mg H ρ (v ++ w) (x ++ y)
  | [], _, _, _, r, s => by cases r; exact s
  | v :: vs, _, _, _, r, s => by
    cases r with
    | cons r t => exact .cons r (RVs.append t s)
theorem RVs.take : ∀ {v : List LV} {x : List V} (n : Nat), RVs K mg H ρ v x → RVs K mg H ρ (v.take n) (x.take n)
  | _, _, 0, _ => by simp; exact .nil
  | [], _, n + 1, r => by cases r; exact .nil
  | v :: vs, _, n + 1, r => by
    cases r with
    | cons r t => exact .cons r (RVs.take n t)
theorem RVs.drop : ∀ {v : List LV} {x : List V} (n : Nat), RVs K mg H ρ v x → RVs K mg H ρ (v.drop n) (x.drop n)
  | _, _, 0, r => r
  | [], _, n + 1, r => by cases r; exact .nil
  | v :: vs, _, n + 1, r => by
    cases r with
    | cons r t => exact RVs.drop n t
theorem RVs.set : ∀ {v : List LV} {x : List V} {y : LV} {z : V} (n : Nat), RVs K mg H ρ v x → RV K mg H ρ y z → RVs K mg H ρ (v.set n y) (x.set n z)
  | [], _, _, _, _, r, _ => by cases r; exact .nil
  | v :: vs, _, _, _, n, r, s => by
    cases r with
    | cons r t =>
      cases n with
      | zero => exact .cons s t
      | succ n => exact .cons r (RVs.set n t s)
theorem RSt.get : ∀ {v : LSt} {x : L2.St} {i : Nat} {y : LV}, RSt K mg H ρ v x → v[i]? = some (some y) → ∃ z, x[i]? = some (some z) ∧ RV K mg H ρ y z
  | _, _, _, _, .nil, e => by simp at e
  | _, _, i, y, .cons (b := b) r t, e => by
    cases i with
    | zero =>
      simp at e; subst e
      cases b with
      | none => exact r.elim
      | some z => exact ⟨z, rfl, r⟩
    | succ i => simpa using RSt.get (show RSt K mg H ρ _ _ from t) (by simpa using e)
theorem RSt.set : ∀ {v : LSt} {x : L2.St} {y : LV} {z : V} (n : Nat), RSt K mg H ρ v x → RV K mg H ρ y z → RSt K mg H ρ (v.set n (some y)) (x.set n (some z))
  | _, _, _, _, _, .nil, _ => .nil
  | _, _, _, _, 0, .cons _ t, s => .cons s t
  | _, _, _, _, n + 1, .cons r t, s => .cons r (RSt.set n (show RSt K mg H ρ _ _ from t) s)
theorem RSt.setN : ∀ {v : LSt} {x : L2.St} {z : Option V} (n : Nat), RSt K mg H ρ v x → RSt K mg H ρ (v.set n none) (x.set n z)
  | _, _, _, _, .nil => .nil
  | _, _, _, 0, .cons _ t => .cons trivial t
  | _, _, _, n + 1, .cons r t => .cons r (RSt.setN n (show RSt K mg H ρ _ _ from t))
end

/-! ### what is wanted behind -/
section
variable (K : PySem.W.Frag) (mg : Str → Option Value)
def Post {α β : Type} (rel : Hp → List Addr → α → β → Prop) (W : XK) (ρ : List Addr) (H : Hp) (Q : β → Hp → Prop) : RE α → Prop
  | .ok v h' => ∀ ρ' H' x, Ext ρ H ρ' H' → RH K mg ρ' h' H' → rel H' ρ' v x → Q x H'
  | .exc c fs h' => ∀ ρ' H' C d, Ext ρ H ρ' H' → RH K mg ρ' h' H' → RX K mg H' ρ' c fs C d → W C d H'
  | .bad => False
def relB : Hp → List Addr → Bool → Bool → Prop := fun _ _ a b => a = b
def PostS (W : WX) (D : Ends) (ρ : List Addr) (H : Hp) : RS → Prop
  | .nx s h' => ∀ ρ' H' σ', Ext ρ H ρ' H' → RH K mg ρ' h' H' → RSt K mg H' ρ' s σ' → D.nx σ' H'
  | .rt v h' => ∀ ρ' H' x, Ext ρ H ρ' H' → RH K mg ρ' h' H' → RV K mg H' ρ' v x → D.rt x H'
  | .bk s h' => ∀ ρ' H' σ', Ext ρ H ρ' H' → RH K mg ρ' h' H' → RSt K mg H' ρ' s σ' → D.bk σ' H'
  | .ct s h' => ∀ ρ' H' σ', Ext ρ H ρ' H' → RH K mg ρ' h' H' → RSt K mg H' ρ' s σ' → D.ct σ' H'
  | .exc c fs s h' => ∀ ρ' H' σ' C d, Ext ρ H ρ' H' → RH K mg ρ' h' H' → RSt K mg H' ρ' s σ' → RX K mg H' ρ' c fs C d → W C d σ' H'
  | .bad => False
def tE (W : WX) (m : LE) : TE := fun σ H Q => ∃ s ρ h, RSt K mg H ρ s σ ∧ RH K mg ρ h H ∧ Post K mg (RV K mg) (fun C d H' => W C d σ H') ρ H Q (m s h)
def tT (W : WX) (m : LT) : TT := fun σ H Q => ∃ s ρ h, RSt K mg H ρ s σ ∧ RH K mg ρ h H ∧ Post K mg relB (fun C d H' => W C d σ H') ρ H Q (m s h)
def tA (W : WX) (m : LA) : TA := fun σ H Q => ∃ s ρ h, RSt K mg H ρ s σ ∧ RH K mg ρ h H ∧ Post K mg (RVs K mg) (fun C d H' => W C d σ H') ρ H Q (m s h)
def tS (W : WX) (m : LS) : TS := fun D σ H => ∃ s ρ h, RSt K mg H ρ s σ ∧ RH K mg ρ h H ∧ PostS K mg W D ρ H (m s h)
def spOf (n : Nat) (m : List LV → M LV) : Sp := fun vs H Q E => ∃ s ρ h, s.length = n ∧ RVs K mg H ρ s vs ∧ RH K mg ρ h H ∧ Post K mg (RV K mg) E ρ H Q (m s h)
end

section
variable {K : PySem.W.Frag} {mg : Str → Option Value} {H H' H1 H2 : Hp} {ρ ρ' ρ1 ρ2 : List Addr} {h h' : LH} {α β γ : Type}
theorem Post.up {rel : Hp → List Addr → α → β → Prop} {W : XK} {Q : β → Hp → Prop} {r : RE α} (e : Ext ρ H ρ1 H1) (p : Post K mg rel W ρ H Q r) : Post K mg rel W ρ1 H1 Q r := by
  cases r with
  | ok v h' => exact fun ρ' H' x e' => p ρ' H' x (e.trans e')
  | exc c fs h' => exact fun ρ' H' C d e' => p ρ' H' C d (e.trans e')
  | bad => exact p
theorem PostS.up {W : WX} {D : Ends} {r : RS} (e : Ext ρ H ρ1 H1) (p : PostS K mg W D ρ H r) : PostS K mg W D ρ1 H1 r := by
  cases r with
  | nx v h' => exact fun ρ' H' x e' => p ρ' H' x (e.trans e')
  | rt v h' => exact fun ρ' H' x e' => p ρ' H' x (e.trans e')
  | bk v h' => exact fun ρ' H' x e' => p ρ' H' x (e.trans e')
  | ct v h' => exact fun ρ' H' x e' => p ρ' H' x (e.trans e')
  | exc c fs s h' => exact fun ρ' H' x C d e' => p ρ' H' x C d (e.trans e')
  | bad => exact p
/-- a step ahead of another -/
theorem post_bnd {rel : Hp → List Addr → α → β → Prop} {γ' : Type} {rel' : Hp → List Addr → γ → γ' → Prop} {W : XK} {Q : γ' → Hp → Prop} {R : β → Hp → Prop} {m : M α} {f : α → M γ} (p : Post K mg rel' W ρ H Q (bnd m f h))
    (k : ∀ v h1 ρ1 H1 x, Ext ρ H ρ1 H1 → RH K mg ρ1 h1 H1 → rel H1 ρ1 v x → Post K mg rel' W ρ1 H1 Q (f v h1) → R x H1) : Post K mg rel W ρ H R (m h) := by
  unfold bnd at p
  cases e : m h with
  | ok v h1 =>
    rw [e] at p
    exact fun ρ1 H1 x e1 r1 rv => k v h1 ρ1 H1 x e1 r1 rv (Post.up e1 p)
  | exc c fs h1 =>
    rw [e] at p
    exact p
  | bad =>
    rw [e] at p
    exact p
theorem Post.now {rel : Hp → List Addr → α → β → Prop} {W : XK} {Q : β → Hp → Prop} {v : α} {x : β} (p : Post K mg rel W ρ H Q (.ok v h)) (r : RH K mg ρ h H) (rv : rel H ρ v x) : Q x H := p ρ H x Ext.refl r rv
end
end Fw

set_option maxRecDepth 100000
set_option maxHeartbeats 4000000
namespace Fw
open PySem PySem.Spec PyProof.Rows L2

/-! ### judgements may be weakened -/
section
variable {X : Cx}
theorem pe_imp {e : Expr} {t t' : TE} (p : PE X e t) (h : ∀ σ H Q, t' σ H Q → t σ H Q) : PE X e t' := ⟨fun pins s σ H Q I q => p.run pins s σ H Q I (h σ H Q q)⟩
theorem pt_imp {e : Expr} {t t' : TT} (p : PT X e t) (h : ∀ σ H Q, t' σ H Q → t σ H Q) : PT X e t' := ⟨fun pins s σ H Q I q => p.run pins s σ H Q I (h σ H Q q)⟩
theorem pw_imp {e : Expr} {t t' : TT} (p : PW X e t) (h : ∀ σ H Q, t' σ H Q → t σ H Q) : PW X e t' := ⟨fun wh pins s σ H Q I q => p.run wh pins s σ H Q I (h σ H Q q)⟩
theorem pa_imp {e : List Expr} {t t' : TA} (p : PA X e t) (h : ∀ σ H Q, t' σ H Q → t σ H Q) : PA X e t' := ⟨fun pos pins s σ H Q I q => p.run pos pins s σ H Q I (h σ H Q q)⟩
theorem ps_imp {e : Stmt} {t t' : TS} (p : PS X e t) (h : ∀ D σ H, t' D σ H → t D σ H) : PS X e t' := ⟨fun pins s σ H D I q => p.run pins s σ H D I (h D σ H q)⟩
theorem pss_imp {e : List Stmt} {t t' : TS} (p : PSs X e t) (h : ∀ D σ H, t' D σ H → t D σ H) : PSs X e t' := ⟨fun pins s σ H D I q => p.run pins s σ H D I (h D σ H q)⟩
theorem pg_imp {e : Expr} {t t' : TG} (p : PG X e t) (h : ∀ x σ H Q, t' x σ H Q → t x σ H Q) : PG X e t' := ⟨fun pins s σ H v u Q I r q => p.run pins s σ H v u Q I r (h v σ H Q q)⟩
theorem pi_imp {tg e : Expr} {t t' : TI} (p : PI X tg e t) (h : ∀ σ H Q, t' σ H Q → t σ H Q) : PI X tg e t' := ⟨fun pins s σ H Q I q => p.run pins s σ H Q I (h σ H Q q)⟩
theorem pi_or {tg e : Expr} {t t' : TI} (p : PI X tg e t) (p' : PI X tg e t') : PI X tg e (fun σ H R => t σ H R ∨ t' σ H R) := ⟨fun pins s σ H Q I q => q.elim (p.run pins s σ H Q I) (p'.run pins s σ H Q I)⟩
theorem pe_alt {e : Expr} {t t' : TE} (p : PE X e t) (p' : PE X e t') : PE X e (fun σ H Q => t σ H Q ∨ t' σ H Q) := ⟨fun pins s σ H Q I q => q.elim (p.run pins s σ H Q I) (p'.run pins s σ H Q I)⟩
theorem pg_alt {e : Expr} {t t' : TG} (p : PG X e t) (p' : PG X e t') : PG X e (fun x σ H Q => t x σ H Q ∨ t' x σ H Q) := ⟨fun pins s σ H v u Q I r q => q.elim (p.run pins s σ H v u Q I r) (p'.run pins s σ H v u Q I r)⟩
end
abbrev SE (X : Cx) (W : WX) (e : Expr) (m : LE) : Prop := PE X e (tE X.K X.mg W m)
abbrev ST (X : Cx) (W : WX) (e : Expr) (m : LT) : Prop := PT X e (tT X.K X.mg W m)
abbrev SW (X : Cx) (W : WX) (e : Expr) (m : LT) : Prop := PW X e (tT X.K X.mg W m)
abbrev SA (X : Cx) (W : WX) (e : List Expr) (m : LA) : Prop := PA X e (tA X.K X.mg W m)
abbrev SS (X : Cx) (W : WX) (e : Stmt) (m : LS) : Prop := PS X e (tS X.K X.mg W m)
abbrev SSs (X : Cx) (W : WX) (e : List Stmt) (m : LS) : Prop := PSs X e (tS X.K X.mg W m)

section
variable {K : PySem.W.Frag} {mg : Str → Option Value} {W : WX} {σ : L2.St} {H : Hp} {ρ : List Addr} {s : LSt} {h : LH} {γ γ' : Type} {rel' : Hp → List Addr → γ → γ' → Prop} {Q : γ' → Hp → Prop}
theorem seqE {ma : LE} {f : LV → M γ} {R : VK} (rs : RSt K mg H ρ s σ) (rh : RH K mg ρ h H) (p : Post K mg rel' (fun C d H' => W C d σ H') ρ H Q (bnd (ma s) f h))
    (k : ∀ v h1 ρ1 H1 x, Ext ρ H ρ1 H1 → RH K mg ρ1 h1 H1 → RV K mg H1 ρ1 v x → RSt K mg H1 ρ1 s σ → Post K mg rel' (fun C d H' => W C d σ H') ρ1 H1 Q (f v h1) → R x H1) : tE K mg W ma σ H R :=
  ⟨s, ρ, h, rs, rh, post_bnd p fun v h1 ρ1 H1 x e r rv p1 => k v h1 ρ1 H1 x e r rv (rs.up e) p1⟩
theorem seqT {ma : LT} {f : Bool → M γ} {R : Bool → Hp → Prop} (rs : RSt K mg H ρ s σ) (rh : RH K mg ρ h H) (p : Post K mg rel' (fun C d H' => W C d σ H') ρ H Q (bnd (ma s) f h))
    (k : ∀ v h1 ρ1 H1, Ext ρ H ρ1 H1 → RH K mg ρ1 h1 H1 → RSt K mg H1 ρ1 s σ → Post K mg rel' (fun C d H' => W C d σ H') ρ1 H1 Q (f v h1) → R v H1) : tT K mg W ma σ H R :=
  ⟨s, ρ, h, rs, rh, post_bnd p fun v h1 ρ1 H1 x e r rv p1 => by cases (show v = x from rv); exact k v h1 ρ1 H1 e r (rs.up e) p1⟩
theorem seqA {ma : LA} {f : List LV → M γ} {R : List V → Hp → Prop} (rs : RSt K mg H ρ s σ) (rh : RH K mg ρ h H) (p : Post K mg rel' (fun C d H' => W C d σ H') ρ H Q (bnd (ma s) f h))
    (k : ∀ v h1 ρ1 H1 x, Ext ρ H ρ1 H1 → RH K mg ρ1 h1 H1 → RVs K mg H1 ρ1 v x → RSt K mg H1 ρ1 s σ → Post K mg rel' (fun C d H' => W C d σ H') ρ1 H1 Q (f v h1) → R x H1) : tA K mg W ma σ H R :=
  ⟨s, ρ, h, rs, rh, post_bnd p fun v h1 ρ1 H1 x e r rv p1 => k v h1 ρ1 H1 x e r rv (rs.up e) p1⟩
end

/-! ### meanings of expressions -/
def varM (i : Nat) : LE := fun s h => match s[i]? with
  | some (some v) => .ok v h
  | _ => .bad
def cst (v : LV) : LE := fun _ h => .ok v h
def opM (f : LV → LV → M LV) (a b : LE) : LE := fun s => bnd (a s) fun v => bnd (b s) fun u => f v u
def unM (f : LV → M LV) (a : LE) : LE := fun s => bnd (a s) f
def asB : LV → M Bool
  | .bl b => ret b
  | _ => bad
def tstM (m : LE) : LT := fun s => bnd (m s) asB
def andT (a b : LT) : LT := fun s => bnd (a s) fun c => if c = true then b s else ret false
def orT (a b : LT) : LT := fun s => bnd (a s) fun c => if c = true then ret true else b s
def notT (a : LT) : LT := fun s => bnd (a s) fun c => ret (!c)
def andV (a b : LE) : LE := fun s => bnd (a s) fun v => bnd (asB v) fun c => if c = true then b s else ret (.bl false)
def orV (a b : LE) : LE := fun s => bnd (a s) fun v => bnd (asB v) fun c => if c = true then ret (.bl true) else b s
def notV (a : LE) : LE := fun s => bnd (a s) fun v => bnd (asB v) fun c => ret (.bl (!c))
def ifE (c : LT) (a b : LE) : LE := fun s => bnd (c s) fun k => if k = true then a s else b s
def aNil : LA := fun _ => ret []
def aCons (a : LE) (r : LA) : LA := fun s => bnd (a s) fun v => bnd (r s) fun vs => ret (v :: vs)
def tupM (a : LA) : LE := fun s => bnd (a s) fun vs => ret (.tup vs)
def lstM (a : LA) : LE := fun s => bnd (a s) fun vs h => .ok (.ref h.length) (h ++ [.lst vs])
def callM (f : List LV → M LV) (a : LA) : LE := fun s => bnd (a s) f
/-- how many values an argument list gives -/
def ALen (a : LA) (n : Nat) : Prop := ∀ s h vs h', a s h = .ok vs h' → vs.length = n
theorem alen_nil : ALen aNil 0 := fun s h vs h' e => by
  have e' : RE.ok [] h = RE.ok vs h' := e
  cases e'; rfl
theorem alen_cons {a : LE} {r : LA} {n : Nat} (hr : ALen r n) : ALen (aCons a r) (n + 1) := fun s h vs h' e => by
  unfold aCons bnd at e
  cases ea : a s h with
  | ok v h1 =>
    rw [ea] at e
    dsimp only at e
    cases er : r s h1 with
    | ok us h2 =>
      rw [er] at e
      have e' : RE.ok (v :: us) h2 = RE.ok vs h' := e
      cases e'
      simp [hr _ _ _ _ er]
    | exc c fs h2 => rw [er] at e; cases e
    | bad => rw [er] at e; cases e
  | exc c fs h1 => rw [ea] at e; cases e
  | bad => rw [ea] at e; cases e

/-! ### rules for expressions -/
section
variable {X : Cx} {W : WX} {a b c e : Expr} {es rest : List Expr} {ma mb mc : LE} {ta tb tc : LT} {pos : Pos}
theorem se_var {i : Nat} {x : Str} (p : PE X (.Name x pos) (tVar i)) : SE X W (.Name x pos) (varM i) := by
  refine pe_imp p fun σ H Q ⟨s, ρ, h, rs, rh, p⟩ => ?_
  unfold varM at p
  cases e : s[i]? with
  | none => rw [e] at p; exact p.elim
  | some o =>
    cases o with
    | none => rw [e] at p; exact p.elim
    | some v =>
      rw [e] at p
      obtain ⟨z, ez, rz⟩ := rs.get e
      exact ⟨z, ez, p.now rh rz⟩
theorem se_cst {v : LV} {x : V} (p : PE X e (tC x)) (r : ∀ H ρ, RV X.K X.mg H ρ v x) : SE X W e (cst v) := pe_imp p fun σ H Q ⟨s, ρ, h, rs, rh, p⟩ => p.now rh (r H ρ)
theorem se_int {i : Int} {j} : SE X W (.Constant (.int i) j pos) (cst (.int i)) := se_cst pe_int fun _ _ => .int i
theorem se_bl {i : Bool} {j} : SE X W (.Constant (.bool i) j pos) (cst (.bl i)) := se_cst pe_bl fun _ _ => .bl i
theorem se_str {i : Str} {j} : SE X W (.Constant (.str i) j pos) (cst (.str i)) := se_cst pe_str fun _ _ => .str i
theorem se_non {j} : SE X W (.Constant .none j pos) (cst .non) := se_cst pe_non fun _ _ => .non
theorem se_gint {x : Str} {i : Int} {t : Tok} (hg : Gl X x) (hm : X.mg x = some (.int i t)) (hd : (x == ("__debug__" : Str)) = false := by decide) : SE X W (.Name x pos) (cst (.int i)) := se_cst (pe_glob (v := .int i) hg hm ⟨t, rfl⟩ hd) fun _ _ => .int i
theorem se_gfn {x : Str} {f : Addr} (hg : Gl X x) (hm : X.mg x = some (.ref f)) (hd : (x == ("__debug__" : Str)) = false := by decide) : SE X W (.Name x pos) (cst (.fn x)) := se_cst (pe_glob hg hm (show RelV (.ref f) (.ref f) from rfl) hd) fun _ _ => .fn hm
/-- a two-place operation: what the layer's reading asks, from the plain one -/
def BinS (X : Cx) (f : LV → LV → M LV) (r : R2) : Prop := ∀ v u x y ρ h H (E : XK) (Q : VK), RH X.K X.mg ρ h H → RV X.K X.mg H ρ v x → RV X.K X.mg H ρ u y → Post X.K X.mg (RV X.K X.mg) E ρ H Q (f v u h) → r x y H Q
def UnS (X : Cx) (f : LV → M LV) (r : V → Hp → VK → Prop) : Prop := ∀ v x ρ h H (E : XK) (Q : VK), RH X.K X.mg ρ h H → RV X.K X.mg H ρ v x → Post X.K X.mg (RV X.K X.mg) E ρ H Q (f v h) → r x H Q
def CalS (X : Cx) (f : List LV → M LV) (r : List V → Hp → VK → Prop) : Prop := ∀ v x ρ h H (E : XK) (Q : VK), RH X.K X.mg ρ h H → RVs X.K X.mg H ρ v x → Post X.K X.mg (RV X.K X.mg) E ρ H Q (f v h) → r x H Q
theorem op_read {f : LV → LV → M LV} {r : R2} (hf : BinS X f r) {σ : L2.St} {H : Hp} {Q : VK} (t : tE X.K X.mg W (opM f ma mb) σ H Q) : tOp r (tE X.K X.mg W ma) (tE X.K X.mg W mb) σ H Q := by
  obtain ⟨s, ρ, h, rs, rh, p⟩ := t
  exact seqE rs rh p fun v h1 ρ1 H1 x e1 rh1 rv rs1 p1 => seqE rs1 rh1 p1 fun u h2 ρ2 H2 y e2 rh2 ru rs2 p2 => hf v u x y ρ2 h2 H2 _ Q rh2 (rv.up e2) ru p2
theorem se_op {op : Operator} {f : LV → LV → M LV} {r : R2} (ho : OpR X (binaryOp op) r) (hf : BinS X f r) (ha : SE X W a ma) (hb : SE X W b mb) : SE X W (.BinOp a op b pos) (opM f ma mb) :=
  pe_imp (pe_op ho ha hb) fun _ _ _ t => op_read hf t
theorem se_cmp {op : CmpOp} {f : LV → LV → M LV} {r : R2} (ho : OpR X (compareOp op) r) (hf : BinS X f r) (hm : behindInMarks op b = false) (ha : SE X W a ma) (hb : SE X W b mb) : SE X W (.Compare a [op] [b] pos) (opM f ma mb) :=
  pe_imp (pe_cmpR ho ha hb hm) fun _ _ _ t => op_read hf t
theorem tst_read {σ : L2.St} {H : Hp} {Q : Bool → Hp → Prop} (t : tT X.K X.mg W (tstM ma) σ H Q) : tE X.K X.mg W ma σ H fun x H' => ∃ k, x = .bl k ∧ Q k H' := by
  obtain ⟨s, ρ, h, rs, rh, p⟩ := t
  refine seqE rs rh p fun v h1 ρ1 H1 x e1 rh1 rv rs1 p1 => ?_
  cases v with
  | bl b => cases rv; exact ⟨b, rfl, Post.now p1 rh1 rfl⟩
  | _ => exact (show False from p1).elim
theorem tst_opread {f : LV → LV → M LV} {r : R2} (hf : BinS X f r) {σ : L2.St} {H : Hp} {Q : Bool → Hp → Prop} (t : tT X.K X.mg W (tstM (opM f ma mb)) σ H Q) : tTest (tOp r (tE X.K X.mg W ma) (tE X.K X.mg W mb)) σ H Q := op_read hf (tst_read t)
theorem st_cmp {op : CmpOp} {f : LV → LV → M LV} {r : R2} (ho : OpR X (compareOp op) r) (hf : BinS X f r) (hm : behindInMarks op b = false) (ha : SE X W a ma) (hb : SE X W b mb) : ST X W (.Compare a [op] [b] pos) (tstM (opM f ma mb)) :=
  pt_imp (pt_cmpR ho ha hb hm) fun _ _ _ t => tst_opread hf t
theorem st_val (h : SE X W e ma) (he : ∀ whole, isTrue e X.env whole = (do let v ← whole; standAt e.pos; holding [v] (truthy v)) := by intro _; rfl) : ST X W e (tstM ma) :=
  pt_imp (pt_val h he) fun _ _ _ t => tst_read t
theorem se_un {op : UnaryOp} {f : LV → M LV} {r : V → Hp → VK → Prop} (ho : UnR X (unaryOp op) r) (hf : UnS X f r) (ha : SE X W a ma) : SE X W (.UnaryOp op a pos) (unM f ma) := by
  refine pe_imp (pe_un ho ha) fun σ H Q ⟨s, ρ, h, rs, rh, p⟩ => ?_
  exact seqE rs rh p fun v h1 ρ1 H1 x e1 rh1 rv rs1 p1 => hf v x ρ1 h1 H1 _ Q rh1 rv p1
theorem ite_read {σ : L2.St} {H : Hp} {ρ : List Addr} {s : LSt} {h : LH} {R : Prop} {c : Bool} {x y : M γ} {Q : γ' → Hp → Prop} {rel' : Hp → List Addr → γ → γ' → Prop} {E : XK} (p : Post X.K X.mg rel' E ρ H Q ((if c = true then x else y) h)) (h1 : c = true → Post X.K X.mg rel' E ρ H Q (x h) → R) (h2 : c = false → Post X.K X.mg rel' E ρ H Q (y h) → R) : R := by
  cases c with
  | true => exact h1 rfl (by simpa using p)
  | false => exact h2 rfl (by simpa using p)
theorem sw_and1 (ha : ST X W a ta) : SW X W (.BoolOp .And [a] pos) ta := pw_and1 ha
theorem sw_or1 (ha : ST X W a ta) : SW X W (.BoolOp .Or [a] pos) ta := pw_or1 ha
theorem sw_and (ha : ST X W a ta) (hb : SW X W (.BoolOp .And (b :: rest) pos) tb) : SW X W (.BoolOp .And (a :: b :: rest) pos) (andT ta tb) := by
  refine pw_imp (pw_and ha hb) fun σ H Q ⟨s, ρ, h, rs, rh, p⟩ => ?_
  refine seqT rs rh p fun c h1 ρ1 H1 e1 rh1 rs1 p1 => ?_
  cases c with
  | true => exact ⟨s, ρ1, h1, rs1, rh1, p1⟩
  | false => exact Post.now p1 rh1 rfl
theorem sw_or (ha : ST X W a ta) (hb : SW X W (.BoolOp .Or (b :: rest) pos) tb) : SW X W (.BoolOp .Or (a :: b :: rest) pos) (orT ta tb) := by
  refine pw_imp (pw_or ha hb) fun σ H Q ⟨s, ρ, h, rs, rh, p⟩ => ?_
  refine seqT rs rh p fun c h1 ρ1 H1 e1 rh1 rs1 p1 => ?_
  cases c with
  | false => exact ⟨s, ρ1, h1, rs1, rh1, p1⟩
  | true => exact Post.now p1 rh1 rfl
theorem st_w (h : SW X W e ta) : ST X W e ta := h.pt
theorem st_not (ha : ST X W a ta) : ST X W (.UnaryOp .Not a pos) (notT ta) := by
  refine pt_imp (pt_not ha) fun σ H Q ⟨s, ρ, h, rs, rh, p⟩ => ?_
  exact seqT rs rh p fun c h1 ρ1 H1 e1 rh1 rs1 p1 => Post.now p1 rh1 rfl
theorem se_one {op} (h : SE X W a ma) : SE X W (.BoolOp op [a] pos) ma := pe_one h
theorem asB_read {σ : L2.St} {H : Hp} {ρ : List Addr} {h : LH} {γ γ' : Type} {Q : γ' → Hp → Prop} {rel' : Hp → List Addr → γ → γ' → Prop} {E : XK} {v : LV} {x : V} {f : Bool → M γ} {R : Prop} (rv : RV X.K X.mg H ρ v x) (p : Post X.K X.mg rel' E ρ H Q (bnd (asB v) f h))
    (k : ∀ c, x = .bl c → v = .bl c → Post X.K X.mg rel' E ρ H Q (f c h) → R) : R := by
  cases v with
  | bl b => cases rv; exact k b rfl rfl p
  | _ => exact (show False from p).elim
theorem se_and (ha : SE X W a ma) (hb : SE X W (.BoolOp .And (b :: rest) pos) mb) : SE X W (.BoolOp .And (a :: b :: rest) pos) (andV ma mb) := by
  refine pe_imp (pe_and ha hb) fun σ H Q ⟨s, ρ, h, rs, rh, p⟩ => ?_
  refine seqE rs rh p fun v h1 ρ1 H1 x e1 rh1 rv rs1 p1 => asB_read (σ := σ) rv p1 fun c ex _ p2 => ⟨c, ex, ?_⟩
  cases c with
  | true => exact ⟨s, ρ1, h1, rs1, rh1, p2⟩
  | false => exact Post.now p2 rh1 (.bl false)
theorem se_or (ha : SE X W a ma) (hb : SE X W (.BoolOp .Or (b :: rest) pos) mb) : SE X W (.BoolOp .Or (a :: b :: rest) pos) (orV ma mb) := by
  refine pe_imp (pe_or ha hb) fun σ H Q ⟨s, ρ, h, rs, rh, p⟩ => ?_
  refine seqE rs rh p fun v h1 ρ1 H1 x e1 rh1 rv rs1 p1 => asB_read (σ := σ) rv p1 fun c ex _ p2 => ⟨c, ex, ?_⟩
  cases c with
  | false => exact ⟨s, ρ1, h1, rs1, rh1, p2⟩
  | true => exact Post.now p2 rh1 (.bl true)
theorem se_not (ha : SE X W a ma) : SE X W (.UnaryOp .Not a pos) (notV ma) := by
  refine pe_imp (pe_not ha) fun σ H Q ⟨s, ρ, h, rs, rh, p⟩ => ?_
  exact seqE rs rh p fun v h1 ρ1 H1 x e1 rh1 rv rs1 p1 => asB_read (σ := σ) rv p1 fun c ex _ p2 => ⟨c, ex, Post.now p2 rh1 (.bl (!c))⟩
theorem se_if (hc : ST X W c tc) (ha : SE X W a ma) (hb : SE X W b mb) : SE X W (.IfExp c a b pos) (ifE tc ma mb) := by
  refine pe_imp (pe_ifExp hc ha hb) fun σ H Q ⟨s, ρ, h, rs, rh, p⟩ => ?_
  refine seqT rs rh p fun c h1 ρ1 H1 e1 rh1 rs1 p1 => ?_
  cases c with
  | true => exact ⟨s, ρ1, h1, rs1, rh1, p1⟩
  | false => exact ⟨s, ρ1, h1, rs1, rh1, p1⟩
theorem sa_nil : SA X W [] aNil := pa_imp pa_nil fun σ H Q ⟨s, ρ, h, rs, rh, p⟩ => p.now rh .nil
theorem sa_cons {mr : LA} (ha : SE X W e ma) (hr : SA X W es mr) (hs : starEach (e :: es) X.env = (false, eval e X.env) :: starEach es X.env := by rfl) : SA X W (e :: es) (aCons ma mr) := by
  refine pa_imp (pa_cons ha hr hs) fun σ H Q ⟨s, ρ, h, rs, rh, p⟩ => ?_
  exact seqE rs rh p fun v h1 ρ1 H1 x e1 rh1 rv rs1 p1 => seqA rs1 rh1 p1 fun vs h2 ρ2 H2 xs e2 rh2 rvs rs2 p2 => p2.now rh2 (.cons (rv.up e2) rvs)
theorem tup_ok {ρ : List Addr} {H : Hp} {h : LH} {E : XK} {Q : VK} {vs : List LV} {xs : List V} (rh : RH X.K X.mg ρ h H) (rv : RVs X.K X.mg H ρ vs xs) (p : Post X.K X.mg (RV X.K X.mg) E ρ H Q (.ok (.tup vs) h)) : ∀ q, H q = none → Q (.ref q) (upd H q (.tup xs)) := fun q hq =>
  p ρ _ _ (ext_new hq) (rh.imm hq) (.tup upd_same (rv.up (ext_new hq)))
theorem lst_ok {ρ : List Addr} {H : Hp} {h : LH} {E : XK} {Q : VK} {vs : List LV} {xs : List V} (rh : RH X.K X.mg ρ h H) (rv : RVs X.K X.mg H ρ vs xs) (p : Post X.K X.mg (RV X.K X.mg) E ρ H Q (.ok (.ref h.length) (h ++ [.lst vs]))) : ∀ q, H q = none → Q (.ref q) (upd H q (.lst xs)) := fun q hq =>
  p (ρ ++ [q]) _ _ (ext_push hq) (rh.new hq ⟨xs, upd_same, rv.up (ext_push hq)⟩) (.ref (by rw [← rh.len]; simp))
theorem se_tup {mr : LA} {n : Nat} {k} (hr : SA X W es mr) (hl : ALen mr n) (hn : n ≤ sizeLine := by decide) : SE X W (.Tuple es k pos) (tupM mr) := by
  refine pe_imp (pe_tup hr) fun σ H Q ⟨s, ρ, h, rs, rh, p⟩ => ?_
  refine ⟨s, ρ, h, rs, rh, ?_⟩
  unfold tupM bnd at p
  cases e : mr s h with
  | ok vs h1 =>
    rw [e] at p
    intro ρ1 H1 xs e1 rh1 rv
    exact ⟨by rw [← rv.length, hl s h vs h1 e]; exact hn, tup_ok rh1 rv (Post.up e1 p)⟩
  | exc c fs h1 => rw [e] at p; exact p
  | bad => rw [e] at p; exact p
theorem se_lst {mr : LA} {n : Nat} (hr : SA X W es mr) (hl : ALen mr n) (hn : n ≤ sizeLine := by decide) : SE X W (.List es pos) (lstM mr) := by
  refine pe_imp (pe_lst hr) fun σ H Q ⟨s, ρ, h, rs, rh, p⟩ => ?_
  refine ⟨s, ρ, h, rs, rh, ?_⟩
  unfold lstM bnd at p
  cases e : mr s h with
  | ok vs h1 =>
    rw [e] at p
    intro ρ1 H1 xs e1 rh1 rv
    exact ⟨by rw [← rv.length, hl s h vs h1 e]; exact hn, lst_ok rh1 rv (Post.up e1 p)⟩
  | exc c fs h1 => rw [e] at p; exact p
  | bad => rw [e] at p; exact p
/-- a def of the text -/
theorem se_call {k n : Nat} {f : Addr} {fd : FuncData} {ps : List Str} {x : Str} {p : Pos} {m : List LV → M LV} {mr : LA} (F : FnG X.prog X.w X.K X.mg X.base (L2.CX X.prog X.w) k f fd ps (spOf X.K X.mg n m)) (hb : Binds X.K fd ps []) (hk : PySem.W.keepIn X.K (.ref f) = true) (hm : X.mg x = some (.ref f))
    (hg : Gl X x) (hr : RoomG k X.A) (tk : Takes X W) (ha : SA X W (e :: es) mr) (hl : ALen mr n)
    (hdb : (x == ("__debug__" : Str)) = false := by decide) (he : starEach (e :: es) X.env = (false, eval e X.env) :: starEach es X.env := by rfl) (hpl : (backTo pos (starEach es X.env)).any (·.1) = false := by rfl) :
    SE X W (.Call (.Name x p) (e :: es) [] pos) (callM m mr) := by
  refine pe_imp (pe_callG F hr hg hm hk hb (fun σ => passAt tk σ) ha hdb he hpl) fun σ H Q ⟨s, ρ, h, rs, rh, p⟩ => ?_
  refine ⟨s, ρ, h, rs, rh, ?_⟩
  unfold callM bnd at p
  cases ee : mr s h with
  | ok vs h1 =>
    rw [ee] at p
    intro ρ1 H1 xs e1 rh1 rv
    exact ⟨vs, ρ1, h1, hl s h vs h1 ee, rv, rh1, Post.up e1 p⟩
  | exc c fs h1 => rw [ee] at p; exact p
  | bad => rw [ee] at p; exact p
theorem se_call0 {k : Nat} {f : Addr} {fd : FuncData} {ps : List Str} {x : Str} {p : Pos} {m : List LV → M LV} (F : FnG X.prog X.w X.K X.mg X.base (L2.CX X.prog X.w) k f fd ps (spOf X.K X.mg 0 m)) (hb : Binds X.K fd ps []) (hk : PySem.W.keepIn X.K (.ref f) = true) (hm : X.mg x = some (.ref f))
    (hg : Gl X x) (hr : RoomG k X.A) (tk : Takes X W) (hdb : (x == ("__debug__" : Str)) = false := by decide) : SE X W (.Call (.Name x p) [] [] pos) (callM m aNil) := by
  refine ⟨fun pins s σ H Q I t => ?_⟩
  obtain ⟨ls, ρ, h, rs, rh, p⟩ := t
  refine wpAny_Call_Name_kw (ld_glob I hg hm ?_ hdb)
  exact PySem.W.callWith_K0 I.kIn hk (run_fng (us := []) (vs := []) (E := WE W) F hr hb (passAt tk σ) I .nil ⟨[], ρ, h, rfl, .nil, rh, p⟩)
/-- a builtin function, a builtin type, called -/
theorem cal_read {f : List LV → M LV} {r : List V → Hp → VK → Prop} {mr : LA} (hf : CalS X f r) {σ : L2.St} {H : Hp} {Q : VK} (t : tE X.K X.mg W (callM f mr) σ H Q) : tCB r (tA X.K X.mg W mr) σ H Q := by
  obtain ⟨s, ρ, h, rs, rh, p⟩ := t
  exact seqA rs rh p fun vs h1 ρ1 H1 xs e1 rh1 rv rs1 p1 => hf vs xs ρ1 h1 H1 _ Q rh1 rv p1
theorem se_blt {x : Str} {id : String} {p : Pos} {f : List LV → M LV} {r : List V → Hp → VK → Prop} {mr : LA} (hc : CallR X (.builtin id) r) (hf : CalS X f r) (hv : bootBuiltins x = some (.builtin id)) (hm : X.mg x = none) (hg : Gl X x) (ha : SA X W (e :: es) mr) (hn : x ≠ "__name__" := by decide) (hdb : (x == ("__debug__" : Str)) = false := by decide)
    (he : starEach (e :: es) X.env = (false, eval e X.env) :: starEach es X.env := by rfl) (hpl : (backTo pos (starEach es X.env)).any (·.1) = false := by rfl) : SE X W (.Call (.Name x p) (e :: es) [] pos) (callM f mr) :=
  pe_imp (pe_callB hc hg hm hv ha hn hdb he hpl) fun _ _ _ t => cal_read hf t
theorem se_ty {x : Str} {T : String} {p : Pos} {f : List LV → M LV} {r : List V → Hp → VK → Prop} {mr : LA} (hc : CallR X (.type T) r) (hf : CalS X f r) (hv : bootBuiltins x = some (.type T)) (hm : X.mg x = none) (hg : Gl X x) (ha : SA X W (e :: es) mr) (hn : x ≠ "__name__" := by decide) (hdb : (x == ("__debug__" : Str)) = false := by decide)
    (he : starEach (e :: es) X.env = (false, eval e X.env) :: starEach es X.env := by rfl) (hpl : (backTo pos (starEach es X.env)).any (·.1) = false := by rfl) : SE X W (.Call (.Name x p) (e :: es) [] pos) (callM f mr) :=
  pe_imp (pe_callTy hc hg hm hv ha hn hdb he hpl) fun _ _ _ t => cal_read hf t
end

/-! ### meanings of statements -/
abbrev LG := LV → LSt → M LSt
def seqS (a b : LS) : LS := fun s h => match a s h with
  | .nx s' h' => b s' h'
  | .rt v h' => .rt v h'
  | .bk s' h' => .bk s' h'
  | .ct s' h' => .ct s' h'
  | .exc c fs s' h' => .exc c fs s' h'
  | .bad => .bad
def nilS : LS := fun s h => .nx s h
def brkS : LS := fun s h => .bk s h
def cntS : LS := fun s h => .ct s h
def exprS (m : LE) : LS := fun s h => match m s h with
  | .ok _ h' => .nx s h'
  | .exc c fs h' => .exc c fs s h'
  | .bad => .bad
def retS (m : LE) : LS := fun s h => match m s h with
  | .ok v h' => .rt v h'
  | .exc c fs h' => .exc c fs s h'
  | .bad => .bad
def retN : LS := fun _ h => .rt .non h
def ifS (c : LT) (a b : LS) : LS := fun s h => match c s h with
  | .ok k h' => if k = true then a s h' else b s h'
  | .exc c fs h' => .exc c fs s h'
  | .bad => .bad
def asgS (m : LE) (g : LG) : LS := fun s h => match m s h with
  | .ok v h' => (match g v s h' with
    | .ok s' h'' => .nx s' h''
    | .exc _ _ _ => .bad
    | .bad => .bad)
  | .exc c fs h' => .exc c fs s h'
  | .bad => .bad
def gNm (i : Nat) : LG := fun v s => ret (s.set i (some v))

section
variable (K : PySem.W.Frag) (mg : Str → Option Value)
def tG (g : LG) : TG := fun x σ H Q => ∃ v s ρ h, RV K mg H ρ v x ∧ RSt K mg H ρ s σ ∧ RH K mg ρ h H ∧ Post K mg (RSt K mg) (fun _ _ _ => False) ρ H Q (g v s h)
end
abbrev SG (X : Cx) (e : Expr) (g : LG) : Prop := PG X e (tG X.K X.mg g)

section
variable {X : Cx} {W : WX} {st : Stmt} {rest : List Stmt} {ma mb : LS} {me : LE} {e : Expr} {pos : Pos}
theorem sss_nil : SSs X W [] nilS := pss_imp pss_nil fun D σ H ⟨s, ρ, h, rs, rh, p⟩ => p ρ H σ Ext.refl rh rs
theorem sss_one (h : SS X W st ma) : SSs X W [st] ma := pss_one h
theorem sss_cons (h1 : SS X W st ma) (h2 : SSs X W rest mb) : SSs X W (st :: rest) (seqS ma mb) := by
  refine pss_imp (pss_cons h1 h2) fun D σ H ⟨s, ρ, h, rs, rh, p⟩ => ⟨s, ρ, h, rs, rh, ?_⟩
  unfold seqS at p
  cases e : ma s h with
  | nx s' h' =>
    rw [e] at p
    exact fun ρ1 H1 σ1 e1 rh1 rs1 => ⟨s', ρ1, h', rs1, rh1, PostS.up e1 p⟩
  | rt v h' => rw [e] at p; exact p
  | bk s' h' => rw [e] at p; exact p
  | ct s' h' => rw [e] at p; exact p
  | exc c fs s' h' => rw [e] at p; exact p
  | bad => rw [e] at p; exact p
theorem ss_pass : SS X W (.Pass pos) nilS := ps_imp ps_pass fun D σ H ⟨s, ρ, h, rs, rh, p⟩ => p ρ H σ Ext.refl rh rs
theorem ss_break : SS X W (.Break pos) brkS := ps_imp ps_break fun D σ H ⟨s, ρ, h, rs, rh, p⟩ => p ρ H σ Ext.refl rh rs
theorem ss_continue : SS X W (.Continue pos) cntS := ps_imp ps_continue fun D σ H ⟨s, ρ, h, rs, rh, p⟩ => p ρ H σ Ext.refl rh rs
theorem ss_expr (he : SE X W e me) (hs : swapsWith e none pos.line X.env = pure false := by rfl) : SS X W (.Expr e pos) (exprS me) := by
  refine ps_imp (ps_expr he hs) fun D σ H ⟨s, ρ, h, rs, rh, p⟩ => ⟨s, ρ, h, rs, rh, ?_⟩
  unfold exprS at p
  cases e : me s h with
  | ok v h' => rw [e] at p; exact fun ρ1 H1 x e1 rh1 rv => p ρ1 H1 σ e1 rh1 (rs.up e1)
  | exc c fs h' => rw [e] at p; exact fun ρ1 H1 C d e1 rh1 rx => p ρ1 H1 σ C d e1 rh1 (rs.up e1) rx
  | bad => rw [e] at p; exact p
theorem ss_ret (he : SE X W e me) : SS X W (.Return (some e) pos) (retS me) := by
  refine ps_imp (ps_ret he) fun D σ H ⟨s, ρ, h, rs, rh, p⟩ => ⟨s, ρ, h, rs, rh, ?_⟩
  unfold retS at p
  cases e : me s h with
  | ok v h' => rw [e] at p; exact p
  | exc c fs h' => rw [e] at p; exact fun ρ1 H1 C d e1 rh1 rx => p ρ1 H1 σ C d e1 rh1 (rs.up e1) rx
  | bad => rw [e] at p; exact p
theorem ss_retN : SS X W (.Return none pos) retN := ps_imp ps_retN fun D σ H ⟨s, ρ, h, rs, rh, p⟩ => p ρ H .non Ext.refl rh .non
theorem ss_if {c : Expr} {a b : List Stmt} {mc : LT} (hc : ST X W c mc) (ha : SSs X W a ma) (hb : SSs X W b mb) : SS X W (.If c a b pos) (ifS mc ma mb) := by
  refine ps_imp (ps_if hc ha hb) fun D σ H ⟨s, ρ, h, rs, rh, p⟩ => ⟨s, ρ, h, rs, rh, ?_⟩
  unfold ifS at p
  cases e : mc s h with
  | ok k h' =>
    rw [e] at p
    intro ρ1 H1 x e1 rh1 rv
    cases (show k = x from rv)
    cases k with
    | true => exact ⟨s, ρ1, h', rs.up e1, rh1, PostS.up e1 (by simpa using p)⟩
    | false => exact ⟨s, ρ1, h', rs.up e1, rh1, PostS.up e1 (by simpa using p)⟩
  | exc c fs h' => rw [e] at p; exact fun ρ1 H1 C d e1 rh1 rx => p ρ1 H1 σ C d e1 rh1 (rs.up e1) rx
  | bad => rw [e] at p; exact p
theorem asg_read {g : LG} {D : Ends} {σ : L2.St} {H : Hp} (t : tS X.K X.mg W (asgS me g) D σ H) : tAsg (tE X.K X.mg W me) (tG X.K X.mg g) D σ H := by
  obtain ⟨s, ρ, h, rs, rh, p⟩ := t
  refine ⟨s, ρ, h, rs, rh, ?_⟩
  unfold asgS at p
  cases e : me s h with
  | ok v h' =>
    rw [e] at p
    intro ρ1 H1 x e1 rh1 rv
    refine ⟨v, s, ρ1, h', rv, rs.up e1, rh1, ?_⟩
    dsimp only at p
    cases e2 : g v s h' with
    | ok s' h'' => rw [e2] at p; exact fun ρ2 H2 σ2 e3 rh2 rs2 => p ρ2 H2 σ2 (e1.trans e3) rh2 rs2
    | exc c fs h'' => rw [e2] at p; exact (show False from p).elim
    | bad => rw [e2] at p; exact (show False from p).elim
  | exc c fs h' => rw [e] at p; exact fun ρ1 H1 C d e1 rh1 rx => p ρ1 H1 σ C d e1 rh1 (rs.up e1) rx
  | bad => rw [e] at p; exact p
theorem sg_name {i : Nat} {x : Str} (p : PG X (.Name x pos) (gName i)) : SG X (.Name x pos) (gNm i) :=
  pg_imp p fun x σ H Q ⟨v, s, ρ, h, rv, rs, rh, p⟩ => p ρ H _ Ext.refl rh (rs.set i rv)
theorem ss_asg {tg : Expr} {g : LG} (he : SE X W e me) (hg : SG X tg g) (hs : swapsWithSole [tg] e pos.line X.env = pure false := by rfl) (hw : swappedStores [tg] e X.env = pure none := by rfl)
    (h1 : (assignEach [tg] X.env).map (·.2) = [assign tg X.env] := by rfl) : SS X W (.Assign [tg] e pos) (asgS me g) :=
  ps_imp (ps_asg he hg hs hw h1) fun _ _ _ t => asg_read t
theorem gnm_read {i : Nat} {x : V} {σ : L2.St} {H : Hp} {Q : L2.St → Hp → Prop} (t : tG X.K X.mg (gNm i) x σ H Q) : gName i x σ H Q := by
  obtain ⟨v, s, ρ, h, rv, rs, rh, p⟩ := t
  exact p ρ H _ Ext.refl rh (rs.set i rv)
theorem tE_mono {W : WX} {m : LE} {σ : L2.St} {H : Hp} {Q Q' : VK} (t : tE X.K X.mg W m σ H Q) (k : ∀ x H', Q x H' → Q' x H') : tE X.K X.mg W m σ H Q' := by
  obtain ⟨s, ρ, h, rs, rh, p⟩ := t
  refine ⟨s, ρ, h, rs, rh, ?_⟩
  cases e : m s h with
  | ok v h' => rw [e] at p; exact fun ρ1 H1 x e1 rh1 rv => k _ _ (p ρ1 H1 x e1 rh1 rv)
  | exc c fs h' => rw [e] at p; exact p
  | bad => rw [e] at p; exact p
theorem ss_set {i : Nat} {x : Str} {pos' : Pos} (hN : X.N.Nodup) (hi : X.N[i]? = some x) (hx : Loc X.env.scope x) (he : SE X W e me) (hs : swapsWith e (some (.Name x pos')) pos.line X.env = pure false := by rfl) (hf : X.fn x = true ∨ X.env.scope.names.lookup x = some .local := by first | exact .inl rfl | exact .inr rfl | assumption) :
    SS X W (.Assign [.Name x pos'] e pos) (asgS me (gNm i)) :=
  ps_imp (ps_set hN hi hx he hs hf) fun _ _ _ t => tE_mono (asg_read t) fun x H' t => gnm_read t
end
end Fw

set_option maxRecDepth 100000
set_option maxHeartbeats 4000000
/-! ### a dict beside a tuple: unlike -/
namespace Fw
open PySem PySem.Spec PyProof.Rows L2 PySem.SeqAt
theorem dict_eq_declines (l b : Addr) : Meets (Builtin.«dict.__eq__» ⟨[.ref l, .ref b], []⟩) (fun _ R s => s.TypeIs (.ref l) "dict" ∧ s.TypeIs (.ref b) "tuple" ∧ R (.ok (.ret .notImplemented)) s) :=
  .of_wp fun prog w A R s h => by
    obtain ⟨hl, hb, h⟩ := h
    show wpAny _ _ (Builtin.Dict.dictSlotArgs "__eq__" ⟨[.ref l, .ref b], []⟩ >>= _) _ _ s
    refine wpAny_bind ?_
    unfold Builtin.Dict.dictSlotArgs
    refine wpAny_bind (wpAny_notOrdered_dict hl ?_)
    show wpAny _ _ (pure (Value.ref l, Value.ref b)) _ _ s
    refine wpAny_pure ?_
    refine wpAny_bind (wpAny_isInstance (T := "tuple") hb PySem.F.sub_tuple_dict ?_)
    simp only [Bool.not_false, if_true]
    refine wpAny_bind (wpAny_rule ?_)
    exact wpAny_pure ⟨_, rfl, h⟩
theorem tuple_eq_declines_dict (l b : Addr) (items : Array Value) (n : Nat) (dd dd2 : Option Addr) (data2 : Data) (sl sl2 : Array (Option Value)) :
    Meets (Builtin.«tuple.__eq__» ⟨[.ref l, .ref b], []⟩) (fun _ R s => s.heap.get? l = some { cls := .type "tuple", dict := dd, data := .seq items n, slots := sl } ∧ s.heap.get? b = some { cls := .type "dict", dict := dd2, data := data2, slots := sl2 } ∧ R (.ok (.ret .notImplemented)) s) :=
  .of_wp fun prog w A R s h => by obtain ⟨hp, g, d, tk, os⟩ := s; obtain ⟨hl, hb, h⟩ := h; have f1 := F.sub_dict_tuple; wp_walk using wpAny_loadPart' hl, wpAny_loadPart' hb; exact ⟨_, rfl, h⟩
theorem rcAt_dict_tuple {A : Around} {s : Shared} {l b : Addr} {o : Obj} {items : Array Value} (hl : s.heap.get? l = some o) (hc : o.cls = .type "dict") (hb : s.heap.IsTuple b items) (hu : A.units < cLine) : RcAt A s (.ref l) (.ref b) false := fun prog w E Q h => by
  obtain ⟨cls, dd, data, sl⟩ := o
  obtain ⟨⟨cls2, dd2, data2, sl2⟩, ho2, hc2, n2, hd2⟩ := id hb
  simp only at hc hc2 hd2
  subst hc hc2 hd2
  have hne : l ≠ b := fun e => by
    subst e
    rw [hl] at ho2
    rw [Option.some.injEq] at ho2; have := congrArg Obj.cls ho2; simp at this
  exact (rc_eq_decline_or (k := false) ⟨_, hl, rfl⟩ ⟨_, ho2, rfl⟩ (by decide) F.sub_tuple_dict F.slot_dict_eq F.slot_tuple_eq_refl
    (fun _ hq => call_meets F.slot_dict_eq ⟨_, hl, rfl⟩ F.entry_dict_eq (F.args_dict_eq_2 _ _) (dict_eq_declines l b) ⟨⟨_, hl, rfl⟩, ⟨_, ho2, rfl⟩, hq⟩)
    (fun _ hq => call_meets F.slot_tuple_eq_refl ⟨_, ho2, rfl⟩ F.entry_tuple_eq (F.args_tuple_eq_2 _ _) (tuple_eq_declines_dict b l items n2 dd2 dd data sl2 sl) ⟨ho2, hl, hq⟩)
    (fun _ hq => wpAny_isSame_ref_other hne hl ho2 (by simp) hq) (.inr hu) h)
def rEqE (K : PySem.W.Frag) : R2 := fun x y H Q => ∃ a b vs, x = .ref a ∧ y = .ref b ∧ H a = some (.dK []) ∧ SqT K H b vs ∧ Q (.bl false) H
theorem op_eqE {X : Cx} (hu : X.A.units < cLine) : OpR X (compareOp .Eq) (rEqE X.K) := by
  intro pins s σ H x y v u Q I rx ry h
  obtain ⟨a, b, vs, rfl, rfl, ea, eb, q⟩ := h
  obtain rfl : v = Value.ref a := rx
  obtain rfl : u = Value.ref b := ry
  obtain ⟨_, ya, va, ra, o, es, ep, ho, hx, hd, rr⟩ := (show ObjOk X.prog X.w H s.heap a (.dK []) from I.hok a _ ea)
  obtain ⟨its, rv, p, _⟩ := I.tuple eb
  exact rcAt_dict_tuple ho hx.1 p hu _ _ _ _ ⟨.bl _, H, I, rfl, q⟩
end Fw

set_option maxRecDepth 100000
set_option maxHeartbeats 4000000
namespace Fw
open PySem PySem.Spec PyProof.Rows L2

/-! ### arithmetic -/
def intI (f : Int → Int → LV) : LV → LV → M LV
  | .int i, .int j => ret (f i j)
  | _, _ => bad
def intC (c : Int → Int → Bool) (f : Int → Int → LV) : LV → LV → M LV
  | .int i, .int j => fun h => if c i j = true then .ok (f i j) h else .bad
  | _, _ => bad
def addL : LV → LV → M LV
  | .int i, .int j => ret (.int (i + j))
  | .str x, .str y => fun h => if x.length + y.length ≤ sizeLine then .ok (.str (x ++ y)) h else .bad
  | .ref l, .ref k => fun h => match h[l]?, h[k]? with
    | some (.lst xs), some (.lst ys) => if xs.length + ys.length ≤ sizeLine then .ok (.ref h.length) (h ++ [.lst (xs ++ ys)]) else .bad
    | _, _ => .bad
  | .scr xs, .ref k => fun h => match h[k]? with
    | some (.lst ys) => if xs.length + ys.length ≤ sizeLine then .ok (.ref h.length) (h ++ [.lst (xs ++ ys)]) else .bad
    | _ => .bad
  | .ref k, .scr ys => fun h => match h[k]? with
    | some (.lst xs) => if xs.length + ys.length ≤ sizeLine then .ok (.ref h.length) (h ++ [.lst (xs ++ ys)]) else .bad
    | _ => .bad
  | .tup xs, .tup ys => fun h => if xs.length + ys.length ≤ sizeLine then .ok (.tup (xs ++ ys)) h else .bad
  | _, _ => bad
def subL : LV → LV → M LV := intI fun i j => .int (i - j)
def cmulB (i j : Int) : Bool := decide ((-(2 ^ 64) < i ∧ i < 2 ^ 64) ∨ (-(2 ^ 64) < j ∧ j < 2 ^ 64))
def mulL : LV → LV → M LV
  | .int i, .int j => fun h => if cmulB i j = true then .ok (.int (i * j)) h else .bad
  | .ref l, .int k => fun h => match h[l]? with
    | some (.lst xs) => if -(2 ^ 63) ≤ k ∧ k < 2 ^ 63 ∧ xs.length * k.toNat ≤ sizeLine then .ok (.ref h.length) (h ++ [.lst (List.replicate k.toNat xs).flatten]) else .bad
    | _ => .bad
  | _, _ => bad
def fdivL : LV → LV → M LV := intC (fun _ j => decide (0 < j ∧ j.natAbs.log2 < 9000)) fun i j => .int (i / j)
def modL : LV → LV → M LV := intC (fun _ j => decide (0 < j)) fun i j => .int (i % j)
def powL : LV → LV → M LV := intC (fun i j => decide (0 ≤ j ∧ j ≤ 1000000 ∧ i.natAbs < 2 ^ 64)) fun i j => .int (i ^ j.toNat)
def negL : LV → M LV
  | .int i => ret (.int (-i))
  | _ => bad
def ltL : LV → LV → M LV := intI fun i j => .bl (decide (i < j))
def leL : LV → LV → M LV := intI fun i j => .bl (decide (i ≤ j))
def gtL : LV → LV → M LV := intI fun i j => .bl (decide (j < i))
def geL : LV → LV → M LV := intI fun i j => .bl (decide (j ≤ i))
def isNL : LV → LV → M LV
  | .non, .non => ret (.bl true)
  | _, .non => ret (.bl false)
  | _, _ => bad
def notNL : LV → LV → M LV
  | .non, .non => ret (.bl false)
  | _, .non => ret (.bl true)
  | _, _ => bad

/-! ### data, equality -/
def optAll {α β : Type} (f : α → Option β) : List α → Option (List β)
  | [] => some []
  | x :: xs => match f x, optAll f xs with
    | some y, some ys => some (y :: ys)
    | _, _ => none
def toD : Nat → LH → LV → Option PyData
  | _, _, .non => some .none
  | _, _, .bl b => some (.bool b)
  | _, _, .int i => some (.int i)
  | _, _, .str x => if PyData.strOk x = true then some (.str x) else none
  | n + 1, h, .tup xs => (optAll (toD n h) xs).map .tuple
  | n + 1, h, .scr xs => (optAll (toD n h) xs).map .list
  | n + 1, h, .ref l => match h[l]? with
    | some (.lst xs) => (optAll (toD n h) xs).map .list
    | _ => none
  | _, _, _ => none
def flatL : LV → Bool
  | .non | .bl _ | .int _ | .str _ => true
  | _ => false
def eqF : LV → LV → Bool
  | .non, .non => true
  | .bl a, .bl b => a == b
  | .bl a, .int b => (if a then 1 else 0) == b
  | .int a, .bl b => a == (if b then 1 else 0)
  | .int a, .int b => a == b
  | .str a, .str b => a == b
  | _, _ => false
def sclL : LV → LV → Bool
  | .bl _, .int _ => false
  | .int _, .bl _ => false
  | v, u => flatL v && flatL u
/-- two empty dicts -/
def isE (h : LH) : LV → Bool
  | .ref l => match h[l]? with
    | some (.dct false []) => true
    | _ => false
  | _ => false
def isTp : LV → Bool
  | .tup _ => true
  | _ => false
def eqL (v u : LV) : M LV := fun h => if sclL v u = true then .ok (.bl (eqF v u)) h else if isE h v = true ∧ isE h u = true then .ok (.bl true) h else if isE h v = true ∧ isTp u = true then .ok (.bl false) h else match toD 16 h v, toD 16 h u with
  | some d, some e => .ok (.bl (PyData.eqv d e)) h
  | _, _ => .bad
theorem toD_noE {n : Nat} {h : LH} {v : LV} {d : PyData} (e : toD n h v = some d) : ¬ isE h v = true := by
  cases v <;> simp only [isE] <;> try exact Bool.false_ne_true
  split
  · rename_i q
    cases n <;> simp [toD, q] at e
  · exact Bool.false_ne_true
def neL (v u : LV) : M LV := fun h => if sclL v u = true then .ok (.bl (!eqF v u)) h else match toD 16 h v, toD 16 h u with
  | some d, some e => .ok (.bl (!PyData.eqv d e)) h
  | _, _ => .bad

/-! ### in -/
def sgn (x : Str) : Option Nat := match x.cps.toList with
  | [c] => some c
  | _ => none
theorem sgn_eq {x : Str} {c : Nat} (e : sgn x = some c) : x = ⟨#[c]⟩ := by
  unfold sgn at e
  split at e
  · rename_i c' h
    cases e
    cases x with
    | mk a =>
      have h2 : a = #[c] := by
        apply Array.toList_inj.mp
        rw [h]
      rw [h2]
  · cases e
def inBy (f : Bool → Bool) : LV → LV → M LV
  | .str x, .str y => fun h => match sgn x with
    | some c => .ok (.bl (f (decide (c ∈ y.cps.toList)))) h
    | none => .bad
  | v, .tup ys => fun h => if flatL v = true ∧ ys.all flatL = true then .ok (.bl (f (ys.any fun y => eqF y v))) h else
      (match toD 15 h v, optAll (toD 15 h) ys with
        | some d, some ds => .ok (.bl (f (ds.any fun z => PyData.eqv z d))) h
        | _, _ => .bad)
  | v, .scr ys => fun h => if flatL v = true ∧ ys.all flatL = true then .ok (.bl (f (ys.any fun y => eqF y v))) h else .bad
  | v, .ref l => fun h => match h[l]? with
    | some (.lst []) => .ok (.bl (f false)) h
    | some (.lst ys) => if flatL v = true ∧ ys.all flatL = true then .ok (.bl (f (ys.any fun y => eqF y v))) h else
      (match toD 15 h v, optAll (toD 15 h) ys with
        | some d, some ds => .ok (.bl (f (ds.any fun z => PyData.eqv z d))) h
        | _, _ => .bad)
    | _ => .bad
  | _, _ => bad
def inL : LV → LV → M LV := inBy id
def notInL : LV → LV → M LV := inBy not

/-! ### items, parts -/
def getL : LV → LV → M LV
  | .tup xs, .int i => fun h => match atI xs i with
    | some v => .ok v h
    | none => .bad
  | .scr xs, .int i => fun h => match atI xs i with
    | some v => .ok v h
    | none => .bad
  | .ref l, .int i => fun h => match h[l]? with
    | some (.lst xs) => (match atI xs i with
      | some v => .ok v h
      | none => .bad)
    | _ => .bad
  | .str x, .int i => fun h => if x.length ≤ sizeLine then (match atI x.cps.toList i with
      | some c => .ok (.str ⟨#[c]⟩) h
      | none => .bad) else .bad
  | _, _ => bad
def cutL (xs : List LV) (lo hi : Option Int) : List LV := (xs.drop (HT.sIx xs.length 0 lo)).take (HT.sIx xs.length xs.length hi - HT.sIx xs.length 0 lo)
def sliceL (lo hi : Option Int) : LV → M LV
  | .tup xs => ret (.tup (cutL xs lo hi))
  | .scr xs => fun h => .ok (.ref h.length) (h ++ [.lst (cutL xs lo hi)])
  | .ref l => fun h => match h[l]? with
    | some (.lst xs) => .ok (.ref h.length) (h ++ [.lst (cutL xs lo hi)])
    | _ => .bad
  | .str x => fun h => if x.length ≤ sizeLine then .ok (.str (cutS x lo hi)) h else .bad
  | _ => bad
abbrev LO' := LSt → M (Option Int)
def poN : LO' := fun _ => ret none
def asI : LV → M (Option Int)
  | .int i => ret (some i)
  | _ => bad
def poS (m : LE) : LO' := fun s => bnd (m s) asI
def slcM (a : LE) (lo hi : LO') : LE := fun s => bnd (a s) fun v => bnd (lo s) fun i => bnd (hi s) fun j => sliceL i j v

/-! ### built-in functions -/
def lenL : List LV → M LV
  | [.tup xs] => ret (.int xs.length)
  | [.scr xs] => ret (.int xs.length)
  | [.str x] => fun h => if x.length ≤ sizeLine then .ok (.int x.length) h else .bad
  | [.ref l] => fun h => match h[l]? with
    | some (.lst xs) => .ok (.int xs.length) h
    | _ => .bad
  | _ => bad
inductive Kd where
  | non | bl | int | str | tup | lst | dct
  deriving DecidableEq
def Kd.nm : Kd → String
  | .non => "NoneType" | .bl => "bool" | .int => "int" | .str => "str" | .tup => "tuple" | .lst => "list" | .dct => "dict"
def isK : Kd → Ty → Bool
  | .bl, .bool => true
  | .bl, .int => true
  | .int, .int => true
  | .str, .str => true
  | .tup, .tuple => true
  | .lst, .list => true
  | .dct, .dict => true
  | _, _ => false
def kdL (h : LH) : LV → Option Kd
  | .non => some .non
  | .bl _ => some .bl
  | .int _ => some .int
  | .str _ => some .str
  | .tup _ => some .tup
  | .scr _ => some .lst
  | .ref l => match h[l]? with
    | some (.lst _) => some .lst
    | some (.dct _ _) => some .dct
    | _ => none
  | _ => none
def isiL : List LV → M LV
  | [v, .ty t] => fun h => match kdL h v with
    | some k => .ok (.bl (isK k t)) h
    | none => .bad
  | _ => bad
def maxL : List LV → M LV
  | [.int i, .int j] => ret (.int (if j > i then j else i))
  | _ => bad
def minL : List LV → M LV
  | [.int i, .int j] => ret (.int (if j < i then j else i))
  | _ => bad
def asBs : List LV → Option (List Bool)
  | [] => some []
  | .bl b :: r => (asBs r).map (b :: ·)
  | _ => none
def allL : List LV → M LV
  | [.ref l] => fun h => match h[l]? with
    | some (.lst xs) => (match asBs xs with
      | some bs => .ok (.bl (bs.all id)) h
      | none => .bad)
    | _ => .bad
  | _ => bad

/-! ### what they are beside the layer -/
section
variable {X : Cx}
theorem bad_of {α β : Type} {K : PySem.W.Frag} {mg : Str → Option Value} {rel : Hp → List Addr → α → β → Prop} {E : XK} {ρ : List Addr} {H : Hp} {Q : β → Hp → Prop} {R : Prop} (p : Post K mg rel E ρ H Q .bad) : R := (show False from p).elim
theorem bin_intI {f : Int → Int → LV} {g : Int → Int → V} (hf : ∀ i j H ρ, RV X.K X.mg H ρ (f i j) (g i j)) : BinS X (intI f) (rI0 g) := by
  intro v u x y ρ h H E Q rh rv ru p
  cases v <;> first | exact bad_of p | skip
  cases u <;> first | exact bad_of p | skip
  cases rv; cases ru
  exact ⟨_, _, rfl, rfl, Post.now p rh (hf _ _ _ _)⟩
theorem bin_intC {c : Int → Int → Bool} {C : Int → Int → Prop} {f : Int → Int → LV} {g : Int → Int → V} (hc : ∀ i j, c i j = true → C i j) (hf : ∀ i j H ρ, RV X.K X.mg H ρ (f i j) (g i j)) : BinS X (intC c f) (rI C g) := by
  intro v u x y ρ h H E Q rh rv ru p
  cases v <;> first | exact bad_of p | skip
  cases u <;> first | exact bad_of p | skip
  cases rv; cases ru
  rename_i i j
  have p : Post X.K X.mg (RV X.K X.mg) E ρ H Q (if c i j = true then .ok (f i j) h else .bad) := p
  cases e : c i j with
  | true => rw [e] at p; exact ⟨_, _, rfl, rfl, hc i j e, Post.now p rh (hf _ _ _ _)⟩
  | false => rw [e] at p; exact bad_of p
theorem rv_lst {ρ : List Addr} {h : LH} {H : Hp} {l : Nat} {a : Addr} {xs : List LV} (rh : RH X.K X.mg ρ h H) (e : h[l]? = some (.lst xs)) (r : ρ[l]? = some a) : ∃ vs, H a = some (.lst vs) ∧ RVs X.K X.mg H ρ xs vs := rh.obj l _ a e r
theorem rv_scr {ρ : List Addr} {H : Hp} {x : V} {xs : List LV} (r : RV X.K X.mg H ρ (.scr xs) x) : ∃ a vs, x = .ref a ∧ SqL X.K H a vs ∧ RVs X.K X.mg H ρ xs vs := by
  cases r with
  | scrF h r => exact ⟨_, _, rfl, .inl (.inr ⟨_, h⟩), r⟩
  | scrK h h1 h2 h3 h4 h5 r => exact ⟨_, _, rfl, .inr ⟨_, _, _, h, h1, h2, h3, h4, h5⟩, r⟩
theorem rv_tup {ρ : List Addr} {H : Hp} {x : V} {xs : List LV} (r : RV X.K X.mg H ρ (.tup xs) x) : ∃ a vs, x = .ref a ∧ H a = some (.tup vs) ∧ RVs X.K X.mg H ρ xs vs := by
  cases r with
  | tup h r => exact ⟨_, _, rfl, h, r⟩
/-- lists of any kind joined -/
def rCatL (K : PySem.W.Frag) : R2 := fun x y H Q => ∃ l b xs zs, x = .ref l ∧ y = .ref b ∧ SqL K H l xs ∧ SqL K H b zs ∧ xs.length + zs.length ≤ sizeLine ∧ ∀ p, H p = none → Q (.ref p) (upd H p (.lst (xs ++ zs)))
theorem plain_of {h : Heap} {a : Addr} {its : Array Value} (p : PlainL h a its) : ∃ n sl, h.get? a = some { cls := .type "list", dict := none, data := .seq its n, slots := sl } := by
  obtain ⟨⟨c, d, dt, sl⟩, n, e, h1, h2, h3⟩ := p
  cases h1; cases h2; cases h3
  exact ⟨n, sl, e⟩
theorem op_catL : OpR X (binaryOp .Add) (rCatL X.K) := by
  intro pins s σ H x y v u Q I rx ry t
  obtain ⟨l, b, xs, zs, rfl, rfl, hL, hB, hz, q⟩ := t
  cases rx
  cases ry
  obtain ⟨its, ra, p1, _⟩ := I.list hL
  obtain ⟨its2, rb, p2, _⟩ := I.list hB
  obtain ⟨n, sl, e⟩ := plain_of p1
  obtain ⟨n2, sl2, e2⟩ := plain_of p2
  have hs : its.toArray.size + its2.toArray.size ≤ sizeLine := by simp; rw [← ra.length, ← rb.length]; exact hz
  refine concat_meets ⟨_, e, rfl⟩ ⟨_, e2, rfl⟩ noFill_list_add seq_list_add PySem.F.slot_list_add PySem.F.entry_list_add
    (PySem.F.args_list_add_2 _ _) (list_addW l b its.toArray its2.toArray n n2 none none sl sl2 hs) ⟨e, e2, ?_⟩
  rw [show its.toArray ++ its2.toArray = (its ++ its2).toArray by simp]
  exact ⟨.ref _, _, I.lnew (t' := s.toks) (ra.append rb) (by simpa using hz), rfl, q _ I.fresh⟩
def rAddL (K : PySem.W.Frag) : R2 := fun x y H Q => rI0 (fun i j => .int (i + j)) x y H Q ∨ (∃ i j, x = .str i ∧ y = .str j ∧ i.length + j.length ≤ sizeLine ∧ Q (.str (i ++ j)) H) ∨ rCatL K x y H Q ∨ rCatA K x y H Q
theorem op_addL : OpR X (binaryOp .Add) (rAddL X.K) := op_add.or (op_add_str.or (op_catL.or op_catA))
theorem bin_addL : BinS X addL (rAddL X.K) := by
  intro v u x y ρ h H E Q rh rv ru p
  cases v <;> first | exact bad_of p | skip
  · cases u <;> first | exact bad_of p | skip
    cases rv; cases ru
    exact .inl ⟨_, _, rfl, rfl, Post.now p rh (.int _)⟩
  · cases u <;> first | exact bad_of p | skip
    cases rv; cases ru
    rename_i a b
    have p : Post X.K X.mg (RV X.K X.mg) E ρ H Q (if a.length + b.length ≤ sizeLine then .ok (.str (a ++ b)) h else .bad) := p
    by_cases e : a.length + b.length ≤ sizeLine
    · rw [if_pos e] at p
      exact .inr (.inl ⟨_, _, rfl, rfl, e, Post.now p rh (.str _)⟩)
    · rw [if_neg e] at p
      exact bad_of p
  · cases u <;> first | exact bad_of p | skip
    obtain ⟨a, va, rfl, ha, ra⟩ := rv_tup rv
    obtain ⟨b, vb, rfl, hb, rb⟩ := rv_tup ru
    rename_i xs ys
    have p : Post X.K X.mg (RV X.K X.mg) E ρ H Q (if xs.length + ys.length ≤ sizeLine then .ok (.tup (xs ++ ys)) h else .bad) := p
    by_cases e : xs.length + ys.length ≤ sizeLine
    · rw [if_pos e] at p
      refine .inr (.inr (.inr ⟨a, b, va, vb, rfl, rfl, .of ha, .of hb, by rw [← ra.length, ← rb.length]; exact e, fun z => ?_, fun _ z => ?_, fun _ _ q hq => ?_⟩))
      · subst z; cases ra; exact Post.now p rh (.tup hb rb)
      · subst z; cases rb; rw [List.append_nil] at p; exact Post.now p rh (.tup ha ra)
      · exact tup_ok rh (ra.append rb) p q hq
    · rw [if_neg e] at p
      exact bad_of p
  · cases u <;> first | exact bad_of p | skip
    rename_i xs k
    obtain ⟨a, va, rfl, ha, ra⟩ := rv_scr rv
    cases ru with
    | ref hr =>
      cases e : h[k]? with
      | none => simp only [addL, e] at p; exact bad_of p
      | some o =>
        cases o <;> simp only [addL, e] at p <;> first | exact bad_of p | skip
        rename_i ys
        obtain ⟨vb, hb, rb⟩ := rv_lst rh e hr
        by_cases e2 : xs.length + ys.length ≤ sizeLine
        · rw [if_pos e2] at p
          exact .inr (.inr (.inl ⟨_, _, _, _, rfl, rfl, ha, .of hb, by rw [← ra.length, ← rb.length]; exact e2, lst_ok rh (ra.append rb) p⟩))
        · rw [if_neg e2] at p
          exact bad_of p
  · cases u <;> first | exact bad_of p | skip
    · rename_i k ys
      obtain ⟨a, va, rfl, ha, ra⟩ := rv_scr ru
      cases rv with
      | ref hr =>
        cases e : h[k]? with
        | none => simp only [addL, e] at p; exact bad_of p
        | some o =>
          cases o <;> simp only [addL, e] at p <;> first | exact bad_of p | skip
          rename_i xs
          obtain ⟨vb, hb, rb⟩ := rv_lst rh e hr
          by_cases e2 : xs.length + ys.length ≤ sizeLine
          · rw [if_pos e2] at p
            exact .inr (.inr (.inl ⟨_, _, _, _, rfl, rfl, .of hb, ha, by rw [← ra.length, ← rb.length]; exact e2, lst_ok rh (rb.append ra) p⟩))
          · rw [if_neg e2] at p
            exact bad_of p
    · rename_i k k2
      cases rv with
      | ref hr =>
        cases ru with
        | ref hr2 =>
          cases e : h[k]? with
          | none => simp only [addL, e] at p; exact bad_of p
          | some o =>
            cases o <;> simp only [addL, e] at p <;> first | exact bad_of p | skip
            cases e' : h[k2]? with
            | none => simp only [e'] at p; exact bad_of p
            | some o' =>
              cases o' <;> simp only [e'] at p <;> first | exact bad_of p | skip
              rename_i xs ys
              obtain ⟨va, ha, ra⟩ := rv_lst rh e hr
              obtain ⟨vb, hb, rb⟩ := rv_lst rh e' hr2
              by_cases e2 : xs.length + ys.length ≤ sizeLine
              · rw [if_pos e2] at p
                exact .inr (.inr (.inl ⟨_, _, _, _, rfl, rfl, .of ha, .of hb, by rw [← ra.length, ← rb.length]; exact e2, lst_ok rh (ra.append rb) p⟩))
              · rw [if_neg e2] at p
                exact bad_of p
theorem bin_subL : BinS X subL (rI0 fun i j => .int (i - j)) := bin_intI fun _ _ _ _ => .int _
theorem cmulB_ok {i j : Int} (h : cmulB i j = true) : CMul i j := by
  unfold cmulB at h
  have z := of_decide_eq_true h
  exact z
theorem rvs_rep {ρ : List Addr} {H : Hp} {xs : List LV} {vs : List V} (r : RVs X.K X.mg H ρ xs vs) : ∀ k : Nat, RVs X.K X.mg H ρ (List.replicate k xs).flatten (List.replicate k vs).flatten
  | 0 => by simp; exact .nil
  | k + 1 => by simp only [List.replicate_succ, List.flatten_cons]; exact r.append (rvs_rep r k)
theorem bin_mulL : BinS X mulL (fun x y H Q => rI CMul (fun i j => .int (i * j)) x y H Q ∨ rRep x y H Q) := by
  intro v u x y ρ h H E Q rh rv ru p
  cases v <;> first | exact bad_of p | skip
  · cases u <;> first | exact bad_of p | skip
    cases rv; cases ru
    rename_i i j
    have p : Post X.K X.mg (RV X.K X.mg) E ρ H Q (if cmulB i j = true then .ok (.int (i * j)) h else .bad) := p
    cases e : cmulB i j with
    | true => rw [e] at p; exact .inl ⟨_, _, rfl, rfl, cmulB_ok e, Post.now p rh (.int _)⟩
    | false => rw [e] at p; exact bad_of p
  · cases u <;> first | exact bad_of p | skip
    rename_i l k
    cases rv with
    | ref hr =>
      cases ru
      cases e : h[l]? with
      | none => simp only [mulL, e] at p; exact bad_of p
      | some o =>
        cases o <;> simp only [mulL, e] at p <;> first | exact bad_of p | skip
        rename_i xs
        obtain ⟨va, ha, ra⟩ := rv_lst rh e hr
        by_cases e2 : -(2 ^ 63) ≤ k ∧ k < 2 ^ 63 ∧ xs.length * k.toNat ≤ sizeLine
        · rw [if_pos e2] at p
          exact .inr ⟨_, _, _, rfl, rfl, ha, e2.1, e2.2.1, by rw [← ra.length]; exact e2.2.2, lst_ok rh (rvs_rep ra _) p⟩
        · rw [if_neg e2] at p
          exact bad_of p
theorem op_mulL : OpR X (binaryOp .Mult) (fun x y H Q => rI CMul (fun i j => .int (i * j)) x y H Q ∨ rRep x y H Q) := op_mul.or op_rep
theorem bin_fdivL : BinS X fdivL (rI CDivW fun i j => .int (i / j)) := bin_intC (fun _ _ h => by have z := of_decide_eq_true h; exact z) fun _ _ _ _ => .int _
theorem bin_modL : BinS X modL (rI (fun _ j => 0 < j) fun i j => .int (i % j)) := bin_intC (fun _ _ h => of_decide_eq_true h) fun _ _ _ _ => .int _
theorem bin_powL : BinS X powL (rI CPow fun i j => .int (i ^ j.toNat)) := bin_intC (fun _ _ h => by have z := of_decide_eq_true h; exact z) fun _ _ _ _ => .int _
theorem uns_negL : UnS X negL (rU fun i => .int (-i)) := by
  intro v x ρ h H E Q rh rv p
  cases v <;> first | exact bad_of p | skip
  cases rv
  exact ⟨_, rfl, Post.now p rh (.int _)⟩
theorem bin_ltL : BinS X ltL (rI0 fun i j => .bl (decide (i < j))) := bin_intI fun _ _ _ _ => .bl _
theorem bin_leL : BinS X leL (rI0 fun i j => .bl (decide (i ≤ j))) := bin_intI fun _ _ _ _ => .bl _
theorem bin_gtL : BinS X gtL (rI0 fun i j => .bl (decide (j < i))) := bin_intI fun _ _ _ _ => .bl _
theorem bin_geL : BinS X geL (rI0 fun i j => .bl (decide (j ≤ i))) := bin_intI fun _ _ _ _ => .bl _
theorem rv_non {ρ : List Addr} {H : Hp} {v : LV} {x : V} (r : RV X.K X.mg H ρ v x) : decide (x = .non) = (match v with | .non => true | _ => false) := by
  cases r <;> first | rfl | exact decide_eq_false (fun z => nomatch z)
theorem bin_isNL : BinS X isNL (fun x y H Q => y = .non ∧ Q (.bl (decide (x = .non))) H) := by
  intro v u x y ρ h H E Q rh rv ru p
  have e := rv_non rv
  cases u <;> first | (cases v <;> exact bad_of p) | skip
  cases ru
  rw [e]
  cases v <;> exact ⟨rfl, Post.now p rh (.bl _)⟩
theorem bin_notNL : BinS X notNL (fun x y H Q => y = .non ∧ Q (.bl (!decide (x = .non))) H) := by
  intro v u x y ρ h H E Q rh rv ru p
  have e := rv_non rv
  cases u <;> first | (cases v <;> exact bad_of p) | skip
  cases ru
  rw [e]
  cases v <;> exact ⟨rfl, Post.now p rh (.bl _)⟩

/-! ### equality beside the layer -/
theorem optAll_cons {α β : Type} {f : α → Option β} {x : α} {xs : List α} {ys : List β} (e : optAll f (x :: xs) = some ys) : ∃ y r, f x = some y ∧ optAll f xs = some r ∧ ys = y :: r := by
  unfold optAll at e
  cases h1 : f x with
  | none => rw [h1] at e; cases e
  | some y =>
    cases h2 : optAll f xs with
    | none => rw [h1, h2] at e; cases e
    | some r => rw [h1, h2] at e; cases e; exact ⟨y, r, rfl, rfl, rfl⟩
theorem lay_all {α : Type} {f : α → Option PyData} {n : Nat} : ∀ {xs : List α} {ds : List PyData}, (∀ x d, f x = some d → d.canLay0 = true ∧ d.depth ≤ n) → optAll f xs = some ds → PyData.canLayAll0 ds = true ∧ PyData.depthAll ds ≤ n
  | [], ds, _, e => by cases e; exact ⟨by simp [PyData.canLayAll0], by simp [PyData.depthAll]⟩
  | x :: xs, ds, k, e => by
    obtain ⟨y, r, h1, h2, rfl⟩ := optAll_cons e
    have a := k x y h1
    have b := lay_all k h2
    exact ⟨by simp [PyData.canLayAll0, a.1, b.1], by simp only [PyData.depthAll]; omega⟩
theorem toD_lay : ∀ {n : Nat} {h : LH} {v : LV} {d : PyData}, toD n h v = some d → d.canLay0 = true ∧ d.depth ≤ n := by
  intro n
  induction n with
  | zero =>
    intro h v d e
    cases v <;> simp only [toD] at e <;> first | (cases e; exact ⟨by simp [PyData.canLay0], by simp [PyData.depth]⟩) | cases e | skip
    split at e
    · rename_i hs
      cases e; exact ⟨by simpa [PyData.canLay0] using hs, by simp [PyData.depth]⟩
    · cases e
  | succ n ih =>
    intro h v d e
    cases v <;> simp only [toD] at e <;> first | (cases e; exact ⟨by simp [PyData.canLay0], by simp [PyData.depth]⟩) | cases e | skip
    · split at e
      · rename_i hs
        cases e; exact ⟨by simpa [PyData.canLay0] using hs, by simp [PyData.depth]⟩
      · cases e
    · obtain ⟨ds, e1, rfl⟩ := Option.map_eq_some_iff.mp e
      have a := lay_all (n := n) (fun x d q => ih q) e1
      exact ⟨by simpa [PyData.canLay0] using a.1, by simp only [PyData.depth]; omega⟩
    · obtain ⟨ds, e1, rfl⟩ := Option.map_eq_some_iff.mp e
      have a := lay_all (n := n) (fun x d q => ih q) e1
      exact ⟨by simpa [PyData.canLay0] using a.1, by simp only [PyData.depth]; omega⟩
    · split at e
      · obtain ⟨ds, e1, rfl⟩ := Option.map_eq_some_iff.mp e
        have a := lay_all (n := n) (fun x d q => ih q) e1
        exact ⟨by simpa [PyData.canLay0] using a.1, by simp only [PyData.depth]; omega⟩
      · cases e
theorem dp_all {ρ : List Addr} {h : LH} {H : Hp} {n : Nat} (k : ∀ v x d, RV X.K X.mg H ρ v x → toD n h v = some d → Dp X.K H x d) : ∀ {vs : List LV} {xs : List V} {ds : List PyData}, RVs X.K X.mg H ρ vs xs → optAll (toD n h) vs = some ds → DpAll X.K H xs ds
  | [], _, _, r, e => by cases r; cases e; exact .nil
  | v :: vs, _, _, r, e => by
    cases r with
    | cons r t =>
      obtain ⟨y, q, h1, h2, rfl⟩ := optAll_cons e
      exact .cons (k _ _ _ r h1) (dp_all k t h2)
theorem toD_dp {ρ : List Addr} {h : LH} {H : Hp} (rh : RH X.K X.mg ρ h H) : ∀ {n : Nat} {v : LV} {x : V} {d : PyData}, RV X.K X.mg H ρ v x → toD n h v = some d → Dp X.K H x d := by
  intro n
  induction n with
  | zero =>
    intro v x d r e
    cases v <;> simp only [toD] at e <;> first | (cases e; cases r; first | exact .non | exact .bl _ | exact .int _) | cases e | skip
    split at e
    · cases e; cases r; exact .str _
    · cases e
  | succ n ih =>
    intro v x d r e
    cases v <;> simp only [toD] at e <;> first | (cases e; cases r; first | exact .non | exact .bl _ | exact .int _) | cases e | skip
    · split at e
      · cases e; cases r; exact .str _
      · cases e
    · obtain ⟨ds, e1, rfl⟩ := Option.map_eq_some_iff.mp e
      obtain ⟨a, va, rfl, ha, ra⟩ := rv_tup r
      exact .tup (.of ha) (dp_all (fun v x d r e => ih r e) ra e1)
    · obtain ⟨ds, e1, rfl⟩ := Option.map_eq_some_iff.mp e
      obtain ⟨a, va, rfl, ha, ra⟩ := rv_scr r
      exact .lst ha (dp_all (fun v x d r e => ih r e) ra e1)
    · split at e
      · rename_i xs el
        obtain ⟨ds, e1, rfl⟩ := Option.map_eq_some_iff.mp e
        cases r with
        | ref hr =>
          obtain ⟨va, ha, ra⟩ := rv_lst rh el hr
          exact .lst (.of ha) (dp_all (fun v x d r e => ih r e) ra e1)
      · cases e
theorem shaped_of {n : Nat} {h : LH} {v : LV} {d : PyData} (e : toD n h v = some d) (hn : n ≤ 64) : SeqAt.shaped d = true := by
  have a := toD_lay e
  unfold SeqAt.shaped
  rw [a.1, Bool.true_and]
  exact decide_eq_true (by omega)
theorem scl_eq {ρ : List Addr} {H : Hp} {v u : LV} {x y : V} (rv : RV X.K X.mg H ρ v x) (ru : RV X.K X.mg H ρ u y) (e : sclL v u = true) : scal x y = true ∧ decide (x = y) = eqF v u := by
  cases v <;> first | (simp [sclL, flatL] at e; done) | skip <;> cases u <;> first | (simp [sclL, flatL] at e; done) | skip <;> cases rv <;> cases ru <;> first
    | exact ⟨rfl, rfl⟩
    | exact ⟨rfl, decide_eq_false (fun z => nomatch z)⟩
    | exact ⟨rfl, by rw [Bool.eq_iff_iff]; simp [eqF]⟩
def rEqL (K : PySem.W.Frag) : R2 := fun x y H Q => rEq x y H Q ∨ rEqD K x y H Q ∨ rEqDA x y H Q ∨ rEqE K x y H Q
def rNeL (K : PySem.W.Frag) : R2 := fun x y H Q => rNe x y H Q ∨ rNeD K x y H Q
theorem op_eqL (hu : X.A.units + 64 < cLine) : OpR X (compareOp .Eq) (rEqL X.K) := op_eq.or ((op_eqD hu).or ((op_eq_dictA (by omega)).or (op_eqE (by omega))))
theorem rv_emp {ρ : List Addr} {h : LH} {H : Hp} {v : LV} {x : V} (rh : RH X.K X.mg ρ h H) (r : RV X.K X.mg H ρ v x) (e : isE h v = true) : ∃ a, x = .ref a ∧ H a = some (.dK []) := by
  cases v <;> simp only [isE] at e <;> try cases e
  split at e
  · rename_i q
    cases r with
    | ref hr =>
      obtain ⟨kv, hk, z⟩ := (show RO X.K X.mg H ρ (.dct false []) _ from rh.obj _ _ _ q hr)
      cases kv with
      | nil => exact ⟨_, rfl, hk⟩
      | cons p ps => cases z
  · cases e
theorem op_neL (hu : X.A.units + 64 < cLine) : OpR X (compareOp .NotEq) (rNeL X.K) := op_ne.or (op_neD hu)
theorem bin_eqL : BinS X eqL (rEqL X.K) := by
  intro v u x y ρ h H E Q rh rv ru p
  unfold eqL at p
  split at p
  · rename_i e
    obtain ⟨a, b⟩ := scl_eq rv ru e
    exact .inl ⟨a, by rw [b]; exact Post.now p rh (.bl _)⟩
  · split at p
    · rename_i e
      obtain ⟨a, rfl, ha⟩ := rv_emp rh rv e.1
      obtain ⟨b, rfl, hb⟩ := rv_emp rh ru e.2
      exact .inr (.inr (.inl ⟨a, b, [], [], rfl, rfl, ha, hb, rfl, fun q hq => (by cases hq), Post.now p rh (.bl _)⟩))
    split at p
    · rename_i e
      obtain ⟨a, rfl, ha⟩ := rv_emp rh rv e.1
      cases u with
      | tup us =>
        obtain ⟨b, vb, rfl, hb, rb⟩ := rv_tup ru
        exact .inr (.inr (.inr ⟨a, b, vb, rfl, rfl, ha, .of hb, Post.now p rh (.bl _)⟩))
      | _ => exact (by cases e.2)
    · split at p
      · rename_i d e h1 h2
        exact .inr (.inl ⟨d, e, toD_dp rh rv h1, toD_dp rh ru h2, shaped_of h1 (by decide), shaped_of h2 (by decide), Post.now p rh (.bl _)⟩)
      · exact bad_of p
theorem bin_neL : BinS X neL (rNeL X.K) := by
  intro v u x y ρ h H E Q rh rv ru p
  unfold neL at p
  split at p
  · rename_i e
    obtain ⟨a, b⟩ := scl_eq rv ru e
    exact .inl ⟨a, by rw [b]; exact Post.now p rh (.bl _)⟩
  · split at p
    · rename_i d e h1 h2
      exact .inr ⟨d, e, toD_dp rh rv h1, toD_dp rh ru h2, shaped_of h1 (by decide), shaped_of h2 (by decide), Post.now p rh (.bl _)⟩
    · exact bad_of p

/-! ### in, items, parts beside the layer -/
theorem flat_rv {ρ : List Addr} {H : Hp} {v : LV} {x : V} (r : RV X.K X.mg H ρ v x) (e : flatL v = true) : flatV x = true := by
  cases r <;> first | rfl | cases e
theorem flat_rvs {ρ : List Addr} {H : Hp} : ∀ {v : List LV} {x : List V}, RVs X.K X.mg H ρ v x → v.all flatL = true → x.all flatV = true
  | [], _, r, _ => by cases r; rfl
  | v :: vs, _, r, e => by
    cases r with
    | cons r t =>
      rw [List.all_cons, Bool.and_eq_true] at e ⊢
      exact ⟨flat_rv r e.1, flat_rvs t e.2⟩
theorem eqF_rv {ρ : List Addr} {H : Hp} {v u : LV} {x y : V} (r : RV X.K X.mg H ρ v x) (t : RV X.K X.mg H ρ u y) (e : flatL v = true) (f : flatL u = true) : eqV x y = eqF v u := by
  cases v <;> simp [flatL] at e <;> cases u <;> simp [flatL] at f <;> cases r <;> cases t <;> rfl
theorem any_rv {ρ : List Addr} {H : Hp} {u : LV} {y : V} (t : RV X.K X.mg H ρ u y) (f : flatL u = true) : ∀ {v : List LV} {x : List V}, RVs X.K X.mg H ρ v x → v.all flatL = true → inV y x = v.any fun z => eqF z u
  | [], _, r, _ => by cases r; rfl
  | v :: vs, _, r, e => by
    cases r with
    | cons r q =>
      rw [List.all_cons, Bool.and_eq_true] at e
      unfold inV
      rw [List.any_cons, List.any_cons, eqF_rv r t e.1 f]
      have z := any_rv t f q e.2
      unfold inV at z
      rw [z]
theorem op_in0 : OpR X (compareOp .In) (fun x y H Q => ∃ q, y = .ref q ∧ SqL X.K H q [] ∧ Q (.bl false) H) := by
  intro pins s σ H x y v u Q I rx ry t
  obtain ⟨q, rfl, hs, t⟩ := t
  cases ry
  obtain ⟨its, r, pl, _⟩ := I.list hs
  cases r
  exact SeqAt.in_listAt (fun _ => false) pl.isList (fun w hw => by simp at hw) ⟨.bl _, H, I, rfl, by simpa using t⟩
theorem op_notIn0 : OpR X (compareOp .NotIn) (fun x y H Q => ∃ q, y = .ref q ∧ SqL X.K H q [] ∧ Q (.bl true) H) := by
  intro pins s σ H x y v u Q I rx ry t
  obtain ⟨q, rfl, hs, t⟩ := t
  cases ry
  obtain ⟨its, r, pl, _⟩ := I.list hs
  cases r
  exact SeqAt.notIn_listAt (fun _ => false) pl.isList (fun w hw => by simp at hw) ⟨.bl _, H, I, rfl, by simpa using t⟩
def rInDT (K : PySem.W.Frag) (f : Bool → Bool) : R2 := fun x y H Q => ∃ d ds, Dp K H x d ∧ Dp K H y (.tuple ds) ∧ SeqAt.shaped d = true ∧ SeqAt.shaped (.tuple ds) = true ∧ Q (.bl (f (ds.any fun z => PyData.eqv z d))) H
theorem op_inDT (hu : X.A.units + 65 < cLine) : OpR X (compareOp .In) (rInDT X.K id) := by
  rintro pins s σ H x y v u Q I rx ry ⟨d, ds, hd, he, sd, se, q⟩
  obtain ⟨as, r1⟩ := Dp.reads I d x v hd rx
  obtain ⟨bs, r2⟩ := Dp.reads I (.tuple ds) y u he ry
  exact SeqAt.in_tuple_reads r2 r1 (SeqAt.canLay_of_shaped se) (SeqAt.canLay_of_shaped sd) (room_in_shaped sd hu) ⟨.bl _, H, I, rfl, q⟩
theorem op_notInDT (hu : X.A.units + 65 < cLine) : OpR X (compareOp .NotIn) (rInDT X.K not) := by
  rintro pins s σ H x y v u Q I rx ry ⟨d, ds, hd, he, sd, se, q⟩
  obtain ⟨as, r1⟩ := Dp.reads I d x v hd rx
  obtain ⟨bs, r2⟩ := Dp.reads I (.tuple ds) y u he ry
  exact SeqAt.notIn_tuple_reads r2 r1 (SeqAt.canLay_of_shaped se) (SeqAt.canLay_of_shaped sd) (room_in_shaped sd hu) ⟨.bl _, H, I, rfl, q⟩
def rInL (K : PySem.W.Frag) : R2 := fun x y H Q => (∃ q, y = .ref q ∧ SqL K H q [] ∧ Q (.bl false) H) ∨ (∃ (c : Nat) (z : Str), x = .str ⟨#[c]⟩ ∧ y = .str z ∧ Q (.bl (decide (c ∈ z.cps.toList))) H) ∨ rIn K false x y H Q ∨ rInD K x y H Q ∨ rInDT K id x y H Q
def rNotInL (K : PySem.W.Frag) : R2 := fun x y H Q => (∃ q, y = .ref q ∧ SqL K H q [] ∧ Q (.bl true) H) ∨ (∃ (c : Nat) (z : Str), x = .str ⟨#[c]⟩ ∧ y = .str z ∧ Q (.bl (!decide (c ∈ z.cps.toList))) H) ∨ rIn K true x y H Q ∨ rNotInD K x y H Q ∨ rInDT K not x y H Q
theorem op_inL (hu : X.A.units + 65 < cLine) : OpR X (compareOp .In) (rInL X.K) := op_in0.or <| op_in_sign.or (op_in_seq.or ((op_inD hu).or (op_inDT hu)))
theorem op_notInL (hu : X.A.units + 65 < cLine) : OpR X (compareOp .NotIn) (rNotInL X.K) := op_notIn0.or <| op_notIn_sign.or (op_notIn_seq.or ((op_notInD hu).or (op_notInDT hu)))
theorem shaped_list {α : Type} {f : α → Option PyData} {n : Nat} {xs : List α} {ds : List PyData} (k : ∀ x d, f x = some d → d.canLay0 = true ∧ d.depth ≤ n) (e : optAll f xs = some ds) (hn : n < 64) : SeqAt.shaped (.list ds) = true := by
  have a := lay_all k e
  unfold SeqAt.shaped
  rw [show (PyData.list ds).canLay0 = true by simpa [PyData.canLay0] using a.1, Bool.true_and]
  exact decide_eq_true (by simp only [PyData.depth]; omega)
theorem shaped_tup {α : Type} {f : α → Option PyData} {n : Nat} {xs : List α} {ds : List PyData} (k : ∀ x d, f x = some d → d.canLay0 = true ∧ d.depth ≤ n) (e : optAll f xs = some ds) (hn : n < 64) : SeqAt.shaped (.tuple ds) = true := by
  have a := lay_all k e
  unfold SeqAt.shaped
  rw [show (PyData.tuple ds).canLay0 = true by simpa [PyData.canLay0] using a.1, Bool.true_and]
  exact decide_eq_true (by simp only [PyData.depth]; omega)
theorem in_core {ρ : List Addr} {h : LH} {H : Hp} {E : XK} {Q : VK} {f : Bool → Bool} {v u : LV} {x y : V} {R : Prop} (rh : RH X.K X.mg ρ h H) (rv : RV X.K X.mg H ρ v x) (ru : RV X.K X.mg H ρ u y) (p : Post X.K X.mg (RV X.K X.mg) E ρ H Q (inBy f v u h))
    (k0 : ∀ q, y = .ref q → SqL X.K H q [] → Q (.bl (f false)) H → R)
    (k1 : ∀ (c : Nat) (z : Str), x = .str ⟨#[c]⟩ → y = .str z → Q (.bl (f (decide (c ∈ z.cps.toList)))) H → R)
    (k2 : ∀ q xs, y = .ref q → (SqL X.K H q xs ∨ SqT X.K H q xs) → flatV x = true → xs.all flatV = true → Q (.bl (f (inV x xs))) H → R)
    (k3 : ∀ d ds, Dp X.K H x d → Dp X.K H y (.list ds) → SeqAt.shaped d = true → SeqAt.shaped (.list ds) = true → Q (.bl (f (ds.any fun z => PyData.eqv z d))) H → R)
    (k4 : ∀ d ds, Dp X.K H x d → Dp X.K H y (.tuple ds) → SeqAt.shaped d = true → SeqAt.shaped (.tuple ds) = true → Q (.bl (f (ds.any fun z => PyData.eqv z d))) H → R) : R := by
  unfold inBy at p
  split at p
  · cases rv; cases ru
    split at p
    · rename_i c es
      have e2 := sgn_eq es
      subst e2
      exact k1 _ _ rfl rfl (Post.now p rh (.bl _))
    · exact bad_of p
  · obtain ⟨a, va, rfl, ha, ra⟩ := rv_tup ru
    split at p
    · rename_i e
      refine k2 a va rfl (.inr (.of ha)) (flat_rv rv e.1) (flat_rvs ra e.2) ?_
      rw [any_rv rv e.1 ra e.2]
      exact Post.now p rh (.bl _)
    · dsimp only at p
      split at p
      · rename_i d ds h1 h2
        exact k4 d ds (toD_dp rh rv h1) (.tup (.of ha) (dp_all (fun v x d r e => toD_dp rh r e) ra h2)) (shaped_of h1 (by decide)) (shaped_tup (fun x d q => toD_lay q) h2 (by decide)) (Post.now p rh (.bl _))
      · exact bad_of p
  · obtain ⟨a, va, rfl, ha, ra⟩ := rv_scr ru
    split at p
    · rename_i e
      refine k2 a va rfl (.inl ha) (flat_rv rv e.1) (flat_rvs ra e.2) ?_
      rw [any_rv rv e.1 ra e.2]
      exact Post.now p rh (.bl _)
    · exact bad_of p
  · dsimp only at p
    split at p
    · rename_i el
      cases ru with
      | ref hr =>
        obtain ⟨va, ha, ra⟩ := rv_lst rh el hr
        cases ra
        exact k0 _ rfl (.of ha) (Post.now p rh (.bl _))
    · rename_i ys _ el
      cases ru with
      | ref hr =>
        obtain ⟨va, ha, ra⟩ := rv_lst rh el hr
        split at p
        · rename_i e
          refine k2 _ va rfl (.inl (.of ha)) (flat_rv rv e.1) (flat_rvs ra e.2) ?_
          rw [any_rv rv e.1 ra e.2]
          exact Post.now p rh (.bl _)
        · split at p
          · rename_i d ds h1 h2
            exact k3 d ds (toD_dp rh rv h1) (.lst (.of ha) (dp_all (fun v x d r e => toD_dp rh r e) ra h2)) (shaped_of h1 (by decide)) (shaped_list (fun x d q => toD_lay q) h2 (by decide)) (Post.now p rh (.bl _))
          · exact bad_of p
    · exact bad_of p
  · exact bad_of p
theorem bin_inL : BinS X inL (rInL X.K) := fun v u x y ρ h H E Q rh rv ru p =>
  in_core rh rv ru p (fun q h1 h2 h3 => .inl ⟨q, h1, h2, h3⟩) (fun c z h1 h2 q => .inr (.inl ⟨c, z, h1, h2, q⟩)) (fun q xs h1 h2 h3 h4 h5 => .inr (.inr (.inl ⟨q, xs, h1, h2, h3, h4, h5⟩))) (fun d ds h1 h2 h3 h4 h5 => .inr (.inr (.inr (.inl ⟨d, ds, h1, h2, h3, h4, h5⟩)))) fun d ds h1 h2 h3 h4 h5 => .inr (.inr (.inr (.inr ⟨d, ds, h1, h2, h3, h4, h5⟩)))
theorem bin_notInL : BinS X notInL (rNotInL X.K) := fun v u x y ρ h H E Q rh rv ru p =>
  in_core rh rv ru p (fun q h1 h2 h3 => .inl ⟨q, h1, h2, h3⟩) (fun c z h1 h2 q => .inr (.inl ⟨c, z, h1, h2, q⟩)) (fun q xs h1 h2 h3 h4 h5 => .inr (.inr (.inl ⟨q, xs, h1, h2, h3, h4, h5⟩))) (fun d ds h1 h2 h3 h4 h5 => .inr (.inr (.inr (.inl ⟨d, ds, h1, h2, h3, h4, h5⟩)))) fun d ds h1 h2 h3 h4 h5 => .inr (.inr (.inr (.inr ⟨d, ds, h1, h2, h3, h4, h5⟩)))
theorem atI_rvs {ρ : List Addr} {H : Hp} {xs : List LV} {vs : List V} {i : Int} {v : LV} (r : RVs X.K X.mg H ρ xs vs) (e : atI xs i = some v) : ∃ z, atI vs i = some z ∧ RV X.K X.mg H ρ v z := by
  unfold atI at e ⊢
  rw [← r.length]
  cases q : ixN xs.length i with
  | none => rw [q] at e; cases e
  | some j =>
    rw [q] at e
    obtain ⟨z, h1, h2⟩ := r.get (show xs[j]? = some v from e)
    exact ⟨z, h1, h2⟩
theorem bin_getL : BinS X getL (rIx X.K) := by
  intro v u x y ρ h H E Q rh rv ru p
  unfold getL at p
  split at p
  · obtain ⟨a, va, rfl, ha, ra⟩ := rv_tup rv
    cases ru
    split at p
    · rename_i e
      obtain ⟨z, h1, h2⟩ := atI_rvs ra e
      exact .inr (.inl ⟨a, va, _, z, rfl, rfl, .of ha, h1, Post.now p rh h2⟩)
    · exact bad_of p
  · obtain ⟨a, va, rfl, ha, ra⟩ := rv_scr rv
    cases ru
    split at p
    · rename_i e
      obtain ⟨z, h1, h2⟩ := atI_rvs ra e
      exact .inl ⟨a, va, _, z, rfl, rfl, ha, h1, Post.now p rh h2⟩
    · exact bad_of p
  · cases ru
    cases rv with
    | ref hr =>
      split at p
      · rename_i xs el
        obtain ⟨va, ha, ra⟩ := rv_lst rh el hr
        split at p
        · rename_i e
          obtain ⟨z, h1, h2⟩ := atI_rvs ra e
          exact .inl ⟨_, va, _, z, rfl, rfl, .of ha, h1, Post.now p rh h2⟩
        · exact bad_of p
      · exact bad_of p
  · cases rv; cases ru
    split at p
    · rename_i e
      split at p
      · rename_i c ec
        exact .inr (.inr ⟨_, _, c, rfl, rfl, e, ec, Post.now p rh (.str _)⟩)
      · exact bad_of p
    · exact bad_of p
  · exact bad_of p
variable {W : WX} {a b e : Expr} {ma mb : LE} {pos : Pos}
theorem se_ix (ha : SE X W a ma) (hb : SE X W b mb) (hs : PlainIx b) : SE X W (.Subscript a b pos) (opM getL ma mb) := pe_imp (pe_ix ix_seq ha hb hs) fun _ _ _ t => op_read bin_getL t
theorem cut_rvs {ρ : List Addr} {H : Hp} {xs : List LV} {vs : List V} (lo hi : Option Int) (r : RVs X.K X.mg H ρ xs vs) : RVs X.K X.mg H ρ (cutL xs lo hi) (cutV vs lo hi) := by
  unfold cutL cutV
  rw [← r.length]
  exact (r.drop _).take _
def rSlcL (K : PySem.W.Frag) : V → Option Int → Option Int → Hp → VK → Prop := fun x lo hi H Q => rSlL K x lo hi H Q ∨ rSlA K x lo hi H Q ∨ rSlS x lo hi H Q
theorem slc_ok {lo hi : Option Int} {ρ : List Addr} {h : LH} {H : Hp} {E : XK} {Q : VK} {v : LV} {x : V} (rh : RH X.K X.mg ρ h H) (rv : RV X.K X.mg H ρ v x) (p : Post X.K X.mg (RV X.K X.mg) E ρ H Q (sliceL lo hi v h)) : rSlcL X.K x lo hi H Q := by
  unfold sliceL at p
  split at p
  · obtain ⟨a, va, rfl, ha, ra⟩ := rv_tup rv
    refine .inr (.inl ⟨a, va, rfl, .of ha, fun z => ?_, fun _ => tup_ok rh (cut_rvs lo hi ra) p⟩)
    have e : cutV va lo hi = va := by
      unfold cutV
      rw [z.1, z.2]
      simp
    have r2 := cut_rvs lo hi ra
    rw [e] at r2
    exact Post.now p rh (.tup ha r2)
  · obtain ⟨a, va, rfl, ha, ra⟩ := rv_scr rv
    exact .inl ⟨a, va, rfl, ha, lst_ok rh (cut_rvs lo hi ra) p⟩
  · split at p
    · rename_i xs el
      cases rv with
      | ref hr =>
        obtain ⟨va, ha, ra⟩ := rv_lst rh el hr
        exact .inl ⟨_, va, rfl, .of ha, lst_ok rh (cut_rvs lo hi ra) p⟩
    · exact bad_of p
  · cases rv
    split at p
    · rename_i e
      exact .inr (.inr ⟨_, rfl, e, Post.now p rh (.str _)⟩)
    · exact bad_of p
  · exact bad_of p
section
variable (K : PySem.W.Frag) (mg : Str → Option Value)
def tO (W : WX) (m : LO') : TO := fun σ H Q => ∃ s ρ h, RSt K mg H ρ s σ ∧ RH K mg ρ h H ∧ Post K mg (fun _ _ (a b : Option Int) => a = b) (fun C d H' => W C d σ H') ρ H Q (m s h)
end
theorem po_imp {e : Option Expr} {t t' : TO} (p : PO X e t) (h : ∀ σ H Q, t' σ H Q → t σ H Q) : PO X e t' := ⟨fun pins s σ H Q I q => p.run pins s σ H Q I (h σ H Q q)⟩
abbrev SO (X : Cx) (W : WX) (e : Option Expr) (m : LO') : Prop := PO X e (tO X.K X.mg W m)
theorem so_none : SO X W none poN := po_imp po_none fun σ H Q ⟨s, ρ, h, rs, rh, p⟩ => Post.now p rh rfl
theorem so_some (he : SE X W e ma) : SO X W (some e) (poS ma) := by
  refine po_imp (po_some he) fun σ H Q ⟨s, ρ, h, rs, rh, p⟩ => ?_
  refine seqE rs rh p fun v h1 ρ1 H1 x e1 rh1 rv rs1 p1 => ?_
  cases v <;> first | exact bad_of p1 | skip
  cases rv
  exact ⟨_, rfl, Post.now p1 rh1 rfl⟩
theorem seqO {γ γ' : Type} {rel' : Hp → List Addr → γ → γ' → Prop} {Q : γ' → Hp → Prop} {σ : L2.St} {H : Hp} {ρ : List Addr} {s : LSt} {h : LH} {ma : LO'} {f : Option Int → M γ} {R : Option Int → Hp → Prop} (rs : RSt X.K X.mg H ρ s σ) (rh : RH X.K X.mg ρ h H) (p : Post X.K X.mg rel' (fun C d H' => W C d σ H') ρ H Q (bnd (ma s) f h))
    (k : ∀ v h1 ρ1 H1, Ext ρ H ρ1 H1 → RH X.K X.mg ρ1 h1 H1 → RSt X.K X.mg H1 ρ1 s σ → Post X.K X.mg rel' (fun C d H' => W C d σ H') ρ1 H1 Q (f v h1) → R v H1) : tO X.K X.mg W ma σ H R :=
  ⟨s, ρ, h, rs, rh, post_bnd p fun v h1 ρ1 H1 x e r rv p1 => by cases (show v = x from rv); exact k v h1 ρ1 H1 e r (rs.up e) p1⟩
theorem se_slice {lo hi : Option Expr} {ml mh : LO'} {p2 : Pos} (he : SE X W e ma) (hl : SO X W lo ml) (hh : SO X W hi mh) : SE X W (.Subscript e (.Slice lo hi none p2) pos) (slcM ma ml mh) := by
  refine pe_imp (pe_slice (sl_list.or (sl_tupA.or sl_str)) he hl hh) fun σ H Q ⟨s, ρ, h, rs, rh, p⟩ => ?_
  exact seqE rs rh p fun v h1 ρ1 H1 x e1 rh1 rv rs1 p1 => seqO rs1 rh1 p1 fun i h2 ρ2 H2 e2 rh2 rs2 p2 => seqO rs2 rh2 p2 fun j h3 ρ3 H3 e3 rh3 rs3 p3 => slc_ok rh3 ((rv.up e2).up e3) p3

/-! ### built-in functions beside the layer -/
theorem rvs1 {ρ : List Addr} {H : Hp} {v : LV} {xs : List V} (r : RVs X.K X.mg H ρ [v] xs) : ∃ x, xs = [x] ∧ RV X.K X.mg H ρ v x := by
  cases r with
  | cons r t => cases t; exact ⟨_, rfl, r⟩
theorem rvs2 {ρ : List Addr} {H : Hp} {v u : LV} {xs : List V} (r : RVs X.K X.mg H ρ [v, u] xs) : ∃ x y, xs = [x, y] ∧ RV X.K X.mg H ρ v x ∧ RV X.K X.mg H ρ u y := by
  cases r with
  | cons r t =>
    obtain ⟨y, rfl, r2⟩ := rvs1 t
    exact ⟨_, y, rfl, r, r2⟩
theorem cal_len : CalS X lenL (fun xs H Q => ∃ x n, xs = [x] ∧ LenV X.K x H n ∧ Q (.int n) H) := by
  intro v x ρ h H E Q rh rv p
  unfold lenL at p
  split at p
  · obtain ⟨x, rfl, r⟩ := rvs1 rv
    obtain ⟨a, va, rfl, ha, ra⟩ := rv_tup r
    refine ⟨_, _, rfl, .inr ⟨va, .of ha, rfl⟩, ?_⟩
    rw [← ra.length]
    exact Post.now p rh (.int _)
  · obtain ⟨x, rfl, r⟩ := rvs1 rv
    obtain ⟨a, va, rfl, ha, ra⟩ := rv_scr r
    refine ⟨_, _, rfl, .inl ⟨va, ha, rfl⟩, ?_⟩
    rw [← ra.length]
    exact Post.now p rh (.int _)
  · obtain ⟨x, rfl, r⟩ := rvs1 rv
    cases r
    split at p
    · rename_i e
      exact ⟨_, _, rfl, ⟨e, rfl⟩, Post.now p rh (.int _)⟩
    · exact bad_of p
  · obtain ⟨x, rfl, r⟩ := rvs1 rv
    cases r with
    | ref hr =>
      split at p
      · rename_i xs el
        obtain ⟨va, ha, ra⟩ := rv_lst rh el hr
        refine ⟨_, _, rfl, .inl ⟨va, .of ha, rfl⟩, ?_⟩
        rw [← ra.length]
        exact Post.now p rh (.int _)
      · exact bad_of p
  · exact bad_of p
theorem kit_all : ∀ (k : Kd) (t : Ty), kitB k.nm t.nm = some (isK k t) := by
  intro k t
  cases k <;> cases t <;> decide +kernel
theorem kd_ty {ρ : List Addr} {h : LH} {H : Hp} {v : LV} {x : V} {k : Kd} (rh : RH X.K X.mg ρ h H) (r : RV X.K X.mg H ρ v x) (e : kdL h v = some k) : TyX X.K H x (.type k.nm) := by
  unfold kdL at e
  split at e
  · cases e; cases r; exact .base .non
  · cases e; cases r; exact .base (.bl _)
  · cases e; cases r; exact .base (.int _)
  · cases e; cases r; exact .base (.str _)
  · cases e
    obtain ⟨a, va, rfl, ha, ra⟩ := rv_tup r
    exact .base (.tup ha)
  · cases e
    cases r with
    | scrF h r => exact .base (.frz h)
    | scrK h h1 h2 h3 h4 h5 r => exact .kList h h1
  · cases r with
    | ref hr =>
      split at e
      · rename_i xs el
        cases e
        obtain ⟨va, ha, ra⟩ := rv_lst rh el hr
        exact .base (.lst ha)
      · rename_i tk kvs el
        cases e
        cases tk with
        | false =>
          obtain ⟨kv, hk, _⟩ := (show RO X.K X.mg H ρ (.dct false kvs) _ from rh.obj _ _ _ el hr)
          exact .base (.dK hk)
        | true =>
          obtain ⟨kv, hk, _⟩ := (show RO X.K X.mg H ρ (.dct true kvs) _ from rh.obj _ _ _ el hr)
          exact .base (.dT hk)
      · cases e
  · cases e
theorem cal_isi : CalS X isiL (rIsi X.K) := by
  intro v x ρ h H E Q rh rv p
  unfold isiL at p
  split at p
  · rename_i v t
    obtain ⟨x, y, rfl, r1, r2⟩ := rvs2 rv
    cases r2
    split at p
    · rename_i k e
      exact ⟨x, _, _, _, _, rfl, .ty _, kd_ty rh r1 e, kit_ty (kit_all k t), Post.now p rh (.bl _)⟩
    · exact bad_of p
  · exact bad_of p
theorem cal_max : CalS X maxL (fun xs H Q => ∃ i j, xs = [.int i, .int j] ∧ Q (.int (if j > i then j else i)) H) := by
  intro v x ρ h H E Q rh rv p
  unfold maxL at p
  split at p
  · obtain ⟨x, y, rfl, r1, r2⟩ := rvs2 rv
    cases r1; cases r2
    exact ⟨_, _, rfl, Post.now p rh (.int _)⟩
  · exact bad_of p
theorem cal_min : CalS X minL (fun xs H Q => ∃ i j, xs = [.int i, .int j] ∧ Q (.int (if j < i then j else i)) H) := by
  intro v x ρ h H E Q rh rv p
  unfold minL at p
  split at p
  · obtain ⟨x, y, rfl, r1, r2⟩ := rvs2 rv
    cases r1; cases r2
    exact ⟨_, _, rfl, Post.now p rh (.int _)⟩
  · exact bad_of p
theorem asBs_rvs {ρ : List Addr} {H : Hp} : ∀ {xs : List LV} {vs : List V} {bs : List Bool}, RVs X.K X.mg H ρ xs vs → asBs xs = some bs → vs = bs.map V.bl
  | [], _, _, r, e => by cases r; cases e; rfl
  | v :: vs, _, _, r, e => by
    cases r with
    | cons r t =>
      cases v <;> simp only [asBs] at e <;> first | cases e | skip
      obtain ⟨bs, e1, rfl⟩ := Option.map_eq_some_iff.mp e
      cases r
      rw [asBs_rvs t e1]
      rfl
theorem cal_all : CalS X allL (fun vs H Q => ∃ (a : Addr) (bs : List Bool), vs = [V.ref a] ∧ SqL X.K H a (bs.map V.bl) ∧ Q (.bl (bs.all id)) H) := by
  intro v x ρ h H E Q rh rv p
  unfold allL at p
  split at p
  · obtain ⟨x, rfl, r⟩ := rvs1 rv
    cases r with
    | ref hr =>
      split at p
      · rename_i xs el
        obtain ⟨va, ha, ra⟩ := rv_lst rh el hr
        split at p
        · rename_i bs eb
          rw [asBs_rvs ra eb] at ha
          exact ⟨_, bs, rfl, .of ha, Post.now p rh (.bl _)⟩
        · exact bad_of p
      · exact bad_of p
  · exact bad_of p
end
end Fw

set_option maxRecDepth 100000
set_option maxHeartbeats 4000000
namespace Fw
open PySem PySem.Spec PyProof.Rows L2

/-! ### the same value -/
mutual
def eqLV : LV → LV → Bool
  | .ty a, .ty b => a == b
  | .non, .non => true
  | .bl a, .bl b => a == b
  | .int a, .int b => a == b
  | .str a, .str b => a == b
  | .tup a, .tup b => eqLVs a b
  | .scr a, .scr b => eqLVs a b
  | .ref a, .ref b => a == b
  | .fn a, .fn b => a == b
  | .exc a b, .exc c d => a == c && eqLFs b d
  | _, _ => false
def eqLVs : List LV → List LV → Bool
  | [], [] => true
  | x :: xs, y :: ys => eqLV x y && eqLVs xs ys
  | _, _ => false
def eqLFs : List (Str × LV) → List (Str × LV) → Bool
  | [], [] => true
  | (n, x) :: xs, (m, y) :: ys => n == m && eqLV x y && eqLFs xs ys
  | _, _ => false
end
mutual
theorem eqLV_eq : ∀ (a b : LV), eqLV a b = true → a = b
  | .ty a, b, e => by cases b <;> simp [eqLV] at e; rw [e]
  | .non, b, e => by cases b <;> simp [eqLV] at e; rfl
  | .bl a, b, e => by cases b <;> simp [eqLV] at e; rw [e]
  | .int a, b, e => by cases b <;> simp [eqLV] at e; rw [e]
  | .str a, b, e => by cases b <;> simp [eqLV] at e; rw [e]
  | .tup a, b, e => by cases b <;> simp [eqLV] at e; rw [eqLVs_eq a _ e]
  | .scr a, b, e => by cases b <;> simp [eqLV] at e; rw [eqLVs_eq a _ e]
  | .ref a, b, e => by cases b <;> simp [eqLV] at e; rw [e]
  | .fn a, b, e => by cases b <;> simp [eqLV] at e; rw [e]
  | .exc a c, b, e => by cases b <;> simp [eqLV] at e; rw [e.1, eqLFs_eq c _ e.2]
theorem eqLVs_eq : ∀ (a b : List LV), eqLVs a b = true → a = b
  | [], b, e => by cases b <;> simp [eqLVs] at e; rfl
  | x :: xs, b, e => by cases b <;> simp [eqLVs] at e; rw [eqLV_eq x _ e.1, eqLVs_eq xs _ e.2]
theorem eqLFs_eq : ∀ (a b : List (Str × LV)), eqLFs a b = true → a = b
  | [], b, e => by cases b <;> simp [eqLFs] at e; rfl
  | (n, x) :: xs, b, e => by
    cases b with
    | nil => simp [eqLFs] at e
    | cons y ys =>
      obtain ⟨m, y⟩ := y
      simp [eqLFs] at e
      rw [e.1.1, eqLV_eq x _ e.1.2, eqLFs_eq xs _ e.2]
end
mutual
theorem eqLV_refl : ∀ a : LV, eqLV a a = true
  | .ty a => by simp [eqLV]
  | .non => by simp [eqLV]
  | .bl a => by simp [eqLV]
  | .int a => by simp [eqLV]
  | .str a => by simp [eqLV]
  | .tup a => by simp [eqLV, eqLVs_refl a]
  | .scr a => by simp [eqLV, eqLVs_refl a]
  | .ref a => by simp [eqLV]
  | .fn a => by simp [eqLV]
  | .exc a c => by simp [eqLV, eqLFs_refl c]
theorem eqLVs_refl : ∀ a : List LV, eqLVs a a = true
  | [] => by simp [eqLVs]
  | x :: xs => by simp [eqLVs, eqLV_refl x, eqLVs_refl xs]
theorem eqLFs_refl : ∀ a : List (Str × LV), eqLFs a a = true
  | [] => by simp [eqLFs]
  | (n, x) :: xs => by simp [eqLFs, eqLV_refl x, eqLFs_refl xs]
end

/-! ### targets -/
def gAll : List LG → List LV → LSt → M LSt
  | [], [], s => ret s
  | g :: gs, x :: xs, s => bnd (g x s) (gAll gs xs)
  | _, _, _ => bad
def seqV (h : LH) : LV → Option (List LV)
  | .tup xs => some xs
  | .scr xs => some xs
  | .ref l => match h[l]? with
    | some (.lst xs) => some xs
    | _ => none
  | _ => none
def gTp (gs : List LG) : LG := fun v s h => match seqV h v with
  | some xs => if xs.length = gs.length then gAll gs xs s h else .bad
  | none => .bad
section
variable (K : PySem.W.Frag) (mg : Str → Option Value)
def tGs (gs : List LG) : TGs := fun xs σ H Q => ∃ vs s ρ h, RVs K mg H ρ vs xs ∧ RSt K mg H ρ s σ ∧ RH K mg ρ h H ∧ Post K mg (RSt K mg) (fun _ _ _ => False) ρ H Q (gAll gs vs s h)
end
section
variable {X : Cx} {es : List Expr} {e : Expr} {g : LG} {gs : List LG} {pos : Pos}
theorem pgs_imp {t t' : TGs} (p : PGs X es t) (h : ∀ x σ H Q, t' x σ H Q → t x σ H Q) : PGs X es t' := ⟨fun pins s σ H v u Q I r q => p.run pins s σ H v u Q I r (h v σ H Q q)⟩
abbrev SGs (X : Cx) (es : List Expr) (gs : List LG) : Prop := PGs X es (tGs X.K X.mg gs)
theorem sgs_nil : SGs X [] [] := pgs_imp pgs_nil fun xs σ H Q ⟨vs, s, ρ, h, rv, rs, rh, p⟩ => by
  cases vs with
  | nil => cases rv; exact ⟨rfl, p ρ H σ Ext.refl rh rs⟩
  | cons v vs => exact bad_of p
theorem sgs_cons (h1 : SG X e g) (h2 : SGs X es gs) (hs : (assignEach (e :: es) X.env).map (·.2) = assign e X.env :: (assignEach es X.env).map (·.2) := by rfl) : SGs X (e :: es) (g :: gs) :=
  pgs_imp (pgs_cons h1 h2 hs) fun xs σ H Q ⟨vs, s, ρ, h, rv, rs, rh, p⟩ => by
    cases vs with
    | nil => exact bad_of p
    | cons v vs =>
      cases rv with
      | cons r t =>
        refine ⟨_, _, rfl, v, s, ρ, h, r, rs, rh, ?_⟩
        exact post_bnd p fun s1 h1 ρ1 H1 σ1 e1 rh1 rs1 p1 => ⟨vs, s1, ρ1, h1, t.up e1, rs1, rh1, p1⟩
theorem sg_tup {k} (hc : X.calm = true) (h : SGs X es gs) (hl : gs.length = (assignEach es X.env).length := by rfl) (hst : (assignEach es X.env).findIdx? (·.1) = none := by rfl) : SG X (.Tuple es k pos) (gTp gs) := by
  refine pg_imp (pg_alt (pg_tup (n := gs.length) hc h hl.symm hst) (pg_unl (n := gs.length) hc h hl.symm hst)) fun x σ H Q ⟨v, s, ρ, h, rv, rs, rh, p⟩ => ?_
  unfold gTp at p
  cases e : seqV h v with
  | none => rw [e] at p; exact bad_of p
  | some xs =>
    rw [e] at p
    have hl2 : gs.length = xs.length := by
      dsimp only at p
      split at p
      · rename_i q; exact q.symm
      · exact bad_of p
    dsimp only at p
    rw [if_pos hl2.symm] at p
    unfold seqV at e
    split at e
    · cases e
      obtain ⟨a, va, rfl, ha, ra⟩ := rv_tup rv
      exact .inl ⟨a, va, rfl, .of ha, by rw [hl2]; exact ra.length.symm, xs, s, ρ, h, ra, rs, rh, p⟩
    · cases e
      obtain ⟨a, va, rfl, ha, ra⟩ := rv_scr rv
      exact .inr ⟨a, va, rfl, ha, by rw [hl2]; exact ra.length.symm, xs, s, ρ, h, ra, rs, rh, p⟩
    · split at e
      · rename_i ys el
        cases e
        cases rv with
        | ref hr =>
          obtain ⟨va, ha, ra⟩ := rv_lst rh el hr
          exact .inr ⟨_, va, rfl, .of ha, by rw [hl2]; exact ra.length.symm, xs, s, ρ, h, ra, rs, rh, p⟩
      · cases e
    · cases e
end

/-! ### what is walked -/
structure Items where
  its : List LV
  o : List (Nat × List LV)
abbrev LI := LSt → M Items
def keepB (o : List (Nat × List LV)) (h : LH) : Bool := o.all fun p => match h[p.1]? with
  | some (.lst xs) => eqLVs xs p.2
  | _ => false
theorem keepB_all {o : List (Nat × List LV)} {h : LH} (e : keepB o h = true) {l : Nat} {ys : List LV} (m : (l, ys) ∈ o) : h[l]? = some (.lst ys) := by
  have q := List.all_eq_true.mp e _ m
  dsimp only at q
  split at q
  · rename_i xs z
    rw [z, eqLVs_eq _ _ q]
  · cases q
theorem keepB_some {l : Nat} {ys : List LV} {h : LH} (e : keepB [(l, ys)] h = true) : h[l]? = some (.lst ys) := keepB_all e List.mem_cons_self
theorem keepB_nil {h : LH} : keepB [] h = true := rfl
theorem keepB_cons {l : Nat} {ys : List LV} {o : List (Nat × List LV)} {h : LH} (e : h[l]? = some (.lst ys)) (r : keepB o h = true) : keepB ((l, ys) :: o) h = true := by
  unfold keepB at r ⊢
  rw [List.all_cons, r, Bool.and_true]
  dsimp only
  rw [e]
  exact eqLVs_refl ys
theorem keepB_of {l : Nat} {ys : List LV} {h : LH} (e : h[l]? = some (.lst ys)) : keepB [(l, ys)] h = true := keepB_cons e rfl
def forI (o : List (Nat × List LV)) (g : LG) (b : LS) : List LV → LS
  | [], s, h => if keepB o h = true then .nx s h else .bad
  | x :: r, s, h => if keepB o h = true then (match g x s h with
    | .ok s1 h1 => (match b s1 h1 with
      | .nx s2 h2 => forI o g b r s2 h2
      | .ct s2 h2 => forI o g b r s2 h2
      | .bk s2 h2 => .nx s2 h2
      | .rt v h2 => .rt v h2
      | .exc c fs s2 h2 => .exc c fs s2 h2
      | .bad => .bad)
    | .exc _ _ _ => .bad
    | .bad => .bad) else .bad
def forS (i : LI) (g : LG) (b : LS) : LS := fun s h => match i s h with
  | .ok it h' => forI it.o g b it.its s h'
  | .exc c fs h' => .exc c fs s h'
  | .bad => .bad
def rngI (lo : Int) : Nat → List LV
  | 0 => []
  | n + 1 => .int lo :: rngI (lo + 1) n
theorem rngI_len (lo : Int) (n : Nat) : (rngI lo n).length = n := by
  induction n generalizing lo with
  | zero => rfl
  | succ n ih => simp [rngI, ih]
theorem rngI_get (lo : Int) (n i : Nat) (h : i < n) : (rngI lo n)[i]? = some (.int (lo + i)) := by
  induction n generalizing lo i with
  | zero => omega
  | succ n ih =>
    cases i with
    | zero => simp [rngI]
    | succ i =>
      simp only [rngI, List.getElem?_cons_succ]
      rw [ih (lo + 1) i (by omega)]
      congr 2
      push_cast
      omega
def rngC (lo c : Int) : Nat → List LV
  | 0 => []
  | n + 1 => .int lo :: rngC (lo + c) c n
theorem rngC_len (lo c : Int) (n : Nat) : (rngC lo c n).length = n := by
  induction n generalizing lo with
  | zero => rfl
  | succ n ih => simp [rngC, ih]
theorem rngC_get (lo c : Int) (n i : Nat) (h : i < n) : (rngC lo c n)[i]? = some (.int (lo + i * c)) := by
  induction n generalizing lo i with
  | zero => omega
  | succ n ih =>
    cases i with
    | zero => simp [rngC]
    | succ i =>
      simp only [rngC, List.getElem?_cons_succ]
      rw [ih (lo + c) i (by omega)]
      congr 2
      push_cast
      rw [Int.add_mul]
      omega
def okR (i : Int) : Bool := decide (-(2 ^ 62) ≤ i ∧ i < 2 ^ 62)
def rng1 : List LV → M Items
  | [.int j] => fun h => if okR j = true then .ok ⟨rngI 0 j.toNat, []⟩ h else .bad
  | _ => bad
def rng2 : List LV → M Items
  | [.int i, .int j] => fun h => if okR i = true ∧ okR j = true then .ok ⟨rngI i (j - i).toNat, []⟩ h else .bad
  | _ => bad
def rng3 : List LV → M Items
  | [.int i, .int j, .int c] => fun h => if okR i = true ∧ okR j = true ∧ c = -1 then .ok ⟨rngC i (-1) (i - j).toNat, []⟩ h else .bad
  | _ => bad
def itmC (f : List LV → M Items) (a : LA) : LI := fun s => bnd (a s) f
def sgnL (x : Str) : List LV := x.cps.toList.map fun c => .str ⟨#[c]⟩
def itmL : LV → M Items
  | .tup xs => ret ⟨xs, []⟩
  | .scr xs => ret ⟨xs, []⟩
  | .str x => ret ⟨sgnL x, []⟩
  | .ref l => fun h => match h[l]? with
    | some (.lst xs) => .ok ⟨xs, [(l, xs)]⟩ h
    | _ => .bad
  | _ => bad
def itmE (m : LE) : LI := fun s => bnd (m s) itmL
def prs (i : Int) : List LV → List LV
  | [] => []
  | x :: xs => .tup [.int i, x] :: prs (i + 1) xs
theorem prs_len (i : Int) (xs : List LV) : (prs i xs).length = xs.length := by
  induction xs generalizing i with
  | nil => rfl
  | cons x xs ih => simp [prs, ih]
theorem prs_get (i : Int) (xs : List LV) (k : Nat) (v : LV) (h : xs[k]? = some v) : (prs i xs)[k]? = some (.tup [.int (i + k), v]) := by
  induction xs generalizing i k with
  | nil => simp at h
  | cons x xs ih =>
    cases k with
    | zero => simp at h; subst h; simp [prs]
    | succ k =>
      simp only [prs, List.getElem?_cons_succ] at h ⊢
      rw [ih (i + 1) k h]
      congr 4
      push_cast
      omega
def enuL : List LV → M Items
  | [.scr xs] => ret ⟨prs 0 xs, []⟩
  | [.ref l] => fun h => match h[l]? with
    | some (.lst xs) => .ok ⟨prs 0 xs, [(l, xs)]⟩ h
    | _ => .bad
  | _ => bad
section
variable (K : PySem.W.Frag) (mg : Str → Option Value)
/-- the iterator J tells these items, as long as the list o is as it was -/
def Srv (H0 : Hp) (ρ0 : List Addr) (it : Items) (J : It) : Prop := ∀ ρ h H, Ext ρ0 H0 ρ H → RH K mg ρ h H → keepB it.o h = true →
  (∀ i, i < it.its.length → J.go i H) ∧ (∀ i, it.its.length ≤ i → J.stop i H) ∧ ∀ i x H', i < it.its.length → J.yld i H x H' → Ext ρ H ρ H' ∧ RH K mg ρ h H' ∧ ∃ v, it.its[i]? = some v ∧ RV K mg H' ρ v x
def tI (W : WX) (m : LI) : TI := fun σ H R => ∃ s ρ h, RSt K mg H ρ s σ ∧ RH K mg ρ h H ∧ Post K mg (Srv K mg) (fun C d H' => W C d σ H') ρ H R (m s h)
end
abbrev SI (X : Cx) (W : WX) (tg e : Expr) (m : LI) : Prop := PI X tg e (tI X.K X.mg W m)
section
variable {X : Cx} {W : WX} {e tg : Expr} {me : LE} {pos : Pos}
theorem srv_rng {lo : Int} {n : Nat} {H0 : Hp} {ρ0 : List Addr} : Srv X.K X.mg H0 ρ0 ⟨rngI lo n, []⟩ (Itr lo n) := fun ρ h H e rh _ => by
  refine ⟨fun i hi => by rw [rngI_len] at hi; exact hi, fun i hi => by rw [rngI_len] at hi; exact hi, fun i x H' hi y => ?_⟩
  obtain ⟨rfl, rfl⟩ := y
  rw [rngI_len] at hi
  exact ⟨Ext.refl, rh, _, rngI_get lo n i hi, .int _⟩
theorem srv_rngC {lo c : Int} {n : Nat} {H0 : Hp} {ρ0 : List Addr} : Srv X.K X.mg H0 ρ0 ⟨rngC lo c n, []⟩ (Itc lo c n) := fun ρ h H e rh _ => by
  refine ⟨fun i hi => by rw [rngC_len] at hi; exact hi, fun i hi => by rw [rngC_len] at hi; exact hi, fun i x H' hi y => ?_⟩
  obtain ⟨rfl, rfl⟩ := y
  rw [rngC_len] at hi
  exact ⟨Ext.refl, rh, _, rngC_get lo c n i hi, .int _⟩
theorem okR_of {i : Int} (h : okR i = true) : -(2 ^ 62) ≤ i ∧ i < 2 ^ 62 := by
  unfold okR at h
  have z := of_decide_eq_true h
  exact z
theorem si_range1 {a : Expr} {ma : LA} {p pos : Pos} (hg : Gl X "range") (hm : X.mg "range" = none) (ha : SA X W [a] ma) (hs : starEach [a] X.env = [(false, eval a X.env)] := by rfl) : SI X W tg (.Call (.Name "range" p) [a] [] pos) (itmC rng1 ma) := by
  refine pi_imp (pi_range1 hg hm ha hs) fun σ H R ⟨s, ρ, h, rs, rh, p⟩ => ?_
  refine seqA rs rh p fun vs h1 ρ1 H1 xs e1 rh1 rv rs1 p1 => ?_
  unfold rng1 at p1
  split at p1
  · obtain ⟨x, rfl, r⟩ := rvs1 rv
    cases r
    split at p1
    · rename_i ok
      exact ⟨_, rfl, (okR_of ok).1, (okR_of ok).2, p1 ρ1 H1 _ Ext.refl rh1 srv_rng⟩
    · exact bad_of p1
  · exact bad_of p1
theorem si_range2 {a b : Expr} {ma : LA} {p pos : Pos} (hg : Gl X "range") (hm : X.mg "range" = none) (ha : SA X W [a, b] ma) (hs : starEach [a, b] X.env = [(false, eval a X.env), (false, eval b X.env)] := by rfl) (hs2 : starEach [b] X.env = [(false, eval b X.env)] := by rfl) :
    SI X W tg (.Call (.Name "range" p) [a, b] [] pos) (itmC rng2 ma) := by
  refine pi_imp (pi_range2 hg hm ha hs hs2) fun σ H R ⟨s, ρ, h, rs, rh, p⟩ => ?_
  refine seqA rs rh p fun vs h1 ρ1 H1 xs e1 rh1 rv rs1 p1 => ?_
  unfold rng2 at p1
  split at p1
  · obtain ⟨x, y, rfl, r, r'⟩ := rvs2 rv
    cases r
    cases r'
    split at p1
    · rename_i ok
      exact ⟨_, _, rfl, ⟨(okR_of ok.1).1, (okR_of ok.1).2, (okR_of ok.2).1, (okR_of ok.2).2⟩, p1 ρ1 H1 _ Ext.refl rh1 srv_rng⟩
    · exact bad_of p1
  · exact bad_of p1
theorem lst_at {ρ0 ρ : List Addr} {H0 H : Hp} {h : LH} {l : Nat} {a : Addr} {xs : List LV} (hr : ρ0[l]? = some a) (e : Ext ρ0 H0 ρ H) (rh : RH X.K X.mg ρ h H) (k : keepB [(l, xs)] h = true) : ∃ vs, H a = some (.lst vs) ∧ RVs X.K X.mg H ρ xs vs := rv_lst rh (keepB_some k) (e.pre _ _ hr)
theorem srv_seqL {H0 : Hp} {ρ0 : List Addr} {a : Addr} {xs : List LV} {o : List (Nat × List LV)} (k : ∀ ρ h H, Ext ρ0 H0 ρ H → RH X.K X.mg ρ h H → keepB o h = true → ∃ vs, SqL X.K H a vs ∧ RVs X.K X.mg H ρ xs vs) : Srv X.K X.mg H0 ρ0 ⟨xs, o⟩ (Itl X.K a) := fun ρ h H e rh kb => by
  obtain ⟨vs, hs, rv⟩ := k ρ h H e rh kb
  refine ⟨fun i hi => ?_, fun i hi => ⟨vs, hs, by rw [← rv.length]; exact hi⟩, fun i x H' hi y => ?_⟩
  · obtain ⟨z, hz, _⟩ := rv.get (List.getElem?_eq_getElem (show i < xs.length from hi))
    exact ⟨vs, z, hs, hz⟩
  · obtain ⟨rfl, y⟩ := y
    obtain ⟨v, hv, r⟩ := rv.get' (y vs hs)
    exact ⟨Ext.refl, rh, v, hv, r⟩
theorem srv_seqT {H0 : Hp} {ρ0 : List Addr} {a : Addr} {xs : List LV} (k : ∀ ρ h H, Ext ρ0 H0 ρ H → RH X.K X.mg ρ h H → ∃ vs, SqT X.K H a vs ∧ RVs X.K X.mg H ρ xs vs) : Srv X.K X.mg H0 ρ0 ⟨xs, []⟩ (Itt X.K a) := fun ρ h H e rh kb => by
  obtain ⟨vs, hs, rv⟩ := k ρ h H e rh
  refine ⟨fun i hi => ?_, fun i hi => ⟨vs, hs, by rw [← rv.length]; exact hi⟩, fun i x H' hi y => ?_⟩
  · obtain ⟨z, hz, _⟩ := rv.get (List.getElem?_eq_getElem (show i < xs.length from hi))
    exact ⟨vs, z, hs, hz⟩
  · obtain ⟨rfl, y⟩ := y
    obtain ⟨v, hv, r⟩ := rv.get' (y vs hs)
    exact ⟨Ext.refl, rh, v, hv, r⟩
theorem srv_str {H0 : Hp} {ρ0 : List Addr} {x : Str} : Srv X.K X.mg H0 ρ0 ⟨sgnL x, []⟩ (Its x) := fun ρ h H e rh kb => by
  have hl : (sgnL x).length = x.cps.size := by simp [sgnL]
  refine ⟨fun i hi => by rw [hl] at hi; exact hi, fun i hi => by rw [hl] at hi; exact hi, fun i v H' hi y => ?_⟩
  obtain ⟨rfl, c, hc, rfl⟩ := y
  refine ⟨Ext.refl, rh, .str ⟨#[c]⟩, ?_, .str _⟩
  show (sgnL x)[i]? = _
  unfold sgnL
  rw [List.getElem?_map, Array.getElem?_toList, hc]
  rfl
theorem scr_up {ρ0 ρ : List Addr} {H0 H : Hp} {xs : List LV} {a : Addr} (r : RV X.K X.mg H0 ρ0 (.scr xs) (.ref a)) (e : Ext ρ0 H0 ρ H) : ∃ vs, SqL X.K H a vs ∧ RVs X.K X.mg H ρ xs vs := by
  obtain ⟨b, vs, e2, h1, h2⟩ := rv_scr (r.up e)
  cases e2
  exact ⟨vs, h1, h2⟩
theorem si_any (he : SE X W e me) : SI X W tg e (itmE me) := by
  refine pi_imp (pi_or (pi_list he) (pi_or (pi_tup he) (pi_str he))) fun σ H R ⟨s, ρ, h, rs, rh, p⟩ => ?_
  unfold itmE bnd at p
  cases em : me s h with
  | bad => rw [em] at p; exact bad_of p
  | exc c fs h1 =>
    rw [em] at p
    exact .inl ⟨s, ρ, h, rs, rh, by rw [em]; exact p⟩
  | ok v h1 =>
    rw [em] at p
    dsimp only at p
    unfold itmL at p
    split at p
    · refine .inr (.inl ⟨s, ρ, h, rs, rh, ?_⟩)
      rw [em]
      intro ρ1 H1 x e1 rh1 rv
      obtain ⟨a, va, rfl, ha, ra⟩ := rv_tup rv
      exact ⟨a, rfl, ⟨va, .of ha⟩, p ρ1 H1 _ e1 rh1 (srv_seqT fun ρ2 h2 H2 e2 rh2 => ⟨va, .of (e2.imm _ _ ha rfl), ra.up e2⟩)⟩
    · refine .inl ⟨s, ρ, h, rs, rh, ?_⟩
      rw [em]
      intro ρ1 H1 x e1 rh1 rv
      obtain ⟨a, va, rfl, ha, ra⟩ := rv_scr rv
      exact ⟨a, rfl, ⟨va, ha⟩, p ρ1 H1 _ e1 rh1 (srv_seqL fun ρ2 h2 H2 e2 rh2 _ => scr_up rv e2)⟩
    · refine .inr (.inr ⟨s, ρ, h, rs, rh, ?_⟩)
      rw [em]
      intro ρ1 H1 x e1 rh1 rv
      cases rv
      exact ⟨_, rfl, p ρ1 H1 _ e1 rh1 srv_str⟩
    · split at p
      · rename_i l xs el
        refine .inl ⟨s, ρ, h, rs, rh, ?_⟩
        rw [em]
        intro ρ1 H1 x e1 rh1 rv
        cases rv with
        | ref hr =>
          obtain ⟨va, ha, ra⟩ := rv_lst rh1 el hr
          exact ⟨_, rfl, ⟨va, .of ha⟩, p ρ1 H1 _ e1 rh1 (srv_seqL fun ρ2 h2 H2 e2 rh2 kb => by
            obtain ⟨vs, h3, h4⟩ := lst_at hr e2 rh2 kb
            exact ⟨vs, .of h3, h4⟩)⟩
      · exact bad_of p
    · exact bad_of p
theorem srv_enu {H0 : Hp} {ρ0 : List Addr} {a : Addr} {xs : List LV} {o : List (Nat × List LV)} (k : ∀ ρ h H, Ext ρ0 H0 ρ H → RH X.K X.mg ρ h H → keepB o h = true → ∃ vs, SqL X.K H a vs ∧ RVs X.K X.mg H ρ xs vs) : Srv X.K X.mg H0 ρ0 ⟨prs 0 xs, o⟩ (Ite X.K a) := fun ρ h H e rh kb => by
  obtain ⟨vs, hs, rv⟩ := k ρ h H e rh kb
  refine ⟨fun i hi => ?_, fun i hi => ⟨vs, hs, by rw [← rv.length]; simpa [prs_len] using hi⟩, fun i x H' hi y => ?_⟩
  · have hi : i < xs.length := by simpa [prs_len] using hi
    obtain ⟨z, hz, _⟩ := rv.get (List.getElem?_eq_getElem hi)
    exact ⟨vs, z, hs, hz⟩
  · obtain ⟨T, z, rfl, nT, rfl, y⟩ := y
    obtain ⟨v, hv, r⟩ := rv.get' (y vs hs)
    have hp := prs_get 0 xs i v hv
    rw [Int.zero_add] at hp
    exact ⟨ext_new nT, rh.imm nT, _, hp, .tup upd_same (.cons (.int _) (.cons (r.up (ext_new nT)) .nil))⟩
theorem si_enum {ma : LA} {p pos tpos : Pos} {elts : List Expr} {kk : Nat} (hg : Gl X "enumerate") (hm : X.mg "enumerate" = none) (ha : SA X W [e] ma) (hs : starEach [e] X.env = [(false, eval e X.env)] := by rfl) :
    SI X W (.Tuple elts kk tpos) (.Call (.Name "enumerate" p) [e] [] pos) (itmC enuL ma) := by
  refine pi_imp (pi_enum hg hm ha hs) fun σ H R ⟨s, ρ, h, rs, rh, p⟩ => ?_
  refine seqA rs rh p fun vs h1 ρ1 H1 xs e1 rh1 rv rs1 p1 => ?_
  unfold enuL at p1
  split at p1
  · obtain ⟨x, rfl, r⟩ := rvs1 rv
    obtain ⟨a, va, rfl, ha, ra⟩ := rv_scr r
    exact ⟨a, va, rfl, ha, p1 ρ1 H1 _ Ext.refl rh1 (srv_enu fun ρ2 h2 H2 e2 rh2 _ => scr_up r e2)⟩
  · obtain ⟨x, rfl, r⟩ := rvs1 rv
    cases r with
    | ref hr =>
      split at p1
      · rename_i xs el
        obtain ⟨va, ha, ra⟩ := rv_lst rh1 el hr
        exact ⟨_, va, rfl, .of ha, p1 ρ1 H1 _ Ext.refl rh1 (srv_enu fun ρ2 h2 H2 e2 rh2 kb => by
          obtain ⟨vs, h3, h4⟩ := lst_at hr e2 rh2 kb
          exact ⟨vs, .of h3, h4⟩)⟩
      · exact bad_of p1
  · exact bad_of p1

/-! ### for -/
theorem ss_for {iter : Expr} {body : List Stmt} {mi : LI} {g : LG} {mb : LS} (po : PassesOwn (model X.prog X.w) X.A X.env X.xe) (hc : X.calm = true) (hi : SI X W tg iter mi) (hg : SG X tg g) (hb : SSs X W body mb)
    (hs : ∀ x, foldedSetIterable iter X.env x = pure x := by intro _; rfl) : SS X W (.For tg iter body [] pos) (forS mi g mb) := by
  refine ps_imp (ps_for po hc hi hg hb hs) fun D σ H ⟨s, ρ, h, rs, rh, p⟩ => ⟨s, ρ, h, rs, rh, ?_⟩
  unfold forS at p
  cases em : mi s h with
  | bad => rw [em] at p; exact p
  | exc c fs h1 => rw [em] at p; exact fun ρ1 H1 C d e1 rh1 rx => p ρ1 H1 σ C d e1 rh1 (rs.up e1) rx
  | ok it h1 =>
    rw [em] at p
    intro ρ1 H1 J e1 rh1 srv
    refine ⟨fun i m σ' H' => m = it.its.length - i ∧ i ≤ it.its.length ∧ ∃ s' ρ' h', Ext ρ1 H1 ρ' H' ∧ RSt X.K X.mg H' ρ' s' σ' ∧ RH X.K X.mg ρ' h' H' ∧ PostS X.K X.mg W D ρ' H' (forI it.o g mb (it.its.drop i) s' h'),
      ⟨it.its.length, rfl, Nat.zero_le _, s, ρ1, h1, Ext.refl, rs.up e1, rh1, PostS.up e1 p⟩, ?_⟩
    rintro i m σ' H' ⟨rfl, hi, s', ρ', h', e', rs', rh', p'⟩
    by_cases hlt : i < it.its.length
    · rw [List.drop_eq_getElem_cons hlt] at p'
      unfold forI at p'
      split at p'
      · rename_i kb
        obtain ⟨go, _, yl⟩ := srv ρ' h' H' e' rh' kb
        refine .inr ⟨go i hlt, fun σ2 H2 => ∃ s2 ρ2 h2, Ext ρ1 H1 ρ2 H2 ∧ RSt X.K X.mg H2 ρ2 s2 σ2 ∧ RH X.K X.mg ρ2 h2 H2 ∧ PostS X.K X.mg W D ρ2 H2 (forI it.o g mb (it.its.drop (i + 1)) s2 h2),
          fun σ2 H2 n2 => ⟨it.its.length - (i + 1), by omega, rfl, hlt, n2⟩, fun x H'' y => ?_⟩
        obtain ⟨e2, rh2, v, hv, rv⟩ := yl i x H'' hlt y
        have ev : it.its[i] = v := by
          rw [List.getElem?_eq_getElem hlt] at hv
          exact Option.some.inj hv
        rw [ev] at p'
        refine ⟨v, s', ρ', h', rv, rs'.up e2, rh2, ?_⟩
        cases eg : g v s' h' with
        | bad => rw [eg] at p'; exact (show False from p').elim
        | exc c fs hx => rw [eg] at p'; exact (show False from p').elim
        | ok s1 hg1 =>
          rw [eg] at p'
          dsimp only at p'
          intro ρ3 H3 σ3 e3 rh3 rs3
          refine ⟨s1, ρ3, hg1, rs3, rh3, ?_⟩
          have e13 : Ext ρ1 H1 ρ3 H3 := (e'.trans e2).trans e3
          cases eb : mb s1 hg1 with
          | bad => rw [eb] at p'; exact p'
          | nx s2 h2 => rw [eb] at p'; exact fun ρ4 H4 σ4 e4 rh4 rs4 => ⟨s2, ρ4, h2, e13.trans e4, rs4, rh4, PostS.up ((e2.trans e3).trans e4) p'⟩
          | ct s2 h2 => rw [eb] at p'; exact fun ρ4 H4 σ4 e4 rh4 rs4 => ⟨s2, ρ4, h2, e13.trans e4, rs4, rh4, PostS.up ((e2.trans e3).trans e4) p'⟩
          | bk s2 h2 => rw [eb] at p'; exact fun ρ4 H4 σ4 e4 rh4 rs4 => p' ρ4 H4 σ4 ((e2.trans e3).trans e4) rh4 rs4
          | rt v h2 => rw [eb] at p'; exact fun ρ4 H4 x4 e4 rh4 rv4 => p' ρ4 H4 x4 ((e2.trans e3).trans e4) rh4 rv4
          | exc c fs s2 h2 => rw [eb] at p'; exact fun ρ4 H4 σ4 C d e4 rh4 rs4 rx => p' ρ4 H4 σ4 C d ((e2.trans e3).trans e4) rh4 rs4 rx
      · exact (show False from p').elim
    · have ei : i = it.its.length := by omega
      subst ei
      rw [List.drop_length] at p'
      unfold forI at p'
      split at p'
      · rename_i kb
        obtain ⟨_, st, _⟩ := srv ρ' h' H' e' rh' kb
        exact .inl ⟨st _ (Nat.le_refl _), p' ρ' H' σ' Ext.refl rh' rs'⟩
      · exact (show False from p').elim
end
end Fw

set_option maxRecDepth 100000
set_option maxHeartbeats 4000000
namespace Fw
open PySem PySem.Spec PyProof.Rows L2

/-! ### list comprehensions -/
def wipeL (s : LSt) : List Nat → LSt
  | [] => s
  | v :: vs => (wipeL s vs).set v none
def compI (o : List (Nat × List LV)) (g : LG) (t : LT) (e : LE) (D : Nat) (s : LSt) : List LV → M LV
  | [], h => if keepB o h = true then .ok (.ref D) h else .bad
  | x :: r, h => if keepB o h = true then (match g x s h with
    | .ok s1 h1 => (match t s1 h1 with
      | .ok b h2 => if b = true then (match e s1 h2 with
          | .ok y h3 => (match h3[D]? with
            | some (.lst acc) => if acc.length < sizeLine then compI o g t e D s r (h3.set D (.lst (acc ++ [y]))) else .bad
            | _ => .bad)
          | .exc _ _ _ => .bad
          | .bad => .bad) else compI o g t e D s r h2
      | .exc _ _ _ => .bad
      | .bad => .bad)
    | .exc _ _ _ => .bad
    | .bad => .bad) else .bad
def compM (i : LI) (g : LG) (t : LT) (e : LE) (vs : List Nat) : LE := fun s h => match i s h with
  | .ok it h1 => compI it.o g t e h1.length (wipeL s vs) it.its (h1 ++ [.lst []])
  | .exc c fs h' => .exc c fs h'
  | .bad => .bad
def yesT : LT := fun _ => ret true

section
variable (K : PySem.W.Frag) (mg : Str → Option Value)
/-- a comprehension's target: just the own names turn -/
def GX (g : LG) (gr : TG) (vs : List Nat) : Prop := ∀ v x s σ ρ h H (Q : L2.St → Hp → Prop), RV K mg H ρ v x → RSt K mg H ρ s σ → RH K mg ρ h H →
  Post K mg (fun H ρ s' σ' => RSt K mg H ρ s' σ' ∧ wipe σ' vs = wipe σ vs) (fun _ _ _ => False) ρ H Q (g v s h) → gr x σ H Q
def GXs (gs : List LG) (gr : TGs) (vs : List Nat) : Prop := ∀ us xs s σ ρ h H (Q : L2.St → Hp → Prop), RVs K mg H ρ us xs → RSt K mg H ρ s σ → RH K mg ρ h H →
  Post K mg (fun H ρ s' σ' => RSt K mg H ρ s' σ' ∧ wipe σ' vs = wipe σ vs) (fun _ _ _ => False) ρ H Q (gAll gs us s h) → gr xs σ H Q
end
theorem wipe_set (σ : L2.St) (i : Nat) (y : Option V) : ∀ vs : List Nat, (i ∈ vs → wipe (σ.set i y) vs = wipe σ vs) ∧ (i ∉ vs → wipe (σ.set i y) vs = (wipe σ vs).set i y)
  | [] => ⟨fun h => by simp at h, fun _ => rfl⟩
  | v :: vs => by
    have ih := wipe_set σ i y vs
    refine ⟨fun h => ?_, fun h => ?_⟩
    · show (wipe (σ.set i y) vs).set v none = (wipe σ vs).set v none
      by_cases hi : i ∈ vs
      · rw [ih.1 hi]
      · have e : i = v := by simpa [hi] using h
        subst e
        rw [ih.2 hi, List.set_set]
    · have h1 : i ≠ v := fun e => h (by simp [e])
      have h2 : i ∉ vs := fun e => h (by simp [e])
      show (wipe (σ.set i y) vs).set v none = ((wipe σ vs).set v none).set i y
      rw [ih.2 h2, List.set_comm _ _ h1]
theorem wipe_idem (σ : L2.St) (vs : List Nat) : wipe (wipe σ vs) vs = wipe σ vs := by
  have key : ∀ (us : List Nat), (∀ u ∈ us, u ∈ vs) → wipe (wipe σ us) vs = wipe σ vs := by
    intro us
    induction us with
    | nil => intro _; rfl
    | cons u us ih =>
      intro hu
      show wipe ((wipe σ us).set u none) vs = _
      rw [(wipe_set (wipe σ us) u none vs).1 (hu u (by simp))]
      exact ih fun w hw => hu w (by simp [hw])
  exact key vs fun _ h => h
section
variable {X : Cx} {W : WX} {e tg : Expr} {me : LE} {pos : Pos}
theorem rst_wipe {H : Hp} {ρ : List Addr} {s : LSt} {σ : L2.St} (rs : RSt X.K X.mg H ρ s σ) : ∀ vs : List Nat, RSt X.K X.mg H ρ (wipeL s vs) (wipe σ vs)
  | [] => rs
  | v :: vs => (rst_wipe rs vs).setN v
theorem gx_name {i : Nat} {vs : List Nat} (hi : i ∈ vs) : GX X.K X.mg (gNm i) (gName i) vs := fun v x s σ ρ h H Q rv rs rh p =>
  p ρ H _ Ext.refl rh ⟨rs.set i rv, (wipe_set σ i _ vs).1 hi⟩
theorem gxs_nil {vs : List Nat} : GXs X.K X.mg [] gNil vs := fun us xs s σ ρ h H Q rv rs rh p => by
  cases us with
  | nil => cases rv; exact ⟨rfl, p ρ H σ Ext.refl rh ⟨rs, rfl⟩⟩
  | cons v vs => exact bad_of p
theorem gxs_cons {g : LG} {gr : TG} {gs : List LG} {gsr : TGs} {vs : List Nat} (h1 : GX X.K X.mg g gr vs) (h2 : GXs X.K X.mg gs gsr vs) : GXs X.K X.mg (g :: gs) (gCons gr gsr) vs := fun us xs s σ ρ h H Q rv rs rh p => by
  cases us with
  | nil => exact bad_of p
  | cons v us =>
    cases rv with
    | cons r t =>
      refine ⟨_, _, rfl, h1 v _ s σ ρ h H _ r rs rh ?_⟩
      refine post_bnd p fun s1 hh ρ1 H1 σ1 e1 rh1 w1 p1 => ?_
      refine h2 us _ s1 σ1 ρ1 hh H1 Q (t.up e1) w1.1 rh1 ?_
      cases e2 : gAll gs us s1 hh with
      | ok s2 hh2 => rw [e2] at p1; exact fun ρ2 H2 σ2 e3 rh2 w2 => p1 ρ2 H2 σ2 e3 rh2 ⟨w2.1, w2.2.trans w1.2⟩
      | exc c fs hh2 => rw [e2] at p1; exact p1
      | bad => rw [e2] at p1; exact p1
theorem gx_tup {gs : List LG} {gsr : TGs} {vs : List Nat} (h2 : GXs X.K X.mg gs gsr vs) : GX X.K X.mg (gTp gs) (fun x σ H Q => gTup X.K gs.length gsr x σ H Q ∨ gUnl X.K gs.length gsr x σ H Q) vs := fun v x s σ ρ h H Q rv rs rh p => by
  unfold gTp at p
  cases e : seqV h v with
  | none => rw [e] at p; exact bad_of p
  | some xs =>
    rw [e] at p
    have hl2 : xs.length = gs.length := by
      dsimp only at p
      split at p
      · rename_i q; exact q
      · exact bad_of p
    dsimp only at p
    rw [if_pos hl2] at p
    unfold seqV at e
    split at e
    · cases e
      obtain ⟨a, va, rfl, ha, ra⟩ := rv_tup rv
      exact .inl ⟨a, va, rfl, .of ha, by rw [← hl2]; exact ra.length.symm, h2 xs va s σ ρ h H Q ra rs rh p⟩
    · cases e
      obtain ⟨a, va, rfl, ha, ra⟩ := rv_scr rv
      exact .inr ⟨a, va, rfl, ha, by rw [← hl2]; exact ra.length.symm, h2 xs va s σ ρ h H Q ra rs rh p⟩
    · split at e
      · rename_i ys el
        cases e
        cases rv with
        | ref hr =>
          obtain ⟨va, ha, ra⟩ := rv_lst rh el hr
          exact .inr ⟨_, va, rfl, .of ha, by rw [← hl2]; exact ra.length.symm, h2 xs va s σ ρ h H Q ra rs rh p⟩
      · cases e
    · cases e
abbrev W0 : WX := fun _ _ _ _ => False
theorem pts_imp {ifs : List Expr} {t t' : TT} (p : PTs X ifs t) (h : ∀ σ H Q, t' σ H Q → t σ H Q) : PTs X ifs t' := ⟨fun pins s σ H Q I q => p.run pins s σ H Q I (h σ H Q q)⟩
theorem sts_nil : PTs X [] (tT X.K X.mg W yesT) := pts_imp pts_nil fun σ H Q ⟨s, ρ, h, rs, rh, p⟩ => Post.now p rh rfl
theorem sts_one {c : Expr} {mt : LT} (h : ST X W c mt) : PTs X [c] (tT X.K X.mg W mt) := pts_one h
theorem comp_read {wi : LI} {g : LG} {gr : TG} {mt : LT} {vs : List Nat} (hgx : GX X.K X.mg g gr vs) {σ : L2.St} {H : Hp} {Q : VK} (t : tE X.K X.mg W (compM wi g mt me vs) σ H Q) :
    tLc (tI X.K X.mg W wi) gr (tT X.K X.mg W0 mt) (tE X.K X.mg W0 me) vs σ H Q := by
  obtain ⟨s, ρ, h, rs, rh, p⟩ := t
  refine ⟨s, ρ, h, rs, rh, ?_⟩
  unfold compM at p
  cases em : wi s h with
  | bad => rw [em] at p; exact p
  | exc c fs h1 => rw [em] at p; exact p
  | ok it h1 =>
    rw [em] at p
    intro ρ1 H1 J e1 rh1 srv D nD
    have rhD : RH X.K X.mg (ρ1 ++ [D]) (h1 ++ [.lst []]) (upd H1 D (.lst [])) := rh1.new nD ⟨[], upd_same, .nil⟩
    have eD : Ext ρ1 H1 (ρ1 ++ [D]) (upd H1 D (.lst [])) := ext_push nD
    have atD : (ρ1 ++ [D])[h1.length]? = some D := by rw [← rh1.len]; simp
    refine ⟨fun i m H' => m = it.its.length - i ∧ i ≤ it.its.length ∧ ∃ ρ' h', Ext (ρ1 ++ [D]) (upd H1 D (.lst [])) ρ' H' ∧ RH X.K X.mg ρ' h' H' ∧ Post X.K X.mg (RV X.K X.mg) (fun C d H' => W C d σ H') ρ' H' Q (compI it.o g mt me h1.length (wipeL s vs) (it.its.drop i) h'),
      ⟨it.its.length, rfl, Nat.zero_le _, _, _, Ext.refl, rhD, Post.up (e1.trans eD) p⟩, ?_⟩
    rintro i m H' ⟨rfl, hi, ρ', h', e', rh', p'⟩
    by_cases hlt : i < it.its.length
    · rw [List.drop_eq_getElem_cons hlt] at p'
      unfold compI at p'
      split at p'
      · rename_i kb
        obtain ⟨go, _, yl⟩ := srv ρ' h' H' (eD.trans e') rh' kb
        refine .inr ⟨go i hlt, fun H2 => ∃ ρ2 h2, Ext (ρ1 ++ [D]) (upd H1 D (.lst [])) ρ2 H2 ∧ RH X.K X.mg ρ2 h2 H2 ∧ Post X.K X.mg (RV X.K X.mg) (fun C d H' => W C d σ H') ρ2 H2 Q (compI it.o g mt me h1.length (wipeL s vs) (it.its.drop (i + 1)) h2),
          fun H2 n2 => ⟨it.its.length - (i + 1), by omega, rfl, hlt, n2⟩, fun x H'' y => ?_⟩
        obtain ⟨e2, rh2, v, hv, rv⟩ := yl i x H'' hlt y
        have ev : it.its[i] = v := by
          rw [List.getElem?_eq_getElem hlt] at hv
          exact Option.some.inj hv
        rw [ev] at p'
        have rsw : RSt X.K X.mg H'' ρ' (wipeL s vs) (wipe σ vs) := rst_wipe (((rs.up e1).up (eD.trans e')).up e2) vs
        refine hgx v x _ _ ρ' h' H'' _ rv rsw rh2 ?_
        cases eg : g v (wipeL s vs) h' with
        | bad => rw [eg] at p'; exact (show False from p').elim
        | exc c fs hx => rw [eg] at p'; exact (show False from p').elim
        | ok s1 hg1 =>
          rw [eg] at p'
          dsimp only at p'
          intro ρ3 H3 σ3 e3 rh3 w3
          refine ⟨w3.2.trans (wipe_idem σ vs), s1, ρ3, hg1, w3.1, rh3, ?_⟩
          have e13 : Ext (ρ1 ++ [D]) (upd H1 D (.lst [])) ρ3 H3 := (e'.trans e2).trans e3
          cases et : mt s1 hg1 with
          | bad => rw [et] at p'; exact (show False from p').elim
          | exc c fs hx => rw [et] at p'; exact (show False from p').elim
          | ok b h2 =>
            rw [et] at p'
            dsimp only at p'
            intro ρ4 H4 c e4 rh4 rb
            cases (show b = c from rb)
            cases b with
            | false =>
              exact ⟨ρ4, h2, e13.trans e4, rh4, Post.up ((e2.trans e3).trans e4) (by simpa using p')⟩
            | true =>
              rw [if_pos rfl] at p' ⊢
              refine ⟨s1, ρ4, h2, w3.1.up e4, rh4, ?_⟩
              cases ee : me s1 h2 with
              | bad => rw [ee] at p'; exact (show False from p').elim
              | exc c fs hx => rw [ee] at p'; exact (show False from p').elim
              | ok y h3 =>
                rw [ee] at p'
                dsimp only at p'
                intro ρ5 H5 z e5 rh5 rz
                have e15 : Ext (ρ1 ++ [D]) (upd H1 D (.lst [])) ρ5 H5 := (e13.trans e4).trans e5
                have at5 : ρ5[h1.length]? = some D := e15.pre _ _ atD
                split at p'
                · rename_i acc el
                  obtain ⟨va, ha, ra⟩ := rv_lst rh5 el at5
                  split at p'
                  · rename_i hz
                    refine ⟨va, ha, by rw [← ra.length]; exact hz, ρ5, _, e15.trans (ext_set rh5 at5), rh5.set (u := .lst (acc ++ [y])) at5 ⟨_, upd_same, (ra.append (.cons rz .nil)).up (ext_set rh5 at5)⟩, Post.up ((((e2.trans e3).trans e4).trans e5).trans (ext_set rh5 at5)) p'⟩
                  · exact (show False from p').elim
                · exact (show False from p').elim
      · exact (show False from p').elim
    · have ei : i = it.its.length := by omega
      subst ei
      rw [List.drop_length] at p'
      unfold compI at p'
      split at p'
      · rename_i kb
        obtain ⟨_, st, _⟩ := srv ρ' h' H' (eD.trans e') rh' kb
        exact .inl ⟨st _ (Nat.le_refl _), Post.now p' rh' (.ref (e'.pre _ _ atD))⟩
      · exact (show False from p').elim
theorem se_comp {elt iter : Expr} {ifs : List Expr} {scope : Scope} {own : List (Str × Nat)} {wi : LI} {g : LG} {gr : TG} {mt : LT} {vs : List Nat} (hc : X.calm = true) (hN : X.N.Nodup) (hi : SI X W tg iter wi) (ok : BlkOk X.N X.env.scope scope own) (hgx : GX X.K X.mg g gr vs)
    (hg : ∀ (s : Shared) (H : Hp) (C : Addr) (cl : List (Str × Addr)) (fp : List Addr), PG (X.blk s H scope (compEnvC scope cl C X.env) fp) tg gr) (ht : ∀ (s : Shared) (H : Hp) (C : Addr) (cl : List (Str × Addr)) (fp : List Addr), PTs (X.blk s H scope (compEnvC scope cl C X.env) fp) ifs (tT X.K X.mg W0 mt))
    (he : ∀ (s : Shared) (H : Hp) (C : Addr) (cl : List (Str × Addr)) (fp : List Addr), SE (X.blk s H scope (compEnvC scope cl C X.env) fp) W0 elt me) (hs : ∀ x, foldedSetIterable iter X.env x = pure x := by intro _; rfl) (hvs : own.map (·.2) = vs := by rfl) :
    SE X W (.ListComp elt [⟨tg, iter, ifs, 0⟩] scope pos) (compM wi g mt me vs) :=
  by
  subst hvs
  exact pe_imp (pe_lc hc hN hi ok hg ht he hs) fun _ _ _ t => comp_read hgx t
theorem ss_setComp {i : Nat} {y : Str} {py spos : Pos} {elt iter : Expr} {ifs : List Expr} {scope : Scope} {own : List (Str × Nat)} {wi : LI} {g : LG} {gr : TG} {mt : LT} {vs : List Nat} (hc : X.calm = true) (hN : X.N.Nodup) (hy : X.N[i]? = some y) (hyl : X.env.scope.names.lookup y = some .local)
    (hsw : swapsWith (.ListComp elt [⟨tg, iter, ifs, 0⟩] scope pos) (some (.Name y py)) spos.line X.env = pure true) (hi : SI X W tg iter wi) (ok : BlkOk X.N X.env.scope scope own) (hgx : GX X.K X.mg g gr vs)
    (hg : ∀ (s : Shared) (H : Hp) (C : Addr) (cl : List (Str × Addr)) (fp : List Addr), PG (X.blk s H scope (compEnvC scope cl C X.env) fp) tg gr) (ht : ∀ (s : Shared) (H : Hp) (C : Addr) (cl : List (Str × Addr)) (fp : List Addr), PTs (X.blk s H scope (compEnvC scope cl C X.env) fp) ifs (tT X.K X.mg W0 mt))
    (he : ∀ (s : Shared) (H : Hp) (C : Addr) (cl : List (Str × Addr)) (fp : List Addr), SE (X.blk s H scope (compEnvC scope cl C X.env) fp) W0 elt me) (hs : ∀ x, foldedSetIterable iter X.env x = pure x := by intro _; rfl) (hvs : own.map (·.2) = vs := by rfl) :
    SS X W (.Assign [.Name y py] (.ListComp elt [⟨tg, iter, ifs, 0⟩] scope pos) spos) (asgS (compM wi g mt me vs) (gNm i)) :=
  by
  subst hvs
  exact ps_imp (ps_setLc hc hN hy hyl hsw hi ok hg ht he hs) fun _ _ _ t => comp_read hgx (tE_mono (asg_read t) fun x H' t => gnm_read t)

/-! ### methods of built-in types -/
def metM (c : LH → LV → Bool) (f : LV → List LV → M LV) (o : LE) (a : LA) : LE := fun s => bnd (o s) fun v h => if c h v = true then bnd (a s) (f v) h else .bad
def isLst (h : LH) : LV → Bool
  | .ref l => match h[l]? with
    | some (.lst _) => true
    | _ => false
  | .scr _ => true
  | _ => false
def isStr (_ : LH) : LV → Bool
  | .str _ => true
  | _ => false
def MetS (X : Cx) (f : LV → List LV → M LV) (r : V → List V → Hp → VK → Prop) : Prop := ∀ v vs x xs ρ h H (E : XK) (Q : VK), RH X.K X.mg ρ h H → RV X.K X.mg H ρ v x → RVs X.K X.mg H ρ vs xs → Post X.K X.mg (RV X.K X.mg) E ρ H Q (f v vs h) → r x xs H Q
def ChkS (X : Cx) (c : LH → LV → Bool) (T : String) : Prop := ∀ v x ρ h H, RH X.K X.mg ρ h H → RV X.K X.mg H ρ v x → c h v = true → tyV X.K T x H
theorem chk_lst : ChkS X isLst "list" := fun v x ρ h H rh rv e => by
  unfold isLst at e
  split at e
  · cases rv with
    | ref hr =>
      split at e
      · rename_i xs el
        obtain ⟨va, ha, ra⟩ := rv_lst rh el hr
        exact .inl ⟨rfl, va, .of ha⟩
      · cases e
  · obtain ⟨a, va, rfl, ha, ra⟩ := rv_scr rv
    exact .inl ⟨rfl, va, ha⟩
  · cases e
theorem chk_str : ChkS X isStr "str" := fun v x ρ h H rh rv e => by
  unfold isStr at e
  split at e
  · cases rv; rfl
  · cases e
section
variable {o : Expr} {es : List Expr} {mo : LE} {mr : LA} {name : Str} {apos cpos : Pos} {T id : String} {r : V → List V → Hp → VK → Prop} {c : LH → LV → Bool} {f : LV → List LV → M LV}
theorem se_bm (hck : ChkS X c T) (hf : MetS X f r) (pa : PlainAttrs T) (slot : Slot T name id) (hty : typeOf (.builtin id) = pure (.type "method_descriptor")) (hm : MtR X id r) (ho : SE X W o mo) (ha : SA X W (e :: es) mr)
    (hbase : attributeBase o name X.env (eval o X.env) = eval o X.env := by rfl)
    (hfew : ((backTo cpos (starEach (e :: es) X.env)).all (fun x => !x.1) && (backToKw cpos (keywordEach [] X.env)).all (fun x => x.1.isSome)
      && decide ((e :: es).length + ([] : List Keyword).length + (if ([] : List Keyword).isEmpty then 0 else 1) < 30)) = true := by rfl)
    (hline : (apos.endLine == cpos.line) = true := by rfl) (hs : starEach (e :: es) X.env = (false, eval e X.env) :: starEach es X.env := by rfl) (hplain : (backTo cpos (starEach es X.env)).any (·.1) = false := by rfl) :
    SE X W (.Call (.Attribute o name apos) (e :: es) [] cpos) (metM c f mo mr) := by
  refine pe_imp (pe_bm pa slot hty hm ho ha hbase hfew hline hs hplain) fun σ H Q ⟨s, ρ, h, rs, rh, p⟩ => ?_
  refine seqE rs rh p fun v h1 ρ1 H1 x e1 rh1 rv rs1 p1 => ?_
  split at p1
  · rename_i ck
    exact ⟨hck v x ρ1 h1 H1 rh1 rv ck, seqA rs1 rh1 p1 fun vs h2 ρ2 H2 xs e2 rh2 rvs rs2 p2 => hf v vs x xs ρ2 h2 H2 _ Q rh2 (rv.up e2) rvs p2⟩
  · exact bad_of p1
theorem se_bm0 (hck : ChkS X c T) (hf : MetS X f r) (pa : PlainAttrs T) (slot : Slot T name id) (hty : typeOf (.builtin id) = pure (.type "method_descriptor")) (hm : MtR X id r) (ho : SE X W o mo)
    (hbase : attributeBase o name X.env (eval o X.env) = eval o X.env := by rfl) (hline : (apos.endLine == cpos.line) = true := by rfl) : SE X W (.Call (.Attribute o name apos) [] [] cpos) (metM c f mo aNil) := by
  refine pe_imp (pe_bm0 pa slot hty hm ho hbase hline) fun σ H Q ⟨s, ρ, h, rs, rh, p⟩ => ?_
  refine seqE rs rh p fun v h1 ρ1 H1 x e1 rh1 rv rs1 p1 => ?_
  split at p1
  · rename_i ck
    exact ⟨hck v x ρ1 h1 H1 rh1 rv ck, hf v [] x [] ρ1 h1 H1 _ Q rh1 rv .nil p1⟩
  · exact bad_of p1
end
def appL : LV → List LV → M LV
  | .ref l, [y] => fun h => match h[l]? with
    | some (.lst xs) => if xs.length < sizeLine then .ok .non (h.set l (.lst (xs ++ [y]))) else .bad
    | _ => .bad
  | _, _ => bad
theorem met_app : MetS X appL rAppend := by
  intro v vs x xs ρ h H E Q rh rv rvs p
  unfold appL at p
  split at p
  · obtain ⟨y, rfl, ry⟩ := rvs1 rvs
    cases rv with
    | ref hr =>
      split at p
      · rename_i xs el
        obtain ⟨va, ha, ra⟩ := rv_lst rh el hr
        split at p
        · rename_i hz
          exact ⟨_, va, y, rfl, rfl, ha, by rw [← ra.length]; exact hz, p ρ _ .non (ext_set rh hr) (rh.set hr ⟨_, upd_same, (ra.append (.cons ry .nil)).up (ext_set rh hr)⟩) .non⟩
        · exact bad_of p
      · exact bad_of p
  · exact bad_of p
def upL : LV → List LV → M LV
  | .str x, [] => fun h => if x.length ≤ 5592405 then .ok (.str (Txt.upper x)) h else .bad
  | _, _ => bad
theorem met_up : MetS X upL (fun x xs H Q => ∃ a, x = .str a ∧ xs = [] ∧ a.length ≤ 5592405 ∧ Q (.str (Txt.upper a)) H) := by
  intro v vs x xs ρ h H E Q rh rv rvs p
  unfold upL at p
  split at p
  · cases rv; cases rvs
    split at p
    · rename_i hz
      exact ⟨_, rfl, rfl, hz, Post.now p rh (.str _)⟩
    · exact bad_of p
  · exact bad_of p
end

/-! ### defs -/
def runB (n : Nat) (m : LS) : List LV → M LV := fun vs h => match m (vs.map some ++ List.replicate (n - vs.length) none) h with
  | .rt v h' => .ok v h'
  | .nx _ h' => .ok .non h'
  | .exc c fs _ h' => .exc c fs h'
  | .bk _ _ => .bad
  | .ct _ _ => .bad
  | .bad => .bad
section
variable {P : Program} {w : World} {K : PySem.W.Frag} {mg : Str → Option Value} {base : Heap}
theorem rst_start {H : Hp} {ρ : List Addr} : ∀ {vs : List LV} {xs : List V}, RVs K mg H ρ vs xs → ∀ n : Nat, RSt K mg H ρ (vs.map some ++ List.replicate n none) (xs.map some ++ List.replicate n none)
  | [], _, r, n => by
    cases r
    induction n with
    | zero => exact .nil
    | succ n ih => exact .cons trivial ih
  | v :: vs, _, r, n => by
    cases r with
    | cons r t => exact .cons r (rst_start t n)
theorem fn_rule {x qual : Str} {params : Arguments} {body : List Stmt} {scope : Scope} {f : Addr} {fd : FuncData} {N ps : List Str} {k : Nat} {m : LS} (F : FunD K x qual params body scope [] [] f fd) (S : FnScope N ps scope)
    (hbody : ∀ (cdv : Value) (A : Around) (outer : List Env) (s : Shared) (H : Hp) (E : XK), RoomG k (A.deeper (envOfC qual scope s.heap.objs.size f cdv)) →
      Takes (cxOf (L2.CX P w) P w K mg base N qual scope f cdv A outer s H E) (fun cls d _ H' => E cls d H') →
      PassesOwn (model P w) (A.deeper (envOfC qual scope s.heap.objs.size f cdv)) (envOfC qual scope s.heap.objs.size f cdv) (cxOf (L2.CX P w) P w K mg base N qual scope f cdv A outer s H E).xe →
      SSs (cxOf (L2.CX P w) P w K mg base N qual scope f cdv A outer s H E) (fun cls d _ H' => E cls d H') body m) :
    FnG P w K mg base (L2.CX P w) (k + 1) f fd ps (spOf K mg ps.length (runB N.length m)) := by
  refine fng_of F S (fun vs H Q E ⟨s, ρ, h, hl, rv, rh, p⟩ => by rw [← rv.length]; exact hl) fun cdv A outer s H vs Q E hr hsp => ⟨_, hbody cdv A outer s H E hr (takes_of rfl rfl rfl rfl) PassesOwn.leaving, ?_⟩
  obtain ⟨s, ρ, h, hl, rv, rh, p⟩ := hsp
  unfold L2.start
  rw [← rv.length]
  refine ⟨_, ρ, h, rst_start rv _, rh, ?_⟩
  unfold runB at p
  cases e : m (s.map some ++ List.replicate (N.length - s.length) none) h with
  | rt v h' => rw [e] at p; exact p
  | nx s' h' => rw [e] at p; exact fun ρ1 H1 σ1 e1 rh1 _ => p ρ1 H1 .non e1 rh1 .non
  | exc c fs s' h' => rw [e] at p; exact fun ρ1 H1 σ1 C d e1 rh1 _ rx => p ρ1 H1 C d e1 rh1 rx
  | bk s' h' => rw [e] at p; exact (show False from p).elim
  | ct s' h' => rw [e] at p; exact (show False from p).elim
  | bad => rw [e] at p; exact p
/-- nothing is let out -/
theorem fn_shut {k : Nat} {f : Addr} {fd : FuncData} {ps : List Str} {sp : Sp} (F : FnG P w K mg base (L2.CX P w) k f fd ps sp) : FnG P w K mg base CX0 k f fd ps (fun vs H Q _ => sp vs H Q fun _ _ _ => False) :=
  ⟨fun vs H Q E h => F.many vs H Q _ h, fun hr he hb hv hs => codeAny_mono (F.goes hr he hb hv hs) fun r s' q => by
    cases r with
    | error e =>
      obtain ⟨a, B, H', cls, d, _, _, _, _, _, _, _, z⟩ := q
      exact z.elim
    | ok fl => cases fl <;> exact q⟩
/-- the law's own promise from what it comes to -/
theorem law_sp {m : List LV → M LV} {n : Nat} (hm : ∀ ns : List Int, ns.length ≤ n → ∃ h', m [.scr (ns.map LV.int)] [] = .ok (.bl true) h') {H : Hp} {a : Addr} {ns : List Int} (hl : ns.length ≤ n) (hO : Only H) (hS : SqL K H a (ns.map V.int)) :
    spOf K mg 1 m [.ref a] H (fun v _ => v = .bl true) fun _ _ _ => False := by
  obtain ⟨h', e⟩ := hm ns hl
  have ri : ∀ ρ : List Addr, ∀ l : List Int, RVs K mg H ρ (l.map LV.int) (l.map V.int) := fun ρ l => by
    induction l with
    | nil => exact .nil
    | cons i l ih => exact .cons (.int i) ih
  have rv : RV K mg H [] (.scr (ns.map LV.int)) (.ref a) := by
    rcases hS with (h | ⟨o, h⟩) | ⟨o, its, n, h, h1, h2, h3, h4, h5⟩
    · rcases hO a with z | ⟨ob, xs, z⟩
      · rw [z] at h; cases h
      · rw [z] at h; cases h
    · exact .scrF h (ri _ _)
    · exact .scrK h h1 h2 h3 h4 h5 (ri _ _)
  refine ⟨[.scr (ns.map LV.int)], [], [], rfl, .cons rv .nil, ⟨rfl, fun i j a e => by simp at e, fun l o a e => by simp at e⟩, ?_⟩
  rw [e]
  intro ρ' H' x _ _ r
  cases r
  rfl
end
end Fw

set_option maxRecDepth 100000
set_option maxHeartbeats 4000000
namespace Fw
open PySem PySem.Spec PyProof.Rows L2

theorem u65 {k : Nat} {A : Around} (r : RoomG k A) : A.units + 65 < cLine := by have := r.un; omega
/-- a def of the text, called by its name -/
structure Cal (P : Program) (w : World) (K : PySem.W.Frag) (mg : Str → Option Value) (base : Heap) (k : Nat) (x : Str) (n : Nat) (m : List LV → M LV) : Prop where
  ex : ∃ (f : Addr) (fd : FuncData) (ps : List Str), FnG P w K mg base (L2.CX P w) k f fd ps (spOf K mg n m) ∧ Binds K fd ps [] ∧ PySem.W.keepIn K (.ref f) = true ∧ mg x = some (.ref f)
section
variable {X : Cx} {W : WX} {a b c e : Expr} {es : List Expr} {ma mb mc : LE} {pos : Pos}
theorem se_callC {k n : Nat} {x : Str} {p : Pos} {m : List LV → M LV} {mr : LA} (C : Cal X.prog X.w X.K X.mg X.base k x n m) (hg : Gl X x) (hr : RoomG k X.A) (tk : Takes X W) (ha : SA X W (e :: es) mr) (hl : ALen mr n)
    (hdb : (x == ("__debug__" : Str)) = false := by decide) (he : starEach (e :: es) X.env = (false, eval e X.env) :: starEach es X.env := by rfl) (hpl : (backTo pos (starEach es X.env)).any (·.1) = false := by rfl) :
    SE X W (.Call (.Name x p) (e :: es) [] pos) (callM m mr) := by
  obtain ⟨f, fd, ps, F, hb, hk, hm⟩ := C.ex
  exact se_call F hb hk hm hg hr tk ha hl hdb he hpl
theorem se_callC0 {k : Nat} {x : Str} {p : Pos} {m : List LV → M LV} (C : Cal X.prog X.w X.K X.mg X.base k x 0 m) (hg : Gl X x) (hr : RoomG k X.A) (tk : Takes X W) (hdb : (x == ("__debug__" : Str)) = false := by decide) :
    SE X W (.Call (.Name x p) [] [] pos) (callM m aNil) := by
  obtain ⟨f, fd, ps, F, hb, hk, hm⟩ := C.ex
  exact se_call0 F hb hk hm hg hr tk hdb
theorem se_gintE {x : Str} {i : Int} (hm : ∃ t, X.mg x = some (.int i t)) (hg : Gl X x) (hd : (x == ("__debug__" : Str)) = false := by decide) : SE X W (.Name x pos) (cst (.int i)) := by
  obtain ⟨t, hm⟩ := hm
  exact se_gint hg hm hd
theorem se_bty {x : Str} (t : Ty) (hv : bootBuiltins x = some (.type t.nm)) (hm : X.mg x = none) (hg : Gl X x) (hn : x ≠ "__name__" := by decide) (hd : (x == ("__debug__" : Str)) = false := by decide) : SE X W (.Name x pos) (cst (.ty t)) :=
  se_cst (pe_bltn (v := .ty t.nm) hg hm hv rfl hn hd) fun _ _ => .ty t
/-- a op b op c -/
def chnM (f g : LV → LV → M LV) (a b c : LE) : LE := fun s => bnd (a s) fun v => bnd (b s) fun u => bnd (f v u) fun z => bnd (asB z) fun k => if k = true then bnd (c s) fun w => g u w else ret (.bl false)
/-- an operation that leaves the plain heap as it is -/
def Quiet (f : LV → LV → M LV) : Prop := ∀ v u h, (∃ b, f v u h = .ok (.bl b) h) ∨ f v u h = .bad
theorem quiet_intI {p : Int → Int → Bool} : Quiet (intI fun i j => .bl (p i j)) := fun v u h => by
  cases v <;> first | exact .inr rfl | skip
  cases u <;> first | exact .inr rfl | exact .inl ⟨_, rfl⟩
theorem chn_read {f g : LV → LV → M LV} {r r' : R2} (hf : BinS X f r) (hg : BinS X g r') (qf : Quiet f) {σ : L2.St} {H : Hp} {Q : VK} (t : tE X.K X.mg W (chnM f g ma mb mc) σ H Q) : tChain r r' (tE X.K X.mg W ma) (tE X.K X.mg W mb) (tE X.K X.mg W mc) σ H Q := by
  obtain ⟨s, ρ, h, rs, rh, p⟩ := t
  refine seqE rs rh p fun v h1 ρ1 H1 x e1 rh1 rv rs1 p1 => seqE rs1 rh1 p1 fun u h2 ρ2 H2 y e2 rh2 ru rs2 p2 => ?_
  unfold bnd at p2
  rcases qf v u h2 with ⟨k, q⟩ | q
  · rw [q] at p2
    refine hf v u x y ρ2 h2 H2 (fun _ _ _ => False) _ rh2 (rv.up e2) ru ?_
    rw [q]
    intro ρ3 H3 z e3 rh3 rz
    cases rz
    refine ⟨k, rfl, ?_⟩
    have p3 : Post X.K X.mg (RV X.K X.mg) (fun C d H' => W C d σ H') ρ2 H2 Q ((if k = true then bnd (mc s) fun w => g u w else ret (.bl false)) h2) := p2
    cases k with
    | true => exact seqE (rs2.up e3) rh3 (Post.up e3 p3) fun w h4 ρ4 H4 z e4 rh4 rw rs4 p4 => hg u w y z ρ4 h4 H4 _ Q rh4 ((ru.up e3).up e4) rw p4
    | false => exact Post.now (Post.up e3 p3) rh3 (.bl false)
  · rw [q] at p2
    exact bad_of p2
theorem se_chain {op op' : CmpOp} {f g : LV → LV → M LV} {r r' : R2} (ho : OpR X (compareOp op) r) (hf : BinS X f r) (qf : Quiet f) (ho' : OpR X (compareOp op') r') (hg : BinS X g r') (ha : SE X W a ma) (hb : SE X W b mb) (hc : SE X W c mc) (hm : lastMarks [op, op'] [b, c] = false := by with_unfolding_all rfl) :
    SE X W (.Compare a [op, op'] [b, c] pos) (chnM f g ma mb mc) := pe_imp (pe_chain ho ho' ha hb hc hm) fun _ _ _ t => chn_read hf hg qf t
theorem st_chain {op op' : CmpOp} {f g : LV → LV → M LV} {r r' : R2} (ho : OpR X (compareOp op) r) (hf : BinS X f r) (qf : Quiet f) (ho' : OpR X (compareOp op') r') (hg : BinS X g r') (ha : SE X W a ma) (hb : SE X W b mb) (hc : SE X W c mc) (hm : lastMarks [op, op'] [b, c] = false := by with_unfolding_all rfl) :
    ST X W (.Compare a [op, op'] [b, c] pos) (tstM (chnM f g ma mb mc)) := pt_imp (pt_chain ho ho' ha hb hc hm) fun _ _ _ t => chn_read hf hg qf (tst_read t)
end
theorem cal_mk {P : Program} {w : World} {K : PySem.W.Frag} {mg : Str → Option Value} {base : Heap} {k n : Nat} {x : Str} {m : List LV → M LV} {f : Addr} {fd : FuncData} {ps : List Str} (F : FnG P w K mg base (L2.CX P w) k f fd ps (spOf K mg n m)) (hb : Binds K fd ps []) (hk : PySem.W.keepIn K (.ref f) = true) (hm : mg x = some (.ref f)) : Cal P w K mg base k x n m :=
  ⟨f, fd, ps, F, hb, hk, hm⟩
end Fw

set_option maxRecDepth 100000
set_option maxHeartbeats 4000000
namespace Fw
open PySem PySem.Spec PyProof.Rows L2

/-! ### dicts as lists of pairs -/
def getK (kvs : List (LV × LV)) (k : LV) : Option LV := (kvs.find? fun p => eqLV p.1 k).map (·.2)
def hasK (kvs : List (LV × LV)) (k : LV) : Bool := kvs.any fun p => eqLV p.1 k
def putL (kvs : List (LV × LV)) (k v : LV) : List (LV × LV) := if hasK kvs k = true then kvs.map (fun p => if eqLV p.1 k = true then (p.1, v) else p) else kvs ++ [(k, v)]
def delL (kvs : List (LV × LV)) (k : LV) : List (LV × LV) := kvs.filter fun p => !eqLV p.1 k
def keyOf : LV → Option Key
  | .int i => some (.inl i)
  | .str x => some (.inr x)
  | _ => none
def keysOf : LV → Option (List Key)
  | .tup xs => optAll keyOf xs
  | _ => none
/-- a key of that kind of dict -/
def okKey (tk : Bool) (k : LV) : Bool := if tk = true then (keysOf k).isSome else (keyOf k).isSome
theorem keyOf_eq {v : LV} {k : Key} (e : keyOf v = some k) : v = keyL k := by
  cases v <;> simp [keyOf] at e <;> subst e <;> rfl
theorem keysOf_all : ∀ {xs : List LV} {ks : List Key}, optAll keyOf xs = some ks → xs = ks.map keyL
  | [], _, e => by cases e; rfl
  | x :: xs, _, e => by
    obtain ⟨y, r, h1, h2, rfl⟩ := optAll_cons e
    rw [keyOf_eq h1, keysOf_all h2]
    rfl
theorem keysOf_eq {v : LV} {ks : List Key} (e : keysOf v = some ks) : v = .tup (ks.map keyL) := by
  cases v <;> simp [keysOf] at e
  rw [keysOf_all e]
theorem eqLV_key (a b : Key) : eqLV (keyL a) (keyL b) = decide (a = b) := by
  cases a <;> cases b <;> rw [Bool.eq_iff_iff] <;> simp [keyL, eqLV]
theorem eqLV_keys : ∀ a b : List Key, eqLVs (a.map keyL) (b.map keyL) = decide (a = b)
  | [], [] => rfl
  | [], _ :: _ => rfl
  | _ :: _, [] => rfl
  | a :: as, b :: bs => by
    simp only [List.map_cons, eqLVs, eqLV_key, eqLV_keys as bs, List.cons.injEq]
    rw [Bool.eq_iff_iff]
    simp
section
variable {κ : Type} [DecidableEq κ] {kl : κ → LV} {K : PySem.W.Frag} {mg : Str → Option Value} {H : Hp} {ρ : List Addr}
/-- both kinds at once -/
def RP (K : PySem.W.Frag) (mg : Str → Option Value) (kl : κ → LV) (H : Hp) (ρ : List Addr) : List (LV × LV) → List (κ × V) → Prop := Paired fun p q => p.1 = kl q.1 ∧ RV K mg H ρ p.2 q.2
theorem rp_get (hk : ∀ a b : κ, eqLV (kl a) (kl b) = decide (a = b)) (k : κ) : ∀ {kvs : List (LV × LV)} {kv : List (κ × V)}, RP K mg kl H ρ kvs kv → (getK kvs (kl k) = none ∧ valV kv k = none) ∨ ∃ v x, getK kvs (kl k) = some v ∧ valV kv k = some x ∧ RV K mg H ρ v x
  | _, _, .nil => .inl ⟨rfl, rfl⟩
  | (a, v) :: kvs, (b, x) :: kv, .cons r t => by
    obtain ⟨rfl, rv⟩ := r
    by_cases e : b = k
    · subst e
      exact .inr ⟨v, x, by simp [getK, hk], by simp [valV], rv⟩
    · have h := rp_get hk k (show RP K mg kl H ρ kvs kv from t)
      have e1 : getK ((kl b, v) :: kvs) (kl k) = getK kvs (kl k) := by simp [getK, hk, e]
      have e2 : valV ((b, x) :: kv) k = valV kv k := by simp [valV, e]
      rw [e1, e2]
      exact h
theorem rp_any (hk : ∀ a b : κ, eqLV (kl a) (kl b) = decide (a = b)) (k : κ) : ∀ {kvs : List (LV × LV)} {kv : List (κ × V)}, RP K mg kl H ρ kvs kv → hasK kvs (kl k) = kv.any fun p => decide (p.1 = k)
  | _, _, .nil => rfl
  | (a, v) :: kvs, (b, x) :: kv, .cons r t => by
    obtain ⟨rfl, rv⟩ := r
    have h := rp_any hk k (show RP K mg kl H ρ kvs kv from t)
    unfold hasK at h ⊢
    simp [hk, h]
theorem rp_map (hk : ∀ a b : κ, eqLV (kl a) (kl b) = decide (a = b)) (k : κ) {u : LV} {y : V} (ru : RV K mg H ρ u y) : ∀ {kvs : List (LV × LV)} {kv : List (κ × V)}, RP K mg kl H ρ kvs kv → RP K mg kl H ρ (kvs.map fun p => if eqLV p.1 (kl k) = true then (p.1, u) else p) (kv.map fun p => if p.1 = k then (p.1, y) else p)
  | _, _, .nil => .nil
  | (a, v) :: kvs, (b, x) :: kv, .cons r t => by
    obtain ⟨rfl, rv⟩ := r
    have h := rp_map hk k ru (show RP K mg kl H ρ kvs kv from t)
    refine .cons ?_ h
    by_cases e : b = k
    · subst e
      simp [hk, ru]
    · simp [hk, e, rv]
theorem paired_app {α β : Type} {F : α → β → Prop} : ∀ {a c : List α} {b d : List β}, Paired F a b → Paired F c d → Paired F (a ++ c) (b ++ d)
  | _, _, _, _, .nil, s => s
  | _, _, _, _, .cons r t, s => .cons r (paired_app t s)
theorem rp_put (hk : ∀ a b : κ, eqLV (kl a) (kl b) = decide (a = b)) (k : κ) {u : LV} {y : V} (ru : RV K mg H ρ u y) {kvs : List (LV × LV)} {kv : List (κ × V)} (r : RP K mg kl H ρ kvs kv) : RP K mg kl H ρ (putL kvs (kl k) u) (putK kv k y) := by
  unfold putL putK
  rw [rp_any hk k r]
  split
  · exact rp_map hk k ru r
  · exact paired_app r (.cons ⟨rfl, ru⟩ .nil)
theorem rp_del (hk : ∀ a b : κ, eqLV (kl a) (kl b) = decide (a = b)) (k : κ) : ∀ {kvs : List (LV × LV)} {kv : List (κ × V)}, RP K mg kl H ρ kvs kv → RP K mg kl H ρ (delL kvs (kl k)) (dropK kv k)
  | _, _, .nil => .nil
  | (a, v) :: kvs, (b, x) :: kv, .cons r t => by
    obtain ⟨rfl, rv⟩ := r
    have h := rp_del hk k (show RP K mg kl H ρ kvs kv from t)
    unfold delL dropK at h ⊢
    by_cases e : b = k
    · subst e
      simpa [hk] using h
    · rw [List.filter_cons_of_pos (by simp [hk, e]), List.filter_cons_of_pos (by simp [e])]
      exact .cons ⟨rfl, rv⟩ h
theorem rp_len {kvs : List (LV × LV)} {kv : List (κ × V)} (r : RP K mg kl H ρ kvs kv) : kvs.length = kv.length := Paired.length r
end
abbrev tupK : List Key → LV := fun ks => .tup (ks.map keyL)
theorem tupK_eq (a b : List Key) : eqLV (tupK a) (tupK b) = decide (a = b) := by
  show eqLVs _ _ = _
  exact eqLV_keys a b
section
variable {X : Cx} {W : WX} {a b e i o : Expr} {es : List Expr} {ma mb mc mi mo : LE} {pos : Pos}
theorem rv_key {H : Hp} {ρ : List Addr} {k : Key} {y : V} (r : RV X.K X.mg H ρ (keyL k) y) : y = kV k := by
  cases k <;> cases r <;> rfl
theorem rvs_keys {H : Hp} {ρ : List Addr} : ∀ {ks : List Key} {ys : List V}, RVs X.K X.mg H ρ (ks.map keyL) ys → ys = ks.map kV
  | [], _, r => by cases r; rfl
  | k :: ks, _, r => by
    cases r with
    | cons r t => rw [rv_key r, rvs_keys t]; rfl
theorem rv_keys {H : Hp} {ρ : List Addr} {ks : List Key} {y : V} (r : RV X.K X.mg H ρ (tupK ks) y) : ∃ q, y = .ref q ∧ H q = some (.tup (ks.map kV)) := by
  obtain ⟨q, va, rfl, ha, ra⟩ := rv_tup r
  rw [rvs_keys ra] at ha
  exact ⟨q, rfl, ha⟩
theorem dct_of {ρ : List Addr} {h : LH} {H : Hp} {l : Nat} {a : Addr} {tk : Bool} {kvs : List (LV × LV)} (rh : RH X.K X.mg ρ h H) (e : h[l]? = some (.dct tk kvs)) (r : ρ[l]? = some a) : RO X.K X.mg H ρ (.dct tk kvs) a := rh.obj l _ a e r
/-- a dict, locked or not -/
theorem rdc_of {ρ : List Addr} {h : LH} {H : Hp} {l : Nat} {a : Addr} {kvs : List (LV × LV)} (rh : RH X.K X.mg ρ h H) (e : h[l]? = some (.dct false kvs) ∨ h[l]? = some (.fdc false kvs)) (r : ρ[l]? = some a) : ∃ kv, Rd H a (.dK kv) ∧ RK X.K X.mg H ρ kvs kv := by
  rcases e with e | e
  · obtain ⟨kv, h1, h2⟩ := rh.obj l _ a e r; exact ⟨kv, .inl h1, h2⟩
  · obtain ⟨od, kv, h1, h2⟩ := rh.obj l _ a e r; exact ⟨kv, .inr ⟨od, h1⟩, h2⟩
theorem rdt_of {ρ : List Addr} {h : LH} {H : Hp} {l : Nat} {a : Addr} {kvs : List (LV × LV)} (rh : RH X.K X.mg ρ h H) (e : h[l]? = some (.dct true kvs) ∨ h[l]? = some (.fdc true kvs)) (r : ρ[l]? = some a) : ∃ kv, Rd H a (.dT kv) ∧ RT X.K X.mg H ρ kvs kv := by
  rcases e with e | e
  · obtain ⟨kv, h1, h2⟩ := rh.obj l _ a e r; exact ⟨kv, .inl h1, h2⟩
  · obtain ⟨od, kv, h1, h2⟩ := rh.obj l _ a e r; exact ⟨kv, .inr ⟨od, h1⟩, h2⟩
/-- what a dict tells of a key -/
theorem dget_of {ρ : List Addr} {h : LH} {H : Hp} {l : Nat} {a : Addr} {tk : Bool} {kvs : List (LV × LV)} {k : LV} {y : V} (rh : RH X.K X.mg ρ h H) (e : h[l]? = some (.dct tk kvs) ∨ h[l]? = some (.fdc tk kvs)) (r : ρ[l]? = some a) (rk : RV X.K X.mg H ρ k y) (hk : okKey tk k = true) :
    (getK kvs k = none ∧ DGet H a y none) ∨ ∃ v x, getK kvs k = some v ∧ DGet H a y (some x) ∧ RV X.K X.mg H ρ v x := by
  unfold okKey at hk
  cases tk with
  | false =>
    obtain ⟨kv, h1, h2⟩ := rdc_of rh e r
    obtain ⟨kk, ek⟩ := Option.isSome_iff_exists.mp (by simpa using hk)
    have e2 := keyOf_eq ek
    subst e2
    have ey := rv_key rk
    subst ey
    rcases rp_get (kl := keyL) eqLV_key kk (show RP X.K X.mg keyL H ρ kvs kv from h2) with ⟨g1, g2⟩ | ⟨v, x, g1, g2, g3⟩
    · exact .inl ⟨g1, by rw [← g2]; exact .inl ⟨kv, kk, h1, rfl, rfl⟩⟩
    · exact .inr ⟨v, x, g1, by rw [← g2]; exact .inl ⟨kv, kk, h1, rfl, rfl⟩, g3⟩
  | true =>
    obtain ⟨kv, h1, h2⟩ := rdt_of rh e r
    obtain ⟨kk, ek⟩ := Option.isSome_iff_exists.mp (by simpa using hk)
    have e2 := keysOf_eq ek
    subst e2
    obtain ⟨q, rfl, hq⟩ := rv_keys rk
    rcases rp_get (kl := tupK) tupK_eq kk (show RP X.K X.mg tupK H ρ kvs kv from h2) with ⟨g1, g2⟩ | ⟨v, x, g1, g2, g3⟩
    · exact .inl ⟨g1, by rw [← g2]; exact .inr ⟨kv, kk, q, h1, rfl, hq, rfl⟩⟩
    · exact .inr ⟨v, x, g1, by rw [← g2]; exact .inr ⟨kv, kk, q, h1, rfl, hq, rfl⟩, g3⟩
theorem dput_of {ρ : List Addr} {h : LH} {H : Hp} {l : Nat} {a : Addr} {tk : Bool} {kvs : List (LV × LV)} {k v : LV} {y x : V} (rh : RH X.K X.mg ρ h H) (e : h[l]? = some (.dct tk kvs)) (r : ρ[l]? = some a) (rk : RV X.K X.mg H ρ k y) (rv : RV X.K X.mg H ρ v x) (hk : okKey tk k = true) (hz : kvs.length < sizeLine) :
    ∃ H', DPut H a y x H' ∧ Ext ρ H ρ H' ∧ RH X.K X.mg ρ (h.set l (.dct tk (putL kvs k v))) H' := by
  have ro := dct_of rh e r
  unfold okKey at hk
  cases tk with
  | false =>
    obtain ⟨kv, h1, h2⟩ := ro
    obtain ⟨kk, ek⟩ := Option.isSome_iff_exists.mp (by simpa using hk)
    have e2 := keyOf_eq ek
    subst e2
    have ey := rv_key rk
    subst ey
    refine ⟨_, DPut.k h1 (by rw [← rp_len (kl := keyL) h2]; exact hz), ext_set rh r, rh.set r ⟨_, upd_same, ?_⟩⟩
    exact RK.up (ext_set rh r) (rp_put (kl := keyL) eqLV_key kk rv h2)
  | true =>
    obtain ⟨kv, h1, h2⟩ := ro
    obtain ⟨kk, ek⟩ := Option.isSome_iff_exists.mp (by simpa using hk)
    have e2 := keysOf_eq ek
    subst e2
    obtain ⟨q, rfl, hq⟩ := rv_keys rk
    refine ⟨_, DPut.t h1 hq (by rw [← rp_len (kl := tupK) h2]; exact hz), ext_set rh r, rh.set r ⟨_, upd_same, ?_⟩⟩
    exact RT.up (ext_set rh r) (rp_put (kl := tupK) tupK_eq kk rv h2)
/-! ### operations -/
def dAt (h : LH) : LV → Option (Nat × Bool × List (LV × LV))
  | .ref l => match h[l]? with
    | some (.dct tk kvs) => some (l, tk, kvs)
    | _ => none
  | _ => none
theorem dAt_eq {h : LH} {v : LV} {l : Nat} {tk : Bool} {kvs : List (LV × LV)} (e : dAt h v = some (l, tk, kvs)) : v = .ref l ∧ h[l]? = some (.dct tk kvs) := by
  unfold dAt at e
  split at e
  · split at e
    · rename_i q
      cases e
      exact ⟨rfl, q⟩
    · cases e
  · cases e
/-- a dict that is read: locked or not -/
def dRd (h : LH) : LV → Option (Nat × Bool × List (LV × LV))
  | .ref l => match h[l]? with
    | some (.dct tk kvs) => some (l, tk, kvs)
    | some (.fdc tk kvs) => some (l, tk, kvs)
    | _ => none
  | _ => none
theorem dRd_eq {h : LH} {v : LV} {l : Nat} {tk : Bool} {kvs : List (LV × LV)} (e : dRd h v = some (l, tk, kvs)) : v = .ref l ∧ (h[l]? = some (.dct tk kvs) ∨ h[l]? = some (.fdc tk kvs)) := by
  unfold dRd at e
  split at e
  · split at e
    · rename_i q; cases e; exact ⟨rfl, .inl q⟩
    · rename_i q; cases e; exact ⟨rfl, .inr q⟩
    · cases e
  · cases e
theorem dRd_of {h : LH} {v : LV} {z : Nat × Bool × List (LV × LV)} (e : dAt h v = some z) : dRd h v = some z := by
  obtain ⟨l, tk, kvs⟩ := z
  obtain ⟨rfl, q⟩ := dAt_eq e
  simp only [dRd, q]
def dgtL (d k : LV) : M LV := fun h => match dRd h d with
  | some (_, tk, kvs) => if okKey tk k = true then (match getK kvs k with
    | some v => .ok v h
    | none => .bad) else .bad
  | none => .bad
def dinBy (f : Bool → Bool) (k d : LV) : M LV := fun h => match dRd h d with
  | some (_, tk, kvs) => if okKey tk k = true then .ok (.bl (f (getK kvs k).isSome)) h else .bad
  | none => .bad
theorem se_dget (hu : X.A.units + 1 < cLine) (ho : SE X W o mo) (hi : SE X W i mi) (hs : NoSl i) : SE X W (.Subscript o i pos) (opM dgtL mo mi) := by
  refine pe_imp (pe_dget hu ho hi hs) fun σ H Q ⟨s, ρ, h, rs, rh, p⟩ => ?_
  refine seqE rs rh p fun v h1 ρ1 H1 x e1 rh1 rv rs1 p1 => seqE rs1 rh1 p1 fun u h2 ρ2 H2 y e2 rh2 ru rs2 p2 => ?_
  unfold dgtL at p2
  split at p2
  · rename_i l tk kvs ed
    obtain ⟨rfl, el⟩ := dRd_eq ed
    cases rv.up e2 with
    | ref hr =>
      split at p2
      · rename_i ok
        rcases dget_of rh2 el hr ru ok with ⟨g, _⟩ | ⟨w, z, g, dg, rz⟩
        · rw [g] at p2; exact bad_of p2
        · rw [g] at p2; exact ⟨_, z, rfl, dg, Post.now p2 rh2 rz⟩
      · exact bad_of p2
  · exact bad_of p2
theorem din_read {f : Bool → Bool} {σ : L2.St} {H : Hp} {Q : VK} (t : tE X.K X.mg W (opM (dinBy f) mi mo) σ H Q) : tE X.K X.mg W mi σ H fun y H1 => tE X.K X.mg W mo σ H1 fun x H2 => ∃ a q, x = .ref a ∧ DGet H2 a y q ∧ Q (.bl (f q.isSome)) H2 := by
  obtain ⟨s, ρ, h, rs, rh, p⟩ := t
  refine seqE rs rh p fun v h1 ρ1 H1 x e1 rh1 rv rs1 p1 => seqE rs1 rh1 p1 fun u h2 ρ2 H2 y e2 rh2 ru rs2 p2 => ?_
  unfold dinBy at p2
  split at p2
  · rename_i l tk kvs ed
    obtain ⟨rfl, el⟩ := dRd_eq ed
    cases ru with
    | ref hr =>
      split at p2
      · rename_i ok
        rcases dget_of rh2 el hr (rv.up e2) ok with ⟨g, dg⟩ | ⟨w, z, g, dg, rz⟩
        · rw [g] at p2; exact ⟨_, none, rfl, dg, Post.now p2 rh2 (.bl _)⟩
        · rw [g] at p2; exact ⟨_, some z, rfl, dg, Post.now p2 rh2 (.bl _)⟩
      · exact bad_of p2
  · exact bad_of p2
theorem se_din (hu : X.A.units + 1 < cLine) (hi : SE X W i mi) (ho : SE X W o mo) (h1 : behindInMarks .In o = false := by rfl) : SE X W (.Compare i [.In] [o] pos) (opM (dinBy id) mi mo) := pe_imp (pe_cmp (pc_din hu hi ho) h1) fun _ _ _ t => din_read t
theorem se_dnotin (hu : X.A.units + 1 < cLine) (hi : SE X W i mi) (ho : SE X W o mo) (h1 : behindInMarks .NotIn o = false := by rfl) : SE X W (.Compare i [.NotIn] [o] pos) (opM (dinBy not) mi mo) := pe_imp (pe_cmp (pc_dnotin hu hi ho) h1) fun _ _ _ t => din_read t
theorem st_din (hu : X.A.units + 1 < cLine) (hi : SE X W i mi) (ho : SE X W o mo) (h1 : behindInMarks .In o = false := by rfl) : ST X W (.Compare i [.In] [o] pos) (tstM (opM (dinBy id) mi mo)) := pt_imp (pt_cmp (pc_din hu hi ho) h1) fun _ _ _ t => din_read (tst_read t)
theorem st_dnotin (hu : X.A.units + 1 < cLine) (hi : SE X W i mi) (ho : SE X W o mo) (h1 : behindInMarks .NotIn o = false := by rfl) : ST X W (.Compare i [.NotIn] [o] pos) (tstM (opM (dinBy not) mi mo)) := pt_imp (pt_cmp (pc_dnotin hu hi ho) h1) fun _ _ _ t => din_read (tst_read t)
/-- d[k] = v -/
def dputS (d k v : LE) : LS := fun s h => match bnd (v s) (fun x => bnd (d s) fun dd => bnd (k s) fun kk h => match dAt h dd with
    | some (l, tk, kvs) => if okKey tk kk = true ∧ kvs.length < sizeLine then .ok () (h.set l (.dct tk (putL kvs kk x))) else .bad
    | none => .bad) h with
  | .ok _ h' => .nx s h'
  | .exc c fs h' => .exc c fs s h'
  | .bad => .bad
theorem postS_unit {σ : L2.St} {H : Hp} {ρ : List Addr} {s : LSt} {D : Ends} {r : RE Unit} (rs : RSt X.K X.mg H ρ s σ) (p : PostS X.K X.mg W D ρ H (match r with | .ok _ h' => .nx s h' | .exc c fs h' => .exc c fs s h' | .bad => .bad)) : Post X.K X.mg (fun _ _ (_ : Unit) (_ : Unit) => True) (fun C d H' => W C d σ H') ρ H (fun _ H' => D.nx σ H') r := by
  cases r with
  | ok u h' => exact fun ρ1 H1 _ e1 rh1 _ => p ρ1 H1 σ e1 rh1 (rs.up e1)
  | exc c fs h' => exact fun ρ1 H1 C d e1 rh1 rx => p ρ1 H1 σ C d e1 rh1 (rs.up e1) rx
  | bad => exact p
theorem ss_dput {value : Expr} {mv : LE} {pos' : Pos} (hu : X.A.units + 1 < cLine) (ho : SE X W o mo) (hi : SE X W i mi) (hv : SE X W value mv) (hs : swapsWith value (some (.Subscript o i pos')) pos.line X.env = pure false := by rfl) : SS X W (.Assign [.Subscript o i pos'] value pos) (dputS mo mi mv) := by
  refine ps_imp (ps_dput hu ho hi hv hs) fun D σ H ⟨s, ρ, h, rs, rh, p⟩ => ?_
  have p := postS_unit rs p
  refine seqE rs rh p fun x h1 ρ1 H1 xv e1 rh1 rx rs1 p1 => seqE rs1 rh1 p1 fun d h2 ρ2 H2 dv e2 rh2 rd rs2 p2 => seqE rs2 rh2 p2 fun k h3 ρ3 H3 kv e3 rh3 rk rs3 p3 => ?_
  split at p3
  · rename_i l tk kvs ed
    obtain ⟨rfl, el⟩ := dAt_eq ed
    cases rd.up e3 with
    | ref hr =>
      split at p3
      · rename_i ok
        obtain ⟨H4, dp, e4, rh4⟩ := dput_of rh3 el hr rk ((rx.up e2).up e3) ok.1 ok.2
        exact ⟨_, H4, rfl, dp, p3 ρ3 H4 () e4 rh4 trivial⟩
      · exact bad_of p3
  · exact bad_of p3
/-! ### displays -/
def dnwM (tk : Bool) : LE := fun _ h => .ok (.ref h.length) (h ++ [.dct tk []])
theorem se_dnewK : SE X W (.Dict [] [] pos) (dnwM false) := pe_imp pe_dnewK fun σ H Q ⟨s, ρ, h, rs, rh, p⟩ q hq => p (ρ ++ [q]) _ _ (ext_push hq) (rh.new hq ⟨[], upd_same, .nil⟩) (.ref (by rw [← rh.len]; simp))
theorem se_dnewT : SE X W (.Dict [] [] pos) (dnwM true) := pe_imp pe_dnewT fun σ H Q ⟨s, ρ, h, rs, rh, p⟩ q hq => p (ρ ++ [q]) _ _ (ext_push hq) (rh.new hq ⟨[], upd_same, .nil⟩) (.ref (by rw [← rh.len]; simp))
def prsM : List (LE × LE) → LSt → M (List (LV × LV))
  | [], _ => ret []
  | (k, v) :: r, s => bnd (k s) fun kk => bnd (v s) fun vv => bnd (prsM r s) fun ps => ret ((kk, vv) :: ps)
def dspF (D : Nat) (ps : List (LV × LV)) : M LV := fun h' => match h'[D]? with
  | some (.dct false []) => if ps.all (fun p => (keyOf p.1).isSome) = true ∧ ps.length ≤ 15 then .ok (.ref D) (h'.set D (.dct false (ps.foldl (fun acc p => putL acc p.1 p.2) []))) else .bad
  | _ => .bad
def dspM (l : List (LE × LE)) : LE := fun s h => bnd (prsM l s) (dspF h.length) (h ++ [.dct false []])
def trsOf (K : PySem.W.Frag) (mg : Str → Option Value) (W : WX) : List (LE × LE) → List (TE × TE) := List.map fun p => (tE K mg W p.1, tE K mg W p.2)
def RPV (K : PySem.W.Frag) (mg : Str → Option Value) (H : Hp) (ρ : List Addr) : List (LV × LV) → List (V × V) → Prop := Paired fun p q => RV K mg H ρ p.1 q.1 ∧ RV K mg H ρ p.2 q.2
theorem rpv_up {K : PySem.W.Frag} {mg : Str → Option Value} {H H' : Hp} {ρ ρ' : List Addr} {a : List (LV × LV)} {b : List (V × V)} (e : Ext ρ H ρ' H') (r : RPV K mg H ρ a b) : RPV K mg H' ρ' a b := Paired.mapP r fun _ _ z => ⟨z.1.up e, z.2.up e⟩
theorem prs_read {σ : L2.St} {γ γ' : Type} {rel' : Hp → List Addr → γ → γ' → Prop} : ∀ {l : List (LE × LE)} {H : Hp} {ρ : List Addr} {s : LSt} {h : LH} {Q : γ' → Hp → Prop} {f : List (LV × LV) → M γ} {R : List (V × V) → Hp → Prop}, RSt X.K X.mg H ρ s σ → RH X.K X.mg ρ h H → Post X.K X.mg rel' (fun C d H' => W C d σ H') ρ H Q (bnd (prsM l s) f h) →
    (∀ ps h1 ρ1 H1 xs, Ext ρ H ρ1 H1 → RH X.K X.mg ρ1 h1 H1 → RPV X.K X.mg H1 ρ1 ps xs → Post X.K X.mg rel' (fun C d H' => W C d σ H') ρ1 H1 Q (f ps h1) → R xs H1) → tPairs (trsOf X.K X.mg W l) σ H R
  | [], H, ρ, s, h, Q, f, R, rs, rh, p, k => k [] h ρ H [] Ext.refl rh .nil p
  | (a, b) :: l, H, ρ, s, h, Q, f, R, rs, rh, p, k => by
    have as1 : bnd (prsM ((a, b) :: l) s) f = bnd (a s) (fun kk => bnd (b s) fun vv => bnd (prsM l s) fun ps => f ((kk, vv) :: ps)) := by
      funext z
      show bnd (bnd (a s) fun kk => bnd (b s) fun vv => bnd (prsM l s) fun ps => ret ((kk, vv) :: ps)) f z = _
      simp only [bnd, ret]
      cases a s z with
      | ok kk z1 =>
        dsimp only
        cases b s z1 with
        | ok vv z2 =>
          dsimp only
          cases prsM l s z2 <;> rfl
        | exc c fs z2 => rfl
        | bad => rfl
      | exc c fs z1 => rfl
      | bad => rfl
    rw [as1] at p
    exact seqE rs rh p fun kk h1 ρ1 H1 x e1 rh1 rk rs1 p1 => seqE rs1 rh1 p1 fun vv h2 ρ2 H2 y e2 rh2 rv rs2 p2 => prs_read rs2 rh2 p2 fun ps h3 ρ3 H3 xs e3 rh3 rp p3 =>
      k ((kk, vv) :: ps) h3 ρ3 H3 ((x, y) :: xs) ((e1.trans e2).trans e3) rh3 (.cons ⟨(rk.up e2).up e3, rv.up e3⟩ rp) p3
theorem keys_of_ps {H : Hp} {ρ : List Addr} : ∀ {ps : List (LV × LV)} {xs : List (V × V)}, RPV X.K X.mg H ρ ps xs → ps.all (fun p => (keyOf p.1).isSome) = true → ∃ kvs : List (Key × V), xs = kvs.map (fun kv => (kV kv.1, kv.2)) ∧ RK X.K X.mg H ρ ps kvs
  | _, _, .nil, _ => ⟨[], rfl, .nil⟩
  | (k, v) :: ps, (x, y) :: xs, .cons r t, e => by
    rw [List.all_cons, Bool.and_eq_true] at e
    obtain ⟨kvs, h1, h2⟩ := keys_of_ps (show RPV X.K X.mg H ρ ps xs from t) e.2
    obtain ⟨kk, ek⟩ := Option.isSome_iff_exists.mp e.1
    have e2 := keyOf_eq ek
    dsimp only at e2
    subst e2
    have ey := rv_key r.1
    dsimp only at ey
    subst ey
    exact ⟨(kk, y) :: kvs, by rw [h1]; rfl, .cons ⟨rfl, r.2⟩ h2⟩
theorem rk_merge {H : Hp} {ρ : List Addr} : ∀ {ps : List (LV × LV)} {kvs : List (Key × V)} {acc : List (LV × LV)} {kv : List (Key × V)}, RK X.K X.mg H ρ ps kvs → RK X.K X.mg H ρ acc kv → RK X.K X.mg H ρ (ps.foldl (fun acc p => putL acc p.1 p.2) acc) (mergeK kv kvs)
  | _, _, _, _, .nil, r => r
  | (k, v) :: ps, (kk, x) :: kvs, acc, kv, .cons r t, q => by
    obtain ⟨rfl, rv⟩ := r
    show RK X.K X.mg H ρ (ps.foldl (fun acc p => putL acc p.1 p.2) (putL acc (keyL kk) v)) (mergeK (putK kv kk x) kvs)
    exact rk_merge (ps := ps) (kvs := kvs) t (rp_put (kl := keyL) eqLV_key kk rv q)
abbrev SPs (X : Cx) (W : WX) (pos : Pos) (keys : List (Option Expr)) (values : List Expr) (l : List (LE × LE)) : Prop := PPs X pos keys values (trsOf X.K X.mg W l)
theorem sps_nil : SPs X W pos [] [] [] := pps_nil
theorem sps_cons {k v : Expr} {ks : List (Option Expr)} {vs : List Expr} {mk mv : LE} {l : List (LE × LE)} (hk : SE X W k mk) (hv : SE X W v mv) (hr : SPs X W pos ks vs l) : SPs X W pos (some k :: ks) (v :: vs) ((mk, mv) :: l) := pps_cons hk hv hr
theorem se_disp {keys : List (Option Expr)} {values : List Expr} {l : List (LE × LE)} (h : SPs X W pos keys values l) (hall : keys.all (·.isSome) = true := by rfl) (hl : keys.length = values.length := by rfl) (h0 : keys ≠ [] := by exact fun z => by cases z) (h15 : keys.length ≤ 15 := by decide) : SE X W (.Dict keys values pos) (dspM l) := by
  refine pe_imp (pe_disp h hall hl h0 h15) fun σ H Q ⟨s, ρ, h, rs, rh, p⟩ q hq => ?_
  have rh0 : RH X.K X.mg (ρ ++ [q]) (h ++ [.dct false []]) (upd H q (.dK [])) := rh.new hq ⟨[], upd_same, .nil⟩
  have e0 : Ext ρ H (ρ ++ [q]) (upd H q (.dK [])) := ext_push hq
  have at0 : (ρ ++ [q])[h.length]? = some q := by rw [← rh.len]; simp
  have pp : Post X.K X.mg (RV X.K X.mg) (fun C d H' => W C d σ H') (ρ ++ [q]) (upd H q (.dK [])) Q (bnd (prsM l s) (dspF h.length) (h ++ [.dct false []])) := Post.up e0 p
  refine prs_read (rs.up e0) rh0 pp fun ps h1 ρ1 H1 xs e1 rh1 rp p1 => ?_
  have at1 : ρ1[h.length]? = some q := e1.pre _ _ at0
  unfold dspF at p1
  split at p1
  · rename_i el
    obtain ⟨kv, hk1, hk2⟩ := (show RO X.K X.mg H1 ρ1 (.dct false []) q from rh1.obj _ _ _ el at1)
    cases hk2
    split at p1
    · rename_i ok
      obtain ⟨kvs, ex, rk⟩ := keys_of_ps rp ok.1
      refine ⟨hk1, kvs, ex, ?_, p1 ρ1 _ _ (ext_set rh1 at1) (rh1.set at1 ⟨_, upd_same, ?_⟩) (.ref at1)⟩
      · have hl1 : ps.length = kvs.length := Paired.length rk
        rw [← hl1]; exact ok.2
      · exact RK.up (ext_set rh1 at1) (rk_merge rk .nil)
    · exact bad_of p1
  · exact bad_of p1
end
end Fw

set_option maxRecDepth 100000
set_option maxHeartbeats 4000000
namespace Fw
open PySem PySem.Spec PyProof.Rows L2

section
variable {X : Cx} {W : WX} {e o i : Expr} {es : List Expr} {pos tpos : Pos} {st : Stmt} {mo mi mv : LE}
theorem u1 {k : Nat} {A : Around} (r : RoomG k A) : A.units + 1 < cLine := by have := r.un; omega
/-! ### one of two readings -/
theorem se_alt {m m1 m2 : LE} (k : ∀ s h, m s h = m1 s h ∨ m s h = m2 s h) (h1 : SE X W e m1) (h2 : SE X W e m2) : SE X W e m :=
  ⟨fun pins s σ H Q I ⟨sl, ρ, h, rs, rh, p⟩ => by
    rcases k sl h with z | z
    · exact h1.run pins s σ H Q I ⟨sl, ρ, h, rs, rh, by rw [← z]; exact p⟩
    · exact h2.run pins s σ H Q I ⟨sl, ρ, h, rs, rh, by rw [← z]; exact p⟩⟩
theorem st_alt {m m1 m2 : LT} (k : ∀ s h, m s h = m1 s h ∨ m s h = m2 s h) (h1 : ST X W e m1) (h2 : ST X W e m2) : ST X W e m :=
  ⟨fun pins s σ H Q I ⟨sl, ρ, h, rs, rh, p⟩ => by
    rcases k sl h with z | z
    · exact h1.run pins s σ H Q I ⟨sl, ρ, h, rs, rh, by rw [← z]; exact p⟩
    · exact h2.run pins s σ H Q I ⟨sl, ρ, h, rs, rh, by rw [← z]; exact p⟩⟩
theorem ss_alt {m m1 m2 : LS} (k : ∀ s h, m s h = m1 s h ∨ m s h = m2 s h) (h1 : SS X W st m1) (h2 : SS X W st m2) : SS X W st m :=
  ⟨fun pins s σ H D I ⟨sl, ρ, h, rs, rh, p⟩ => by
    rcases k sl h with z | z
    · exact h1.run pins s σ H D I ⟨sl, ρ, h, rs, rh, by rw [← z]; exact p⟩
    · exact h2.run pins s σ H D I ⟨sl, ρ, h, rs, rh, by rw [← z]; exact p⟩⟩
/-- what is never reached -/
def badE : LE := fun _ _ => .bad
def badS : LS := fun _ _ => .bad
theorem se_bad : SE X W e badE := ⟨fun pins s σ H Q I ⟨sl, ρ, h, rs, rh, p⟩ => bad_of p⟩
theorem ss_bad : SS X W st badS := ⟨fun pins s σ H D I ⟨sl, ρ, h, rs, rh, p⟩ => (show False from p).elim⟩
/-- an operation that is one of two by what it is given -/
def selL (c : LH → LV → LV → Bool) (f g : LV → LV → M LV) (v u : LV) : M LV := fun h => if c h v u = true then f v u h else g v u h
theorem sel_op (c : LH → LV → LV → Bool) (f g : LV → LV → M LV) (a b : LE) : ∀ s h, opM (selL c f g) a b s h = opM f a b s h ∨ opM (selL c f g) a b s h = opM g a b s h := by
  intro s h
  unfold opM bnd
  cases a s h with
  | ok v h1 =>
    dsimp only
    cases b s h1 with
    | ok u h2 =>
      dsimp only [selL]
      split
      · exact .inl rfl
      · exact .inr rfl
    | exc c fs h' => exact .inl rfl
    | bad => exact .inl rfl
  | exc c fs h' => exact .inl rfl
  | bad => exact .inl rfl
theorem sel_tst (c : LH → LV → LV → Bool) (f g : LV → LV → M LV) (a b : LE) : ∀ s h, tstM (opM (selL c f g) a b) s h = tstM (opM f a b) s h ∨ tstM (opM (selL c f g) a b) s h = tstM (opM g a b) s h := by
  intro s h
  rcases sel_op c f g a b s h with z | z
  · left; unfold tstM bnd; rw [z]
  · right; unfold tstM bnd; rw [z]
def isD1 (h : LH) (v _ : LV) : Bool := (dRd h v).isSome
def isD2 (h : LH) (_ u : LV) : Bool := (dRd h u).isSome
def getA : LV → LV → M LV := selL isD1 dgtL getL
def inA : LV → LV → M LV := selL isD2 (dinBy id) inL
def notInA : LV → LV → M LV := selL isD2 (dinBy not) notInL
theorem se_getA (hu : X.A.units + 1 < cLine) (ho : SE X W o mo) (hi : SE X W i mi) (hs : NoSl i) : SE X W (.Subscript o i pos) (opM getA mo mi) := se_alt (sel_op _ _ _ _ _) (se_dget hu ho hi hs) (se_ix ho hi hs)
theorem se_inA (hu : X.A.units + 65 < cLine) (hi : SE X W i mi) (ho : SE X W o mo) (h1 : behindInMarks .In o = false := by rfl) : SE X W (.Compare i [.In] [o] pos) (opM inA mi mo) := se_alt (sel_op _ _ _ _ _) (se_din (by omega) hi ho h1) (se_cmp (op_inL hu) bin_inL h1 hi ho)
theorem se_notInA (hu : X.A.units + 65 < cLine) (hi : SE X W i mi) (ho : SE X W o mo) (h1 : behindInMarks .NotIn o = false := by rfl) : SE X W (.Compare i [.NotIn] [o] pos) (opM notInA mi mo) := se_alt (sel_op _ _ _ _ _) (se_dnotin (by omega) hi ho h1) (se_cmp (op_notInL hu) bin_notInL h1 hi ho)
theorem st_inA (hu : X.A.units + 65 < cLine) (hi : SE X W i mi) (ho : SE X W o mo) (h1 : behindInMarks .In o = false := by rfl) : ST X W (.Compare i [.In] [o] pos) (tstM (opM inA mi mo)) := st_alt (sel_tst _ _ _ _ _) (st_din (by omega) hi ho h1) (st_cmp (op_inL hu) bin_inL h1 hi ho)
theorem st_notInA (hu : X.A.units + 65 < cLine) (hi : SE X W i mi) (ho : SE X W o mo) (h1 : behindInMarks .NotIn o = false := by rfl) : ST X W (.Compare i [.NotIn] [o] pos) (tstM (opM notInA mi mo)) := st_alt (sel_tst _ _ _ _ _) (st_dnotin (by omega) hi ho h1) (st_cmp (op_notInL hu) bin_notInL h1 hi ho)
/-! ### o[i] = v -/
def setL (o i v : LV) : M Unit := fun h => match dAt h o with
  | some (l, tk, kvs) => if okKey tk i = true ∧ kvs.length < sizeLine then .ok () (h.set l (.dct tk (putL kvs i v))) else .bad
  | none => (match o, i with
    | .ref l, .int k => (match h[l]? with
      | some (.lst xs) => (match ixN xs.length k with
        | some j => .ok () (h.set l (.lst (xs.set j v)))
        | none => .bad)
      | _ => .bad)
    | _, _ => .bad)
def gSb (mo mi : LE) : LG := fun v s h => match mo s h with
  | .ok o h1 => (match mi s h1 with
    | .ok i h2 => (match setL o i v h2 with
      | .ok _ h3 => .ok s h3
      | _ => .bad)
    | _ => .bad)
  | _ => .bad
theorem set_both (hu : X.A.units + 1 < cLine) : PSet X (fun o i v H Q => rSetL o i v H Q ∨ rSetD o i v H Q) := by
  intro pins s σ H o i v ov iv u Q I ro ri rv h
  rcases h with h | h
  · exact set_list pins s σ H o i v ov iv u Q I ro ri rv h
  · exact set_dict hu pins s σ H o i v ov iv u Q I ro ri rv h
theorem RVs.setI {K : PySem.W.Frag} {mg : Str → Option Value} {H : Hp} {ρ : List Addr} {v : LV} {x : V} (r : RV K mg H ρ v x) : ∀ {vs : List LV} {xs : List V} (j : Nat), RVs K mg H ρ vs xs → RVs K mg H ρ (vs.set j v) (xs.set j x)
  | [], _, j, t => by cases t; exact .nil
  | w :: vs, _, 0, t => by cases t with | cons a b => exact .cons r b
  | w :: vs, _, j + 1, t => by cases t with | cons a b => exact .cons a (RVs.setI r j b)
theorem sg_sub (hu : X.A.units + 1 < cLine) (ho : SE X W o mo) (hi : SE X W i mi)
    (ha : ∀ v, assign (.Subscript o i pos) X.env v = (do
      let ov ← holding [v] (eval o X.env)
      let iv ← holding [v, ov] (eval i X.env)
      standAt pos
      holding [v, ov, iv] (setItem ov iv v)
      release [v, ov, iv] []) := by intro _; rfl) : SG X (.Subscript o i pos) (gSb mo mi) := by
  refine pg_imp (pg_sub ho hi (set_both hu) ha) fun x σ H Q ⟨v, s, ρ, h, rv, rs, rh, p⟩ => ?_
  unfold gSb at p
  refine ⟨s, ρ, h, rs, rh, ?_⟩
  cases e1 : mo s h with
  | exc c fs h' => rw [e1] at p; exact bad_of p
  | bad => rw [e1] at p; exact bad_of p
  | ok ov h1 =>
    rw [e1] at p
    intro ρ1 H1 ox x1 rh1 ro
    refine ⟨s, ρ1, h1, rs.up x1, rh1, ?_⟩
    dsimp only at p
    cases e2 : mi s h1 with
    | exc c fs h' => rw [e2] at p; exact bad_of p
    | bad => rw [e2] at p; exact bad_of p
    | ok iv h2 =>
      rw [e2] at p
      dsimp only at p
      intro ρ2 H2 ix x2 rh2 ri
      have ro2 := ro.up x2
      have rv2 := (rv.up x1).up x2
      have rs2 := (rs.up x1).up x2
      unfold setL at p
      cases ed : dAt h2 ov with
      | some q =>
        obtain ⟨l, tk, kvs⟩ := q
        rw [ed] at p
        dsimp only at p
        obtain ⟨rfl, el⟩ := dAt_eq ed
        cases ro2 with
        | ref hr =>
          split at p
          · rename_i h3 ee
            split at ee
            · rename_i ok
              cases ee
              obtain ⟨H4, dp, e4, rh4⟩ := dput_of rh2 el hr ri rv2 ok.1 ok.2
              exact .inr ⟨_, H4, rfl, dp, p ρ2 H4 _ ((x1.trans x2).trans e4) rh4 (rs2.up e4)⟩
            · cases ee
          · exact bad_of p
      | none =>
        rw [ed] at p
        dsimp only at p
        split at p
        · rename_i h3 ee
          split at ee
          · split at ee
            · rename_i xs el
              split at ee
              · rename_i j ej
                cases ee
                cases ro2 with
                | ref hr =>
                  cases ri
                  obtain ⟨va, hva, ra⟩ := rv_lst rh2 el hr
                  exact .inl ⟨_, va, _, j, rfl, rfl, hva, by rw [← ra.length]; exact ej, p ρ2 _ _ ((x1.trans x2).trans (ext_set rh2 hr)) (rh2.set hr ⟨_, upd_same, (RVs.setI rv2 j ra).up (ext_set rh2 hr)⟩) (rs2.up (ext_set rh2 hr))⟩
              · cases ee
            · cases ee
          · cases ee
        · exact bad_of p
/-! ### calls of types -/
def strL : List LV → M LV
  | [.int i] => fun h => if i.natAbs.log2 < 1920 then .ok (.str (toString i)) h else .bad
  | [.str x] => ret (.str x)
  | _ => bad
theorem cal_str : CalS X strL (fun xs H Q => (∃ i, xs = [.int i] ∧ i.natAbs.log2 < 1920 ∧ Q (.str (toString i)) H) ∨ (∃ a, xs = [.str a] ∧ Q (.str a) H)) := by
  intro v x ρ h H E Q rh rv p
  unfold strL at p
  split at p
  · obtain ⟨x, rfl, r⟩ := rvs1 rv
    cases r
    split at p
    · rename_i q
      exact .inl ⟨_, rfl, q, Post.now p rh (.str _)⟩
    · exact bad_of p
  · obtain ⟨x, rfl, r⟩ := rvs1 rv
    cases r
    exact .inr ⟨_, rfl, Post.now p rh (.str _)⟩
  · exact bad_of p
def reprL : List LV → M LV
  | [.int i] => fun h => if i.natAbs.log2 < 1920 then .ok (.str (toString i)) h else .bad
  | _ => bad
theorem cal_repr : CalS X reprL (fun xs H Q => ∃ i, xs = [.int i] ∧ i.natAbs.log2 < 1920 ∧ Q (.str (toString i)) H) := by
  intro v x ρ h H E Q rh rv p
  unfold reprL at p
  split at p
  · obtain ⟨x, rfl, r⟩ := rvs1 rv
    cases r
    split at p
    · rename_i q
      exact ⟨_, rfl, q, Post.now p rh (.str _)⟩
    · exact bad_of p
  · exact bad_of p
def intL : List LV → M LV
  | [.int i] => ret (.int i)
  | [.bl k] => ret (.int (if k then 1 else 0))
  | _ => bad
theorem cal_int : CalS X intL (fun xs H Q => (∃ i, xs = [.int i] ∧ Q (.int i) H) ∨ ∃ k : Bool, xs = [.bl k] ∧ Q (.int (if k then 1 else 0)) H) := by
  intro v x ρ h H E Q rh rv p
  unfold intL at p
  split at p
  · obtain ⟨x, rfl, r⟩ := rvs1 rv
    cases r
    exact .inl ⟨_, rfl, Post.now p rh (.int _)⟩
  · obtain ⟨x, rfl, r⟩ := rvs1 rv
    cases r
    exact .inr ⟨_, rfl, Post.now p rh (.int _)⟩
  · exact bad_of p
def absL : List LV → M LV
  | [.int i] => ret (.int (if i < 0 then -i else i))
  | _ => bad
theorem cal_abs : CalS X absL (fun xs H Q => ∃ i, xs = [.int i] ∧ Q (.int (if i < 0 then -i else i)) H) := by
  intro v x ρ h H E Q rh rv p
  unfold absL at p
  split at p
  · obtain ⟨x, rfl, r⟩ := rvs1 rv
    cases r
    exact ⟨_, rfl, Post.now p rh (.int _)⟩
  · exact bad_of p
def listL : List LV → M LV
  | [.tup xs] => fun h => .ok (.ref h.length) (h ++ [.lst xs])
  | [.scr xs] => fun h => .ok (.ref h.length) (h ++ [.lst xs])
  | [.ref l] => fun h => match h[l]? with
    | some (.lst xs) => .ok (.ref h.length) (h ++ [.lst xs])
    | _ => .bad
  | _ => bad
theorem new_lst {ρ : List Addr} {h : LH} {H : Hp} {xs : List LV} {va : List V} {E : XK} {Q : VK} (rh : RH X.K X.mg ρ h H) (ra : RVs X.K X.mg H ρ xs va) (p : Post X.K X.mg (RV X.K X.mg) E ρ H Q (.ok (.ref h.length) (h ++ [.lst xs]))) : ∀ l, H l = none → Q (.ref l) (upd H l (.lst va)) :=
  fun l hl => p (ρ ++ [l]) _ _ (ext_push hl) (rh.new hl ⟨_, upd_same, ra.up (ext_push hl)⟩) (.ref (by rw [← rh.len]; simp))
theorem cal_list : CalS X listL (fun xs H Q => ∃ p ys, xs = [.ref p] ∧ (SqL X.K H p ys ∨ SqT X.K H p ys) ∧ ∀ l, H l = none → Q (.ref l) (upd H l (.lst ys))) := by
  intro v x ρ h H E Q rh rv p
  unfold listL at p
  split at p
  · obtain ⟨x, rfl, r⟩ := rvs1 rv
    obtain ⟨a, va, rfl, ha, ra⟩ := rv_tup r
    exact ⟨a, va, rfl, .inr (.of ha), new_lst rh ra p⟩
  · obtain ⟨x, rfl, r⟩ := rvs1 rv
    obtain ⟨a, va, rfl, ha, ra⟩ := rv_scr r
    exact ⟨a, va, rfl, .inl ha, new_lst rh ra p⟩
  · obtain ⟨x, rfl, r⟩ := rvs1 rv
    cases r with
    | ref hr =>
      split at p
      · rename_i el
        obtain ⟨va, ha, ra⟩ := rv_lst rh el hr
        exact ⟨_, va, rfl, .inl (.of ha), new_lst rh ra p⟩
      · exact bad_of p
  · exact bad_of p
def tupL : List LV → M LV
  | [.tup xs] => ret (.tup xs)
  | [.scr xs] => ret (.tup xs)
  | [.ref l] => fun h => match h[l]? with
    | some (.lst xs) => .ok (.tup xs) h
    | _ => .bad
  | _ => bad
theorem new_tup {ρ : List Addr} {h : LH} {H : Hp} {xs : List LV} {va : List V} {E : XK} {Q : VK} (rh : RH X.K X.mg ρ h H) (ra : RVs X.K X.mg H ρ xs va) (p : Post X.K X.mg (RV X.K X.mg) E ρ H Q (.ok (.tup xs) h)) : ∀ l, H l = none → Q (.ref l) (upd H l (.tup va)) :=
  fun l hl => p ρ _ _ (ext_new hl) (rh.imm hl) (.tup upd_same (ra.up (ext_new hl)))
theorem cal_tup : CalS X tupL (fun xs H Q => ∃ p ys, xs = [.ref p] ∧ ((SqL X.K H p ys ∧ ∀ l, H l = none → Q (.ref l) (upd H l (.tup ys))) ∨ (SqT X.K H p ys ∧ Q (.ref p) H))) := by
  intro v x ρ h H E Q rh rv p
  unfold tupL at p
  split at p
  · obtain ⟨x, rfl, r⟩ := rvs1 rv
    have r0 := r
    obtain ⟨a, va, rfl, ha, ra⟩ := rv_tup r
    exact ⟨a, va, rfl, .inr ⟨.of ha, Post.now p rh r0⟩⟩
  · obtain ⟨x, rfl, r⟩ := rvs1 rv
    obtain ⟨a, va, rfl, ha, ra⟩ := rv_scr r
    exact ⟨a, va, rfl, .inl ⟨ha, new_tup rh ra p⟩⟩
  · obtain ⟨x, rfl, r⟩ := rvs1 rv
    cases r with
    | ref hr =>
      split at p
      · rename_i el
        obtain ⟨va, ha, ra⟩ := rv_lst rh el hr
        exact ⟨_, va, rfl, .inl ⟨.of ha, new_tup rh ra p⟩⟩
      · exact bad_of p
  · exact bad_of p
/-! ### methods of lists -/
def popL : LV → List LV → M LV
  | .ref l, [] => fun h => match h[l]? with
    | some (.lst xs) => (match xs[xs.length - 1]? with
      | some y => .ok y (h.set l (.lst xs.dropLast))
      | none => .bad)
    | _ => .bad
  | .ref l, [.int i] => fun h => match h[l]? with
    | some (.lst xs) => if -(2 ^ 63) ≤ i ∧ i < 2 ^ 63 then (match seqIndex? i xs.length with
      | some k => (match xs[k]? with
        | some y => .ok y (h.set l (.lst (xs.eraseIdx k)))
        | none => .bad)
      | none => .bad) else .bad
    | _ => .bad
  | _, _ => bad
theorem rvs_at {K : PySem.W.Frag} {mg : Str → Option Value} {H : Hp} {ρ : List Addr} : ∀ {vs : List LV} {xs : List V} {k : Nat} {v : LV}, RVs K mg H ρ vs xs → vs[k]? = some v → ∃ x, xs[k]? = some x ∧ RV K mg H ρ v x
  | [], _, k, v, _, e => by simp at e
  | w :: vs, _, 0, v, .cons a b, e => by cases e; exact ⟨_, rfl, a⟩
  | w :: vs, _, k + 1, v, .cons a b, e => by
    obtain ⟨x, e1, r⟩ := rvs_at b (by simpa using e)
    exact ⟨x, by simpa using e1, r⟩
theorem rvs_del {K : PySem.W.Frag} {mg : Str → Option Value} {H : Hp} {ρ : List Addr} : ∀ {vs : List LV} {xs : List V} (k : Nat), RVs K mg H ρ vs xs → RVs K mg H ρ (vs.eraseIdx k) (xs.eraseIdx k)
  | _, _, k, .nil => by simp; exact .nil
  | _, _, 0, .cons a b => by simpa using b
  | _, _, k + 1, .cons a b => by simpa using RVs.cons a (rvs_del k b)
theorem rvs_last {K : PySem.W.Frag} {mg : Str → Option Value} {H : Hp} {ρ : List Addr} : ∀ {vs : List LV} {xs : List V}, RVs K mg H ρ vs xs → RVs K mg H ρ vs.dropLast xs.dropLast
  | _, _, .nil => .nil
  | _, _, .cons a .nil => .nil
  | _, _, .cons a (.cons b c) => by
    have := rvs_last (RVs.cons b c)
    simpa using RVs.cons a this
theorem rvs_rev {K : PySem.W.Frag} {mg : Str → Option Value} {H : Hp} {ρ : List Addr} : ∀ {vs : List LV} {xs : List V}, RVs K mg H ρ vs xs → RVs K mg H ρ vs.reverse xs.reverse
  | _, _, .nil => .nil
  | _, _, .cons a b => by
    rw [List.reverse_cons, List.reverse_cons]
    exact (rvs_rev b).append (.cons a .nil)
theorem met_pop : MetS X popL (fun x xs H Q => rPop x xs H Q ∨ rPopAt x xs H Q) := by
  intro v vs x xs ρ h H E Q rh rv rvs p
  unfold popL at p
  split at p
  · cases rvs
    cases rv with
    | ref hr =>
      split at p
      · rename_i ys el
        obtain ⟨va, ha, ra⟩ := rv_lst rh el hr
        split at p
        · rename_i y ey
          obtain ⟨z, ez, rz⟩ := rvs_at ra ey
          exact .inl ⟨_, va, z, rfl, rfl, ha, by rw [← ra.length]; exact ez, p ρ _ _ (ext_set rh hr) (rh.set hr ⟨_, upd_same, (rvs_last ra).up (ext_set rh hr)⟩) (rz.up (ext_set rh hr))⟩
        · exact bad_of p
      · exact bad_of p
  · obtain ⟨y, rfl, ry⟩ := rvs1 rvs
    cases ry
    cases rv with
    | ref hr =>
      split at p
      · rename_i ys el
        obtain ⟨va, ha, ra⟩ := rv_lst rh el hr
        split at p
        · rename_i b
          split at p
          · rename_i k ek
            split at p
            · rename_i y ey
              obtain ⟨z, ez, rz⟩ := rvs_at ra ey
              exact .inr ⟨_, va, _, k, z, rfl, rfl, ha, b.1, b.2, by rw [← ra.length]; exact ek, ez, p ρ _ _ (ext_set rh hr) (rh.set hr ⟨_, upd_same, (rvs_del k ra).up (ext_set rh hr)⟩) (rz.up (ext_set rh hr))⟩
            · exact bad_of p
          · exact bad_of p
        · exact bad_of p
      · exact bad_of p
  · exact bad_of p
def revL : LV → List LV → M LV
  | .ref l, [] => fun h => match h[l]? with
    | some (.lst xs) => .ok .non (h.set l (.lst xs.reverse))
    | _ => .bad
  | _, _ => bad
theorem met_rev : MetS X revL rReverse := by
  intro v vs x xs ρ h H E Q rh rv rvs p
  unfold revL at p
  split at p
  · cases rvs
    cases rv with
    | ref hr =>
      split at p
      · rename_i ys el
        obtain ⟨va, ha, ra⟩ := rv_lst rh el hr
        exact ⟨_, va, rfl, rfl, ha, p ρ _ _ (ext_set rh hr) (rh.set hr ⟨_, upd_same, (rvs_rev ra).up (ext_set rh hr)⟩) .non⟩
      · exact bad_of p
  · exact bad_of p
def clrL : LV → List LV → M LV
  | .ref l, [] => fun h => match h[l]? with
    | some (.lst _) => .ok .non (h.set l (.lst []))
    | _ => .bad
  | _, _ => bad
theorem met_clr : MetS X clrL rClear := by
  intro v vs x xs ρ h H E Q rh rv rvs p
  unfold clrL at p
  split at p
  · cases rvs
    cases rv with
    | ref hr =>
      split at p
      · rename_i ys el
        obtain ⟨va, ha, ra⟩ := rv_lst rh el hr
        exact ⟨_, va, rfl, rfl, ha, p ρ _ _ (ext_set rh hr) (rh.set hr ⟨_, upd_same, .nil⟩) .non⟩
      · exact bad_of p
  · exact bad_of p
def extL : LV → List LV → M LV
  | .ref l, [.ref k] => fun h => match h[l]?, h[k]? with
    | some (.lst xs), some (.lst ys) => if xs.length + ys.length ≤ sizeLine then .ok .non (h.set l (.lst (xs ++ ys))) else .bad
    | _, _ => .bad
  | _, _ => bad
theorem met_ext : MetS X extL rExtend := by
  intro v vs x xs ρ h H E Q rh rv rvs p
  unfold extL at p
  split at p
  · obtain ⟨y, rfl, ry⟩ := rvs1 rvs
    cases rv with
    | ref hr =>
      cases ry with
      | ref hk =>
        split at p
        · rename_i ys zs el ek
          obtain ⟨va, ha, ra⟩ := rv_lst rh el hr
          obtain ⟨vb, hb, rb⟩ := rv_lst rh ek hk
          split at p
          · rename_i hz
            exact ⟨_, _, va, vb, rfl, rfl, ha, hb, by rw [← ra.length, ← rb.length]; exact hz, p ρ _ _ (ext_set rh hr) (rh.set hr ⟨_, upd_same, (ra.append rb).up (ext_set rh hr)⟩) .non⟩
          · exact bad_of p
        · exact bad_of p
  · exact bad_of p
/-! ### name op= e -/
def augS (i : Nat) (f : LV → LV → M LV) (m : LE) : LS := fun s h => match s[i]? with
  | some (some v) => (match bnd (m s) (fun u => f v u) h with
    | .ok w h' => .nx (s.set i (some w)) h'
    | .exc c fs h' => .exc c fs s h'
    | .bad => .bad)
  | _ => .bad
theorem ss_aug {i : Nat} {x : Str} {e : Expr} {op : Operator} {ti : TIp} {f : LV → LV → M LV} {pos' : Pos} {m : LE} (hf : BinS X f ti) (ho : PIp X op ti) (hN : X.N.Nodup) (hi : X.N[i]? = some x) (hx : Loc X.env.scope x) (he : SE X W e m) (hfn : X.fn x = true ∨ X.env.scope.names.lookup x = some .local := by first | exact .inl rfl | exact .inr rfl | assumption) :
    SS X W (.AugAssign (.Name x pos') op e pos) (augS i f m) := by
  refine ps_imp (ps_aug hN hi hx he ho hfn) fun D σ H ⟨s, ρ, h, rs, rh, p⟩ => ?_
  unfold augS at p
  split at p
  · rename_i v ev
    obtain ⟨xv, ex, rx⟩ := rs.get ev
    refine ⟨xv, ex, ?_⟩
    have p2 : Post X.K X.mg (RV X.K X.mg) (fun C d H' => W C d σ H') ρ H (fun z H2 => D.nx (σ.set i (some z)) H2) (bnd (m s) (fun u => f v u) h) := by
      cases ee : bnd (m s) (fun u => f v u) h with
      | ok w h' => rw [ee] at p; exact fun ρ1 H1 z e1 rh1 rz => p ρ1 H1 _ e1 rh1 ((rs.up e1).set i rz)
      | exc c fs h' => rw [ee] at p; exact fun ρ1 H1 C d e1 rh1 rx => p ρ1 H1 σ C d e1 rh1 (rs.up e1) rx
      | bad => rw [ee] at p; exact (show False from p).elim
    exact seqE rs rh p2 fun u h1 ρ1 H1 y e1 rh1 ru rs1 p1 => hf v u xv y ρ1 h1 H1 _ _ rh1 (rx.up e1) ru p1
  · exact (show False from p).elim
def iaddL : LV → LV → M LV := intI fun i j => .int (i + j)
theorem bin_iadd : BinS X iaddL (ipI fun i j => i + j) := by
  intro v u x y ρ h H E Q rh rv ru p
  unfold iaddL intI at p
  split at p
  · cases rv; cases ru; exact ⟨_, _, rfl, rfl, Post.now p rh (.int _)⟩
  · exact bad_of p
theorem bin_isub : BinS X subL (ipI fun i j => i - j) := by
  intro v u x y ρ h H E Q rh rv ru p
  unfold subL intI at p
  split at p
  · cases rv; cases ru; exact ⟨_, _, rfl, rfl, Post.now p rh (.int _)⟩
  · exact bad_of p
end
end Fw

set_option maxRecDepth 100000
set_option maxHeartbeats 4000000
namespace Fw
open PySem PySem.Spec PyProof.Rows L2

/-! ### an exception's object, told from now on -/
theorem inv_track {X : Cx} {pins : List (Addr × Obj)} {σ : L2.St} {H : Hp} {s : Shared} {a C : Addr} {d : Option Addr} {oe : Obj} {vs : Array Value} (I : Inv X pins σ H s) (na : H a = none) (e : s.heap.get? a = some oe) (z : Zc (.ref C) d oe) (hd : oe.data = .fields vs)
    (n0 : ∀ o, X.s_0.heap.get? a = some o → a ∈ X.ex) (np : ∀ p ∈ X.pn ++ pins, p.1 ≠ a) (nL : a ≠ X.env.locals) (nc : ∀ x c, X.env.cells.lookup x = some c → c ≠ a) : Inv X pins σ (upd H a (.ext (ExcO a C d))) s := by
  have ne : ∀ {b : Addr} {o : HO}, H b = some o → b ≠ a := fun {b o} q r => by rw [r, na] at q; cases q
  refine ⟨I.ok, I.os, I.bare, ⟨I.base.keep, I.base.slot, ?_, I.base.there, ?_, ?_, ?_⟩, I.loc, I.cell, ?_, ?_, ?_, ?_, I.len⟩
  · intro b o q n hx
    have nb : b ≠ a := fun r => hx (by rw [r]; exact n0 o (by rw [← r]; exact q))
    rw [upd_ne nb]
    exact I.base.free b o q n hx
  · intro b xs q
    have r := I.base.tups b xs q
    rw [upd_ne (ne r)]; exact r
  · intro b o u q
    have r := I.base.frzs b o u q
    rw [upd_ne (ne r)]; exact r
  · intro b ps q
    obtain ⟨more, r⟩ := I.base.tbls b ps q
    exact ⟨more, by rw [upd_ne (ne r)]; exact r⟩
  · rw [upd_ne (Ne.symm nL)]; exact I.free
  · intro x c q
    rw [upd_ne (nc x c q)]; exact I.freeC x c q
  · intro p hp
    obtain ⟨p1, p2, p3⟩ := I.pin p hp
    exact ⟨p1, by rw [upd_ne (np p hp)]; exact p2, p3⟩
  · intro b o hb
    by_cases q : b = a
    · subst q
      rw [upd_same] at hb
      cases hb
      exact ⟨⟨oe, vs, e, z, hd⟩, ⟨oe, e⟩, fun h1 h2 ⟨o1, v1, g1, g2, g3⟩ k => ⟨o1, v1, k o1 g1, g2, g3⟩⟩
    · rw [upd_ne q] at hb
      exact (I.hok b o hb).stay (fun c w _ r => r) (fun c r => by rw [upd_ne (ne r)]; exact r) fun c xs r => by rw [upd_ne (ne r)]; exact r
/-- the heap with the caught exception's object -/
def trk (a : Addr) (cls : Value) (d : Option Addr) (H : Hp) : Hp := match cls with
  | .ref C => upd H a (.ext (ExcO a C d))
  | _ => H
/-- the ends behind a suite that keeps its exception -/
def kEnds (i : Nat) (a : Addr) (cls : Value) (d : Option Addr) (D : Ends) : Ends where
  nx := fun σ' H' => D.nx (σ'.set i none) (trk a cls d H')
  rt := fun v H' => False
  bk := fun σ' H' => D.bk (σ'.set i none) (trk a cls d H')
  ct := fun σ' H' => D.ct (σ'.set i none) (trk a cls d H')
def wKeep (K : PySem.W.Frag) (c : Value) (i : Nat) (ts : Addr → Value → Option Addr → TS) (Wout : WX) (D : Ends) : WX := fun cls d σ H =>
  ∃ b, PySem.W.exmOne K cls c = some b ∧ (b = true → (∃ C, cls = .ref C) ∧ ∀ a, H a = none → ts a cls d (kEnds i a cls d D) (σ.set i (some (.ref a))) H) ∧ (b = false → Wout cls d σ H)
section
variable {X : Cx} {x n : Str} {c : Value} {i : Nat} {body suite : List Stmt} {b₀ : Stmt} {np pos pos' : Pos} {tb : WX → TS} {ts : Addr → Value → Option Addr → TS} {Wout : WX}
theorem ps_tryK (hs : X.stack = X.env :: X.outer) (hf : X.env.frame = some X.env.locals) (hN : X.N.Nodup) (hi : X.N[i]? = some n) (hln : X.env.kindOf n = some .local) (hc : Names X x c) (tk : Takes X Wout)
    (hb : ∀ (W : WX) (pn : List (Addr × Obj)) (xe : Value → Shared → Prop), Takes (X.tr pn xe) W → PassesOwn (model X.prog X.w) X.A X.env xe → PSs (X.tr pn xe) body (tb W))
    (hsu : ∀ (a : Addr) (oe : Obj) (cls : Value) (d : Option Addr) (pn : List (Addr × Obj)), PSs (X.suite a ((a, oe) :: pn)) (b₀ :: suite) (ts a cls d)) :
    PS X (.Try body [.ExceptHandler (some (.Name x np)) (some n) (b₀ :: suite) pos'] [] [] pos) (fun D σ H => tb (wKeep X.K c i ts Wout D) D σ H) := by
  refine ⟨fun pins s σ H D I h => ?_⟩
  have ok := I.ok
  have hfr : X.A.frames = some (X.env :: X.outer) := ok.frames.trans (by rw [hs])
  refine wpAny_Try_except (wpAny_mono ((hb (wKeep X.K c i ts Wout D) (X.pn ++ pins) (fun e s₁ => wpAny (model X.prog X.w) X.A (noteFrame e X.env) (fun _ s₂ => wpAny (model X.prog X.w) X.A (setFlight e none) (fun _ s₃ =>
    wpAny (model X.prog X.w) X.A (handleBy e X.env [.ExceptHandler (some (.Name x np)) (some n) (b₀ :: suite) pos']) (SP X pins D) X.xe s₃) X.xe s₂) X.xe s₁) (fun u s' xx => ?caught) PassesOwn.looking).run [] s σ H D (I.toTry _) h) (fun f s1 hsp => ?through) (fun e s1 he => he))
  case through =>
    cases f with
    | next => exact wpAny_execs_nil (let ⟨σ1, H1, J1, q1⟩ := hsp; ⟨σ1, H1, J1.ofTry ok, q1⟩)
    | brk => exact let ⟨σ1, H1, J1, q1⟩ := hsp; ⟨σ1, H1, J1.ofTry ok, q1⟩
    | cont => exact let ⟨σ1, H1, J1, q1⟩ := hsp; ⟨σ1, H1, J1.ofTry ok, q1⟩
    | ret u => exact let ⟨v1, σ1, H1, J1, r1, q1⟩ := hsp; ⟨v1, σ1, H1, J1.ofTry ok, r1, q1⟩
  case caught =>
    obtain ⟨a, B, sI, pins1, σ1, H1, cls, d, rfl, J1, nb, up, sky, na, os, ag, b, hb1, hyes, hno⟩ := xx
    have J : Inv X pins σ1 H1 sI := J1.ofTry ok
    rw [hs] at sky
    show wpAny (model X.prog X.w) X.A (noteFrame (.ref a) X.env) _ _ _
    refine Sky.land Zc.steady hfr hf sky fun hA fA upA => ?_
    have JA : Inv X pins σ1 H1 { s' with heap := hA } := J.landed nb fA.1 (up.trans upA) os ag
    obtain ⟨oA, vA, eA, zA, dA⟩ := fA.there
    have off : a ∉ frs (X.env :: X.outer) := fun hm => by
      obtain ⟨_, o1, e1, hnf⟩ := fA.2.2.1.mem hm
      rw [eA] at e1; cases e1
      exact hnf _ dA
    have nL : a ≠ X.env.locals := fun z => off (List.mem_filterMap.mpr ⟨X.env, List.mem_cons_self, hf.trans (congrArg some z.symm)⟩)
    have nF : a ∉ X.fs := fun hm => let ⟨e, he, q⟩ := List.mem_filterMap.mp hm; off (List.mem_filterMap.mpr ⟨e, List.mem_cons_of_mem _ he, q⟩)
    have sa : sI.heap.get? a = none := by
      cases q : sI.heap.get? a with
      | none => rfl
      | some o =>
        have r := nb a o q (by rw [show (X.tr (X.pn ++ pins) _).stack = X.stack from rfl, hs]; exact off)
        rw [fA.2.1] at r; cases r
    have n0 : ∀ o, X.s_0.heap.get? a = some o → a ∈ X.ex := fun o q => Classical.byContradiction fun hx => by
      obtain ⟨o1, r⟩ := J.base.there a o q hx
      rw [sa] at r; cases r
    have npn : ∀ p ∈ X.pn ++ pins, p.1 ≠ a := fun p hp r => by
      have q := (J.pin p hp).1
      rw [r, sa] at q; cases q
    have nc : ∀ y k, X.env.cells.lookup y = some k → k ≠ a := fun y k q r => by
      obtain ⟨v, o1, e1, _⟩ := J.cell y k q
      rw [r, sa] at e1; cases e1
    have SA := JA.suite eA dA na nL nF
    refine wpAny_handleBy_cons (codeAny_handlers_test ?_) (by intro q; cases q)
    have LM := PySem.W.exm_one (M := model X.prog X.w) (JA.kIn) (fun A Q E s k q => wpAny_typeOf_ref (k _ _ eA) (zA.1.symm ▸ q)) hb1
    have test : ∀ {Q : Value → Shared → Prop} {E : Value → Shared → Prop}, Q c { s' with heap := hA } → wpAny (model X.prog X.w) (X.A.mark (some (.ref a))) (eval (.Name x np) X.env) Q E { s' with heap := hA } := by
      intro Q E q
      rcases hc with ⟨hg, hdbg, hm | ⟨hm, hv, hnn⟩⟩
      · exact ld_glob (X := X.suite a ((a, oA) :: (X.pn ++ pins))) SA hg hm q hdbg
      · exact ld_blt (X := X.suite a ((a, oA) :: (X.pn ++ pins))) SA hg hm hv q hnn hdbg
    refine test (LM.here ?_)
    cases b with
    | false =>
      show wpAny _ X.A (handleBy (.ref a) X.env []) _ _ _
      refine wpAny_handleBy_nil ?_
      have fl := fA
      obtain ⟨k1, k2, k3, oB, vB, T, oT, tsl, eB, zB, dB, h1, hr⟩ := fl
      unfold PySem.passOn
      refine wpAny_bind (wpAny_field eB dB h1 ?_)
      rw [if_neg (show ¬ ((Value.ref T == Value.none) = true) by simp)]
      have fin : wpAny (model X.prog X.w) X.A (setFlight (.ref a) X.env.frame) (fun _ s4 => wpAny (model X.prog X.w) X.A (throw (.ref a) : Sem Flow) (SP X pins D) X.xe s4) X.xe { s' with heap := hA } := by
        rw [hf]
        exact HandSPX.setFlight_upZ fA fun hB hh up4 => wpAny_throw (tk _ _ ⟨a, B, sI, pins, σ1, H1, cls, d, rfl, J, nb, (up.trans upA).trans up4, .inr (.inr (hs.symm ▸ hh)), na, os, ag, hno rfl⟩)
      first
        | exact wpAny_bind (wpAny_pure (wpAny_bind fin))
        | exact wpAny_bind fin
    | true =>
      obtain ⟨⟨C, eC⟩, hyes⟩ := hyes rfl
      subst eC
      refine codeAny_handlers_suite_as (HandSPX.lands_againZ fA fun hB fB upB => ?_)
      have JB : Inv X pins σ1 H1 { s' with heap := hB } := J.landed nb fB.1 ((up.trans upA).trans upB) os ag
      obtain ⟨oB, vB, eB, zB, dB⟩ := fB.there
      have SB := JB.suite eB dB na nL nF
      refine store_ok (X := X.suite a ((a, oB) :: (X.pn ++ pins))) (v := .ref a) SB hN hi (.inl hln) rfl (fun s5 S5 => ?_) (.inr hln)
      refine wpAny_mono ((hsu a oB (.ref C) d (X.pn ++ pins)).run [] s5 _ H1 _ S5 (hyes a na)) (fun f s6 hsp => ?_) (fun _ _ z => False.elim z)
      have last : ∀ {σ6 : L2.St} {H6 : Hp} {Q : Shared → Prop}, Inv (X.suite a ((a, oB) :: (X.pn ++ pins))) [] σ6 H6 s6 → (∀ s7, Inv X pins (σ6.set i none) (trk a (.ref C) d H6) s7 → Q s7) →
          wpAny (model X.prog X.w) X.A (do bindName X.env n .none; unbindBehindTheSuite X.env n pos') (fun _ s7 => Q s7) X.xe s6 := by
        intro σ6 H6 Q S6 hq
        obtain ⟨g1, g2, _⟩ := S6.pin (a, oB) (by simp)
        exact gone_ok (inv_track (S6.unsuite ok) g2 g1 zB dB n0 npn nL nc) hN hi hln hq
      cases f with
      | next => exact let ⟨σ6, H6, S6, q6⟩ := hsp; last S6 fun s7 J7 => ⟨_, _, J7, q6⟩
      | brk => exact let ⟨σ6, H6, S6, q6⟩ := hsp; last S6 fun s7 J7 => ⟨_, _, J7, q6⟩
      | cont => exact let ⟨σ6, H6, S6, q6⟩ := hsp; last S6 fun s7 J7 => ⟨_, _, J7, q6⟩
      | ret u => exact let ⟨v6, σ6, H6, S6, r6, q6⟩ := hsp; False.elim q6
end
/-! ### what is known of the exceptions' classes -/
structure XT (K : PySem.W.Frag) (mg : Str → Option Value) (kn : List Str) (tab : List (Str × Str × Bool)) : Prop where
  cls : ∀ c, c ∈ kn → ∃ C, mg c = some (.ref C) ∧ PySem.W.excIn K C He.veBase "ValueError.__new__" = true ∧ PySem.W.keepIn K (.ref C) = true ∧ PySem.W.subIn K (.ref C) (.type "BaseException") = some true ∧ PySem.W.typeIn K (.ref C) = some (.type "type") ∧ ExcC K C ∧ PySem.W.kitOne K (.ref C) (.type "ValueError") = some true
  kit : ∀ p, p ∈ tab → ∃ C N, mg p.1 = some (.ref C) ∧ mg p.2.1 = some (.ref N) ∧ PySem.W.kitOne K (.ref C) (.ref N) = some p.2.2 ∧ PySem.W.exmOne K (.ref C) (.ref N) = some p.2.2
  non : ∀ p, p ∈ tab → ∃ N, mg p.2.1 = some (.ref N) ∧ PySem.W.kitOne K (.type "NoneType") (.ref N) = some false
def subE (tab : List (Str × Str × Bool)) (c n : Str) : Option Bool := (tab.find? fun p => p.1 == c && p.2.1 == n).map (·.2.2)
theorem XT.of {K : PySem.W.Frag} {mg : Str → Option Value} {kn : List Str} {tab : List (Str × Str × Bool)} (T : XT K mg kn tab) {c n : Str} {b : Bool} (e : subE tab c n = some b) {C N : Addr} (hc : mg c = some (.ref C)) (hn : mg n = some (.ref N)) :
    PySem.W.kitOne K (.ref C) (.ref N) = some b ∧ PySem.W.exmOne K (.ref C) (.ref N) = some b := by
  obtain ⟨p, e1, e2⟩ := Option.map_eq_some_iff.mp e
  have m := List.mem_of_find?_eq_some e1
  have q := List.find?_some e1
  simp only [Bool.and_eq_true, beq_iff_eq] at q
  obtain ⟨C', N', h1, h2, h3, h4⟩ := T.kit p m
  rw [q.1] at h1
  rw [q.2] at h2
  rw [hc] at h1; cases h1
  rw [hn] at h2; cases h2
  rw [← e2]
  exact ⟨h3, h4⟩
section
variable {X : Cx} {W : WX} {kn : List Str} {tab : List (Str × Str × Bool)}
/-! ### raise -/
def raiseS (c : Str) : LS := fun s h => .exc c [] s h
theorem ss_raise {x m : Str} {j : Nat} {p p2 pos pos2 : Pos} (T : XT X.K X.mg kn tab) (hx : x ∈ kn) (hc : X.calm = true) (tk : Takes X W) (hg : Gl X x) (hdb : (x == ("__debug__" : Str)) = false := by decide) : SS X W (.Raise (some (.Call (.Name x p) [.Constant (.str m) j p2] [] pos2)) none pos) (raiseS x) := by
  obtain ⟨C, g, h1, h2, h3, h4, h5, h6⟩ := T.cls x hx
  refine ps_imp (L2.ps_raise hc tk (L2.pmk_own PySem.F.excBase_ValueError h1 g h2 (raises_own h3 h4) hg hdb)) fun D σ H ⟨s, ρ, h, rs, rh, q⟩ => ?_
  exact q ρ H σ (.ref C) none Ext.refl rh rs ⟨C, rfl, g, .inl ⟨rfl, rfl⟩⟩
/-! ### try: .. except C as e: x = e -/
def tryKS (tab : List (Str × Str × Bool)) (n : Str) (i j : Nat) (mb : LS) : LS := fun s h => match mb s h with
  | .exc c fs s' h' => (match subE tab c n with
    | some true => if i < s'.length then .nx (((s'.set i none).set j (some (.exc c fs))).set i none) h' else .bad
    | some false => .exc c fs s' h'
    | none => .bad)
  | .nx s' h' => .nx s' h'
  | .rt v h' => .rt v h'
  | .bk s' h' => .bk s' h'
  | .ct s' h' => .ct s' h'
  | .bad => .bad
theorem ss_tryK {x n y : Str} {i j : Nat} {body : List Stmt} {mb : LS} {np pos pos' ap yp ep : Pos} (T : XT X.K X.mg kn tab) (hN : X.N.Nodup) (tk : Takes X W) (hgx : ∃ N, X.mg x = some (.ref N)) (hg : Gl X x) (hi : X.N[i]? = some n) (hln : X.env.kindOf n = some .local) (hvn : Vis X.env.scope n) (hj : X.N[j]? = some y) (hy : Loc X.env.scope y)
    (hb : ∀ (W : WX) (pn : List (Addr × Obj)) (xe : Value → Shared → Prop), Takes (X.tr pn xe) W → PassesOwn (model X.prog X.w) X.A X.env xe → SSs (X.tr pn xe) W body mb)
    (hs : X.stack = X.env :: X.outer := by rfl) (hf : X.env.frame = some X.env.locals := by rfl) (hdb : (x == ("__debug__" : Str)) = false := by decide) (hdn : (n == ("__debug__" : Str)) = false := by decide) (hcn : (n == ("__classdict__" : Str)) = false := by decide)
    (hfy : X.fn y = true ∨ X.env.scope.names.lookup y = some .local := by first | exact .inl rfl | exact .inr rfl | assumption) (hsw : swapsWithSole [.Name y yp] (.Name n ep) ap.line X.env = pure false := by rfl) (hsw2 : swappedStores [.Name y yp] (.Name n ep) X.env = pure none := by rfl) (h1 : (assignEach [.Name y yp] X.env).map (·.2) = [assign (.Name y yp) X.env] := by rfl) :
    SS X W (.Try body [.ExceptHandler (some (.Name x np)) (some n) [.Assign [.Name y yp] (.Name n ep) ap] pos'] [] [] pos) (tryKS tab x i j mb) := by
  obtain ⟨N, hgx⟩ := hgx
  refine ps_imp (ps_tryK (tb := fun W => tS X.K X.mg W mb) (ts := fun a cls d => tAsg (tVar i) (gName j)) hs hf hN hi hln ⟨hg, hdb, .inl hgx⟩ tk hb (fun a oe cls d pn => ?_)) fun D σ H ⟨s, ρ, h, rs, rh, p⟩ => ⟨s, ρ, h, rs, rh, ?_⟩
  · exact pss_one (ps_asg (X := X.suite a ((a, oe) :: pn)) (pe_var hi hvn hdn hcn) (pg_name hN hj hy hfy) hsw hsw2 h1)
  · unfold tryKS at p
    cases e : mb s h with
    | nx s' h' => rw [e] at p; exact p
    | rt v h' => rw [e] at p; exact p
    | bk s' h' => rw [e] at p; exact p
    | ct s' h' => rw [e] at p; exact p
    | bad => rw [e] at p; exact p
    | exc c fs s' h' =>
      rw [e] at p
      dsimp only at p
      intro ρ1 H1 σ1 Cv d x1 rh1 rs1 rx
      obtain ⟨C, rfl, gC, rd⟩ := id rx
      cases es : subE tab c x with
      | none => rw [es] at p; exact (show False from p).elim
      | some b =>
        rw [es] at p
        refine ⟨b, (T.of es gC hgx).2, fun eb => ⟨⟨C, rfl⟩, fun a na => ?_⟩, fun eb => ?_⟩
        · subst eb
          dsimp only at p
          split at p
          · rename_i hlt
            have hl : i < σ1.length := by rw [← Paired.length rs1]; exact hlt
            refine ⟨.ref a, List.getElem?_set_self hl, ?_⟩
            have xe := ext_new (ρ := ρ1) (o := .ext (ExcO a C d)) na
            refine p ρ1 (upd H1 a (.ext (ExcO a C d))) _ (x1.trans xe) (rh1.imm na) (((RSt.setN i (rs1.up xe)).set j ?_).setN i)
            rcases rd with ⟨rfl, rfl⟩ | ⟨dx, fs', ne, rfl, hd, rf⟩
            · exact .exc0 gC upd_same
            · exact .excD ne gC upd_same (by rw [upd_ne (fun z => by rw [z, na] at hd; cases hd)]; exact hd) (rf.up xe)
          · exact (show False from p).elim
        · subst eb
          exact p ρ1 H1 σ1 (.ref C) d x1 rh1 rs1 rx
/-! ### isinstance of a kept exception -/
def rIsX (K : PySem.W.Frag) : List V → Hp → VK → Prop := fun xs H Q => ∃ (a C : Addr) (c : V) (cv : Value) (b : Bool), xs = [.ref a, c] ∧ H a = some (.ext (ExcO a C none)) ∧ ExcC K C ∧ (∀ u, RelV c u → u = cv) ∧ PySem.W.kitOne K (.ref C) cv = some b ∧ Q (.bl b) H
theorem call_isX : CallR X (.builtin "isinstance") (rIsX X.K) := by
  intro pins s σ H xs us Q I r h
  obtain ⟨a, D, c, cv, b, rfl, ha, C, hcv, e, q⟩ := h
  cases r with
  | cons rx rr =>
    cases rr with
    | cons rt rr =>
      cases rr
      cases rx
      cases hcv _ rt
      obtain ⟨⟨oe, vs, hget, hz, hv⟩, _⟩ := I.hok a _ ha
      have J : PySem.W.InstAt s.heap a oe D none := by
        obtain ⟨oc, od, oda, osl⟩ := oe
        obtain ⟨z1, z2⟩ := hz
        cases z1; cases z2; cases hv
        exact ⟨hget, rfl, rfl, trivial⟩
      exact PySem.W.kia_one (PySem.W.handS_kitx_exc C.hg C.hk C.hs C.hd C.ha C.hn C.ht C.hm) I.kIn J e (fun z => nomatch z) fun tk => ⟨.bl b, H, I.kept (t' := tk) fun _ _ z => z, rfl, q⟩
def isiA (kn : List Str) (tab : List (Str × Str × Bool)) : List LV → M LV
  | [.exc c [], .fn n] => fun h => match subE tab c n with
    | some b => .ok (.bl b) h
    | none => .bad
  | [.exc c [], .ty .verr] => fun h => if kn.contains c = true then .ok (.bl true) h else .bad
  | [.non, .fn n] => fun h => if (tab.any fun p => p.2.1 == n) = true then .ok (.bl false) h else .bad
  | vs => isiL vs
theorem cal_isiA (T : XT X.K X.mg kn tab) (hk : ∀ p ∈ tab, p.1 ∈ kn) : CalS X (isiA kn tab) (fun xs H Q => rIsi X.K xs H Q ∨ rIsX X.K xs H Q) := by
  intro v x ρ h H E Q rh rv p
  unfold isiA at p
  split at p
  · rename_i c n
    obtain ⟨x, y, rfl, r1, r2⟩ := rvs2 rv
    cases es : subE tab c n with
    | none => rw [es] at p; exact bad_of p
    | some b =>
      rw [es] at p
      obtain ⟨q, e1, _⟩ := Option.map_eq_some_iff.mp es
      have hq := List.find?_some e1
      simp only [Bool.and_eq_true, beq_iff_eq] at hq
      have hm := hk q (List.mem_of_find?_eq_some e1)
      rw [hq.1] at hm
      obtain ⟨C, g, h1, h2, h3, h4, h5, h6⟩ := T.cls c hm
      cases r2 with
      | fn hn =>
        cases r1 with
        | exc0 hc ha =>
          rw [g] at hc; cases hc
          exact .inr ⟨_, C, _, _, b, rfl, ha, h5, fun u z => z, (T.of es g hn).1, Post.now p rh (.bl _)⟩
        | excD ne hc ha hd rf => exact absurd rfl ne
  · rename_i c
    obtain ⟨x, y, rfl, r1, r2⟩ := rvs2 rv
    cases r2
    split at p
    · rename_i hm
      obtain ⟨C, g, h1, h2, h3, h4, h5, h6⟩ := T.cls c (by simpa using hm)
      cases r1 with
      | exc0 hc ha =>
        rw [g] at hc; cases hc
        exact .inr ⟨_, C, _, _, true, rfl, ha, h5, fun u z => z, h6, Post.now p rh (.bl _)⟩
      | excD ne hc ha hd rf => exact absurd rfl ne
    · exact bad_of p
  · rename_i n
    obtain ⟨x, y, rfl, r1, r2⟩ := rvs2 rv
    split at p
    · rename_i hn
      obtain ⟨q, hq, eq⟩ := List.any_eq_true.mp hn
      have eq : q.2.1 = n := by simpa using eq
      subst eq
      obtain ⟨N, h1, h2⟩ := T.non q hq
      cases r1
      cases r2 with
      | fn hn => rw [h1] at hn; cases hn; exact .inl ⟨_, _, _, _, false, rfl, .own N, .base .non, h2, Post.now p rh (.bl _)⟩
    · exact bad_of p
  · exact .inl (cal_isi v x ρ h H E Q rh rv p)
end
theorem se_gcls {X : Cx} {W : WX} {x : Str} {pos : Pos} (hg : Gl X x) (hm : ∃ f, X.mg x = some (.ref f)) (hd : (x == ("__debug__" : Str)) = false := by decide) : SE X W (.Name x pos) (cst (.fn x)) := let ⟨_, h⟩ := hm; se_gfn hg h hd
/-! ### the head's facts about exceptions -/
def excB (K : PySem.W.Frag) (x : Str) : Bool := (He.Fa.glo x).ok K && ((He.Fa.exc x).ok K && (He.eqO (PySem.W.findIn K (.ref (He.ga K x)) "__getattribute__") (some (some (.builtin "BaseException.__getattribute__"))) && (He.eqO (PySem.W.findIn K (.ref (He.ga K x)) "__getattr__") (some none) && (PySem.W.hasDictIn K (He.ga K x) &&
  (He.eqO (PySem.W.findIn K (.ref (He.ga K x)) "__class__") (some (some (.builtin "object.__class__"))) && (He.eqO (PySem.W.specialIn K (.builtin "object.__class__") "__get__") (some (some (.builtin "getset_descriptor.__get__"))) && (decide (PySem.W.takesIn K (.builtin "object.__class__") = some true) &&
  (decide (PySem.W.mroIn K (He.ga K x) (.type "object") = some true) && decide (PySem.W.kitOne K (.ref (He.ga K x)) (.type "ValueError") = some true)))))))))
def kitB (K : PySem.W.Frag) (p : Str × Str × Bool) : Bool := (He.Fa.glo p.1).ok K && ((He.Fa.glo p.2.1).ok K && (decide (PySem.W.kitOne K (.ref (He.ga K p.1)) (.ref (He.ga K p.2.1)) = some p.2.2) && decide (PySem.W.exmOne K (.ref (He.ga K p.1)) (.ref (He.ga K p.2.1)) = some p.2.2)))
def exB (kn : List Str) (tab : List (Str × Str × Bool)) (K : PySem.W.Frag) : Bool := kn.all (excB K) && (tab.all (kitB K) && tab.all fun p => (He.Fa.glo p.2.1).ok K && decide (PySem.W.kitOne K (.type "NoneType") (.ref (He.ga K p.2.1)) = some false))
theorem xt_of {K : PySem.W.Frag} {h : Heap} {mg : Str → Option Value} {kn : List Str} {tab : List (Str × Str × Bool)} (X : K.In h) (G : h.Ns mainGlobals mg) (c : exB kn tab K = true) : XT K mg kn tab := by
  obtain ⟨c1, c23⟩ := He.ba c
  obtain ⟨c2, c3⟩ := He.ba c23
  refine ⟨fun x hx => ?_, fun p hp => ?_, fun p hp => ?_⟩
  · have q := List.all_eq_true.mp c1 x hx
    unfold excB at q
    obtain ⟨q0, q⟩ := He.ba q
    obtain ⟨q1, q⟩ := He.ba q
    obtain ⟨q2, q⟩ := He.ba q
    obtain ⟨q3, q⟩ := He.ba q
    obtain ⟨q4, q⟩ := He.ba q
    obtain ⟨q5, q⟩ := He.ba q
    obtain ⟨q6, q⟩ := He.ba q
    obtain ⟨q7, q⟩ := He.ba q
    obtain ⟨q8, q9⟩ := He.ba q
    obtain ⟨e1, e2, e3, e4⟩ := He.exc_ok q1
    exact ⟨_, He.glo_ok X G q0, e1, e2, e3, e4, ⟨He.eqO_ok q2, He.eqO_ok q3, e3, q4, He.eqO_ok q5, He.eqO_ok q6, of_decide_eq_true q7, of_decide_eq_true q8⟩, of_decide_eq_true q9⟩
  · have q := List.all_eq_true.mp c2 p hp
    unfold kitB at q
    obtain ⟨q0, q⟩ := He.ba q
    obtain ⟨q1, q⟩ := He.ba q
    obtain ⟨q2, q3⟩ := He.ba q
    exact ⟨_, _, He.glo_ok X G q0, He.glo_ok X G q1, of_decide_eq_true q2, of_decide_eq_true q3⟩
  · obtain ⟨q0, q1⟩ := He.ba (List.all_eq_true.mp c3 p hp)
    exact ⟨_, He.glo_ok X G q0, of_decide_eq_true q1⟩
def obsXE (fa : List He.Fa) (fn : List He.DefD) (kn : List Str) (tab : List (Str × Str × Bool)) (K : PySem.W.Frag) : Bool × He.AlD := (exB kn tab K, He.obsD fa fn K)
def obsX (n : Nat) (fa : List He.Fa) (fn : List He.DefD) (kn : List Str) (tab : List (Str × Str × Bool)) (g : Addr → Option Obj) : Bool × He.AlD := obsXE fa fn kn tab (He.frG g (He.asD g n))
def hookX (n : Nat) (fa : List He.Fa) (fn : List He.DefD) (kn : List Str) (tab : List (Str × Str × Bool)) : PySem.W.Hook where
  α := Bool × He.AlD
  obs := fun s => obsX n fa fn kn tab s.heap.get?
  val := fun _ => (true, He.valD fn)
  says := fun _ h => ∃ K : PySem.W.Frag, K.In h ∧ He.SaysD fa fn K ∧ exB kn tab K = true
  of := fun _ _ e => ⟨_, He.frG_in, congrArg Prod.snd e, congrArg Prod.fst e⟩
  keeps := fun _ _ _ ⟨K, hK, c⟩ k => ⟨K, PySem.W.Frag.In.keeps hK k, c⟩
theorem obsX_eq {n : Nat} {fa : List He.Fa} {fn : List He.DefD} {kn : List Str} {tab : List (Str × Str × Bool)} {g : Addr → Option Obj} {s : Shared} (h : ∀ a, g a = s.heap.get? a) : obsX n fa fn kn tab g = (hookX n fa fn kn tab).obs s := by
  rw [show g = s.heap.get? from funext h]
  rfl
end Fw

set_option maxRecDepth 100000
set_option maxHeartbeats 4000000
namespace Fw
open PySem PySem.Spec PyProof.Rows L2
section
variable {X : Cx} {W : WX}
/-! ### list.count, list.index of flat things -/
def rCntF (K : PySem.W.Frag) : V → List V → Hp → VK → Prop := fun x xs H Q => ∃ (a : Addr) (ys : List V) (y : V), x = V.ref a ∧ xs = [y] ∧ SqL K H a ys ∧ flatV y = true ∧ ys.all flatV = true ∧ Q (.int ((ys.countP fun z => eqV z y : Nat) : Int)) H
theorem countU {y : V} : ∀ {ys : List V} {us : List Value}, Vals ys us → ys.all flatV = true → us.countP (eqU y) = ys.countP fun z => eqV z y
  | _, _, .nil, _ => rfl
  | z :: ys, u :: us, .cons r t, f => by
    rw [List.all_cons, Bool.and_eq_true] at f
    have ih := countU (y := y) t f.2
    rw [List.countP_cons, List.countP_cons, ih, eqU_of r f.1]
theorem mt_countF : MtR X "list.count" (rCntF X.K) := by
  intro pins s σ H x xs v us Q I rx rxs h
  obtain ⟨a, ys, y, rfl, rfl, hs, fy, fys, q⟩ := h
  cases rx
  cases rxs with
  | cons ry rt =>
    rename_i uy ut
    cases rt
    obtain ⟨its, rv, ⟨⟨cls, dd, data, sl⟩, n, ho, hc, hdn, hd⟩, hlen⟩ := I.list hs
    simp only at hc hd
    subst hc hd
    refine call_meets PySem.F.slot_list_count ⟨_, ho, rfl⟩ PySem.F.entry_list_count (PySem.F.args_list_count_2 _ _)
      (SeqAt.list_countAt a its.toArray n dd sl uy (eqU y)) ⟨ho, fun u' hu' => mem_eqAt ry fy rv fys u' (by simpa using hu'), ?_⟩
    have ec : its.toArray.toList.countP (eqU y) = ys.countP fun z => eqV z y := countU rv fys
    refine ⟨.int ((ys.countP fun z => eqV z y : Nat) : Int), H, I.tok _, ⟨s.toks, ?_⟩, q⟩
    show Value.int ((its.toArray.toList.countP (eqU y) : Nat) : Int) s.toks = Value.int ((ys.countP fun z => eqV z y : Nat) : Int) s.toks
    rw [ec]
def cntL : LV → List LV → M LV
  | .ref l, [v] => fun h => match h[l]? with
    | some (.lst ys) => if flatL v = true ∧ ys.all flatL = true then .ok (.int ((ys.countP fun y => eqF y v : Nat) : Int)) h else .bad
    | _ => .bad
  | _, _ => bad
theorem count_rv {ρ : List Addr} {H : Hp} {v : LV} {x : V} (r : RV X.K X.mg H ρ v x) (f : flatL v = true) : ∀ {ys : List LV} {zs : List V}, RVs X.K X.mg H ρ ys zs → ys.all flatL = true → (zs.countP fun z => eqV z x) = ys.countP fun y => eqF y v
  | [], _, rs, _ => by cases rs; rfl
  | y :: ys, _, rs, fs => by
    cases rs with
    | cons ry t =>
      rw [List.all_cons, Bool.and_eq_true] at fs
      rw [List.countP_cons, List.countP_cons, count_rv r f t fs.2, eqF_rv ry r fs.1 f]
theorem met_cnt : MetS X cntL (rCntF X.K) := by
  intro v vs x xs ρ h H E Q rh rv rvs p
  unfold cntL at p
  split at p
  · obtain ⟨y, rfl, ry⟩ := rvs1 rvs
    cases rv with
    | ref hr =>
      split at p
      · rename_i ys el
        obtain ⟨va, ha, ra⟩ := rv_lst rh el hr
        split at p
        · rename_i hf
          refine ⟨_, va, y, rfl, rfl, .of ha, flat_rv ry hf.1, flat_rvs ra hf.2, ?_⟩
          rw [count_rv ry hf.1 ra hf.2]
          exact Post.now p rh (.int _)
        · exact bad_of p
      · exact bad_of p
  · exact bad_of p
def idxL : LV → List LV → M LV
  | .ref l, [v] => fun h => match h[l]? with
    | some (.lst ys) => if flatL v = true ∧ ys.all flatL = true ∧ (ys.any fun y => eqF y v) = true then .ok (.int ((ys.findIdx fun y => eqF y v : Nat) : Int)) h else .bad
    | _ => .bad
  | _, _ => bad
theorem met_idx : MetS X idxL (rIndex X.K) := by
  intro v vs x xs ρ h H E Q rh rv rvs p
  unfold idxL at p
  split at p
  · rename_i l v
    obtain ⟨y, rfl, ry⟩ := rvs1 rvs
    cases rv with
    | ref hr =>
      split at p
      · rename_i ys el
        obtain ⟨va, ha, ra⟩ := rv_lst rh el hr
        split at p
        · rename_i hf
          have hlt : (ys.findIdx fun y => eqF y v) < ys.length := by
            rw [List.findIdx_lt_length]
            simpa using hf.2.2
          obtain ⟨z, hz, rz⟩ := ra.get (List.getElem?_eq_getElem hlt)
          have fz : flatL ys[(ys.findIdx fun y => eqF y v)] = true := List.all_eq_true.mp hf.2.1 _ (List.getElem_mem _)
          refine ⟨_, va, y, ys.findIdx fun y => eqF y v, z, rfl, rfl, .of ha, flat_rv ry hf.1, flat_rvs ra hf.2.1, hz, ?_, ?_, Post.now p rh (.int _)⟩
          · rw [eqF_rv rz ry fz hf.1]
            exact List.findIdx_getElem (w := hlt)
          · intro m z' hm hz'
            obtain ⟨w, hw, rw'⟩ := ra.get' hz'
            obtain ⟨hmw, ew⟩ := List.getElem?_eq_some_iff.mp hw
            have fw : flatL w = true := List.all_eq_true.mp hf.2.1 _ (List.mem_of_getElem? hw)
            rw [eqF_rv rw' ry fw hf.1]
            have := List.not_of_lt_findIdx (p := fun y => eqF y v) (xs := ys) hm
            rw [ew] at this
            simpa using this
        · exact bad_of p
      · exact bad_of p
  · exact bad_of p
end
end Fw

set_option maxRecDepth 100000
set_option maxHeartbeats 4000000
namespace Fw
open PySem PySem.Spec PyProof.Rows L2
/-! ### instances -/
def putA (f : Str) (v : LV) : List (Str × LV) → List (Str × LV)
  | [] => [(f, v)]
  | (g, x) :: r => if g = f then (g, v) :: r else (g, x) :: putA f v r
section
variable {K : PySem.W.Frag} {mg : Str → Option Value} {H : Hp} {ρ : List Addr}
theorem RFs.look {f : Str} : ∀ {fs : List (Str × LV)} {fs' : List (Str × V)}, RFs K mg H ρ fs fs' → ∀ {v : LV}, fs.lookup f = some v → ∃ x, fs'.lookup f = some x ∧ RV K mg H ρ v x
  | [], _, r, v, e => by cases e
  | (g, y) :: fs, _, r, v, e => by
    cases r with
    | cons r t =>
      rw [List.lookup_cons] at e
      cases q : f == g with
      | true => rw [q] at e; cases e; exact ⟨_, by rw [List.lookup_cons, q], r⟩
      | false =>
        rw [q] at e
        obtain ⟨x, e1, rx⟩ := RFs.look t e
        exact ⟨x, by rw [List.lookup_cons, q]; exact e1, rx⟩
theorem RFs.none {f : Str} : ∀ {fs : List (Str × LV)} {fs' : List (Str × V)}, RFs K mg H ρ fs fs' → fs.lookup f = .none → fs'.lookup f = .none
  | [], _, r, e => by cases r; rfl
  | (g, y) :: fs, _, r, e => by
    cases r with
    | cons r t =>
      rw [List.lookup_cons] at e
      cases q : f == g with
      | true => rw [q] at e; cases e
      | false => rw [q] at e; rw [List.lookup_cons, q]; exact RFs.none t e
theorem RFs.put {f : Str} {v : LV} {x : V} (rv : RV K mg H ρ v x) : ∀ {fs : List (Str × LV)} {fs' : List (Str × V)}, RFs K mg H ρ fs fs' → RFs K mg H ρ (putA f v fs) (putF f x fs')
  | [], _, r => by cases r; exact .cons rv .nil
  | (g, y) :: fs, _, r => by
    cases r with
    | cons r t =>
      unfold putA putF
      by_cases q : g = f
      · rw [if_pos q, if_pos q]; exact .cons rv t
      · rw [if_neg q, if_neg q]; exact .cons r (RFs.put rv t)
theorem RFs.length : ∀ {fs : List (Str × LV)} {fs' : List (Str × V)}, RFs K mg H ρ fs fs' → fs.length = fs'.length
  | [], _, r => by cases r; rfl
  | (g, y) :: fs, _, r => by
    cases r with
    | cons r t => simp [RFs.length t]
end
def insAt (h : LH) (c : Str) : LV → Option (Nat × List (Str × LV))
  | .ref l => match h[l]? with
    | some (.ins c' fs) => if c' = c then some (l, fs) else none
    | _ => none
  | _ => none
theorem insAt_eq {h : LH} {c : Str} {v : LV} {l : Nat} {fs : List (Str × LV)} (e : insAt h c v = some (l, fs)) : v = .ref l ∧ h[l]? = some (.ins c fs) := by
  unfold insAt at e
  split at e
  · split at e
    · rename_i q
      split at e
      · rename_i z; subst z; cases e; exact ⟨rfl, q⟩
      · cases e
    · cases e
  · cases e
def fldM (c f : Str) (o : LE) : LE := fun s => bnd (o s) fun v h => match insAt h c v with
  | some (_, fs) => (match fs.lookup f with
    | some u => .ok u h
    | none => .bad)
  | none => .bad
def fldS (c f : Str) (o v : LE) : LS := fun s h => match bnd (v s) (fun y => bnd (o s) fun x h => match insAt h c x with
    | some (l, fs) => if fs.length < 1000 then .ok () (h.set l (.ins c (putA f y fs))) else .bad
    | none => .bad) h with
  | .ok _ h' => .nx s h'
  | .exc c fs h' => .exc c fs s h'
  | .bad => .bad
/-- what is known of a class -/
structure ClsT (K : PySem.W.Frag) (mg : Str → Option Value) (c : Str) : Prop where
  ex : ∃ C, mg c = some (.ref C) ∧ Cls K C
structure NoA (K : PySem.W.Frag) (mg : Str → Option Value) (c f : Str) : Prop where
  ex : ∀ C, mg c = some (.ref C) → Cls K C ∧ NoAttr K C f
section
variable {X : Cx} {W : WX} {e o value : Expr} {pos pos' : Pos} {mo mv : LE} {c f : Str}
theorem se_fld (N : NoA X.K X.mg c f) (ho : SE X W e mo) (hb : attributeBase e f X.env (eval e X.env) = eval e X.env := by rfl) : SE X W (.Attribute e f pos) (fldM c f mo) := by
  refine pe_imp (pe_fld ho hb) fun σ H Q ⟨s, ρ, h, rs, rh, p⟩ => ?_
  refine seqE rs rh p fun v h1 ρ1 H1 x e1 rh1 rv rs1 p1 => ?_
  split at p1
  · rename_i l fs ei
    obtain ⟨rfl, el⟩ := insAt_eq ei
    cases rv with
    | ref hr =>
      obtain ⟨C, dx, fs', hc, ha, rf⟩ := rh1.obj _ _ _ el hr
      obtain ⟨n1, n2⟩ := N.ex C hc
      split at p1
      · rename_i u eu
        obtain ⟨y, ey, ry⟩ := rf.look eu
        exact ⟨_, C, dx, fs', y, rfl, ha, n1, n2, ey, Post.now p1 rh1 ry⟩
      · exact bad_of p1
  · exact bad_of p1
theorem ss_fld (N : NoA X.K X.mg c f) (ho : SE X W o mo) (hv : SE X W value mv) (hs : swapsWith value (some (.Attribute o f pos')) pos.line X.env = pure false := by rfl) : SS X W (.Assign [.Attribute o f pos'] value pos) (fldS c f mo mv) := by
  refine ps_imp (ps_fld ho hv hs) fun D σ H ⟨s, ρ, h, rs, rh, p⟩ => ?_
  have p := postS_unit rs p
  refine seqE rs rh p fun y h1 ρ1 H1 yv e1 rh1 ry rs1 p1 => seqE rs1 rh1 p1 fun x h2 ρ2 H2 xv e2 rh2 rx rs2 p2 => ?_
  split at p2
  · rename_i l fs ei
    obtain ⟨rfl, el⟩ := insAt_eq ei
    cases rx with
    | ref hr =>
      obtain ⟨C, dx, fs', hc, ha, rf⟩ := rh2.obj _ _ _ el hr
      obtain ⟨n1, n2⟩ := N.ex C hc
      split at p2
      · rename_i hl
        refine ⟨_, C, dx, fs', rfl, ha, n1, n2, by rw [← rf.length]; exact hl, ?_⟩
        exact p2 ρ2 _ () (ext_set rh2 hr) (rh2.set hr ⟨C, dx, _, hc, upd_same, (rf.put (ry.up e2)).up (ext_set rh2 hr)⟩) trivial
      · exact bad_of p2
  · exact bad_of p2
end
/-! ### methods -/
def mthM (c m : Str) (g : List LV → M LV) (o : LE) (a : LA) : LE := fun s => bnd (o s) fun v h => match insAt h c v with
  | some (_, fs) => if (fs.lookup m).isSome = true then .bad else bnd (a s) (fun vs => g (v :: vs)) h
  | none => .bad
/-- a method of the text's class -/
structure CalM (P : Program) (w : World) (K : PySem.W.Frag) (mg : Str → Option Value) (base : Heap) (k : Nat) (c m : Str) (n : Nat) (g : List LV → M LV) : Prop where
  ex : ∃ (C f : Addr) (fd : FuncData) (ps : List Str), mg c = some (.ref C) ∧ Cls K C ∧ Meth K C m f ∧ FnG P w K mg base (L2.CX P w) k f fd ps (spOf K mg n g) ∧ Binds K fd ps []
def tMthW (C : Addr) (m : Str) (sp : Sp) (W : WX) (ta : TE) (t : TA) : TE := fun σ H Q => ta σ H fun x H1 => ∃ a dx fs, x = .ref a ∧ H1 a = some (.ins C dx fs) ∧ fs.lookup m = none ∧ t σ H1 fun vs H2 => sp (x :: vs) H2 Q (WE W σ)
section
variable {X : Cx} {W : WX} {o e : Expr} {es : List Expr} {ta : TE} {t : TA} {m : Str} {C f : Addr} {fd : FuncData} {ps : List Str} {sp : Sp} {k : Nat} {apos pos : Pos}
theorem pe_mthW {pl : Sem Bool} (he : PE X o ta) (c : Cls X.K C) (hm : Meth X.K C m f) (F : FnG X.prog X.w X.K X.mg X.base (L2.CX X.prog X.w) k f fd ps sp) (hr : RoomG k X.A) (hb : Binds X.K fd ps []) (tk : Takes X W) (ha : PA X (e :: es) t) (h1 : starEach (e :: es) X.env = (false, eval e X.env) :: starEach es X.env) (h2 : (backTo pos (starEach es X.env)).any (·.1) = false)
    (ht : eval (.Call (.Attribute o m apos) (e :: es) [] pos) X.env = (do let ov ← eval o X.env; standAt apos.atName; let (f, first) ← holding [ov] (getMethod ov m pl); callWith pos f first (backTo pos (starEach (e :: es) X.env)) (backToKw pos (keywordEach [] X.env)))) : PE X (.Call (.Attribute o m apos) (e :: es) [] pos) (tMthW C m sp W ta t) := by
  constructor
  intro pins s σ H Q I h
  refine PySem.W.methodCall_KW (pl := pl) (thn (he.run pins s σ H _ I h) ?_) ht
  rintro u s1 ⟨x, H1, I1, rx, a, dx, fs, rfl, ea, l, q⟩
  cases (show u = Value.ref a from rx)
  refine getmeth_ok I1 ea c hm l (PySem.W.callWith_K (first := [.ref a]) (h₀ := X.base) I.ok.mod.kin hm.kp (thn (ha.run pos pins s1 σ H1 _ I1 q) ?_) h1 h2)
  rintro us s2 ⟨vs, H2, I2, r, q2⟩
  exact ⟨I2.kIn, run_fng (us := .ref a :: us) (vs := .ref a :: vs) (E := WE W) F hr hb (passAt tk σ) I2 (.cons rfl r) q2⟩
theorem pe_mthW0 {pl : Sem Bool} (he : PE X o ta) (c : Cls X.K C) (hm : Meth X.K C m f) (F : FnG X.prog X.w X.K X.mg X.base (L2.CX X.prog X.w) k f fd ps sp) (hr : RoomG k X.A) (hb : Binds X.K fd ps []) (tk : Takes X W)
    (ht : eval (.Call (.Attribute o m apos) [] [] pos) X.env = (do let ov ← eval o X.env; standAt apos.atName; let (f, first) ← holding [ov] (getMethod ov m pl); callWith pos f first (backTo pos (starEach [] X.env)) (backToKw pos (keywordEach [] X.env)))) : PE X (.Call (.Attribute o m apos) [] [] pos) (tMthW C m sp W ta tNil) := by
  constructor
  intro pins s σ H Q I h
  refine PySem.W.methodCall_KW (pl := pl) (thn (he.run pins s σ H _ I h) ?_) ht
  rintro u s1 ⟨x, H1, I1, rx, a, dx, fs, rfl, ea, l, q⟩
  cases (show u = Value.ref a from rx)
  exact getmeth_ok I1 ea c hm l (PySem.W.callWith_K0 (first := [.ref a]) I1.kIn hm.kp (run_fng (us := [.ref a]) (vs := [.ref a]) (E := WE W) F hr hb (passAt tk σ) I1 (.cons rfl .nil) q))
end
section
variable {X : Cx} {W : WX} {o e : Expr} {es : List Expr} {mo : LE} {mr : LA} {c m : Str} {n k : Nat} {g : List LV → M LV} {apos pos : Pos}
theorem mth_read {C : Addr} (hc : X.mg c = some (.ref C)) (hl : ALen mr n) {σ : L2.St} {H : Hp} {Q : VK} (t : tE X.K X.mg W (mthM c m g mo mr) σ H Q) : tMthW C m (spOf X.K X.mg (n + 1) g) W (tE X.K X.mg W mo) (tA X.K X.mg W mr) σ H Q := by
  obtain ⟨s, ρ, h, rs, rh, p⟩ := t
  refine seqE rs rh p fun v h1 ρ1 H1 x e1 rh1 rv rs1 p1 => ?_
  split at p1
  · rename_i l fs ei
    obtain ⟨rfl, el⟩ := insAt_eq ei
    cases rv with
    | ref hr =>
      obtain ⟨C', dx, fs', hc', ha, rf⟩ := rh1.obj _ _ _ el hr
      rw [hc] at hc'; cases hc'
      split at p1
      · exact bad_of p1
      · rename_i hn
        refine ⟨_, dx, fs', rfl, ha, rf.none (Option.not_isSome_iff_eq_none.mp hn), s, ρ1, h1, rs1, rh1, ?_⟩
        unfold bnd at p1
        cases ee : mr s h1 with
        | ok vs h2 =>
          rw [ee] at p1
          intro ρ2 H2 xs e2 rh2 rvs
          exact ⟨.ref l :: vs, ρ2, h2, by rw [List.length_cons, hl s h1 vs h2 ee], .cons ((RV.ref hr).up e2) rvs, rh2, Post.up e2 p1⟩
        | exc c fs h2 => rw [ee] at p1; exact p1
        | bad => rw [ee] at p1; exact p1
  · exact bad_of p1
theorem se_mth {pl : Sem Bool} (M : CalM X.prog X.w X.K X.mg X.base k c m (n + 1) g) (hr : RoomG k X.A) (tk : Takes X W) (ho : SE X W o mo) (ha : SA X W (e :: es) mr) (hl : ALen mr n) (h1 : starEach (e :: es) X.env = (false, eval e X.env) :: starEach es X.env := by rfl) (h2 : (backTo pos (starEach es X.env)).any (·.1) = false := by rfl)
    (ht : eval (.Call (.Attribute o m apos) (e :: es) [] pos) X.env = (do let ov ← eval o X.env; standAt apos.atName; let (f, first) ← holding [ov] (getMethod ov m pl); callWith pos f first (backTo pos (starEach (e :: es) X.env)) (backToKw pos (keywordEach [] X.env))) := by rfl) : SE X W (.Call (.Attribute o m apos) (e :: es) [] pos) (mthM c m g mo mr) := by
  obtain ⟨C, f, fd, ps, hc, cl, hm, F, hb⟩ := M.ex
  exact pe_imp (pe_mthW (pl := pl) ho cl hm F hr hb tk ha h1 h2 ht) fun σ H Q t => mth_read hc hl t
theorem se_mth0 {pl : Sem Bool} (M : CalM X.prog X.w X.K X.mg X.base k c m 1 g) (hr : RoomG k X.A) (tk : Takes X W) (ho : SE X W o mo)
    (ht : eval (.Call (.Attribute o m apos) [] [] pos) X.env = (do let ov ← eval o X.env; standAt apos.atName; let (f, first) ← holding [ov] (getMethod ov m pl); callWith pos f first (backTo pos (starEach [] X.env)) (backToKw pos (keywordEach [] X.env))) := by rfl) : SE X W (.Call (.Attribute o m apos) [] [] pos) (mthM c m g mo aNil) := by
  obtain ⟨C, f, fd, ps, hc, cl, hm, F, hb⟩ := M.ex
  refine pe_imp (pe_mthW0 (pl := pl) ho cl hm F hr hb tk ht) fun σ H Q t => ?_
  have q := mth_read (n := 0) hc (fun s h vs h' e => by cases e; rfl) t
  unfold tMthW at q ⊢
  obtain ⟨s, ρ, h, rs, rh, p⟩ := q
  refine ⟨s, ρ, h, rs, rh, ?_⟩
  cases ee : mo s h with
  | ok v h1 =>
    rw [ee] at p
    intro ρ1 H1 x e1 rh1 rv
    obtain ⟨a, dx, fs, rfl, ha, hn, s2, ρ2, h2, rs2, rh2, p2⟩ := p ρ1 H1 x e1 rh1 rv
    exact ⟨a, dx, fs, rfl, ha, hn, p2 ρ2 H1 [] Ext.refl rh2 .nil⟩
  | exc c fs h1 => rw [ee] at p; exact p
  | bad => rw [ee] at p; exact p
end
/-! ### new instances -/
def newM (c : Str) (g : List LV → M LV) (a : LA) : LE := fun s => bnd (a s) fun vs h => match g (.ref h.length :: vs) (h ++ [.ins c []]) with
  | .ok .non h' => .ok (.ref h.length) h'
  | .exc c fs h' => .exc c fs h'
  | _ => .bad
structure CalN (P : Program) (w : World) (K : PySem.W.Frag) (mg : Str → Option Value) (base : Heap) (k : Nat) (c : Str) (n : Nat) (g : List LV → M LV) : Prop where
  ex : ∃ (C f : Addr) (fd : FuncData) (ps : List Str), mg c = some (.ref C) ∧ Mk K C f ∧ FnG P w K mg base (L2.CX P w) k f fd ps (spOf K mg n g) ∧ Binds K fd ps []
section
variable {X : Cx} {W : WX} {e : Expr} {es : List Expr} {mr : LA} {c : Str} {n k : Nat} {g : List LV → M LV} {p pos : Pos} {C f : Addr} {fd : FuncData} {ps : List Str} {sp : Sp}
theorem run_mkW {pins : List (Addr × Obj)} {σ : L2.St} {H : Hp} {s : Shared} {Q : VK} {us : List Value} {vs : List V} (M : Mk X.K C f) (F : FnG X.prog X.w X.K X.mg X.base (L2.CX X.prog X.w) k f fd ps sp) (hr : RoomG (k + 1) X.A) (hb : Binds X.K fd ps []) (tk : Takes X W) (I : Inv X pins σ H s) (r : Vals vs us)
    (h : ∀ x dx, H x = none → H dx = none → dx ≠ x → sp (.ref x :: vs) (upd (upd H dx (.own x)) x (.ins C dx [])) (fun v H2 => v = .non ∧ Q (.ref x) H2) (WE W σ)) : wpAny (model X.prog X.w) X.A (call (.ref C) us) (EP X pins σ Q) X.xe s := by
  have z1 : H (s.heap.objs.size + 1) = none := I.hok.fresh (Nat.le_succ _)
  have z2 : H s.heap.objs.size = none := I.hok.fresh (Nat.le_refl _)
  have hq := h _ _ z1 z2 (Nat.ne_of_lt (Nat.lt_succ_self _))
  have J := Inv.made (C := C) I
  have rr : Vals (V.ref (s.heap.objs.size + 1) :: vs) (Value.ref (s.heap.objs.size + 1) :: us) := .cons rfl r
  have hl : (Value.ref (s.heap.objs.size + 1) :: us).length = ps.length := by rw [← rr.length]; exact F.many _ _ _ _ hq
  have bb := hb { s with heap := (s.heap.push PySem.W.emptyDict).push (PySem.W.instObj C s.heap.objs.size) } (Value.ref (s.heap.objs.size + 1) :: us) J.kIn (by rw [List.append_nil]; exact hl)
  rw [List.append_nil] at bb
  refine wpAny_call (make_map (f := f) I.kIn M.makes M.init (beq_iff_eq.mp M.fn) (codeAny_mono (F.goes (hr.make C us []) (J.env0.make C us []) bb rr hq) ?_))
  intro q s' hq'
  cases q with
  | error e => exact passAt tk σ pins _ _ e s' J hq'
  | ok fl =>
    cases fl with
    | ret u =>
      obtain ⟨v, H', I3, rv, ev, q3⟩ := J.after hq'
      cases ev
      exact ⟨rv, V.ref _, H', I3, rfl, q3⟩
    | next => exact hq'.elim
    | brk => exact hq'.elim
    | cont => exact hq'.elim
theorem new_ok {vs : List LV} {xs : List V} {ρ : List Addr} {h : LH} {H : Hp} {σ : L2.St} {Q : VK} (hc : X.mg c = some (.ref C)) (hl : vs.length = n) (rh : RH X.K X.mg ρ h H) (rv : RVs X.K X.mg H ρ vs xs)
    (q : Post X.K X.mg (RV X.K X.mg) (fun C d H' => W C d σ H') ρ H Q (match g (.ref h.length :: vs) (h ++ [.ins c []]) with | .ok .non h' => .ok (.ref h.length) h' | .exc c fs h' => .exc c fs h' | _ => .bad)) (x dx : Addr) (hx : H x = none) (hd : H dx = none) (ne : dx ≠ x) :
    spOf X.K X.mg (n + 1) g (.ref x :: xs) (upd (upd H dx (.own x)) x (.ins C dx [])) (fun v H2 => v = .non ∧ Q (.ref x) H2) (WE W σ) := by
  have hx' : upd H dx (.own x) x = none := by rw [upd_ne (Ne.symm ne)]; exact hx
  have ee : Ext ρ H (ρ ++ [x]) (upd (upd H dx (.own x)) x (.ins C dx [])) := (ext_new hd).trans (ext_push hx')
  have rx : RV X.K X.mg (upd (upd H dx (.own x)) x (.ins C dx [])) (ρ ++ [x]) (.ref h.length) (.ref x) := .ref (by rw [← rh.len]; simp)
  refine ⟨.ref h.length :: vs, ρ ++ [x], h ++ [.ins c []], by rw [List.length_cons, hl], .cons rx (rv.up ee), (rh.imm hd).new (u := .ins c []) hx' ⟨C, dx, [], hc, upd_same, .nil⟩, ?_⟩
  cases er : g (.ref h.length :: vs) (h ++ [.ins c []]) with
  | ok v h' =>
    rw [er] at q
    intro ρ1 H1 y e1 rh1 ry
    cases v with
    | non => cases ry; exact ⟨rfl, q ρ1 H1 _ (ee.trans e1) rh1 (rx.up e1)⟩
    | _ => exact bad_of q
  | exc c fs h' =>
    rw [er] at q
    exact fun ρ1 H1 C d e1 rh1 rx => q ρ1 H1 C d (ee.trans e1) rh1 rx
  | bad => rw [er] at q; exact bad_of q
theorem se_new (M : CalN X.prog X.w X.K X.mg X.base k c (n + 1) g) (hg : Gl X c) (hr : RoomG (k + 1) X.A) (tk : Takes X W) (ha : SA X W (e :: es) mr) (hl : ALen mr n)
    (hdb : (c == ("__debug__" : Str)) = false := by decide) (he : starEach (e :: es) X.env = (false, eval e X.env) :: starEach es X.env := by rfl) (hpl : (backTo pos (starEach es X.env)).any (·.1) = false := by rfl) : SE X W (.Call (.Name c p) (e :: es) [] pos) (newM c g mr) := by
  obtain ⟨C, f, fd, ps, hc, mk, F, hb⟩ := M.ex
  constructor
  intro pins s σ H Q I ⟨sl, ρ, h, rs, rh, q⟩
  have t : tA X.K X.mg W mr σ H fun xs H1 => ∀ x dx, H1 x = none → H1 dx = none → dx ≠ x → spOf X.K X.mg (n + 1) g (.ref x :: xs) (upd (upd H1 dx (.own x)) x (.ins C dx [])) (fun v H2 => v = .non ∧ Q (.ref x) H2) (WE W σ) := by
    refine ⟨sl, ρ, h, rs, rh, ?_⟩
    unfold newM bnd at q
    cases er : mr sl h with
    | ok vs h1 =>
      rw [er] at q
      intro ρ1 H1 xs e1 rh1 rv
      exact new_ok hc (hl sl h vs h1 er) rh1 rv (Post.up e1 q)
    | exc c fs h1 => rw [er] at q; exact q
    | bad => rw [er] at q; exact q
  refine wpAny_Call_Name_kw (ld_glob I hg hc ?_ hdb)
  refine PySem.W.callWith_K (h₀ := X.base) I.ok.mod.kin mk.kp (thn (ha.run pos pins s σ H _ I t) ?_) he hpl
  rintro us s1 ⟨vs, H1, I1, r, q1⟩
  exact ⟨I1.kIn, run_mkW mk F hr hb tk I1 r q1⟩
theorem se_new0 (M : CalN X.prog X.w X.K X.mg X.base k c 1 g) (hg : Gl X c) (hr : RoomG (k + 1) X.A) (tk : Takes X W) (hdb : (c == ("__debug__" : Str)) = false := by decide) : SE X W (.Call (.Name c p) [] [] pos) (newM c g aNil) := by
  obtain ⟨C, f, fd, ps, hc, mk, F, hb⟩ := M.ex
  constructor
  intro pins s σ H Q I ⟨sl, ρ, h, rs, rh, q⟩
  refine wpAny_Call_Name_kw (ld_glob I hg hc ?_ hdb)
  exact PySem.W.callWith_K0 I.kIn mk.kp (run_mkW (us := []) mk F hr hb tk I .nil (new_ok (n := 0) hc rfl rh .nil q))
end
end Fw

set_option maxRecDepth 100000
set_option maxHeartbeats 4000000
namespace Fw
open PySem PySem.Spec PyProof.Rows L2
/-! ### zip -/
def zipP : List LV → List LV → List LV
  | x :: xs, y :: ys => .tup [x, y] :: zipP xs ys
  | _, _ => []
theorem zipP_len : ∀ xs ys : List LV, (zipP xs ys).length = min xs.length ys.length
  | [], _ => by simp [zipP]
  | _ :: _, [] => by simp [zipP]
  | x :: xs, y :: ys => by simp [zipP, zipP_len xs ys]
theorem zipP_get : ∀ (xs ys : List LV) (i : Nat) (x y : LV), xs[i]? = some x → ys[i]? = some y → (zipP xs ys)[i]? = some (.tup [x, y])
  | [], _, _, _, _, e, _ => by simp at e
  | _ :: _, [], _, _, _, _, e => by simp at e
  | a :: xs, b :: ys, 0, x, y, e, f => by simp at e f; subst e f; rfl
  | a :: xs, b :: ys, i + 1, x, y, e, f => by simpa [zipP] using zipP_get xs ys i x y (by simpa using e) (by simpa using f)
def zipL : List LV → M Items
  | [.tup xs, .tup ys] => ret ⟨zipP xs ys, []⟩
  | [.ref l, .ref k] => fun h => match h[l]?, h[k]? with
    | some (.lst xs), some (.lst ys) => .ok ⟨zipP xs ys, [(l, xs), (k, ys)]⟩ h
    | _, _ => .bad
  | _ => bad
section
variable {X : Cx} {W : WX} {e e2 : Expr}
theorem srv_zip {H0 : Hp} {ρ0 : List Addr} {a b : Addr} {xs ys : List LV} {o : List (Nat × List LV)} (k : ∀ ρ h H, Ext ρ0 H0 ρ H → RH X.K X.mg ρ h H → keepB o h = true → (∃ vs, SqL X.K H a vs ∧ RVs X.K X.mg H ρ xs vs) ∧ ∃ us, SqL X.K H b us ∧ RVs X.K X.mg H ρ ys us) : Srv X.K X.mg H0 ρ0 ⟨zipP xs ys, o⟩ (Itz X.K a b) := fun ρ h H e rh kb => by
  obtain ⟨⟨vs, hv, rv⟩, us, hu, ru⟩ := k ρ h H e rh kb
  refine ⟨fun i hi => ?_, fun i hi => ⟨vs, us, hv, hu, ?_⟩, fun i x H' hi y => ?_⟩
  · have hi : i < min xs.length ys.length := by rw [← zipP_len]; exact hi
    obtain ⟨z, hz, _⟩ := rv.get (List.getElem?_eq_getElem (show i < xs.length by omega))
    obtain ⟨w, hw, _⟩ := ru.get (List.getElem?_eq_getElem (show i < ys.length by omega))
    exact ⟨vs, us, z, w, hv, hu, hz, hw⟩
  · have hi : min xs.length ys.length ≤ i := by rw [← zipP_len]; exact hi
    rw [← rv.length, ← ru.length]
    omega
  · obtain ⟨T, z, w, rfl, nT, rfl, y1, y2⟩ := y
    obtain ⟨p, hp, rp⟩ := rv.get' (y1 vs hv)
    obtain ⟨q, hq, rq⟩ := ru.get' (y2 us hu)
    exact ⟨ext_new nT, rh.imm nT, _, zipP_get xs ys i p q hp hq, .tup upd_same (.cons (rp.up (ext_new nT)) (.cons (rq.up (ext_new nT)) .nil))⟩
theorem srv_zipT {H0 : Hp} {ρ0 : List Addr} {a b : Addr} {xs ys : List LV} (k : ∀ ρ h H, Ext ρ0 H0 ρ H → RH X.K X.mg ρ h H → (∃ vs, SqT X.K H a vs ∧ RVs X.K X.mg H ρ xs vs) ∧ ∃ us, SqT X.K H b us ∧ RVs X.K X.mg H ρ ys us) : Srv X.K X.mg H0 ρ0 ⟨zipP xs ys, []⟩ (RZ.ItzT X.K a b) := fun ρ h H e rh kb => by
  obtain ⟨⟨vs, hv, rv⟩, us, hu, ru⟩ := k ρ h H e rh
  refine ⟨fun i hi => ?_, fun i hi => ⟨vs, us, hv, hu, ?_⟩, fun i x H' hi y => ?_⟩
  · have hi : i < min xs.length ys.length := by rw [← zipP_len]; exact hi
    obtain ⟨z, hz, _⟩ := rv.get (List.getElem?_eq_getElem (show i < xs.length by omega))
    obtain ⟨w, hw, _⟩ := ru.get (List.getElem?_eq_getElem (show i < ys.length by omega))
    exact ⟨vs, us, z, w, hv, hu, hz, hw⟩
  · have hi : min xs.length ys.length ≤ i := by rw [← zipP_len]; exact hi
    rw [← rv.length, ← ru.length]
    omega
  · obtain ⟨T, z, w, rfl, nT, rfl, y1, y2⟩ := y
    obtain ⟨p, hp, rp⟩ := rv.get' (y1 vs hv)
    obtain ⟨q, hq, rq⟩ := ru.get' (y2 us hu)
    exact ⟨ext_new nT, rh.imm nT, _, zipP_get xs ys i p q hp hq, .tup upd_same (.cons (rp.up (ext_new nT)) (.cons (rq.up (ext_new nT)) .nil))⟩
theorem si_zip {ma : LA} {p pos tpos : Pos} {elts : List Expr} {kk : Nat} (hg : Gl X "zip") (hm : X.mg "zip" = none) (ha : SA X W [e, e2] ma) (hs : starEach [e, e2] X.env = (false, eval e X.env) :: starEach [e2] X.env := by rfl) (hpl : (backTo pos (starEach [e2] X.env)).any (·.1) = false := by rfl) :
    SI X W (.Tuple elts kk tpos) (.Call (.Name "zip" p) [e, e2] [] pos) (itmC zipL ma) := by
  refine pi_imp (RZ.pi_zipA hg hm ha hs hpl) fun σ H R ⟨s, ρ, h, rs, rh, p⟩ => ?_
  refine seqA rs rh p fun vs h1 ρ1 H1 xs e1 rh1 rv rs1 p1 => ?_
  unfold zipL at p1
  split at p1
  · obtain ⟨x, y, rfl, r, r'⟩ := rvs2 rv
    obtain ⟨a, va, rfl, ha, ra⟩ := rv_tup r
    obtain ⟨b, vb, rfl, hb, rb⟩ := rv_tup r'
    exact ⟨a, b, va, vb, rfl, .inr ⟨.of ha, .of hb, p1 ρ1 H1 _ Ext.refl rh1 (srv_zipT fun ρ2 h2 H2 e2 rh2 => ⟨⟨va, .of (e2.imm _ _ ha rfl), ra.up e2⟩, vb, .of (e2.imm _ _ hb rfl), rb.up e2⟩)⟩⟩
  · obtain ⟨x, y, rfl, r, r'⟩ := rvs2 rv
    cases r with
    | ref hr =>
      cases r' with
      | ref hr' =>
        split at p1
        · rename_i xs ys el el'
          obtain ⟨va, ha, ra⟩ := rv_lst rh1 el hr
          obtain ⟨vb, hb, rb⟩ := rv_lst rh1 el' hr'
          refine ⟨_, _, va, vb, rfl, .inl ⟨.of ha, .of hb, p1 ρ1 H1 _ Ext.refl rh1 (srv_zip fun ρ2 h2 H2 e2 rh2 kb => ?_)⟩⟩
          obtain ⟨v1, h3, h4⟩ := rv_lst rh2 (keepB_all kb List.mem_cons_self) (e2.pre _ _ hr)
          obtain ⟨v2, h5, h6⟩ := rv_lst rh2 (keepB_all kb (List.mem_cons_of_mem _ List.mem_cons_self)) (e2.pre _ _ hr')
          exact ⟨⟨v1, .of h3, h4⟩, v2, .of h5, h6⟩
        · exact bad_of p1
  · exact bad_of p1
end
/-! ### sorted of whole numbers -/
def intsOf : List LV → Option (List Int)
  | [] => some []
  | .int i :: r => (intsOf r).map (i :: ·)
  | _ => none
theorem intsOf_eq : ∀ {xs : List LV} {ns : List Int}, intsOf xs = some ns → xs = ns.map LV.int
  | [], _, e => by cases e; rfl
  | v :: xs, _, e => by
    cases v <;> first | (cases e; done) | skip
    simp only [intsOf, Option.map_eq_some_iff] at e
    obtain ⟨r, e1, rfl⟩ := e
    rw [intsOf_eq e1]; rfl
theorem intsOf_map (ns : List Int) : intsOf (ns.map LV.int) = some ns := by
  induction ns with
  | nil => rfl
  | cons n ns ih => simp [intsOf, ih]
def srtI (ns : List Int) : List Int := ns.mergeSort fun a b => decide (a ≤ b)
theorem srtI_perm (ns : List Int) : (srtI ns).Perm ns := List.mergeSort_perm _ _
theorem srtI_sorted (ns : List Int) : (srtI ns).Pairwise (· ≤ ·) := by
  have h := List.pairwise_mergeSort (le := fun a b : Int => decide (a ≤ b)) (fun a b c h1 h2 => by simp at h1 h2 ⊢; omega) (fun a b => by simp; omega) ns
  exact h.imp fun h => by simpa using h
theorem srt_uniq {as bs : List Int} (p : as.Perm bs) (h1 : as.Pairwise (· ≤ ·)) (h2 : bs.Pairwise (· ≤ ·)) : as = bs := List.Perm.eq_of_pairwise (fun a b _ _ h1 h2 => by omega) h1 h2 p
theorem srtI_eq {as bs : List Int} (p : as.Perm bs) : srtI as = srtI bs := srt_uniq ((srtI_perm as).trans (p.trans (srtI_perm bs).symm)) (srtI_sorted _) (srtI_sorted _)
theorem srtI_of {as bs : List Int} (p : as.Perm bs) (h : as.Pairwise (· ≤ ·)) : as = srtI bs := srt_uniq (p.trans (srtI_perm bs).symm) h (srtI_sorted _)
def srtL : List LV → M LV
  | [.ref l] => fun h => match h[l]? with
    | some (.lst xs) => (match intsOf xs with
      | some ns => .ok (.ref h.length) (h ++ [.lst ((srtI ns).map LV.int)])
      | none => .bad)
    | _ => .bad
  | _ => bad
section
variable {X : Cx} {W : WX}
theorem rvs_ints {K : PySem.W.Frag} {mg : Str → Option Value} {H : Hp} {ρ : List Addr} : ∀ (ns : List Int) {vs : List V}, RVs K mg H ρ (ns.map LV.int) vs → vs = ns.map V.int
  | [], _, r => by cases r; rfl
  | n :: ns, _, r => by
    cases r with
    | cons r t => cases r; rw [rvs_ints ns t]; rfl
theorem ints_rvs {K : PySem.W.Frag} {mg : Str → Option Value} {H : Hp} {ρ : List Addr} : ∀ (ns : List Int), RVs K mg H ρ (ns.map LV.int) (ns.map V.int)
  | [] => .nil
  | n :: ns => .cons (.int n) (ints_rvs ns)
theorem cal_srt : CalS X srtL (rSortedI X.K) := by
  intro v x ρ h H E Q rh rv p
  unfold srtL at p
  split at p
  · obtain ⟨x, rfl, r⟩ := rvs1 rv
    cases r with
    | ref hr =>
      split at p
      · rename_i xs el
        obtain ⟨va, ha, ra⟩ := rv_lst rh el hr
        split at p
        · rename_i ns en
          rw [intsOf_eq en] at ra
          obtain rfl := rvs_ints ns ra
          refine ⟨_, ns, rfl, .of ha, fun ns' q pm so hq => ?_⟩
          rw [srtI_of pm so]
          exact p (ρ ++ [q]) _ _ (ext_push hq) (rh.new hq ⟨_, upd_same, ints_rvs _⟩) (.ref (by rw [← rh.len]; simp))
        · exact bad_of p
      · exact bad_of p
  · exact bad_of p
/-! ### list.remove -/
def remL : LV → List LV → M LV
  | .ref l, [.int k] => fun h => match h[l]? with
    | some (.lst xs) => (match intsOf xs with
      | some ns => if k ∈ ns then .ok .non (h.set l (.lst ((ns.eraseIdx (ns.findIdx (· == k))).map LV.int))) else .bad
      | none => .bad)
    | _ => .bad
  | _, _ => bad
theorem met_rem : MetS X remL rRemI := by
  intro v vs x xs ρ h H E Q rh rv rvs p
  unfold remL at p
  split at p
  · rename_i l k
    obtain ⟨y, rfl, ry⟩ := rvs1 rvs
    cases ry
    cases rv with
    | ref hr =>
      split at p
      · rename_i xs el
        obtain ⟨va, ha, ra⟩ := rv_lst rh el hr
        split at p
        · rename_i ns en
          rw [intsOf_eq en] at ra
          obtain rfl := rvs_ints ns ra
          split at p
          · rename_i hk
            have hlt : ns.findIdx (· == k) < ns.length := by
              rw [List.findIdx_lt_length]
              exact ⟨k, hk, beq_self_eq_true k⟩
            refine ⟨_, ns, k, ns.findIdx (· == k), rfl, rfl, ha, ?_, ?_, p ρ _ _ (ext_set rh hr) (rh.set hr ⟨_, upd_same, ints_rvs _⟩) .non⟩
            · rw [List.getElem?_eq_getElem hlt]
              exact congrArg some (eq_of_beq (List.findIdx_getElem (w := hlt)))
            · intro m hm e
              have hml : m < ns.length := by omega
              rw [List.getElem?_eq_getElem hml] at e
              have := List.not_of_lt_findIdx hm
              rw [Option.some.inj e] at this
              exact absurd (beq_self_eq_true k) (by rw [this]; decide)
          · exact bad_of p
        · exact bad_of p
      · exact bad_of p
  · exact bad_of p
end
/-! ### dict.get, dict.pop -/
def dgtB (d k x : LV) : M LV := fun h => match dRd h d with
  | some (_, tk, kvs) => if okKey tk k = true then .ok ((getK kvs k).getD x) h else .bad
  | none => .bad
def isDct (h : LH) (d : LV) : Bool := (dRd h d).isSome
def getM (d k : LE) : LE := fun s => bnd (d s) fun dd h => if isDct h dd = true then bnd (k s) (fun kk => dgtB dd kk .non) h else .bad
def getM2 (d k x : LE) : LE := fun s => bnd (d s) fun dd h => if isDct h dd = true then bnd (k s) (fun kk => bnd (x s) fun xx => dgtB dd kk xx) h else .bad
section
variable {X : Cx} {W : WX} {o e f : Expr} {md mk mx : LE} {apos cpos : Pos}
theorem isDct_of {ρ : List Addr} {h : LH} {H : Hp} {d : LV} {x : V} (rh : RH X.K X.mg ρ h H) (rv : RV X.K X.mg H ρ d x) (e : isDct h d = true) : ∃ a, x = .ref a ∧ IsD H a := by
  unfold isDct at e
  cases ed : dRd h d with
  | none => rw [ed] at e; cases e
  | some z =>
    obtain ⟨l, tk, kvs⟩ := z
    obtain ⟨rfl, el⟩ := dRd_eq ed
    cases rv with
    | ref hr =>
      refine ⟨_, rfl, ?_⟩
      cases tk with
      | false => obtain ⟨kv, hh, _⟩ := rdc_of rh el hr; exact .inl ⟨kv, hh⟩
      | true => obtain ⟨kv, hh, _⟩ := rdt_of rh el hr; exact .inr ⟨kv, hh⟩
theorem dgt_of {ρ : List Addr} {h : LH} {H : Hp} {d k x : LV} {a : Addr} {y z : V} {E : XK} {Q : VK} (rh : RH X.K X.mg ρ h H) (rd : RV X.K X.mg H ρ d (.ref a)) (rk : RV X.K X.mg H ρ k y) (rx : RV X.K X.mg H ρ x z) (p : Post X.K X.mg (RV X.K X.mg) E ρ H Q (dgtB d k x h)) : ∃ o, DGet H a y o ∧ Q (o.getD z) H := by
  unfold dgtB at p
  split at p
  · rename_i l tk kvs ed
    obtain ⟨rfl, el⟩ := dRd_eq ed
    cases rd with
    | ref hr =>
      split at p
      · rename_i ok
        rcases dget_of rh el hr rk ok with ⟨g, dg⟩ | ⟨w, u, g, dg, ru⟩
        · rw [g] at p; exact ⟨none, dg, Post.now p rh rx⟩
        · rw [g] at p; exact ⟨some u, dg, Post.now p rh ru⟩
      · exact bad_of p
  · exact bad_of p
theorem se_get (hu : X.A.units + 1 < cLine) (hd : SE X W o md) (hk : SE X W e mk) (m : M1 X o "get" apos e cpos := by exact ⟨rfl, rfl, rfl, rfl⟩) : SE X W (.Call (.Attribute o "get" apos) [e] [] cpos) (getM md mk) := by
  refine pe_imp (pe_dget1 hu hd hk m) fun σ H Q ⟨s, ρ, h, rs, rh, p⟩ => ?_
  refine seqE rs rh p fun d h1 ρ1 H1 x e1 rh1 rv rs1 p1 => ?_
  split at p1
  · rename_i hi
    obtain ⟨a, rfl, ia⟩ := isDct_of rh1 rv hi
    refine ⟨a, rfl, ia, ?_⟩
    exact seqE rs1 rh1 p1 fun k h2 ρ2 H2 y e2 rh2 rk rs2 p2 => dgt_of rh2 (rv.up e2) rk .non p2
  · exact bad_of p1
theorem se_get2 (hu : X.A.units + 1 < cLine) (hd : SE X W o md) (hk : SE X W e mk) (hx : SE X W f mx) (m : M2 X o "get" apos e f cpos := by exact ⟨rfl, rfl, rfl, rfl⟩) : SE X W (.Call (.Attribute o "get" apos) [e, f] [] cpos) (getM2 md mk mx) := by
  refine pe_imp (pe_dget2 hu hd hk hx m) fun σ H Q ⟨s, ρ, h, rs, rh, p⟩ => ?_
  refine seqE rs rh p fun d h1 ρ1 H1 x e1 rh1 rv rs1 p1 => ?_
  split at p1
  · rename_i hi
    obtain ⟨a, rfl, ia⟩ := isDct_of rh1 rv hi
    refine ⟨a, rfl, ia, ?_⟩
    exact seqE rs1 rh1 p1 fun k h2 ρ2 H2 y e2 rh2 rk rs2 p2 => seqE rs2 rh2 p2 fun xx h3 ρ3 H3 z e3 rh3 rx rs3 p3 => dgt_of rh3 ((rv.up e2).up e3) (rk.up e3) rx p3
  · exact bad_of p1
def dpopB (d k : LV) : M LV := fun h => match dAt h d with
  | some (l, false, kvs) => if (keyOf k).isSome = true then (match getK kvs k with
    | some v => .ok v (h.set l (.dct false (delL kvs k)))
    | none => .bad) else .bad
  | _ => .bad
def dpopM (d k : LE) : LE := fun s => bnd (d s) fun dd h => if isDct h dd = true then bnd (k s) (fun kk => dpopB dd kk) h else .bad
theorem se_dpop (hd : SE X W o md) (hk : SE X W e mk) (m : M1 X o "pop" apos e cpos := by exact ⟨rfl, rfl, rfl, rfl⟩) : SE X W (.Call (.Attribute o "pop" apos) [e] [] cpos) (dpopM md mk) := by
  refine pe_imp (pe_dpop1 hd hk m) fun σ H Q ⟨s, ρ, h, rs, rh, p⟩ => ?_
  refine seqE rs rh p fun d h1 ρ1 H1 x e1 rh1 rv rs1 p1 => ?_
  split at p1
  · rename_i hi
    obtain ⟨a, rfl, ia⟩ := isDct_of rh1 rv hi
    refine ⟨a, rfl, ia, ?_⟩
    refine seqE rs1 rh1 p1 fun k h2 ρ2 H2 y e2 rh2 rk rs2 p2 => ?_
    unfold dpopB at p2
    split at p2
    · rename_i l kvs ed
      obtain ⟨rfl, el⟩ := dAt_eq ed
      cases rv.up e2 with
      | ref hr =>
        split at p2
        · rename_i ok
          obtain ⟨kk, ek⟩ := Option.isSome_iff_exists.mp ok
          have e3 := keyOf_eq ek
          subst e3
          have ey := rv_key rk
          subst ey
          obtain ⟨kv, h3, h4⟩ := dct_of rh2 el hr
          rcases rp_get (kl := keyL) eqLV_key kk (show RP X.K X.mg keyL H2 ρ2 kvs kv from h4) with ⟨g1, g2⟩ | ⟨v, u, g1, g2, g3⟩
          · rw [g1] at p2; exact bad_of p2
          · rw [g1] at p2
            exact ⟨kv, kk, u, h3, rfl, g2, p2 ρ2 _ _ (ext_set rh2 hr) (rh2.set hr ⟨_, upd_same, RK.up (ext_set rh2 hr) (rp_del (kl := keyL) eqLV_key kk h4)⟩) (g3.up (ext_set rh2 hr))⟩
        · exact bad_of p2
    · exact bad_of p2
  · exact bad_of p1
end
/-! ### one of two by what the object is -/
def selO (ck : LH → LV → Bool) (o f g : LE) : LE := fun s h => match o s h with
  | .ok v h1 => if ck h1 v = true then f s h else g s h
  | _ => f s h
theorem selO_or (ck : LH → LV → Bool) (o f g : LE) : ∀ s h, selO ck o f g s h = f s h ∨ selO ck o f g s h = g s h := by
  intro s h
  unfold selO
  split
  · split
    · exact .inl rfl
    · exact .inr rfl
  · exact .inl rfl
def isC (c : Str) (h : LH) (v : LV) : Bool := (insAt h c v).isSome
section
variable {X : Cx} {W : WX} {e : Expr} {mo m1 m2 : LE} {ck : LH → LV → Bool}
theorem se_sel (h1 : SE X W e m1) (h2 : SE X W e m2) : SE X W e (selO ck mo m1 m2) := se_alt (selO_or ck mo m1 m2) h1 h2
end
/-! ### a def that calls itself -/
theorem cal_bad {P : Program} {w : World} {K : PySem.W.Frag} {mg : Str → Option Value} {base : Heap} {k n : Nat} {x : Str} {f : Addr} {fd : FuncData} {ps : List Str} (hb : Binds K fd ps []) (hk : PySem.W.keepIn K (.ref f) = true) (hm : mg x = some (.ref f)) : Cal P w K mg base k x n (fun _ _ => .bad) :=
  ⟨f, fd, ps, ⟨fun vs H Q E ⟨s, ρ, h, hl, rv, rh, p⟩ => (show False from p).elim, fun hr he hb2 hv ⟨s2, ρ, h, hl, rv, rh, p⟩ => (show False from p).elim⟩, hb, hk, hm⟩
end Fw

set_option maxRecDepth 100000
set_option maxHeartbeats 4000000
namespace Fw
open PySem PySem.Spec PyProof.Rows L2
/-! ### a greater heap -/
section
variable {K : PySem.W.Frag} {mg : Str → Option Value} {H H' : Hp} {ρ : List Addr} {h : LH}
theorem ext_more {p : Addr} (k : ∀ b o, H b = some o → H' b = some o) : Ext ρ H (ρ ++ [p]) H' :=
  ⟨fun l a e => by rw [List.getElem?_append_left (List.getElem?_eq_some_iff.mp e).1]; exact e, fun a o e _ => k a o e⟩
theorem RH.more (r : RH K mg ρ h H) {p : Addr} {u : LO} (k : ∀ b o, H b = some o → H' b = some o) (n : H p = none) (ro : RO K mg H' (ρ ++ [p]) u p) : RH K mg (ρ ++ [p]) (h ++ [u]) H' := by
  have same : ∀ {l : Nat} {a : Addr}, ρ[l]? = some a → H' a = H a := fun {l a} e => by
    obtain ⟨o, _, ro⟩ := r.at e
    obtain ⟨w, hw⟩ := ro.some
    rw [hw]; exact k a w hw
  have q := r.new (o := .lst []) (u := .lst []) n ⟨[], upd_same, .nil⟩
  refine ⟨by simp [r.len], q.nd, fun l w a e1 e2 => ?_⟩
  by_cases hl : l < ρ.length
  · rw [List.getElem?_append_left hl] at e2
    rw [List.getElem?_append_left (by rw [← r.len]; exact hl)] at e1
    exact (r.obj l w a e1 e2).up (ext_more k) (same e2)
  · rw [List.getElem?_append_right (by omega)] at e2
    rw [List.getElem?_append_right (by rw [← r.len]; omega)] at e1
    have e3 : a = p := by have := List.mem_of_getElem? e2; simpa using this
    have e4 : w = u := by have := List.mem_of_getElem? e1; simpa using this
    subst e3; subst e4
    exact ro
end
/-! ### sorted(d.keys()) -/
def keysO (p d : Addr) : HO := .ext fun h => PySem.W.KdlKeysView h p d
theorem keysO_ok {P : Program} {w : World} {H : Hp} {h : Heap} {p d : Addr} (e : h.get? p = some { cls := .type "dict_keys", data := .fields #[.ref d] }) : ObjOk P w H h p (keysO p d) :=
  ⟨⟨_, e, rfl, rfl⟩, ⟨_, e⟩, fun a b x k => let ⟨o, ho, z⟩ := x; ⟨o, k o ho, z⟩⟩
def rKeysK : V → List V → Hp → VK → Prop := fun x xs H Q => ∃ (a : Addr) (kvs : List (Key × V)), x = .ref a ∧ xs = [] ∧ H a = some (.dK kvs) ∧ ∀ p, H p = none → Q (.ref p) (upd H p (keysO p a))
def rSrtKV : List V → Hp → VK → Prop := fun xs H Q => ∃ (p d : Addr) (kvs : List (Key × V)) (ks : List Int), xs = [.ref p] ∧ H p = some (keysO p d) ∧ H d = some (.dK kvs) ∧ kvs.map (·.1) = ks.map Sum.inl ∧ ks.length < 1000000 ∧
  ∀ (ys : List Int) (q : Addr), ys.Perm ks → ys.Pairwise (· ≤ ·) → H q = none → Q (.ref q) (upd H q (.lst (ys.map V.int)))
section
variable {X : Cx} {W : WX}
theorem mt_keysK : MtR X "dict.keys" rKeysK := by
  intro pins s σ H x xs v us Q I rx rxs h
  obtain ⟨a, kvs, rfl, rfl, ha, q⟩ := h
  cases rx
  cases rxs
  obtain ⟨z, lo, vs, rel, dd⟩ := dk_of I.hok ha
  have fr : H s.heap.objs.size = none := I.hok.fresh (Nat.le_refl _)
  refine call_meetsIn PySem.F.slot_dict_keys dd.typeIs PySem.F.entry_dict_keys (PySem.F.args_dict_keys_1 _) (PySem.W.kdl_meets_keys (mixKind X.prog X.w) a lo) ⟨⟨vs, dd⟩, ?_⟩
  exact ⟨.ref s.heap.objs.size, upd H s.heap.objs.size (keysO s.heap.objs.size a), I.laid (t' := s.toks) (fun b u e => Heap.get?_push_of_some _ e) (Nat.le_refl _) (keysO_ok (Heap.get?_push_size _ rfl)), rfl, q _ fr⟩
theorem call_srtKV (hcalm : X.calm = true) : CallR X (.builtin "sorted") rSrtKV := by
  intro pins s σ H xs us Q I r q
  obtain ⟨p, a, kvs, ks, rfl, hp, hd, hks, h64, q⟩ := q
  obtain ⟨u, rfl, rx⟩ := vals1 r
  cases rx
  obtain ⟨z, lo, vs, rel, dd⟩ := dk_of I.hok hd
  obtain ⟨ep, hat⟩ := dd.dictAt
  obtain ⟨hview, _⟩ := I.hok p _ hp
  have kk : vs.map (·.1) = ks.map Sum.inl := rel.keys.symm.trans hks
  have hl : vs.length = ks.length := by simpa using congrArg List.length kk
  have hsz : vs.length ≤ sizeLine := by rw [hl, sizeLine_eq]; omega
  apply Calls.call_function_entry PyProof.Rows.kind_sorted PyProof.Rows.plain_sorted PyProof.Rows.entry_sorted (PyProof.Rows.args_sorted1 (.ref p))
  unfold Builtin.«sorted»
  refine wpAny_bind (m := checkCount "sorted" 1 1 _) (wpAny_pure (wpAny_bind (PySem.W.kdu_collect (A := X.A.in1) (PySem.W.kdl_keys (knd := mixKind X.prog X.w) (r := p) (d := a) (kvs := vs) (ep := ep)) (I.ok.hd hcalm) ⟨hview, hat⟩ hsz ?_)))
  intro h' tk acc hk hacc
  have hal : acc.toList.length = ks.length := (Array.length_toList).trans (hacc.1.trans hl)
  have hS : IntsAre acc.toList ks := by
    refine ints_each hal fun j v e => ?_
    obtain ⟨k, x, e1, e2⟩ := hacc.2 j v (by rw [← Array.getElem?_toList]; exact e)
    have e3 : (ks.map Sum.inl)[j]? = some k := by rw [← kk, List.getElem?_map, e1]; rfl
    rw [List.getElem?_map] at e3
    obtain ⟨y, e4, e5⟩ := Option.map_eq_some_iff.mp e3
    subst e5
    rcases keyIs_shape (show keyIs (Sum.inl y) v = true from e2) with ⟨i, t, ek, ev⟩ | ⟨z, t, ek, ev⟩
    · cases ek; exact ⟨y, t, e4, ev⟩
    · cases ek
  have J : Inv X pins σ H { s with heap := h', toks := tk } := I.kept hk
  refine wpAny_bind (wpAny_newList ?_ (by rw [hal, sizeLine_eq]; omega))
  have ho : (h'.push (seqObj "list" acc.toList.toArray 0)).get? h'.objs.size = some (seqObj "list" acc.toList.toArray 0) := Heap.get?_push_size _ rfl
  refine wpAny_bind (wpAny_holding (wpAny_call_entry (s := { s with heap := h'.push (seqObj "list" acc.toList.toArray 0), toks := tk }) PyProof.Rows.slot_list_sort ⟨_, ho, rfl⟩ PyProof.Rows.entry_list_sort
    (PyProof.Rows.list_sort_treeAny (s := { s with heap := h'.push (seqObj "list" acc.toList.toArray 0), toks := tk }) ho hS (by rw [hal, sizeLine_eq]; omega) fun out ys g1 g2 g3 => ⟨_, rfl, ?_⟩) (PyProof.Rows.args_list_sort _)))
  obtain ⟨e', he'⟩ := PyProof.Rows.sortedHeap_at (vs := acc.toList) (out := out) ho
  have hz : (ys.map V.int).length ≤ sizeLine := by rw [List.length_map, g2.length_eq, sizeLine_eq]; omega
  have ok : ∀ HH : Hp, ObjOk X.prog X.w HH _ h'.objs.size (.lst (ys.map V.int)) := fun HH => ⟨hz, out.toList, e', vals_of_ints g1, by rw [Array.toArray_toList]; exact he'⟩
  have old : ∀ (b : Addr) (u : Obj), h'.get? b = some u → (PyProof.Rows.sortedHeap (h'.push (seqObj "list" acc.toList.toArray 0)) h'.objs.size acc.toList out).get? b = some u := by
    intro b u e
    have hb := Heap.lt_size e
    rw [PyProof.Rows.sortedHeap_old (Nat.ne_of_lt hb) (by rw [size_push']; exact Nat.lt_succ_of_lt hb)]
    exact Heap.get?_push_of_some _ e
  exact wpAny_pure ⟨_, rfl, .ref h'.objs.size, upd H h'.objs.size (.lst (ys.map V.int)), J.laid (t' := tk) old (Nat.le_refl _) (ok _), rfl, q ys _ g2 g3 (J.hok.fresh (Nat.le_refl _))⟩
def isDw (h : LH) (d : LV) : Bool := (dAt h d).isSome
theorem chk_dct : ChkS X isDw "dict" := fun v x ρ h H rh rv e => by
  unfold isDw at e
  cases ed : dAt h v with
  | none => rw [ed] at e; cases e
  | some z =>
    obtain ⟨l, tk, kvs⟩ := z
    obtain ⟨rfl, el⟩ := dAt_eq ed
    cases rv with
    | ref hr =>
      refine .inr (.inr (.inl ⟨rfl, ?_⟩))
      cases tk with
      | false => obtain ⟨kv, hh, _⟩ := rh.obj _ _ _ el hr; exact .inl ⟨kv, hh⟩
      | true => obtain ⟨kv, hh, _⟩ := rh.obj _ _ _ el hr; exact .inr ⟨kv, hh⟩
def srkB : LV → M LV := fun d h => match dAt h d with
  | some (_, false, kvs) => (match intsOf (kvs.map (·.1)) with
    | some ns => if ns.length < 1000000 then .ok (.ref h.length) (h ++ [.lst ((srtI ns).map LV.int)]) else .bad
    | none => .bad)
  | _ => .bad
def srkM (d : LE) : LE := fun s => bnd (d s) srkB
theorem keys_ints {H : Hp} {ρ : List Addr} : ∀ {kvs : List (LV × LV)} {kv : List (Key × V)} {ns : List Int}, RK X.K X.mg H ρ kvs kv → kvs.map (·.1) = ns.map LV.int → kv.map (·.1) = ns.map Sum.inl
  | _, _, [], .nil, _ => rfl
  | _, _, n :: ns, .nil, e => by cases e
  | (a, v) :: kvs, (b, x) :: kv, [], .cons r t, e => by cases e
  | (a, v) :: kvs, (b, x) :: kv, n :: ns, .cons r t, e => by
    obtain ⟨e0, _⟩ := r
    simp only [List.map_cons, List.cons.injEq] at e
    have ih := keys_ints (show RK X.K X.mg H ρ kvs kv from t) e.2
    have eb : b = Sum.inl n := by
      cases b with
      | inl i => have := e0.symm.trans e.1; simp [keyL] at this; rw [this]
      | inr y => have := e0.symm.trans e.1; simp [keyL] at this
    rw [List.map_cons, List.map_cons, ih, eb]
theorem se_srk {o : Expr} {md : LE} {p pos apos cpos : Pos} (hcalm : X.calm = true) (hg : Gl X "sorted") (hm : X.mg "sorted" = none) (hd : SE X W o md) (hbase : attributeBase o "keys" X.env (eval o X.env) = eval o X.env := by rfl) (hline : (apos.endLine == cpos.line) = true := by rfl)
    (he : starEach [.Call (.Attribute o "keys" apos) [] [] cpos] X.env = [(false, eval (.Call (.Attribute o "keys" apos) [] [] cpos) X.env)] := by rfl) : SE X W (.Call (.Name "sorted" p) [.Call (.Attribute o "keys" apos) [] [] cpos] [] pos) (srkM md) := by
  have hk := pe_bm0 (X := X) (name := "keys") (apos := apos) (cpos := cpos) PySem.F.plainAttrs_dict PySem.F.slot_dict_keys PySem.F.type_dict_keys mt_keysK hd hbase hline
  refine pe_imp (pe_callB (x := "sorted") (call_srtKV hcalm) hg hm (by decide +kernel) (pa_cons hk pa_nil he) (by decide) (by decide) he rfl) fun σ H Q ⟨s, ρ, h, rs, rh, q⟩ => ?_
  refine seqE rs rh q fun d h1 ρ1 H1 x e1 rh1 rv rs1 p1 => ?_
  unfold srkB at p1
  split at p1
  · rename_i l kvs ed
    obtain ⟨rfl, el⟩ := dAt_eq ed
    have ty := chk_dct _ _ _ _ _ rh1 rv (by unfold isDw; rw [ed]; rfl)
    refine ⟨ty, ?_⟩
    cases rv with
    | ref hr =>
      obtain ⟨kv, h2, h3⟩ := dct_of rh1 el hr
      split at p1
      · rename_i ns en
        split at p1
        · rename_i hl
          refine ⟨_, kv, rfl, rfl, h2, fun p hp => ?_⟩
          have ne := ne_of_none h2 hp
          refine ⟨p, _, kv, ns, rfl, upd_same, by rw [upd_ne ne]; exact h2, keys_ints h3 (intsOf_eq en), hl, fun ys q pm so hq => ?_⟩
          rw [srtI_of pm so]
          exact p1 (ρ1 ++ [q]) _ _ ((ext_new hp).trans (ext_push hq)) ((rh1.imm hp).new hq ⟨_, upd_same, ints_rvs _⟩) (.ref (by rw [← rh1.len]; simp))
        · exact bad_of p1
      · exact bad_of p1
  · exact bad_of p1
/-! ### list(d.items()) -/
def litB : LV → M LV := fun d h => match dAt h d with
  | some (_, false, kvs) => .ok (.ref h.length) (h ++ [.lst (kvs.map fun p => .tup [p.1, p.2])])
  | _ => .bad
def litM (d : LE) : LE := fun s => bnd (d s) litB
theorem items_rvs {H H' : Hp} {ρ ρ' : List Addr} (ee : Ext ρ H ρ' H') : ∀ {kvs : List (LV × LV)} {kv : List (Key × V)} {ts : List Addr}, RK X.K X.mg H ρ kvs kv → Paired (fun (t : Addr) (q : Key × V) => H' t = some (.tup [kV q.1, q.2])) ts kv → RVs X.K X.mg H' ρ' (kvs.map fun p => .tup [p.1, p.2]) (ts.map V.ref)
  | _, _, _, .nil, .nil => .nil
  | (a, v) :: kvs, (b, x) :: kv, t :: ts, .cons r rs, .cons q qs => by
    obtain ⟨e0, rv⟩ := r
    refine .cons (.tup q (.cons ?_ (.cons (rv.up ee) .nil))) (items_rvs ee (show RK X.K X.mg H ρ kvs kv from rs) qs)
    rw [show (a, v).fst = keyL b from e0]
    cases b with
    | inl i => exact .int i
    | inr y => exact .str y
theorem se_lit {o : Expr} {md : LE} {p pos apos cpos : Pos} (hcalm : X.calm = true) (hg : Gl X "list") (hm : X.mg "list" = none) (hd : SE X W o md) (hbase : attributeBase o "items" X.env (eval o X.env) = eval o X.env := by rfl) (hline : (apos.endLine == cpos.line) = true := by rfl)
    (hs : starEach [.Call (.Attribute o "items" apos) [] [] cpos] X.env = [(false, eval (.Call (.Attribute o "items" apos) [] [] cpos) X.env)] := by rfl) : SE X W (.Call (.Name "list" p) [.Call (.Attribute o "items" apos) [] [] cpos] [] pos) (litM md) := by
  refine pe_imp (LiI.pe_listItems hcalm hd hg hm (by decide +kernel) hbase hline hs) fun σ H Q ⟨s, ρ, h, rs, rh, q⟩ => ?_
  refine seqE rs rh q fun d h1 ρ1 H1 x e1 rh1 rv rs1 p1 => ?_
  unfold litB at p1
  split at p1
  · rename_i l kvs ed
    obtain ⟨rfl, el⟩ := dAt_eq ed
    cases rv with
    | ref hr =>
      obtain ⟨kv, h2, h3⟩ := dct_of rh1 el hr
      refine ⟨_, kv, rfl, h2, fun H' p ts k np nts _ hp pr => ?_⟩
      exact p1 (ρ1 ++ [p]) H' _ (ext_more k) (rh1.more k np ⟨_, hp, items_rvs (ext_more k) h3 pr⟩) (.ref (by rw [← rh1.len]; simp))
  · exact bad_of p1
end
end Fw

set_option maxRecDepth 100000
set_option maxHeartbeats 4000000
namespace Fw
open PySem PySem.Spec PyProof.Rows L2
/-! ### while -/
def whileS (t : LT) (b : LS) : Nat → LS
  | 0, _, _ => .bad
  | n + 1, s, h => match t s h with
    | .ok k h1 => if k = true then (match b s h1 with
      | .nx s2 h2 => whileS t b n s2 h2
      | .ct s2 h2 => whileS t b n s2 h2
      | .bk s2 h2 => .nx s2 h2
      | .rt v h2 => .rt v h2
      | .exc c fs s2 h2 => .exc c fs s2 h2
      | .bad => .bad) else .nx s h1
    | .exc c fs h1 => .exc c fs s h1
    | .bad => .bad
section
variable {X : Cx} {W : WX}
theorem ss_while {c : Expr} {body : List Stmt} {t : LT} {b : LS} {n : Nat} {pos : Pos} (po : PassesOwn (model X.prog X.w) X.A X.env X.xe) (hc : ST X W c t) (hb : SSs X W body b) : SS X W (.While c body [] pos) (whileS t b n) := by
  refine ps_imp (ps_while po hc hb) fun D σ H ⟨s, ρ, h, rs, rh, p⟩ => ⟨fun m σ H => ∃ s ρ h, RSt X.K X.mg H ρ s σ ∧ RH X.K X.mg ρ h H ∧ PostS X.K X.mg W D ρ H (whileS t b m s h), ⟨n, s, ρ, h, rs, rh, p⟩, ?_⟩
  rintro m σ H ⟨s, ρ, h, rs, rh, p⟩
  cases m with
  | zero => exact (show False from p).elim
  | succ m =>
    unfold whileS at p
    refine ⟨s, ρ, h, rs, rh, ?_⟩
    cases et : t s h with
    | bad => rw [et] at p; exact p
    | exc c fs h1 => rw [et] at p; exact fun ρ1 H1 C d e1 rh1 rx => p ρ1 H1 σ C d e1 rh1 (rs.up e1) rx
    | ok k h1 =>
      rw [et] at p
      rintro ρ1 H1 k' e1 rh1 rfl
      dsimp only at p
      by_cases hk : k = true
      · rw [if_pos hk] at p
        rw [if_pos hk]
        refine ⟨fun σ H => ∃ s ρ h, RSt X.K X.mg H ρ s σ ∧ RH X.K X.mg ρ h H ∧ PostS X.K X.mg W D ρ H (whileS t b m s h), fun σ' H' z => ⟨m, Nat.lt_succ_self m, z⟩, s, ρ1, h1, rs.up e1, rh1, ?_⟩
        cases eb : b s h1 with
        | nx s2 h2 => rw [eb] at p; exact fun ρ2 H2 σ2 e2 rh2 rs2 => ⟨s2, ρ2, h2, rs2, rh2, PostS.up (e1.trans e2) p⟩
        | ct s2 h2 => rw [eb] at p; exact fun ρ2 H2 σ2 e2 rh2 rs2 => ⟨s2, ρ2, h2, rs2, rh2, PostS.up (e1.trans e2) p⟩
        | bk s2 h2 => rw [eb] at p; exact fun ρ2 H2 σ2 e2 rh2 rs2 => p ρ2 H2 σ2 (e1.trans e2) rh2 rs2
        | rt v h2 => rw [eb] at p; exact fun ρ2 H2 x e2 rh2 rx => p ρ2 H2 x (e1.trans e2) rh2 rx
        | exc c fs s2 h2 => rw [eb] at p; exact fun ρ2 H2 σ2 C d e2 rh2 rs2 rx => p ρ2 H2 σ2 C d (e1.trans e2) rh2 rs2 rx
        | bad => rw [eb] at p; exact p
      · rw [if_neg hk] at p
        rw [if_neg hk]
        exact p ρ1 H1 σ e1 rh1 (rs.up e1)
/-! ### try: .. except C: suite -/
def tryOS (tab : List (Str × Str × Bool)) (n : Str) (mb ms : LS) : LS := fun s h => match mb s h with
  | .exc c fs s' h' => (match subE tab c n with
    | some true => (match ms s' h' with
      | .exc _ _ _ _ => .bad
      | .nx s2 h2 => .nx s2 h2
      | .rt v h2 => .rt v h2
      | .bk s2 h2 => .bk s2 h2
      | .ct s2 h2 => .ct s2 h2
      | .bad => .bad)
    | some false => .exc c fs s' h'
    | none => .bad)
  | .nx s' h' => .nx s' h'
  | .rt v h' => .rt v h'
  | .bk s' h' => .bk s' h'
  | .ct s' h' => .ct s' h'
  | .bad => .bad
theorem ss_tryO {kn : List Str} {tab : List (Str × Str × Bool)} {x : Str} {body suite : List Stmt} {b₀ : Stmt} {mb ms : LS} {np pos pos' : Pos} (T : XT X.K X.mg kn tab) (tk : Takes X W) (hgx : ∃ N, X.mg x = some (.ref N)) (hg : Gl X x)
    (hb : ∀ (W : WX) (pn : List (Addr × Obj)) (xe : Value → Shared → Prop), Takes (X.tr pn xe) W → PassesOwn (model X.prog X.w) X.A X.env xe → SSs (X.tr pn xe) W body mb)
    (hsu : ∀ (a : Addr) (oe : Obj) (pn : List (Addr × Obj)), SSs (X.suite a ((a, oe) :: pn)) W0 (b₀ :: suite) ms)
    (hs : X.stack = X.env :: X.outer := by rfl) (hf : X.env.frame = some X.env.locals := by rfl) (hdb : (x == ("__debug__" : Str)) = false := by decide) :
    SS X W (.Try body [.ExceptHandler (some (.Name x np)) none (b₀ :: suite) pos'] [] [] pos) (tryOS tab x mb ms) := by
  obtain ⟨N, hgx⟩ := hgx
  refine ps_imp (ps_try_only (tb := fun W => tS X.K X.mg W mb) (ts := fun a cls d => tS X.K X.mg W0 ms) hs hf ⟨hg, hdb, .inl hgx⟩ tk hb (fun a oe cls d pn _ _ => hsu a oe pn)) fun D σ H ⟨s, ρ, h, rs, rh, p⟩ => ⟨s, ρ, h, rs, rh, ?_⟩
  unfold tryOS at p
  cases e : mb s h with
  | nx s' h' => rw [e] at p; exact p
  | rt v h' => rw [e] at p; exact p
  | bk s' h' => rw [e] at p; exact p
  | ct s' h' => rw [e] at p; exact p
  | bad => rw [e] at p; exact p
  | exc c fs s' h' =>
    rw [e] at p
    dsimp only at p
    intro ρ1 H1 σ1 Cv d x1 rh1 rs1 rx
    obtain ⟨C, rfl, gC, rd⟩ := id rx
    cases es : subE tab c x with
    | none => rw [es] at p; exact (show False from p).elim
    | some b =>
      rw [es] at p
      refine ⟨b, (T.of es gC hgx).2, fun eb a na => ?_, fun eb => ?_⟩
      · subst eb
        refine ⟨s', ρ1, h', rs1, rh1, ?_⟩
        dsimp only at p
        cases em : ms s' h' with
        | nx s2 h2 => rw [em] at p; exact fun ρ2 H2 σ2 e2 rh2 rs2 => p ρ2 H2 σ2 (x1.trans e2) rh2 rs2
        | rt v h2 => rw [em] at p; exact fun ρ2 H2 z e2 rh2 rz => p ρ2 H2 z (x1.trans e2) rh2 rz
        | bk s2 h2 => rw [em] at p; exact fun ρ2 H2 σ2 e2 rh2 rs2 => p ρ2 H2 σ2 (x1.trans e2) rh2 rs2
        | ct s2 h2 => rw [em] at p; exact fun ρ2 H2 σ2 e2 rh2 rs2 => p ρ2 H2 σ2 (x1.trans e2) rh2 rs2
        | exc c2 fs2 s2 h2 => rw [em] at p; exact (show False from p).elim
        | bad => rw [em] at p; exact p
      · subst eb
        exact p ρ1 H1 σ1 (.ref C) d x1 rh1 rs1 rx
/-! ### str.join -/
def strsOf : List LV → Option (List Str)
  | [] => some []
  | .str x :: r => (strsOf r).map (x :: ·)
  | _ => none
theorem strsOf_eq : ∀ {xs : List LV} {ns : List Str}, strsOf xs = some ns → xs = ns.map LV.str
  | [], _, e => by cases e; rfl
  | v :: xs, _, e => by
    cases v <;> first | (cases e; done) | skip
    simp only [strsOf, Option.map_eq_some_iff] at e
    obtain ⟨r, e1, rfl⟩ := e
    rw [strsOf_eq e1]; rfl
theorem rvs_strs {K : PySem.W.Frag} {mg : Str → Option Value} {H : Hp} {ρ : List Addr} : ∀ (ns : List Str) {vs : List V}, RVs K mg H ρ (ns.map LV.str) vs → vs = ns.map V.str
  | [], _, r => by cases r; rfl
  | n :: ns, _, r => by
    cases r with
    | cons r t => cases r; rw [rvs_strs ns t]; rfl
def joinL : LV → List LV → M LV
  | .str a, [.ref l] => fun h => match h[l]? with
    | some (.lst xs) => (match strsOf xs with
      | some ys => if (ys.map (·.length)).sum + ys.length * a.length ≤ 16777216 then .ok (.str (Txt.join a ys)) h else .bad
      | none => .bad)
    | _ => .bad
  | _, _ => bad
theorem met_join : MetS X joinL (fun x xs H Q => ∃ a p, ∃ ys : List Str, x = .str a ∧ xs = [.ref p] ∧ (SqL X.K H p (ys.map V.str) ∨ SqT X.K H p (ys.map V.str)) ∧ (ys.map (·.length)).sum + ys.length * a.length ≤ 16777216 ∧ Q (.str (Txt.join a ys)) H) := by
  intro v vs x xs ρ h H E Q rh rv rvs p
  unfold joinL at p
  split at p
  · obtain ⟨y, rfl, ry⟩ := rvs1 rvs
    cases rv
    cases ry with
    | ref hr =>
      split at p
      · rename_i xs el
        obtain ⟨va, ha, ra⟩ := rv_lst rh el hr
        split at p
        · rename_i ys ey
          rw [strsOf_eq ey] at ra
          obtain rfl := rvs_strs ys ra
          split at p
          · rename_i hz
            exact ⟨_, _, ys, rfl, rfl, .inl (.of ha), hz, Post.now p rh (.str _)⟩
          · exact bad_of p
        · exact bad_of p
      · exact bad_of p
  · exact bad_of p
end
end Fw

set_option maxRecDepth 100000
set_option maxHeartbeats 4000000
namespace Fw
open PySem PySem.Spec PyProof.Rows L2
/-! ### a == b == c -/
theorem quiet_eqL : Quiet eqL := fun v u h => by
  unfold eqL
  split
  · exact .inl ⟨_, rfl⟩
  · split
    · exact .inl ⟨_, rfl⟩
    split
    · exact .inl ⟨_, rfl⟩
    · split
      · exact .inl ⟨_, rfl⟩
      · exact .inr rfl
theorem quiet_neL : Quiet neL := fun v u h => by
  unfold neL
  split
  · exact .inl ⟨_, rfl⟩
  · split
    · exact .inl ⟨_, rfl⟩
    · exact .inr rfl
/-! ### dict(d) -/
def dctL : List LV → M LV
  | [.ref l] => fun h => match h[l]? with
    | some (.dct false kvs) => .ok (.ref h.length) (h ++ [.dct false kvs])
    | _ => .bad
  | _ => bad
section
variable {X : Cx}
theorem cal_dct : CalS X dctL (fun xs H Q => ∃ (a : Addr) (kvs : List (Key × V)), xs = [.ref a] ∧ Rd H a (.dK kvs) ∧ ∀ p, H p = none → Q (.ref p) (upd H p (.dK kvs))) := by
  intro v x ρ h H E Q rh rv p
  unfold dctL at p
  split at p
  · obtain ⟨y, rfl, r⟩ := rvs1 rv
    cases r with
    | ref hr =>
      split at p
      · rename_i kvs el
        obtain ⟨kv, hk, rk⟩ := (show RO X.K X.mg H ρ (.dct false kvs) _ from rh.obj _ _ _ el hr)
        exact ⟨_, kv, rfl, .inl hk, fun l hl => p (ρ ++ [l]) _ _ (ext_push hl) (rh.new hl ⟨_, upd_same, RK.up (ext_push hl) rk⟩) (.ref (by rw [← rh.len]; simp))⟩
      · exact bad_of p
  · exact bad_of p
/-! ### list.insert -/
def insL : LV → List LV → M LV
  | .ref l, [.int i, v] => fun h => match h[l]? with
    | some (.lst xs) => if xs.length < sizeLine ∧ 0 ≤ i ∧ i < 2 ^ 63 then .ok .non (h.set l (.lst (xs.take i.toNat ++ [v] ++ xs.drop i.toNat))) else .bad
    | _ => .bad
  | _, _ => bad
theorem rvs_take {K : PySem.W.Frag} {mg : Str → Option Value} {H : Hp} {ρ : List Addr} : ∀ {vs : List LV} {xs : List V} (k : Nat), RVs K mg H ρ vs xs → RVs K mg H ρ (vs.take k) (xs.take k)
  | _, _, 0, _ => by simp; exact .nil
  | _, _, k + 1, .nil => by simp; exact .nil
  | _, _, k + 1, .cons a b => by simpa using RVs.cons a (rvs_take k b)
theorem rvs_drop {K : PySem.W.Frag} {mg : Str → Option Value} {H : Hp} {ρ : List Addr} : ∀ {vs : List LV} {xs : List V} (k : Nat), RVs K mg H ρ vs xs → RVs K mg H ρ (vs.drop k) (xs.drop k)
  | _, _, 0, r => by simpa using r
  | _, _, k + 1, .nil => by simp; exact .nil
  | _, _, k + 1, .cons a b => by simpa using rvs_drop k b
theorem met_ins : MetS X insL (fun x vs H Q => ∃ (l : Addr) (xs : List V) (i : Int) (y : V), x = .ref l ∧ vs = [.int i, y] ∧ H l = some (.lst xs) ∧ xs.length < sizeLine ∧ 0 ≤ i ∧ i < 2 ^ 63 ∧ Q .non (upd H l (.lst (xs.take i.toNat ++ [y] ++ xs.drop i.toNat)))) := by
  intro v vs x xs ρ h H E Q rh rv rvs p
  unfold insL at p
  split at p
  · obtain ⟨y, z, rfl, r1, r2⟩ := rvs2 rvs
    cases r1
    cases rv with
    | ref hr =>
      split at p
      · rename_i ys el
        obtain ⟨va, ha, ra⟩ := rv_lst rh el hr
        split at p
        · rename_i hz
          exact ⟨_, va, _, _, rfl, rfl, ha, by rw [← ra.length]; exact hz.1, hz.2.1, hz.2.2, p ρ _ _ (ext_set rh hr) (rh.set hr ⟨_, upd_same, (((rvs_take _ ra).append (.cons r2 .nil)).append (rvs_drop _ ra)).up (ext_set rh hr)⟩) .non⟩
        · exact bad_of p
      · exact bad_of p
  · exact bad_of p
/-! ### str.startswith, int(text) -/
def swL : LV → List LV → M LV
  | .str a, [.str b] => ret (.bl (Txt.startswith a b))
  | _, _ => bad
theorem met_sw : MetS X swL (fun x xs H Q => ∃ a b, x = .str a ∧ xs = [.str b] ∧ Q (.bl (Txt.startswith a b)) H) := by
  intro v vs x xs ρ h H E Q rh rv rvs p
  unfold swL at p
  split at p
  · obtain ⟨y, rfl, ry⟩ := rvs1 rvs
    cases rv
    cases ry
    exact ⟨_, _, rfl, rfl, Post.now p rh (.bl _)⟩
  · exact bad_of p
def intSL : List LV → M LV
  | [.str a] => fun h => match PySem.intText? a with
    | some n => if a.length ≤ 640 then .ok (.int n) h else .bad
    | none => .bad
  | xs => intL xs
theorem cal_intS : CalS X intSL (fun xs H Q => ((∃ i, xs = [.int i] ∧ Q (.int i) H) ∨ ∃ k : Bool, xs = [.bl k] ∧ Q (.int (if k then 1 else 0)) H) ∨ ∃ a n, xs = [.str a] ∧ PySem.intText? a = some n ∧ a.length ≤ 640 ∧ Q (.int n) H) := by
  intro v x ρ h H E Q rh rv p
  unfold intSL at p
  split at p
  · obtain ⟨y, rfl, r⟩ := rvs1 rv
    cases r
    split at p
    · rename_i n e
      split at p
      · rename_i hl
        exact .inr ⟨_, n, rfl, e, hl, Post.now p rh (.int _)⟩
      · exact bad_of p
    · exact bad_of p
  · exact .inl (cal_int _ _ _ _ _ _ _ rh rv p)
end
end Fw

set_option maxRecDepth 100000
set_option maxHeartbeats 4000000
namespace Fw
open PySem PySem.Spec PyProof.Rows L2
/-! ### repr of data -/
def toR : Nat → LH → LV → Option PyData
  | _, _, .non => some .none
  | _, _, .bl b => some (.bool b)
  | _, _, .int i => some (.int i)
  | _, _, .str x => some (.str x)
  | n + 1, h, .tup xs => (optAll (toR n h) xs).map .tuple
  | n + 1, h, .scr xs => (optAll (toR n h) xs).map .list
  | n + 1, h, .ref l => match h[l]? with
    | some (.lst xs) => (optAll (toR n h) xs).map .list
    | some (.dct false []) => some (.dict [])
    | _ => none
  | _, _, _ => none
mutual
/-- how long the text of it is at most -/
def sb : PyData → Nat
  | .none => 4
  | .bool _ => 5
  | .int _ => 1921
  | .str x => 4 * x.length + 2
  | .list xs => sbs xs + 2
  | .tuple xs => sbs xs + 3
  | .dict _ => 2
def sbs : List PyData → Nat
  | [] => 0
  | d :: ds => sb d + 2 + sbs ds
end
def asc (x : Str) : Bool := x.cps.toList.all fun c => decide (c < 128)
mutual
def okR1 : PyData → Bool
  | .none => true
  | .bool _ => true
  | .int i => decide (i.natAbs.log2 < 1920)
  | .str x => asc x
  | .list xs => okRs xs
  | .tuple xs => okRs xs
  | .dict [] => true
  | .dict _ => false
def okRs : List PyData → Bool
  | [] => true
  | d :: ds => okR1 d && okRs ds
end
theorem reprChar_len : ∀ c : Fin 128, (Builtin.Str.reprChar 34 c).length ≤ 4 ∧ (Builtin.Str.reprChar 39 c).length ≤ 4 := by decide +kernel
theorem fold_len (q : Nat) (hq : q = 34 ∨ q = 39) : ∀ (cs : List Nat) (acc : Array Nat), (cs.all fun c => decide (c < 128)) = true → (cs.foldl (fun out c => out ++ (Builtin.Str.reprChar q c).toArray) acc).size ≤ acc.size + 4 * cs.length
  | [], acc, _ => by simp
  | c :: cs, acc, h => by
    rw [List.all_cons, Bool.and_eq_true] at h
    have hc : c < 128 := of_decide_eq_true h.1
    have ih := fold_len q hq cs (acc ++ (Builtin.Str.reprChar q c).toArray) h.2
    have l : (Builtin.Str.reprChar q c).length ≤ 4 := by
      have z := reprChar_len ⟨c, hc⟩
      rcases hq with rfl | rfl
      · exact z.1
      · exact z.2
    have l2 : (acc ++ (Builtin.Str.reprChar q c).toArray).size = acc.size + (Builtin.Str.reprChar q c).length := by simp
    rw [l2] at ih
    rw [List.foldl_cons, List.length_cons]
    omega
theorem reprText_len {x : Str} (h : asc x = true) : (reprText x).length ≤ 4 * x.length + 2 := by
  have hq : reprQuote x = 34 ∨ reprQuote x = 39 := by unfold reprQuote; split <;> simp
  show (Array.push (Array.foldl _ _ x.cps) _).size ≤ _
  rw [Array.size_push, ← Array.foldl_toList]
  have z := fold_len (reprQuote x) hq x.cps.toList #[reprQuote x] h
  have e : x.cps.toList.length = x.length := by simp [Str.length]
  rw [e] at z
  simp only [List.size_toArray, List.length_cons, List.length_nil] at z
  omega
theorem shownAll_len : ∀ ds : List PyData, (PyData.shownAll ds).length = ds.length
  | [] => by simp [PyData.shownAll]
  | d :: ds => by simp [PyData.shownAll, shownAll_len ds]
theorem listText_le (ts : List Str) : (listText ts).length ≤ piled ts + 2 := by
  unfold listText
  rw [strLen_append]
  cases ts with
  | nil => show (textFrom 0 "[" []).length + 1 ≤ _; rw [piled_nil]; exact Nat.le_refl _
  | cons t r =>
    show (textFrom 1 (("[" : Str) ++ (if (0 : Nat) > 0 then ", " else "" : String) ++ t) r).length + 1 ≤ _
    rw [textFrom_length_pos _ _ _ (Nat.succ_pos 0), strLen_append, strLen_append, piled_cons]
    have e1 : ("[" : Str).length = 1 := rfl
    have e2 : (Str.ofString (if (0 : Nat) > 0 then ", " else "")).length = 0 := rfl
    omega
theorem tupleText_le (ts : List Str) : (tupleText ts).length ≤ piled ts + 3 := by
  unfold tupleText
  rw [strLen_append, strLen_append]
  have e1 : ("(" : Str).length = 1 := rfl
  have e2 : (Str.ofString (if ts.length == 1 then ",)" else ")")).length ≤ 2 := by split <;> decide
  cases ts with
  | nil => have e3 : (Str.join ", " []).length = 0 := rfl
           have e4 : (Str.ofString (if ([] : List Str).length == 1 then ",)" else ")")).length ≤ 2 := e2
           rw [piled_nil]; omega
  | cons t r => have z := join_length_add (t :: r) (by simp); omega
mutual
theorem shown_le : ∀ d : PyData, okR1 d = true → d.showable = true ∧ d.shown.length ≤ sb d
  | .none, _ => ⟨by simp [PyData.showable], by simp only [PyData.shown, sb]; decide⟩
  | .bool b, _ => ⟨by simp [PyData.showable], by simp only [PyData.shown, sb]; cases b <;> decide⟩
  | .int i, h => by
    have h : i.natAbs.log2 < 1920 := of_decide_eq_true (by simpa [okR1] using h)
    exact ⟨by simp [PyData.showable, h], by simp only [PyData.shown, sb]; exact int_text_len_1921 h⟩
  | .str x, h => ⟨by simp [PyData.showable], by simp only [PyData.shown, sb]; exact reprText_len (by simpa [okR1] using h)⟩
  | .list xs, h => by
    have z := shows_le xs (by simpa [okR1] using h)
    refine ⟨by simpa [PyData.showable] using z.1, ?_⟩
    simp only [PyData.shown, sb]
    exact Nat.le_trans (listText_le _) (by omega)
  | .tuple xs, h => by
    have z := shows_le xs (by simpa [okR1] using h)
    refine ⟨by simpa [PyData.showable] using z.1, ?_⟩
    simp only [PyData.shown, sb]
    exact Nat.le_trans (tupleText_le _) (by omega)
  | .dict [], _ => ⟨by simp [PyData.showable, PyData.showableKv], by simp only [PyData.shown, PyData.shownKv, sb]; decide⟩
  | .dict (_ :: _), h => by simp [okR1] at h
theorem shows_le : ∀ ds : List PyData, okRs ds = true → PyData.showableAll ds = true ∧ piled (PyData.shownAll ds) ≤ sbs ds
  | [], _ => ⟨by simp [PyData.showableAll], by simp [PyData.shownAll, sbs, piled_nil]⟩
  | d :: ds, h => by
    rw [okRs, Bool.and_eq_true] at h
    have a := shown_le d h.1
    have b := shows_le ds h.2
    refine ⟨by simp [PyData.showableAll, a.1, b.1], ?_⟩
    simp only [PyData.shownAll, sbs, piled_cons]
    omega
end
def reprA : List LV → M LV
  | [v] => fun h => match toR 16 h v with
    | some d => if okR1 d = true ∧ sb d ≤ 16777216 then .ok (.str d.shown) h else .bad
    | none => .bad
  | _ => bad
/-! data in the layer's heap -/
mutual
inductive DaR (K : PySem.W.Frag) (H : Hp) : V → PyData → Prop
  | non : DaR K H .non .none
  | bl (b : Bool) : DaR K H (.bl b) (.bool b)
  | int (i : Int) : DaR K H (.int i) (.int i)
  | str (x : Str) : DaR K H (.str x) (.str x)
  | lst {a : Addr} {xs : List V} {ds : List PyData} (h : SqL K H a xs) (r : DaRs K H xs ds) : DaR K H (.ref a) (.list ds)
  | tup {a : Addr} {xs : List V} {ds : List PyData} (h : SqT K H a xs) (r : DaRs K H xs ds) : DaR K H (.ref a) (.tuple ds)
  | dct {a : Addr} (h : Rd H a (.dK [])) : DaR K H (.ref a) (.dict [])
inductive DaRs (K : PySem.W.Frag) (H : Hp) : List V → List PyData → Prop
  | nil : DaRs K H [] []
  | cons {v : V} {vs : List V} {d : PyData} {ds : List PyData} (r : DaR K H v d) (t : DaRs K H vs ds) : DaRs K H (v :: vs) (d :: ds)
end
section
variable {X : Cx} {pins : List (Addr × Obj)} {σ : L2.St} {H : Hp} {s : Shared}
mutual
theorem DaR.reads (I : Inv X pins σ H s) (sm : ∃ o es ep, s.heap.get? sysModules = some o ∧ o.data = .dict es ep) : ∀ (d : PyData) (v : V) (u : Value), DaR X.K H v d → RelV v u → ∃ as, Reads s.heap u d as ∧ sysModules ∉ as
  | .none, _, _, h, r => by cases h; cases r; exact ⟨_, Reads.none, by simp⟩
  | .bool b, _, _, h, r => by cases h; cases r; exact ⟨_, Reads.bool b, by simp⟩
  | .int i, _, _, h, r => by cases h; obtain ⟨t, rfl⟩ := r; exact ⟨_, Reads.int i t, by simp⟩
  | .str x, _, _, h, r => by cases h; obtain ⟨t, rfl⟩ := r; exact ⟨_, Reads.str x t, by simp⟩
  | .list ds, _, _, h, r => by
    cases h with
    | lst hs ha =>
      cases r
      obtain ⟨its, rv, ⟨o, n, ho, hc, _, hd⟩, _⟩ := I.list hs
      obtain ⟨as, hr, nm⟩ := DaRs.reads I sm ds _ its ha rv
      refine ⟨_, Reads.list ho hc hd hr, fun m => ?_⟩
      rcases List.mem_cons.mp m with e | m
      · obtain ⟨o2, es, ep, g, d2⟩ := sm
        rw [e, ho] at g; cases g
        rw [hd] at d2; cases d2
      · exact nm m
  | .tuple ds, _, _, h, r => by
    cases h with
    | tup hs ha =>
      cases r
      obtain ⟨its, rv, ⟨o, ho, hc, n, hd⟩, _⟩ := I.tuple hs
      obtain ⟨as, hr, nm⟩ := DaRs.reads I sm ds _ its ha rv
      exact ⟨_, Reads.tuple ho hc hd hr, nm⟩
  | .dict kvs, _, _, h, r => by
    cases h with
    | dct hs =>
      cases r
      obtain ⟨_, ne, vs, kv, dd⟩ := dk_rd I.hok hs
      cases kv
      obtain ⟨o, es, ep, ho, hx, hdt, rr⟩ := dd
      have l1 := rr.2.1.length
      have e0 : es.toList = [] := List.length_eq_zero_iff.mp (by simpa using l1)
      refine ⟨_, Reads.dict (kvs := []) (as := []) (bs := []) ho hx.1 hdt (by rw [e0]; exact .nil) (by rw [e0]; exact .nil), fun m => ?_⟩
      simp only [List.append_nil, List.mem_singleton] at m
      rw [← m] at ne
      simp at ne
theorem DaRs.reads (I : Inv X pins σ H s) (sm : ∃ o es ep, s.heap.get? sysModules = some o ∧ o.data = .dict es ep) : ∀ (ds : List PyData) (vs : List V) (us : List Value), DaRs X.K H vs ds → Vals vs us → ∃ as, ReadsAll s.heap us ds as ∧ sysModules ∉ as
  | [], _, _, h, r => by cases h; cases r; exact ⟨_, .nil, by simp⟩
  | d :: ds, _, _, h, r => by
    cases h with
    | cons h t =>
      cases r with
      | cons r q =>
        obtain ⟨as, ra, na⟩ := DaR.reads I sm d _ _ h r
        obtain ⟨bs, rb, nb⟩ := DaRs.reads I sm ds _ _ t q
        exact ⟨_, .cons ra rb, by simp [na, nb]⟩
end
def rRepr (K : PySem.W.Frag) : List V → Hp → VK → Prop := fun xs H Q => ∃ x d, xs = [x] ∧ DaR K H x d ∧ d.depth ≤ 100 ∧ okR1 d = true ∧ sb d ≤ 16777216 ∧ Q (.str d.shown) H
theorem call_reprD {k : Nat} (rg : RoomG k X.A) (sm : ∃ mm, X.base.Ns sysModules mm) : CallR X (.builtin "repr") (rRepr X.K) := by
  intro pins s σ H xs us Q I r h
  obtain ⟨x, d, rfl, dr, dep, ok, sz, q⟩ := h
  obtain ⟨u, rfl, rx⟩ := vals1 r
  have z := shown_le d ok
  have hz : d.shown.length ≤ sizeLine := by rw [sizeLine_eq]; omega
  have fin : ∀ {h' : Heap} {t : Tok} {tk : Nat}, (∀ b o, s.heap.get? b = some o → h'.get? b = some o) → EP X pins σ Q (.str d.shown t) { s with heap := h', toks := tk } := fun {h' t tk} hk => ⟨.str _, H, I.kept hk, ⟨t, rfl⟩, q⟩
  have dref : ∀ a, u = .ref a → wpAny (model X.prog X.w) X.A (call (.builtin "repr") [u]) (EP X pins σ Q) X.xe s := fun a e => by
    subst e
    obtain ⟨mm, o, es, ep, g, dt, _⟩ := sm
    obtain ⟨as, rd, nm⟩ := DaR.reads I ⟨o, es, ep, (I.env0.bs _ _ g).1, dt⟩ d x _ dr rx
    exact repr_of_reads' rd z.1 (fun _ => nm) rg.gd (by have := rg.un; omega) (fun _ _ e => e) (fun h' t tk hk => fin hk) hz
  cases dr with
  | non => cases rx; exact P.repr_of_none (by rw [PyData.shown] at fin; exact fin (h' := s.heap) fun _ _ e => e)
  | bl b => cases rx; exact P.repr_of_bool (by rw [PyData.shown] at fin; exact fin (h' := s.heap) fun _ _ e => e)
  | int i =>
    obtain ⟨t, rfl⟩ := rx
    exact P.repr_of_int (of_decide_eq_true (by simpa [okR1] using ok)) (by rw [PyData.shown] at fin; exact fin (h' := s.heap) fun _ _ e => e)
  | str y =>
    obtain ⟨t, rfl⟩ := rx
    exact P.repr_of_str (by rw [PyData.shown] at fin; exact fin (h' := s.heap) fun _ _ e => e) (by rw [PyData.shown] at hz; exact hz)
  | lst hs ha => exact dref _ rx
  | tup hs ha => exact dref _ rx
  | dct hs => exact dref _ rx
theorem toR_depth : ∀ {n : Nat} {h : LH} {v : LV} {d : PyData}, toR n h v = some d → d.depth ≤ n := by
  intro n
  induction n with
  | zero =>
    intro h v d e
    cases v <;> simp only [toR] at e <;> first | (cases e; simp [PyData.depth]) | cases e
  | succ n ih =>
    have all : ∀ {h : LH} {vs : List LV} {ds : List PyData}, optAll (toR n h) vs = some ds → PyData.depthAll ds ≤ n := by
      intro h vs
      induction vs with
      | nil => intro ds e; cases e; simp [PyData.depthAll]
      | cons v vs ihv =>
        intro ds e
        obtain ⟨y, r, h1, h2, rfl⟩ := optAll_cons e
        have := ih h1
        have := ihv h2
        simp only [PyData.depthAll]
        omega
    intro h v d e
    cases v <;> simp only [toR] at e <;> first | (cases e; simp [PyData.depth]) | cases e | skip
    · obtain ⟨ds, e1, rfl⟩ := Option.map_eq_some_iff.mp e
      have := all e1
      simp only [PyData.depth]; omega
    · obtain ⟨ds, e1, rfl⟩ := Option.map_eq_some_iff.mp e
      have := all e1
      simp only [PyData.depth]; omega
    · split at e
      · obtain ⟨ds, e1, rfl⟩ := Option.map_eq_some_iff.mp e
        have := all e1
        simp only [PyData.depth]; omega
      · cases e; simp [PyData.depth, PyData.depthKv]
      · cases e
theorem drs_all {ρ : List Addr} {h : LH} {H : Hp} {n : Nat} (k : ∀ v x d, RV X.K X.mg H ρ v x → toR n h v = some d → DaR X.K H x d) : ∀ {vs : List LV} {xs : List V} {ds : List PyData}, RVs X.K X.mg H ρ vs xs → optAll (toR n h) vs = some ds → DaRs X.K H xs ds
  | [], _, _, r, e => by cases r; cases e; exact .nil
  | v :: vs, _, _, r, e => by
    cases r with
    | cons r t =>
      obtain ⟨y, q, h1, h2, rfl⟩ := optAll_cons e
      exact .cons (k _ _ _ r h1) (drs_all k t h2)
theorem toR_dr {ρ : List Addr} {h : LH} {H : Hp} (rh : RH X.K X.mg ρ h H) : ∀ {n : Nat} {v : LV} {x : V} {d : PyData}, RV X.K X.mg H ρ v x → toR n h v = some d → DaR X.K H x d := by
  intro n
  induction n with
  | zero =>
    intro v x d r e
    cases v <;> simp only [toR] at e <;> first | (cases e; cases r; first | exact .non | exact .bl _ | exact .int _ | exact .str _) | cases e
  | succ n ih =>
    intro v x d r e
    cases v <;> simp only [toR] at e <;> first | (cases e; cases r; first | exact .non | exact .bl _ | exact .int _ | exact .str _) | cases e | skip
    · obtain ⟨ds, e1, rfl⟩ := Option.map_eq_some_iff.mp e
      obtain ⟨a, va, rfl, ha, ra⟩ := rv_tup r
      exact .tup (.inl (.of ha)) (drs_all (fun v x d => ih) ra e1)
    · obtain ⟨ds, e1, rfl⟩ := Option.map_eq_some_iff.mp e
      obtain ⟨a, va, rfl, ha, ra⟩ := rv_scr r
      exact .lst ha (drs_all (fun v x d => ih) ra e1)
    · cases r with
      | ref hr =>
        split at e
        · rename_i xs el
          obtain ⟨ds, e1, rfl⟩ := Option.map_eq_some_iff.mp e
          obtain ⟨va, ha, ra⟩ := rv_lst rh el hr
          exact .lst (.inl (.of ha)) (drs_all (fun v x d => ih) ra e1)
        · rename_i el
          cases e
          obtain ⟨kv, h1, h2⟩ := dct_of rh el hr
          cases h2
          exact .dct (.of h1)
        · cases e
theorem cal_reprD : CalS X reprA (rRepr X.K) := by
  intro v x ρ h H E Q rh rv p
  unfold reprA at p
  split at p
  · obtain ⟨y, rfl, r⟩ := rvs1 rv
    split at p
    · rename_i d e
      split at p
      · rename_i ok
        have := toR_depth e
        exact ⟨y, d, rfl, toR_dr rh r e, by omega, ok.1, ok.2, Post.now p rh (.str _)⟩
      · exact bad_of p
    · exact bad_of p
  · exact bad_of p
end
end Fw

set_option maxRecDepth 100000
set_option maxHeartbeats 4000000
namespace Fw
open PySem PySem.Spec PyProof.Rows L2
/-! ### a dict locked while a statement, an expression runs -/
def unl (l : Nat) (h : LH) : Option LH := match h[l]? with
  | some (.fdc tk kvs) => some (h.set l (.dct tk kvs))
  | _ => none
def lkS (d : LE) (m : LS) : LS := fun s h => match d s h with
  | .ok (.ref l) _ => (match h[l]? with
    | some (.dct tk kvs) => (match m s (h.set l (.fdc tk kvs)) with
      | .nx s' h' => (match unl l h' with
        | some h2 => .nx s' h2
        | none => .bad)
      | .rt v h' => (match unl l h' with
        | some h2 => .rt v h2
        | none => .bad)
      | _ => .bad)
    | _ => .bad)
  | _ => .bad
def lkE (d : LE) (m : LE) : LE := fun s h => match d s h with
  | .ok (.ref l) _ => (match h[l]? with
    | some (.dct tk kvs) => (match m s (h.set l (.fdc tk kvs)) with
      | .ok v h' => (match unl l h' with
        | some h2 => .ok v h2
        | none => .bad)
      | _ => .bad)
    | _ => .bad)
  | _ => .bad
section
variable {K : PySem.W.Frag} {mg : Str → Option Value} {H H' : Hp} {ρ ρ' : List Addr} {h h' : LH}
theorem RSt.up0 (e : Ext0 ρ H ρ' H') {v : LSt} {x : L2.St} (r : RSt K mg H ρ v x) : RSt K mg H' ρ' v x := Paired.mapP r fun a b z => by
  cases a with
  | none => trivial
  | some v =>
    cases b with
    | none => exact z
    | some x => exact RV.mono e v x (show RV K mg H ρ v x from z)
/-- what stands at a locked dict's place -/
theorem ro_frz {o : LO} {a : Addr} {od : Obj} {u : HO} (r : RO K mg H ρ o a) (e : H a = some (.frz od u)) : ∃ tk kvs, o = .fdc tk kvs := by
  cases o with
  | lst xs => obtain ⟨vs, q, r⟩ := r; rw [e] at q; cases q
  | dct tk kvs =>
    cases tk with
    | false => obtain ⟨kv, q, r⟩ := r; rw [e] at q; cases q
    | true => obtain ⟨kv, q, r⟩ := r; rw [e] at q; cases q
  | ins c fs => obtain ⟨C, dx, fs', hc, q, r⟩ := r; rw [e] at q; cases q
  | fdc tk kvs => exact ⟨tk, kvs, rfl⟩
theorem RH.unlock (r : RH K mg ρ h H) {l : Nat} {a : Addr} {od : Obj} {u : HO} {tk : Bool} {kvs : List (LV × LV)} (e : ρ[l]? = some a) (f : H a = some (.frz od u)) (el : h[l]? = some (.fdc tk kvs)) :
    ImmV (.frz od u) = false ∧ Ext0 ρ H ρ (upd H a u) ∧ RH K mg ρ (h.set l (.dct tk kvs)) (upd H a u) := by
  have ro := r.obj l _ a el e
  have key : ImmV (.frz od u) = false ∧ ∀ H2 : Hp, Ext0 ρ H ρ H2 → H2 a = some u → RO K mg H2 ρ (.dct tk kvs) a := by
    cases tk with
    | false =>
      obtain ⟨od2, kv, q, rk⟩ := ro
      rw [f] at q; cases q
      exact ⟨rfl, fun H2 e2 q2 => ⟨kv, q2, RK.up0 e2 rk⟩⟩
    | true =>
      obtain ⟨od2, kv, q, rk⟩ := ro
      rw [f] at q; cases q
      exact ⟨rfl, fun H2 e2 q2 => ⟨kv, q2, RT.up0 e2 rk⟩⟩
  have e0 : Ext0 ρ H ρ (upd H a u) := ⟨fun _ _ z => z, fun b o z i => by
    rw [upd_ne (ne_of z f (fun z2 => by rw [z2, key.1] at i; cases i))]
    exact z⟩
  refine ⟨key.1, e0, by simp [r.len], r.nd, fun k w b e1 e2 => ?_⟩
  by_cases hk : k = l
  · subst hk
    rw [e] at e2; cases e2
    have hl : k < h.length := (List.getElem?_eq_some_iff.mp el).1
    rw [List.getElem?_set_self hl] at e1
    cases e1
    exact key.2 _ e0 upd_same
  · rw [List.getElem?_set_ne (Ne.symm hk)] at e1
    have nb : b ≠ a := fun z => hk (r.nd k l b e2 (by rw [z]; exact e))
    exact (r.obj k w b e1 e2).up0 e0 (upd_ne nb)
/-- locking -/
theorem RH.lock (r : RH K mg ρ h H) {l : Nat} {tk : Bool} {kvs : List (LV × LV)} (el : h[l]? = some (.dct tk kvs)) : ∃ a u, ρ[l]? = some a ∧ H a = some u ∧ Imm u = false ∧ Mut (some u) ∧ ∀ od, RH K mg ρ (h.set l (.fdc tk kvs)) (upd H a (.frz od u)) := by
  obtain ⟨a, e, ro⟩ := r.addr el
  cases tk with
  | false =>
    obtain ⟨kv, q, rk⟩ := ro
    exact ⟨a, _, e, q, rfl, trivial, fun od => r.set e ⟨od, kv, upd_same, RK.up (ext_set r e) rk⟩⟩
  | true =>
    obtain ⟨kv, q, rk⟩ := ro
    exact ⟨a, _, e, q, rfl, trivial, fun od => r.set e ⟨od, kv, upd_same, RT.up (ext_set r e) rk⟩⟩
/-- behind it -/
theorem unlock_all {a : Addr} {u : HO} {od : Obj} {l : Nat} (er : ρ[l]? = some a) (eh : H a = some u) (im : Imm u = false) (e1 : Ext ρ (upd H a (.frz od u)) ρ' H') (r' : RH K mg ρ' h' H') :
    H' a = some (.frz od u) ∧ ∃ h2, unl l h' = some h2 ∧ Ext ρ H ρ' (upd H' a u) ∧ Ext0 ρ' H' ρ' (upd H' a u) ∧ RH K mg ρ' h2 (upd H' a u) := by
  have f : H' a = some (.frz od u) := e1.imm a _ upd_same rfl
  have er' := e1.pre _ _ er
  obtain ⟨o, eo, ro⟩ := r'.at er'
  obtain ⟨tk, kvs, rfl⟩ := ro_frz ro f
  obtain ⟨iv, e0, ru⟩ := r'.unlock er' f eo
  refine ⟨f, _, by unfold unl; rw [eo], ⟨e1.pre, fun b w z i => ?_⟩, e0, ru⟩
  have nb : b ≠ a := ne_of z eh (fun z2 => by rw [z2, im] at i; cases i)
  rw [upd_ne nb]
  exact e1.imm b w (by rw [upd_ne nb]; exact z) i
end
section
variable {X : Cx} {W : WX} {e : Expr} {st : Stmt}
theorem ss_lock {d : LE} {m : LS} (hs : SS X W st m) : SS X W st (lkS d m) := by
  refine ps_imp (ps_lock hs) fun D σ H ⟨s, ρ, h, rs, rh, p⟩ => ?_
  unfold lkS at p
  split at p
  · rename_i l hh ed
    split at p
    · rename_i tk kvs el
      obtain ⟨a, u, er, eh, im, mu, rl⟩ := rh.lock el
      refine ⟨a, u, eh, mu, fun od => ⟨s, ρ, _, rs.up (ext_set rh er ⟨u, eh, im⟩), rl od, ?_⟩⟩
      cases em : m s (h.set l (.fdc tk kvs)) with
      | nx s' h' =>
        rw [em] at p
        intro ρ' H' σ' e1 r1 rs1
        obtain ⟨f, h2, eu, e2, e0, r2⟩ := unlock_all er eh im e1 r1
        dsimp only at p
        rw [eu] at p
        exact ⟨f, p ρ' _ σ' e2 r2 (rs1.up0 e0)⟩
      | rt v h' =>
        rw [em] at p
        intro ρ' H' x e1 r1 rv1
        obtain ⟨f, h2, eu, e2, e0, r2⟩ := unlock_all er eh im e1 r1
        dsimp only at p
        rw [eu] at p
        exact ⟨f, p ρ' _ x e2 r2 (RV.mono e0 _ _ rv1)⟩
      | bk s' h' => rw [em] at p; exact (show False from p).elim
      | ct s' h' => rw [em] at p; exact (show False from p).elim
      | exc c fs s' h' => rw [em] at p; exact (show False from p).elim
      | bad => rw [em] at p; exact (show False from p).elim
    · exact (show False from p).elim
  · exact (show False from p).elim
theorem se_lock {d : LE} {m : LE} (hs : SE X W e m) : SE X W e (lkE d m) := by
  refine pe_imp (pe_lock hs) fun σ H Q ⟨s, ρ, h, rs, rh, p⟩ => ?_
  unfold lkE at p
  split at p
  · rename_i l hh ed
    split at p
    · rename_i tk kvs el
      obtain ⟨a, u, er, eh, im, mu, rl⟩ := rh.lock el
      refine ⟨a, u, eh, mu, fun od => ⟨s, ρ, _, rs.up (ext_set rh er ⟨u, eh, im⟩), rl od, ?_⟩⟩
      cases em : m s (h.set l (.fdc tk kvs)) with
      | ok v h' =>
        rw [em] at p
        intro ρ' H' x e1 r1 rv1
        obtain ⟨f, h2, eu, e2, e0, r2⟩ := unlock_all er eh im e1 r1
        dsimp only at p
        rw [eu] at p
        exact ⟨f, p ρ' _ x e2 r2 (RV.mono e0 _ _ rv1)⟩
      | exc c fs h' => rw [em] at p; exact (show False from p).elim
      | bad => rw [em] at p; exact (show False from p).elim
    · exact (show False from p).elim
  · exact (show False from p).elim
end
/-! ### what is walked of a locked dict -/
def fdAt (h : LH) : LV → Option (Bool × List (LV × LV))
  | .ref l => match h[l]? with
    | some (.fdc tk kvs) => some (tk, kvs)
    | _ => none
  | _ => none
theorem fdAt_eq {h : LH} {v : LV} {tk : Bool} {kvs : List (LV × LV)} (e : fdAt h v = some (tk, kvs)) : ∃ l, v = .ref l ∧ h[l]? = some (.fdc tk kvs) := by
  unfold fdAt at e
  split at e
  · split at e
    · rename_i q; cases e; exact ⟨_, rfl, q⟩
    · cases e
  · cases e
def fdK : LV → M Items := fun v h => match fdAt h v with
  | some (_, kvs) => .ok ⟨kvs.map (·.1), []⟩ h
  | none => .bad
def fdV : LV → M Items := fun v h => match fdAt h v with
  | some (false, kvs) => .ok ⟨kvs.map (·.2), []⟩ h
  | _ => .bad
def fdI : LV → M Items := fun v h => match fdAt h v with
  | some (false, kvs) => .ok ⟨kvs.map fun p => .tup [p.1, p.2], []⟩ h
  | _ => .bad
def itmD (f : LV → M Items) (m : LE) : LI := fun s => bnd (m s) f
section
variable {X : Cx} {W : WX} {e tg : Expr} {me : LE} {apos cpos : Pos}
theorem rk_get {H : Hp} {ρ : List Addr} {kvs : List (LV × LV)} {kv : List (Key × V)} (r : RK X.K X.mg H ρ kvs kv) {i : Nat} {k : Key} {x : V} (g : kv[i]? = some (k, x)) : ∃ v, kvs[i]? = some (keyL k, v) ∧ RV X.K X.mg H ρ v x := by
  induction r generalizing i with
  | nil => simp at g
  | @cons a b l1 l2 p t ih =>
    cases i with
    | zero => simp at g; subst g; exact ⟨a.2, by rw [← p.1]; rfl, p.2⟩
    | succ i => simpa using ih (by simpa using g)
theorem rt_get {H : Hp} {ρ : List Addr} {kvs : List (LV × LV)} {kv : List (List Key × V)} (r : RT X.K X.mg H ρ kvs kv) {i : Nat} {k : List Key} {x : V} (g : kv[i]? = some (k, x)) : ∃ v, kvs[i]? = some (.tup (k.map keyL), v) ∧ RV X.K X.mg H ρ v x := by
  induction r generalizing i with
  | nil => simp at g
  | @cons a b l1 l2 p t ih =>
    cases i with
    | zero => simp at g; subst g; exact ⟨a.2, by rw [← p.1]; rfl, p.2⟩
    | succ i => simpa using ih (by simpa using g)
theorem rv_ofkey {H : Hp} {ρ : List Addr} (k : Key) : RV X.K X.mg H ρ (keyL k) (kV k) := by
  cases k with
  | inl i => exact .int i
  | inr y => exact .str y
theorem rvs_ofkeys {H : Hp} {ρ : List Addr} : ∀ ks : List Key, RVs X.K X.mg H ρ (ks.map keyL) (ks.map kV)
  | [] => .nil
  | k :: ks => .cons (rv_ofkey k) (rvs_ofkeys ks)
theorem srv_fK {H0 : Hp} {ρ0 : List Addr} {d : Addr} {od : Obj} {kvs : List (LV × LV)} {kv : List (Key × V)} (f : H0 d = some (.frz od (.dK kv))) (r : RK X.K X.mg H0 ρ0 kvs kv) : Srv X.K X.mg H0 ρ0 ⟨kvs.map (·.1), []⟩ (Itk d od kv) := fun ρ h H e rh _ => by
  have fe : H d = some (.frz od (.dK kv)) := e.imm _ _ f rfl
  have hl : kvs.length = kv.length := Paired.length r
  refine ⟨fun i hi => ⟨fe, by rw [← hl]; simpa using hi⟩, fun i hi => ⟨fe, by rw [← hl]; simpa using hi⟩, fun i x H' hi y => ?_⟩
  obtain ⟨rfl, k, v, g, rfl⟩ := y
  obtain ⟨w, g2, _⟩ := rk_get r g
  exact ⟨Ext.refl, rh, keyL k, by show (kvs.map (·.1))[i]? = _; rw [List.getElem?_map, g2]; rfl, rv_ofkey k⟩
theorem srv_fT {H0 : Hp} {ρ0 : List Addr} {d : Addr} {od : Obj} {kvs : List (LV × LV)} {kv : List (List Key × V)} (f : H0 d = some (.frz od (.dT kv))) (r : RT X.K X.mg H0 ρ0 kvs kv) : Srv X.K X.mg H0 ρ0 ⟨kvs.map (·.1), []⟩ (Itkt d od kv) := fun ρ h H e rh _ => by
  have fe : H d = some (.frz od (.dT kv)) := e.imm _ _ f rfl
  have hl : kvs.length = kv.length := Paired.length r
  refine ⟨fun i hi => ⟨fe, by rw [← hl]; simpa using hi⟩, fun i hi => ⟨fe, by rw [← hl]; simpa using hi⟩, fun i x H' hi y => ?_⟩
  obtain ⟨rfl, k, v, q, g, rfl, hq⟩ := y
  obtain ⟨w, g2, _⟩ := rt_get r g
  exact ⟨Ext.refl, rh, .tup (k.map keyL), by show (kvs.map (·.1))[i]? = _; rw [List.getElem?_map, g2]; rfl, .tup hq (rvs_ofkeys k)⟩
theorem srv_fV {H0 : Hp} {ρ0 : List Addr} {d : Addr} {od : Obj} {kvs : List (LV × LV)} {kv : List (Key × V)} (f : H0 d = some (.frz od (.dK kv))) (r : RK X.K X.mg H0 ρ0 kvs kv) : Srv X.K X.mg H0 ρ0 ⟨kvs.map (·.2), []⟩ (Itd d od kv) := fun ρ h H e rh _ => by
  have fe : H d = some (.frz od (.dK kv)) := e.imm _ _ f rfl
  have hl : kvs.length = kv.length := Paired.length r
  refine ⟨fun i hi => ⟨fe, by rw [← hl]; simpa using hi⟩, fun i hi => ⟨fe, by rw [← hl]; simpa using hi⟩, fun i x H' hi y => ?_⟩
  obtain ⟨rfl, k, g⟩ := y
  obtain ⟨w, g2, rw⟩ := rk_get r g
  exact ⟨Ext.refl, rh, w, by show (kvs.map (·.2))[i]? = _; rw [List.getElem?_map, g2]; rfl, rw.up e⟩
theorem srv_fI {H0 : Hp} {ρ0 : List Addr} {d : Addr} {od : Obj} {kvs : List (LV × LV)} {kv : List (Key × V)} (f : H0 d = some (.frz od (.dK kv))) (r : RK X.K X.mg H0 ρ0 kvs kv) : Srv X.K X.mg H0 ρ0 ⟨kvs.map fun p => .tup [p.1, p.2], []⟩ (Iti d od kv) := fun ρ h H e rh _ => by
  have fe : H d = some (.frz od (.dK kv)) := e.imm _ _ f rfl
  have hl : kvs.length = kv.length := Paired.length r
  refine ⟨fun i hi => ⟨fe, by rw [← hl]; simpa using hi⟩, fun i hi => ⟨fe, by rw [← hl]; simpa using hi⟩, fun i x H' hi y => ?_⟩
  obtain ⟨T, k, v, g, rfl, nT, rfl⟩ := y
  obtain ⟨w, g2, rw⟩ := rk_get r g
  exact ⟨ext_new nT, rh.imm nT, .tup [keyL k, w], by show (kvs.map _)[i]? = _; rw [List.getElem?_map, g2]; rfl, .tup upd_same (.cons (rv_ofkey k) (.cons ((rw.up e).up (ext_new nT)) .nil))⟩
theorem si_fK (he : SE X W e me) : SI X W tg e (itmD fdK me) := by
  refine pi_imp (pi_keys he) fun σ H R ⟨s, ρ, h, rs, rh, p⟩ => ?_
  refine seqE rs rh p fun v h1 ρ1 H1 x e1 rh1 rv rs1 p1 => ?_
  unfold fdK at p1
  split at p1
  · rename_i tk kvs ed
    obtain ⟨l, rfl, el⟩ := fdAt_eq ed
    cases rv with
    | ref hr =>
      cases tk with
      | false =>
        obtain ⟨od, kv, f, rk⟩ := rh1.obj _ _ _ el hr
        exact ⟨_, od, rfl, .inl ⟨kv, f, p1 ρ1 H1 _ Ext.refl rh1 (srv_fK f rk)⟩⟩
      | true =>
        obtain ⟨od, kv, f, rk⟩ := rh1.obj _ _ _ el hr
        exact ⟨_, od, rfl, .inr ⟨kv, f, p1 ρ1 H1 _ Ext.refl rh1 (srv_fT f rk)⟩⟩
  · exact bad_of p1
theorem si_fV (he : SE X W e me) (hbase : attributeBase e "values" X.env (eval e X.env) = eval e X.env := by rfl) (hline : (apos.endLine == cpos.line) = true := by rfl) : SI X W tg (.Call (.Attribute e "values" apos) [] [] cpos) (itmD fdV me) := by
  refine pi_imp (pi_values he hbase hline) fun σ H R ⟨s, ρ, h, rs, rh, p⟩ => ?_
  refine seqE rs rh p fun v h1 ρ1 H1 x e1 rh1 rv rs1 p1 => ?_
  unfold fdV at p1
  split at p1
  · rename_i kvs ed
    obtain ⟨l, rfl, el⟩ := fdAt_eq ed
    cases rv with
    | ref hr =>
      obtain ⟨od, kv, f, rk⟩ := rh1.obj _ _ _ el hr
      exact ⟨_, od, kv, rfl, f, p1 ρ1 H1 _ Ext.refl rh1 (srv_fV f rk)⟩
  · exact bad_of p1
theorem si_fI {elts : List Expr} {kk : Nat} {tpos : Pos} (he : SE X W e me) (hbase : attributeBase e "items" X.env (eval e X.env) = eval e X.env := by rfl) (hline : (apos.endLine == cpos.line) = true := by rfl) :
    SI X W (.Tuple elts kk tpos) (.Call (.Attribute e "items" apos) [] [] cpos) (itmD fdI me) := by
  refine pi_imp (pi_items he hbase hline) fun σ H R ⟨s, ρ, h, rs, rh, p⟩ => ?_
  refine seqE rs rh p fun v h1 ρ1 H1 x e1 rh1 rv rs1 p1 => ?_
  unfold fdI at p1
  split at p1
  · rename_i kvs ed
    obtain ⟨l, rfl, el⟩ := fdAt_eq ed
    cases rv with
    | ref hr =>
      obtain ⟨od, kv, f, rk⟩ := rh1.obj _ _ _ el hr
      exact ⟨_, od, kv, rfl, f, p1 ρ1 H1 _ Ext.refl rh1 (srv_fI f rk)⟩
  · exact bad_of p1
def fdKM : LV → M Items := fun v h => match fdAt h v with
  | some (false, kvs) => .ok ⟨kvs.map (·.1), []⟩ h
  | _ => .bad
theorem si_fKM (he : SE X W e me) (hbase : attributeBase e "keys" X.env (eval e X.env) = eval e X.env := by rfl) (hline : (apos.endLine == cpos.line) = true := by rfl) : SI X W tg (.Call (.Attribute e "keys" apos) [] [] cpos) (itmD fdKM me) := by
  refine pi_imp (pi_keysM he hbase hline) fun σ H R ⟨s, ρ, h, rs, rh, p⟩ => ?_
  refine seqE rs rh p fun v h1 ρ1 H1 x e1 rh1 rv rs1 p1 => ?_
  unfold fdKM at p1
  split at p1
  · rename_i kvs ed
    obtain ⟨l, rfl, el⟩ := fdAt_eq ed
    cases rv with
    | ref hr =>
      obtain ⟨od, kv, f, rk⟩ := rh1.obj _ _ _ el hr
      exact ⟨_, od, kv, rfl, f, p1 ρ1 H1 _ Ext.refl rh1 (srv_fK f rk)⟩
  · exact bad_of p1
end
end Fw

set_option maxRecDepth 100000
set_option maxHeartbeats 4000000
namespace Fw
open PySem PySem.Spec PyProof.Rows L2
/-! ### xs[::-1] -/
section
variable {prog : Program} {w : World} {A : Around} {E : Value → Shared → Prop} {s : Shared}
theorem adj_rev (n : Nat) : Builtin.Slice.sliceAdjust none none (-1) (n : Int) = ((n : Int) - 1, -1) := by
  first
  | rfl
  | simp [Builtin.Slice.sliceAdjust]
theorem plc_rev (n : Nat) : Builtin.Slice.slicePlaces ((n : Int) - 1) (-1) (-1) = n := by
  unfold Builtin.Slice.slicePlaces
  have h1 : ¬ ((-1 : Int) > 0) := by decide
  by_cases h : n = 0
  · subst h; simp
  · have h2 : ((-1 : Int)) < (n : Int) - 1 := by omega
    simp [h1, h2]
    try omega
theorem pick_rev (xs : Array Value) : ((List.range xs.size).filterMap fun (m : Nat) => xs[(((xs.size : Int) - 1) + (m : Int) * (-1)).toNat]?).toArray = xs.toList.reverse.toArray := by
  have e : (fun (m : Nat) => xs[(((xs.size : Int) - 1) + (m : Int) * (-1)).toNat]?) = fun m => xs[xs.size - 1 - m]? := by
    funext m
    have : (((xs.size : Int) - 1) + (m : Int) * (-1)).toNat = xs.size - 1 - m := by omega
    rw [this]
  rw [e]
  have e2 : (List.range xs.size).filterMap (fun m => xs[xs.size - 1 - m]?) = ((List.range xs.size).map fun k => xs.size - 1 - k).filterMap (xs[·]?) := by
    rw [List.filterMap_map]; rfl
  rw [e2, PySem.W.krv_range, List.filterMap_reverse, PySem.W.krv_all]
theorem getItem_tuple_rev {t sl : Addr} {items : Array Value} {u : Tok} {Q : Value → Shared → Prop} (ht : IsTup s.heap t items) (hs : s.heap.IsSliceOf sl .none .none (.int (-1) u))
    (h : Q (.ref s.heap.objs.size) { s with heap := s.heap.push { cls := .type "tuple", data := .seq items.toList.reverse.toArray } }) (hsz : items.size ≤ sizeLine) : wpAny (model prog w) A (getItem (.ref t) (.ref sl)) Q E s := by
  have fit : sizeOk (.seq items.toList.reverse.toArray) := by
    show (items.toList.reverse.toArray).size ≤ sizeLine
    simpa using hsz
  obtain ⟨os, hos, hcs, hds⟩ := id hs
  have ty : s.TypeIs (.ref sl) "slice" := ⟨os, hos, hcs⟩
  unfold getItem
  try with_reducible refine wpAny_holding ?_
  try with_reducible refine wpAny_bind (wpAny_pure ?_)
  refine wpAny_bind (wpAny_sequenceKey ht.typeIs (by decide) (wpAny_bind (wpAny_callSpecial?_slot (name := Str.ofString "__getitem__") ht.typeIs PyProof.Rows.slot_tuple_getitem ?_)))
  refine wpAny_call_entry PyProof.Rows.slot_tuple_getitem ht.typeIs entry_tuple_getitem ?_ (args_tuple_getitem _ _)
  show wpAny _ _ (Builtin.Tuple.tupleItemsOf (.ref t) >>= _) _ _ s
  refine wpAny_bind (tupleItemsOf_ ht (wpAny_bind (wpAny_typeOf ty ?_)))
  rw [if_pos (by decide)]
  refine wpAny_bind ?_
  unfold Builtin.Slice.sliceApplied Builtin.Slice.sliceFields
  refine wpAny_bind (wpAny_bind (wpAny_field hos hds (x := .none) rfl (wpAny_bind (wpAny_field hos hds (x := .none) rfl (wpAny_bind (wpAny_field hos hds (x := .int (-1) u) rfl (wpAny_pure ?_)))))))
  refine wpAny_bind (slicePart_int ?_)
  show wpAny _ _ (if ((-1 : Int) == 0) = true then _ else _) _ _ s
  rw [if_neg (by decide)]
  refine wpAny_bind (slicePart_none (wpAny_bind (slicePart_none (wpAny_bind (wpAny_pure ?_)))))
  show wpAny _ _ (match Builtin.Slice.sliceAdjust none none (-1) (items.size : Int) with | (lo, hi) => pure (lo, (-1 : Int), Builtin.Slice.slicePlaces lo hi (-1))) _ _ s
  rw [adj_rev]
  show wpAny _ _ (pure ((items.size : Int) - 1, (-1 : Int), Builtin.Slice.slicePlaces ((items.size : Int) - 1) (-1) (-1))) _ _ s
  rw [plc_rev]
  refine wpAny_pure ?_
  have no : ¬ ((((items.size : Int) - 1) == 0 && (-1 : Int) == 1 && items.size == items.size) = true) := by
    rw [show ((-1 : Int) == 1) = false from by decide, Bool.and_false, Bool.false_and]
    exact Bool.false_ne_true
  show wpAny _ _ (if (((items.size : Int) - 1) == 0 && (-1 : Int) == 1 && items.size == items.size) = true then _ else _) _ _ s
  rw [if_neg no, pick_rev]
  first
    | exact wpAny_bind (m := Builtin.Tuple.tupleExact _) (wpAny_newObj_type (wpAny_pure ⟨_, rfl, wpAny_pure h⟩) fit)
    | exact wpAny_bind (m := Builtin.Tuple.tupleExact _) (wpAny_newObj_type (wpAny_bind (wpAny_pure (wpAny_pure ⟨_, rfl, wpAny_pure h⟩))) fit)
    | exact wpAny_bind (wpAny_bind (m := Builtin.Tuple.tupleExact _) (wpAny_newObj_type (wpAny_pure (wpAny_pure ⟨_, rfl, wpAny_pure h⟩)) fit))
    | exact wpAny_bind (wpAny_bind (m := Builtin.Tuple.tupleExact _) (wpAny_newObj_type (wpAny_pure ⟨_, rfl, wpAny_pure h⟩) fit))
end
section
variable {X : Cx} {W : WX} {e : Expr} {me : LE}
def tRevT (K : PySem.W.Frag) (te : TE) : TE := fun σ H Q => te σ H fun x H1 => ∃ a xs, x = .ref a ∧ SqT K H1 a xs ∧ ∀ p, H1 p = none → Q (.ref p) (upd H1 p (.tup xs.reverse))
theorem pe_revT {te : TE} {k : Nat} {p1 p2 p3 pos : Pos} (he : PE X e te) : PE X (.Subscript e (.Slice none none (some (.UnaryOp .USub (.Constant (.int 1) k p1) p2)) p3) pos) (tRevT X.K te) := by
  constructor
  intro pins s σ H Q I h
  apply Subscript_
  refine thn (he.run pins s σ H _ I h) fun v s1 ⟨x, H1, I1, r1, a, xs, ex, hx, q⟩ => ?_
  subst ex
  cases r1
  have hst : PO X (some (.UnaryOp .USub (.Constant (.int 1) k p1) p2)) (tPart (tUn (rU fun i => .int (-i)) (tC (.int 1)))) := po_some (pe_un un_neg pe_int)
  apply wpAny_Slice
  refine thn (po_none.run pins s1 σ H1 (fun o H2 => o = none ∧ H2 = H1) I1 ⟨rfl, rfl⟩) fun vl s2 ⟨l, H2, I2, pl, el, e2⟩ => ?_
  subst el; subst e2
  refine thn (po_none.run pins s2 σ H2 (fun o H3 => o = none ∧ H3 = H2) I2 ⟨rfl, rfl⟩) fun vu s3 ⟨u, H3, I3, pu, eu, e3⟩ => ?_
  subst eu; subst e3
  refine thn (hst.run pins s3 σ H3 (fun o H4 => o = some (-1) ∧ H4 = H3) I3 ⟨1, rfl, -1, rfl, rfl, rfl⟩) fun vs s4 ⟨o, H4, I4, ps, eo, e4⟩ => ?_
  subst eo; subst e4
  cases pl; cases pu
  cases ps with
  | int _ uu =>
    have I5 : L2.Inv X pins σ H4 { s4 with heap := s4.heap.push { cls := .type "slice", data := .fields #[.none, .none, .int (-1) uu] } } := I4.kept (t' := s4.toks) fun b ob q => Heap.get?_push_of_some _ q
    obtain ⟨its, r, ht, hz⟩ := I5.tuple hx
    have hlen := r.length
    show wpAny (model X.prog X.w) X.A (subscriptTail e (.Slice none none (some (.UnaryOp .USub (.Constant (.int 1) k p1) p2)) p3) (.ref a) (.ref s4.heap.objs.size)) (EP X pins σ Q) X.xe { s4 with heap := s4.heap.push { cls := .type "slice", data := .fields #[.none, .none, .int (-1) uu] } }
    apply tail_any (ops := [.ref a, .ref s4.heap.objs.size]) ht.typeIs (PyProof.Rows.slot_tuple_getitem.lookup) _ (by with_unfolding_all rfl)
    apply getItem_tuple_rev ht (Heap.IsSliceOf.new _ .none .none (.int (-1) uu)) _ (by rw [List.size_toArray]; omega)
    refine ⟨.ref _, _, I5.laid (t' := s4.toks) (o := .tup xs.reverse) (fun b ob q => Heap.get?_push_of_some _ q) (Nat.le_refl _) ?_, rfl, q _ (I5.hok.fresh (Nat.le_refl _))⟩
    exact ⟨by rw [List.length_reverse]; exact hz, _, r.reverse, ⟨_, Heap.get?_push_size _ rfl, rfl, 0, by simp⟩⟩
def rvsL : LV → M LV
  | .tup xs => ret (.tup xs.reverse)
  | .scr xs => fun h => .ok (.ref h.length) (h ++ [.lst xs.reverse])
  | .ref l => fun h => match h[l]? with
    | some (.lst xs) => .ok (.ref h.length) (h ++ [.lst xs.reverse])
    | _ => .bad
  | _ => bad
def rvsM (m : LE) : LE := fun s => bnd (m s) rvsL
theorem rvs_reverse {H : Hp} {ρ : List Addr} : ∀ {vs : List LV} {xs : List V}, RVs X.K X.mg H ρ vs xs → RVs X.K X.mg H ρ vs.reverse xs.reverse
  | [], _, r => by cases r; exact .nil
  | v :: vs, _, r => by
    cases r with
    | cons r t => simp only [List.reverse_cons]; exact (rvs_reverse t).append (.cons r .nil)
theorem se_rvs {k : Nat} {p1 p2 p3 pos : Pos} (he : SE X W e me) : SE X W (.Subscript e (.Slice none none (some (.UnaryOp .USub (.Constant (.int 1) k p1) p2)) p3) pos) (rvsM me) := by
  refine pe_imp (pe_alt (pe_revT he) (pe_revL he)) fun σ H Q ⟨s, ρ, h, rs, rh, p⟩ => ?_
  unfold rvsM bnd at p
  cases em : me s h with
  | bad => rw [em] at p; exact bad_of p
  | exc c fs h1 => rw [em] at p; exact .inl ⟨s, ρ, h, rs, rh, by rw [em]; exact p⟩
  | ok v h1 =>
    rw [em] at p
    dsimp only at p
    unfold rvsL at p
    split at p
    · refine .inl ⟨s, ρ, h, rs, rh, ?_⟩
      rw [em]
      intro ρ1 H1 x e1 rh1 rv
      obtain ⟨a, va, rfl, ha, ra⟩ := rv_tup rv
      exact ⟨a, va, rfl, .inl (.of ha), tup_ok rh1 (rvs_reverse ra) (Post.up e1 p)⟩
    · refine .inr ⟨s, ρ, h, rs, rh, ?_⟩
      rw [em]
      intro ρ1 H1 x e1 rh1 rv
      obtain ⟨a, va, rfl, ha, ra⟩ := rv_scr rv
      exact ⟨a, va, rfl, ha, lst_ok rh1 (rvs_reverse ra) (Post.up e1 p)⟩
    · split at p
      · rename_i l xs el
        refine .inr ⟨s, ρ, h, rs, rh, ?_⟩
        rw [em]
        intro ρ1 H1 x e1 rh1 rv
        cases rv with
        | ref hr =>
          obtain ⟨va, ha, ra⟩ := rv_lst rh1 el hr
          exact ⟨_, va, rfl, .inl (.of ha), lst_ok rh1 (rvs_reverse ra) (Post.up e1 p)⟩
      · exact bad_of p
    · exact bad_of p
/-! ### sum, max of a list -/
def sumL : List LV → M LV
  | [.ref l] => fun h => match h[l]? with
    | some (.lst xs) => (match intsOf xs with
      | some ns => .ok (.int ns.sum) h
      | none => .bad)
    | _ => .bad
  | _ => bad
theorem cal_sum : CalS X sumL (rSum X.K) := by
  intro v x ρ h H E Q rh rv p
  unfold sumL at p
  split at p
  · obtain ⟨y, rfl, r⟩ := rvs1 rv
    cases r with
    | ref hr =>
      split at p
      · rename_i xs el
        split at p
        · rename_i ns en
          obtain ⟨va, ha, ra⟩ := rv_lst rh el hr
          rw [intsOf_eq en] at ra
          have ev : va = ns.map V.int := rvs_ints ns ra
          subst ev
          exact ⟨_, ns, rfl, .inl (.of ha), Post.now p rh (.int _)⟩
        · exact bad_of p
      · exact bad_of p
  · exact bad_of p
end
end Fw

set_option maxRecDepth 100000
set_option maxHeartbeats 4000000
namespace Fw
open PySem PySem.Spec PyProof.Rows L2
/-! ### list.remove of data -/
def remD : LV → List LV → M LV
  | .ref l, [v] => fun h => match h[l]? with
    | some (.lst xs) => (match toD 15 h v, optAll (toD 15 h) xs with
      | some d, some ds => (match ds.findIdx? fun y => PyData.eqv y d with
        | some j => .ok .non (h.set l (.lst (xs.eraseIdx j)))
        | none => .bad)
      | _, _ => .bad)
    | _ => .bad
  | _, _ => bad
def isBL : LV → LV → M LV
  | .bl a, .bl b => ret (.bl (decide (a = b)))
  | _, _ => bad
def notBL : LV → LV → M LV
  | .bl a, .bl b => ret (.bl (!decide (a = b)))
  | _, _ => bad
section
variable {X : Cx}
def rRemD (K : PySem.W.Frag) : V → List V → Hp → VK → Prop := fun x xs H Q => ∃ (l : Addr) (ys : List V) (y : V) (d : PyData) (ds : List PyData) (j : Nat), x = .ref l ∧ xs = [y] ∧ H l = some (.lst ys) ∧ Dp K H y d ∧ DpAll K H ys ds ∧ SeqAt.shaped d = true ∧ SeqAt.shaped (.list ds) = true ∧ (ds.findIdx? fun y => PyData.eqv y d) = some j ∧ Q .non (upd H l (.lst (ys.eraseIdx j)))
theorem mt_remD (hu : X.A.units + 65 < cLine) : MtM X "list.remove" (rRemD X.K) := by
  rintro pins s σ H x xs v us Q I rx rxs ⟨l, ys, y, d, ds, j, rfl, rfl, hH, hd, he, sd, se, hj, q⟩
  cases rx
  obtain ⟨u, rfl, ru⟩ := rxs.one
  obtain ⟨bs, r1⟩ := Dp.reads I d y u hd ru
  obtain ⟨z, its, n, r, hl, e⟩ := I.lstM hH
  obtain ⟨as, r2⟩ := Dp.readsAll I ds ys its he r
  have p1 : d.plain = true := PyData.plain_of_canLay0 d (SeqAt.canLay_of_shaped sd)
  have p2 : PyData.plainAll ds = true := PyData.plainAll_of_canLay0 ds (by simpa [PyData.canLay0] using SeqAt.canLay_of_shaped se)
  have p3 : X.A.units + 1 + min (PyData.depthAll ds) d.depth < cLine := by
    have := (Bool.and_eq_true_iff.mp sd).2
    have := of_decide_eq_true this
    omega
  refine SeqAt.remove_list_data (vs := its.toArray) ⟨_, e, rfl, n, rfl⟩ r2 r1 p2 p1 p3 hj (by rw [List.size_toArray]; omega) ?_
  refine ⟨.non, _, I.lset (its' := its.eraseIdx j) (t' := s.toks) hH e ?_ (r.eraseIdx j) ?_, rfl, q⟩
  · show its.toArray.eraseIdxIfInBounds j = (its.eraseIdx j).toArray
    rw [List.eraseIdxIfInBounds_toArray]
  · have z2 := List.length_eraseIdx_le ys j
    omega
theorem met_remD : MetS X remD (rRemD X.K) := by
  intro v vs x xs ρ h H E Q rh rv rvs p
  unfold remD at p
  split at p
  · rename_i l v'
    obtain ⟨y, rfl, ry⟩ := rvs1 rvs
    cases rv with
    | ref hr =>
      split at p
      · rename_i xs el
        obtain ⟨va, ha, ra⟩ := rv_lst rh el hr
        split at p
        · rename_i d ds h1 h2
          split at p
          · rename_i j hj
            exact ⟨_, va, y, d, ds, j, rfl, rfl, ha, toD_dp rh ry h1, dp_all (fun v x d r e => toD_dp rh r e) ra h2, shaped_of h1 (by decide), shaped_list (fun x d q => toD_lay q) h2 (by decide), hj, p ρ _ _ (ext_set rh hr) (rh.set hr ⟨_, upd_same, (rvs_del _ ra).up (ext_set rh hr)⟩) .non⟩
          · exact bad_of p
        · exact bad_of p
      · exact bad_of p
  · exact bad_of p
/-! ### is True, is False -/
theorem bin_isBL : BinS X isBL (fun x y H Q => ∃ a b, x = .bl a ∧ y = .bl b ∧ Q (.bl (decide (a = b))) H) := by
  intro v u x y ρ h H E Q rh rv ru p
  cases v <;> first | exact bad_of p | skip
  cases u <;> first | exact bad_of p | skip
  cases rv; cases ru
  exact ⟨_, _, rfl, rfl, Post.now p rh (.bl _)⟩
theorem bin_notBL : BinS X notBL (fun x y H Q => ∃ a b, x = .bl a ∧ y = .bl b ∧ Q (.bl (!decide (a = b))) H) := by
  intro v u x y ρ h H E Q rh rv ru p
  cases v <;> first | exact bad_of p | skip
  cases u <;> first | exact bad_of p | skip
  cases rv; cases ru
  exact ⟨_, _, rfl, rfl, Post.now p rh (.bl _)⟩
end
end Fw

set_option maxRecDepth 100000
set_option maxHeartbeats 4000000
/-! sorted of tuples: what stands behind the first place that differs is not looked at -/
namespace Fw
open PySem PySem.Spec PyProof.Rows L2 PySem.W PySem.SeqAt
/-! ### which data can be compared -/
mutual
def cok : PyData → PyData → Bool
  | .int _, .int _ => true
  | .str _, .str _ => true
  | .tuple us, .tuple ws => coks us ws
  | _, _ => false
def coks : List PyData → List PyData → Bool
  | u :: us, w :: ws => cok u w && (!PyData.eqv u w || coks us ws)
  | [], _ => true
  | _ :: _, [] => true
end
theorem coks_c {u w : PyData} {us ws : List PyData} (h : coks (u :: us) (w :: ws) = true) : cok u w = true ∧ (PyData.eqv u w = true → coks us ws = true) := by
  rw [coks, Bool.and_eq_true] at h
  refine ⟨h.1, fun e => ?_⟩
  have := h.2
  rw [e] at this
  simpa using this
/-- the order of signs -/
abbrev lxT (p q : List (Int ⊕ List Nat)) : Bool := PyProof.Rows.lexLt itemOrd p q
theorem lx_pre (p q r : List (Int ⊕ List Nat)) : lxT (p ++ q) (p ++ r) = lxT q r := lex_pre p q r
theorem lx_one {x y : Int ⊕ List Nat} (ne : x ≠ y) (p q : List (Int ⊕ List Nat)) : lxT (x :: p) (y :: q) = lxT [x] [y] := lex_atom ne p q
theorem lx_same (x : Int ⊕ List Nat) (p q : List (Int ⊕ List Nat)) : lxT (x :: p) (x :: q) = lxT p q := lex_self (O := itemOrd) x p q
mutual
theorem cok_toks : ∀ (u w : PyData), cok u w = true → (PyData.eqv u w = true → keyToks u = keyToks w) ∧ (PyData.eqv u w = false → ∀ p q, lxT (keyToks u ++ p) (keyToks w ++ q) = lxT (keyToks u) (keyToks w))
  | .int i, w, c => by
    obtain ⟨j, rfl⟩ : ∃ j, w = .int j := by cases w <;> first | exact ⟨_, rfl⟩ | (unfold cok at c; cases c)
    refine ⟨fun e => by rw [show i = j by simpa [PyData.eqv] using e], fun e p q => ?_⟩
    have ne : (Sum.inl i : Int ⊕ List Nat) ≠ .inl j := fun z => by rw [Sum.inl.inj z] at e; simp [PyData.eqv] at e
    exact lx_one ne p q
  | .str x, w, c => by
    obtain ⟨y, rfl⟩ : ∃ y, w = .str y := by cases w <;> first | exact ⟨_, rfl⟩ | (unfold cok at c; cases c)
    refine ⟨fun e => by rw [show x = y by simpa [PyData.eqv] using e], fun e p q => ?_⟩
    have ne : (Sum.inr x.cps.toList : Int ⊕ List Nat) ≠ .inr y.cps.toList := fun z => by rw [str_of_cps (Sum.inr.inj z)] at e; simp [PyData.eqv] at e
    exact lx_one ne p q
  | .tuple us, w, c => by
    obtain ⟨ws, rfl⟩ : ∃ ws, w = .tuple ws := by cases w <;> first | exact ⟨_, rfl⟩ | (unfold cok at c; cases c)
    have t := coks_toks us ws (by simpa [cok] using c)
    simpa only [keyToks, PyData.eqv] using t
  | .none, w, c => absurd c (by cases w <;> simp [cok])
  | .bool _, w, c => absurd c (by cases w <;> simp [cok])
  | .list _, w, c => absurd c (by cases w <;> simp [cok])
  | .dict _, w, c => absurd c (by cases w <;> simp [cok])
theorem coks_toks : ∀ (us ws : List PyData), coks us ws = true → (PyData.eqvAll us ws = true → keyToksAll us = keyToksAll ws) ∧ (PyData.eqvAll us ws = false → ∀ p q, lxT (keyToksAll us ++ p) (keyToksAll ws ++ q) = lxT (keyToksAll us) (keyToksAll ws))
  | [], [], _ => ⟨fun _ => rfl, fun e => absurd e (by simp [PyData.eqvAll])⟩
  | [], w :: ws, _ => ⟨fun e => absurd e (by simp [PyData.eqvAll]), fun _ p q => by
      rw [toks_all_cons, keyToksAll]
      exact (lx_one (by simp) _ _).trans (lx_one (by simp) _ _).symm⟩
  | u :: us, [], _ => ⟨fun e => absurd e (by simp [PyData.eqvAll]), fun _ p q => by
      rw [toks_all_cons, keyToksAll]
      exact (lx_one (by simp) _ _).trans (lx_one (by simp) _ _).symm⟩
  | u :: us, w :: ws, c => by
    obtain ⟨c1, c2⟩ := coks_c c
    obtain ⟨a1, a2⟩ := cok_toks u w c1
    rw [eqv_all_cons, toks_all_cons, toks_all_cons]
    cases e0 : PyData.eqv u w with
    | true =>
      obtain ⟨b1, b2⟩ := coks_toks us ws (c2 e0)
      rw [a1 e0, Bool.true_and]
      refine ⟨fun e => by rw [b1 e], fun e p q => ?_⟩
      simp only [List.cons_append, List.append_assoc, lx_same, lx_pre]
      exact b2 e p q
    | false =>
      rw [Bool.false_and]
      refine ⟨fun e => absurd e (by decide), fun _ p q => ?_⟩
      simp only [List.cons_append, List.append_assoc, lx_same]
      exact (a2 e0 _ _).trans (a2 e0 _ _).symm
end
theorem dlt_yes {u w : PyData} {us ws : List PyData} (c : cok u w = true) (e : PyData.eqv u w = true) : lxT (keyToksAll (u :: us)) (keyToksAll (w :: ws)) = lxT (keyToksAll us) (keyToksAll ws) := by
  rw [toks_all_cons, toks_all_cons, (cok_toks u w c).1 e, lx_same, lx_pre]
theorem dlt_no {u w : PyData} {us ws : List PyData} (c : cok u w = true) (e : PyData.eqv u w = false) : lxT (keyToksAll (u :: us)) (keyToksAll (w :: ws)) = dataLt u w := by
  rw [toks_all_cons, toks_all_cons, lx_same]
  exact (cok_toks u w c).2 e _ _
/-! ### < of tuples, only as far as the first place that differs -/
theorem tupLtZ (l b : Addr) (us ws : Array Value) (n m : Nat) (d1 d2 : Option Addr) (z1 z2 : Array (Option Value)) (e r : Nat → Bool) :
    Meets (Builtin.«tuple.__lt__» ⟨[.ref l, .ref b], []⟩)
      (fun A R s => s.heap.get? l = some { cls := .type "tuple", dict := d1, data := .seq us n, slots := z1 } ∧ s.heap.get? b = some { cls := .type "tuple", dict := d2, data := .seq ws m, slots := z2 } ∧
        (∀ j (k1 : j < us.size) (k2 : j < ws.size), EqAt A.in1 s us[j] ws[j] (e j)) ∧ (∀ j (k1 : j < us.size) (k2 : j < ws.size), (∀ i, i < j → e i = true) → e j = false → RcLt A.in1 s us[j] ws[j] (r j)) ∧
        R (.ok (.ret (.bool (firstLt e r (decide (us.size < ws.size)) (List.range (min us.size ws.size)))))) s) :=
  .of_wp fun prog w A R s h => by
    obtain ⟨hp, g, d, tk, os⟩ := s; obtain ⟨hl, hb, he, hr, hQ⟩ := h
    have f2 := AutoSeq1.sub_tuple_tuple
    have zl : (us.toList.zip ws.toList).length = min us.size ws.size := by simp
    wp_walk using AutoSeq1.wpAny_loadPart' hl, AutoSeq1.wpAny_loadPart' hb, wpAny_forIn_list _ (fun rest b s' => b.1 = none ∧ s' = ⟨hp, g, d, tk, os⟩ ∧ ∃ i, rest = (us.toList.zip ws.toList).drop i ∧ (∀ j, j < i → e j = true) ∧
      R (.ok (.ret (.bool (firstLt e r (decide (us.size < ws.size)) ((List.range (min us.size ws.size)).drop i))))) ⟨hp, g, d, tk, os⟩) _
    case turn =>
      rintro ⟨y, x⟩ rest b s' ⟨hb', rfl, i, hz, before, hQ⟩
      have il : i < (us.toList.zip ws.toList).length := by
        rcases Nat.lt_or_ge i (us.toList.zip ws.toList).length with q | q
        · exact q
        · rw [List.drop_of_length_le q] at hz; cases hz
      have im : i < min us.size ws.size := zl ▸ il
      have k1 : i < us.size := Nat.lt_of_lt_of_le im (Nat.min_le_left _ _)
      have k2 : i < ws.size := Nat.lt_of_lt_of_le im (Nat.min_le_right _ _)
      rw [List.drop_eq_getElem_cons il] at hz
      injection hz with e1 e2
      have ey : y = us[i] := by have := congrArg Prod.fst e1; simpa using this
      have ex : x = ws[i] := by have := congrArg Prod.snd e1; simpa using this
      subst ey ex
      have ed : (List.range (min us.size ws.size)).drop i = i :: (List.range (min us.size ws.size)).drop (i + 1) := by simp [List.drop_eq_getElem_cons, im]
      rw [ed] at hQ
      refine wpAny_bind (he i k1 k2 prog w _ _ ?_)
      cases ei : e i with
      | true =>
        rw [firstLt_yes ei] at hQ
        wp_walk
        refine ⟨rfl, rfl, i + 1, e2, fun j jl => ?_, hQ⟩
        rcases Nat.lt_succ_iff_lt_or_eq.mp jl with q | q
        · exact before j q
        · exact q ▸ ei
      | false =>
        rw [firstLt_no ei] at hQ
        have hri := hr i k1 k2 before ei prog w
        wp_walk using hri
        exact ⟨_, rfl, hQ⟩
    case fin =>
      rintro ⟨b1, b2⟩ s' ⟨hb', rfl, i, hz, -, hQ⟩
      simp only at hb'
      subst hb'
      have ge : min us.size ws.size ≤ i := by
        rcases Nat.lt_or_ge i (us.toList.zip ws.toList).length with q | q
        · rw [List.drop_eq_getElem_cons q] at hz; cases hz
        · exact zl ▸ q
      rw [List.drop_of_length_le (by simpa using ge)] at hQ
      wp_walk
      exact ⟨_, rfl, by simpa [Builtin.Tuple.tupleCompareSizes, firstLt] using hQ⟩
    case h =>
      exact ⟨rfl, rfl, 0, rfl, fun j jl => absurd jl (Nat.not_lt_zero j), by simpa using hQ⟩
theorem rcLt_tups {A : Around} {s : Shared} {l b : Addr} {us ws : Array Value} {e r : Nat → Bool} (hl : s.heap.IsTuple l us) (hb : s.heap.IsTuple b ws) (hu : A.units < cLine)
    (he : ∀ j (k1 : j < us.size) (k2 : j < ws.size), EqAt A.in1 s us[j] ws[j] (e j)) (hr : ∀ j (k1 : j < us.size) (k2 : j < ws.size), (∀ i, i < j → e i = true) → e j = false → RcLt A.in1 s us[j] ws[j] (r j)) :
    RcLt A s (.ref l) (.ref b) (firstLt e r (decide (us.size < ws.size)) (List.range (min us.size ws.size))) := fun prog w E Q hQ => by
  obtain ⟨⟨cl1, d1, t1, z1⟩, h1, hc, n, hd⟩ := id hl
  obtain ⟨⟨cl2, d2, t2, z2⟩, h2, hc2, m, hd2⟩ := id hb
  simp only at hc hd hc2 hd2
  subst hc hd hc2 hd2
  refine richCompare_meets_room (op := .Lt) ⟨_, h1, rfl⟩ ⟨_, h2, rfl⟩ F.slot_tuple_lt F.entry_tuple_lt (F.args_tuple_lt_2 _ _) (tupLtZ l b us ws n m d1 d2 z1 z2 e r) ⟨h1, h2, he, hr, ?_⟩ hu
  exact ⟨(fun x => nomatch x), hQ⟩
end Fw

set_option maxRecDepth 100000
set_option maxHeartbeats 4000000
/-! sorted of tuples: the order, the sort's questions -/
namespace Fw
open PySem PySem.Spec PyProof.Rows L2 PySem.W PySem.SeqAt
/-! ### data of numbers, texts and tuples -/
mutual
def pur : PyData → Bool
  | .int _ => true
  | .str _ => true
  | .tuple us => purs us
  | _ => false
def purs : List PyData → Bool
  | [] => true
  | u :: us => pur u && purs us
end
theorem purs_c {u : PyData} {us : List PyData} (h : purs (u :: us) = true) : pur u = true ∧ purs us = true := by rw [purs, Bool.and_eq_true] at h; exact h
mutual
theorem pur_plain : ∀ d : PyData, pur d = true → d.plain = true
  | .int _, _ => rfl
  | .str _, _ => rfl
  | .tuple us, h => by simpa only [PyData.plain] using purs_plain us (by simpa [pur] using h)
  | .none, h => nomatch h
  | .bool _, h => nomatch h
  | .list _, h => nomatch h
  | .dict _, h => nomatch h
theorem purs_plain : ∀ ds : List PyData, purs ds = true → PyData.plainAll ds = true
  | [], _ => rfl
  | d :: ds, h => by rw [PyData.plainAll, pur_plain d (purs_c h).1, purs_plain ds (purs_c h).2]; rfl
end
mutual
/-- such data do not read off a list -/
theorem pur_keep {h h' : Heap} {a : Addr} (k : ∀ b o, b ≠ a → h.get? b = some o → h'.get? b = some o) (na : ∀ o, h.get? a = some o → o.cls ≠ .type "tuple") : ∀ (d : PyData) (v : Value) (as : List Addr), pur d = true → Reads h v d as → Reads h' v d as
  | .int _, _, _, _, r => by cases r; exact .int _ _
  | .str _, _, _, _, r => by cases r; exact .str _ _
  | .tuple us, _, _, p, r => by
    cases r with
    | @tuple b o vs n _ _ h1 h2 h3 h4 => exact .tuple (k _ _ (fun e => na o (e ▸ h1) h2) h1) h2 h3 (purs_keep k na us _ _ (by simpa [pur] using p) h4)
  | .none, _, _, p, _ => nomatch p
  | .bool _, _, _, p, _ => nomatch p
  | .list _, _, _, p, _ => nomatch p
  | .dict _, _, _, p, _ => nomatch p
theorem purs_keep {h h' : Heap} {a : Addr} (k : ∀ b o, b ≠ a → h.get? b = some o → h'.get? b = some o) (na : ∀ o, h.get? a = some o → o.cls ≠ .type "tuple") : ∀ (ds : List PyData) (vs : List Value) (as : List Addr), purs ds = true → ReadsAll h vs ds as → ReadsAll h' vs ds as
  | [], _, _, _, r => by cases r; exact .nil
  | d :: ds, _, _, p, r => by
    cases r with
    | cons r1 r2 => exact .cons (pur_keep k na d _ _ (purs_c p).1 r1) (purs_keep k na ds _ _ (purs_c p).2 r2)
end
section
variable {X : Cx} {pins : List (Addr × Obj)} {σ : L2.St} {H : Hp} {s : Shared}
mutual
theorem dp_one (I : Inv X pins σ H s) : ∀ (d e : PyData) (x : V), pur d = true → pur e = true → Dp X.K H x d → Dp X.K H x e → d = e
  | .int _, e, _, _, q, r, r' => by cases r; cases r'; rfl
  | .str _, e, _, _, q, r, r' => by cases r; cases r'; rfl
  | .tuple us, e, _, p, q, r, r' => by
    cases r with
    | tup h1 h2 =>
      cases r' with
      | lst _ _ => nomatch q
      | @tup _ xs2 ds2 k1 k2 =>
        obtain rfl := I.tuple_inj h1 k1
        rw [dps_one I us ds2 _ (by simpa [pur] using p) (by simpa [pur] using q) h2 k2]
  | .none, _, _, p, _, _, _ => nomatch p
  | .bool _, _, _, p, _, _, _ => nomatch p
  | .list _, _, _, p, _, _, _ => nomatch p
  | .dict _, _, _, p, _, _, _ => nomatch p
theorem dps_one (I : Inv X pins σ H s) : ∀ (ds es : List PyData) (xs : List V), purs ds = true → purs es = true → DpAll X.K H xs ds → DpAll X.K H xs es → ds = es
  | [], es, _, _, _, r, r' => by cases r; cases r'; rfl
  | d :: ds, es, _, p, q, r, r' => by
    cases r with
    | cons r1 r2 =>
      cases r' with
      | @cons _ _ e es k1 k2 => rw [dp_one I d e _ (purs_c p).1 (purs_c q).1 r1 k1, dps_one I ds es _ (purs_c p).2 (purs_c q).2 r2 k2]
end
end
/-! ### insertion -/
section
variable {α β : Type}
def insI (lt : α → α → Bool) (x : α) : List α → List α
  | [] => [x]
  | y :: l => if lt y x = true then y :: insI lt x l else x :: y :: l
def insK (lt : α → α → Bool) (l : List α) : List α := l.foldr (insI lt) []
variable {lt : α → α → Bool}
theorem insI_perm (x : α) : ∀ l : List α, (insI lt x l).Perm (x :: l)
  | [] => .refl _
  | y :: l => by
    unfold insI
    split
    · exact (List.Perm.cons _ (insI_perm x l)).trans (.swap _ _ _)
    · exact .refl _
theorem insK_perm : ∀ l : List α, (insK lt l).Perm l
  | [] => .refl _
  | x :: l => (insI_perm x _).trans (.cons _ (insK_perm l))
theorem insI_srtd (O : SrtO.Swo lt) (x : α) : ∀ {l : List α}, SrtO.Srtd lt l → SrtO.Srtd lt (insI lt x l)
  | [], _ => SrtO.srtd_one x
  | y :: l, h => by
    unfold insI
    split
    · rename_i e
      refine List.pairwise_cons.mpr ⟨fun z hz => ?_, insI_srtd O x (List.pairwise_cons.mp h).2⟩
      rcases List.mem_cons.mp ((insI_perm x l).mem_iff.mp hz) with rfl | hz
      · exact O.asym _ _ e
      · exact SrtO.srtd_head h z hz
    · rename_i e
      have e : lt y x = false := by simpa using e
      refine List.pairwise_cons.mpr ⟨fun z hz => ?_, h⟩
      rcases List.mem_cons.mp hz with rfl | hz
      · exact e
      · exact O.tr _ _ _ e (SrtO.srtd_head h z hz)
theorem insK_srtd (O : SrtO.Swo lt) : ∀ l : List α, SrtO.Srtd lt (insK lt l)
  | [] => List.Pairwise.nil
  | x :: l => insI_srtd O x (insK_srtd O l)
theorem insI_fil (x : α) (p : α → Bool) (hp : ∀ y, lt y x = true → p x = true → p y = true → False) : ∀ l : List α, (insI lt x l).filter p = (x :: l).filter p
  | [] => rfl
  | y :: l => by
    unfold insI
    split
    · rename_i e
      rw [List.filter_cons, insI_fil x p hp l]
      by_cases px : p x = true
      · by_cases py : p y = true
        · exact (hp y e px py).elim
        · simp [List.filter_cons, px, py]
      · simp [List.filter_cons, px]
    · rfl
theorem insK_fil (p : α → Bool) (hp : ∀ x y, lt y x = true → p x = true → p y = true → False) : ∀ l : List α, (insK lt l).filter p = l.filter p
  | [] => rfl
  | x :: l => by
    show (insI lt x (insK lt l)).filter p = _
    rw [insI_fil x p (hp x), List.filter_cons, List.filter_cons, insK_fil p hp l]
theorem insK_stb (O : SrtO.Swo lt) (l : List α) : SrtO.Stb lt (insK lt l) l := by
  refine ⟨insK_perm l, fun z => insK_fil _ (fun x y e px py => ?_) l⟩
  have a : lt z x = false ∧ lt x z = false := by simpa [SrtO.eqv] using px
  have b : lt z y = false ∧ lt y z = false := by simpa [SrtO.eqv] using py
  have := O.tr _ _ _ a.1 b.2
  rw [e] at this; cases this
theorem insI_rel {lt' : β → β → Bool} {R : α → β → Prop} (hR : ∀ x y x' y', R x x' → R y y' → lt x y = lt' x' y') {x : α} {x' : β} (r : R x x') : ∀ {l : List α} {l' : List β}, Paired R l l' → Paired R (insI lt x l) (insI lt' x' l')
  | [], [], .nil => .cons r .nil
  | y :: l, y' :: l', .cons r2 t => by
    unfold insI
    rw [hR _ _ _ _ r2 r]
    split
    · exact .cons r2 (insI_rel hR r t)
    · exact .cons r (.cons r2 t)
theorem insK_rel {lt' : β → β → Bool} {R : α → β → Prop} (hR : ∀ x y x' y', R x x' → R y y' → lt x y = lt' x' y') : ∀ {l : List α} {l' : List β}, Paired R l l' → Paired R (insK lt l) (insK lt' l')
  | [], [], .nil => .nil
  | x :: l, x' :: l', .cons r t => insI_rel hR r (insK_rel hR t)
end
/-- as the data say -/
abbrev ltP {α : Type} (p q : α × PyData) : Bool := dataLt p.2 q.2
theorem swo_data {α : Type} (k : α → PyData) : SrtO.Swo fun x y => dataLt (k x) (k y) := by
  refine ⟨fun x y h => ?_, fun x y z h1 h2 => ?_⟩
  · rcases e : dataLt (k y) (k x) with _ | _
    · rfl
    · have := lex_trans (O := itemOrd) _ _ _ h e
      rw [lex_irrefl] at this; cases this
  · rcases e : dataLt (k z) (k x) with _ | _
    · rfl
    · rcases lex_negTrans (O := itemOrd) (keyToks (k z)) (keyToks (k y)) (keyToks (k x)) e with q | q
      · rw [show dataLt (k z) (k y) = true from q] at h2; cases h2
      · rw [show dataLt (k y) (k x) = true from q] at h1; cases h1
/-! ### < of such data -/
theorem coks_at : ∀ (us ws : List PyData), coks us ws = true → ∀ j, j < us.length → j < ws.length → (∀ i, i < j → pairEq us ws i = true) → cok (us.getD j .none) (ws.getD j .none) = true
  | [], _, _, j, h1, _, _ => absurd h1 (Nat.not_lt_zero _)
  | _ :: _, [], _, j, _, h2, _ => absurd h2 (Nat.not_lt_zero _)
  | u :: us, w :: ws, c, 0, _, _, _ => (coks_c c).1
  | u :: us, w :: ws, c, j + 1, h1, h2, b => coks_at us ws ((coks_c c).2 (b 0 (Nat.succ_pos j))) j (Nat.lt_of_succ_lt_succ h1) (Nat.lt_of_succ_lt_succ h2) fun i hi => b (i + 1) (Nat.succ_lt_succ hi)
theorem first_toks : ∀ (us ws : List PyData), coks us ws = true →
    firstLt (pairEq us ws) (fun j => dataLt (us.getD j .none) (ws.getD j .none)) (decide (us.length < ws.length)) (List.range (min us.length ws.length)) = lxT (keyToksAll us) (keyToksAll ws)
  | [], [], _ => by simp [firstLt, keyToksAll, lex_irrefl]
  | [], w :: ws, _ => by
    rw [toks_all_cons, keyToksAll]
    show _ = PyProof.Rows.lexLt itemOrd _ _
    rw [lex_diff (O := itemOrd) (by simp)]
    simp [firstLt, itemLt]
  | u :: us, [], _ => by
    rw [toks_all_cons, keyToksAll]
    show _ = PyProof.Rows.lexLt itemOrd _ _
    rw [lex_diff (O := itemOrd) (by simp)]
    simp [firstLt, itemLt]
  | u :: us, w :: ws, c => by
    obtain ⟨c1, c2⟩ := coks_c c
    have em : min (u :: us).length (w :: ws).length = min us.length ws.length + 1 := by simp only [List.length_cons]; omega
    have ed : decide ((u :: us).length < (w :: ws).length) = decide (us.length < ws.length) := by simp
    rw [em, ed, List.range_succ_eq_map]
    cases e : PyData.eqv u w with
    | true =>
      rw [firstLt_yes (show pairEq (u :: us) (w :: ws) 0 = true from e), firstLt_map, dlt_yes c1 e, ← first_toks us ws (c2 e)]
      rfl
    | false =>
      rw [firstLt_no (show pairEq (u :: us) (w :: ws) 0 = false from e), dlt_no c1 e]
      rfl
mutual
theorem rcLt_cok : ∀ (d e : PyData) (A : Around) (s : Shared) (a b : Value) (as bs : List Addr), Reads s.heap a d as → Reads s.heap b e bs → pur d = true → pur e = true → cok d e = true → A.units + min d.depth e.depth < cLine → RcLt A s a b (dataLt d e)
  | .int i, e, A, s, a, b, as, bs, ra, rb, p, q, c, hu => by
    cases e with
    | int j =>
      cases ra; cases rb
      intro prog w E Q h
      rw [dataLt_int] at h
      exact P.lt_int h
    | _ => exact absurd c (by simp [cok])
  | .str x, e, A, s, a, b, as, bs, ra, rb, p, q, c, hu => by
    cases e with
    | str y =>
      cases ra; cases rb
      intro prog w E Q h
      rw [dataLt_str] at h
      exact P.lt_str h
    | _ => exact absurd c (by simp [cok])
  | .tuple us, e, A, s, a, b, as, bs, ra, rb, p, q, c, hu => by
    cases e with
    | tuple ws =>
      have c' : coks us ws = true := by simpa [cok] using c
      have p' : purs us = true := by simpa [pur] using p
      have q' : purs ws = true := by simpa [pur] using q
      cases ra with
      | @tuple l o vs n _ as₁ h1 h2 h3 h4 =>
        cases rb with
        | @tuple l' o' vs' n' _ bs₁ k1 k2 k3 k4 =>
          have n1 : vs.size = us.length := by simpa using ReadsAll.length _ _ _ h4
          have n2 : vs'.size = ws.length := by simpa using ReadsAll.length _ _ _ k4
          rw [dataLt_tuple, show PyProof.Rows.lexLt itemOrd (keyToksAll us) (keyToksAll ws) = _ from (first_toks us ws c').symm, ← n1, ← n2]
          refine rcLt_tups ⟨_, h1, h2, _, h3⟩ ⟨_, k1, k2, _, k3⟩ (room_here hu) (fun j j1 j2 => ?_) fun j j1 j2 bf hj => ?_
          · have := eqAt_plainAll us ws A.in1 s vs.toList vs'.toList _ _ h4 k4 (purs_plain us p') (purs_plain ws q') (room_in hu) j (by simpa using j1) (by simpa using j2)
            simpa using this
          · have := rcLt_coks us ws A.in1 s vs.toList vs'.toList _ _ h4 k4 p' q' (room_in hu) j (by simpa using j1) (by simpa using j2) (coks_at us ws c' j (by omega) (by omega) bf)
            simpa using this
    | _ => exact absurd c (by simp [cok])
  | .none, _, _, _, _, _, _, _, _, _, p, _, _, _ => nomatch p
  | .bool _, _, _, _, _, _, _, _, _, _, p, _, _, _ => nomatch p
  | .list _, _, _, _, _, _, _, _, _, _, p, _, _, _ => nomatch p
  | .dict _, _, _, _, _, _, _, _, _, _, p, _, _, _ => nomatch p
theorem rcLt_coks : ∀ (us ws : List PyData) (A : Around) (s : Shared) (vs zs : List Value) (as bs : List Addr), ReadsAll s.heap vs us as → ReadsAll s.heap zs ws bs → purs us = true → purs ws = true →
    A.units + min (PyData.depthAll us) (PyData.depthAll ws) < cLine → ∀ j (h1 : j < vs.length) (h2 : j < zs.length), cok (us.getD j .none) (ws.getD j .none) = true → RcLt A s vs[j] zs[j] (dataLt (us.getD j .none) (ws.getD j .none))
  | [], _, _, _, _, _, _, _, ra, _, _, _, _, j, h1, _, _ => by cases ra; exact absurd h1 (Nat.not_lt_zero _)
  | _ :: _, [], _, _, _, _, _, _, _, rb, _, _, _, j, _, h2, _ => by cases rb; exact absurd h2 (Nat.not_lt_zero _)
  | u :: us, w :: ws, A, s, _, _, _, _, ra, rb, p, q, hu, j, h1, h2, c => by
    cases ra with
    | cons r rs =>
      cases rb with
      | cons r' rs' =>
        cases j with
        | zero => exact rcLt_cok u w A s _ _ _ _ r r' (purs_c p).1 (purs_c q).1 c (room_head hu)
        | succ j => exact rcLt_coks us ws A s _ _ _ _ rs rs' (purs_c p).2 (purs_c q).2 (room_tail hu) j (Nat.lt_of_succ_lt_succ h1) (Nat.lt_of_succ_lt_succ h2) c
end
end Fw

set_option maxRecDepth 100000
set_option maxHeartbeats 4000000
/-! sorted of tuples: the rule -/
namespace Fw
open PySem PySem.Spec PyProof.Rows L2 PySem.W PySem.SeqAt
section
variable {prog : Program} {w : World} {A : Around} {s : Shared} {b : Bool} {Q : Bool → Shared → Prop}
def strs2 : List PyData → List PyData → Bool
  | .str _ :: _, .str _ :: _ => true
  | _, _ => false
theorem kat_d : ∀ (us ws : List PyData) (vs zs : List Value) (as bs : List Addr) (i : Nat) (fin : Bool), ReadsAll s.heap vs us as → ReadsAll s.heap zs ws bs → purs us = true → purs ws = true → coks us ws = true →
    A.units + min (PyData.depthAll us) (PyData.depthAll ws) < cLine → fin = decide (us.length < ws.length) → ((b && i == 0) = true → us = [] ∨ ws = [] ∨ strs2 us ws = true) → Q (lxT (keyToksAll us) (keyToksAll ws)) s → KatLex prog w A b fin Q (vs.zip zs) i s
  | [], [], _, _, _, _, i, _, ra, rb, _, _, _, _, rfl, _, h => by
    cases ra; cases rb
    refine kat_nil ?_
    rw [show lxT (keyToksAll []) (keyToksAll []) = false from lex_irrefl _] at h
    simpa using h
  | [], w :: ws, _, _, _, _, i, _, ra, rb, _, _, _, _, rfl, _, h => by
    cases ra
    refine kat_nil ?_
    have e := first_toks [] (w :: ws) rfl
    simp [firstLt] at e
    rw [e] at h
    simpa using h
  | u :: us, [], _, _, _, _, i, _, ra, rb, _, _, _, _, rfl, _, h => by
    cases rb
    rw [List.zip_nil_right]
    refine kat_nil ?_
    have e := first_toks (u :: us) [] rfl
    simp [firstLt] at e
    rw [e] at h
    simpa using h
  | u :: us, w :: ws, _, _, _, _, i, _, ra, rb, p, q, c, hu, rfl, fl, h => by
    obtain ⟨c1, c2⟩ := coks_c c
    cases ra with
    | cons r rs =>
      cases rb with
      | cons r' rs' =>
        rw [List.zip_cons_cons]
        refine kat_cons (eqAt_plain u w A s _ _ _ _ r r' (pur_plain u (purs_c p).1) (pur_plain w (purs_c q).1) (room_head hu) prog _ _ _ ?_)
        refine kat_go (fun e => ?_) (fun e => ?_)
        · refine kat_yes (kat_d us ws _ _ _ _ (i + 1) _ rs rs' (purs_c p).2 (purs_c q).2 (c2 e) (room_tail hu) (by simp) (fun z => ?_) ?_)
          · simp at z
          · rw [← dlt_yes c1 e]; exact h
        · rw [dlt_no c1 e] at h
          refine kat_no ?_
          cases ef : (b && i == 0) with
          | true =>
            have z : strs2 (u :: us) (w :: ws) = true := by simpa using fl ef
            cases u with
            | str x =>
              cases w with
              | str y =>
                cases r; cases r'
                rw [dataLt_str] at h
                exact oneLt_str h
              | _ => simp [strs2] at z
            | _ => simp [strs2] at z
          | false => exact kat_one _ _ (rcLt_cok u w A s _ _ _ _ r r' (purs_c p).1 (purs_c q).1 c1 (room_head hu) prog _ _ (W.BoolBack Q) h)
/-- which of two kinds stands first in a tuple -/
def headK : PyData → Option Bool
  | .tuple (.str _ :: _) => some true
  | .tuple (.tuple _ :: _) => some false
  | _ => none
theorem headK_t {d : PyData} (h : headK d = some true) : ∃ x r, d = .tuple (.str x :: r) := by
  unfold headK at h
  split at h <;> first | exact ⟨_, _, rfl⟩ | cases h
theorem headK_f {d : PyData} (h : headK d = some false) : ∃ x r, d = .tuple (.tuple x :: r) := by
  unfold headK at h
  split at h <;> first | exact ⟨_, _, rfl⟩ | cases h
theorem first_at {h : Heap} {v : Value} {u : PyData} {us : List PyData} {as : List Addr} (r : Reads h v (.tuple (u :: us)) as) : ∃ a o xs n f as', v = .ref a ∧ h.get? a = some o ∧ o.cls = .type "tuple" ∧ o.data = .seq xs n ∧ xs[0]? = some f ∧ Reads h f u as' := by
  cases r with
  | @tuple a o vs n _ _ h1 h2 h3 h4 =>
    cases e : vs.toList with
    | nil => rw [e] at h4; cases h4
    | cons f fr =>
      rw [e] at h4
      cases h4 with
      | cons r1 r2 => exact ⟨a, o, vs, n, f, _, rfl, h1, h2, h3, by rw [← Array.getElem?_toList, e]; rfl, r1⟩
theorem firsts_t {h : Heap} {kv : Value → PyData} : ∀ {vs : List Value}, (∀ v ∈ vs, ∃ as, Reads h v (kv v) as) → (∀ v ∈ vs, headK (kv v) = some true) → ∃ fs, KatTups h vs fs ∧ fs.length = vs.length ∧ ∀ f ∈ fs, ∃ x t, f = Value.str x t
  | [], _, _ => ⟨[], .nil, rfl, by simp⟩
  | v :: vs, hr, hh => by
    obtain ⟨fs, k1, k2, k3⟩ := firsts_t (vs := vs) (fun u m => hr u (List.mem_cons_of_mem _ m)) (fun u m => hh u (List.mem_cons_of_mem _ m))
    obtain ⟨as, r⟩ := hr v List.mem_cons_self
    obtain ⟨x, l, e⟩ := headK_t (hh v List.mem_cons_self)
    rw [e] at r
    obtain ⟨a, o, xs, n, f, as', rfl, ho, hc, hd, hf, rf⟩ := first_at r
    cases rf
    refine ⟨_ :: fs, KatTups.cons ho hc hd hf k1, by simp [k2], fun f hf => ?_⟩
    rcases List.mem_cons.mp hf with rfl | hf
    · exact ⟨_, _, rfl⟩
    · exact k3 f hf
theorem firsts_f {h : Heap} {kv : Value → PyData} : ∀ {vs : List Value}, (∀ v ∈ vs, ∃ as, Reads h v (kv v) as) → (∀ v ∈ vs, headK (kv v) = some false) → ∃ fs, KatTups h vs fs ∧ fs.length = vs.length ∧ ∀ f ∈ fs, ∃ a o, f = Value.ref a ∧ h.get? a = some o ∧ o.cls = .type "tuple"
  | [], _, _ => ⟨[], .nil, rfl, by simp⟩
  | v :: vs, hr, hh => by
    obtain ⟨fs, k1, k2, k3⟩ := firsts_f (vs := vs) (fun u m => hr u (List.mem_cons_of_mem _ m)) (fun u m => hh u (List.mem_cons_of_mem _ m))
    obtain ⟨as, r⟩ := hr v List.mem_cons_self
    obtain ⟨x, l, e⟩ := headK_f (hh v List.mem_cons_self)
    rw [e] at r
    obtain ⟨a, o, xs, n, f, as', rfl, ho, hc, hd, hf, rf⟩ := first_at r
    cases rf with
    | tuple q1 q2 q3 q4 =>
      refine ⟨_ :: fs, KatTups.cons ho hc hd hf k1, by simp [k2], fun f hf => ?_⟩
      rcases List.mem_cons.mp hf with rfl | hf
      · exact ⟨_, _, rfl, q1, q2⟩
      · exact k3 f hf
theorem sortableD {a : Addr} {vs : List Value} {kv : Value → PyData} (h0 : 0 < vs.length) (hr : ∀ v ∈ vs, ∃ as, Reads s.heap v (kv v) as) (hp : ∀ v ∈ vs, pur (kv v) = true) (hc : ∀ v ∈ vs, ∀ u ∈ vs, cok (kv v) (kv u) = true)
    (hh : (∀ v ∈ vs, headK (kv v) = some true) ∨ (∀ v ∈ vs, headK (kv v) = some false)) (hd : ∀ v ∈ vs, A.units + (kv v).depth < cLine) (na : ∀ o, s.heap.get? a = some o → o.cls ≠ .type "tuple") : SrtO.SortableO prog w A s a vs fun v u => dataLt (kv v) (kv u) := by
  intro h' keep
  have hr' : ∀ v ∈ vs, ∃ as, Reads h' v (kv v) as := fun v m => by
    obtain ⟨as, r⟩ := hr v m
    exact ⟨as, pur_keep keep na _ _ _ (hp v m) r⟩
  have cmp : ∀ b : Bool, (b = true → ∀ v ∈ vs, headK (kv v) = some true) → ((∀ v ∈ vs, headK (kv v) = some true) ∨ (∀ v ∈ vs, headK (kv v) = some false)) → SrtO.Cmp prog w A { s with heap := h' } (tuples' b) (fun p => p.1 ∈ vs) (SrtO.lt2 fun v u => dataLt (kv v) (kv u)) := by
    intro b hb hh p q hm hm'
    show wpAny (model prog w) A (keyLt' (tuples' b) p.1 q.1) (fun r s' => s' = { s with heap := h' } ∧ r = dataLt (kv p.1) (kv q.1)) (fun _ _ => False) { s with heap := h' }
    obtain ⟨as, r1⟩ := hr' _ hm
    obtain ⟨bs, r2⟩ := hr' _ hm'
    have c := hc _ hm _ hm'
    have p1 := hp _ hm
    have p2 := hp _ hm'
    have d1 := hd _ hm
    have b1 : b = true → headK (kv p.1) = some true := fun z => hb z _ hm
    have b2 : b = true → headK (kv q.1) = some true := fun z => hb z _ hm'
    obtain ⟨us, e1⟩ : ∃ us, kv p.1 = .tuple us := by
      rcases hh with z | z
      · obtain ⟨x, r, e⟩ := headK_t (z _ hm); exact ⟨_, e⟩
      · obtain ⟨x, r, e⟩ := headK_f (z _ hm); exact ⟨_, e⟩
    obtain ⟨ws, e2⟩ : ∃ ws, kv q.1 = .tuple ws := by
      rcases hh with z | z
      · obtain ⟨x, r, e⟩ := headK_t (z _ hm'); exact ⟨_, e⟩
      · obtain ⟨x, r, e⟩ := headK_f (z _ hm'); exact ⟨_, e⟩
    rw [e1] at r1 c p1 d1 b1 ⊢
    rw [e2] at r2 c p2 b2 ⊢
    generalize p.1 = v at r1 ⊢
    generalize q.1 = u at r2 ⊢
    cases r1 with
    | @tuple l o vs1 n _ _ h1 h2 h3 h4 =>
      cases r2 with
      | @tuple l' o' vs2 n' _ _ k1 k2 k3 k4 =>
        refine kat_lt h1 h3 k1 k3 ?_
        have n1 : vs1.size = us.length := by simpa using ReadsAll.length _ _ _ h4
        have n2 : vs2.size = ws.length := by simpa using ReadsAll.length _ _ _ k4
        have d1' : A.units + (PyData.depthAll us + 1) < cLine := d1
        refine kat_d us ws _ _ _ _ 0 _ h4 k4 (by simpa [pur] using p1) (by simpa [pur] using p2) (by simpa [cok] using c) (by have := Nat.min_le_left (PyData.depthAll us) (PyData.depthAll ws); omega) (by rw [n1, n2]) (fun z => ?_) ⟨rfl, (dataLt_tuple us ws).symm⟩
        have bt : b = true := by simpa using z
        obtain ⟨x, r, e⟩ := headK_t (b1 bt)
        obtain ⟨x2, r2, e'⟩ := headK_t (b2 bt)
        cases e; cases e'
        exact .inr (.inr rfl)
  rcases hh with hh | hh
  · refine ⟨tuples' true, fun Q E hq => ?_, cmp true (fun _ => hh) (.inl hh)⟩
    obtain ⟨fs, k1, k2, k3⟩ := firsts_t hr' hh
    refine kat_kind (T := .type "str") k1 (by omega) (fun f hm => ?_) (by rfl) ?_
    · obtain ⟨x, t, rfl⟩ := k3 f hm
      exact Looks.now
    · have e : (Value.type "str" != Value.type "tuple") = true := by first | decide +kernel | rfl | decide
      rw [e]; exact hq
  · refine ⟨tuples' false, fun Q E hq => ?_, cmp false (fun z => by cases z) (.inr hh)⟩
    obtain ⟨fs, k1, k2, k3⟩ := firsts_f hr' hh
    refine kat_kind (T := .type "tuple") k1 (by omega) (fun f hm => ?_) (by rfl) ?_
    · obtain ⟨x, o, rfl, ho, hc⟩ := k3 f hm
      have z : Looks (model prog w) h' (typeOf (.ref x)) o.cls := (Looks.ld ho).andThen .now
      rw [hc] at z
      exact z
    · have e : (Value.type "tuple" != Value.type "tuple") = false := by first | decide +kernel | rfl | simp
      rw [e]; exact hq
end
/-- what can be sorted here -/
def sok (ds : List PyData) : Bool := purs ds && ds.all (fun d => ds.all fun e => cok d e) && (ds.all (fun d => headK d == some true) || ds.all (fun d => headK d == some false)) && ds.all (fun d => decide (d.depth ≤ 8))
structure Sok (ds : List PyData) : Prop where
  p : ∀ d ∈ ds, pur d = true
  c : ∀ d ∈ ds, ∀ e ∈ ds, cok d e = true
  h : (∀ d ∈ ds, headK d = some true) ∨ (∀ d ∈ ds, headK d = some false)
  d : ∀ d ∈ ds, d.depth ≤ 8
theorem purs_mem : ∀ {ds : List PyData}, purs ds = true → ∀ d ∈ ds, pur d = true
  | [], _, d, m => by cases m
  | e :: ds, h, d, m => by
    rcases List.mem_cons.mp m with rfl | m
    · exact (purs_c h).1
    · exact purs_mem (purs_c h).2 d m
theorem sok_of {ds : List PyData} (h : sok ds = true) : Sok ds := by
  unfold sok at h
  simp only [Bool.and_eq_true, Bool.or_eq_true, List.all_eq_true, beq_iff_eq, decide_eq_true_eq] at h
  exact ⟨purs_mem h.1.1.1, h.1.1.2, h.1.2, h.2⟩
def rSortT (K : PySem.W.Frag) : List V → Hp → VK → Prop := fun vs H Q => ∃ (a : Addr) (xs : List V) (ds : List PyData), vs = [V.ref a] ∧ SqL K H a xs ∧ DpAll K H xs ds ∧ sok ds = true ∧
  ∀ p, H p = none → Q (.ref p) (upd H p (.lst ((insK ltP (xs.zip ds)).map (·.1))))
/-- the key of a value, found in the heap -/
noncomputable def keyV (K : PySem.W.Frag) (H : Hp) (x : V) : PyData := open Classical in if h : ∃ d, pur d = true ∧ Dp K H x d then Classical.choose h else .none
section
variable {X : Cx} {pins : List (Addr × Obj)} {σ : L2.St} {H : Hp} {s : Shared}
theorem keyV_of (I : Inv X pins σ H s) {x : V} {d : PyData} (p : pur d = true) (r : Dp X.K H x d) : keyV X.K H x = d := by
  unfold keyV
  have h : ∃ d, pur d = true ∧ Dp X.K H x d := ⟨d, p, r⟩
  rw [dif_pos h]
  obtain ⟨q1, q2⟩ := Classical.choose_spec h
  exact dp_one I _ _ _ q1 p q2 r
theorem dps_paired : ∀ {xs : List V} {ds : List PyData}, DpAll X.K H xs ds → Paired (fun x d => Dp X.K H x d ∧ d ∈ ds) xs ds
  | _, _, .nil => .nil
  | _, _, .cons r t => .cons ⟨r, List.mem_cons_self⟩ (Paired.mapP (dps_paired t) fun _ _ z => ⟨z.1, List.mem_cons_of_mem _ z.2⟩)
theorem paired_zip {α : Type} {k : α → PyData} : ∀ {xs : List α} {ds : List PyData}, Paired (fun x d => k x = d) xs ds → Paired (fun (x : α) (z : α × PyData) => z.1 = x ∧ z.2 = k x) xs (xs.zip ds)
  | _, _, .nil => .nil
  | _, _, .cons r t => .cons ⟨rfl, r.symm⟩ (paired_zip t)
theorem paired_fst {α : Type} {k : α → PyData} : ∀ {us : List α} {ws : List (α × PyData)}, Paired (fun (x : α) (z : α × PyData) => z.1 = x ∧ z.2 = k x) us ws → us = ws.map (·.1)
  | _, _, .nil => rfl
  | _, _, .cons r t => by rw [List.map_cons, r.1, ← paired_fst t]
/-- by the keys of the values, or by the data beside them: the same -/
theorem insK_zip {α : Type} {k : α → PyData} : ∀ {xs : List α} {ds : List PyData}, Paired (fun x d => k x = d) xs ds → insK (fun x y => dataLt (k x) (k y)) xs = (insK ltP (xs.zip ds)).map (·.1) := by
  intro xs ds r
  exact paired_fst (insK_rel (fun x y x' y' r1 r2 => by show _ = dataLt x'.2 y'.2; rw [r1.2, r2.2]) (paired_zip r))
theorem paired_mem {α β : Type} {R : α → β → Prop} : ∀ {xs : List α} {ys : List β}, Paired R xs ys → ∀ x ∈ xs, ∃ y ∈ ys, R x y
  | _, _, .nil, x, m => by cases m
  | _, _, .cons r t, x, m => by
    rcases List.mem_cons.mp m with rfl | m
    · exact ⟨_, List.mem_cons_self, r⟩
    · obtain ⟨y, hy, q⟩ := paired_mem t x m
      exact ⟨y, List.mem_cons_of_mem _ hy, q⟩
theorem cr_sortedTD (hu : X.A.units + 65 < cLine) : CallR X (.builtin "sorted") (rSortT X.K) := by
  intro pins s σ H vs us Q I r h
  obtain ⟨a, xs, ds, rfl, hs, hd, ok, q⟩ := h
  have S := sok_of ok
  obtain ⟨its, rv, hl, hz⟩ := I.list hs
  obtain ⟨u, rfl, ru⟩ := vals1 r
  obtain rfl : u = Value.ref a := ru
  have pd := dps_paired hd
  have kd : ∀ x ∈ xs, ∃ d ∈ ds, Dp X.K H x d ∧ keyV X.K H x = d := fun x m => by
    obtain ⟨d, hm, r, -⟩ := paired_mem pd x m
    exact ⟨d, hm, r, keyV_of I (S.p d hm) r⟩
  obtain ⟨e1, e2⟩ := refs_back rv fun x m => by
    obtain ⟨d, hm, r, -⟩ := kd x m
    have : ∃ us, d = .tuple us := by
      rcases S.h with z | z
      · obtain ⟨x, l, e⟩ := headK_t (z d hm); exact ⟨_, e⟩
      · obtain ⟨x, l, e⟩ := headK_f (z d hm); exact ⟨_, e⟩
    obtain ⟨us, rfl⟩ := this
    cases r with
    | tup _ _ => exact ⟨_, rfl⟩
  have kv : ∀ v ∈ its, ∃ d ∈ ds, keyV X.K H (backV v) = d ∧ ∃ as, Reads s.heap v d as := fun v hv => by
    obtain ⟨t, rfl⟩ := e2 v hv
    have hm : V.ref t ∈ xs := by rw [e1]; exact List.mem_map.mpr ⟨_, hv, rfl⟩
    obtain ⟨d, hm, r, e⟩ := kd _ hm
    exact ⟨d, hm, e, Dp.reads I d _ _ r rfl⟩
  refine SrtO.sorted_ord (swo_data fun u => keyV X.K H (backV u)) hl.isList (by rw [← rv.length]; exact hz) (fun h2 h₁ a' ha kk => ?_) fun out hs hb => ?_
  · refine sortableD (s := { s with heap := h₁ }) (by omega) (fun v hv => ?_) (fun v hv => ?_) (fun v hv u hu => ?_) ?_ (fun v hv => ?_) fun o e => ?_
    · obtain ⟨d, hm, e, as, r⟩ := kv v hv
      rw [e]
      exact ⟨as, pur_keep (a := a') (fun b o _ q => (kk b o q).2) (fun o q => ((kk a' o q).1 rfl).elim) d v as (S.p d hm) r⟩
    · obtain ⟨d, hm, e, -⟩ := kv v hv
      rw [e]; exact S.p d hm
    · obtain ⟨d, hm, e, -⟩ := kv v hv
      obtain ⟨d', hm', e', -⟩ := kv u hu
      rw [e, e']; exact S.c d hm d' hm'
    · rcases S.h with z | z
      · refine .inl fun v hv => ?_
        obtain ⟨d, hm, e, -⟩ := kv v hv
        rw [e]; exact z d hm
      · refine .inr fun v hv => ?_
        obtain ⟨d, hm, e, -⟩ := kv v hv
        rw [e]; exact z d hm
    · obtain ⟨d, hm, e, -⟩ := kv v hv
      rw [e]
      have := S.d d hm
      show X.A.units + 1 + 1 + d.depth < cLine
      omega
    · have e' : some o = some (seqObj "list" its.toArray 0) := e.symm.trans ha
      cases e'
      intro c
      exact absurd (Value.type.inj c) (by decide)
  · have h3 : ∀ u ∈ out, ∃ a, u = Value.ref a := fun u hu => e2 u (hb.perm.mem_iff.mp hu)
    obtain ⟨ep, he'⟩ := PyProof.Rows.sortedAll_at s.heap its out.toArray
    have O := swo_data (keyV X.K H)
    have hb2 : SrtO.Stb (fun x y => dataLt (keyV X.K H x) (keyV X.K H y)) (out.map backV) xs := by
      rw [e1]
      exact SrtO.Stb.map O backV hb
    have eo : out.map backV = (insK ltP (xs.zip ds)).map (·.1) := by
      rw [← insK_zip (k := keyV X.K H) (Paired.mapP pd fun x d z => keyV_of I (S.p d z.2) z.1)]
      refine SrtO.stb_uniq O (SrtO.srtd_map (lt := fun x y => dataLt (keyV X.K H x) (keyV X.K H y)) hs) (insK_srtd O xs) (hb2.trans ?_)
      have t := insK_stb O xs
      exact ⟨t.perm.symm, fun x => (t.cls x).symm⟩
    have q' := q (s.heap.objs.size + 1) (I.hok.fresh (Nat.le_succ _))
    rw [← eo] at q'
    refine ⟨.ref _, upd H (s.heap.objs.size + 1) (.lst (out.map backV)), I.laid (t' := s.toks) (fun _ _ => PyProof.Rows.sortedAll_old) (Nat.le_succ _) ⟨?_, out, ep, vals_back h3, he'⟩, rfl, q'⟩
    rw [hb2.len]
    exact hz
end
end Fw

set_option maxRecDepth 100000
set_option maxHeartbeats 4000000
/-! sorted of dicts with tuples as keys, of their views -/
namespace Fw
open PySem PySem.Spec PyProof.Rows L2 PySem.W PySem.SeqAt
section
variable {X : Cx} {pins : List (Addr × Obj)} {σ : L2.St} {H H2 : Hp} {s : Shared}
/-- a list just laid is sorted -/
theorem sort_call (hu : X.A.units + 65 < cLine) {h' : Heap} {tk : Nat} {acc : List Value} {xs : List V} {ds : List PyData} (J : Inv X pins σ H2 { s with heap := h', toks := tk }) (rv : Vals xs acc) (hd : DpAll X.K H2 xs ds) (ok : sok ds = true) (hz : xs.length ≤ sizeLine) {Q : VK} {E : Value → Shared → Prop}
    (q : ∀ p, H2 p = none → Q (.ref p) (upd H2 p (.lst ((insK ltP (xs.zip ds)).map (·.1))))) :
    wpAny (model X.prog X.w) X.A.in1 (call (.builtin "list.sort") [.ref h'.objs.size]) (fun _ s' => EP X pins σ Q (.ref h'.objs.size) s') E { s with heap := h'.push (seqObj "list" acc.toArray 0), toks := tk } := by
  have S := sok_of ok
  have pd := dps_paired hd
  have kd : ∀ x ∈ xs, ∃ d ∈ ds, Dp X.K H2 x d ∧ keyV X.K H2 x = d := fun x m => by
    obtain ⟨d, hm, r, -⟩ := paired_mem pd x m
    exact ⟨d, hm, r, keyV_of J (S.p d hm) r⟩
  obtain ⟨e1, e2⟩ := refs_back rv fun x m => by
    obtain ⟨d, hm, r, -⟩ := kd x m
    have : ∃ us, d = .tuple us := by
      rcases S.h with z | z
      · obtain ⟨x, l, e⟩ := headK_t (z d hm); exact ⟨_, e⟩
      · obtain ⟨x, l, e⟩ := headK_f (z d hm); exact ⟨_, e⟩
    obtain ⟨us, rfl⟩ := this
    cases r with
    | tup _ _ => exact ⟨_, rfl⟩
  have kv : ∀ v ∈ acc, ∃ d ∈ ds, keyV X.K H2 (backV v) = d ∧ ∃ as, Reads h' v d as := fun v hv => by
    obtain ⟨t, rfl⟩ := e2 v hv
    have hm : V.ref t ∈ xs := by rw [e1]; exact List.mem_map.mpr ⟨_, hv, rfl⟩
    obtain ⟨d, hm, r, e⟩ := kd _ hm
    exact ⟨d, hm, e, Dp.reads J d _ _ r rfl⟩
  have ho : (h'.push (seqObj "list" acc.toArray 0)).get? h'.objs.size = some (seqObj "list" acc.toArray 0) := Heap.get?_push_size _ rfl
  have old : ∀ b o, h'.get? b = some o → (h'.push (seqObj "list" acc.toArray 0)).get? b = some o := fun b o e => Heap.get?_push_of_some _ e
  have O := swo_data (keyV X.K H2)
  refine wpAny_call_entry (s := { s with heap := h'.push (seqObj "list" acc.toArray 0), toks := tk }) PyProof.Rows.slot_list_sort ⟨_, ho, rfl⟩ PyProof.Rows.entry_list_sort
    (SrtO.list_sort_ord (s := { s with heap := h'.push (seqObj "list" acc.toArray 0), toks := tk }) (swo_data fun u => keyV X.K H2 (backV u)) ho (by rw [← rv.length]; exact hz) (fun h2 => ?_) fun out hs hb => ⟨.none, rfl, ?_⟩) (PyProof.Rows.args_list_sort _)
  · refine sortableD (s := { s with heap := h'.push (seqObj "list" acc.toArray 0), toks := tk }) (by omega) (fun v hv => ?_) (fun v hv => ?_) (fun v hv u hu => ?_) ?_ (fun v hv => ?_) fun o e => ?_
    · obtain ⟨d, hm, e, as, r⟩ := kv v hv
      rw [e]
      exact ⟨as, pur_keep (a := h'.objs.size) (fun b o _ q => old b o q) (fun o q => ((Nat.lt_irrefl _ (Heap.lt_size q))).elim) d v as (S.p d hm) r⟩
    · obtain ⟨d, hm, e, -⟩ := kv v hv
      rw [e]; exact S.p d hm
    · obtain ⟨d, hm, e, -⟩ := kv v hv
      obtain ⟨d', hm', e', -⟩ := kv u hu
      rw [e, e']; exact S.c d hm d' hm'
    · rcases S.h with z | z
      · refine .inl fun v hv => ?_
        obtain ⟨d, hm, e, -⟩ := kv v hv
        rw [e]; exact z d hm
      · refine .inr fun v hv => ?_
        obtain ⟨d, hm, e, -⟩ := kv v hv
        rw [e]; exact z d hm
    · obtain ⟨d, hm, e, -⟩ := kv v hv
      rw [e]
      have := S.d d hm
      show X.A.units + 1 + 1 + d.depth < cLine
      omega
    · have e' : some o = some (seqObj "list" acc.toArray 0) := e.symm.trans ho
      cases e'
      intro c
      exact absurd (Value.type.inj c) (by decide)
  · have h3 : ∀ u ∈ out, ∃ a, u = Value.ref a := fun u hu => e2 u (hb.perm.mem_iff.mp hu)
    obtain ⟨ep, he'⟩ := PyProof.Rows.sortedHeap_at (vs := acc) (out := out.toArray) ho
    have hb2 : SrtO.Stb (fun x y => dataLt (keyV X.K H2 x) (keyV X.K H2 y)) (out.map backV) xs := by
      rw [e1]
      exact SrtO.Stb.map O backV hb
    have eo : out.map backV = (insK ltP (xs.zip ds)).map (·.1) := by
      rw [← insK_zip (k := keyV X.K H2) (Paired.mapP pd fun x d z => keyV_of J (S.p d z.2) z.1)]
      refine SrtO.stb_uniq O (SrtO.srtd_map (lt := fun x y => dataLt (keyV X.K H2 x) (keyV X.K H2 y)) hs) (insK_srtd O xs) (hb2.trans ?_)
      have t := insK_stb O xs
      exact ⟨t.perm.symm, fun x => (t.cls x).symm⟩
    have q' := q h'.objs.size (J.hok.fresh (Nat.le_refl _))
    rw [← eo] at q'
    have old2 : ∀ (b : Addr) (u : Obj), h'.get? b = some u → (PyProof.Rows.sortedHeap (h'.push (seqObj "list" acc.toArray 0)) h'.objs.size acc out.toArray).get? b = some u := by
      intro b u e
      have hb := Heap.lt_size e
      rw [PyProof.Rows.sortedHeap_old (Nat.ne_of_lt hb) (by rw [size_push']; exact Nat.lt_succ_of_lt hb)]
      exact old b u e
    have hl : (out.map backV).length ≤ sizeLine := by rw [hb2.len]; exact hz
    exact ⟨.ref h'.objs.size, upd H2 h'.objs.size (.lst (out.map backV)), J.laid (t' := tk) old2 (Nat.le_refl _) ⟨hl, out, ep, vals_back h3, he'⟩, rfl, q'⟩
/-! ### the keys -/
def keyD (k : List L2.Key) : PyData := .tuple (k.map fun c => match c with
  | .inl i => .int i
  | .inr x => .str x)
def keysP (H : Hp) (ts : List Addr) (kvs : List (List L2.Key × V)) : Prop := Paired (fun (t : Addr) (p : List L2.Key × V) => H t = some (.tup (p.1.map kV))) ts kvs
theorem dp_key {K : PySem.W.Frag} {k : List L2.Key} {t : Addr} (h : H t = some (.tup (k.map kV))) : Dp K H (.ref t) (keyD k) := by
  refine .tup (.of h) ?_
  clear h
  induction k with
  | nil => exact .nil
  | cons c k ih =>
    refine .cons ?_ ih
    cases c with
    | inl i => exact .int i
    | inr x => exact .str x
theorem keysP_dps {K : PySem.W.Frag} : ∀ {ts : List Addr} {kvs : List (List L2.Key × V)}, keysP H ts kvs → DpAll K H (ts.map V.ref) (kvs.map fun p => keyD p.1)
  | _, _, .nil => .nil
  | _, _, .cons r t => .cons (dp_key r) (keysP_dps t)
theorem kt_keys : ∀ {kvs : List (List L2.Key × V)} {xs : List (List L2.Key × Addr × Value)}, KT H kvs xs → keysP H (xs.map (·.2.1)) kvs
  | _, _, .nil => .nil
  | _, _, .cons r t => .cons r.2.1 (kt_keys t)
theorem kdl_raw {prog : Program} {w : World} {d : Addr} {es : Array DictEntry} {ep : Nat} (lo : (d == sysModules) = false) : KdlSrc prog w "dict" d d es.size (fun i v => ∃ hi : i < es.size, v = es[i].key) (fun h => h.DictRaw d es ep) where
  type := fun _ hm => hm.typeIs
  there := fun _ hm => ⟨let ⟨_, ho, _⟩ := hm; Heap.lt_size ho, let ⟨_, ho, _⟩ := hm; Heap.lt_size ho⟩
  keep := fun _ _ hm hk => hm.at fun o e => hk d (.inl rfl) o e
  notList := by decide
  notTuple := by decide
  hint := fun _ _ _ _ hm hq => kdl_hint_dict hm.typeIs hq
  iter := fun _ _ hh hm => ⟨_, _, (fun _ _ hq => wpAny_pyIter_dict_raw lo hm hq), Walks.rawKeys hh _ d (Nat.ne_of_lt (let ⟨_, ho, _⟩ := hm; Heap.lt_size ho)) es ep, ⟨⟨_, Heap.get?_push_size _ rfl, rfl, rfl⟩, hm.at fun o e => Heap.get?_push_of_some _ e⟩⟩
theorem kdl_rawKeys {prog : Program} {w : World} {r d : Addr} {es : Array DictEntry} {ep : Nat} : KdlSrc prog w "dict_keys" r d es.size (fun i v => ∃ hi : i < es.size, v = es[i].key) (fun h => KdlKeysView h r d ∧ h.DictRaw d es ep) where
  type := fun _ hm => hm.1.typeIs
  there := fun _ hm => ⟨let ⟨_, ho, _⟩ := hm.1; Heap.lt_size ho, let ⟨_, ho, _⟩ := hm.2; Heap.lt_size ho⟩
  keep := fun _ _ hm hk => ⟨let ⟨o, ho, x⟩ := hm.1; ⟨o, hk r (.inl rfl) o ho, x⟩, hm.2.at fun o e => hk d (.inr rfl) o e⟩
  notList := by decide
  notTuple := by decide
  hint := fun _ _ _ _ hm hq => kdl_hint_keys hm.1.typeIs hq
  iter := fun _ _ hh hm => ⟨_, _, (fun _ _ hq => wpAny_pyIter_keys_raw hm.1 hm.2 hq), Walks.rawKeys hh _ d (Nat.ne_of_lt (let ⟨_, ho, _⟩ := hm.2; Heap.lt_size ho)) es ep, ⟨⟨_, Heap.get?_push_size _ rfl, rfl, rfl⟩, hm.2.at fun o e => Heap.get?_push_of_some _ e⟩⟩
theorem keys_acc {es : Array DictEntry} {knd : HeapKind X.prog X.w (List L2.Key)} {xs : List (List L2.Key × Addr × Value)} (he : es.toList = xs.map (entryOfKey knd)) {acc : Array Value} (hacc : ItemsOf (fun i v => ∃ hi : i < es.size, v = es[i].key) acc es.size) : acc.toList = (xs.map (·.2.1)).map Value.ref := by
  have hs := size_of_entries he
  refine List.ext_getElem? fun i => ?_
  rw [Array.getElem?_toList, List.getElem?_map, List.getElem?_map]
  by_cases hi : i < es.size
  · have hi2 : i < acc.size := by rw [hacc.1]; exact hi
    obtain ⟨_, e⟩ := hacc.2 i acc[i] (Array.getElem?_eq_getElem hi2)
    rw [Array.getElem?_eq_getElem hi2, e]
    have hx : i < xs.length := hs ▸ hi
    have e2 := entry_at he i
    rw [Array.getElem?_eq_getElem hi, List.getElem?_eq_getElem hx, Option.map_some] at e2
    rw [List.getElem?_eq_getElem hx, Option.some.inj e2]
    rfl
  · rw [Array.getElem?_eq_none (by rw [hacc.1]; omega), List.getElem?_eq_none (by omega)]
    rfl
theorem vals_refs : ∀ ts : List Addr, Vals (ts.map V.ref) (ts.map Value.ref)
  | [] => .nil
  | t :: ts => .cons rfl (vals_refs ts)
/-- sorted(d) -/
def rSrtD : List V → Hp → VK → Prop := fun vs H Q => ∃ (a : Addr) (kvs : List (List L2.Key × V)), vs = [V.ref a] ∧ H a = some (.dT kvs) ∧ sok (kvs.map fun p => keyD p.1) = true ∧
  ∀ (ts : List Addr) q, keysP H ts kvs → H q = none → Q (.ref q) (upd H q (.lst ((insK ltP ((ts.map V.ref).zip (kvs.map fun p => keyD p.1))).map (·.1))))
theorem call_srtDT (hcalm : X.calm = true) (hu : X.A.units + 65 < cLine) : CallR X (.builtin "sorted") rSrtD := by
  intro pins s σ H vs us Q I r h
  obtain ⟨a, kvs, rfl, ha, ok, q⟩ := h
  obtain ⟨u, rfl, ru⟩ := vals1 r
  obtain rfl : u = Value.ref a := ru
  obtain ⟨z, lo, xs, rel, o, es, ep, h1, h2, h3, h4, h5⟩ := show ObjOk X.prog X.w H s.heap a (.dT kvs) from I.hok a _ ha
  have hs := size_of_entries h4
  have lk : kvs.length = xs.length := Paired.length rel
  have raw : s.heap.DictRaw a es ep := ⟨o, h1, h2, h3⟩
  refine Calls.call_function_entry PyProof.Rows.kind_sorted PyProof.Rows.plain_sorted PyProof.Rows.entry_sorted (PyProof.Rows.args_sorted1 _) ?_
  unfold Builtin.«sorted»
  refine wpAny_bind (m := checkCount "sorted" 1 1 _) (wpAny_pure ?_)
  refine wpAny_bind (kdu_collect (A := X.A.in1) (kdl_raw (ep := ep) lo) (I.ok.hd hcalm) raw (by omega) fun h' tk acc hk hacc => ?_)
  have ea := keys_acc h4 hacc
  rw [ea]
  refine wpAny_bind (wpAny_newList ?_ (by simp only [List.length_map]; omega))
  have J : Inv X pins σ H { s with heap := h', toks := tk } := I.kept hk
  refine wpAny_bind (wpAny_holding (wpAny_mono (sort_call hu J (vals_refs _) (keysP_dps (kt_keys rel)) ok (by simp only [List.length_map]; omega) (q _ · (kt_keys rel))) (fun _ s' x => ?_) fun _ _ e => e))
  exact wpAny_pure ⟨_, rfl, x⟩
/-! ### sorted(d.keys()) -/
def rKeysT : V → List V → Hp → VK → Prop := fun x xs H Q => ∃ (a : Addr) (kvs : List (List L2.Key × V)), x = .ref a ∧ xs = [] ∧ H a = some (.dT kvs) ∧ ∀ p, H p = none → Q (.ref p) (upd H p (keysO p a))
theorem mt_keysT : MtR X "dict.keys" rKeysT := by
  intro pins s σ H x xs v us Q I rx rxs h
  obtain ⟨a, kvs, rfl, rfl, ha, q⟩ := h
  cases rx
  cases rxs
  obtain ⟨z, lo, xs, rel, o, es, ep, h1, h2, h3, h4, h5⟩ := show ObjOk X.prog X.w H s.heap a (.dT kvs) from I.hok a _ ha
  have raw : s.heap.DictRaw a es ep := ⟨o, h1, h2, h3⟩
  have fr : H s.heap.objs.size = none := I.hok.fresh (Nat.le_refl _)
  refine call_meetsIn PySem.F.slot_dict_keys raw.typeIs PySem.F.entry_dict_keys (PySem.F.args_dict_keys_1 _) (meets_dict_keys_raw a lo) ⟨⟨es, ep, raw⟩, ?_⟩
  exact ⟨.ref s.heap.objs.size, upd H s.heap.objs.size (keysO s.heap.objs.size a), I.laid (t' := s.toks) (fun b u e => Heap.get?_push_of_some _ e) (Nat.le_refl _) (keysO_ok (Heap.get?_push_size _ rfl)), rfl, q _ fr⟩
def rSrtKT : List V → Hp → VK → Prop := fun vs H Q => ∃ (p a : Addr) (kvs : List (List L2.Key × V)), vs = [V.ref p] ∧ H p = some (keysO p a) ∧ H a = some (.dT kvs) ∧ sok (kvs.map fun p => keyD p.1) = true ∧
  ∀ (ts : List Addr) q, keysP H ts kvs → H q = none → Q (.ref q) (upd H q (.lst ((insK ltP ((ts.map V.ref).zip (kvs.map fun p => keyD p.1))).map (·.1))))
theorem call_srtKT (hcalm : X.calm = true) (hu : X.A.units + 65 < cLine) : CallR X (.builtin "sorted") rSrtKT := by
  intro pins s σ H vs us Q I r h
  obtain ⟨p, a, kvs, rfl, hp, ha, ok, q⟩ := h
  obtain ⟨u, rfl, ru⟩ := vals1 r
  obtain rfl : u = Value.ref p := ru
  obtain ⟨hview, _⟩ := I.hok p _ hp
  obtain ⟨z, lo, xs, rel, o, es, ep, h1, h2, h3, h4, h5⟩ := show ObjOk X.prog X.w H s.heap a (.dT kvs) from I.hok a _ ha
  have hs := size_of_entries h4
  have lk : kvs.length = xs.length := Paired.length rel
  have raw : s.heap.DictRaw a es ep := ⟨o, h1, h2, h3⟩
  refine Calls.call_function_entry PyProof.Rows.kind_sorted PyProof.Rows.plain_sorted PyProof.Rows.entry_sorted (PyProof.Rows.args_sorted1 _) ?_
  unfold Builtin.«sorted»
  refine wpAny_bind (m := checkCount "sorted" 1 1 _) (wpAny_pure ?_)
  refine wpAny_bind (kdu_collect (A := X.A.in1) (kdl_rawKeys (ep := ep)) (I.ok.hd hcalm) ⟨hview, raw⟩ (by omega) fun h' tk acc hk hacc => ?_)
  have ea := keys_acc h4 hacc
  rw [ea]
  refine wpAny_bind (wpAny_newList ?_ (by simp only [List.length_map]; omega))
  have J : Inv X pins σ H { s with heap := h', toks := tk } := I.kept hk
  refine wpAny_bind (wpAny_holding (wpAny_mono (sort_call hu J (vals_refs _) (keysP_dps (kt_keys rel)) ok (by simp only [List.length_map]; omega) (q _ · (kt_keys rel))) (fun _ s' x => ?_) fun _ _ e => e))
  exact wpAny_pure ⟨_, rfl, x⟩
/-! ### sorted(d.items()) -/
def itemsP (H : Hp) (ts : List Addr) (kvs : List (List L2.Key × V)) : Prop := Paired (fun (t : Addr) (p : List L2.Key × V) => ∃ kq, H t = some (.tup [.ref kq, p.2]) ∧ H kq = some (.tup (p.1.map kV))) ts kvs
def itemD (p : List L2.Key × V) (i : Int) : PyData := .tuple [keyD p.1, .int i]
def rSrtIT : List V → Hp → VK → Prop := fun vs H Q => ∃ (p a : Addr) (kvs : List (List L2.Key × V)) (ns : List Int), vs = [V.ref p] ∧ H p = some (L2.DX.itemsO p a) ∧ H a = some (.dT kvs) ∧ kvs.map (·.2) = ns.map V.int ∧ sok (List.zipWith itemD kvs ns) = true ∧
  ∀ (H2 : Hp) (ts : List Addr) q, (∀ b o, H b = some o → H2 b = some o) → itemsP H2 ts kvs → H2 q = none → Q (.ref q) (upd H2 q (.lst ((insK ltP ((ts.map V.ref).zip (List.zipWith itemD kvs ns))).map (·.1))))
theorem items_dps {K : PySem.W.Frag} : ∀ {ts : List Addr} {kvs : List (List L2.Key × V)} {ns : List Int}, itemsP H ts kvs → kvs.map (·.2) = ns.map V.int → DpAll K H (ts.map V.ref) (List.zipWith itemD kvs ns)
  | _, _, [], .nil, _ => .nil
  | _, _, _ :: _, .nil, e => by cases e
  | _, _, [], .cons r t, e => by cases e
  | _, (k, v) :: kvs, n :: ns, .cons r t, e => by
    rw [List.map_cons, List.map_cons] at e
    obtain ⟨rfl, e2⟩ := List.cons.inj e
    obtain ⟨kq, h1, h2⟩ := r
    exact .cons (.tup (.of h1) (.cons (dp_key h2) (.cons (.int n) .nil))) (items_dps t e2)
theorem paired_ix {α β : Type} {R : α → β → Prop} : ∀ {xs : List α} {ys : List β}, xs.length = ys.length → (∀ (j : Nat) x y, xs[j]? = some x → ys[j]? = some y → R x y) → Paired R xs ys
  | [], [], _, _ => .nil
  | [], _ :: _, e, _ => by cases e
  | _ :: _, [], e, _ => by cases e
  | x :: xs, y :: ys, e, h => .cons (h 0 x y rfl rfl) (paired_ix (by simpa using e) fun j a b e1 e2 => h (j + 1) a b (by simpa using e1) (by simpa using e2))
theorem call_srtIT (hcalm : X.calm = true) (hu : X.A.units + 65 < cLine) : CallR X (.builtin "sorted") rSrtIT := by
  intro pins s σ H vs us Q I r h
  obtain ⟨p, a, kvs, ns, rfl, hp, ha, en, ok, q⟩ := h
  obtain ⟨u, rfl, ru⟩ := vals1 r
  obtain rfl : u = Value.ref p := ru
  have view : s.heap.IsItemsView p a := (show ObjOk X.prog X.w H s.heap p (L2.DX.itemsO p a) from I.hok p _ hp).1
  obtain ⟨z, lo, xs, rel, o, es, ep, h1, h2, h3, h4, h5⟩ := show ObjOk X.prog X.w H s.heap a (.dT kvs) from I.hok a _ ha
  have hs := size_of_entries h4
  have lk : kvs.length = xs.length := Paired.length rel
  refine DT.sortedI (es := es) (ep := ep) (I.ok.hd hcalm) view ⟨o, h1, h2, h3⟩ (by omega) fun h' tk as hk hlt hl hG => ?_
  have nd : as.Nodup := List.Pairwise.imp (fun h => Nat.ne_of_lt h) hG.rise
  have la : as.length = kvs.length := by omega
  have pr : ∀ (j : Nat) (b : Addr), as[j]? = some b → ∃ (e : List L2.Key × V) (kq : Addr) (v : Value), kvs[j]? = some e ∧ H kq = some (.tup (e.1.map kV)) ∧ RelV e.2 v ∧ h'.get? b = some { cls := .type "tuple", data := .seq #[Value.ref kq, v] } := by
    intro j b hj
    obtain ⟨en, he, hg⟩ := hG.pairs j b hj
    rw [entry_at h4 j] at he
    cases hxj : xs[j]? with
    | none => rw [hxj] at he; cases he
    | some x =>
      rw [hxj, Option.map_some] at he
      obtain ⟨e0, he0, r1, r2, r3⟩ := L2.DX.pget rel hxj
      rw [← Option.some.inj he] at hg
      exact ⟨e0, x.2.1, x.2.2, he0, r2, r3, hg⟩
  have I1 : Inv X pins σ H { s with heap := h', toks := tk } := I.kept hk
  obtain ⟨H2, I3, g, qt⟩ := L2.DX.takeT (P := fun b vs => ∃ (j : Nat) (e : List L2.Key × V) (kq : Addr), as[j]? = some b ∧ kvs[j]? = some e ∧ vs = [.ref kq, e.2] ∧ H kq = some (.tup (e.1.map kV))) I as _ I1 nd fun b hb => by
    obtain ⟨j, hj⟩ := List.mem_iff_getElem?.mp hb
    obtain ⟨e, kq, v, he, hkq, rv, hg⟩ := pr j b hj
    have hbl : s.heap.objs.size ≤ b := Nat.le_of_lt (hG.above b hb)
    exact ⟨hbl, I.hok.fresh hbl, [.ref kq, e.2], ⟨j, e, kq, hj, he, rfl, hkq⟩, fun H3 => ⟨(by rw [sizeLine_eq]; show 2 ≤ 16777216; omega), [Value.ref kq, v], .cons rfl (.cons rv .nil), ⟨_, hg, rfl, 0, rfl⟩⟩⟩
  have ip : itemsP H2 as kvs := by
    refine paired_ix la fun j b e hj he => ?_
    obtain ⟨vs, ⟨i, e', kq, j1, j2, ev, hkq⟩, hH⟩ := qt b (List.mem_of_getElem? hj)
    have eij : j = i := (List.getElem?_inj (List.getElem?_eq_some_iff.mp hj).1 nd).mp (hj.trans j1.symm)
    subst eij
    obtain rfl := Option.some.inj (he.symm.trans j2)
    rw [ev] at hH
    exact ⟨kq, hH, g _ _ hkq⟩
  exact sort_call hu I3 (vals_refs as) (items_dps ip en) ok (by simp only [List.length_map]; omega) (q H2 as · g ip)
end
end Fw

set_option maxRecDepth 100000
set_option maxHeartbeats 4000000
/-! sorted of tuples, of dicts by tuples; pop of these -/
namespace Fw
open PySem PySem.Spec PyProof.Rows L2 PySem.W
def kyD (kvs : List (LV × LV)) : Option (List PyData) := optAll (fun p => (keysOf p.1).map keyD) kvs
def srtD (h : LH) (xs : List LV) (ds : List PyData) : RE LV := if sok ds = true then .ok (.ref h.length) (h ++ [.lst ((insK ltP (xs.zip ds)).map (·.1))]) else .bad
def srtA : List LV → M LV
  | [.ref l] => fun h => match h[l]? with
    | some (.lst xs) => (match intsOf xs with
      | some ns => .ok (.ref h.length) (h ++ [.lst ((srtI ns).map LV.int)])
      | none => (match optAll (toD 4 h) xs with
        | some ds => srtD h xs ds
        | none => .bad))
    | some (.dct true kvs) => (match kyD kvs with
      | some ds => srtD h (kvs.map (·.1)) ds
      | none => .bad)
    | _ => .bad
  | _ => bad
section
variable {K : PySem.W.Frag} {mg : Str → Option Value} {H : Hp} {ρ : List Addr}
theorem rvs_paired : ∀ {vs : List LV} {xs : List V}, RVs K mg H ρ vs xs → Paired (fun v x => RV K mg H ρ v x) vs xs
  | [], _, r => by cases r; exact .nil
  | v :: vs, _, r => by
    cases r with
    | cons r t => exact .cons r (rvs_paired t)
theorem paired_rvs : ∀ {vs : List LV} {xs : List V}, Paired (fun v x => RV K mg H ρ v x) vs xs → RVs K mg H ρ vs xs
  | _, _, .nil => .nil
  | _, _, .cons r t => .cons r (paired_rvs t)
theorem zip_rel : ∀ {vs : List LV} {xs : List V} (ds : List PyData), RVs K mg H ρ vs xs → Paired (fun (p : LV × PyData) (q : V × PyData) => p.2 = q.2 ∧ RV K mg H ρ p.1 q.1) (vs.zip ds) (xs.zip ds)
  | [], _, ds, r => by cases r; rw [List.zip_nil_left, List.zip_nil_left]; exact .nil
  | v :: vs, _, ds, r => by
    cases r with
    | cons r t =>
      cases ds with
      | nil => rw [List.zip_nil_right, List.zip_nil_right]; exact .nil
      | cons d ds => exact .cons ⟨rfl, r⟩ (zip_rel ds t)
theorem rvs_srt {vs : List LV} {xs : List V} (ds : List PyData) (r : RVs K mg H ρ vs xs) : RVs K mg H ρ ((insK ltP (vs.zip ds)).map (·.1)) ((insK ltP (xs.zip ds)).map (·.1)) := by
  have q := insK_rel (lt := ltP) (lt' := ltP) (R := fun (p : LV × PyData) (q : V × PyData) => p.2 = q.2 ∧ RV K mg H ρ p.1 q.1) (fun x y x' y' r1 r2 => by show dataLt x.2 y.2 = dataLt x'.2 y'.2; rw [r1.1, r2.1]) (zip_rel ds r)
  generalize insK ltP (vs.zip ds) = us at q
  generalize insK ltP (xs.zip ds) = ws at q
  refine paired_rvs ?_
  clear r
  induction q with
  | nil => exact .nil
  | cons r t ih => exact .cons r.2 ih
theorem keysOf_key : ∀ k : List Key, keysOf (.tup (k.map keyL)) = some k := by
  intro k
  unfold keysOf
  induction k with
  | nil => rfl
  | cons c k ih =>
    have e : keyOf (keyL c) = some c := by cases c <;> rfl
    simp only [List.map_cons, optAll, e, ih]
theorem kyD_of : ∀ {kvs : List (LV × LV)} {kv : List (List Key × V)}, RT K mg H ρ kvs kv → kyD kvs = some (kv.map fun p => keyD p.1)
  | _, _, .nil => rfl
  | (a, v) :: kvs, (k, x) :: kv, .cons r t => by
    obtain ⟨e, _⟩ := r
    have ih := kyD_of (show RT K mg H ρ kvs kv from t)
    unfold kyD at ih ⊢
    have e' : a = .tup (k.map keyL) := e
    simp only [optAll, e', keysOf_key, Option.map_some, ih]
    rfl
theorem rvs_key {H : Hp} : ∀ k : List Key, RVs K mg H ρ (k.map keyL) (k.map kV)
  | [] => .nil
  | c :: k => by
    refine .cons ?_ (rvs_key k)
    cases c with
    | inl i => exact .int i
    | inr x => exact .str x
theorem rvs_ksP {H2 : Hp} {ρ2 : List Addr} : ∀ {kvs : List (LV × LV)} {kv : List (List Key × V)} {ts : List Addr}, RT K mg H ρ kvs kv → keysP H2 ts kv → RVs K mg H2 ρ2 (kvs.map (·.1)) (ts.map V.ref)
  | _, _, _, .nil, .nil => .nil
  | (a, v) :: kvs, (k, x) :: kv, t :: ts, .cons r rs, .cons q qs => by
    refine .cons ?_ (rvs_ksP (show RT K mg H ρ kvs kv from rs) qs)
    show RV K mg H2 ρ2 a (V.ref t)
    rw [show a = .tup (k.map keyL) from r.1]
    exact .tup q (rvs_key k)
theorem rvs_items {H2 : Hp} {ρ2 : List Addr} (ee : Ext ρ H ρ2 H2) : ∀ {kvs : List (LV × LV)} {kv : List (List Key × V)} {ts : List Addr}, RT K mg H ρ kvs kv → itemsP H2 ts kv → RVs K mg H2 ρ2 (kvs.map fun p => .tup [p.1, p.2]) (ts.map V.ref)
  | _, _, _, .nil, .nil => .nil
  | (a, v) :: kvs, (k, x) :: kv, t :: ts, .cons r rs, .cons q qs => by
    obtain ⟨kq, h1, h2⟩ := q
    refine .cons (.tup h1 (.cons ?_ (.cons (r.2.up ee) .nil))) (rvs_items ee (show RT K mg H ρ kvs kv from rs) qs)
    rw [show (a, v).1 = .tup (k.map keyL) from r.1]
    exact .tup h2 (rvs_key k)
theorem vals_ints : ∀ {kvs : List (LV × LV)} {kv : List (List Key × V)} {ns : List Int}, RT K mg H ρ kvs kv → kvs.map (·.2) = ns.map LV.int → kv.map (·.2) = ns.map V.int
  | _, _, [], .nil, _ => rfl
  | _, _, _ :: _, .nil, e => by cases e
  | _, _, [], .cons r t, e => by cases e
  | (a, v) :: kvs, (k, x) :: kv, n :: ns, .cons r rs, e => by
    rw [List.map_cons, List.map_cons] at e
    obtain ⟨e1, e2⟩ := List.cons.inj e
    have e1 : v = .int n := e1
    subst e1
    have r2 := r.2
    cases r2
    rw [List.map_cons, vals_ints (show RT K mg H ρ kvs kv from rs) e2]
    rfl
end
section
variable {X : Cx} {W : WX}
def rSrtA (K : PySem.W.Frag) : List V → Hp → VK → Prop := fun vs H Q => rSortedI K vs H Q ∨ rSortT K vs H Q ∨ rSrtD vs H Q
theorem cr_srtA (hcalm : X.calm = true) (hu : X.A.units + 65 < cLine) : CallR X (.builtin "sorted") (rSrtA X.K) := cr_sortedI.or ((cr_sortedTD hu).or (call_srtDT hcalm hu))
theorem cal_srtA : CalS X srtA (rSrtA X.K) := by
  intro v x ρ h H E Q rh rv p
  unfold srtA at p
  split at p
  · obtain ⟨x, rfl, r⟩ := rvs1 rv
    cases r with
    | ref hr =>
      split at p
      · rename_i xs el
        obtain ⟨va, ha, ra⟩ := rv_lst rh el hr
        split at p
        · rename_i ns en
          rw [intsOf_eq en] at ra
          obtain rfl := rvs_ints ns ra
          refine .inl ⟨_, ns, rfl, .of ha, fun ns' q pm so hq => ?_⟩
          rw [srtI_of pm so]
          exact p (ρ ++ [q]) _ _ (ext_push hq) (rh.new hq ⟨_, upd_same, ints_rvs _⟩) (.ref (by rw [← rh.len]; simp))
        · split at p
          · rename_i ds ed
            unfold srtD at p
            split at p
            · rename_i ok
              refine .inr (.inl ⟨_, va, ds, rfl, .of ha, dp_all (fun v x d r e => toD_dp rh r e) ra ed, ok, fun q hq => ?_⟩)
              exact p (ρ ++ [q]) _ _ (ext_push hq) (rh.new hq ⟨_, upd_same, (rvs_srt ds ra).up (ext_push hq)⟩) (.ref (by rw [← rh.len]; simp))
            · exact bad_of p
          · exact bad_of p
      · rename_i kvs el
        obtain ⟨kv, h2, h3⟩ := dct_of rh el hr
        rw [kyD_of h3] at p
        dsimp only at p
        unfold srtD at p
        split at p
        · rename_i ok
          refine .inr (.inr ⟨_, kv, rfl, h2, ok, fun ts q kp hq => ?_⟩)
          exact p (ρ ++ [q]) _ _ (ext_push hq) (rh.new hq ⟨_, upd_same, (rvs_srt _ (rvs_ksP h3 kp)).up (ext_push hq)⟩) (.ref (by rw [← rh.len]; simp))
        · exact bad_of p
      · exact bad_of p
  · exact bad_of p
/-! ### sorted(d.keys()), sorted(d.items()) -/
def srkA : LV → M LV := fun d h => match dAt h d with
  | some (_, false, kvs) => (match intsOf (kvs.map (·.1)) with
    | some ns => if ns.length < 1000000 then .ok (.ref h.length) (h ++ [.lst ((srtI ns).map LV.int)]) else .bad
    | none => .bad)
  | some (_, true, kvs) => (match kyD kvs with
    | some ds => srtD h (kvs.map (·.1)) ds
    | none => .bad)
  | _ => .bad
def srkN (d : LE) : LE := fun s => bnd (d s) srkA
def sriA : LV → M LV := fun d h => match dAt h d with
  | some (_, true, kvs) => (match kyD kvs, intsOf (kvs.map (·.2)) with
    | some ds, some ns => srtD h (kvs.map fun p => .tup [p.1, p.2]) (List.zipWith (fun d i => .tuple [d, .int i]) ds ns)
    | _, _ => .bad)
  | _ => .bad
def sriN (d : LE) : LE := fun s => bnd (d s) sriA
theorem se_srkN {o : Expr} {md : LE} {p pos apos cpos : Pos} (hcalm : X.calm = true) (hu : X.A.units + 65 < cLine) (hg : Gl X "sorted") (hm : X.mg "sorted" = none) (hd : SE X W o md) (hbase : attributeBase o "keys" X.env (eval o X.env) = eval o X.env := by rfl) (hline : (apos.endLine == cpos.line) = true := by rfl)
    (he : starEach [.Call (.Attribute o "keys" apos) [] [] cpos] X.env = [(false, eval (.Call (.Attribute o "keys" apos) [] [] cpos) X.env)] := by rfl) : SE X W (.Call (.Name "sorted" p) [.Call (.Attribute o "keys" apos) [] [] cpos] [] pos) (srkN md) := by
  have hk := pe_bm0 (X := X) (name := "keys") (apos := apos) (cpos := cpos) PySem.F.plainAttrs_dict PySem.F.slot_dict_keys PySem.F.type_dict_keys (mt_keysK.or mt_keysT) hd hbase hline
  refine pe_imp (pe_callB (x := "sorted") ((call_srtKV hcalm).or (call_srtKT hcalm hu)) hg hm (by decide +kernel) (pa_cons hk pa_nil he) (by decide) (by decide) he rfl) fun σ H Q ⟨s, ρ, h, rs, rh, q⟩ => ?_
  refine seqE rs rh q fun d h1 ρ1 H1 x e1 rh1 rv rs1 p1 => ?_
  unfold srkA at p1
  split at p1
  · rename_i l kvs ed
    obtain ⟨rfl, el⟩ := dAt_eq ed
    have ty := chk_dct _ _ _ _ _ rh1 rv (by unfold isDw; rw [ed]; rfl)
    refine ⟨ty, ?_⟩
    cases rv with
    | ref hr =>
      obtain ⟨kv, h2, h3⟩ := dct_of rh1 el hr
      split at p1
      · rename_i ns en
        split at p1
        · rename_i hl
          refine .inl ⟨_, kv, rfl, rfl, h2, fun p hp => ?_⟩
          have ne := ne_of_none h2 hp
          refine .inl ⟨p, _, kv, ns, rfl, upd_same, by rw [upd_ne ne]; exact h2, keys_ints h3 (intsOf_eq en), hl, fun ys q pm so hq => ?_⟩
          rw [srtI_of pm so]
          exact p1 (ρ1 ++ [q]) _ _ ((ext_new hp).trans (ext_push hq)) ((rh1.imm hp).new hq ⟨_, upd_same, ints_rvs _⟩) (.ref (by rw [← rh1.len]; simp))
        · exact bad_of p1
      · exact bad_of p1
  · rename_i l kvs ed
    obtain ⟨rfl, el⟩ := dAt_eq ed
    have ty := chk_dct _ _ _ _ _ rh1 rv (by unfold isDw; rw [ed]; rfl)
    refine ⟨ty, ?_⟩
    cases rv with
    | ref hr =>
      obtain ⟨kv, h2, h3⟩ := dct_of rh1 el hr
      rw [kyD_of h3] at p1
      dsimp only at p1
      unfold srtD at p1
      split at p1
      · rename_i ok
        refine .inr ⟨_, kv, rfl, rfl, h2, fun p hp => ?_⟩
        have ne := ne_of_none h2 hp
        refine .inr ⟨p, _, kv, rfl, upd_same, by rw [upd_ne ne]; exact h2, ok, fun ts q kp hq => ?_⟩
        exact p1 (ρ1 ++ [q]) _ _ ((ext_new hp).trans (ext_push hq)) ((rh1.imm hp).new hq ⟨_, upd_same, (rvs_srt _ (rvs_ksP h3 kp)).up (ext_push hq)⟩) (.ref (by rw [← rh1.len]; simp))
      · exact bad_of p1
  · exact bad_of p1
theorem zipI : ∀ (kv : List (List Key × V)) (ns : List Int), List.zipWith (fun d i => PyData.tuple [d, .int i]) (kv.map fun p => keyD p.1) ns = List.zipWith itemD kv ns
  | [], _ => by simp
  | _ :: _, [] => by simp
  | p :: kv, n :: ns => by simp only [List.map_cons, List.zipWith_cons_cons, zipI kv ns]; rfl
theorem se_sriN {o : Expr} {md : LE} {p pos apos cpos : Pos} (hcalm : X.calm = true) (hu : X.A.units + 65 < cLine) (hg : Gl X "sorted") (hm : X.mg "sorted" = none) (hd : SE X W o md) (hbase : attributeBase o "items" X.env (eval o X.env) = eval o X.env := by rfl) (hline : (apos.endLine == cpos.line) = true := by rfl)
    (he : starEach [.Call (.Attribute o "items" apos) [] [] cpos] X.env = [(false, eval (.Call (.Attribute o "items" apos) [] [] cpos) X.env)] := by rfl) : SE X W (.Call (.Name "sorted" p) [.Call (.Attribute o "items" apos) [] [] cpos] [] pos) (sriN md) := by
  have hk := pe_bm0 (X := X) (name := "items") (apos := apos) (cpos := cpos) PySem.F.plainAttrs_dict PySem.F.slot_dict_items PySem.F.type_dict_items L2.DX.mt_itemsT hd hbase hline
  refine pe_imp (pe_callB (x := "sorted") (call_srtIT hcalm hu) hg hm (by decide +kernel) (pa_cons hk pa_nil he) (by decide) (by decide) he rfl) fun σ H Q ⟨s, ρ, h, rs, rh, q⟩ => ?_
  refine seqE rs rh q fun d h1 ρ1 H1 x e1 rh1 rv rs1 p1 => ?_
  unfold sriA at p1
  split at p1
  · rename_i l kvs ed
    obtain ⟨rfl, el⟩ := dAt_eq ed
    have ty := chk_dct _ _ _ _ _ rh1 rv (by unfold isDw; rw [ed]; rfl)
    refine ⟨ty, ?_⟩
    cases rv with
    | ref hr =>
      obtain ⟨kv, h2, h3⟩ := dct_of rh1 el hr
      rw [kyD_of h3] at p1
      cases en : intsOf (kvs.map (·.2)) with
      | none => rw [en] at p1; exact bad_of p1
      | some ns =>
        rw [en] at p1
        dsimp only at p1
        unfold srtD at p1
        split at p1
        · rename_i ok
          rw [zipI] at ok p1
          refine ⟨_, kv, rfl, rfl, h2, fun p hp => ?_⟩
          have ne := ne_of_none h2 hp
          refine ⟨p, _, kv, ns, rfl, upd_same, by rw [upd_ne ne]; exact h2, vals_ints h3 (intsOf_eq en), ok, fun H2 ts q kp ip hq => ?_⟩
          have e2 : Ext ρ1 H1 ρ1 H2 := ⟨fun _ _ z => z, fun a o z _ => kp a o (by rw [upd_ne (ne_of_none z hp)]; exact z)⟩
          have rh2 : RH X.K X.mg ρ1 h1 H2 := by
            refine ⟨rh1.len, rh1.nd, fun l w a e1 e2' => ?_⟩
            obtain ⟨o, _, ro⟩ := rh1.at e2'
            obtain ⟨w2, hw⟩ := ro.some
            exact (rh1.obj l w a e1 e2').up e2 (by rw [hw]; exact kp a w2 (by rw [upd_ne (ne_of_none hw hp)]; exact hw))
          exact p1 (ρ1 ++ [q]) _ _ (e2.trans (ext_push hq)) (rh2.new hq ⟨_, upd_same, (rvs_srt _ (rvs_items e2 h3 ip)).up (ext_push hq)⟩) (.ref (by rw [← rh1.len]; simp))
        · exact bad_of p1
  · exact bad_of p1
/-! ### d.pop(k), d.pop(k, x), tuples as keys -/
def isDT (h : LH) (d : LV) : Bool := match dAt h d with
  | some (_, true, _) => true
  | _ => false
def popT : LV → List LV → M LV
  | .ref l, [k] => fun h => match h[l]? with
    | some (.dct true kvs) => if (keysOf k).isSome = true then (match getK kvs k with
      | some v => .ok v (h.set l (.dct true (delL kvs k)))
      | none => .bad) else .bad
    | _ => .bad
  | .ref l, [k, x] => fun h => match h[l]? with
    | some (.dct true kvs) => if (keysOf k).isSome = true then (match getK kvs k with
      | some v => .ok v (h.set l (.dct true (delL kvs k)))
      | none => .ok x h) else .bad
    | _ => .bad
  | _, _ => bad
theorem chk_dt : ChkS X isDT "dict" := fun v x ρ h H rh rv e => by
  refine chk_dct v x ρ h H rh rv ?_
  unfold isDT at e
  unfold isDw
  cases ed : dAt h v with
  | none => rw [ed] at e; cases e
  | some z => rfl
def rPop1 : V → List V → Hp → VK → Prop := fun x xs H Q => ∃ (a : Addr) (kvs : List (List L2.Key × V)) (k : List L2.Key) (b : Addr) (v : V), x = .ref a ∧ xs = [.ref b] ∧ H a = some (.dT kvs) ∧ H b = some (.tup (k.map kV)) ∧ valV kvs k = some v ∧ Q v (upd H a (.dT (dropK kvs k)))
theorem mt_pop1 (hu : X.A.units + 1 < cLine) : MtR X "dict.pop" rPop1 := by
  intro pins s σ H x xs v us Q I rx rxs h
  obtain ⟨a, kvs, k, b, v1, rfl, rfl, ha, hb, ev, q1⟩ := h
  cases rx
  obtain ⟨u1, rfl, r1⟩ := vals1 rxs
  cases r1
  obtain ⟨z, hd, xs', rel, dd⟩ := dt_of I.hok ha
  have hz : xs'.length ≤ sizeLine := by rw [← Paired.length rel]; exact z
  have r := rel.val k
  rw [ev] at r
  obtain ⟨p, hp, rv⟩ : ∃ p, atKey xs' k = some p ∧ RelV v1 p.2 := by
    cases e : atKey xs' k with
    | none => rw [e] at r; exact (show False from r).elim
    | some p => rw [e] at r; exact ⟨p, rfl, r⟩
  refine call_pop_heap (knd := tupleKind (mixKind X.prog X.w)) (k := k) (more := []) (.inl rfl) (PySem.F.args_dict_pop_2 _ _) (tupleKind_room_in1 hu) (key_of I.hok hb) hd dd hp (fun h' dd' hs => ?_) hz
  obtain ⟨o, es, ep, hq, h2, h3, h4, _, h5⟩ := dd'
  have I2 : Inv X pins σ (upd H a (.dT (dropK kvs k))) { s with heap := h', toks := s.toks + (tupleKind (mixKind X.prog X.w)).draws k } :=
    d_write I (by rw [ha]; exact True.intro) hs ⟨o, hq⟩ ⟨Nat.le_trans (dropK_le kvs k) z, hd, _, (L2.DX.KT_drop k rel).keeps (fun c ys ec => (by rw [upd_ne (ne_of ec ha (fun z => nomatch z))]; exact ec)), o, es, ep, hq, h2, h3, h4, h5⟩
  exact ⟨v1, _, I2, rv, q1⟩
def rPopA : V → List V → Hp → VK → Prop := fun x xs H Q => rPop1 x xs H Q ∨ L2.DX.rPopT x xs H Q
theorem mt_popA (hu : X.A.units + 1 < cLine) : MtR X "dict.pop" rPopA := (mt_pop1 hu).or (L2.DX.mt_popT hu)
theorem rv_tkey {H : Hp} {ρ : List Addr} {k : List Key} {y : V} (r : RV X.K X.mg H ρ (.tup (k.map keyL)) y) : ∃ b, y = .ref b ∧ H b = some (.tup (k.map kV)) := by
  cases r with
  | tup h r =>
    refine ⟨_, rfl, ?_⟩
    rw [h]
    have : ∀ (k : List Key) (vs : List V), RVs X.K X.mg H ρ (k.map keyL) vs → vs = k.map kV := by
      intro k
      induction k with
      | nil => intro vs r; cases r; rfl
      | cons c k ih =>
        intro vs r
        cases r with
        | cons r t =>
          rw [ih _ t]
          cases c with
          | inl i => cases r; rfl
          | inr x => cases r; rfl
    rw [this k _ r]
theorem met_popT : MetS X popT rPopA := by
  intro v vs x xs ρ h H E Q rh rv rvs p
  unfold popT at p
  split at p
  · rename_i l k
    obtain ⟨y, rfl, ry⟩ := rvs1 rvs
    cases rv with
    | ref hr =>
      split at p
      · rename_i kvs el
        split at p
        · rename_i ok
          obtain ⟨ks, ek⟩ := Option.isSome_iff_exists.mp ok
          have e3 := keysOf_eq ek
          subst e3
          obtain ⟨b, rfl, hb⟩ := rv_tkey ry
          obtain ⟨kv, h3, h4⟩ := dct_of rh el hr
          rcases rp_get (kl := tupK) tupK_eq ks (show RP X.K X.mg tupK H ρ kvs kv from h4) with ⟨g1, g2⟩ | ⟨v, u, g1, g2, g3⟩
          · rw [g1] at p; exact bad_of p
          · rw [g1] at p
            exact .inl ⟨_, kv, ks, b, u, rfl, rfl, h3, hb, g2, p ρ _ _ (ext_set rh hr) (rh.set hr ⟨_, upd_same, RT.up (ext_set rh hr) (rp_del (kl := tupK) tupK_eq ks h4)⟩) (g3.up (ext_set rh hr))⟩
        · exact bad_of p
      · exact bad_of p
  · rename_i l k w
    obtain ⟨y, z, rfl, ry, rz⟩ := rvs2 rvs
    cases rv with
    | ref hr =>
      split at p
      · rename_i kvs el
        split at p
        · rename_i ok
          obtain ⟨ks, ek⟩ := Option.isSome_iff_exists.mp ok
          have e3 := keysOf_eq ek
          subst e3
          obtain ⟨b, rfl, hb⟩ := rv_tkey ry
          obtain ⟨kv, h3, h4⟩ := dct_of rh el hr
          rcases rp_get (kl := tupK) tupK_eq ks (show RP X.K X.mg tupK H ρ kvs kv from h4) with ⟨g1, g2⟩ | ⟨v, u, g1, g2, g3⟩
          · rw [g1] at p
            exact .inr ⟨_, kv, ks, b, z, rfl, rfl, h3, hb, fun v e => (by rw [g2] at e; cases e), fun _ => Post.now p rh rz⟩
          · rw [g1] at p
            refine .inr ⟨_, kv, ks, b, z, rfl, rfl, h3, hb, fun v e => ?_, fun e => by rw [g2] at e; cases e⟩
            obtain rfl := Option.some.inj (g2.symm.trans e)
            exact p ρ _ _ (ext_set rh hr) (rh.set hr ⟨_, upd_same, RT.up (ext_set rh hr) (rp_del (kl := tupK) tupK_eq ks h4)⟩) (g3.up (ext_set rh hr))
        · exact bad_of p
      · exact bad_of p
  · exact bad_of p
/-! ### len(d) -/
def lenA : List LV → M LV
  | [.ref l] => fun h => match h[l]? with
    | some (.lst xs) => .ok (.int xs.length) h
    | some (.dct true kvs) => .ok (.int kvs.length) h
    | _ => .bad
  | _ => bad
theorem cal_lenA : CalS X lenA (fun xs H Q => (∃ x n, xs = [x] ∧ LenV X.K x H n ∧ Q (.int n) H) ∨ rLenT xs H Q) := by
  intro v x ρ h H E Q rh rv p
  unfold lenA at p
  split at p
  · rename_i l
    split at p
    · rename_i xs el
      exact .inl (cal_len _ _ _ _ _ _ _ rh rv (by simpa [lenL, el] using p))
    · rename_i kvs el
      obtain ⟨y, rfl, r⟩ := rvs1 rv
      cases r with
      | ref hr =>
        obtain ⟨kv, h2, h3⟩ := dct_of rh el hr
        refine .inr ⟨_, kv, rfl, h2, ?_⟩
        rw [← Paired.length h3]
        exact Post.now p rh (.int _)
    · exact bad_of p
  · exact bad_of p
end
end Fw

set_option maxRecDepth 100000
set_option maxHeartbeats 4000000
/-! list(d.keys()); d[k] op= e -/
namespace Fw
open PySem PySem.Spec PyProof.Rows L2
def rLstKV : List V → Hp → VK → Prop := fun xs H Q => ∃ (p d : Addr) (kvs : List (Key × V)) (ks : List Int), xs = [.ref p] ∧ H p = some (keysO p d) ∧ H d = some (.dK kvs) ∧ kvs.map (·.1) = ks.map Sum.inl ∧ ks.length < 1000000 ∧
  ∀ (q : Addr), H q = none → Q (.ref q) (upd H q (.lst (ks.map V.int)))
section
variable {X : Cx} {W : WX}
theorem call_lstKV (hcalm : X.calm = true) : CallR X (.type "list") rLstKV := by
  intro pins s σ H xs us Q I r q
  obtain ⟨p, a, kvs, ks, rfl, hp, hd, hks, h64, q⟩ := q
  obtain ⟨u, rfl, rx⟩ := vals1 r
  cases rx
  obtain ⟨z, lo, vs, rel, dd⟩ := dk_of I.hok hd
  obtain ⟨ep, hat⟩ := dd.dictAt
  obtain ⟨hview, _⟩ := I.hok p _ hp
  have kk : vs.map (·.1) = ks.map Sum.inl := rel.keys.symm.trans hks
  have hl : vs.length = ks.length := by simpa using congrArg List.length kk
  have hsz : vs.length ≤ sizeLine := by rw [hl, sizeLine_eq]; omega
  refine PySem.W.kdl_call (PySem.W.kdl_keys (knd := mixKind X.prog X.w) (r := p) (d := a) (kvs := vs) (ep := ep)) (I.ok.hd hcalm) ⟨hview, hat⟩ hsz ?_
  intro h' tk acc c hk hlist hacc
  have hal : acc.toList.length = ks.length := (Array.length_toList).trans (hacc.1.trans hl)
  have hS : IntsAre acc.toList ks := by
    refine ints_each hal fun j v e => ?_
    obtain ⟨k, x, e1, e2⟩ := hacc.2 j v (by rw [← Array.getElem?_toList]; exact e)
    have e3 : (ks.map Sum.inl)[j]? = some k := by rw [← kk, List.getElem?_map, e1]; rfl
    rw [List.getElem?_map] at e3
    obtain ⟨y, e4, e5⟩ := Option.map_eq_some_iff.mp e3
    subst e5
    rcases keyIs_shape (show keyIs (Sum.inl y) v = true from e2) with ⟨i, t, ek, ev⟩ | ⟨z, t, ek, ev⟩
    · cases ek; exact ⟨y, t, e4, ev⟩
    · cases ek
  have hz : (ks.map V.int).length ≤ sizeLine := by rw [List.length_map, sizeLine_eq]; omega
  have ok : ∀ HH : Hp, ObjOk X.prog X.w HH h' s.heap.objs.size (.lst (ks.map V.int)) := fun HH => ⟨hz, acc.toList, c, vals_of_ints hS, by rw [Array.toArray_toList]; exact hlist⟩
  exact ⟨.ref s.heap.objs.size, upd H s.heap.objs.size (.lst (ks.map V.int)), I.laid (t' := tk) hk (Nat.le_refl _) (ok _), rfl, q _ (I.hok.fresh (Nat.le_refl _))⟩
def lskB : LV → M LV := fun d h => match dAt h d with
  | some (_, false, kvs) => (match intsOf (kvs.map (·.1)) with
    | some ns => if ns.length < 1000000 then .ok (.ref h.length) (h ++ [.lst (ns.map LV.int)]) else .bad
    | none => .bad)
  | _ => .bad
def lskM (d : LE) : LE := fun s => bnd (d s) lskB
theorem se_lsk {o : Expr} {md : LE} {p pos apos cpos : Pos} (hcalm : X.calm = true) (hg : Gl X "list") (hm : X.mg "list" = none) (hd : SE X W o md) (hbase : attributeBase o "keys" X.env (eval o X.env) = eval o X.env := by rfl) (hline : (apos.endLine == cpos.line) = true := by rfl)
    (he : starEach [.Call (.Attribute o "keys" apos) [] [] cpos] X.env = [(false, eval (.Call (.Attribute o "keys" apos) [] [] cpos) X.env)] := by rfl) : SE X W (.Call (.Name "list" p) [.Call (.Attribute o "keys" apos) [] [] cpos] [] pos) (lskM md) := by
  have hk := pe_bm0 (X := X) (name := "keys") (apos := apos) (cpos := cpos) PySem.F.plainAttrs_dict PySem.F.slot_dict_keys PySem.F.type_dict_keys mt_keysK hd hbase hline
  refine pe_imp (pe_callTy (x := "list") (call_lstKV hcalm) hg hm (by decide +kernel) (pa_cons hk pa_nil he) (by decide) (by decide) he rfl) fun σ H Q ⟨s, ρ, h, rs, rh, q⟩ => ?_
  refine seqE rs rh q fun d h1 ρ1 H1 x e1 rh1 rv rs1 p1 => ?_
  unfold lskB at p1
  split at p1
  · rename_i l kvs ed
    obtain ⟨rfl, el⟩ := dAt_eq ed
    have ty := chk_dct _ _ _ _ _ rh1 rv (by unfold isDw; rw [ed]; rfl)
    refine ⟨ty, ?_⟩
    cases rv with
    | ref hr =>
      obtain ⟨kv, h2, h3⟩ := dct_of rh1 el hr
      split at p1
      · rename_i ns en
        split at p1
        · rename_i hl
          refine ⟨_, kv, rfl, rfl, h2, fun p hp => ?_⟩
          have ne := ne_of_none h2 hp
          refine ⟨p, _, kv, ns, rfl, upd_same, by rw [upd_ne ne]; exact h2, keys_ints h3 (intsOf_eq en), hl, fun q hq => ?_⟩
          exact p1 (ρ1 ++ [q]) _ _ ((ext_new hp).trans (ext_push hq)) ((rh1.imm hp).new hq ⟨_, upd_same, ints_rvs _⟩) (.ref (by rw [← rh1.len]; simp))
        · exact bad_of p1
      · exact bad_of p1
  · exact bad_of p1
/-! d[k] op= v -/
def daugF (dd kk z : LV) : M Unit := fun h => match dAt h dd with
  | some (l, tk, kvs) => if okKey tk kk = true ∧ kvs.length < sizeLine then .ok () (h.set l (.dct tk (putL kvs kk z))) else .bad
  | none => .bad
def daugS (f : LV → LV → M LV) (d k v : LE) : LS := fun s h => match bnd (d s) (fun dd => bnd (k s) fun kk => bnd (dgtL dd kk) fun x => bnd (v s) fun y => bnd (f x y) fun z => daugF dd kk z) h with
  | .ok _ h' => .nx s h'
  | .exc c fs h' => .exc c fs s h'
  | .bad => .bad
theorem bin_addD : BinS X iaddL rAdd := by
  intro v u x y ρ h H E Q rh rv ru p
  unfold iaddL intI at p
  split at p
  · cases rv; cases ru; exact ⟨_, _, rfl, rfl, Post.now p rh (.int _)⟩
  · exact bad_of p
theorem bin_subD : BinS X subL rSub := by
  intro v u x y ρ h H E Q rh rv ru p
  unfold subL intI at p
  split at p
  · cases rv; cases ru; exact ⟨_, _, rfl, rfl, Post.now p rh (.int _)⟩
  · exact bad_of p
theorem ss_daug {o i value : Expr} {md mk mv : LE} {op : Operator} {f : LV → LV → M LV} {rd : V → V → Hp → VK → Prop} {pos tpos : Pos} (hu : X.A.units + 1 < cLine) (hop : InOp X op rd) (hf : BinS X f rd) (ho : SE X W o md) (hi : SE X W i mk) (hv : SE X W value mv)
    (ha : ∀ ov iv new, augStore i ov iv new = (do holding [new, ov, iv] (setItem ov iv new); release [new, ov, iv] []; pure .next) := by intro _ _ _; rfl) : SS X W (.AugAssign (.Subscript o i tpos) op value pos) (daugS f md mk mv) := by
  refine ps_imp (ps_daug hu ho hi hv hop ha) fun D σ H ⟨s, ρ, h, rs, rh, p⟩ => ?_
  have p := postS_unit rs p
  refine seqE rs rh p fun d h1 ρ1 H1 dv e1 rh1 rv rs1 p1 => seqE rs1 rh1 p1 fun k h2 ρ2 H2 kv e2 rh2 rk rs2 p2 => ?_
  have rv2 := rv.up e2
  cases ed : dRd h2 d with
  | none => simp only [bnd, dgtL, ed] at p2; exact bad_of p2
  | some z =>
    obtain ⟨l, tk, kvs⟩ := z
    obtain ⟨rfl, el⟩ := dRd_eq ed
    cases rv2 with
    | ref hr =>
      by_cases ok : okKey tk k = true
      · rcases dget_of rh2 el hr rk ok with ⟨g, _⟩ | ⟨w, z, g, dg, rz⟩
        · simp only [bnd, dgtL, ed, if_pos ok, g] at p2; exact bad_of p2
        · have ep : bnd (dgtL (.ref l) k) (fun x => bnd (mv s) fun y => bnd (f x y) fun z => daugF (.ref l) k z) h2 = bnd (mv s) (fun y => bnd (f w y) fun z => daugF (.ref l) k z) h2 := by
            simp only [bnd, dgtL, ed, if_pos ok, g]
          rw [ep] at p2
          refine ⟨_, z, rfl, dg, seqE rs2 rh2 p2 fun y h3 ρ3 H3 yv e3 rh3 ry rs3 p3 => ?_⟩
          refine hf w y z yv ρ3 h3 H3 (fun C d H' => W C d σ H') _ rh3 (rz.up e3) ry ?_
          unfold bnd at p3
          cases ef : f w y h3 with
          | ok q h4 =>
            rw [ef] at p3
            dsimp only at p3
            intro ρ4 H4 qv e4 rh4 rq
            have p4 := Post.up e4 p3
            unfold daugF at p4
            split at p4
            · rename_i l2 tk2 kvs2 ea
              obtain ⟨el2, eh2⟩ := dAt_eq ea
              cases el2
              split at p4
              · rename_i ok2
                obtain ⟨H5, dp, e5, rh5⟩ := dput_of rh4 eh2 (e4.pre _ _ (e3.pre _ _ hr)) ((rk.up e3).up e4) rq ok2.1 ok2.2
                exact ⟨H5, dp, p4 ρ4 H5 () e5 rh5 trivial⟩
              · exact bad_of p4
            · exact bad_of p4
          | exc c fs h4 => rw [ef] at p3; exact p3
          | bad => rw [ef] at p3; exact p3
      · simp only [bnd, dgtL, ed, if_neg ok] at p2; exact bad_of p2
end
end Fw

set_option maxRecDepth 100000
set_option maxHeartbeats 4000000
/-! len(d), any d -/
namespace Fw
open PySem PySem.Spec PyProof.Rows L2
def rLenK : List V → Hp → VK → Prop := fun xs H Q => ∃ (p : Addr) (kvs : List (Key × V)), xs = [.ref p] ∧ H p = some (.dK kvs) ∧ Q (.int ((kvs.length : Nat) : Int)) H
section
variable {X : Cx}
theorem call_len_dK : CallR X (.builtin "len") rLenK := by
  intro pins s σ H xs us Q I r h
  obtain ⟨p, kvs, rfl, hp, q⟩ := h
  obtain ⟨u, rfl, rx⟩ := vals1 r
  cases rx
  exact d_len I (.inl hp) fun t s' I' => ⟨.int ((kvs.length : Nat) : Int), H, I', ⟨_, rfl⟩, q⟩
def lenB : List LV → M LV
  | [.ref l] => fun h => match h[l]? with
    | some (.dct false kvs) => .ok (.int kvs.length) h
    | _ => lenA [.ref l] h
  | _ => bad
theorem cal_lenB : CalS X lenB (fun xs H Q => ((∃ x n, xs = [x] ∧ LenV X.K x H n ∧ Q (.int n) H) ∨ rLenT xs H Q) ∨ rLenK xs H Q) := by
  intro v x ρ h H E Q rh rv p
  unfold lenB at p
  split at p
  · rename_i l
    split at p
    · rename_i kvs el
      obtain ⟨y, rfl, r⟩ := rvs1 rv
      cases r with
      | ref hr =>
        obtain ⟨kv, h2, h3⟩ := dct_of rh el hr
        refine .inr ⟨_, kv, rfl, h2, ?_⟩
        rw [← Paired.length h3]
        exact Post.now p rh (.int _)
    · exact .inl (cal_lenA _ _ _ _ _ _ _ rh rv p)
  · exact bad_of p
end
end Fw

set_option maxRecDepth 100000
set_option maxHeartbeats 4000000
/-! ### a call of what a name of the def holds -/
namespace Fw
open PySem PySem.Spec PyProof.Rows L2
def calV (i : Nat) (tb : List (Str × (List LV → M LV))) (a : LA) : LE := fun s h => match s[i]? with
  | some (some (.fn x)) => (match tb.lookup x with
    | some m => bnd (a s) m h
    | none => .bad)
  | _ => .bad
def Cals (P : Program) (w : World) (K : PySem.W.Frag) (mg : Str → Option Value) (base : Heap) (k n : Nat) (tb : List (Str × (List LV → M LV))) : Prop := ∀ y m, tb.lookup y = some m → ∃ k', k' ≤ k ∧ Cal P w K mg base k' y n m
section
variable {P : Program} {w : World} {K : PySem.W.Frag} {mg : Str → Option Value} {base : Heap} {k k' n : Nat} {tb : List (Str × (List LV → M LV))} {x : Str} {m : List LV → M LV}
theorem cals_nil : Cals P w K mg base k n [] := fun _ _ e => by cases e
theorem cals_cons (C : Cal P w K mg base k' x n m) (hk : k' ≤ k) (r : Cals P w K mg base k n tb) : Cals P w K mg base k n ((x, m) :: tb) := fun y u e => by
  rw [List.lookup_cons] at e
  by_cases c : y = x
  · subst c
    rw [beq_self_eq_true] at e
    cases e
    exact ⟨k', hk, C⟩
  · have c2 : (y == x) = false := by simpa using c
    rw [c2] at e
    exact r y u e
end
section
variable {X : Cx} {W : WX} {e : Expr} {es : List Expr} {pos : Pos}
theorem se_calV {k n i : Nat} {x : Str} {p : Pos} {tb : List (Str × (List LV → M LV))} {mr : LA} (p0 : PE X (.Name x p) (tVar i)) (A : Cals X.prog X.w X.K X.mg X.base k n tb) (hr : RoomG k X.A) (tk : Takes X W) (ha : SA X W (e :: es) mr) (hl : ALen mr n)
    (he : starEach (e :: es) X.env = (false, eval e X.env) :: starEach es X.env := by rfl) (hpl : (backTo pos (starEach es X.env)).any (·.1) = false := by rfl) : SE X W (.Call (.Name x p) (e :: es) [] pos) (calV i tb mr) := by
  refine ⟨fun pins s σ H Q I t => ?_⟩
  obtain ⟨ls, ρ, h, rs, rh, q⟩ := t
  unfold calV at q
  split at q
  · rename_i y hy
    split at q
    · rename_i m hm
      obtain ⟨z, ez, rz⟩ := rs.get hy
      obtain ⟨k', hk', C⟩ := A y m hm
      obtain ⟨f, fd, ps, F, hb, hkp, hm'⟩ := C.ex
      cases rz with
      | fn hmg =>
        cases hmg.symm.trans hm'
        have t2 : tA X.K X.mg W mr σ H fun vs H1 => spOf X.K X.mg n m vs H1 Q (WE W σ) := by
          refine ⟨ls, ρ, h, rs, rh, ?_⟩
          unfold bnd at q
          cases ee : mr ls h with
          | ok vs h1 =>
            rw [ee] at q
            intro ρ1 H1 xs e1 rh1 rv
            exact ⟨vs, ρ1, h1, hl ls h vs h1 ee, rv, rh1, Post.up e1 q⟩
          | exc c fs h1 => rw [ee] at q; exact q
          | bad => rw [ee] at q; exact q
        refine wpAny_Call_Name_kw (thn (p0.run pins s σ H (fun v H1 => v = .ref f ∧ H1 = H) I ⟨.ref f, ez, rfl, rfl⟩) fun u s1 ⟨v, H1, I1, r1, q1⟩ => ?_)
        obtain ⟨rfl, rfl⟩ := q1
        cases r1
        refine PySem.W.callWith_K (h₀ := X.base) I1.ok.mod.kin hkp ?_ he hpl
        exact thn (ha.run pos pins s1 σ _ _ I1 t2) fun us s2 ⟨vs, H2, J, r, z⟩ => ⟨J.kIn, run_fng F (hr.mono hk') hb (passAt tk σ) J r z⟩
    · exact q.elim
  · exact (show False from q).elim
end
end Fw

set_option maxRecDepth 100000
set_option maxHeartbeats 4000000
/-! ### exceptions with an own __init__ that calls its base's and keeps its values -/
namespace Fw
open PySem PySem.Spec PyProof.Rows L2
/-- the base, a class of the text without an own __init__ -/
structure TeC (K : PySem.W.Frag) (T : Addr) : Prop where
  sp : PySem.W.specialIn K (.ref T) "__getattribute__" = some (some (.builtin "type.__getattribute__"))
  rd : PySem.W.readsIn K T (.type "type") = true
  fc : PySem.W.findCls K (.ref T) (.type "type") "__init__" = some (.val (.builtin "ValueError.__init__"))
section
variable {X : Cx} {e : Expr} {es : List Expr} {ta : TA} {x : Str} {p1 p2 pos : Pos} {T : Addr} {pl : Sem Bool}
theorem pe_teinit (B : TeC X.K T) (hg : Gl X x) (hm : X.mg x = some (.ref T)) (ha : PA X (e :: es) ta) (hdb : (x == ("__debug__" : Str)) = false := by decide)
    (hc : eval (.Call (.Attribute (.Name x p1) "__init__" p2) (e :: es) [] pos) X.env = (do let ov ← eval (.Name x p1) X.env; standAt p2.atName; let (f, first) ← holding [ov] (getMethod ov "__init__" pl); callWith pos f first (backTo pos (starEach (e :: es) X.env)) (backToKw pos (keywordEach [] X.env))) := by rfl)
    (he : starEach (e :: es) X.env = (false, eval e X.env) :: starEach es X.env := by rfl) (hpl : (backTo pos (starEach es X.env)).any (·.1) = false := by rfl) : PE X (.Call (.Attribute (.Name x p1) "__init__" p2) (e :: es) [] pos) (tVeI X.K ta) := by
  constructor
  intro pins s σ H Q I t
  apply PySem.W.methodCall_KW (ld_glob I hg hm ?_ hdb) hc
  apply PySem.W.method_cls I.kIn B.sp
  apply PySem.W.cls_value I.kIn B.rd B.fc (by decide +kernel)
  show wpAny _ _ (callWith pos (Value.builtin "ValueError.__init__") [] (backTo pos (starEach (e :: es) X.env)) []) _ _ _
  apply PyProof.Rows.callWith_method1 _ he hpl
  apply thn (ha.run pos pins _ σ H _ (I.tok _) t)
  rintro us s1 ⟨vs, H1, J, r1, a, C, ws, rfl, hl, O, ea, q⟩
  cases r1 with
  | @cons _ u0 _ ur ra rw' =>
    cases (show u0 = Value.ref a from ra)
    have hlen : ur.length ≤ sizeLine := by rw [← Paired.length rw', sizeLine_eq]; omega
    exact oinit_ok O J ea hlen fun s' J' => ⟨.non, H1, J', rfl, q⟩
end
/-! what such an __init__ promises -/
def spX1 (K : PySem.W.Frag) (f : Str) : Sp := fun vs H Q _ => ∃ (a C : Addr) (y : V), vs = [.ref a, y] ∧ OexC K C ∧ PySem.W.findIn K (.ref C) f = some none ∧ H a = some (exo a C none) ∧ ∀ dx, H dx = none → dx ≠ a → Q .non (upd (upd H dx (exd dx [(f, y)])) a (exo a C (some dx)))
def spX2 (K : PySem.W.Frag) (f g : Str) : Sp := fun vs H Q _ => ∃ (a C : Addr) (y z : V), vs = [.ref a, y, z] ∧ OexC K C ∧ PySem.W.findIn K (.ref C) f = some none ∧ PySem.W.findIn K (.ref C) g = some none ∧ H a = some (exo a C none) ∧
  ∀ dx, H dx = none → dx ≠ a → Q .non (upd (upd (upd H dx (exd dx [(f, y)])) a (exo a C (some dx))) dx (exd dx [(g, z), (f, y)]))
theorem spX1_len {K : PySem.W.Frag} {f : Str} : ∀ vs H Q E, spX1 K f vs H Q E → vs.length = 2 := by
  rintro vs H Q E ⟨a, C, y, rfl, _⟩; rfl
theorem spX2_len {K : PySem.W.Frag} {f g : Str} : ∀ vs H Q E, spX2 K f g vs H Q E → vs.length = 3 := by
  rintro vs H Q E ⟨a, C, y, z, rfl, _⟩; rfl
theorem x1_end {K : PySem.W.Frag} {f m : Str} {H : Hp} {Q : VK} {a C : Addr} {y : V} (O : OexC K C) (hf : PySem.W.findIn K (.ref C) f = some none) (ea : H a = some (exo a C none)) (q : ∀ dx, H dx = none → dx ≠ a → Q .non (upd (upd H dx (exd dx [(f, y)])) a (exo a C (some dx)))) :
    tSeq (tDrop (tVeI K (tCons (tVar 0) (tCons (tC (.str m)) tNil)))) (tOst K f (tVar 0) (tVar 1)) { nx := fun _ H' => Q .non H', rt := Q } [some (.ref a), some y] H :=
  ⟨.ref a, rfl, a, C, [.str m], rfl, by simp, O, ea, y, rfl, .ref a, rfl, a, C, rfl, O, hf, .inl ⟨ea, fun dx n ne => q dx n ne⟩⟩
theorem x2_end {K : PySem.W.Frag} {f g m : Str} {H : Hp} {Q : VK} {a C : Addr} {y z : V} (O : OexC K C) (hf : PySem.W.findIn K (.ref C) f = some none) (hg : PySem.W.findIn K (.ref C) g = some none) (ea : H a = some (exo a C none)) (q : ∀ dx, H dx = none → dx ≠ a → Q .non (upd (upd (upd H dx (exd dx [(f, y)])) a (exo a C (some dx))) dx (exd dx [(g, z), (f, y)]))) :
    tSeq (tDrop (tVeI K (tCons (tVar 0) (tCons (tC (.str m)) tNil)))) (tSeq (tOst K f (tVar 0) (tVar 1)) (tOst K g (tVar 0) (tVar 2))) { nx := fun _ H' => Q .non H', rt := Q } [some (.ref a), some y, some z] H :=
  ⟨.ref a, rfl, a, C, [.str m], rfl, by simp, O, ea, y, rfl, .ref a, rfl, a, C, rfl, O, hf, .inl ⟨ea, fun dx n ne => ⟨z, rfl, .ref a, rfl, a, C, rfl, O, hg, .inr ⟨dx, [(f, y)], upd_same, by rw [upd_ne ne, upd_same], by simp, q dx n ne⟩⟩⟩⟩
/-! the facts of such a class -/
abbrev CX00 : CXT := fun _ _ _ _ _ _ => False
/-- the fields' names in the order in which __init__ keeps them -/
def spXs (K : PySem.W.Frag) : List Str → Sp
  | [f] => spX1 K f
  | [f, g] => spX2 K f g
  | _ => fun _ _ _ _ => False
structure XFc (P : Program) (w : World) (K : PySem.W.Frag) (mg : Str → Option Value) (base : Heap) (x : Str) (fl : List Str) : Prop where
  ex : ∃ (C fI : Addr) (fd : FuncData) (ps : List Str), mg x = some (.ref C) ∧ OexC K C ∧ PySem.W.findIn K (.ref C) "__init__" = some (some (.ref fI)) ∧ PySem.W.typeIn K (.ref fI) = some (.type "function") ∧ FnOk P w K mg base CX00 1 fI fd ps (spXs K fl) ∧ Binds K fd ps [] ∧ ∀ f ∈ fl, PySem.W.findIn K (.ref C) f = some none
def fldsX : List Str → List LV → List (Str × LV)
  | [f], [v] => [(f, v)]
  | [f, g], [v, u] => [(g, u), (f, v)]
  | _, _ => []
def raiseFS (c : Str) (fl : List Str) (aa : LA) : LS := fun s h => match aa s h with
  | .ok vs h' => if (fldsX fl vs).isEmpty = true then .bad else .exc c (fldsX fl vs) s h'
  | .exc c' fs h' => .exc c' fs s h'
  | .bad => .bad
theorem heap_x {H : Hp} {a dx : Addr} {o1 o2 o3 u : HO} (na : H a = none) (ne : dx ≠ a) : upd (del (upd (upd (upd H a o1) dx o2) a o3) a) dx u = upd H dx u := by
  funext b
  by_cases h1 : b = dx
  · subst h1; rw [upd_same, upd_same]
  · rw [upd_ne h1, upd_ne h1]
    by_cases h2 : b = a
    · subst h2; rw [del_same, na]
    · rw [del_ne h2, upd_ne h2, upd_ne h1, upd_ne h2]
theorem heap_y {H : Hp} {a dx : Addr} {o1 o2 o3 o4 u : HO} (na : H a = none) (ne : dx ≠ a) : upd (del (upd (upd (upd (upd H a o1) dx o2) a o3) dx o4) a) dx u = upd H dx u := by
  funext b
  by_cases h1 : b = dx
  · subst h1; rw [upd_same, upd_same]
  · rw [upd_ne h1, upd_ne h1]
    by_cases h2 : b = a
    · subst h2; rw [del_same, na]
    · rw [del_ne h2, upd_ne h1, upd_ne h2, upd_ne h1, upd_ne h2]
section
variable {X : Cx} {W : WX} {e : Expr} {es : List Expr} {mr : LA}
theorem ss_raiseF {x : Str} {fl : List Str} {p pos pos2 : Pos} (F : XFc X.prog X.w X.K X.mg X.base x fl) (hr : Room 2 X.A) (hc : X.calm = true) (tk : Takes X W) (hg : Gl X x) (ha : SA X W (e :: es) mr) (hdb : (x == ("__debug__" : Str)) = false := by decide)
    (he : starEach (e :: es) X.env = (false, eval e X.env) :: starEach es X.env := by rfl) (hpl : (backTo pos2 (starEach es X.env)).any (·.1) = false := by rfl) : SS X W (.Raise (some (.Call (.Name x p) (e :: es) [] pos2)) none pos) (raiseFS x fl mr) := by
  obtain ⟨C, fI, fd, ps, gC, O, iC, tI, F1, hb, hf⟩ := F.ex
  refine ps_imp (ps_raise hc tk (pmk_oex O iC tI F1 hr hb .nil pass0 hg gC ha hdb he hpl)) fun D σ H t => ?_
  obtain ⟨s, ρ, h, rs, rh, p⟩ := t
  refine ⟨s, ρ, h, rs, rh, ?_⟩
  unfold raiseFS at p
  cases em : mr s h with
  | exc c' fs h' => rw [em] at p; exact fun ρ1 H1 C1 d1 x1 r1 rx => p ρ1 H1 σ C1 d1 x1 r1 (rs.up x1) rx
  | bad => rw [em] at p; exact (show False from p).elim
  | ok vs h' =>
    rw [em] at p
    dsimp only at p
    intro ρ1 H1 xs x1 r1 rv
    split at p
    · exact (show False from p).elim
    · rename_i ne
      have fin : ∀ (dx : Addr) (fs' : List (Str × V)), H1 dx = none → RFs X.K X.mg (upd H1 dx (.xd fs')) ρ1 (fldsX fl vs) fs' → W (.ref C) (some dx) σ (upd H1 dx (.xd fs')) := fun dx fs' nd rf =>
        p ρ1 (upd H1 dx (.xd fs')) σ (.ref C) (some dx) (x1.trans (ext_new nd)) (r1.imm nd) ((rs.up x1).up (ext_new nd)) ⟨C, rfl, gC, .inr ⟨dx, fs', fun z => ne (by rw [z]; rfl), rfl, upd_same, rf⟩⟩
      have l12 : vs.length ≤ 1000 := by
        unfold fldsX at ne
        split at ne <;> simp_all
      refine ⟨by rw [← rv.length]; exact l12, fun a na => ?_⟩
      rw [List.append_nil]
      unfold fldsX at ne fin
      split at ne
      · rename_i f v
        obtain ⟨y, rfl, ry⟩ := rvs1 rv
        refine ⟨a, C, y, rfl, O, hf f (by simp), upd_same, fun dx hdx hne => ⟨rfl, dx, [(f, y)], upd_same, by rw [upd_ne hne, upd_same], ?_, ?_⟩⟩
        · rw [upd_ne hne] at hdx; exact hdx
        · rw [upd_ne hne] at hdx
          rw [heap_x na hne]
          exact fin dx _ hdx (.cons (ry.up (ext_new hdx)) .nil)
      · rename_i f g v u
        obtain ⟨y, z, rfl, ry, rz⟩ := rvs2 rv
        refine ⟨a, C, y, z, rfl, O, hf f (by simp), hf g (by simp), upd_same, fun dx hdx hne => ⟨rfl, dx, [(g, z), (f, y)], ?_, upd_same, ?_, ?_⟩⟩
        · rw [upd_ne (Ne.symm hne), upd_same]
        · rw [upd_ne hne] at hdx; exact hdx
        · rw [upd_ne hne] at hdx
          rw [heap_y na hne]
          exact fin dx _ hdx (.cons (rz.up (ext_new hdx)) (.cons (ry.up (ext_new hdx)) .nil))
      · exact absurd rfl ne
end
/-! isinstance of such a kept exception, and its fields -/
structure XTF (K : PySem.W.Frag) (mg : Str → Option Value) (kf : List (Str × List Str)) : Prop where
  cls : ∀ x fl, kf.lookup x = some fl → ∃ C, mg x = some (.ref C) ∧ ExcC K C ∧ PySem.W.kitOne K (.ref C) (.type "ValueError") = some true ∧ XfC K C ∧ ∀ f ∈ fl, PySem.W.findIn K (.ref C) f = some none
def rIsXF (K : PySem.W.Frag) : List V → Hp → VK → Prop := fun xs H Q => ∃ (a dx C : Addr) (fs : List (Str × V)) (c : V) (cv : Value) (b : Bool), xs = [.ref a, c] ∧ H a = some (.ext (ExcO a C (some dx))) ∧ H dx = some (.xd fs) ∧ ExcC K C ∧ (∀ u, RelV c u → u = cv) ∧ PySem.W.kitOne K (.ref C) cv = some b ∧ Q (.bl b) H
theorem kept_at {X : Cx} {pins : List (Addr × Obj)} {σ : L2.St} {H : Hp} {s : Shared} {a dx C : Addr} {fs : List (Str × V)} (I : Inv X pins σ H s) (ha : H a = some (.ext (ExcO a C (some dx)))) (hd : H dx = some (.xd fs)) :
    ∃ (oe od : Obj) (mA : Str → Option Value), PySem.W.InstAt s.heap a oe C (some od) ∧ (∀ f, RelO (fs.lookup f) (mA f)) ∧ ∀ n, PySem.W.lookIn n od = some (mA n) := by
  obtain ⟨⟨oe, vs, hget, hz, hv⟩, _⟩ := I.hok a _ ha
  obtain ⟨mA, hns, hr⟩ := (show ObjOk X.prog X.w H s.heap dx (.xd fs) from I.hok dx _ hd)
  obtain ⟨od, ho, hl⟩ := lookIn_ns hns
  refine ⟨oe, od, mA, ⟨hget, hz.1, ?_, ?_⟩, hr, hl⟩
  · unfold PySem.W.notCls; rw [hv] <;> rfl
  · rw [hz.2]; exact ho
theorem call_isXF {X : Cx} : CallR X (.builtin "isinstance") (rIsXF X.K) := by
  rintro pins s σ H xs us Q I r ⟨a, dx, D, fs, c, cv, b, rfl, ha, hd, C, hcv, e, q⟩
  cases r with
  | cons rx rr =>
    cases rr with
    | cons rt rr =>
      cases rr
      cases rx
      cases hcv _ rt
      obtain ⟨oe, od, mA, J, hr, hl⟩ := kept_at I ha hd
      refine PySem.W.kia_one (PySem.W.kitx_exc (by obtain ⟨cd, hc, _⟩ := PySem.W.any_some C.hd; rw [hc]; rfl) C.hg C.hk C.hs C.ha C.hn C.ht C.hm) I.kIn J e (fun z => nomatch z) fun tk => ?_
      exact ⟨.bl b, H, I.kept (t' := tk) fun _ _ z => z, rfl, q⟩
theorem XT.sub {K : PySem.W.Frag} {mg : Str → Option Value} {kn : List Str} {tab tn : List (Str × Str × Bool)} (T : XT K mg kn tab) (h : ∀ p ∈ tn, p ∈ tab) : XT K mg kn tn := ⟨T.cls, fun p hp => T.kit p (h p hp), fun p hp => T.non p (h p hp)⟩
/-- isinstance, also of exceptions with fields -/
def isiF (kn : List Str) (kf : List (Str × List Str)) (tn tab : List (Str × Str × Bool)) : List LV → M LV
  | [.exc c (f :: fs), .fn n] => fun h => if (kf.lookup c).isSome = true then (match subE tab c n with
    | some b => .ok (.bl b) h
    | none => .bad) else .bad
  | [.exc c (f :: fs), .ty .verr] => fun h => if (kf.lookup c).isSome = true then .ok (.bl true) h else .bad
  | vs => isiA kn tn vs
/-- a field of an exception that is kept -/
def xfB (kf : List (Str × List Str)) (f : Str) : LV → M LV
  | .exc c fs => fun h => (match kf.lookup c with
    | some fl => if fl.contains f = true then (match fs.lookup f with
      | some v => .ok v h
      | none => .bad) else .bad
    | none => .bad)
  | _ => bad
def xfM (kf : List (Str × List Str)) (f : Str) (o : LE) : LE := fun s => bnd (o s) (xfB kf f)
theorem rfs_lookup {K : PySem.W.Frag} {mg : Str → Option Value} {H : Hp} {ρ : List Addr} {f : Str} {v : LV} : ∀ {fs : List (Str × LV)} {gs : List (Str × V)}, RFs K mg H ρ fs gs → fs.lookup f = some v → ∃ y, gs.lookup f = some y ∧ RV K mg H ρ v y
  | [], _, _, e => by cases e
  | (n, u) :: fs, _, .cons r t, e => by
    rw [List.lookup_cons] at e ⊢
    cases c : f == n with
    | true => rw [c] at e; cases e; exact ⟨_, rfl, r⟩
    | false => rw [c] at e; exact rfs_lookup t e
section
variable {X : Cx} {W : WX} {kn : List Str} {kf : List (Str × List Str)} {tn tab : List (Str × Str × Bool)}
theorem cal_isiF (T : XT X.K X.mg kn tab) (F : XTF X.K X.mg kf) (hs : ∀ p ∈ tn, p ∈ tab) (hk : ∀ p ∈ tn, p.1 ∈ kn) : CalS X (isiF kn kf tn tab) (fun xs H Q => (rIsi X.K xs H Q ∨ rIsX X.K xs H Q) ∨ rIsXF X.K xs H Q) := by
  intro v x ρ h H E Q rh rv p
  unfold isiF at p
  split at p
  · rename_i c f fs n
    obtain ⟨x, y, rfl, r1, r2⟩ := rvs2 rv
    split at p
    · rename_i hc
      obtain ⟨fl, hfl⟩ := Option.isSome_iff_exists.mp hc
      obtain ⟨C, g, h1, h2, h3, h4⟩ := F.cls c fl hfl
      cases es : subE tab c n with
      | none => rw [es] at p; exact bad_of p
      | some b =>
        rw [es] at p
        cases r2 with
        | fn hn =>
          cases r1 with
          | excD ne hc' ha hd rf =>
            rw [g] at hc'; cases hc'
            exact .inr ⟨_, _, C, _, _, _, b, rfl, ha, hd, h1, fun u z => z, (T.of es g hn).1, Post.now p rh (.bl _)⟩
    · exact bad_of p
  · rename_i c f fs
    obtain ⟨x, y, rfl, r1, r2⟩ := rvs2 rv
    cases r2
    split at p
    · rename_i hc
      obtain ⟨fl, hfl⟩ := Option.isSome_iff_exists.mp hc
      obtain ⟨C, g, h1, h2, h3, h4⟩ := F.cls c fl hfl
      cases r1 with
      | excD ne hc' ha hd rf =>
        rw [g] at hc'; cases hc'
        exact .inr ⟨_, _, C, _, _, _, true, rfl, ha, hd, h1, fun u z => z, h2, Post.now p rh (.bl _)⟩
    · exact bad_of p
  · exact .inl (cal_isiA (T.sub hs) hk v x ρ h H E Q rh rv p)
theorem se_xf {e : Expr} {f : Str} {me : LE} {pos : Pos} (F : XTF X.K X.mg kf) (he : SE X W e me) (hb : attributeBase e f X.env (eval e X.env) = eval e X.env := by rfl) : SE X W (.Attribute e f pos) (xfM kf f me) := by
  refine ⟨fun pins s σ H Q I t => ?_⟩
  obtain ⟨ls, ρ, h, rs, rh, p⟩ := t
  have t2 : tE X.K X.mg W me σ H fun x H1 => ∃ (a dx C : Addr) (gs : List (Str × V)) (y : V), x = .ref a ∧ H1 a = some (.ext (ExcO a C (some dx))) ∧ H1 dx = some (.xd gs) ∧ XfC X.K C ∧ PySem.W.findIn X.K (.ref C) f = some none ∧ gs.lookup f = some y ∧ Q y H1 := by
    refine seqE rs rh p fun v h1 ρ1 H1 x e1 rh1 rv rs1 p1 => ?_
    unfold xfB at p1
    split at p1
    · rename_i c fs
      split at p1
      · rename_i fl hfl
        split at p1
        · rename_i hfc
          split at p1
          · rename_i v hv
            obtain ⟨C, g, _, _, h3, h4⟩ := F.cls c fl hfl
            cases rv with
            | exc0 hc ha => cases hv
            | excD ne hc ha hd rf =>
              rw [g] at hc; cases hc
              obtain ⟨y, hy, ry⟩ := rfs_lookup rf hv
              exact ⟨_, _, C, _, y, rfl, ha, hd, h3, h4 f (by simpa using hfc), hy, Post.now p1 rh1 ry⟩
          · exact bad_of p1
        · exact bad_of p1
      · exact bad_of p1
    · exact bad_of p1
  refine attr_of hb (thn (he.run pins s σ H _ I t2) fun u s1 hh => ?_)
  obtain ⟨x, H1, I1, rx, a, dx, C, gs, y, rfl, ha, hd, T, hno, hl, q⟩ := hh
  cases rx
  obtain ⟨oe, od, mA, J, hr, hlk⟩ := kept_at I1 ha hd
  obtain ⟨z, hz, rz⟩ := RelO.some_of (v := y) (o := mA f) (by rw [← hl]; exact hr f)
  exact HandSPX.exc_get I1.kIn J T.ga T.gg T.exC (PySem.W.findObj_own T.hdC hno rfl (by rw [hlk, hz])) (handed_of rz) ⟨y, H1, I1.tok _, rz, q⟩
end
end Fw

set_option maxRecDepth 100000
set_option maxHeartbeats 4000000
/-! ### the head's facts about exceptions with fields -/
namespace Fw
open PySem PySem.Spec PyProof.Rows L2
def oexB (K : PySem.W.Frag) (C : Addr) : Bool := match K.lookup C with
  | some ⟨.type "type", _, .cls cd, sl⟩ => (match cd.mro, sl.toList with
    | .ref C' :: bm, [_, _, _, _, some (.builtin n), _] => C' == C && (n == "ValueError.__new__" && (!cd.hasDel && (cd.hasDict && PySem.HandSPX.refsVE bm)))
    | _, _ => false)
  | _ => false
theorem oexB_ok {K : PySem.W.Frag} {C : Addr} (q : oexB K C = true) : ∃ nm q N bs bm sn sub ab col dd k0 k1 k2 k3 k5, K.lookup C = some (excClassObj nm q C N bs bm true sn sub ab col dd k0 k1 k2 k3 k5 "ValueError.__new__") ∧ PySem.HandSPX.refsVE bm = true := by
  unfold oexB at q
  split at q
  · rename_i dd cd sl ho
    split at q
    · rename_i C' bm k0 k1 k2 k3 n k5 hm hs
      simp only [Bool.and_eq_true, beq_iff_eq, Bool.not_eq_true'] at q
      obtain ⟨rfl, rfl, hdel, hdct, hbm⟩ := q
      obtain ⟨nm, bs, mro, ns, qn, hd, sn, sub, ab, col, del⟩ := cd
      dsimp only at hm hdel hdct
      subst hm hdel hdct
      have hsl : sl = #[k0, k1, k2, k3, some (.builtin "ValueError.__new__"), k5] := by
        obtain ⟨l⟩ := sl
        simp only at hs
        rw [hs]
      subst hsl
      exact ⟨nm, qn, ns, bs, bm, sn, sub, ab, col, dd, k0, k1, k2, k3, k5, ho, hbm⟩
    · cases q
  · cases q
def exfB (K : PySem.W.Frag) (x : Str) (fl : List Str) : Bool := (He.Fa.glo x).ok K && (oexB K (He.ga K x) && (He.eqO (PySem.W.findIn K (.ref (He.ga K x)) "__setattr__") (some (some (.builtin "object.__setattr__"))) && (decide (PySem.W.subIn K (.ref (He.ga K x)) (.type "BaseException") = some true) && (decide (PySem.W.typeIn K (.ref (He.ga K x)) = some (.type "type")) && (PySem.W.keepIn K (.ref (He.ga K x)) &&
  (He.eqO (PySem.W.findIn K (.ref (He.ga K x)) "__init__") (some (some (.ref (He.ma K (He.ga K x) "__init__")))) && (decide (PySem.W.typeIn K (.ref (He.ma K (He.ga K x) "__init__")) = some (.type "function")) && (fl.all (fun f => He.eqO (PySem.W.findIn K (.ref (He.ga K x)) f) (some none)) &&
  (He.eqO (PySem.W.findIn K (.ref (He.ga K x)) "__getattribute__") (some (some (.builtin "BaseException.__getattribute__"))) && (He.eqO (PySem.W.findIn K (.ref (He.ga K x)) "__getattr__") (some none) && (PySem.W.hasDictIn K (He.ga K x) &&
  (He.eqO (PySem.W.findIn K (.ref (He.ga K x)) "__class__") (some (some (.builtin "object.__class__"))) && (He.eqO (PySem.W.specialIn K (.builtin "object.__class__") "__get__") (some (some (.builtin "getset_descriptor.__get__"))) && (decide (PySem.W.takesIn K (.builtin "object.__class__") = some true) &&
  (decide (PySem.W.mroIn K (He.ga K x) (.type "object") = some true) && decide (PySem.W.kitOne K (.ref (He.ga K x)) (.type "ValueError") = some true))))))))))))))))
structure ExfO (K : PySem.W.Frag) (x : Str) (fl : List Str) : Prop where
  g : (He.Fa.glo x).ok K = true
  o : OexC K (He.ga K x)
  i : PySem.W.findIn K (.ref (He.ga K x)) "__init__" = some (some (.ref (He.ma K (He.ga K x) "__init__")))
  t : PySem.W.typeIn K (.ref (He.ma K (He.ga K x) "__init__")) = some (.type "function")
  f : ∀ f ∈ fl, PySem.W.findIn K (.ref (He.ga K x)) f = some none
  e : ExcC K (He.ga K x)
  k : PySem.W.kitOne K (.ref (He.ga K x)) (.type "ValueError") = some true
  x : XfC K (He.ga K x)
theorem exfB_ok {K : PySem.W.Frag} {x : Str} {fl : List Str} (q : exfB K x fl = true) : ExfO K x fl := by
  unfold exfB at q
  obtain ⟨q0, q⟩ := He.ba q
  obtain ⟨q1, q⟩ := He.ba q
  obtain ⟨q2, q⟩ := He.ba q
  obtain ⟨q3, q⟩ := He.ba q
  obtain ⟨q4, q⟩ := He.ba q
  obtain ⟨q5, q⟩ := He.ba q
  obtain ⟨q6, q⟩ := He.ba q
  obtain ⟨q7, q⟩ := He.ba q
  obtain ⟨q8, q⟩ := He.ba q
  obtain ⟨q9, q⟩ := He.ba q
  obtain ⟨qa, q⟩ := He.ba q
  obtain ⟨qb, q⟩ := He.ba q
  obtain ⟨qc, q⟩ := He.ba q
  obtain ⟨qd, q⟩ := He.ba q
  obtain ⟨qe, q⟩ := He.ba q
  obtain ⟨qf, qg⟩ := He.ba q
  have e3 := of_decide_eq_true q3
  exact ⟨q0, ⟨oexB_ok q1, He.eqO_ok q2, e3, of_decide_eq_true q4, q5⟩, He.eqO_ok q6, of_decide_eq_true q7, fun f hf => He.eqO_ok (List.all_eq_true.mp q8 f hf),
    ⟨He.eqO_ok q9, He.eqO_ok qa, e3, qb, He.eqO_ok qc, He.eqO_ok qd, of_decide_eq_true qe, of_decide_eq_true qf⟩, of_decide_eq_true qg, ⟨He.eqO_ok q9, He.eqO_ok qa, e3, qb⟩⟩
def teB (K : PySem.W.Frag) (t : Str) : Bool := (He.Fa.glo t).ok K && (He.eqO (PySem.W.specialIn K (.ref (He.ga K t)) "__getattribute__") (some (some (.builtin "type.__getattribute__"))) && (PySem.W.readsIn K (He.ga K t) (.type "type") &&
  (match PySem.W.findCls K (.ref (He.ga K t)) (.type "type") "__init__" with
    | some (.val v) => decide (v = .builtin "ValueError.__init__")
    | _ => false)))
theorem teB_ok {K : PySem.W.Frag} {t : Str} (q : teB K t = true) : (He.Fa.glo t).ok K = true ∧ TeC K (He.ga K t) := by
  unfold teB at q
  obtain ⟨q0, q⟩ := He.ba q
  obtain ⟨q1, q⟩ := He.ba q
  obtain ⟨q2, q3⟩ := He.ba q
  refine ⟨q0, He.eqO_ok q1, q2, ?_⟩
  split at q3
  · rename_i v e
    rw [e, of_decide_eq_true q3]
  · cases q3
def exFB (kf : List (Str × List Str)) (t : Str) (K : PySem.W.Frag) : Bool := teB K t && kf.all fun p => exfB K p.1 p.2
theorem lookup_memF {kf : List (Str × List Str)} {x : Str} {fl : List Str} (e : kf.lookup x = some fl) : (x, fl) ∈ kf := by
  induction kf with
  | nil => cases e
  | cons p r ih =>
    obtain ⟨y, gl⟩ := p
    rw [List.lookup_cons] at e
    cases c : x == y with
    | true => rw [c] at e; cases e; rw [beq_iff_eq.mp c]; exact List.mem_cons_self
    | false => rw [c] at e; exact List.mem_cons_of_mem _ (ih e)
theorem exFB_of {kf : List (Str × List Str)} {t : Str} {K : PySem.W.Frag} (q : exFB kf t K = true) {x : Str} {fl : List Str} (m : (x, fl) ∈ kf) : ExfO K x fl := exfB_ok (List.all_eq_true.mp (He.ba q).2 _ m)
theorem exFB_te {kf : List (Str × List Str)} {t : Str} {K : PySem.W.Frag} {h : Heap} {mg : Str → Option Value} (X : K.In h) (G : h.Ns mainGlobals mg) (q : exFB kf t K = true) : ∃ T, mg t = some (.ref T) ∧ TeC K T := ⟨_, He.glo_ok X G (teB_ok (He.ba q).1).1, (teB_ok (He.ba q).1).2⟩
theorem xtf_of {kf : List (Str × List Str)} {t : Str} {K : PySem.W.Frag} {h : Heap} {mg : Str → Option Value} (X : K.In h) (G : h.Ns mainGlobals mg) (q : exFB kf t K = true) : XTF K mg kf := ⟨fun x fl e => by
  have O := exFB_of q (lookup_memF e)
  exact ⟨_, He.glo_ok X G O.g, O.e, O.k, O.x, O.f⟩⟩
def obsFE (fa : List He.Fa) (fn : List He.DefD) (kn : List Str) (tab : List (Str × Str × Bool)) (kf : List (Str × List Str)) (t : Str) (K : PySem.W.Frag) : Bool × He.AlD := (exB kn tab K && exFB kf t K, He.obsD fa fn K)
def obsF (n : Nat) (fa : List He.Fa) (fn : List He.DefD) (kn : List Str) (tab : List (Str × Str × Bool)) (kf : List (Str × List Str)) (t : Str) (g : Addr → Option Obj) : Bool × He.AlD := obsFE fa fn kn tab kf t (He.frG g (He.asD g n ++ [PySem.cStatics]))
def hookF (n : Nat) (fa : List He.Fa) (fn : List He.DefD) (kn : List Str) (tab : List (Str × Str × Bool)) (kf : List (Str × List Str)) (t : Str) : PySem.W.Hook where
  α := Bool × He.AlD
  obs := fun s => obsF n fa fn kn tab kf t s.heap.get?
  val := fun _ => (true, He.valD fn)
  says := fun _ h => ∃ K : PySem.W.Frag, K.In h ∧ He.SaysD fa fn K ∧ exB kn tab K = true ∧ exFB kf t K = true
  of := fun _ _ e => ⟨_, He.frG_in, congrArg Prod.snd e, (He.ba (congrArg Prod.fst e)).1, (He.ba (congrArg Prod.fst e)).2⟩
  keeps := fun _ _ _ ⟨K, hK, c⟩ k => ⟨K, PySem.W.Frag.In.keeps hK k, c⟩
theorem obsF_eq {n : Nat} {fa : List He.Fa} {fn : List He.DefD} {kn : List Str} {tab : List (Str × Str × Bool)} {kf : List (Str × List Str)} {t : Str} {g : Addr → Option Obj} {s : Shared} (h : ∀ a, g a = s.heap.get? a) : obsF n fa fn kn tab kf t g = (hookF n fa fn kn tab kf t).obs s := by
  rw [show g = s.heap.get? from funext h]
  rfl
end Fw

set_option maxRecDepth 100000
set_option maxHeartbeats 4000000
/-! ### zip of a tuple and a list, of a list and a tuple -/
namespace Fw
open PySem PySem.Spec PyProof.Rows L2
/-- one step of an iterator i over what stands at l: S ahead of it, S' behind it; no item: it ends -/
structure Stp (i l : Addr) (x : Option Value) (S S' : Heap → Prop) : Prop where
  kp : ∀ {h h' : Heap}, S h → (∀ c, c = i ∨ c = l → ∀ o, h.get? c = some o → h'.get? c = some o) → S h'
  kp' : ∀ {h h' : Heap}, S' h → (∀ c, c = i ∨ c = l → ∀ o, h.get? c = some o → h'.get? c = some o) → S' h'
  itm : ∀ {v : Value}, x = some v → ∀ {prog : Program} {w : World} {A : Around} {E : Value → Shared → Prop} {s : Shared} {Q : Value → Shared → Prop}, S s.heap → (∀ h', S' h' → Heap.SameBut i s.heap h' → Q v { s with heap := h' }) → wpAny (model prog w) A (Builtin.SmallTypes.nextOf (.ref i)) Q E s
  fin : x = none → ∀ {prog : Program} {w : World} {A : Around} {E : Value → Shared → Prop} {s : Shared} {Q : Value → Shared → Prop}, A.handled = none → S s.heap →
    (∀ h' e, Heap.ExtBut i s.heap h' → (∃ o, h'.get? e = some o ∧ o.cls = .type "StopIteration") → E (.ref e) { s with heap := h' }) → wpAny (model prog w) A (Builtin.SmallTypes.nextOf (.ref i)) Q E s
theorem stp_tup {i l : Addr} {k : Nat} {xs : Array Value} (ne : l ≠ i) : Stp i l xs[k]? (fun h => h.IsTupleIter i l k ∧ h.IsTuple l xs) (fun h => h.IsTupleIter i l (k + 1) ∧ h.IsTuple l xs) where
  kp := fun ⟨a, b⟩ h => ⟨a.at (h i (.inl rfl)), b.at (h l (.inr rfl))⟩
  kp' := fun ⟨a, b⟩ h => ⟨a.at (h i (.inl rfl)), b.at (h l (.inr rfl))⟩
  itm := fun e _ _ _ _ _ _ ⟨a, b⟩ hQ => RZ.nextOf_tuple_item a b e fun h' q s => hQ h' ⟨q, b.extBut s.extBut ne⟩ s
  fin := fun e _ _ _ _ _ _ hh ⟨a, b⟩ hE => RZ.nextOf_tuple_end hh a b e hE
theorem stp_lst {i l : Addr} {k : Nat} {xs : Array Value} (ne : l ≠ i) : Stp i l xs[k]? (fun h => h.IsListIter i l k ∧ h.IsList l xs) (fun h => h.IsListIter i l (k + 1) ∧ h.IsList l xs) where
  kp := fun ⟨a, b⟩ h => ⟨a.at (h i (.inl rfl)), b.at (h l (.inr rfl))⟩
  kp' := fun ⟨a, b⟩ h => ⟨a.at (h i (.inl rfl)), b.at (h l (.inr rfl))⟩
  itm := fun e _ _ _ _ _ _ ⟨a, b⟩ hQ => wpAny_nextOf_list_item a b e fun h' q s => hQ h' ⟨q, b.extBut s.extBut ne⟩ s
  fin := fun e _ _ _ _ _ _ hh ⟨a, b⟩ hE => wpAny_nextOf_list_end hh a b e hE
/-- all but four cells are as they were -/
def Kp4 (z TO i1 i2 : Addr) (h h' : Heap) : Prop := ∀ c o, c ≠ z → c ≠ TO → c ≠ i1 → c ≠ i2 → h.get? c = some o → h'.get? c = some o
theorem Stp.apart {i l a : Addr} {x : Option Value} {S S' : Heap → Prop} (t : Stp i l x S S') {h h' : Heap} (q : S h) (e : Heap.ExtBut a h h') (n1 : i ≠ a) (n2 : l ≠ a) : S h' :=
  t.kp q fun c hc o ho => e _ _ (by rcases hc with r | r <;> rw [r] <;> assumption) ho
theorem Stp.apart' {i l a : Addr} {x : Option Value} {S S' : Heap → Prop} (t : Stp i l x S S') {h h' : Heap} (q : S' h) (e : Heap.ExtBut a h h') (n1 : i ≠ a) (n2 : l ≠ a) : S' h' :=
  t.kp' q fun c hc o ho => e _ _ (by rcases hc with r | r <;> rw [r] <;> assumption) ho
section
variable {prog : Program} {w : World} {A : Around} {E : Value → Shared → Prop} {s : Shared} {z TI TO i1 i2 l1 l2 : Addr} {x y a b : Value} {S1 T1 S2 T2 : Heap → Prop}
theorem zs_item {Q : Value → Shared → Prop} (D : ZipApart z TI TO i1 i2 l1 l2) (hz : IsZip s.heap z TI TO .none) (hTI : IsPair s.heap TI (.ref i1) (.ref i2)) (hTO : IsPair s.heap TO a b)
    (s1 : Stp i1 l1 (some x) S1 T1) (s2 : Stp i2 l2 (some y) S2 T2) (q1 : S1 s.heap) (q2 : S2 s.heap)
    (hQ : ∀ h', IsZip h' z TI TO (rawInt s.heap.objs.size) → IsPair h' TO x y → T1 h' → T2 h' → IsPair h' s.heap.objs.size x y → h'.objs.size = s.heap.objs.size + 1 → Kp4 z TO i1 i2 s.heap h' → Q (.ref s.heap.objs.size) { s with heap := h' }) :
    wpAny (model prog w) A (Builtin.«zip.__next__» ⟨[.ref z], []⟩) (fun fin s' => ∃ v, fin = .done (.ret v) ∧ Q v s') E s := by
  show wpAny _ _ (field (.ref z) 2 >>= _) _ _ _
  refine wpAny_bind (wpAny_field hz rfl (x := .bool false) rfl ?_)
  show wpAny _ _ (field (.ref z) 3 >>= _) _ _ _
  refine wpAny_bind (wpAny_field hz rfl (x := .ref TI) rfl (wpAny_bind (wpAny_seqItems hTI rfl ?_)))
  show wpAny _ _ (Builtin.SmallTypes.ownedTupleIsFree (.ref z) >>= _) _ _ _
  unfold Builtin.SmallTypes.ownedTupleIsFree
  refine wpAny_bind (wpAny_bind (wpAny_field hz rfl (x := .none) rfl (wpAny_pure ?_)))
  simp only [if_true]
  refine wpAny_bind (wpAny_rule (wpAny_bind (wpAny_field hz rfl (x := .ref TO) rfl (wpAny_bind (wpAny_setField_rec hz (by simp) fun ha za ea => ?_)))))
  replace za : IsZip ha z TI TO .ellipsis := za
  refine wpAny_bind ?_
  simp only [List.zipIdx_cons, List.zipIdx_nil, List.forIn_cons, List.forIn_nil]
  -- the first one
  refine wpAny_bind (wpAny_bind (wpAny_onRaise ?_))
  show wpAny _ _ (Builtin.SmallTypes.nextOf (.ref i1) >>= _) _ _ _
  refine wpAny_bind (s1.itm rfl (s1.apart q1 ea.extBut D.i1z D.l1z) fun hb qb eb => wpAny_pure ?_)
  have Tb : IsPair hb TO a b := eb.extBut _ _ D.TOi1 (ea.extBut _ _ D.TOz hTO)
  refine wpAny_bind (wpAny_seqItems Tb rfl (wpAny_bind (wpAny_updateSeq_pair Tb fun hc Tc ec => ?_)))
  replace Tc : IsPair hc TO x b := Tc
  refine wpAny_bind (wpAny_letGo (wpAny_pure ?_))
  -- the second one
  refine wpAny_bind (wpAny_bind (wpAny_onRaise ?_))
  show wpAny _ _ (Builtin.SmallTypes.nextOf (.ref i2) >>= _) _ _ _
  have qc : S2 hc := s2.apart (s2.apart (s2.apart q2 ea.extBut D.i2z D.l2z) eb.extBut D.i12.symm D.l2i1) ec.extBut D.TOi2.symm D.l2TO
  refine wpAny_bind (s2.itm rfl qc fun hd qd ed => wpAny_pure ?_)
  have Td : IsPair hd TO x b := ed.extBut _ _ D.TOi2 Tc
  refine wpAny_bind (wpAny_seqItems Td rfl (wpAny_bind (wpAny_updateSeq_pair Td fun he Te ee => ?_)))
  replace Te : IsPair he TO x y := Te
  refine wpAny_bind (wpAny_letGo (wpAny_pure (wpAny_pure ?_)))
  refine wpAny_bind (wpAny_seqItems Te rfl (wpAny_bind (wpAny_newTuple ?_)))
  have zn : he.objs.size = s.heap.objs.size := by rw [ee.1, ed.1, ec.1, eb.1, ea.1]
  have ze : IsZip he z TI TO .ellipsis := ee.extBut _ _ D.TOz.symm (ed.extBut _ _ D.i2z.symm (ec.extBut _ _ D.TOz.symm (eb.extBut _ _ D.i1z.symm za)))
  have ke : Kp4 z TO i1 i2 s.heap he := fun c o c1 c2 c3 c4 e => ee.extBut _ _ c2 (ed.extBut _ _ c4 (ec.extBut _ _ c2 (eb.extBut _ _ c3 (ea.extBut _ _ c1 e))))
  have p1 : T1 he := s1.apart' (s1.apart' (s1.apart' qb ec.extBut D.TOi1.symm D.l1TO) ed.extBut D.i12 D.l1i2) ee.extBut D.TOi1.symm D.l1TO
  have p2 : T2 he := s2.apart' qd ee.extBut D.TOi2.symm D.l2TO
  have zl : z < he.objs.size := Heap.lt_size ze
  show wpAny _ _ (Builtin.SmallTypes.ownedTupleHandOut (.ref z) (.ref he.objs.size) >>= _) _ _ _
  unfold Builtin.SmallTypes.ownedTupleHandOut
  have zf : IsZip (he.push { cls := .type "tuple", data := .seq #[x, y] }) z TI TO .ellipsis := Heap.get?_push_of_some _ ze
  refine wpAny_bind (wpAny_bind (wpAny_setField_rec zf (by simp) fun hf zg ef => ?_))
  replace zg : IsZip hf z TI TO (rawInt he.objs.size) := zg
  refine wpAny_setField_rec zg (by simp) fun hg zh eg => ?_
  replace zh : IsZip hg z TI TO (rawInt he.objs.size) := zh
  have up : Heap.ExtBut z he hg := fun c o c1 e => eg.extBut _ _ c1 (ef.extBut _ _ c1 (Heap.get?_push_of_some _ e))
  have tg : IsPair hg he.objs.size x y := eg.extBut _ _ (Nat.ne_of_gt zl) (ef.extBut _ _ (Nat.ne_of_gt zl) (Heap.get?_push_size _ rfl))
  have sg : hg.objs.size = he.objs.size + 1 := by rw [eg.1, ef.1, Heap.size_push]
  rw [zn] at zh tg sg
  refine wpAny_pure ⟨_, rfl, ?_⟩
  show Q (.ref he.objs.size) _
  rw [zn]
  exact hQ hg zh (up _ _ D.TOz Te) (s1.apart' p1 up D.i1z D.l1z) (s2.apart' p2 up D.i2z D.l2z) tg sg fun c o c1 c2 c3 c4 e => up _ _ c1 (ke c o c1 c2 c3 c4 e)
theorem zs_end {ox oy : Option Value} {Q : Fin → Shared → Prop} (hh : A.handled = none) (D : ZipApart z TI TO i1 i2 l1 l2) (hz : IsZip s.heap z TI TO .none) (hTI : IsPair s.heap TI (.ref i1) (.ref i2)) (hTO : IsPair s.heap TO a b)
    (s1 : Stp i1 l1 ox S1 T1) (s2 : Stp i2 l2 oy S2 T2) (q1 : S1 s.heap) (q2 : S2 s.heap) (hn : ox = none ∨ oy = none)
    (hE : ∀ h' e, Kp4 z TO i1 i2 s.heap h' → (∃ o, h'.get? e = some o ∧ o.cls = .type "StopIteration") → E (.ref e) { s with heap := h' }) :
    wpAny (model prog w) A (Builtin.«zip.__next__» ⟨[.ref z], []⟩) Q E s := by
  have off : ∀ {g : Heap} {e : Addr}, IsZip g z TI TO .ellipsis → (∃ o, g.get? e = some o ∧ o.cls = .type "StopIteration") → e ≠ z := by
    rintro g e hg ⟨o, ho, hc⟩ rfl
    rw [hg] at ho; cases ho; simp at hc
  show wpAny _ _ (field (.ref z) 2 >>= _) _ _ _
  refine wpAny_bind (wpAny_field hz rfl (x := .bool false) rfl ?_)
  show wpAny _ _ (field (.ref z) 3 >>= _) _ _ _
  refine wpAny_bind (wpAny_field hz rfl (x := .ref TI) rfl (wpAny_bind (wpAny_seqItems hTI rfl ?_)))
  show wpAny _ _ (Builtin.SmallTypes.ownedTupleIsFree (.ref z) >>= _) _ _ _
  unfold Builtin.SmallTypes.ownedTupleIsFree
  refine wpAny_bind (wpAny_bind (wpAny_field hz rfl (x := .none) rfl (wpAny_pure ?_)))
  simp only [if_true]
  refine wpAny_bind (wpAny_rule (wpAny_bind (wpAny_field hz rfl (x := .ref TO) rfl (wpAny_bind (wpAny_setField_rec hz (by simp) fun ha za ea => ?_)))))
  replace za : IsZip ha z TI TO .ellipsis := za
  refine wpAny_bind ?_
  simp only [List.zipIdx_cons, List.zipIdx_nil, List.forIn_cons, List.forIn_nil]
  refine wpAny_bind (wpAny_bind (wpAny_onRaise ?_))
  show wpAny _ _ (Builtin.SmallTypes.nextOf (.ref i1) >>= _) _ _ _
  have qa := s1.apart q1 ea.extBut D.i1z D.l1z
  cases ox with
  | none =>
    refine wpAny_bind (s1.fin rfl hh qa fun hb e eb he => ?_)
    have zb : IsZip hb z TI TO .ellipsis := eb _ _ D.i1z.symm za
    have ez := off zb he
    obtain ⟨o, ho, hc⟩ := he
    exact wpAny_setField_rec zb (by simp) fun hc' _ ec => hE hc' e (fun c o c1 _ c3 _ q => ec.extBut _ _ c1 (eb _ _ c3 (ea.extBut _ _ c1 q))) ⟨o, ec.extBut _ _ ez ho, hc⟩
  | some x =>
    have ey : oy = none := by rcases hn with q | q; cases q; exact q
    refine wpAny_bind (s1.itm rfl qa fun hb qb eb => wpAny_pure ?_)
    have Tb : IsPair hb TO a b := eb.extBut _ _ D.TOi1 (ea.extBut _ _ D.TOz hTO)
    refine wpAny_bind (wpAny_seqItems Tb rfl (wpAny_bind (wpAny_updateSeq_pair Tb fun hc Tc ec => ?_)))
    refine wpAny_bind (wpAny_letGo (wpAny_pure (wpAny_bind (wpAny_bind (wpAny_onRaise ?_)))))
    show wpAny _ _ (Builtin.SmallTypes.nextOf (.ref i2) >>= _) _ _ _
    have qc : S2 hc := s2.apart (s2.apart (s2.apart q2 ea.extBut D.i2z D.l2z) eb.extBut D.i12.symm D.l2i1) ec.extBut D.TOi2.symm D.l2TO
    refine wpAny_bind (s2.fin ey hh qc fun hd e ed he => ?_)
    have zd : IsZip hd z TI TO .ellipsis := ed _ _ D.i2z.symm (ec.extBut _ _ D.TOz.symm (eb.extBut _ _ D.i1z.symm za))
    have ez := off zd he
    obtain ⟨o, ho, hcl⟩ := he
    exact wpAny_setField_rec zd (by simp) fun hf _ ef => hE hf e (fun c o c1 c2 c3 c4 q => ef.extBut _ _ c1 (ed _ _ c4 (ec.extBut _ _ c2 (eb.extBut _ _ c3 (ea.extBut _ _ c1 q))))) ⟨o, ef.extBut _ _ ez ho, hcl⟩
theorem pyNext_zs_item {Q : Option Value → Shared → Prop} (D : ZipApart z TI TO i1 i2 l1 l2) (hz : IsZip s.heap z TI TO .none) (hTI : IsPair s.heap TI (.ref i1) (.ref i2)) (hTO : IsPair s.heap TO a b)
    (s1 : Stp i1 l1 (some x) S1 T1) (s2 : Stp i2 l2 (some y) S2 T2) (q1 : S1 s.heap) (q2 : S2 s.heap)
    (hQ : ∀ h', IsZip h' z TI TO (rawInt s.heap.objs.size) → IsPair h' TO x y → T1 h' → T2 h' → IsPair h' s.heap.objs.size x y → h'.objs.size = s.heap.objs.size + 1 → Kp4 z TO i1 i2 s.heap h' → Q (some (.ref s.heap.objs.size)) { s with heap := h' }) :
    wpAny (model prog w) A (pyNext (.ref z)) Q E s := by
  have hT : s.TypeIs (.ref z) "zip" := ⟨_, hz, rfl⟩
  unfold pyNext
  refine wpAny_bind (wpAny_attempt (wpAny_callSpecial?_slot (name := Str.ofString "__next__") hT F.slot_zip_next (wpAny_call_entry F.slot_zip_next hT F.entry_zip_next ?_ (F.args_zip_next_1 _))))
  exact zs_item D hz hTI hTO s1 s2 q1 q2 fun h' r1 r2 r3 r4 r5 r6 r7 => wpAny_pure (hQ h' r1 r2 r3 r4 r5 r6 r7)
theorem pyNext_zs_end {ox oy : Option Value} {Q : Option Value → Shared → Prop} (hh : A.handled = none) (D : ZipApart z TI TO i1 i2 l1 l2) (hz : IsZip s.heap z TI TO .none) (hTI : IsPair s.heap TI (.ref i1) (.ref i2)) (hTO : IsPair s.heap TO a b)
    (s1 : Stp i1 l1 ox S1 T1) (s2 : Stp i2 l2 oy S2 T2) (q1 : S1 s.heap) (q2 : S2 s.heap) (hn : ox = none ∨ oy = none) (hQ : ∀ h', Kp4 z TO i1 i2 s.heap h' → Q none { s with heap := h' }) : wpAny (model prog w) A (pyNext (.ref z)) Q E s := by
  have hT : s.TypeIs (.ref z) "zip" := ⟨_, hz, rfl⟩
  unfold pyNext
  refine wpAny_bind (wpAny_attempt (wpAny_callSpecial?_slot (name := Str.ofString "__next__") hT F.slot_zip_next (wpAny_call_entry F.slot_zip_next hT F.entry_zip_next ?_ (F.args_zip_next_1 _))))
  refine zs_end hh D hz hTI hTO s1 s2 q1 q2 hn fun h' e hk he => ?_
  obtain ⟨o, ho, hc⟩ := he
  exact wpAny_bind (wpAny_isInstance (T := "StopIteration") (b := true) ⟨o, ho, hc⟩ isSubtype_stop (wpAny_pure (hQ _ hk)))
end
end Fw

set_option maxRecDepth 100000
set_option maxHeartbeats 1000000
namespace Fw
open PySem PySem.Spec PyProof.Rows L2
abbrev zm1 (h : Heap) (l1 : Addr) : Heap := h.push { cls := .type "tuple_iterator", data := .fields #[.ref l1, .int 0 0] }
abbrev zm2 (h : Heap) (l1 l2 : Addr) : Heap := (zm1 h l1).push { cls := .type "list_iterator", data := .fields #[.ref l2, .int 0 0] }
abbrev zm3 (h : Heap) (l1 l2 : Addr) : Heap := (zm2 h l1 l2).push { cls := .type "tuple", data := .seq #[.ref h.objs.size, .ref (zm1 h l1).objs.size] }
abbrev zm4 (h : Heap) (l1 l2 : Addr) : Heap := (zm3 h l1 l2).push { cls := .type "tuple", data := .seq #[.none, .none] }
abbrev zm5 (h : Heap) (l1 l2 : Addr) : Heap := (zm4 h l1 l2).push { cls := .type "zip", data := .fields #[.none, .bool false, .bool false, .ref (zm2 h l1 l2).objs.size, .ref (zm3 h l1 l2).objs.size] }
theorem zm_new (l1 l2 : Addr) (xs ys : Array Value) : Meets (Builtin.«zip.__new__» ⟨[.type "zip", .ref l1, .ref l2], []⟩) (fun _ R s => s.heap.IsTuple l1 xs ∧ s.heap.IsList l2 ys ∧ R (.ok (.ret (.ref (zm4 s.heap l1 l2).objs.size))) { s with heap := zm5 s.heap l1 l2 }) :=
  .of_wp fun prog w A R s h => by
    obtain ⟨hp, g, d, tk, os⟩ := s
    obtain ⟨t1, t2, h⟩ := h
    have hsub := sub_zip
    have u1 : Heap.IsTuple (Shared.heap ⟨hp, g, d, tk, os⟩) l1 xs := t1
    have u2 : Heap.IsList (Shared.heap ⟨hp.push { cls := .type "tuple_iterator", data := .fields #[.ref l1, .int 0 0] }, g, d, tk, os⟩) l2 ys := Heap.IsList.push t2 _
    wp_walk using wpAny_pyIter_tuple u1, wpAny_pyIter_list u2
    exact ⟨_, rfl, h⟩
theorem call_zm {prog : Program} {w : World} {A : Around} {E : Value → Shared → Prop} {s : Shared} {l1 l2 : Addr} {xs ys : Array Value} {Q : Value → Shared → Prop} (t1 : s.heap.IsTuple l1 xs) (t2 : s.heap.IsList l2 ys)
    (h : ∀ h', IsZip h' (s.heap.objs.size + 4) (s.heap.objs.size + 2) (s.heap.objs.size + 3) .none → IsPair h' (s.heap.objs.size + 2) (.ref s.heap.objs.size) (.ref (s.heap.objs.size + 1)) → IsPair h' (s.heap.objs.size + 3) .none .none →
      h'.IsTupleIter s.heap.objs.size l1 0 → h'.IsListIter (s.heap.objs.size + 1) l2 0 → (∀ c o, s.heap.get? c = some o → h'.get? c = some o) → Q (.ref (s.heap.objs.size + 4)) { s with heap := h' }) :
    wpAny (model prog w) A (call (.type "zip") [.ref l1, .ref l2]) Q E s := by
  refine callType_new F.called_zip (by decide) (F.typeCall_zip_2 _ _) (F.newCall_zip_2 _ _) (fun obj => F.args_object_init_3 obj _ _) F.entry_zip_new (zm_new l1 l2 xs ys) ⟨t1, t2, ?_⟩
  have n1 : (zm1 s.heap l1).objs.size = s.heap.objs.size + 1 := Heap.size_push ..
  have n2 : (zm2 s.heap l1 l2).objs.size = s.heap.objs.size + 2 := by rw [Heap.size_push, n1]
  have n3 : (zm3 s.heap l1 l2).objs.size = s.heap.objs.size + 3 := by rw [Heap.size_push, n2]
  have n4 : (zm4 s.heap l1 l2).objs.size = s.heap.objs.size + 4 := by rw [Heap.size_push, n3]
  have up : ∀ {g : Heap} {o' : Obj} {c : Addr} {o : Obj}, g.get? c = some o → (g.push o').get? c = some o := fun e => Heap.get?_push_of_some _ e
  have g5 : (zm5 s.heap l1 l2).get? (zm4 s.heap l1 l2).objs.size = some _ := Heap.get?_push_size _ rfl
  have g4 : (zm5 s.heap l1 l2).get? (zm3 s.heap l1 l2).objs.size = some _ := up (Heap.get?_push_size _ rfl)
  have g3 : (zm5 s.heap l1 l2).get? (zm2 s.heap l1 l2).objs.size = some _ := up (up (Heap.get?_push_size _ rfl))
  have g2 : (zm5 s.heap l1 l2).get? (zm1 s.heap l1).objs.size = some _ := up (up (up (Heap.get?_push_size _ rfl)))
  have g1 : (zm5 s.heap l1 l2).get? s.heap.objs.size = some _ := up (up (up (up (Heap.get?_push_size _ rfl))))
  show _ ∧ _
  rw [n2, n3, n4] at g5
  rw [n1, n2] at g3
  rw [n3] at g4
  rw [n1] at g2
  rw [n4]
  exact ⟨⟨_, g5, rfl⟩, h _ g5 g3 g4 ⟨_, g1, rfl, rfl⟩ ⟨_, g2, rfl, rfl⟩ fun c o e => up (up (up (up (up e))))⟩
/-- the tuple at a and the list at b as they stand at each turn, the items in new pairs -/
def ItzM (K : PySem.W.Frag) (a b : Addr) : It :=
  ⟨fun i H => ∃ (xs ys : List V) (x y : V), SqT K H a xs ∧ SqL K H b ys ∧ xs[i]? = some x ∧ ys[i]? = some y,
    fun i H v H' => ∃ T x y, v = .ref T ∧ H T = none ∧ H' = upd H T (.tup [x, y]) ∧ (∀ xs, SqT K H a xs → xs[i]? = some x) ∧ ∀ ys, SqL K H b ys → ys[i]? = some y,
    fun i H => ∃ xs ys : List V, SqT K H a xs ∧ SqL K H b ys ∧ (xs.length ≤ i ∨ ys.length ≤ i)⟩
theorem turn_zm {P : Program} {w : World} {K : PySem.W.Frag} {elts : List Expr} {kk : Nat} {tpos : Pos} {a b z TI TO i1 i2 : Addr} (D : ZipApart z TI TO i1 i2 a b) :
    Turn P w K (.Tuple elts kk tpos) (ItzM K a b) [z, TI, TO, i1, i2] z (fun i h => IsZip h z TI TO .none ∧ IsPair h TI (.ref i1) (.ref i2) ∧ (∃ x y, IsPair h TO x y) ∧ h.IsTupleIter i1 a i ∧ h.IsListIter i2 b i) where
  mem := List.mem_cons_self
  obj := by
    rintro i h ⟨hz, hTI, ⟨x, y, hTO⟩, ⟨o1, e1, _, d1⟩, o2, e2, _, d2⟩ c hc
    simp only [List.mem_cons, List.not_mem_nil, or_false] at hc
    rcases hc with q | q | q | q | q
    · rw [q]; exact ⟨_, hz, fun v r => nomatch r⟩
    · rw [q]; exact ⟨_, hTI, fun v r => nomatch r⟩
    · rw [q]; exact ⟨_, hTO, fun v r => nomatch r⟩
    · rw [q]; exact ⟨o1, e1, fun v r => by rw [d1] at r; cases r⟩
    · rw [q]; exact ⟨o2, e2, fun v r => by rw [d2] at r; cases r⟩
  keep := by
    rintro i h h' ⟨hz, hTI, ⟨x, y, hTO⟩, h1, h2⟩ k
    exact ⟨k z (by simp) _ hz, k TI (by simp) _ hTI, ⟨x, y, k TO (by simp) _ hTO⟩, h1.at (k i1 (by simp)), h2.at (k i2 (by simp))⟩
  item := by
    rintro X rfl rfl rfl hc i pins s σ H E I hf ⟨hz, hTI, ⟨x0, y0, hTO⟩, h1, h2⟩ ⟨xs, ys, x, y, hqx, hqy, hx, hy⟩
    obtain ⟨its, rv, p, _⟩ := I.tuple hqx
    obtain ⟨its2, rv2, p2, _⟩ := I.list hqy
    obtain ⟨u, hu, ru⟩ := rv.get hx
    obtain ⟨u2, hu2, ru2⟩ := rv2.get hy
    have s1 := stp_tup (i := i1) (l := a) (k := i) (xs := its.toArray) D.l1i1
    have s2 := stp_lst (i := i2) (l := b) (k := i) (xs := its2.toArray) D.l2i2
    rw [show its.toArray[i]? = some u by simpa using hu] at s1
    rw [show its2.toArray[i]? = some u2 by simpa using hu2] at s2
    have zl : z < s.heap.objs.size := Heap.lt_size hz
    refine pyNext_zs_item D hz hTI hTO s1 s2 ⟨h1, p⟩ ⟨h2, p2.isList⟩ fun h' z' TO' q1 q2 hT hsz hk => ?_
    refine ⟨_, rfl, wpAny_letOwnedTupleGo_zip (s := { s with heap := h' }) z' fun h'' z'' sb => ?_⟩
    have hT2 : h''.get? s.heap.objs.size = some { cls := .type "tuple", data := .seq #[u, u2] } := (sb.2 _ (Nat.ne_of_gt zl)).trans hT
    have nw : ObjOk X.prog X.w (upd H s.heap.objs.size (.tup [x, y])) h'' s.heap.objs.size (.tup [x, y]) := ⟨by show 2 ≤ sizeLine; decide, [u, u2], .cons ru (.cons ru2 .nil), ⟨_, hT2, rfl, _, rfl⟩⟩
    have ky : ∀ c o, c ∉ [z, TI, TO, i1, i2] → s.heap.get? c = some o → h''.get? c = some o := fun c o hb q => by
      simp only [List.mem_cons, List.not_mem_nil, or_false, not_or] at hb
      exact (sb.2 c hb.1).trans (hk c o hb.1 hb.2.2.1 hb.2.2.2.1 hb.2.2.2.2 q)
    have I1 : Inv X pins σ (upd H s.heap.objs.size (.tup [x, y])) { s with heap := h'' } := I.turnedNew (t' := s.toks) (ch := [z, TI, TO, i1, i2]) ky hf (Nat.le_refl _) nw
    refine ⟨.ref s.heap.objs.size, _, I1, rfl, ⟨_, x, y, rfl, I.hok.fresh (Nat.le_refl _), rfl, fun l hl => by rw [I.tuple_inj hl hqx]; exact hx, fun l hl => by rw [I.list_inj hl hqy]; exact hy⟩, ⟨z'', ?_, ⟨u, u2, ?_⟩, ?_, ?_⟩, fun c hcm => ?_⟩
    · exact (sb.2 _ D.TIz).trans (hk _ _ D.TIz D.TITO D.TIi1 D.TIi2 hTI)
    · exact (sb.2 _ D.TOz).trans TO'
    · exact q1.1.at fun o q => (sb.2 _ D.i1z).trans q
    · exact q2.1.at fun o q => (sb.2 _ D.i2z).trans q
    · have lt : c < s.heap.objs.size := by
        have e' := hcm
        simp only [List.mem_cons, List.not_mem_nil, or_false] at e'
        rcases e' with q | q | q | q | q
        · rw [q]; exact zl
        · rw [q]; exact Heap.lt_size hTI
        · rw [q]; exact Heap.lt_size hTO
        · rw [q]; obtain ⟨_, e1, _⟩ := h1; exact Heap.lt_size e1
        · rw [q]; obtain ⟨_, e2, _⟩ := h2; exact Heap.lt_size e2
      rw [upd_ne (Nat.ne_of_lt lt)]
      exact (hf c hcm).1
  done := by
    rintro X rfl rfl rfl hc i pins s σ H E I hf ⟨hz, hTI, ⟨x0, y0, hTO⟩, h1, h2⟩ ⟨xs, ys, hqx, hqy, hend⟩
    obtain ⟨its, rv, p, _⟩ := I.tuple hqx
    obtain ⟨its2, rv2, p2, _⟩ := I.list hqy
    have l1 := rv.length
    have l2 := rv2.length
    refine pyNext_zs_end (I.ok.hd hc) D hz hTI hTO (stp_tup (k := i) D.l1i1) (stp_lst (k := i) D.l2i2) ⟨h1, p⟩ ⟨h2, p2.isList⟩ ?_ fun h' hk => ⟨rfl, I.turnedL (t' := s.toks) (ch := [z, TI, TO, i1, i2]) (fun c o hb q => ?_) hf⟩
    · rcases hend with q | q
      · exact .inl (by simp; omega)
      · exact .inr (by simp; omega)
    · simp only [List.mem_cons, List.not_mem_nil, or_false, not_or] at hb
      exact hk c o hb.1 hb.2.2.1 hb.2.2.2.1 hb.2.2.2.2 q
  self := fun A i s Q E st h => wpAny_pyIter_zip st.1 h
end Fw

set_option maxRecDepth 100000
set_option maxHeartbeats 1000000
namespace Fw
open PySem PySem.Spec PyProof.Rows L2
def iZipM (K : PySem.W.Frag) (ta : TA) : TI := fun σ H R => ta σ H fun vs H1 => ∃ a b xs ys, vs = [.ref a, .ref b] ∧ SqT K H1 a xs ∧ SqL K H1 b ys ∧ R (ItzM K a b) H1
theorem pi_zm {X : Cx} {e e2 : Expr} {ta : TA} {p pos tpos : Pos} {elts : List Expr} {kk : Nat} (hg : Gl X "zip") (hm : X.mg "zip" = none) (ha : PA X [e, e2] ta)
    (hs : starEach [e, e2] X.env = (false, eval e X.env) :: starEach [e2] X.env := by rfl) (hpl : (backTo pos (starEach [e2] X.env)).any (·.1) = false := by rfl) :
    PI X (.Tuple elts kk tpos) (.Call (.Name "zip" p) [e, e2] [] pos) (iZipM X.K ta) := by
  refine ⟨fun pins s σ H R I h => ?_⟩
  refine Call_ (ld_blt I hg hm PyProof.Rows.boot_zip (PyProof.Rows.callWith_type1 (thn (ha.run pos pins s σ H _ I h) fun us s1 ⟨vs, H1, I1, r1, q1⟩ => ?_) hs hpl))
  obtain ⟨a, b, xs, ys, ex, hqx, hqy, q⟩ := q1
  subst ex
  cases r1 with
  | cons r rr =>
    cases rr with
    | cons r' rr =>
      cases rr
      cases r
      cases r'
      have f5 : ∀ c, c ∈ [s1.heap.objs.size + 4, s1.heap.objs.size + 2, s1.heap.objs.size + 3, s1.heap.objs.size, s1.heap.objs.size + 1] → FpOk X pins H1 c := fun c hcm => by
        have e' : c = s1.heap.objs.size + 4 ∨ c = s1.heap.objs.size + 2 ∨ c = s1.heap.objs.size + 3 ∨ c = s1.heap.objs.size ∨ c = s1.heap.objs.size + 1 := by simpa using hcm
        have le : s1.heap.objs.size ≤ c := by
          clear hcm
          generalize s1.heap.objs.size = n at e' ⊢
          omega
        exact I1.fpOk le (I1.hok.fresh le)
      obtain ⟨its, rv, p1, _⟩ := I1.tuple hqx
      obtain ⟨its2, rv2, p2, _⟩ := I1.list hqy
      obtain ⟨o1, ho1, _⟩ := id p1
      refine call_zm (show s1.heap.IsTuple a its.toArray from p1) p2.isList fun h' hz hTI hTO h1 h2 hk => wpAny_pyIter_zip hz ?_
      have I2 : Inv X pins σ H1 { s1 with heap := h' } := I1.kept (t' := s1.toks) hk
      exact ⟨s1.heap.objs.size + 4, [s1.heap.objs.size + 4, s1.heap.objs.size + 2, s1.heap.objs.size + 3, s1.heap.objs.size, s1.heap.objs.size + 1], _, _, H1, rfl, I2, turn_zm (PySem.W.ktu_apart s1.heap.objs.size a b (Heap.lt_size ho1) p2.lt), ⟨hz, hTI, ⟨_, _, hTO⟩, h1, h2⟩, f5, q⟩
def zipM : List LV → M Items
  | [.tup xs, .ref k] => fun h => match h[k]? with
    | some (.lst ys) => .ok ⟨zipP xs ys, [(k, ys)]⟩ h
    | _ => .bad
  | _ => bad
section
variable {X : Cx} {W : WX} {e e2 : Expr}
theorem srv_zipM {H0 : Hp} {ρ0 : List Addr} {a b : Addr} {xs ys : List LV} {o : List (Nat × List LV)} (k : ∀ ρ h H, Ext ρ0 H0 ρ H → RH X.K X.mg ρ h H → keepB o h = true → (∃ vs, SqT X.K H a vs ∧ RVs X.K X.mg H ρ xs vs) ∧ ∃ us, SqL X.K H b us ∧ RVs X.K X.mg H ρ ys us) : Srv X.K X.mg H0 ρ0 ⟨zipP xs ys, o⟩ (ItzM X.K a b) := fun ρ h H e rh kb => by
  obtain ⟨⟨vs, hv, rv⟩, us, hu, ru⟩ := k ρ h H e rh kb
  have en := zipP_len xs ys
  refine ⟨fun i hi => ?_, fun i hi => ⟨vs, us, hv, hu, ?_⟩, fun i x H' hi y => ?_⟩
  · replace hi : i < (zipP xs ys).length := hi
    obtain ⟨z, hz, _⟩ := rv.get (List.getElem?_eq_getElem (show i < xs.length by omega))
    obtain ⟨w, hw, _⟩ := ru.get (List.getElem?_eq_getElem (show i < ys.length by omega))
    exact ⟨vs, us, z, w, hv, hu, hz, hw⟩
  · replace hi : (zipP xs ys).length ≤ i := hi
    have a1 := rv.length
    have a2 := ru.length
    omega
  · obtain ⟨T, z, w, rfl, nT, rfl, y1, y2⟩ := y
    obtain ⟨p, hp, rp⟩ := rv.get' (y1 vs hv)
    obtain ⟨q, hq, rq⟩ := ru.get' (y2 us hu)
    exact ⟨ext_new nT, rh.imm nT, _, zipP_get xs ys i p q hp hq, .tup upd_same (.cons (rp.up (ext_new nT)) (.cons (rq.up (ext_new nT)) .nil))⟩
theorem si_zipM {ma : LA} {p pos tpos : Pos} {elts : List Expr} {kk : Nat} (hg : Gl X "zip") (hm : X.mg "zip" = none) (ha : SA X W [e, e2] ma) (hs : starEach [e, e2] X.env = (false, eval e X.env) :: starEach [e2] X.env := by rfl) (hpl : (backTo pos (starEach [e2] X.env)).any (·.1) = false := by rfl) :
    SI X W (.Tuple elts kk tpos) (.Call (.Name "zip" p) [e, e2] [] pos) (itmC zipM ma) := by
  refine pi_imp (pi_zm hg hm ha hs hpl) fun σ H R ⟨s, ρ, h, rs, rh, p⟩ => ?_
  refine seqA rs rh p fun vs h1 ρ1 H1 xs e1 rh1 rv rs1 p1 => ?_
  unfold zipM at p1
  split at p1
  · obtain ⟨x, y, rfl, r, r'⟩ := rvs2 rv
    obtain ⟨a, va, rfl, ha, ra⟩ := rv_tup r
    cases r' with
    | ref hr' =>
      split at p1
      · rename_i ys el'
        obtain ⟨vb, hb, rb⟩ := rv_lst rh1 el' hr'
        refine ⟨_, _, va, vb, rfl, .of ha, .of hb, p1 ρ1 H1 _ Ext.refl rh1 (srv_zipM fun ρ2 h2 H2 e2 rh2 kb => ?_)⟩
        obtain ⟨v2, h5, h6⟩ := rv_lst rh2 (keepB_all kb List.mem_cons_self) (e2.pre _ _ hr')
        exact ⟨⟨va, .of (e2.imm _ _ ha rfl), ra.up e2⟩, v2, .of h5, h6⟩
      · exact bad_of p1
  · exact bad_of p1
end
end Fw

set_option maxRecDepth 100000
set_option maxHeartbeats 4000000
/-! ### isinstance(x, (S, T)) -/
namespace Fw
open PySem PySem.Spec PyProof.Rows L2
def tysOf : List LV → Option (List Ty)
  | [] => some []
  | .ty t :: r => (tysOf r).map (t :: ·)
  | _ => none
def isiU : List LV → M LV
  | [v, .tup ts] => fun h => match kdL h v, tysOf ts with
    | some k, some us => .ok (.bl (us.any (isK k))) h
    | _, _ => .bad
  | _ => bad
section
variable {X : Cx}
theorem tys_rvs {ρ : List Addr} {H : Hp} : ∀ {ts : List LV} {us : List Ty} {vs : List V}, tysOf ts = some us → RVs X.K X.mg H ρ ts vs → Paired ClsV vs (us.map fun t => Value.type t.nm)
  | [], _, _, e, r => by cases r; cases e; exact .nil
  | v :: ts, us, _, e, r => by
    cases r with
    | cons a b =>
      cases v <;> simp only [tysOf] at e <;> try cases e
      rename_i t
      cases e2 : tysOf ts with
      | none => rw [e2] at e; cases e
      | some ws =>
        rw [e2] at e
        cases e
        cases a
        exact .cons (.ty _) (tys_rvs e2 b)
theorem kitAny_all (K : PySem.W.Frag) (k : Kd) : ∀ us : List Ty, PySem.W.kitAny K (.type k.nm) (us.map fun t => Value.type t.nm) = some (us.any (isK k))
  | [] => rfl
  | t :: us => by
    rw [List.map_cons, List.any_cons]
    refine kitAny_cons (b := isK k t) (kit_ty (kit_all k t)) (fun e => ?_) (fun e => ?_)
    · rw [e, Bool.false_or]; exact kitAny_all K k us
    · rw [e]; rfl
theorem cal_isiU : CalS X isiU (rIsiT X.K) := by
  intro v x ρ h H E Q rh rv p
  unfold isiU at p
  split at p
  · rename_i v ts
    obtain ⟨x, y, rfl, r1, r2⟩ := rvs2 rv
    obtain ⟨a, vs, rfl, ha, ra⟩ := rv_tup r2
    split at p
    · rename_i k us e1 e2
      exact ⟨x, a, vs, _, _, _, rfl, ha, tys_rvs e2 ra, kd_ty rh r1 e1, kitAny_all _ k us, Post.now p rh (.bl _)⟩
    · exact bad_of p
  · exact bad_of p
end
end Fw

set_option maxRecDepth 100000
set_option maxHeartbeats 4000000
/-! ### texts: split, find, lstrip, f-strings -/
namespace Fw
open PySem PySem.Spec PyProof.Rows L2
def splL : LV → List LV → M LV
  | .str a, [.str b] => fun h => if (b.length == 0) = false ∧ a.length + 2 ≤ sizeLine then .ok (.ref h.length) (h ++ [.lst ((Txt.split a b).map LV.str)]) else .bad
  | _, _ => bad
def findL : LV → List LV → M LV
  | .str a, [.str b] => ret (.int (Txt.find a b))
  | _, _ => bad
def lstrL : LV → List LV → M LV
  | .str a, [.str b] => fun h => if a.length ≤ sizeLine then .ok (.str (Txt.lstripChars a b)) h else .bad
  | _, _ => bad
def mulS : LV → LV → M LV
  | .str a, .int n => fun h => if -(2 ^ 63) ≤ n ∧ n < 2 ^ 63 ∧ a.length * n.toNat ≤ sizeLine then .ok (.str (Txt.mul a n)) h else .bad
  | a, b => mulL a b
/-- a part of an f-string -/
def fmtL : LV → M LV
  | .str y => fun h => if y.length ≤ sizeLine then .ok (.str y) h else .bad
  | .int i => fun h => if i.natAbs.log2 < 1920 then .ok (.str (toString i)) h else .bad
  | _ => bad
def jsM : List LE → Str → LSt → M Str
  | [], acc, _ => ret acc
  | m :: ms, acc, s => bnd (m s) fun v => match v with
    | .str y => fun h => if (acc ++ y).length ≤ sizeLine then jsM ms (acc ++ y) s h else .bad
    | _ => bad
def fstM (ms : List LE) : LE := fun s => bnd (jsM ms Str.empty s) fun out => ret (.str out)
section
variable {X : Cx} {W : WX} {e : Expr} {es : List Expr} {m : LE} {ms : List LE} {pos : Pos}
theorem strs_rvs (ys : List Str) {H : Hp} {ρ : List Addr} : RVs X.K X.mg H ρ (ys.map LV.str) (ys.map V.str) := by
  induction ys with
  | nil => exact .nil
  | cons y ys ih => exact .cons (.str y) ih
theorem met_spl : MetS X splL (fun x xs H Q => ∃ a b, x = .str a ∧ xs = [.str b] ∧ (b.length == 0) = false ∧ a.length + 2 ≤ sizeLine ∧ rNewStrs (Txt.split a b) H Q) := by
  intro v vs x xs ρ h H E Q rh rv rvs p
  unfold splL at p
  split at p
  · obtain ⟨y, rfl, ry⟩ := rvs1 rvs
    cases rv
    cases ry
    split at p
    · rename_i k
      exact ⟨_, _, rfl, rfl, k.1, k.2, fun l hl => new_lst (H := H) rh (strs_rvs _) p l hl⟩
    · exact bad_of p
  · exact bad_of p
theorem met_find : MetS X findL (fun x xs H Q => ∃ a b, x = .str a ∧ xs = [.str b] ∧ Q (.int (Txt.find a b)) H) := by
  intro v vs x xs ρ h H E Q rh rv rvs p
  unfold findL at p
  split at p
  · obtain ⟨y, rfl, ry⟩ := rvs1 rvs
    cases rv
    cases ry
    exact ⟨_, _, rfl, rfl, Post.now p rh (.int _)⟩
  · exact bad_of p
theorem met_lstr : MetS X lstrL (fun x xs H Q => ∃ a b, x = .str a ∧ xs = [.str b] ∧ a.length ≤ sizeLine ∧ Q (.str (Txt.lstripChars a b)) H) := by
  intro v vs x xs ρ h H E Q rh rv rvs p
  unfold lstrL at p
  split at p
  · obtain ⟨y, rfl, ry⟩ := rvs1 rvs
    cases rv
    cases ry
    split at p
    · rename_i k
      exact ⟨_, _, rfl, rfl, k, Post.now p rh (.str _)⟩
    · exact bad_of p
  · exact bad_of p
theorem op_mulT : OpR X (binaryOp .Mult) (fun x y H Q => ∃ (a : Str) (n : Int), x = .str a ∧ y = .int n ∧ -(2 ^ 63) ≤ n ∧ n < 2 ^ 63 ∧ a.length * n.toNat ≤ sizeLine ∧ Q (.str (Txt.mul a n)) H) := by
  intro pins s σ H x y v u Q I rx ry h
  obtain ⟨a, n, rfl, rfl, h1, h2, hz, q⟩ := h
  obtain ⟨t, rfl⟩ := rx
  obtain ⟨t2, rfl⟩ := ry
  refine SB.mul ⟨by rw [decide_eq_false (by omega), decide_eq_false (by omega)]; rfl, fun k1 _ => ?_, fun _ _ => ?_⟩ fun t' k => ⟨.str _, H, I.tok k, ⟨_, rfl⟩, q⟩
  · have k2 : (a.length : Int) * n ≤ 2 ^ 63 - 1 := by
      have e : (a.length : Int) * n = ((a.length * n.toNat : Nat) : Int) := by
        rw [Int.natCast_mul, Int.toNat_of_nonneg (by omega)]
      rw [e]
      have : a.length * n.toNat ≤ 16777216 := by rw [sizeLine_eq] at hz; exact hz
      omega
    have := Int.le_ediv_of_mul_le (by omega) k2
    omega
  · exact decide_eq_false (by show ¬ _ > sizeLine; omega)
theorem bin_mulS : BinS X mulS (fun x y H Q => (∃ (a : Str) (n : Int), x = .str a ∧ y = .int n ∧ -(2 ^ 63) ≤ n ∧ n < 2 ^ 63 ∧ a.length * n.toNat ≤ sizeLine ∧ Q (.str (Txt.mul a n)) H) ∨ (rI CMul (fun i j => .int (i * j)) x y H Q ∨ rRep x y H Q)) := by
  intro v u x y ρ h H E Q rh rv ru p
  unfold mulS at p
  split at p
  · cases rv; cases ru
    split at p
    · rename_i k
      exact .inl ⟨_, _, rfl, rfl, k.1, k.2.1, k.2.2, Post.now p rh (.str _)⟩
    · exact bad_of p
  · exact .inr (bin_mulL _ _ _ _ _ _ _ _ _ rh rv ru p)
theorem op_mulS : OpR X (binaryOp .Mult) (fun x y H Q => (∃ (a : Str) (n : Int), x = .str a ∧ y = .int n ∧ -(2 ^ 63) ≤ n ∧ n < 2 ^ 63 ∧ a.length * n.toNat ≤ sizeLine ∧ Q (.str (Txt.mul a n)) H) ∨ (rI CMul (fun i j => .int (i * j)) x y H Q ∨ rRep x y H Q)) := op_mulT.or op_mulL
theorem se_fmt (he : SE X W e m) : SE X W (.FormattedValue e (-1) none pos) (unM fmtL m) := by
  refine pe_imp (pe_fmt he) fun σ H Q ⟨s, ρ, h, rs, rh, p⟩ => ?_
  refine seqE rs rh p fun v h1 ρ1 H1 x e1 rh1 rv rs1 p1 => ?_
  unfold fmtL at p1
  split at p1
  · cases rv
    split at p1
    · rename_i k
      exact .inl ⟨_, rfl, k, p1.now rh1 (.str _)⟩
    · exact bad_of p1
  · cases rv
    split at p1
    · rename_i k
      exact .inr ⟨_, rfl, k, p1.now rh1 (.str _)⟩
    · exact bad_of p1
  · exact bad_of p1
inductive SJ (X : Cx) (W : WX) : List Expr → List LE → Prop
  | nil : SJ X W [] []
  | cons {e : Expr} {m : LE} {es : List Expr} {ms : List LE} (a : SE X W e m) (r : SJ X W es ms) : SJ X W (e :: es) (m :: ms)
theorem SJ.pj (r : SJ X W es ms) : PJ X es (ms.map (tE X.K X.mg W)) := by
  induction r with
  | nil => exact .nil
  | cons a r ih => exact .cons a ih
theorem js_read {σ : L2.St} {Q : V → Hp → Prop} : ∀ {ms : List LE} {s : LSt} {acc : Str} {ρ : List Addr} {h : LH} {H : Hp}, RSt X.K X.mg H ρ s σ → RH X.K X.mg ρ h H → Post X.K X.mg (RV X.K X.mg) (fun C d H' => W C d σ H') ρ H Q (bnd (jsM ms acc s) (fun out => ret (.str out)) h) → tJs (ms.map (tE X.K X.mg W)) acc σ H fun out H1 => Q (.str out) H1
  | [], s, acc, ρ, h, H, rs, rh, p => p.now rh (.str _)
  | m :: ms, s, acc, ρ, h, H, rs, rh, p => by
    have p' : Post X.K X.mg (RV X.K X.mg) (fun C d H' => W C d σ H') ρ H Q (bnd (m s) (fun v => match v with
      | .str y => fun h => if (acc ++ y).length ≤ sizeLine then bnd (jsM ms (acc ++ y) s) (fun out => ret (.str out)) h else .bad
      | _ => bad) h) := by
      have ee : bnd (jsM (m :: ms) acc s) (fun out => ret (LV.str out)) h = bnd (m s) (fun v => match v with
        | .str y => fun h => if (acc ++ y).length ≤ sizeLine then bnd (jsM ms (acc ++ y) s) (fun out => ret (.str out)) h else .bad
        | _ => bad) h := by
        unfold jsM bnd
        cases m s h with
        | ok v h1 =>
          cases v <;> try rfl
          rename_i y
          dsimp only
          by_cases k : (acc ++ y).length ≤ sizeLine
          · simp only [if_pos k]; cases ms <;> rfl
          · simp only [if_neg k]
        | exc c fs h1 => rfl
        | bad => rfl
      rw [← ee]; exact p
    refine seqE rs rh p' fun v h1 ρ1 H1 x e1 rh1 rv rs1 p1 => ?_
    split at p1
    · cases rv
      split at p1
      · rename_i k
        exact ⟨_, rfl, k, js_read rs1 rh1 p1⟩
      · exact bad_of p1
    · exact bad_of p1
theorem se_fst {v1 v2 : Expr} {rest : List Expr} (r : SJ X W (v1 :: v2 :: rest) ms) : SE X W (.JoinedStr (v1 :: v2 :: rest) pos) (fstM ms) :=
  pe_imp (pe_joined r.pj) fun _ _ _ ⟨_, _, _, rs, rh, p⟩ => js_read rs rh p
theorem se_fst1 (he : SE X W e m) : SE X W (.JoinedStr [e] pos) m := pe_imp (pe_joined1 he) fun _ _ _ t => t
end
end Fw

set_option maxRecDepth 100000
set_option maxHeartbeats 4000000
/-! ### str of data -/
namespace Fw
open PySem PySem.Spec PyProof.Rows L2
def strA : List LV → M LV
  | [.str x] => ret (.str x)
  | [v] => fun h => match toR 16 h v with
    | some d => if okR1 d = true ∧ sb d ≤ 16777216 then .ok (.str d.shown) h else .bad
    | none => .bad
  | _ => bad
def rStr (K : PySem.W.Frag) : List V → Hp → VK → Prop := fun xs H Q => (∃ a, xs = [.str a] ∧ Q (.str a) H) ∨ ∃ x d, xs = [x] ∧ (∀ a, x ≠ .str a) ∧ DaR K H x d ∧ d.depth ≤ 100 ∧ okR1 d = true ∧ sb d ≤ 16777216 ∧ Q (.str d.shown) H
section
variable {X : Cx}
theorem call_strD {k : Nat} (rg : RoomG k X.A) (sm : ∃ mm, X.base.Ns sysModules mm) : CallR X (.type "str") (rStr X.K) := by
  intro pins s σ H xs us Q I r h
  rcases h with ⟨a, rfl, q⟩ | ⟨x, d, rfl, nx, dr, dep, ok, sz, q⟩
  · exact SkE.call_str_str pins s σ H _ us Q I r ⟨a, rfl, q⟩
  obtain ⟨u, rfl, rx⟩ := vals1 r
  have z := shown_le d ok
  have hz : d.shown.length ≤ sizeLine := by rw [sizeLine_eq]; omega
  have fin : ∀ {h' : Heap} {t : Tok} {tk : Nat}, (∀ b o, s.heap.get? b = some o → h'.get? b = some o) → EP X pins σ Q (.str d.shown t) { s with heap := h', toks := tk } := fun {h' t tk} hk => ⟨.str _, H, I.kept hk, ⟨t, rfl⟩, q⟩
  have dref : ∀ a, u = .ref a → wpAny (model X.prog X.w) X.A (call (.type "str") [u]) (EP X pins σ Q) X.xe s := fun a e => by
    subst e
    obtain ⟨mm, o, es, ep, g, dt, _⟩ := sm
    obtain ⟨as, rd, nm⟩ := DaR.reads I ⟨o, es, ep, (I.env0.bs _ _ g).1, dt⟩ d x _ dr rx
    exact str_of_reads rd z.1 (fun _ => nm) rg.gd (by have := rg.un; omega) (fun _ _ e => e) (fun h' t tk hk => fin hk) hz
  cases dr with
  | non => cases rx; exact P.str_of_none (by rw [PyData.shown] at fin; exact fin (h' := s.heap) fun _ _ e => e)
  | bl b => cases rx; exact P.str_of_bool (by rw [PyData.shown] at fin; exact fin (h' := s.heap) fun _ _ e => e)
  | int i =>
    obtain ⟨t, rfl⟩ := rx
    exact P.str_of_int (of_decide_eq_true (by simpa [okR1] using ok)) (by rw [PyData.shown] at fin; exact fin (h' := s.heap) fun _ _ e => e)
  | str y => exact absurd rfl (nx y)
  | lst hs ha => exact dref _ rx
  | tup hs ha => exact dref _ rx
  | dct hs => exact dref _ rx
end
section
variable {X : Cx}
theorem cal_strD : CalS X strA (rStr X.K) := by
  intro v x ρ h H E Q rh rv p
  unfold strA at p
  split at p
  · obtain ⟨y, rfl, r⟩ := rvs1 rv
    cases r
    exact .inl ⟨_, rfl, Post.now p rh (.str _)⟩
  · rename_i w nw
    obtain ⟨y, rfl, r⟩ := rvs1 rv
    dsimp only at p
    split at p
    · rename_i d e
      split at p
      · rename_i ok
        have := toR_depth e
        refine .inr ⟨y, d, rfl, ?_, toR_dr rh r e, by omega, ok.1, ok.2, Post.now p rh (.str _)⟩
        rintro a rfl
        cases r
        exact nw _ rfl
      · exact bad_of p
    · exact bad_of p
  · exact bad_of p
end
end Fw

set_option maxRecDepth 100000
set_option maxHeartbeats 4000000
/-! ### an exception that is made by hand: a call of its class -/
namespace Fw
open PySem PySem.Spec PyProof.Rows L2
section
variable {X : Cx} {W : WX} {e : Expr} {es : List Expr} {ta : TA} {mr : LA} {kn : List Str} {tab : List (Str × Str × Bool)}
theorem inv_made {pins : List (Addr × Obj)} {σ : L2.St} {H' : Hp} {sI s' : Shared} {a C : Addr} {d : Option Addr} {oe : Obj} {vs : Array Value} (J : Inv X pins σ H' sI) (k : ∀ b o, sI.heap.get? b = some o → s'.heap.get? b = some o)
    (ne : sI.heap.get? a = none) (ha : s'.heap.get? a = some oe) (hz : Zc (.ref C) d oe) (hd : oe.data = .fields vs) (na : H' a = none) (os : s'.os = sI.os) (ag : AllBare s'.gens) : Inv X pins σ (upd H' a (.ext (ExcO a C d))) s' := by
  have J' : Inv X pins σ H' s' := Inv.landed (B := sI.heap) J (fun b o q _ => q) k (Heap.UpToSlots.of_keeps k) os ag
  refine inv_track J' na ha hz hd ?_ ?_ ?_ ?_
  · intro o q
    refine Classical.byContradiction fun hx => ?_
    obtain ⟨o1, r⟩ := J.base.there a o q hx
    rw [ne] at r; cases r
  · intro p hp r
    have q := (J.pin p hp).1
    rw [r, ne] at q; cases q
  · intro z
    obtain ⟨m, ⟨o, _, _, e1, _⟩, _⟩ := J.loc
    rw [← z, ne] at e1; cases e1
  · intro y c q r
    obtain ⟨v, o1, e1, _⟩ := J.cell y c q
    rw [r, ne] at e1; cases e1
def tMkE (t : L2.St → Hp → XK → Prop) : TE := fun σ H Q => t σ H fun cls d H' => ∃ C, cls = .ref C ∧ ∀ a, H' a = none → Q (.ref a) (upd H' a (.ext (ExcO a C d)))
theorem pe_mk {t : L2.St → Hp → XK → Prop} (he : PMk X e t) : PE X e (tMkE t) := by
  refine ⟨fun pins s σ H Q I h => ?_⟩
  refine wpAny_mono (he pins s σ H _ I h) (fun u s1 hu => ?_) fun _ _ x => x
  obtain ⟨a, oe, vs, sI, H', cls, d, rfl, J, k, hne, ha, hz, hd, h1, na, os, ag, r, C, rfl, q⟩ := hu
  exact ⟨.ref a, _, inv_made J k hne ha hz hd na os ag, rfl, q a na⟩
theorem pmk_own1 {C : Addr} {bmB : List Value} {B newId initId : String} {x : Str} {p pos : Pos} (F : ExcBaseFacts B newId initId bmB) (q : PySem.W.excIn X.K C bmB newId = true) (gC : X.mg x = some (.ref C)) (kC : PySem.W.keepIn X.K (.ref C) = true) (r : Raises X (.ref C)) (hg : Gl X x) (ha : PA X (e :: es) ta)
    (hdb : (x == ("__debug__" : Str)) = false := by decide) (he : starEach (e :: es) X.env = (false, eval e X.env) :: starEach es X.env := by rfl) (hpl : (backTo pos (starEach es X.env)).any (·.1) = false := by rfl) :
    PMk X (.Call (.Name x p) (e :: es) [] pos) (fun σ H Q => ta σ H fun vs H1 => vs.length ≤ 1000 ∧ Q (.ref C) none H1) := by
  intro pins s σ H Q I h
  refine wpAny_Call_Name_kw (ld_glob I hg gC ?_ hdb)
  refine PySem.W.callWith_K (h₀ := X.base) I.ok.mod.kin kC (thn (ha.run pos pins s σ H _ I h) fun us s1 hh => ?_) he hpl
  obtain ⟨vs, H1, I1, r1, hl, hq⟩ := hh
  refine ⟨I1.kIn, ?_⟩
  show wpAny _ _ (call (.ref C) us) _ _ _
  obtain ⟨bm, N, nm, qn, bs, hdct, sn, sub, ab, col, dd, k0, k1, k2, k3, k5, mN, hC, hN, hni, T⟩ := exc_obj I1.kIn q
  have hlen : us.length ≤ sizeLine := by rw [← Paired.length r1, sizeLine_eq]; omega
  refine wpAny_call_exc_subT F T hC hN hni (fun h' e hm => ?_) hlen
  exact mk_of I1 hm r hq (I1.hok.gone hm.new)
def mkXM (c : Str) (aa : LA) : LE := fun s => bnd (aa s) fun vs h => if vs.length = 1 then .ok (.exc c []) h else .bad
def mkFM (c : Str) (fl : List Str) (aa : LA) : LE := fun s => bnd (aa s) fun vs h => if (fldsX fl vs).isEmpty = true then .bad else .ok (.exc c (fldsX fl vs)) h
theorem se_mkX {x : Str} {p pos : Pos} (T : XT X.K X.mg kn tab) (hx : x ∈ kn) (hg : Gl X x) (ha : SA X W (e :: es) mr) (hdb : (x == ("__debug__" : Str)) = false := by decide)
    (he : starEach (e :: es) X.env = (false, eval e X.env) :: starEach es X.env := by rfl) (hpl : (backTo pos (starEach es X.env)).any (·.1) = false := by rfl) : SE X W (.Call (.Name x p) (e :: es) [] pos) (mkXM x mr) := by
  obtain ⟨C, g, h1, h2, h3, h4, h5, h6⟩ := T.cls x hx
  refine pe_imp (pe_mk (pmk_own1 PySem.F.excBase_ValueError h1 g h2 (raises_own h3 h4) hg ha hdb he hpl)) fun σ H Q t => ?_
  obtain ⟨s, ρ, h, rs, rh, p⟩ := t
  refine ⟨s, ρ, h, rs, rh, ?_⟩
  unfold mkXM bnd at p
  cases em : mr s h with
  | exc c' fs h' => rw [em] at p; exact p
  | bad => rw [em] at p; exact (show False from p).elim
  | ok vs h' =>
    rw [em] at p
    dsimp only at p
    intro ρ1 H1 xs x1 r1 rv
    split at p
    · rename_i hl
      refine ⟨by rw [← rv.length, hl]; decide, C, rfl, fun a na => ?_⟩
      exact p ρ1 _ (.ref a) (x1.trans (ext_new na)) (r1.imm na) (.exc0 g upd_same)
    · exact (show False from p).elim
theorem se_mkF {x : Str} {fl : List Str} {p pos : Pos} (F : XFc X.prog X.w X.K X.mg X.base x fl) (hr : Room 2 X.A) (hg : Gl X x) (ha : SA X W (e :: es) mr) (hdb : (x == ("__debug__" : Str)) = false := by decide)
    (he : starEach (e :: es) X.env = (false, eval e X.env) :: starEach es X.env := by rfl) (hpl : (backTo pos (starEach es X.env)).any (·.1) = false := by rfl) : SE X W (.Call (.Name x p) (e :: es) [] pos) (mkFM x fl mr) := by
  obtain ⟨C, fI, fd, ps, gC, O, iC, tI, F1, hb, hf⟩ := F.ex
  refine pe_imp (pe_mk (pmk_oex O iC tI F1 hr hb .nil pass0 hg gC ha hdb he hpl)) fun σ H Q t => ?_
  obtain ⟨s, ρ, h, rs, rh, p⟩ := t
  refine ⟨s, ρ, h, rs, rh, ?_⟩
  unfold mkFM bnd at p
  cases em : mr s h with
  | exc c' fs h' => rw [em] at p; exact p
  | bad => rw [em] at p; exact (show False from p).elim
  | ok vs h' =>
    rw [em] at p
    dsimp only at p
    intro ρ1 H1 xs x1 r1 rv
    split at p
    · exact (show False from p).elim
    · rename_i ne
      have fin : ∀ (dx : Addr) (fs' : List (Str × V)), H1 dx = none → RFs X.K X.mg (upd H1 dx (.xd fs')) ρ1 (fldsX fl vs) fs' → ∃ C', (Value.ref C) = .ref C' ∧ ∀ a, (upd H1 dx (.xd fs')) a = none → Q (.ref a) (upd (upd H1 dx (.xd fs')) a (.ext (ExcO a C' (some dx)))) := by
        intro dx fs' nd rf
        refine ⟨C, rfl, fun a na => ?_⟩
        have xa := ext_new (ρ := ρ1) (o := .xd fs') nd
        have xb := ext_new (ρ := ρ1) (o := .ext (ExcO a C (some dx))) na
        exact p ρ1 _ (.ref a) ((x1.trans xa).trans xb) ((r1.imm nd).imm na) (.excD (fun z => ne (by rw [z]; rfl)) gC upd_same (by rw [upd_ne (fun z => by rw [← z, upd_same] at na; cases na), upd_same]) (rf.up xb))
      have l12 : vs.length ≤ 1000 := by
        unfold fldsX at ne
        split at ne <;> simp_all
      refine ⟨by rw [← rv.length]; exact l12, fun a na => ?_⟩
      rw [List.append_nil]
      unfold fldsX at ne fin
      split at ne
      · rename_i f v
        obtain ⟨y, rfl, ry⟩ := rvs1 rv
        refine ⟨a, C, y, rfl, O, hf f (by simp), upd_same, fun dx hdx hne => ⟨rfl, dx, [(f, y)], upd_same, by rw [upd_ne hne, upd_same], ?_, ?_⟩⟩
        · rw [upd_ne hne] at hdx; exact hdx
        · rw [upd_ne hne] at hdx
          rw [heap_x na hne]
          exact fin dx _ hdx (.cons (ry.up (ext_new hdx)) .nil)
      · rename_i f g v u
        obtain ⟨y, z, rfl, ry, rz⟩ := rvs2 rv
        refine ⟨a, C, y, z, rfl, O, hf f (by simp), hf g (by simp), upd_same, fun dx hdx hne => ⟨rfl, dx, [(g, z), (f, y)], ?_, upd_same, ?_, ?_⟩⟩
        · rw [upd_ne (Ne.symm hne), upd_same]
        · rw [upd_ne hne] at hdx; exact hdx
        · rw [upd_ne hne] at hdx
          rw [heap_y na hne]
          exact fin dx _ hdx (.cons (rz.up (ext_new hdx)) (.cons (ry.up (ext_new hdx)) .nil))
      · exact absurd rfl ne
end
end Fw

set_option maxRecDepth 100000
set_option maxHeartbeats 4000000
/-! ### == and != of lists: of other lengths; alike all through, dicts within -/
namespace Fw
open PySem PySem.Spec PyProof.Rows L2
section
open PySem.SeqAt PySem.MeetsSeq PySem.MeetsSeq2 PySem.MeetsSeq3 PySem.SeqRoads2
open PySem.AutoSeq1 (wpAny_loadPart')
variable {prog : Program} {w : World}
theorem ne_turns (p q : Addr) (us ws : Array Value) (c1 c2 : Nat) (d1 d2 : Option Addr) (z1 z2 : Array (Option Value)) (sz : us.size = ws.size) (k : Nat) :
    ∀ i : Nat, us.size - i = k → MeetsIn prog w (Builtin.«list.__eq__.loop» ⟨[.ref p, .ref q, rawInt i, rawInt 3], []⟩)
      (fun A R s => s.heap.get? p = some ⟨.type "list", d1, .seq us c1, z1⟩ ∧ s.heap.get? q = some ⟨.type "list", d2, .seq ws c2, z2⟩ ∧ (∀ j (h1 : j < us.size) (h2 : j < ws.size), EqP prog w A.in1 s us[j] ws[j] true) ∧ R (.ok (.ret (.bool false))) s) := by
  induction k with
  | zero =>
    intro i hk A R s t
    obtain ⟨hp, gs, dr, tk, os⟩ := s
    obtain ⟨t1, t2, te, t⟩ := t
    wp_walk using wpAny_loadPart' t1, wpAny_loadPart' t2
    have n1 : us[((i : Nat) : Int).toNat]? = none := by simp; omega
    have n2 : ws[((i : Nat) : Int).toNat]? = none := by simp; omega
    rw [n1, n2]
    wp_walk using wpAny_loadPart' t1, wpAny_loadPart' t2
    show R (.ok (.ret (.bool (us.size != ws.size)))) _
    rw [sz]
    simpa using t
  | succ k ih =>
    intro i hk A R s t
    obtain ⟨hp, gs, dr, tk, os⟩ := s
    obtain ⟨t1, t2, te, t⟩ := t
    wp_walk using wpAny_loadPart' t1, wpAny_loadPart' t2
    have l1 : i < us.size := by omega
    have l2 : i < ws.size := by omega
    have n1 : us[((i : Nat) : Int).toNat]? = some us[i] := by simp [l1]
    have n2 : ws[((i : Nat) : Int).toNat]? = some ws[i] := by simp [l2]
    have nx : ((i : Int) + 1) = ((i + 1 : Nat) : Int) := by push_cast; rfl
    rw [n1, n2]
    refine wpAny_bind (te i l1 l2 _ _ ?_)
    wp_walk
    rw [nx]
    refine ⟨plainId_quiet plain_eq_loop _, codeAny_builtin entry_eq_loop ?_⟩
    rw [Around.under_plainId plain_eq_loop _]
    exact ih (i + 1) (by omega) A R _ ⟨t1, t2, te, t⟩
theorem ne_same (p q : Addr) (us ws : Array Value) (c1 c2 : Nat) (d1 d2 : Option Addr) (z1 z2 : Array (Option Value)) (sz : us.size = ws.size) :
    MeetsIn prog w (Builtin.«list.__ne__» ⟨[.ref p, .ref q], []⟩)
      (fun A R s => s.heap.get? p = some ⟨.type "list", d1, .seq us c1, z1⟩ ∧ s.heap.get? q = some ⟨.type "list", d2, .seq ws c2, z2⟩ ∧ (∀ j (h1 : j < us.size) (h2 : j < ws.size), EqP prog w A.in1 s us[j] ws[j] true) ∧ R (.ok (.ret (.bool false))) s) := by
  intro A R s t
  obtain ⟨hp, gs, dr, tk, os⟩ := s
  obtain ⟨t1, t2, te, t⟩ := t
  have f3 := PySem.AutoSeq1.sub_list_list
  have nz : ¬ (us.size != ws.size) = true := by simp [sz]
  wp_walk using wpAny_loadPart' t1, wpAny_loadPart' t2
  refine ⟨plainId_quiet plain_eq_loop _, codeAny_builtin entry_eq_loop ?_⟩
  rw [Around.under_plainId plain_eq_loop _]
  exact ne_turns p q us ws c1 c2 d1 d2 z1 z2 sz _ 0 rfl A R _ ⟨t1, t2, te, t⟩
theorem ne_alike {A : Around} {s : Shared} {p q : Addr} {us ws : Array Value} (t1 : s.heap.IsList p us) (t2 : s.heap.IsList q ws) (sz : us.size = ws.size) (hu : A.units < cLine) (te : ∀ j (h1 : j < us.size) (h2 : j < ws.size), EqP prog w A.in1 s us[j] ws[j] true) (E Q : Value → Shared → Prop) (t : Q (.bool false) s) :
    wpAny (model prog w) A (richCompare .NotEq (.ref p) (.ref q)) Q E s := by
  obtain ⟨⟨x1, d1, y1, z1⟩, o1, k1, c1, e1⟩ := id t1
  obtain ⟨⟨x2, d2, y2, z2⟩, o2, k2, c2, e2⟩ := id t2
  simp only at k1 e1 k2 e2
  subst k1 e1 k2 e2
  have a1 : s.TypeIs (.ref p) "list" := ⟨_, o1, rfl⟩
  have a2 : s.TypeIs (.ref q) "list" := ⟨_, o2, rfl⟩
  refine wpAny_richCompare_same_room (op := .NotEq) a1 a2 F.slot_list_ne (call_meetsIn F.slot_list_ne a1 F.entry_list_ne (F.args_list_ne_2 _ _) (ne_same p q us ws c1 c2 d1 d2 z1 z2 sz) ⟨o1, o2, te, ?_⟩) hu
  show Value.bool false ≠ Value.notImplemented ∧ Q (.bool false) s
  exact ⟨(fun x => nomatch x), t⟩
end
/-! values that are alike, of nesting below n -/
def DeR (K : PySem.W.Frag) (H : Hp) (E : V → V → Prop) (x y : V) : Prop := EqR K H E x y ∨ ∃ a b xs ys, x = .ref a ∧ y = .ref b ∧ SqT K H a xs ∧ SqT K H b ys ∧ Paired E xs ys
def DeV (K : PySem.W.Frag) (H : Hp) : Nat → V → V → Prop
  | 0 => fun _ _ => False
  | n + 1 => fun x y => (x = y ∧ flatB x = true) ∨ (∃ a, x = .ref a ∧ y = .ref a) ∨ DeR K H (DeV K H n) x y
section
variable {X : Cx} {pins : List (Addr × Obj)} {σ : L2.St} {H : Hp} {s : Shared}
theorem deR_run (I : Inv X pins σ H s) {A : Around} {F : V → V → Prop} (hu : A.units < cLine) (ih : ∀ x y v u, F x y → RelV x v → RelV y u → SeqAt.EqP X.prog X.w A.in1 s v u true) {x y : V} {v u : Value} (h : DeR X.K H F x y) (rx : RelV x v) (ry : RelV y u)
    (E Q : Value → Shared → Prop) (q : Q (.bool true) s) : wpAny (model X.prog X.w) A (richCompare .Eq v u) Q E s := by
  rcases h with h | ⟨a, b, xs, ys, rfl, rfl, ha, hb, hp⟩
  · exact eqR_run I hu ih h rx ry E Q q
  · cases (show v = Value.ref a from rx)
    cases (show u = Value.ref b from ry)
    obtain ⟨us, r1, p1, _⟩ := I.tuple ha
    obtain ⟨ws, r2, p2, _⟩ := I.tuple hb
    have hsz : us.toArray.size = ws.toArray.size := by
      rw [List.size_toArray, List.size_toArray, ← r1.length, ← r2.length]
      exact Paired.length hp
    refine SeqAt.rcIn_tuples (e := fun _ => true) p1 p2 hu (fun j h1 h2 => ?_) ?_
    · have k := items_run ih hp r1 r2 j (by simpa using h1) (by simpa using h2)
      have k2 : SeqAt.EqP X.prog X.w A.in1 s us.toArray[j] ws.toArray[j] true := by simpa using k
      exact k2
    · rw [show ((List.range (min us.toArray.size ws.toArray.size)).all fun _ => true) = true from List.all_eq_true.mpr fun _ _ => rfl, Bool.true_and, hsz, beq_self_eq_true]
      exact q
theorem deV_run (I : Inv X pins σ H s) : ∀ (n : Nat) (A : Around), A.units + n < cLine → ∀ (x y : V) (v u : Value), DeV X.K H n x y → RelV x v → RelV y u → SeqAt.EqP X.prog X.w A s v u true
  | 0, _, _, _, _, _, _, h, _, _ => (show False from h).elim
  | n + 1, A, hu, x, y, v, u, h, rx, ry => by
    rcases h with ⟨rfl, f⟩ | ⟨a, rfl, rfl⟩ | h
    · exact (eqAt_same rx ry f).eqP
    · cases (show v = Value.ref a from rx)
      cases (show u = Value.ref a from ry)
      exact (SeqAt.EqAt.same _).eqP
    · have step := deR_run I (A := A) (by omega) (deV_run I n A.in1 (by show A.units + 1 + n < cLine; omega)) h rx ry
      obtain ⟨a, b, rfl, rfl⟩ : ∃ a b, x = .ref a ∧ y = .ref b := by
        rcases h with (⟨a, b, _, _, e1, e2, _⟩ | ⟨a, b, _, _, e1, e2, _⟩) | ⟨a, b, _, _, e1, e2, _⟩
        · exact ⟨a, b, e1, e2⟩
        · exact ⟨a, b, e1, e2⟩
        · exact ⟨a, b, e1, e2⟩
      cases (show v = Value.ref a from rx)
      cases (show u = Value.ref b from ry)
      by_cases e : a = b
      · subst e
        exact (SeqAt.EqAt.same _).eqP
      · exact SeqAt.eqP_refs e step
end
section
variable {X : Cx}
def rEqZ (K : PySem.W.Frag) : R2 := fun x y H Q => ∃ a b xs ys, x = .ref a ∧ y = .ref b ∧ SqL K H a xs ∧ SqL K H b ys ∧ xs.length ≠ ys.length ∧ Q (.bl false) H
def rNeZ (K : PySem.W.Frag) : R2 := fun x y H Q => ∃ a b xs ys, x = .ref a ∧ y = .ref b ∧ SqL K H a xs ∧ SqL K H b ys ∧ ((xs.length ≠ ys.length ∧ Q (.bl true) H) ∨ (∃ n, n ≤ 60 ∧ Paired (DeV K H n) xs ys ∧ Q (.bl false) H))
theorem op_eqZ (hu : X.A.units + 64 < cLine) : OpR X (compareOp .Eq) (rEqZ X.K) := by
  intro pins s σ H x y v u Q I rx ry h
  obtain ⟨a, b, xs, ys, rfl, rfl, ha, hb, ne, q⟩ := h
  obtain rfl : v = Value.ref a := rx
  obtain rfl : u = Value.ref b := ry
  obtain ⟨us, r1, p1, _⟩ := I.list ha
  obtain ⟨ws, r2, p2, _⟩ := I.list hb
  refine SeqAt.RcAt.lists_lengths p1.isList p2.isList ?_ (by omega) _ _ _ _ ⟨.bl false, H, I, rfl, q⟩
  rw [List.size_toArray, List.size_toArray, ← r1.length, ← r2.length]
  simpa using ne
theorem op_neZ (hu : X.A.units + 64 < cLine) : OpR X (compareOp .NotEq) (rNeZ X.K) := by
  intro pins s σ H x y v u Q I rx ry h
  obtain ⟨a, b, xs, ys, rfl, rfl, ha, hb, h⟩ := h
  obtain rfl : v = Value.ref a := rx
  obtain rfl : u = Value.ref b := ry
  obtain ⟨us, r1, p1, _⟩ := I.list ha
  obtain ⟨ws, r2, p2, _⟩ := I.list hb
  rcases h with ⟨ne, q⟩ | ⟨n, hn, hp, q⟩
  · refine SeqAt.RcNeAt.lists_lengths p1.isList p2.isList ?_ (by omega) _ _ _ _ ⟨.bl true, H, I, rfl, q⟩
    rw [List.size_toArray, List.size_toArray, ← r1.length, ← r2.length]
    simpa using ne
  · have hsz : us.toArray.size = ws.toArray.size := by
      rw [List.size_toArray, List.size_toArray, ← r1.length, ← r2.length]
      exact Paired.length hp
    refine ne_alike p1.isList p2.isList hsz (by omega) (fun j h1 h2 => ?_) _ _ ⟨.bl false, H, I, rfl, q⟩
    have k := items_run (deV_run I n X.A.in1 (by show X.A.units + 1 + n < cLine; omega)) hp r1 r2 j (by simpa using h1) (by simpa using h2)
    simpa using k
end
/-! the meanings -/
def sameF : LV → LV → Bool
  | .non, .non => true
  | .bl a, .bl b => a == b
  | .int i, .int j => i == j
  | .str x, .str y => x == y
  | _, _ => false
def deepA (f : LV → LV → Bool) : List LV → List LV → Bool
  | [], [] => true
  | x :: xs, y :: ys => f x y && deepA f xs ys
  | _, _ => false
def deepK : List (LV × LV) → List (LV × LV) → Bool
  | [], [] => true
  | [(k, v)], [(l, u)] => sameF k l && sameF v u
  | _, _ => false
def deepQ : Nat → LH → LV → LV → Bool
  | 0, _, _, _ => false
  | n + 1, h, v, u => sameF v u || (match v, u with
    | .tup xs, .tup ys => deepA (deepQ n h) xs ys
    | .ref l, .ref m => (match h[l]?, h[m]? with
      | some (.lst xs), some (.lst ys) => deepA (deepQ n h) xs ys
      | some (.dct false ks), some (.dct false ls) => decide (0 < n) && deepK ks ls
      | _, _ => false)
    | _, _ => false)
def lenZ (h : LH) : LV → LV → Option (List LV × List LV)
  | .ref l, .ref m => match h[l]?, h[m]? with
    | some (.lst xs), some (.lst ys) => some (xs, ys)
    | _, _ => none
  | _, _ => none
def eqZ (v u : LV) : M LV := fun h => match lenZ h v u with
  | some (xs, ys) => if xs.length ≠ ys.length then .ok (.bl false) h else eqL v u h
  | none => eqL v u h
def neZ (v u : LV) : M LV := fun h => match lenZ h v u with
  | some (xs, ys) => if xs.length ≠ ys.length then .ok (.bl true) h else if deepA (deepQ 32 h) xs ys = true then .ok (.bl false) h else neL v u h
  | none => neL v u h
section
variable {X : Cx}
theorem sameF_v {ρ : List Addr} {H : Hp} {v u : LV} {x y : V} (e : sameF v u = true) (rv : RV X.K X.mg H ρ v x) (ru : RV X.K X.mg H ρ u y) : x = y ∧ flatB x = true := by
  unfold sameF at e
  split at e
  · cases rv; cases ru; exact ⟨rfl, rfl⟩
  · cases rv; cases ru; rw [beq_iff_eq.mp e]; exact ⟨rfl, rfl⟩
  · cases rv; cases ru; rw [beq_iff_eq.mp e]; exact ⟨rfl, rfl⟩
  · cases rv; cases ru; rw [beq_iff_eq.mp e]; exact ⟨rfl, rfl⟩
  · cases e
theorem deepA_v {ρ : List Addr} {h : LH} {H : Hp} {f : LV → LV → Bool} {F : V → V → Prop} (ih : ∀ v u x y, f v u = true → RV X.K X.mg H ρ v x → RV X.K X.mg H ρ u y → F x y) : ∀ {vs us : List LV} {xs ys : List V}, deepA f vs us = true → RVs X.K X.mg H ρ vs xs → RVs X.K X.mg H ρ us ys → Paired F xs ys
  | [], [], _, _, _, .nil, .nil => .nil
  | v :: vs, u :: us, _, _, e, .cons r t, .cons r2 t2 => by
    rw [deepA, Bool.and_eq_true] at e
    exact .cons (ih _ _ _ _ e.1 r r2) (deepA_v (h := h) ih e.2 t t2)
  | [], _ :: _, _, _, e, _, _ => by cases e
  | _ :: _, [], _, _, e, _, _ => by cases e
theorem keyL_inj_s {k l : Key} (e : sameF (keyL k) (keyL l) = true) : k = l := by
  cases k <;> cases l <;> simp_all [keyL, sameF]
theorem deepQ_v {ρ : List Addr} {h : LH} {H : Hp} (rh : RH X.K X.mg ρ h H) : ∀ (n : Nat) (v u : LV) (x y : V), deepQ n h v u = true → RV X.K X.mg H ρ v x → RV X.K X.mg H ρ u y → DeV X.K H n x y
  | 0, _, _, _, _, e, _, _ => by cases e
  | n + 1, v, u, x, y, e, rv, ru => by
    unfold deepQ at e
    rw [Bool.or_eq_true] at e
    rcases e with e | e
    · exact .inl (sameF_v e rv ru)
    · split at e
      · obtain ⟨a, va, rfl, ha, ra⟩ := rv_tup rv
        obtain ⟨b, vb, rfl, hb, rb⟩ := rv_tup ru
        exact .inr (.inr (.inr ⟨a, b, va, vb, rfl, rfl, .of ha, .of hb, deepA_v (h := h) (deepQ_v rh n) e ra rb⟩))
      · rename_i l m
        split at e
        · rename_i xs ys e1 e2
          cases rv with
          | ref hl =>
            cases ru with
            | ref hm =>
              obtain ⟨va, ha, ra⟩ := rv_lst rh e1 hl
              obtain ⟨vb, hb, rb⟩ := rv_lst rh e2 hm
              exact .inr (.inr (.inl (.inl ⟨_, _, va, vb, rfl, rfl, .of ha, .of hb, deepA_v (h := h) (deepQ_v rh n) e ra rb⟩)))
        · rename_i ks ls e1 e2
          rw [Bool.and_eq_true, decide_eq_true_eq] at e
          obtain ⟨n0, e⟩ := e
          cases rv with
          | ref hl =>
            cases ru with
            | ref hm =>
              obtain ⟨ka, ha, ra⟩ := (show RO X.K X.mg H ρ (.dct false ks) _ from rh.obj _ _ _ e1 hl)
              obtain ⟨kb, hb, rb⟩ := (show RO X.K X.mg H ρ (.dct false ls) _ from rh.obj _ _ _ e2 hm)
              refine .inr (.inr (.inl (.inr ⟨_, _, ka, kb, rfl, rfl, ha, hb, ?_, ?_⟩)))
              · have l1 : ks.length = ka.length := Paired.length ra
                have l2 : ls.length = kb.length := Paired.length rb
                have l3 : ks.length = ls.length := by unfold deepK at e; split at e <;> first | rfl | cases e
                omega
              · unfold deepK at e
                split at e
                · intro p hp
                  cases ra
                  cases hp
                · rename_i k v l u
                  rw [Bool.and_eq_true] at e
                  cases ra with
                  | cons r1 t1 =>
                    cases t1
                    cases rb with
                    | cons r2 t2 =>
                      cases t2
                      rename_i p q
                      obtain ⟨pk, pv⟩ := p
                      obtain ⟨qk, qv⟩ := q
                      obtain ⟨e3, r3⟩ := r1
                      obtain ⟨e4, r4⟩ := r2
                      have e3 : k = keyL pk := e3
                      have e4 : l = keyL qk := e4
                      subst e3 e4
                      obtain rfl := keyL_inj_s e.1
                      obtain ⟨rfl, fb⟩ := sameF_v e.2 r3 r4
                      intro p hp
                      rw [List.mem_singleton] at hp
                      subst hp
                      refine ⟨pv, ?_, ?_⟩
                      · simp [valV]
                      · cases n with
                        | zero => omega
                        | succ n => exact .inl ⟨rfl, fb⟩
                · cases e
        · cases e
      · cases e
theorem lenZ_v {ρ : List Addr} {h : LH} {H : Hp} (rh : RH X.K X.mg ρ h H) {v u : LV} {x y : V} {xs ys : List LV} (e : lenZ h v u = some (xs, ys)) (rv : RV X.K X.mg H ρ v x) (ru : RV X.K X.mg H ρ u y) : ∃ a b va vb, x = .ref a ∧ y = .ref b ∧ SqL X.K H a va ∧ SqL X.K H b vb ∧ RVs X.K X.mg H ρ xs va ∧ RVs X.K X.mg H ρ ys vb := by
  unfold lenZ at e
  split at e
  · split at e
    · rename_i e1 e2
      cases e
      cases rv with
      | ref hl =>
        cases ru with
        | ref hm =>
          obtain ⟨va, ha, ra⟩ := rv_lst rh e1 hl
          obtain ⟨vb, hb, rb⟩ := rv_lst rh e2 hm
          exact ⟨_, _, va, vb, rfl, rfl, .of ha, .of hb, ra, rb⟩
    · cases e
  · cases e
def rEqLZ (K : PySem.W.Frag) : R2 := fun x y H Q => rEqL K x y H Q ∨ rEqZ K x y H Q
def rNeLZ (K : PySem.W.Frag) : R2 := fun x y H Q => rNeL K x y H Q ∨ rNeZ K x y H Q
theorem op_eqLZ (hu : X.A.units + 64 < cLine) : OpR X (compareOp .Eq) (rEqLZ X.K) := (op_eqL hu).or (op_eqZ hu)
theorem op_neLZ (hu : X.A.units + 64 < cLine) : OpR X (compareOp .NotEq) (rNeLZ X.K) := (op_neL hu).or (op_neZ hu)
theorem bin_eqZ : BinS X eqZ (rEqLZ X.K) := by
  intro v u x y ρ h H E Q rh rv ru p
  unfold eqZ at p
  split at p
  · rename_i xs ys e
    obtain ⟨a, b, va, vb, rfl, rfl, ha, hb, ra, rb⟩ := lenZ_v rh e rv ru
    split at p
    · rename_i ne
      refine .inr ⟨a, b, va, vb, rfl, rfl, ha, hb, ?_, Post.now p rh (.bl _)⟩
      rw [← ra.length, ← rb.length]; exact ne
    · exact .inl (bin_eqL v u _ _ ρ h H E Q rh rv ru p)
  · exact .inl (bin_eqL v u _ _ ρ h H E Q rh rv ru p)
theorem bin_neZ : BinS X neZ (rNeLZ X.K) := by
  intro v u x y ρ h H E Q rh rv ru p
  unfold neZ at p
  split at p
  · rename_i xs ys e
    obtain ⟨a, b, va, vb, rfl, rfl, ha, hb, ra, rb⟩ := lenZ_v rh e rv ru
    split at p
    · rename_i ne
      refine .inr ⟨a, b, va, vb, rfl, rfl, ha, hb, .inl ⟨?_, Post.now p rh (.bl _)⟩⟩
      rw [← ra.length, ← rb.length]; exact ne
    · split at p
      · rename_i d
        exact .inr ⟨a, b, va, vb, rfl, rfl, ha, hb, .inr ⟨32, by decide, deepA_v (h := h) (deepQ_v rh 32) d ra rb, Post.now p rh (.bl _)⟩⟩
      · exact .inl (bin_neL v u _ _ ρ h H E Q rh rv ru p)
  · exact .inl (bin_neL v u _ _ ρ h H E Q rh rv ru p)
end
end Fw

set_option maxRecDepth 100000
set_option maxHeartbeats 4000000
/-! ### list(d.values()), x in d.values() -/
namespace PySem
section
variable {prog : Program} {w : World} {A : Around} {I : Addr} {fp wr : List Addr} {n : Nat} {P : Nat → Value → Prop} {St : Nat → Heap → Prop} {R : Result → Shared → Prop}
theorem fx_plain_ci : plainId "proto.contains_iter" = true := by decide +kernel
theorem fx_entry_ci : entryFor table "proto.contains_iter" = some Builtin.«proto.contains_iter» := entryFor_of_tree (by kernel_rfl)
theorem fx_no_contains : typeLookup (.type "dict_values") "__contains__" = pure none := by rw [typeLookup_type, builtinLookup_eq_fast]; kernel_rfl
theorem fx_ci_walk (W : Walks prog w A.in1 I fp wr n P St) (x : Value) (tr : Nat → Bool)
    (htr : ∀ i v (s : Shared) (Q : Bool → Shared → Prop) (E : Value → Shared → Prop), i < n → P i v → Q (tr i) s → wpAny (model prog w) A.in1 (eqBool v x) Q E s) : ∀ (k i : Nat) (s : Shared), n - i = k → i ≤ n → St i s.heap →
    (∀ h' tk, (∀ b o, b ∉ wr → s.heap.get? b = some o → h'.get? b = some o) → R (.ok (.ret (.bool (((List.range n).drop i).any tr)))) { s with heap := h', toks := tk }) → codeAny (model prog w) A (.builtin "proto.contains_iter" ⟨[.ref I, x], []⟩) R s := by
  intro k
  induction k with
  | zero =>
    intro i s hk hi hst hR
    have hin : i = n := by omega
    subst hin
    refine codeAny_builtin fx_entry_ci ?_
    rw [Around.under_plainId fx_plain_ci _]
    show wpAny _ A.in1 (pyNext (.ref I) >>= _) _ _ s
    refine wpAny_bind (W.done s _ _ hst fun h' tk hm => ?_)
    refine wpAny_bind (wpAny_rule (wpAny_pure ?_))
    have := hR h' tk hm
    rw [List.drop_of_length_le (by simp)] at this
    exact this
  | succ k ih =>
    intro i s hk hi hst hR
    have hlt : i < n := by omega
    have hd : (List.range n).drop i = i :: (List.range n).drop (i + 1) := by
      rw [List.drop_eq_getElem_cons (by simpa using hlt)]; simp
    refine codeAny_builtin fx_entry_ci ?_
    rw [Around.under_plainId fx_plain_ci _]
    show wpAny _ A.in1 (pyNext (.ref I) >>= _) _ _ s
    refine wpAny_bind (W.item i s _ _ hlt hst fun v h' tk hP hst' hm => ?_)
    refine wpAny_bind (htr i v _ _ _ hlt hP ?_)
    cases hb : tr i with
    | false =>
      simp only [Bool.false_eq_true, if_false]
      refine wpAny_pure ⟨plainId_quiet fx_plain_ci _, ih (i + 1) _ (by omega) hlt hst' fun h'' tk'' hm' => ?_⟩
      have := hR h'' tk'' fun b o hb e => hm' b o hb (hm b o hb e)
      rw [hd, List.any_cons, hb, Bool.false_or] at this
      exact this
    | true =>
      simp only [if_true]
      refine wpAny_bind (wpAny_rule (wpAny_pure ?_))
      have := hR h' tk hm
      rw [hd, List.any_cons, hb, Bool.true_or] at this
      exact this
end
theorem fx_special_none {M : Model} {A : Around} {E : Value → Shared → Prop} {s : Shared} {self : Value} {T : String} {name : Str} {args : List Value} {refuse : Sem Value} {Q : Option Value → Shared → Prop}
    (hT : s.TypeIs self T) (h : typeLookup (.type T) name = pure none) (hq : Q none s) : wpAny M A (callSpecialUnlessNone? self name args refuse) Q E s := by
  unfold callSpecialUnlessNone?
  exact wpAny_bind (wpAny_specialOf hT h (wpAny_pure hq))
end PySem
namespace Fw
open PySem PySem.Spec PyProof.Rows L2
def valsO (p d : Addr) : HO := .ext fun h => h.IsValuesView p d
theorem valsO_ok {P : Program} {w : World} {H : Hp} {h : Heap} {p d : Addr} (e : h.get? p = some { cls := .type "dict_values", data := .fields #[.ref d] }) : ObjOk P w H h p (valsO p d) :=
  ⟨⟨_, e, rfl, rfl⟩, ⟨_, e⟩, fun a b x k => let ⟨o, ho, z⟩ := x; ⟨o, k o ho, z⟩⟩
def rValsK : V → List V → Hp → VK → Prop := fun x xs H Q => ∃ (a : Addr) (kvs : List (Key × V)), x = .ref a ∧ xs = [] ∧ H a = some (.dK kvs) ∧ ∀ p, H p = none → Q (.ref p) (upd H p (valsO p a))
def rLstVV : List V → Hp → VK → Prop := fun xs H Q => ∃ (p d : Addr) (kvs : List (Key × V)), xs = [.ref p] ∧ H p = some (valsO p d) ∧ H d = some (.dK kvs) ∧ ∀ (q : Addr), H q = none → Q (.ref q) (upd H q (.lst (kvs.map (·.2))))
def rInV : R2 := fun x y H Q => ∃ (i : Int) (p d : Addr) (kvs : List (Key × V)) (is : List Int), x = .int i ∧ y = .ref p ∧ H p = some (valsO p d) ∧ H d = some (.dK kvs) ∧ kvs.map (·.2) = is.map V.int ∧ Q (.bl (decide (i ∈ is))) H
section
variable {X : Cx} {W : WX}
theorem mt_valuesK : MtR X "dict.values" rValsK := by
  intro pins s σ H x xs v us Q I rx rxs h
  obtain ⟨a, kvs, rfl, rfl, ha, q⟩ := h
  cases rx
  cases rxs
  obtain ⟨z, lo, vs, rel, dd⟩ := dk_of I.hok ha
  have fr : H s.heap.objs.size = none := I.hok.fresh (Nat.le_refl _)
  refine call_meetsIn PySem.F.slot_dict_values dd.typeIs PySem.F.entry_dict_values (PySem.F.args_dict_values_1 _) (meets_dict_values (mixKind X.prog X.w) a lo) ⟨⟨vs, dd⟩, ?_⟩
  exact ⟨.ref s.heap.objs.size, upd H s.heap.objs.size (valsO s.heap.objs.size a), I.laid (t' := s.toks) (fun b u e => Heap.get?_push_of_some _ e) (Nat.le_refl _) (valsO_ok (Heap.get?_push_size _ rfl)), rfl, q _ fr⟩
theorem kv_vals : ∀ {kvs : List (Key × V)} {vs : List (Key × Value)} {us : List Value}, KV kvs vs → us.length = vs.length → (∀ (j : Nat) (v : Value), us[j]? = some v → ∃ k, vs[j]? = some (k, v)) → Vals (kvs.map (·.2)) us
  | [], [], us, .nil, hl, _ => by
    cases us with
    | nil => exact .nil
    | cons u us => simp at hl
  | _ :: kvs, _ :: vs, us, .cons r rs, hl, h => by
    cases us with
    | nil => simp at hl
    | cons u us =>
      obtain ⟨k, e⟩ := h 0 u rfl
      have e2 := Option.some.inj e
      refine .cons ?_ (kv_vals rs (by simpa using hl) fun j v e => ?_)
      · have := r.2
        rw [e2] at this
        exact this
      · obtain ⟨k, e⟩ := h (j + 1) v (by simpa using e)
        exact ⟨k, by simpa using e⟩
theorem call_lstVV (hcalm : X.calm = true) : CallR X (.type "list") rLstVV := by
  intro pins s σ H xs us Q I r q
  obtain ⟨p, a, kvs, rfl, hp, hd, q⟩ := q
  obtain ⟨u, rfl, rx⟩ := vals1 r
  cases rx
  obtain ⟨z, lo, vs, rel, dd⟩ := dk_of I.hok hd
  obtain ⟨ep, hat⟩ := dd.dictAt
  obtain ⟨hview, _⟩ := I.hok p _ hp
  have hl : kvs.length = vs.length := rel.length
  have hsz : vs.length ≤ sizeLine := by omega
  refine PySem.W.kdl_call (PySem.W.kdl_values (knd := mixKind X.prog X.w) (r := p) (d := a) (kvs := vs) (ep := ep)) (I.ok.hd hcalm) ⟨hview, hat⟩ hsz ?_
  intro h' tk acc c hk hlist hacc
  have hV : Vals (kvs.map (·.2)) acc.toList := kv_vals rel ((Array.length_toList).trans hacc.1) fun j v e => hacc.2 j v (by rw [← Array.getElem?_toList]; exact e)
  have hz : (kvs.map (·.2)).length ≤ sizeLine := by rw [List.length_map]; exact z
  have ok : ∀ HH : Hp, ObjOk X.prog X.w HH h' s.heap.objs.size (.lst (kvs.map (·.2))) := fun HH => ⟨hz, acc.toList, c, hV, by rw [Array.toArray_toList]; exact hlist⟩
  exact ⟨.ref s.heap.objs.size, upd H s.heap.objs.size (.lst (kvs.map (·.2))), I.laid (t' := tk) hk (Nat.le_refl _) (ok _), rfl, q _ (I.hok.fresh (Nat.le_refl _))⟩
theorem kv_ints {kvs : List (Key × V)} {vs : List (Key × Value)} {is : List Int} (r : KV kvs vs) (e : kvs.map (·.2) = is.map V.int) {j : Nat} {k : Key} {v : Value} (h : vs[j]? = some (k, v)) : ∃ i t, is[j]? = some i ∧ v = .int i t := by
  obtain ⟨x, e1, rx⟩ := r.at' h
  have e2 : (kvs.map (·.2))[j]? = some x := by rw [List.getElem?_map, e1]; rfl
  rw [e, List.getElem?_map] at e2
  obtain ⟨i, e3, rfl⟩ := Option.map_eq_some_iff.mp e2
  obtain ⟨t, rfl⟩ := rx
  exact ⟨i, t, e3, rfl⟩
theorem any_ix (is : List Int) (i : Int) : (List.range is.length).any (fun j => decide (is[j]? = some i)) = decide (i ∈ is) := by
  rw [Bool.eq_iff_iff, List.any_eq_true, decide_eq_true_iff, List.mem_iff_getElem?]
  constructor
  · rintro ⟨j, _, h⟩; exact ⟨j, of_decide_eq_true h⟩
  · rintro ⟨j, h⟩; exact ⟨j, List.mem_range.mpr (List.getElem?_eq_some_iff.mp h).1, decide_eq_true h⟩
theorem op_inV (hcalm : X.calm = true) : OpR X (compareOp .In) rInV := by
  intro pins s σ H x y v u Q I rx ry h
  obtain ⟨i, p, a, kvs, is, rfl, rfl, hp, hd, hi, q⟩ := h
  obtain ⟨t, rfl⟩ := rx
  cases ry
  obtain ⟨z, lo, vs, rel, dd⟩ := dk_of I.hok hd
  obtain ⟨ep, hat⟩ := dd.dictAt
  obtain ⟨hview, _⟩ := I.hok p _ hp
  have hl : vs.length = is.length := by rw [← rel.length]; simpa using congrArg List.length hi
  have hT : s.TypeIs (.ref p) "dict_values" := Heap.IsValuesView.typeIs hview
  show wpAny _ _ (contains (.ref p) (.int i t) >>= fun b => (pure (Value.bool b) : Sem Value)) _ _ s
  refine wpAny_bind ?_
  unfold contains
  refine wpAny_holding ?_
  rw [stdlibNamesSay?_of_typeIs hT]
  refine wpAny_bind (wpAny_specialOf hT fx_no_contains ?_)
  show wpAny _ _ (if ((none : Option Value) == some Value.none) = true then _ else _) _ _ s
  rw [if_neg (by simp)]
  refine wpAny_bind (fx_special_none hT fx_no_contains ?_)
  refine wpAny_bind (wpAny_rule ?_)
  refine wpAny_bind (wpAny_tryCatch (wpAny_pyIter_values hview hat ?_))
  have Wk := Walks.dictValues (prog := X.prog) (w := X.w) (A := X.A.in1) (knd := mixKind X.prog X.w) (I.ok.hd hcalm) s.heap.objs.size a (Nat.ne_of_lt hat.lt_size) vs ep
  refine wpAny_bind (wpAny_runValue ?_)
  refine fx_ci_walk Wk (.int i t) (fun j => decide (is[j]? = some i)) (fun j v s2 Q2 E2 hj hP q2 => ?_) vs.length 0 _ rfl (Nat.zero_le _) ⟨⟨_, Heap.get?_push_size _ rfl, rfl, rfl⟩, hat.push _⟩ (fun h' tk hm => ?_)
  · obtain ⟨k, e⟩ := hP
    obtain ⟨i2, t2, e2, rfl⟩ := kv_ints rel hi e
    refine wpAny_eqBool_int ?_
    rw [e2] at q2
    have z2 : (i2 == i) = decide (some i2 = some i) := by rw [Bool.eq_iff_iff]; simp
    rw [z2]; exact q2
  · dsimp only
    have e : ((List.range vs.length).drop 0).any (fun j => decide (is[j]? = some i)) = decide (i ∈ is) := by rw [List.drop_zero, hl]; exact any_ix is i
    rw [e]
    refine wpAny_pure (wpAny_pure ?_)
    refine ⟨.bl (decide (i ∈ is)), H, I.kept (t' := tk) (fun b o e => hm b o (fun hb => ?_) (Heap.get?_push_of_some _ e)), rfl, q⟩
    rw [List.mem_singleton] at hb
    exact absurd (Heap.lt_size e) (by rw [hb]; exact Nat.lt_irrefl _)
def lsvB : LV → M LV := fun d h => match dAt h d with
  | some (_, false, kvs) => .ok (.ref h.length) (h ++ [.lst (kvs.map (·.2))])
  | _ => .bad
def lsvM (d : LE) : LE := fun s => bnd (d s) lsvB
def invB (x d : LV) : M LV := fun h => match x, dAt h d with
  | .int i, some (_, false, kvs) => (match intsOf (kvs.map (·.2)) with
    | some ns => .ok (.bl (decide (i ∈ ns))) h
    | none => .bad)
  | _, _ => .bad
def invM (a d : LE) : LE := fun s => bnd (a s) fun x => bnd (d s) fun y => invB x y
theorem rk_vals {H : Hp} {ρ : List Addr} : ∀ {kvs : List (LV × LV)} {kv : List (Key × V)}, RK X.K X.mg H ρ kvs kv → RVs X.K X.mg H ρ (kvs.map (·.2)) (kv.map (·.2))
  | [], [], .nil => .nil
  | (_, _) :: _, (_, _) :: _, .cons r rs => .cons r.2 (rk_vals rs)
theorem rvs_intsOf {H : Hp} {ρ : List Addr} {xs : List LV} {vs : List V} {ns : List Int} (r : RVs X.K X.mg H ρ xs vs) (e : intsOf xs = some ns) : vs = ns.map V.int := by
  have := intsOf_eq e
  subst this
  clear e
  induction ns generalizing vs with
  | nil => cases r; rfl
  | cons i ns ih => cases r with | cons a b => cases a; rw [ih b]; rfl
theorem se_lsv {o : Expr} {md : LE} {p pos apos cpos : Pos} (hcalm : X.calm = true) (hg : Gl X "list") (hm : X.mg "list" = none) (hd : SE X W o md) (hbase : attributeBase o "values" X.env (eval o X.env) = eval o X.env := by rfl) (hline : (apos.endLine == cpos.line) = true := by rfl)
    (he : starEach [.Call (.Attribute o "values" apos) [] [] cpos] X.env = [(false, eval (.Call (.Attribute o "values" apos) [] [] cpos) X.env)] := by rfl) : SE X W (.Call (.Name "list" p) [.Call (.Attribute o "values" apos) [] [] cpos] [] pos) (lsvM md) := by
  have hk := pe_bm0 (X := X) (name := "values") (apos := apos) (cpos := cpos) PySem.F.plainAttrs_dict PySem.F.slot_dict_values PySem.F.type_dict_values mt_valuesK hd hbase hline
  refine pe_imp (pe_callTy (x := "list") (call_lstVV hcalm) hg hm (by decide +kernel) (pa_cons hk pa_nil he) (by decide) (by decide) he rfl) fun σ H Q ⟨s, ρ, h, rs, rh, q⟩ => ?_
  refine seqE rs rh q fun d h1 ρ1 H1 x e1 rh1 rv rs1 p1 => ?_
  unfold lsvB at p1
  split at p1
  · rename_i l kvs ed
    obtain ⟨rfl, el⟩ := dAt_eq ed
    have ty := chk_dct _ _ _ _ _ rh1 rv (by unfold isDw; rw [ed]; rfl)
    refine ⟨ty, ?_⟩
    cases rv with
    | ref hr =>
      obtain ⟨kv, h2, h3⟩ := dct_of rh1 el hr
      refine ⟨_, kv, rfl, rfl, h2, fun p hp => ?_⟩
      have ne := ne_of_none h2 hp
      refine ⟨p, _, kv, rfl, upd_same, by rw [upd_ne ne]; exact h2, fun q hq => ?_⟩
      have e3 : Ext ρ1 H1 (ρ1 ++ [q]) (upd (upd H1 p (valsO p _)) q (.lst (kv.map (·.2)))) := (ext_new hp).trans (ext_push hq)
      exact p1 (ρ1 ++ [q]) _ _ e3 ((rh1.imm hp).new hq ⟨_, upd_same, rk_vals (h3.up e3)⟩) (.ref (by rw [← rh1.len]; simp))
  · exact bad_of p1
theorem inv_read {i o : Expr} {mi md : LE} {σ : L2.St} {H : Hp} {Q : VK} (t : tE X.K X.mg W (invM mi md) σ H Q) : tOp rInV (tE X.K X.mg W mi) (tBM0 X.K "dict" rValsK (tE X.K X.mg W md)) σ H Q := by
  obtain ⟨s, ρ, h, rs, rh, q⟩ := t
  refine seqE rs rh q fun x h1 ρ1 H1 xv e1 rh1 rx rs1 p1 => seqE rs1 rh1 p1 fun d h2 ρ2 H2 y e2 rh2 rv rs2 p2 => ?_
  unfold invB at p2
  split at p2
  · rename_i i l kvs ed
    obtain ⟨rfl, el⟩ := dAt_eq ed
    have ty := chk_dct _ _ _ _ _ rh2 rv (by unfold isDw; rw [ed]; rfl)
    refine ⟨ty, ?_⟩
    cases rx
    cases rv with
    | ref hr =>
      obtain ⟨kv, k2, k3⟩ := dct_of rh2 el hr
      split at p2
      · rename_i ns en
        refine ⟨_, kv, rfl, rfl, k2, fun p hp => ?_⟩
        have ne := ne_of_none k2 hp
        refine ⟨i, p, _, kv, ns, rfl, rfl, upd_same, by rw [upd_ne ne]; exact k2, rvs_intsOf (rk_vals k3) en, ?_⟩
        exact p2 ρ2 _ _ (ext_new hp) (rh2.imm hp) (.bl _)
      · exact bad_of p2
  · exact bad_of p2
theorem se_inv {i o : Expr} {mi md : LE} {pos apos cpos : Pos} (hcalm : X.calm = true) (hi : SE X W i mi) (hd : SE X W o md) (hbase : attributeBase o "values" X.env (eval o X.env) = eval o X.env := by rfl) (hline : (apos.endLine == cpos.line) = true := by rfl) (hm : behindInMarks .In (.Call (.Attribute o "values" apos) [] [] cpos) = false := by rfl) :
    SE X W (.Compare i [.In] [.Call (.Attribute o "values" apos) [] [] cpos] pos) (invM mi md) :=
  pe_imp (pe_cmpR (op_inV hcalm) hi (pe_bm0 (X := X) (name := "values") (apos := apos) (cpos := cpos) PySem.F.plainAttrs_dict PySem.F.slot_dict_values PySem.F.type_dict_values mt_valuesK hd hbase hline) hm) fun _ _ _ t => inv_read (i := i) (o := o) t
theorem st_inv {i o : Expr} {mi md : LE} {pos apos cpos : Pos} (hcalm : X.calm = true) (hi : SE X W i mi) (hd : SE X W o md) (hbase : attributeBase o "values" X.env (eval o X.env) = eval o X.env := by rfl) (hline : (apos.endLine == cpos.line) = true := by rfl) (hm : behindInMarks .In (.Call (.Attribute o "values" apos) [] [] cpos) = false := by rfl) :
    ST X W (.Compare i [.In] [.Call (.Attribute o "values" apos) [] [] cpos] pos) (tstM (invM mi md)) :=
  pt_imp (pt_cmpR (op_inV hcalm) hi (pe_bm0 (X := X) (name := "values") (apos := apos) (cpos := cpos) PySem.F.plainAttrs_dict PySem.F.slot_dict_values PySem.F.type_dict_values mt_valuesK hd hbase hline) hm) fun _ _ _ t => inv_read (i := i) (o := o) (tst_read t)
end
section
variable {X : Cx}
def rEqY (K : PySem.W.Frag) : R2 := fun x y H Q => rEqLZ K x y H Q ∨ ∃ a b xs ys, x = .ref a ∧ y = .ref b ∧ SqL K H a xs ∧ SqL K H b ys ∧ ∃ n, n ≤ 60 ∧ Paired (DeV K H n) xs ys ∧ Q (.bl true) H
theorem op_eqA (hu : X.A.units + 64 < cLine) : OpR X (compareOp .Eq) (fun x y H Q => ∃ a b xs ys, x = .ref a ∧ y = .ref b ∧ SqL X.K H a xs ∧ SqL X.K H b ys ∧ ∃ n, n ≤ 60 ∧ Paired (DeV X.K H n) xs ys ∧ Q (.bl true) H) := by
  intro pins s σ H x y v u Q I rx ry h
  obtain ⟨a, b, xs, ys, rfl, rfl, ha, hb, n, hn, hp, q⟩ := h
  have r : EqR X.K H (DeV X.K H n) (.ref a) (.ref b) := .inl ⟨a, b, xs, ys, rfl, rfl, ha, hb, hp⟩
  exact eqR_run I (A := X.A) (by omega) (deV_run I n X.A.in1 (by show X.A.units + 1 + n < cLine; omega)) r rx ry _ _ ⟨.bl true, H, I, rfl, q⟩
theorem op_eqY (hu : X.A.units + 64 < cLine) : OpR X (compareOp .Eq) (rEqY X.K) := (op_eqLZ hu).or (op_eqA hu)
def eqY (v u : LV) : M LV := fun h => match lenZ h v u with
  | some (xs, ys) => if deepA (deepQ 32 h) xs ys = true then .ok (.bl true) h else eqZ v u h
  | none => eqZ v u h
theorem bin_eqY : BinS X eqY (rEqY X.K) := by
  intro v u x y ρ h H E Q rh rv ru p
  unfold eqY at p
  split at p
  · rename_i xs ys e
    obtain ⟨a, b, va, vb, rfl, rfl, ha, hb, ra, rb⟩ := lenZ_v rh e rv ru
    split at p
    · rename_i d
      exact .inr ⟨a, b, va, vb, rfl, rfl, ha, hb, 32, by decide, deepA_v (h := h) (deepQ_v rh 32) d ra rb, Post.now p rh (.bl _)⟩
    · exact .inl (bin_eqZ v u _ _ ρ h H E Q rh rv ru p)
  · exact .inl (bin_eqZ v u _ _ ρ h H E Q rh rv ru p)
end
end Fw

set_option maxRecDepth 100000
set_option maxHeartbeats 4000000
namespace Lw
open PySem PySem.Spec PyProof.Rows L2 Fw
def kn : List Str := (["TallyError", "NoThing", "Twice", "Within", "Without", "NotReady", "NoHand"] : List Str)
def tab : List (Str × Str × Bool) := ([("TallyError", "NotReady", false), ("NoThing", "NotReady", false), ("Twice", "NotReady", false), ("Within", "NotReady", false), ("Without", "NotReady", false), ("NotReady", "NotReady", true), ("NoHand", "NotReady", false)] : List (Str × Str × Bool))
def topS (i : Nat) : Stmt := PySem.Challenge.pw_ownerstally_k28_whole_given_behind_stret.main.body.getD i (.Pass ⟨0, 0, 0, 0⟩)
abbrev s_is_whole : Stmt := topS 10
def d_is_whole : He.DefD := ⟨("is_whole", none), "is_whole", "is_whole", defArgs s_is_whole, defBody s_is_whole, defScope s_is_whole, [], []⟩
abbrev s_Rooms___init__ : Stmt := inClass (topS 14) 0
def d_Rooms___init__ : He.DefD := ⟨("Rooms", some "__init__"), "__init__", "Rooms.__init__", defArgs s_Rooms___init__, defBody s_Rooms___init__, defScope s_Rooms___init__, [], []⟩
abbrev s_Rooms_reading : Stmt := inClass (topS 14) 5
def d_Rooms_reading : He.DefD := ⟨("Rooms", some "reading"), "reading", "Rooms.reading", defArgs s_Rooms_reading, defBody s_Rooms_reading, defScope s_Rooms_reading, [], []⟩
abbrev s_Rooms_waiting : Stmt := inClass (topS 14) 6
def d_Rooms_waiting : He.DefD := ⟨("Rooms", some "waiting"), "waiting", "Rooms.waiting", defArgs s_Rooms_waiting, defBody s_Rooms_waiting, defScope s_Rooms_waiting, [], []⟩
abbrev s_Rooms_ready : Stmt := inClass (topS 14) 7
def d_Rooms_ready : He.DefD := ⟨("Rooms", some "ready"), "ready", "Rooms.ready", defArgs s_Rooms_ready, defBody s_Rooms_ready, defScope s_Rooms_ready, [], []⟩
abbrev s__law_numbers : Stmt := topS 16
def d__law_numbers : He.DefD := ⟨("_law_numbers", none), "_law_numbers", "_law_numbers", defArgs s__law_numbers, defBody s__law_numbers, defScope s__law_numbers, [], []⟩
abbrev s_is_hand : Stmt := topS 11
def d_is_hand : He.DefD := ⟨("is_hand", none), "is_hand", "is_hand", defArgs s_is_hand, defBody s_is_hand, defScope s_is_hand, [], []⟩
abbrev s_is_thing : Stmt := topS 12
def d_is_thing : He.DefD := ⟨("is_thing", none), "is_thing", "is_thing", defArgs s_is_thing, defBody s_is_thing, defScope s_is_thing, [], []⟩
abbrev s_Rooms_enter : Stmt := inClass (topS 14) 1
def d_Rooms_enter : He.DefD := ⟨("Rooms", some "enter"), "enter", "Rooms.enter", defArgs s_Rooms_enter, defBody s_Rooms_enter, defScope s_Rooms_enter, [], []⟩
abbrev s_Rooms_leave : Stmt := inClass (topS 14) 2
def d_Rooms_leave : He.DefD := ⟨("Rooms", some "leave"), "leave", "Rooms.leave", defArgs s_Rooms_leave, defBody s_Rooms_leave, defScope s_Rooms_leave, [], []⟩
abbrev s_Rooms_retire : Stmt := inClass (topS 14) 3
def d_Rooms_retire : He.DefD := ⟨("Rooms", some "retire"), "retire", "Rooms.retire", defArgs s_Rooms_retire, defBody s_Rooms_retire, defScope s_Rooms_retire, [], []⟩
abbrev s_Rooms_give : Stmt := inClass (topS 14) 4
def d_Rooms_give : He.DefD := ⟨("Rooms", some "give"), "give", "Rooms.give", defArgs s_Rooms_give, defBody s_Rooms_give, defScope s_Rooms_give, [], []⟩
abbrev s_Rooms_copy : Stmt := inClass (topS 14) 8
def d_Rooms_copy : He.DefD := ⟨("Rooms", some "copy"), "copy", "Rooms.copy", defArgs s_Rooms_copy, defBody s_Rooms_copy, defScope s_Rooms_copy, [], []⟩
abbrev s__law_given : Stmt := topS 18
def d__law_given : He.DefD := ⟨("_law_given", none), "_law_given", "_law_given", defArgs s__law_given, defBody s__law_given, defScope s__law_given, [], []⟩
abbrev s__law_all_tried : Stmt := topS 19
def d__law_all_tried : He.DefD := ⟨("_law_all_tried", none), "_law_all_tried", "_law_all_tried", defArgs s__law_all_tried, defBody s__law_all_tried, defScope s__law_all_tried, [], []⟩
abbrev s__law_deed : Stmt := topS 21
def d__law_deed : He.DefD := ⟨("_law_deed", none), "_law_deed", "_law_deed", defArgs s__law_deed, defBody s__law_deed, defScope s__law_deed, [], []⟩
abbrev s__law_same : Stmt := topS 17
def d__law_same : He.DefD := ⟨("_law_same", none), "_law_same", "_law_same", defArgs s__law_same, defBody s__law_same, defScope s__law_same, [], []⟩
abbrev s__law_stands : Stmt := topS 20
def d__law_stands : He.DefD := ⟨("_law_stands", none), "_law_stands", "_law_stands", defArgs s__law_stands, defBody s__law_stands, defScope s__law_stands, [], []⟩
abbrev s_law : Stmt := topS 22
def d_law : He.DefD := ⟨("law", none), "law", "law", defArgs s_law, defBody s_law, defScope s_law, [], []⟩
def fn : List He.DefD := [d_is_whole, d_Rooms___init__, d_Rooms_reading, d_Rooms_waiting, d_Rooms_ready, d__law_numbers, d_is_hand, d_is_thing, d_Rooms_enter, d_Rooms_leave, d_Rooms_retire, d_Rooms_give, d_Rooms_copy, d__law_given, d__law_all_tried, d__law_deed, d__law_same, d__law_stands, d_law]
def fa : List He.Fa := ([.glo "TallyError", .glo "NoThing", .glo "Twice", .glo "Within", .glo "Without", .glo "NotReady", .glo "NoHand", .glo "is_whole", .glo "is_hand", .glo "is_thing", .glo "Rooms", .glo "_law_numbers", .glo "_law_same", .glo "_law_given", .glo "_law_all_tried", .glo "_law_stands", .glo "_law_deed", .glo "law", .free "ValueError", .free "all", .free "bool", .free "dict", .free "enumerate", .free "int", .free "isinstance", .free "len", .free "list", .free "max", .free "range", .free "sorted"] : List He.Fa) ++ ([.free "tuple", .free "zip", .int "MOST_HAND" 3, .cls "Rooms", .noat "Rooms" "readers", .noat "Rooms" "waits", .mkr "Rooms", .meth "Rooms" "reading", .meth "Rooms" "waiting", .meth "Rooms" "ready", .meth "Rooms" "enter", .meth "Rooms" "leave", .meth "Rooms" "retire", .meth "Rooms" "give", .meth "Rooms" "copy"] : List He.Fa)
def loose : List PySem.Str := (["TallyError", "NoThing", "Twice", "Within", "Without", "NotReady", "NoHand", "MOST_HAND", "is_whole", "is_hand", "is_thing", "Rooms", "_law_numbers", "_law_same", "_law_given", "_law_all_tried", "_law_stands", "_law_deed"] : List PySem.Str)
abbrev rowR : PySem.W.OpenRow := PySem.W.OpenLaw.row PySem.Challenge.rw_ownerstally_k28_whole_given_behind_stret
abbrev hk : PySem.W.Hook := hookX 5 fa fn kn tab
def ob (s : PySem.W.SharedT) : Bool × He.AlD := obsX 5 fa fn kn tab (HandSHeadRun.getT s)
theorem ob_eq (s : PySem.W.SharedT) : ob s = hk.obs s.abs := obsX_eq (HandSHeadRun.getT_eq s)
theorem run (w : World) : HandSHeadRun.RunEq rowR (PySem.W.view rowR.prog [22]) hk ob 12000 loose w := by
  intro os
  kernel_rfl
end Lw

set_option maxRecDepth 100000
set_option maxHeartbeats 4000000
namespace Fw
open PySem PySem.Spec PyProof.Rows L2

/-! ### evaluation -/
theorem gA (h l : LH) (k : Nat) : (h ++ l)[h.length + k]? = l[k]? := by
  rw [List.getElem?_append_right (by omega)]
  congr 1
  omega
theorem gA0 (h l : LH) : (h ++ l)[h.length]? = l[0]? := gA h l 0
theorem gO {h : LH} {k : Nat} {o : LO} (e : h[k]? = some o) (l : LH) : (h ++ l)[k]? = some o := by
  rw [List.getElem?_append_left (List.getElem?_eq_some_iff.mp e).1]
  exact e
theorem sA (h l : LH) (k : Nat) (o : LO) : (h ++ l).set (h.length + k) o = h ++ l.set k o := by
  rw [List.set_append_right _ _ (by omega)]
  congr 2
  omega
theorem sA0 (h l : LH) (o : LO) : (h ++ l).set h.length o = h ++ l.set 0 o := sA h l 0 o
theorem lt_line {n : Nat} (h : n ≤ 1000000) : n ≤ sizeLine := by rw [sizeLine_eq]; omega
theorem lt_line' {n : Nat} (h : n ≤ 1000000) : n < sizeLine := by rw [sizeLine_eq]; omega
theorem atI_in {α : Type} {xs : List α} {i : Int} (h0 : 0 ≤ i) (h1 : i < xs.length) : atI xs i = some xs[i.toNat] := by
  unfold atI ixN
  rw [if_pos h0, if_pos h1]
  simp only [Option.bind_some]
  rw [List.getElem?_eq_getElem (by omega)]
theorem atI_mem {α : Type} {xs : List α} {i : Int} (h0 : 0 ≤ i) (h1 : i < xs.length) : ∃ v, atI xs i = some v ∧ v ∈ xs := ⟨_, atI_in h0 h1, List.getElem_mem _⟩

theorem ex1 {α : Sort _} {p : α → Prop} {a : α} (h : p a) : ∃ a, p a := ⟨a, h⟩
theorem ex2 {α β : Sort _} {p : α → β → Prop} {a : α} {b : β} (h : p a b) : ∃ a b, p a b := ⟨a, b, h⟩
theorem ex3 {α β γ : Sort _} {p : α → β → γ → Prop} {a : α} {b : β} {c : γ} (h : p a b c) : ∃ a b c, p a b c := ⟨a, b, c, h⟩
theorem an2 {P R : Prop} (e : R) (b0 : P) : P ∧ R := ⟨b0, e⟩
theorem an3 {P Q R : Prop} (e : R) (b0 : P) (b1 : Q) : P ∧ Q ∧ R := ⟨b0, b1, e⟩
/-! ### evaluation step by step -/
section
variable {s s1 s2 : LSt} {h h1 h2 h3 : LH} {v u w : LV} {vs us : List LV} {a b c m : LE} {ta tb : LT} {aa ar : LA} {f g : LV → LV → M LV} {r : RE LV} {rb : RE Bool} {rs : RS} {A B : LS}
theorem v_var {i : Nat} (e : s[i]? = some (some v)) : varM i s h = .ok v h := by unfold varM; rw [e]
theorem v_cst : cst v s h = .ok v h := rfl
theorem v_op (ha : a s h = .ok v h1) (hb : b s h1 = .ok u h2) (hf : f v u h2 = r) : opM f a b s h = r := by unfold opM bnd; rw [ha]; dsimp only; rw [hb]; exact hf
theorem v_un {f : LV → M LV} (ha : a s h = .ok v h1) (hf : f v h1 = r) : unM f a s h = r := by unfold unM bnd; rw [ha]; exact hf
theorem v_call {f : List LV → M LV} (ha : aa s h = .ok vs h1) (hf : f vs h1 = r) : callM f aa s h = r := by unfold callM bnd; rw [ha]; exact hf
theorem v_nil : aNil s h = .ok [] h := rfl
theorem v_cons (ha : a s h = .ok v h1) (hb : ar s h1 = .ok vs h2) : aCons a ar s h = .ok (v :: vs) h2 := by unfold aCons bnd; rw [ha]; dsimp only; rw [hb]; rfl
theorem v_tup (ha : aa s h = .ok vs h1) : tupM aa s h = .ok (.tup vs) h1 := by unfold tupM bnd; rw [ha]; rfl
theorem v_lst (ha : aa s h = .ok vs h1) : lstM aa s h = .ok (.ref h1.length) (h1 ++ [.lst vs]) := by unfold lstM bnd; rw [ha]
theorem v_tst {k : Bool} (hm : m s h = .ok (.bl k) h1) : tstM m s h = .ok k h1 := by unfold tstM bnd; rw [hm]; rfl
theorem v_andT {k : Bool} (ha : ta s h = .ok k h1) (hb : (if k = true then tb s h1 else .ok false h1) = rb) : andT ta tb s h = rb := by unfold andT bnd; rw [ha]; dsimp only; rw [← hb]; split <;> rfl
theorem v_orT {k : Bool} (ha : ta s h = .ok k h1) (hb : (if k = true then .ok true h1 else tb s h1) = rb) : orT ta tb s h = rb := by unfold orT bnd; rw [ha]; dsimp only; rw [← hb]; split <;> rfl
theorem v_notT {k : Bool} (ha : ta s h = .ok k h1) : notT ta s h = .ok (!k) h1 := by unfold notT bnd; rw [ha]; rfl
theorem v_andV {k : Bool} (ha : a s h = .ok (.bl k) h1) (hb : (if k = true then b s h1 else .ok (.bl false) h1) = r) : andV a b s h = r := by unfold andV bnd; rw [ha]; dsimp only [asB, ret]; rw [← hb]; split <;> rfl
theorem v_orV {k : Bool} (ha : a s h = .ok (.bl k) h1) (hb : (if k = true then .ok (.bl true) h1 else b s h1) = r) : orV a b s h = r := by unfold orV bnd; rw [ha]; dsimp only [asB, ret]; rw [← hb]; split <;> rfl
theorem v_notV {k : Bool} (ha : a s h = .ok (.bl k) h1) : notV a s h = .ok (.bl (!k)) h1 := by unfold notV bnd; rw [ha]; rfl
theorem v_ifE {k : Bool} (hc : ta s h = .ok k h1) (hb : (if k = true then a s h1 else b s h1) = r) : ifE ta a b s h = r := by unfold ifE bnd; rw [hc]; dsimp only; rw [← hb]; split <;> rfl
theorem v_chn {k : Bool} (ha : a s h = .ok v h1) (hb : b s h1 = .ok u h2) (hf : f v u h2 = .ok (.bl k) h2) (hc : (if k = true then bnd (c s) (fun w => g u w) h2 else .ok (.bl false) h2) = r) : chnM f g a b c s h = r := by
  unfold chnM bnd; rw [ha]; dsimp only; rw [hb]; dsimp only; rw [hf]; dsimp only [asB, ret]; rw [← hc]; split <;> rfl
theorem v_bnd {α β : Type} {m : M α} {f : α → M β} {x : α} {q : RE β} (ha : m h = .ok x h1) (hf : f x h1 = q) : bnd m f h = q := by unfold bnd; rw [ha]; exact hf
theorem v_slc {lo hi : LO'} {i j : Option Int} (ha : a s h = .ok v h1) (hl : lo s h1 = .ok i h2) (hh : hi s h2 = .ok j h3) (hf : sliceL i j v h3 = r) : slcM a lo hi s h = r := by unfold slcM bnd; rw [ha]; dsimp only; rw [hl]; dsimp only; rw [hh]; exact hf
theorem v_poN : poN s h = .ok none h := rfl
theorem v_poS {i : Int} (ha : a s h = .ok (.int i) h1) : poS a s h = .ok (some i) h1 := by unfold poS bnd; rw [ha]; rfl
theorem v_met {ck : LH → LV → Bool} {f : LV → List LV → M LV} (ho : a s h = .ok v h1) (hc : ck h1 v = true) (ha : aa s h1 = .ok vs h2) (hf : f v vs h2 = r) : metM ck f a aa s h = r := by unfold metM bnd; rw [ho]; dsimp only; rw [if_pos hc, ha]; exact hf
def seqR (r : RS) (B : LS) : RS := match r with
  | .nx s' h' => B s' h'
  | .rt v h' => .rt v h'
  | .bk s' h' => .bk s' h'
  | .ct s' h' => .ct s' h'
  | .exc c fs s' h' => .exc c fs s' h'
  | .bad => .bad
theorem v_seq {r1 : RS} (ha : A s h = r1) (hb : seqR r1 B = rs) : seqS A B s h = rs := by unfold seqS; rw [ha]; exact hb
theorem v_seqN (hb : B s h = rs) : seqR (.nx s h) B = rs := hb
theorem v_nilS : nilS s h = .nx s h := rfl
theorem v_expr (ha : m s h = .ok v h1) : exprS m s h = .nx s h1 := by unfold exprS; rw [ha]
theorem v_ret (ha : m s h = .ok v h1) : retS m s h = .rt v h1 := by unfold retS; rw [ha]
theorem v_if {k : Bool} (hc : ta s h = .ok k h1) (hb : (if k = true then A s h1 else B s h1) = rs) : ifS ta A B s h = rs := by unfold ifS; rw [hc]; exact hb
theorem v_asg {i : Nat} (ha : m s h = .ok v h1) (hs : s.set i (some v) = s1) : asgS m (gNm i) s h = .nx s1 h1 := by unfold asgS; rw [ha]; dsimp only [gNm, ret]; rw [hs]
theorem v_asgG {gg : LG} (ha : m s h = .ok v h1) (hg : gg v s h1 = .ok s1 h2) : asgS m gg s h = .nx s1 h2 := by unfold asgS; rw [ha]; dsimp only; rw [hg]
theorem v_gtp {gs : List LG} {q : RE LSt} (hs : seqV h v = some vs) (hl : vs.length = gs.length) (hg : gAll gs vs s h = q) : gTp gs v s h = q := by unfold gTp; rw [hs]; dsimp only; rw [if_pos hl]; exact hg
theorem v_gaN : gAll [] [] s h = .ok s h := rfl
theorem v_gaC {i : Nat} {gs : List LG} {q : RE LSt} (hs : s.set i (some v) = s1) (hg : gAll gs vs s1 h = q) : gAll (gNm i :: gs) (v :: vs) s h = q := by unfold gAll bnd gNm ret; dsimp only; rw [hs]; exact hg
theorem v_for {i : LI} {gg : LG} {it : Items} (hi : i s h = .ok it h1) (hf : forI it.o gg B it.its s h1 = rs) : forS i gg B s h = rs := by unfold forS; rw [hi]; exact hf
theorem v_itmC {f : List LV → M Items} {q : RE Items} (ha : aa s h = .ok vs h1) (hf : f vs h1 = q) : itmC f aa s h = q := by unfold itmC bnd; rw [ha]; exact hf
theorem v_itmE {q : RE Items} (ha : a s h = .ok v h1) (hf : itmL v h1 = q) : itmE a s h = q := by unfold itmE bnd; rw [ha]; exact hf
def runR : RS → RE LV
  | .rt v h' => .ok v h'
  | .nx _ h' => .ok .non h'
  | .exc c fs _ h' => .exc c fs h'
  | .bk _ _ => .bad
  | .ct _ _ => .bad
  | .bad => .bad
theorem v_run {n : Nat} {B : LS} {q : RE LV} (hs : vs.map some ++ List.replicate (n - vs.length) none = s) (hb : B s h = rs) (hr : runR rs = q) : runB n B vs h = q := by
  subst hs; subst hb; subst hr
  unfold runB runR
  rfl
variable {i j : Int}
theorem v_add : addL (.int i) (.int j) h = .ok (.int (i + j)) h := rfl
theorem v_adds {x y : Str} (hc : x.length + y.length ≤ sizeLine) : addL (.str x) (.str y) h = .ok (.str (x ++ y)) h := if_pos hc
theorem v_addl {l k : Nat} {xs ys : List LV} (hx : h[l]? = some (.lst xs)) (hy : h[k]? = some (.lst ys)) (hc : xs.length + ys.length ≤ sizeLine) : addL (.ref l) (.ref k) h = .ok (.ref h.length) (h ++ [.lst (xs ++ ys)]) := by simp only [addL, hx, hy, if_pos hc]
theorem v_sub : subL (.int i) (.int j) h = .ok (.int (i - j)) h := rfl
theorem v_mul (hc : cmulB i j = true) : mulL (.int i) (.int j) h = .ok (.int (i * j)) h := if_pos hc
theorem v_cmul (hc : (-(2 ^ 64) < i ∧ i < 2 ^ 64) ∨ (-(2 ^ 64) < j ∧ j < 2 ^ 64)) : cmulB i j = true := decide_eq_true hc
theorem v_fdiv (hc : 0 < j ∧ j.natAbs.log2 < 9000) : fdivL (.int i) (.int j) h = .ok (.int (i / j)) h := if_pos (decide_eq_true hc)
theorem v_mod (hc : 0 < j) : modL (.int i) (.int j) h = .ok (.int (i % j)) h := if_pos (decide_eq_true hc)
theorem v_pow (hc : 0 ≤ j ∧ j ≤ 1000000 ∧ i.natAbs < 2 ^ 64) : powL (.int i) (.int j) h = .ok (.int (i ^ j.toNat)) h := if_pos (decide_eq_true hc)
theorem v_neg : negL (.int i) h = .ok (.int (-i)) h := rfl
theorem v_lt : ltL (.int i) (.int j) h = .ok (.bl (decide (i < j))) h := rfl
theorem v_le : leL (.int i) (.int j) h = .ok (.bl (decide (i ≤ j))) h := rfl
theorem v_gt : gtL (.int i) (.int j) h = .ok (.bl (decide (j < i))) h := rfl
theorem v_ge : geL (.int i) (.int j) h = .ok (.bl (decide (j ≤ i))) h := rfl
theorem v_eqi : eqL (.int i) (.int j) h = .ok (.bl (decide (i = j))) h := by simp [eqL, sclL, flatL, eqF]; rfl
theorem v_nei : neL (.int i) (.int j) h = .ok (.bl (!decide (i = j))) h := by simp [neL, sclL, flatL, eqF]; rfl
theorem v_max : maxL [.int i, .int j] h = .ok (.int (if j > i then j else i)) h := rfl
theorem v_min : minL [.int i, .int j] h = .ok (.int (if j < i then j else i)) h := rfl
theorem nd_w {l : Nat} {xs : List LV} (hx : h[l]? = some (.lst xs)) : dAt h (.ref l) = none := by simp only [dAt, hx]
theorem nd_l {l : Nat} {xs : List LV} (hx : h[l]? = some (.lst xs)) : dRd h (.ref l) = none := by simp only [dRd, hx]
theorem v_getl {l : Nat} {xs : List LV} (hx : h[l]? = some (.lst xs)) (hi : atI xs i = some v) : getA (.ref l) (.int i) h = .ok v h := by
  unfold getA selL isD1
  simp only [nd_l hx, Option.isSome_none, Bool.false_eq_true, if_false, getL, hx, hi]
theorem v_gett {xs : List LV} (hi : atI xs i = some v) : getA (.tup xs) (.int i) h = .ok v h := by
  unfold getA selL isD1
  simp only [dRd, Option.isSome_none, Bool.false_eq_true, if_false, getL, hi]
theorem v_getr {xs : List LV} (hi : atI xs i = some v) : getA (.scr xs) (.int i) h = .ok v h := by
  unfold getA selL isD1
  simp only [dRd, Option.isSome_none, Bool.false_eq_true, if_false, getL, hi]
theorem v_gets {x : Str} {k : Nat} (hx : x.length ≤ sizeLine) (hi : atI x.cps.toList i = some k) : getA (.str x) (.int i) h = .ok (.str ⟨#[k]⟩) h := by
  unfold getA selL isD1
  simp only [dRd, Option.isSome_none, Bool.false_eq_true, if_false, getL, if_pos hx, hi]
theorem v_getd {l : Nat} {tk : Bool} {kvs : List (LV × LV)} {k : LV} (hx : h[l]? = some (.dct tk kvs)) (hk : okKey tk k = true) (hg : getK kvs k = some v) : getA (.ref l) k h = .ok v h := by
  unfold getA selL isD1
  simp only [dRd, hx, Option.isSome_some, if_true, dgtL, hk, hg]
theorem v_ind {l : Nat} {tk : Bool} {kvs : List (LV × LV)} {k : LV} (hx : h[l]? = some (.dct tk kvs)) (hk : okKey tk k = true) : inA k (.ref l) h = .ok (.bl (getK kvs k).isSome) h := by
  unfold inA selL isD2
  simp only [dRd, hx, Option.isSome_some, if_true, dinBy, hk, id]
theorem v_nind {l : Nat} {tk : Bool} {kvs : List (LV × LV)} {k : LV} (hx : h[l]? = some (.dct tk kvs)) (hk : okKey tk k = true) : notInA k (.ref l) h = .ok (.bl (!(getK kvs k).isSome)) h := by
  unfold notInA selL isD2
  simp only [dRd, hx, Option.isSome_some, if_true, dinBy, hk]
theorem v_lenl {l : Nat} {xs : List LV} (hx : h[l]? = some (.lst xs)) : lenL [.ref l] h = .ok (.int xs.length) h := by simp only [lenL, hx]
theorem v_lens {x : Str} (hx : x.length ≤ sizeLine) : lenL [.str x] h = .ok (.int x.length) h := if_pos hx
theorem v_lent {xs : List LV} : lenL [.tup xs] h = .ok (.int xs.length) h := rfl
theorem v_isLst {l : Nat} {xs : List LV} (hx : h[l]? = some (.lst xs)) : isLst h (.ref l) = true := by simp only [isLst, hx]
theorem v_isStr {x : Str} : isStr h (.str x) = true := rfl
theorem v_app {l : Nat} {xs : List LV} (hx : h[l]? = some (.lst xs)) (hc : xs.length < sizeLine) : appL (.ref l) [v] h = .ok .non (h.set l (.lst (xs ++ [v]))) := by simp only [appL, hx, if_pos hc]
theorem v_rng1 (hc : -(2 ^ 62) ≤ j ∧ j < 2 ^ 62) : rng1 [.int j] h = .ok ⟨rngI 0 j.toNat, []⟩ h := if_pos (decide_eq_true hc)
theorem v_rngN {n : Nat} (hc : n ≤ 1000000) : rng1 [.int n] h = .ok ⟨rngI 0 n, []⟩ h := by
  have : -(2 ^ 62) ≤ (n : Int) ∧ (n : Int) < 2 ^ 62 := by omega
  exact v_rng1 this
theorem v_isi {t : Ty} {k : Kd} (hk : kdL h v = some k) : isiL [v, .ty t] h = .ok (.bl (isK k t)) h := by simp only [isiL, hk]
theorem v_sll {l : Nat} {xs : List LV} {lo hi : Option Int} (hx : h[l]? = some (.lst xs)) : sliceL lo hi (.ref l) h = .ok (.ref h.length) (h ++ [.lst (cutL xs lo hi)]) := by simp only [sliceL, hx]
theorem v_slr {xs : List LV} {lo hi : Option Int} : sliceL lo hi (.scr xs) h = .ok (.ref h.length) (h ++ [.lst (cutL xs lo hi)]) := rfl
theorem v_sls {x : Str} {lo hi : Option Int} (hx : x.length ≤ sizeLine) : sliceL lo hi (.str x) h = .ok (.str (cutS x lo hi)) h := if_pos hx
theorem v_slt {xs : List LV} {lo hi : Option Int} : sliceL lo hi (.tup xs) h = .ok (.tup (cutL xs lo hi)) h := rfl
end
/-! ### a loop that goes to its end -/
theorem forI_nx {o : List (Nat × List LV)} {g : LG} {b : LS} (Iv : List LV → LSt → LH → Prop) (keep : ∀ r s h, Iv r s h → keepB o h = true)
    (step : ∀ x r s h, Iv (x :: r) s h → ∃ s1 h1 s2 h2, g x s h = .ok s1 h1 ∧ (b s1 h1 = .nx s2 h2 ∨ b s1 h1 = .ct s2 h2) ∧ Iv r s2 h2) : ∀ its s h, Iv its s h → ∃ s' h', forI o g b its s h = .nx s' h' ∧ Iv [] s' h' := by
  intro its
  induction its with
  | nil =>
    intro s h iv
    exact ⟨s, h, by unfold forI; rw [if_pos (keep _ _ _ iv)], iv⟩
  | cons x r ih =>
    intro s h iv
    obtain ⟨s1, h1, s2, h2, e1, e2, iv2⟩ := step x r s h iv
    obtain ⟨s', h', e3, iv3⟩ := ih s2 h2 iv2
    refine ⟨s', h', ?_, iv3⟩
    unfold forI
    rw [if_pos (keep _ _ _ iv), e1]
    dsimp only
    rcases e2 with e2 | e2 <;> rw [e2] <;> exact e3

/-! ### digits within their sizes -/
def InR : List Int → List Int → Prop
  | [], [] => True
  | d :: ds, n :: ns => 0 ≤ d ∧ d < n ∧ InR ds ns
  | _, _ => False
theorem inr_cons {ds : List Int} {n : Int} {ns : List Int} (h : InR ds (n :: ns)) : ∃ d r, ds = d :: r ∧ 0 ≤ d ∧ d < n ∧ InR r ns := by
  cases ds with
  | nil => exact h.elim
  | cons d r => exact ⟨d, r, rfl, h.1, h.2.1, h.2.2⟩
theorem inr_nil {ds : List Int} (h : InR ds []) : ds = [] := by
  cases ds with
  | nil => rfl
  | cons d r => exact h.elim
theorem inr_len : ∀ {ds ns : List Int}, InR ds ns → ds.length = ns.length
  | [], [], _ => rfl
  | [], _ :: _, h => h.elim
  | _ :: _, [], h => h.elim
  | d :: ds, n :: ns, h => by simp [inr_len h.2.2]
theorem inr_app : ∀ {ds ns : List Int} {d n : Int}, InR ds ns → 0 ≤ d → d < n → InR (ds ++ [d]) (ns ++ [n])
  | [], [], _, _, _, h1, h2 => ⟨h1, h2, trivial⟩
  | [], _ :: _, _, _, h, _, _ => h.elim
  | _ :: _, [], _, _, h, _, _ => h.elim
  | d :: ds, n :: ns, _, _, h, h1, h2 => ⟨h.1, h.2.1, inr_app h.2.2 h1 h2⟩
def nmT : LS :=
  (ifS (andT (tstM (opM geL (varM 3) (opM powL (cst (.int 10)) (cst (.int 18))))) (tstM (opM gtL (varM 4) (cst (.int 0)))))
  (seqS (exprS (metM isLst appL (varM 5) (aCons (opM modL (varM 4) (opM getA (varM 2) (varM 6))) aNil)))
  (asgS (opM fdivL (varM 4) (opM getA (varM 2) (varM 6))) (gNm 4)))
  (seqS (asgS (opM modL (opM addL (opM addL (opM addL (varM 3) (opM mulL (cst (.int 7919)) (varM 1))) (opM mulL (opM mulL (cst (.int 101)) (varM 6)) (varM 6))) (varM 6)) (cst (.int 2147483647))) (gNm 7))
  (seqS (asgS (opM modL (opM mulL (varM 7) (cst (.int 48271))) (cst (.int 2147483647))) (gNm 7))
  (seqS (asgS (opM modL (opM mulL (opM modL (opM mulL (varM 7) (varM 7)) (cst (.int 2147483629))) (cst (.int 48271))) (cst (.int 2147483647))) (gNm 7))
  (exprS (metM isLst appL (varM 5) (aCons (opM modL (opM fdivL (varM 7) (cst (.int 16))) (opM getA (varM 2) (varM 6))) aNil)))))))
def nmB : LS :=
  (seqS (asgS (callM maxL (aCons (varM 0) (aCons (opM subL (unM negL (cst (.int 1))) (varM 0)) aNil))) (gNm 3))
  (seqS (asgS (varM 3) (gNm 4))
  (seqS (asgS (lstM aNil) (gNm 5))
  (seqS (forS (itmC rng1 (aCons (callM lenL (aCons (varM 2) aNil)) aNil)) (gNm 6)
  nmT)
  (retS (varM 5))))))

def nmF : List LV → M LV := runB 8 nmB
/-- sizes that the digits may have -/
def okSz (n : Int) : Prop := 0 < n ∧ n.natAbs.log2 < 9000
local macro_rules | `(tactic| walk_at "st0") => `(tactic| ((simp only [List.map_cons, List.map_nil, List.length_cons, List.length_nil, Nat.reduceAdd, Nat.reduceSub, List.replicate_succ, List.replicate_zero, List.cons_append, List.nil_append]); exact rfl))
local macro_rules | `(tactic| walk_at "hp0") => `(tactic| first | assumption | (rw [gA0]; exact rfl) | (rw [gA]; exact rfl) | ((with_reducible apply gO); walk_at "hp0"))
local macro_rules | `(tactic| walk_at "ev0") => `(tactic| repeat (first
  | with_reducible exact v_cst | with_reducible exact v_nil | with_reducible exact v_add | with_reducible exact v_sub | with_reducible exact v_neg | with_reducible exact v_lt | with_reducible exact v_le | with_reducible exact v_gt | with_reducible exact v_ge | with_reducible exact v_eqi | with_reducible exact v_nei | with_reducible exact v_max | with_reducible exact v_min | with_reducible exact v_nilS | with_reducible exact v_poN | with_reducible exact v_isStr | with_reducible exact v_gaN | with_reducible exact v_slr | with_reducible exact v_slt | with_reducible exact v_lent
  | ((with_reducible apply v_var); exact rfl)
  | with_reducible apply v_op | with_reducible apply v_un | with_reducible apply v_call | with_reducible apply v_cons | with_reducible apply v_tup | with_reducible apply v_lst | with_reducible apply v_tst | with_reducible apply v_andT | with_reducible apply v_orT | with_reducible apply v_notT | with_reducible apply v_andV | with_reducible apply v_orV | with_reducible apply v_notV | with_reducible apply v_ifE | with_reducible apply v_chn
  | with_reducible apply v_slc | with_reducible apply v_poS | with_reducible apply v_met | with_reducible apply v_seq | with_reducible apply v_seqN | with_reducible apply v_expr | with_reducible apply v_ret | with_reducible apply v_if
  | with_reducible apply v_asg | ((with_reducible change List.set _ _ _ = _); (simp only [List.set_cons_zero, List.set_cons_succ]); (with_reducible exact rfl)) 
  | with_reducible apply v_for | with_reducible apply v_itmC | with_reducible apply v_itmE
  | ((with_reducible apply v_pow); decide)
  | (with_reducible apply v_getl)
  | with_reducible apply v_lenl
  | with_reducible apply v_isLst
  | ((with_reducible apply v_fdiv); first | assumption | decide)
  | with_reducible apply v_app | with_reducible apply v_mod | with_reducible apply v_fdiv | with_reducible apply v_mul | with_reducible assumption
  | ((with_reducible change (_ : LH)[_]? = some _); walk_at "hp0")
  | (rw [List.getElem?_set_ne (by assumption)]; assumption)
  | ((with_reducible apply v_rngN); first | omega | ((simp only [List.length_map, List.length_append, List.length_cons, List.length_nil]); omega))
  | with_reducible apply v_rng1
  | ((with_reducible apply v_cmul); omega)
  | omega
  | ((first | (with_reducible change LE.le _ _) | (with_reducible change LT.lt _ _) | (with_reducible change And _ _)); (simp only [List.length_map, List.length_append, List.length_cons, List.length_nil]); omega)
  | (rw [if_pos (by first | assumption | exact decide_eq_true (by assumption) | decide)])
  | (rw [if_neg (by first | assumption | exact fun z => absurd (of_decide_eq_true z) (by assumption) | decide)])))
theorem nums_turn {cell salt number left k sz : Int} {l f : Nat} {h : LH} {ss : List Int} {ds : List LV} {y7 : Option LV} (hf : h[f]? = some (.lst ds)) (hl : h[l]? = some (.lst (ss.map LV.int))) (hn : f ≠ l) (hk : atI (ss.map LV.int) k = some (.int sz)) (hs1 : 0 < sz ∧ sz.natAbs.log2 < 9000) (hd : ds.length ≤ 1000) (hk1 : 0 ≤ k) (hk2 : k ≤ 1000) :
    ∃ (d left' : Int) (y : Option LV), 0 ≤ d ∧ d < sz ∧ nmT [some (.int cell), some (.int salt), some (.ref l), some (.int number), some (.int left), some (.ref f), some (.int k), y7] h
      = .nx [some (.int cell), some (.int salt), some (.ref l), some (.int number), some (.int left'), some (.ref f), some (.int k), y] (h.set f (.lst (ds ++ [.int d]))) := by
  have hz : ds.length < sizeLine := lt_line' (by omega)
  have hs0 : 0 < sz := hs1.1
  have m0 : ∀ x : Int, 0 ≤ x % sz := fun x => Int.emod_nonneg _ (by omega)
  have m1 : ∀ x : Int, x % sz < sz := fun x => Int.emod_lt_of_pos _ hs0
  by_cases c1 : (10 : Int) ^ (Int.toNat 18) ≤ number
  · by_cases c2 : 0 < left
    · apply ex3
      apply an3
      · unfold nmT
        walk_at "ev0"
      · exact m0 _
      · exact m1 _
    · apply ex3
      apply an3
      · unfold nmT
        walk_at "ev0"
      · exact m0 _
      · exact m1 _
  · apply ex3
    apply an3
    · unfold nmT
      walk_at "ev0"
    · exact m0 _
    · exact m1 _
/-- the digit that is drawn, what is left -/
def nxO (number salt k : Int) : Int := (number + 7919 * salt + 101 * k * k + k) % 2147483647
def nxD (number salt left k sz : Int) : Int := if (10 : Int) ^ (Int.toNat 18) ≤ number ∧ 0 < left then left % sz else (nxO number salt k * 48271 % 2147483647 * (nxO number salt k * 48271 % 2147483647) % 2147483629 * 48271 % 2147483647) / 16 % sz
def nxL (number left sz : Int) : Int := if (10 : Int) ^ (Int.toNat 18) ≤ number ∧ 0 < left then left / sz else left
def nmG (number salt : Int) : Int → Int → List Int → List Int
  | _, _, [] => []
  | k, left, sz :: r => nxD number salt left k sz :: nmG number salt (k + 1) (nxL number left sz) r
theorem nums_turnD {cell salt number left k sz : Int} {l f : Nat} {h : LH} {ss : List Int} {ds : List LV} {y7 : Option LV} (hf : h[f]? = some (.lst ds)) (hl : h[l]? = some (.lst (ss.map LV.int))) (hn : f ≠ l) (hk : atI (ss.map LV.int) k = some (.int sz)) (hs1 : 0 < sz ∧ sz.natAbs.log2 < 9000) (hd : ds.length ≤ 1000) (hk1 : 0 ≤ k) (hk2 : k ≤ 1000) :
    ∃ y : Option LV, nmT [some (.int cell), some (.int salt), some (.ref l), some (.int number), some (.int left), some (.ref f), some (.int k), y7] h
      = .nx [some (.int cell), some (.int salt), some (.ref l), some (.int number), some (.int (nxL number left sz)), some (.ref f), some (.int k), y] (h.set f (.lst (ds ++ [.int (nxD number salt left k sz)]))) := by
  have hz : ds.length < sizeLine := lt_line' (by omega)
  have hs0 : 0 < sz := hs1.1
  by_cases c1 : (10 : Int) ^ (Int.toNat 18) ≤ number
  · by_cases c2 : 0 < left
    · rw [nxL, nxD, if_pos ⟨c1, c2⟩, if_pos ⟨c1, c2⟩]
      constructor
      unfold nmT
      walk_at "ev0"
    · rw [nxL, nxD, if_neg (fun z => c2 z.2), if_neg (fun z => c2 z.2)]
      unfold nxO
      constructor
      unfold nmT
      walk_at "ev0"
  · rw [nxL, nxD, if_neg (fun z => c1 z.1), if_neg (fun z => c1 z.1)]
    unfold nxO
    constructor
    unfold nmT
    walk_at "ev0"
theorem nxD_in {number salt left k sz : Int} (hs0 : 0 < sz) : 0 ≤ nxD number salt left k sz ∧ nxD number salt left k sz < sz := by
  unfold nxD
  split
  · exact ⟨Int.emod_nonneg _ (by omega), Int.emod_lt_of_pos _ hs0⟩
  · exact ⟨Int.emod_nonneg _ (by omega), Int.emod_lt_of_pos _ hs0⟩
theorem inr_take {ds ss : List Int} {k : Nat} {d sz : Int} (h : InR ds (ss.take k)) (hk : ss[k]? = some sz) (h0 : 0 ≤ d) (h1 : d < sz) : InR (ds ++ [d]) (ss.take (k + 1)) := by
  rw [List.take_add_one, hk]
  exact inr_app h h0 h1
/-- the drawn numbers: a new list of digits, each within its size -/
theorem nums_ok {cell salt : Int} {l : Nat} {ss : List Int} {h : LH} (hl : h[l]? = some (.lst (ss.map LV.int))) (hs : ∀ z ∈ ss, 0 < z ∧ z.natAbs.log2 < 9000) (hn : ss.length ≤ 1000) :
    ∃ ds : List Int, InR ds ss ∧ nmF [.int cell, .int salt, .ref l] h = .ok (.ref h.length) (h ++ [.lst (ds.map LV.int)]) := by
  obtain ⟨s', h', e, k, left, y6, y7, ds, hr, hk, es, eh, hi⟩ := forI_nx (o := []) (g := gNm 6) (b := nmT)
    (fun r s hh => ∃ (k : Nat) (left : Int) (y6 y7 : Option LV) (ds : List Int), r = rngI k (ss.length - k) ∧ k ≤ ss.length ∧
      s = [some (.int cell), some (.int salt), some (.ref l), some (.int (if -1 - cell > cell then -1 - cell else cell)), some (.int left), some (.ref h.length), y6, y7] ∧ hh = h ++ [.lst (ds.map LV.int)] ∧ InR ds (ss.take k))
    (fun r s hh _ => rfl)
    (fun x r s hh ⟨k, left, y6, y7, ds, hr, hk, es, eh, hi⟩ => by
      have hk2 : k < ss.length := by
        by_cases c : k < ss.length
        · exact c
        · rw [show ss.length - k = 0 by omega] at hr; cases hr
      rw [show ss.length - k = (ss.length - (k + 1)) + 1 by omega] at hr
      obtain ⟨rfl, rfl⟩ := List.cons.inj hr
      subst es; subst eh
      have hsz : ss[k]? = some ss[k] := List.getElem?_eq_getElem hk2
      have hds : ds.length = k := by rw [inr_len hi]; simp; omega
      obtain ⟨d, left', y, b0, b1, e⟩ := nums_turn (cell := cell) (salt := salt) (number := if -1 - cell > cell then -1 - cell else cell) (left := left) (k := k) (y7 := y7) (f := h.length) (h := h ++ [.lst (ds.map LV.int)]) (ds := ds.map LV.int) (by rw [gA0]; rfl) (gO hl _)
        (by have := (List.getElem?_eq_some_iff.mp hl).1; omega) (sz := ss[k]) (by rw [atI_in (by omega) (by simp; omega)]; simp) (hs _ (List.getElem_mem _)) (by simp; omega) (by omega) (by omega)
      refine ⟨_, _, _, _, rfl, .inl e, k + 1, left', some (.int k), y, ds ++ [d], ?_, by omega, rfl, ?_, inr_take hi hsz b0 b1⟩
      · push_cast; rfl
      · rw [sA0]; simp)
    (rngI 0 (ss.map LV.int).length) [some (.int cell), some (.int salt), some (.ref l), some (.int (if -1 - cell > cell then -1 - cell else cell)), some (.int (if -1 - cell > cell then -1 - cell else cell)), some (.ref h.length), none, none] (h ++ [.lst []])
    ⟨0, _, none, none, [], by simp, by omega, rfl, rfl, trivial⟩
  have hk2 : k = ss.length := by
    by_cases c : k < ss.length
    · rw [show ss.length - k = (ss.length - (k + 1)) + 1 by omega] at hr; cases hr
    · omega
  subst hk2 es eh
  rw [List.take_length] at hi
  refine ⟨ds, hi, ?_⟩
  unfold nmF
  apply v_run
  · walk_at "st0"
  · unfold nmB
    walk_at "ev0"
  · rfl
/-- .. which they are -/
theorem nums_det {cell salt : Int} {l : Nat} {ss : List Int} {h : LH} (hl : h[l]? = some (.lst (ss.map LV.int))) (hs : ∀ z ∈ ss, 0 < z ∧ z.natAbs.log2 < 9000) (hn : ss.length ≤ 1000) :
    InR (nmG (if -1 - cell > cell then -1 - cell else cell) salt 0 (if -1 - cell > cell then -1 - cell else cell) ss) ss ∧ nmF [.int cell, .int salt, .ref l] h = .ok (.ref h.length) (h ++ [.lst ((nmG (if -1 - cell > cell then -1 - cell else cell) salt 0 (if -1 - cell > cell then -1 - cell else cell) ss).map LV.int)]) := by
  obtain ⟨s', h', e, k, left, y6, y7, ds, hr, hk, es, eh, hi, hg⟩ := forI_nx (o := []) (g := gNm 6) (b := nmT)
    (fun r s hh => ∃ (k : Nat) (left : Int) (y6 y7 : Option LV) (ds : List Int), r = rngI k (ss.length - k) ∧ k ≤ ss.length ∧
      s = [some (.int cell), some (.int salt), some (.ref l), some (.int (if -1 - cell > cell then -1 - cell else cell)), some (.int left), some (.ref h.length), y6, y7] ∧ hh = h ++ [.lst (ds.map LV.int)] ∧ InR ds (ss.take k) ∧ ds ++ nmG (if -1 - cell > cell then -1 - cell else cell) salt k left (ss.drop k) = nmG (if -1 - cell > cell then -1 - cell else cell) salt 0 (if -1 - cell > cell then -1 - cell else cell) ss)
    (fun r s hh _ => rfl)
    (fun x r s hh ⟨k, left, y6, y7, ds, hr, hk, es, eh, hi, hg⟩ => by
      have hk2 : k < ss.length := by
        by_cases c : k < ss.length
        · exact c
        · rw [show ss.length - k = 0 by omega] at hr; cases hr
      rw [show ss.length - k = (ss.length - (k + 1)) + 1 by omega] at hr
      obtain ⟨rfl, rfl⟩ := List.cons.inj hr
      subst es; subst eh
      have hsz : ss[k]? = some ss[k] := List.getElem?_eq_getElem hk2
      have hds : ds.length = k := by rw [inr_len hi]; simp; omega
      obtain ⟨y, e⟩ := nums_turnD (cell := cell) (salt := salt) (number := if -1 - cell > cell then -1 - cell else cell) (left := left) (k := k) (y7 := y7) (f := h.length) (h := h ++ [.lst (ds.map LV.int)]) (ds := ds.map LV.int) (by rw [gA0]; rfl) (gO hl _)
        (by have := (List.getElem?_eq_some_iff.mp hl).1; omega) (sz := ss[k]) (by rw [atI_in (by omega) (by simp; omega)]; simp) (hs _ (List.getElem_mem _)) (by simp; omega) (by omega) (by omega)
      have bb := nxD_in (number := if -1 - cell > cell then -1 - cell else cell) (salt := salt) (left := left) (k := k) (sz := ss[k]) (hs _ (List.getElem_mem _)).1
      refine ⟨_, _, _, _, rfl, .inl e, k + 1, _, some (.int k), y, ds ++ [_], ?_, by omega, rfl, ?_, inr_take hi hsz bb.1 bb.2, ?_⟩
      · push_cast; rfl
      · rw [sA0]; simp
      · rw [← hg, List.drop_eq_getElem_cons hk2, nmG, List.append_assoc, List.singleton_append]; push_cast; rfl)
    (rngI 0 (ss.map LV.int).length) [some (.int cell), some (.int salt), some (.ref l), some (.int (if -1 - cell > cell then -1 - cell else cell)), some (.int (if -1 - cell > cell then -1 - cell else cell)), some (.ref h.length), none, none] (h ++ [.lst []])
    ⟨0, _, none, none, [], by simp, by omega, rfl, rfl, trivial, by simp⟩
  have hk2 : k = ss.length := by
    by_cases c : k < ss.length
    · rw [show ss.length - k = (ss.length - (k + 1)) + 1 by omega] at hr; cases hr
    · omega
  subst hk2 es eh
  rw [List.take_length] at hi
  rw [List.drop_length, nmG, List.append_nil] at hg
  rw [← hg]
  refine ⟨hi, ?_⟩
  unfold nmF
  apply v_run
  · walk_at "st0"
  · unfold nmB
    walk_at "ev0"
  · rfl
end Fw

set_option maxRecDepth 100000
set_option maxHeartbeats 4000000
namespace Fw
open PySem PySem.Spec PyProof.Rows L2

section
variable {s s1 s2 : LSt} {h h1 h2 h3 : LH} {t t' u' : LH} {n k : Nat} {v u w : LV} {vs us xs ys : List LV} {a b c m : LE} {ta tb : LT} {aa ar : LA} {f g : LV → LV → M LV} {r : RE LV} {rb : RE Bool} {rs : RS} {A B : LS}
theorem v_pos {α : Sort _} {c : Prop} [Decidable c] {x y r : α} (hc : c) (hx : x = r) : (if c then x else y) = r := by rw [if_pos hc]; exact hx
theorem v_neg' {α : Sort _} {c : Prop} [Decidable c] {x y r : α} (hc : ¬c) (hx : y = r) : (if c then x else y) = r := by rw [if_neg hc]; exact hx
theorem v_lstA (ha : aa s h1 = .ok vs (h ++ t)) (hn : t.length = n) (ht : t ++ [LO.lst vs] = t') : lstM aa s h1 = .ok (.ref (h.length + n)) (h ++ t') := by
  rw [v_lst ha]
  subst hn; subst ht
  rw [List.length_append, List.append_assoc]
theorem v_addlA {k1 k2 : Nat} (hx : t[k1]? = some (.lst xs)) (hy : t[k2]? = some (.lst ys)) (hc : xs.length + ys.length ≤ sizeLine) (hn : t.length = n) (ht : t ++ [LO.lst (xs ++ ys)] = t') : addL (.ref (h.length + k1)) (.ref (h.length + k2)) (h ++ t) = .ok (.ref (h.length + n)) (h ++ t') := by
  rw [v_addl (by rw [gA]; exact hx) (by rw [gA]; exact hy) hc]
  subst hn; subst ht
  rw [List.length_append, List.append_assoc]
theorem v_appA (hx : t[k]? = some (.lst xs)) (hc : xs.length < sizeLine) (ht : t.set k (.lst (xs ++ [v])) = t') : appL (.ref (h.length + k)) [v] (h ++ t) = .ok .non (h ++ t') := by
  rw [v_app (by rw [gA]; exact hx) hc, sA, ht]
theorem v_hA {o : LO} (hx : t[k]? = some o) : (h ++ t)[h.length + k]? = some o := by rw [gA]; exact hx
theorem v_sllA {lo hi : Option Int} (hx : t[k]? = some (.lst xs)) (hz : cutL xs lo hi = ys) (hn : t.length = n) (ht : t ++ [LO.lst ys] = t') : sliceL lo hi (.ref (h.length + k)) (h ++ t) = .ok (.ref (h.length + n)) (h ++ t') := by
  rw [v_sll (by rw [gA]; exact hx), hz]
  subst hn; subst ht
  rw [List.length_append, List.append_assoc]
theorem v_slrA {lo hi : Option Int} (hz : cutL xs lo hi = ys) (hn : t.length = n) (ht : t ++ [LO.lst ys] = t') : sliceL lo hi (.scr xs) (h ++ t) = .ok (.ref (h.length + n)) (h ++ t') := by
  rw [v_slr, hz]
  subst hn; subst ht
  rw [List.length_append, List.append_assoc]
theorem v_dnw {tk : Bool} (hn : t.length = n) (ht : t ++ [LO.dct tk []] = t') : dnwM tk s (h ++ t) = .ok (.ref (h.length + n)) (h ++ t') := by
  unfold dnwM
  subst hn; subst ht
  rw [List.length_append, List.append_assoc]
/-- heaps that a call has made longer -/
theorem v_callA {f : List LV → M LV} (ha : aa s h1 = .ok vs (h ++ t)) (hf : f vs (h ++ t) = .ok v (h ++ t ++ u')) (ht : t ++ u' = t') : callM f aa s h1 = .ok v (h ++ t') := by
  refine (v_call ha hf).trans ?_
  rw [List.append_assoc, ht]
theorem nrmA {α : Type} {v : α} {r : RE α} (hf : r = .ok v (h ++ t ++ u')) (ht : t ++ u' = t') : r = .ok v (h ++ t') := by
  rw [hf, List.append_assoc, ht]
theorem v_call0 {f : List LV → M LV} (ha : aa s h1 = .ok vs h2) (hf : f vs h2 = .ok v h2) : callM f aa s h1 = .ok v h2 := v_call ha hf
theorem v_seqT (hb : B s h = rs) : seqR (.nx s h) B = rs := hb
theorem v_seqR : seqR (.rt v h) B = .rt v h := rfl
theorem v_seqB : seqR (.bk s h) B = .bk s h := rfl
theorem v_seqC : seqR (.ct s h) B = .ct s h := rfl
theorem v_seqX {c : Str} {fs : List (Str × LV)} : seqR (.exc c fs s h) B = .exc c fs s h := rfl
theorem v_brk : brkS s h = .bk s h := rfl
theorem v_cnt : cntS s h = .ct s h := rfl
theorem v_retN : retN s h = .rt .non h := rfl
theorem v_inT (hv : flatL v = true) (hy : ys.all flatL = true) : inA v (.tup ys) h = .ok (.bl (ys.any fun y => eqF y v)) h := by
  unfold inA selL isD2
  simp only [dRd, Option.isSome_none, Bool.false_eq_true, if_false, inL]
  cases v <;> first | exact if_pos ⟨hv, hy⟩ | cases hv
theorem v_inE {l : Nat} (hl : h[l]? = some (.lst [])) : inA v (.ref l) h = .ok (.bl false) h := by
  unfold inA selL isD2
  simp only [nd_l hl, Option.isSome_none, Bool.false_eq_true, if_false]
  cases v <;> simp only [inL, inBy, hl, id]
theorem v_inL {l : Nat} (hv : flatL v = true) (hl : h[l]? = some (.lst ys)) (hn : ys.isEmpty = false) (hy : ys.all flatL = true) : inA v (.ref l) h = .ok (.bl (ys.any fun y => eqF y v)) h := by
  unfold inA selL isD2
  simp only [nd_l hl, Option.isSome_none, Bool.false_eq_true, if_false]
  cases ys with
  | nil => cases hn
  | cons y ys =>
    cases v <;> first | (simp only [inL, inBy, hl, id]; exact if_pos ⟨hv, hy⟩) | cases hv
theorem v_ninT (hv : flatL v = true) (hy : ys.all flatL = true) : notInA v (.tup ys) h = .ok (.bl (!ys.any fun y => eqF y v)) h := by
  unfold notInA selL isD2
  simp only [dRd, Option.isSome_none, Bool.false_eq_true, if_false, notInL]
  cases v <;> first | exact if_pos ⟨hv, hy⟩ | cases hv
theorem v_ninL {l : Nat} (hv : flatL v = true) (hl : h[l]? = some (.lst ys)) (hn : ys.isEmpty = false) (hy : ys.all flatL = true) : notInA v (.ref l) h = .ok (.bl (!ys.any fun y => eqF y v)) h := by
  unfold notInA selL isD2
  simp only [nd_l hl, Option.isSome_none, Bool.false_eq_true, if_false]
  cases ys with
  | nil => cases hn
  | cons y ys =>
    cases v <;> first | (simp only [notInL, inBy, hl, id]; exact if_pos ⟨hv, hy⟩) | cases hv
theorem v_str {i : Int} (hc : i.natAbs.log2 < 1920) : strL [.int i] h = .ok (.str (toString i)) h := if_pos hc
theorem v_strs {x : Str} : strL [.str x] h = .ok (.str x) h := rfl
theorem v_abs {i : Int} : absL [.int i] h = .ok (.int (if i < 0 then -i else i)) h := rfl
theorem v_inti {i : Int} : intL [.int i] h = .ok (.int i) h := rfl
theorem v_intb {b : Bool} : intL [.bl b] h = .ok (.int (if b then 1 else 0)) h := rfl
theorem v_listt (hn : t.length = n) (ht : t ++ [LO.lst xs] = t') : listL [.tup xs] (h ++ t) = .ok (.ref (h.length + n)) (h ++ t') := by
  subst hn; subst ht
  show RE.ok (LV.ref (h ++ t).length) (h ++ t ++ [LO.lst xs]) = _
  rw [List.length_append, List.append_assoc]
theorem v_listl (hx : t[k]? = some (.lst xs)) (hn : t.length = n) (ht : t ++ [LO.lst xs] = t') : listL [.ref (h.length + k)] (h ++ t) = .ok (.ref (h.length + n)) (h ++ t') := by
  subst hn; subst ht
  simp only [listL, gA, hx]
  rw [List.length_append, List.append_assoc]
theorem v_tupl {l : Nat} (hl : h[l]? = some (.lst xs)) : tupL [.ref l] h = .ok (.tup xs) h := by simp only [tupL, hl]
theorem v_tupt : tupL [.tup xs] h = .ok (.tup xs) h := rfl
theorem v_revA (hx : t[k]? = some (.lst xs)) (hr : xs.reverse = ys) (ht : t.set k (.lst ys) = t') : revL (.ref (h.length + k)) [] (h ++ t) = .ok .non (h ++ t') := by
  simp only [revL, gA, hx, sA, hr, ht]
theorem v_gsb {mo mi : LE} {o i : LV} (ho : mo s h = .ok o h1) (hi : mi s h1 = .ok i h2) (hs : setL o i v h2 = .ok () h3) : gSb mo mi v s h = .ok s h3 := by
  simp only [gSb, ho, hi, hs]
theorem v_setlA {i : Int} {j : Nat} (hx : t[k]? = some (.lst xs)) (hi : L2.ixN xs.length i = some j) (hy : xs.set j v = ys) (ht : t.set k (.lst ys) = t') : setL (.ref (h.length + k)) (.int i) v (h ++ t) = .ok () (h ++ t') := by
  unfold setL
  rw [nd_w (by rw [gA]; exact hx)]
  simp only [gA, hx, hi, sA, hy, ht]
theorem v_aug {i : Nat} {v : LV} (e : s[i]? = some (some v)) (ha : m s h = .ok u h1) (hf : f v u h1 = .ok w h2) (hs : s.set i (some w) = s1) : augS i f m s h = .nx s1 h2 := by
  unfold augS
  rw [e]
  dsimp only [bnd]
  rw [ha]
  dsimp only
  rw [hf]
  dsimp only
  rw [hs]
theorem v_lentN (hn : xs.length = n) : lenL [.tup xs] h = .ok (.int n) h := by subst hn; rfl
theorem v_lenlN {l : Nat} (hx : h[l]? = some (.lst xs)) (hn : xs.length = n) : lenL [.ref l] h = .ok (.int n) h := by subst hn; exact v_lenl hx
/-! ### ends of any kind -/
def exprR (s : LSt) : RE LV → RS
  | .ok _ h => .nx s h
  | .exc c fs h => .exc c fs s h
  | .bad => .bad
def retR (s : LSt) : RE LV → RS
  | .ok v h => .rt v h
  | .exc c fs h => .exc c fs s h
  | .bad => .bad
def asgR (i : Nat) (s : LSt) : RE LV → RS
  | .ok v h => .nx (s.set i (some v)) h
  | .exc c fs h => .exc c fs s h
  | .bad => .bad
theorem v_exprG (ha : m s h = r) (hr : exprR s r = rs) : exprS m s h = rs := by subst hr; subst ha; unfold exprS exprR; rfl
theorem v_retG (ha : m s h = r) (hr : retR s r = rs) : retS m s h = rs := by subst hr; subst ha; unfold retS retR; rfl
theorem v_asgN {i : Nat} (ha : m s h = r) (hr : asgR i s r = rs) : asgS m (gNm i) s h = rs := by
  subst hr; subst ha
  unfold asgS asgR
  cases m s h <;> rfl
theorem v_exprO : exprR s (.ok v h) = .nx s h := rfl
theorem v_retO : retR s (.ok v h) = .rt v h := rfl
theorem v_asgO {i : Nat} (hs : s.set i (some v) = s1) : asgR i s (.ok v h) = .nx s1 h := by rw [← hs]; rfl
theorem v_exprX {c : Str} {fs : List (Str × LV)} : exprR s (.exc c fs h) = .exc c fs s h := rfl
theorem v_retX {c : Str} {fs : List (Str × LV)} : retR s (.exc c fs h) = .exc c fs s h := rfl
theorem v_asgX {i : Nat} {c : Str} {fs : List (Str × LV)} : asgR i s (.exc c fs h) = .exc c fs s h := rfl
theorem v_raise {c : Str} : raiseS c s h = .exc c [] s h := rfl
def tryR (tab : List (Str × Str × Bool)) (n : Str) (i j : Nat) : RS → RS
  | .exc c fs s' h' => (match subE tab c n with
    | some true => if i < s'.length then .nx (((s'.set i none).set j (some (.exc c fs))).set i none) h' else .bad
    | some false => .exc c fs s' h'
    | none => .bad)
  | .nx s' h' => .nx s' h'
  | .rt v h' => .rt v h'
  | .bk s' h' => .bk s' h'
  | .ct s' h' => .ct s' h'
  | .bad => .bad
theorem v_tryG {tab : List (Str × Str × Bool)} {n : Str} {i j : Nat} {r1 : RS} (ha : B s h = r1) (hr : tryR tab n i j r1 = rs) : tryKS tab n i j B s h = rs := by subst hr; subst ha; unfold tryKS tryR; cases B s h <;> rfl
theorem v_tryN {tab : List (Str × Str × Bool)} {n : Str} {i j : Nat} : tryR tab n i j (.nx s h) = .nx s h := rfl
theorem v_tryT {tab : List (Str × Str × Bool)} {n : Str} {i j : Nat} : tryR tab n i j (.rt v h) = .rt v h := rfl
theorem v_tryX {tab : List (Str × Str × Bool)} {n c : Str} {i j : Nat} {fs : List (Str × LV)} (hs : subE tab c n = some true) (hl : i < s.length) (he : ((s.set i none).set j (some (.exc c fs))).set i none = s1) : tryR tab n i j (.exc c fs s h) = .nx s1 h := by
  unfold tryR; dsimp only; rw [hs]; dsimp only; rw [if_pos hl, he]
theorem v_tryP {tab : List (Str × Str × Bool)} {n c : Str} {i j : Nat} {fs : List (Str × LV)} (hs : subE tab c n = some false) : tryR tab n i j (.exc c fs s h) = .exc c fs s h := by
  unfold tryR; dsimp only; rw [hs]
theorem v_isiE {kn : List Str} {tab : List (Str × Str × Bool)} {c n : Str} {b : Bool} (e : subE tab c n = some b) : isiA kn tab [.exc c [], .fn n] h = .ok (.bl b) h := by simp only [isiA, e]
theorem v_isiV {kn : List Str} {tab : List (Str × Str × Bool)} {c : Str} (e : kn.contains c = true) : isiA kn tab [.exc c [], .ty .verr] h = .ok (.bl true) h := by simp only [isiA, e, if_true]
def isNonB : LV → Bool
  | .non => true
  | _ => false
theorem v_isN : isNL .non .non h = .ok (.bl true) h := rfl
theorem v_isNx (hv : isNonB v = false) : isNL v .non h = .ok (.bl false) h := by cases v <;> first | rfl | cases hv
theorem v_notN : notNL .non .non h = .ok (.bl false) h := rfl
theorem v_notNx (hv : isNonB v = false) : notNL v .non h = .ok (.bl true) h := by cases v <;> first | rfl | cases hv
theorem v_neW {a : Int} {x : Str} (hx : PyData.strOk x = true) : neL (.tup [.int a, .str x]) (.tup [.int a, .str x]) h = .ok (.bl false) h := by
  have e : sclL (.tup [.int a, .str x]) (.tup [.int a, .str x]) = false := rfl
  simp [neL, e, toD, optAll, hx, PyData.eqv, PyData.eqvAll]
theorem nb1 {b : Bool} (hb : b = true) : ¬ (!b) = true := by rw [hb]; decide
theorem nb2 {b : Bool} (hb : ¬ b = true) : (!b) = true := by cases b with | false => rfl | true => exact absurd rfl hb
theorem v_eqs {x y : Str} : eqL (.str x) (.str y) h = .ok (.bl (x == y)) h := rfl
theorem v_nes {x y : Str} : neL (.str x) (.str y) h = .ok (.bl (!(x == y))) h := rfl
theorem v_neb {x y : Bool} : neL (.bl x) (.bl y) h = .ok (.bl (!(x == y))) h := rfl
theorem v_eqb {x y : Bool} : eqL (.bl x) (.bl y) h = .ok (.bl (x == y)) h := rfl
theorem v_iadd {i j : Int} : iaddL (.int i) (.int j) h = .ok (.int (i + j)) h := rfl
theorem v_cmbT {k : Bool} (hc : k = true) : k = true := hc
/-- loops over lists of known length -/
theorem v_forN {o : List (Nat × List LV)} {g : LG} (hk : keepB o h = true) : forI o g B [] s h = .nx s h := by unfold forI; rw [if_pos hk]
def nxtF (o : List (Nat × List LV)) (g : LG) (B : LS) (r : List LV) : RS → RS
  | .nx s h => forI o g B r s h
  | .ct s h => forI o g B r s h
  | .bk s h => .nx s h
  | .rt v h => .rt v h
  | .exc c fs s h => .exc c fs s h
  | .bad => .bad
theorem v_forC {o : List (Nat × List LV)} {g : LG} {x : LV} {r : List LV} {r1 : RS} (hk : keepB o h = true) (hg : g x s h = .ok s1 h1) (hb : B s1 h1 = r1) (hr : nxtF o g B r r1 = rs) : forI o g B (x :: r) s h = rs := by
  unfold forI; rw [if_pos hk, hg]; dsimp only; rw [hb]; subst hr
  cases r1 <;> rfl
theorem v_nxt {o : List (Nat × List LV)} {g : LG} {r : List LV} (h0 : forI o g B r s h = rs) : nxtF o g B r (.nx s h) = rs := h0
theorem v_nxtC {o : List (Nat × List LV)} {g : LG} {r : List LV} (h0 : forI o g B r s h = rs) : nxtF o g B r (.ct s h) = rs := h0
theorem v_nxtB {o : List (Nat × List LV)} {g : LG} {r : List LV} : nxtF o g B r (.bk s h) = .nx s h := rfl
theorem v_nxtR {o : List (Nat × List LV)} {g : LG} {r : List LV} : nxtF o g B r (.rt v h) = .rt v h := rfl
theorem v_gnm {i : Nat} (hs : s.set i (some v) = s1) : gNm i v s h = .ok s1 h := by unfold gNm ret; rw [hs]
theorem v_itl {l : Nat} (hl : h[l]? = some (.lst xs)) : itmL (.ref l) h = .ok ⟨xs, [(l, xs)]⟩ h := by simp only [itmL, hl]
theorem v_itt : itmL (.tup xs) h = .ok ⟨xs, []⟩ h := rfl
theorem v_itr : itmL (.scr xs) h = .ok ⟨xs, []⟩ h := rfl
theorem v_enu {l : Nat} (hl : h[l]? = some (.lst xs)) : enuL [.ref l] h = .ok ⟨prs 0 xs, [(l, xs)]⟩ h := by simp only [enuL, hl]
theorem v_kpN : keepB [] h = true := rfl
theorem v_kp {l : Nat} (hl : h[l]? = some (.lst xs)) : keepB [(l, xs)] h = true := keepB_of hl
theorem v_sqT : seqV h (.tup xs) = some xs := rfl
theorem v_sqL {l : Nat} (hl : h[l]? = some (.lst xs)) : seqV h (.ref l) = some xs := by simp only [seqV, hl]
theorem v_comp {i : LI} {gg : LG} {tt : LT} {ns : List Nat} {it : Items} (hi : i s h = .ok it h1) (hc : compI it.o gg tt a h1.length (wipeL s ns) it.its (h1 ++ [.lst []]) = r) : compM i gg tt a ns s h = r := by unfold compM; rw [hi]; exact hc
end
theorem kd_app {h t : LH} {v : LV} {k : Kd} (hk : kdL h v = some k) : kdL (h ++ t) v = some k := by
  cases v with
  | ref l =>
    unfold kdL at hk ⊢
    dsimp only at hk ⊢
    cases e : h[l]? with
    | none => rw [e] at hk; cases hk
    | some o => rw [e] at hk; rw [gO e]; exact hk
  | _ => exact hk
theorem kd_l {h t : LH} {k : Nat} {xs : List LV} (e : t[k]? = some (.lst xs)) : kdL (h ++ t) (.ref (h.length + k)) = some .lst := by
  simp only [kdL, gA, e]
theorem kd_d {h t : LH} {k : Nat} {b : Bool} {xs : List (LV × LV)} (e : t[k]? = some (.dct b xs)) : kdL (h ++ t) (.ref (h.length + k)) = some .dct := by
  simp only [kdL, gA, e]
theorem kd_pick {h : LH} {xs : List LV} {n : Nat} (hn : n < xs.length) (H : ∀ x ∈ xs, ∃ k, kdL h x = some k) : ∃ k, kdL h (xs[n]'hn) = some k := H _ (List.getElem_mem _)
theorem kd_nil {h : LH} : ∀ x ∈ ([] : List LV), ∃ k, kdL h x = some k := by simp
theorem kd_cons {h : LH} {y : LV} {ys : List LV} {k : Kd} (h0 : kdL h y = some k) (h1 : ∀ x ∈ ys, ∃ k, kdL h x = some k) : ∀ x ∈ y :: ys, ∃ k, kdL h x = some k := by
  intro x hx
  rcases List.mem_cons.mp hx with rfl | hx
  · exact ⟨k, h0⟩
  · exact h1 x hx
theorem v_up {h : LH} {x : Str} (hc : x.length ≤ 5592405) : upL (.str x) [] h = .ok (.str (Txt.upper x)) h := if_pos hc
theorem v_dsp {l : List (LE × LE)} {s : LSt} {h t t' : LH} {n : Nat} {ps : List (LV × LV)} (hp : prsM l s (h ++ t ++ [.dct false []]) = .ok ps (h ++ t ++ [.dct false []])) (hk : ps.all (fun p => (keyOf p.1).isSome) = true) (hl : ps.length ≤ 15) {kvs : List (LV × LV)} (hd : ps.foldl (fun acc p => putL acc p.1 p.2) [] = kvs) (hn : t.length = n) (ht : t ++ [LO.dct false kvs] = t') : dspM l s (h ++ t) = .ok (.ref (h.length + n)) (h ++ t') := by
  unfold dspM bnd
  rw [hp]
  dsimp only [dspF]
  rw [gA0]
  dsimp only [List.getElem?_cons_zero]
  rw [if_pos ⟨hk, hl⟩, sA0]
  subst hn; subst ht; subst hd
  rw [List.length_append, List.append_assoc, List.set_cons_zero]
theorem toD_bls (h : LH) (n : Nat) : ∀ bs : List Bool, optAll (toD n h) (bs.map LV.bl) = some (bs.map PyData.bool)
  | [] => rfl
  | b :: bs => by
    have e : toD n h (.bl b) = some (.bool b) := by cases n <;> rfl
    simp only [List.map_cons, optAll, e, toD_bls h n bs]
theorem eqvA_bls : ∀ bs : List Bool, PyData.eqvAll (bs.map PyData.bool) (bs.map PyData.bool) = true
  | [] => by simp [PyData.eqvAll]
  | b :: bs => by
    simp only [List.map_cons, PyData.eqvAll, eqvA_bls bs]
    cases b <;> simp [PyData.eqv]
/-- two lists of the same truths are alike -/
theorem v_nels {h : LH} {l k : Nat} (bs : List Bool) (hl : h[l]? = some (.lst (bs.map LV.bl))) (hk : h[k]? = some (.lst (bs.map LV.bl))) : neL (.ref l) (.ref k) h = .ok (.bl false) h := by
  have e : sclL (.ref l) (.ref k) = false := rfl
  simp only [neL, e, toD, hl, hk, toD_bls, Option.map_some, PyData.eqv, eqvA_bls]
  rfl
theorem asBs_bls : ∀ bs : List Bool, asBs (bs.map LV.bl) = some bs
  | [] => rfl
  | b :: bs => by simp only [List.map_cons, asBs, asBs_bls bs, Option.map_some]
theorem v_alls {h : LH} {l : Nat} (bs : List Bool) (hl : h[l]? = some (.lst (bs.map LV.bl))) : allL [.ref l] h = .ok (.bl (bs.all id)) h := by simp only [allL, hl, asBs_bls]
/-- a comprehension whose items are told without a turn of the heap -/
theorem comp_map {o : List (Nat × List LV)} {g : LG} {t : LT} {e : LE} {s : LSt} (f : LV → LV) (h : LH) : ∀ (xs acc : List LV), (∀ a, keepB o (h ++ [.lst a]) = true) →
    (∀ x ∈ xs, ∀ a, ∃ s1, g x s (h ++ [.lst a]) = .ok s1 (h ++ [.lst a]) ∧ t s1 (h ++ [.lst a]) = .ok true (h ++ [.lst a]) ∧ e s1 (h ++ [.lst a]) = .ok (f x) (h ++ [.lst a])) → acc.length + xs.length ≤ sizeLine →
    compI o g t e h.length s xs (h ++ [.lst acc]) = .ok (.ref h.length) (h ++ [.lst (acc ++ xs.map f)])
  | [], acc, kp, st, hc => by unfold compI; rw [if_pos (kp _)]; simp
  | x :: xs, acc, kp, st, hc => by
    obtain ⟨s1, e1, e2, e3⟩ := st x (by simp) acc
    unfold compI
    rw [if_pos (kp _), e1]
    dsimp only
    rw [e2]
    dsimp only
    rw [if_pos rfl, e3]
    dsimp only
    rw [gA0]
    dsimp only [List.getElem?_cons_zero]
    rw [if_pos (by simp at hc; omega), sA0]
    simp only [List.set_cons_zero]
    rw [comp_map f h xs (acc ++ [f x]) kp (fun y hy a => st y (by simp [hy]) a) (by simp at hc ⊢; omega)]
    simp
theorem numsA {cell salt : Int} {k : Nat} {ss : List Int} {h t : LH} (hl : t[k]? = some (.lst (ss.map LV.int))) (hs : ∀ z ∈ ss, 0 < z ∧ z.natAbs.log2 < 9000) (hn : ss.length ≤ 1000) :
    ∃ ds : List Int, InR ds ss ∧ nmF [.int cell, .int salt, .ref (h.length + k)] (h ++ t) = .ok (.ref (h.length + t.length)) (h ++ (t ++ [.lst (ds.map LV.int)])) := by
  obtain ⟨ds, hr, e⟩ := nums_ok (cell := cell) (salt := salt) (v_hA (h := h) hl) hs hn
  refine ⟨ds, hr, ?_⟩
  rw [e, List.length_append, List.append_assoc]
theorem cut_ints (ns : List Int) (lo hi : Option Int) : ∃ cs : List Int, cutL (ns.map LV.int) lo hi = cs.map LV.int ∧ cs.length ≤ ns.length := by
  refine ⟨(ns.drop (HT.sIx (ns.map LV.int).length 0 lo)).take (HT.sIx (ns.map LV.int).length (ns.map LV.int).length hi - HT.sIx (ns.map LV.int).length 0 lo), ?_, ?_⟩
  · unfold cutL
    rw [List.map_take, List.map_drop]
  · rw [List.length_take, List.length_drop]; omega
/-! ### the walk -/
local macro_rules | `(tactic| walk_at "sl") => `(tactic| ((simp only [List.length_cons, List.length_nil, Nat.reduceAdd]); decide))
local macro_rules | `(tactic| walk_at "lg") => `(tactic| first | with_reducible assumption | decide)
local macro_rules | `(tactic| walk_at "kds") => `(tactic| repeat (first | with_reducible exact kd_nil | ((with_reducible apply kd_cons); (· (first | ((with_reducible apply kd_l); exact rfl) | ((with_reducible apply kd_d); exact rfl) | exact rfl)))))
local macro_rules | `(tactic| walk_at "cut") => `(tactic| first | with_reducible assumption | ((simp [cutL, HT.sIx]); exact rfl) | exact rfl)
local macro_rules | `(tactic| walk_at "at") => `(tactic| first | with_reducible assumption | exact rfl | (exact atI_in (by omega) (by simp only [List.length_cons, List.length_nil]; omega)))
local macro_rules | `(tactic| walk_at "kd") => `(tactic| first | with_reducible assumption | ((with_reducible apply kd_app); with_reducible assumption) | exact rfl)
local macro_rules | `(tactic| walk_at "ap") => `(tactic| focus ((first | (simp only [List.set_cons_zero, List.set_cons_succ, List.cons_append, List.nil_append, List.length_cons, List.length_nil, Nat.reduceAdd]) | skip); (first | done | exact rfl)))
local macro_rules | `(tactic| walk_at "st") => `(tactic| ((simp only [List.map_cons, List.map_nil, List.length_cons, List.length_nil, Nat.reduceAdd, Nat.reduceSub, List.replicate_succ, List.replicate_zero, List.cons_append, List.nil_append]); exact rfl))
local macro_rules | `(tactic| walk_at "gp") => `(tactic| first | with_reducible assumption | ((with_reducible apply v_hA); exact rfl) | ((with_reducible apply gO); walk_at "gp"))
local macro_rules | `(tactic| walk_at "cd") => `(tactic| first | with_reducible assumption | ((with_reducible apply nb1); walk_at "cd") | ((with_reducible apply nb2); walk_at "cd") | exact decide_eq_true (by with_reducible assumption) | exact (fun z => absurd (of_decide_eq_true z) (by with_reducible assumption)) | decide | omega | exact decide_eq_true (by omega) | exact (fun z => absurd (of_decide_eq_true z) (by omega)))
local macro_rules | `(tactic| walk_at "sz") => `(tactic| first | with_reducible assumption | (simp only [sizeLine_eq, List.length_map, List.length_append, List.length_cons, List.length_nil]; omega) | (rw [sizeLine_eq]; decide))
local macro_rules | `(tactic| walk_at "go1") => `(tactic| (first
  | with_reducible exact v_cst | with_reducible exact v_nil | with_reducible exact v_add | with_reducible exact v_sub | with_reducible exact v_neg | with_reducible exact v_lt | with_reducible exact v_le | with_reducible exact v_gt | with_reducible exact v_ge | with_reducible exact v_eqi | with_reducible exact v_nei | with_reducible exact v_max | with_reducible exact v_min | with_reducible exact v_nilS | with_reducible exact v_poN | with_reducible exact v_isStr | with_reducible exact v_gaN | with_reducible exact v_slt | with_reducible exact v_brk | with_reducible exact v_cnt | with_reducible exact v_retN | with_reducible exact v_seqR | with_reducible exact v_seqB | with_reducible exact v_seqC | with_reducible exact v_seqX | with_reducible exact v_nxtB | with_reducible exact v_nxtR | with_reducible exact v_kpN | with_reducible exact v_sqT | with_reducible exact v_itt | with_reducible exact v_itr
  | ((with_reducible apply v_var); exact rfl)
  | with_reducible apply v_op | with_reducible apply v_un | with_reducible apply v_cons | with_reducible apply v_tup | with_reducible apply v_tst | with_reducible apply v_andT | with_reducible apply v_orT | with_reducible apply v_notT | with_reducible apply v_andV | with_reducible apply v_orV | with_reducible apply v_notV | with_reducible apply v_ifE | with_reducible apply v_chn
  | ((with_reducible apply v_pos); (· walk_at "cd"))
  | ((with_reducible apply v_neg'); (· walk_at "cd"))
  | with_reducible apply v_lstA
  | with_reducible apply v_call
  | with_reducible apply v_slc | with_reducible apply v_poS | with_reducible apply v_met | with_reducible apply v_seq | with_reducible apply v_seqN | with_reducible apply v_exprG | with_reducible apply v_retG | with_reducible exact v_exprO | with_reducible exact v_retO | with_reducible exact v_exprX | with_reducible exact v_retX | with_reducible exact v_asgX | with_reducible exact v_raise | with_reducible apply v_asgO | with_reducible apply v_if
  | with_reducible apply v_asgN | with_reducible apply v_asgG | with_reducible apply v_gtp | with_reducible apply v_gaC | with_reducible apply v_gnm
  | ((with_reducible change List.set _ _ _ = _); (focus ((simp only [List.set_cons_zero, List.set_cons_succ]); (first | done | with_reducible exact rfl)))) 
  | ((with_reducible change (_ : List LV).length = (_ : List LG).length); exact rfl)
  | with_reducible apply v_for | with_reducible apply v_itmC | with_reducible apply v_itmE | with_reducible apply v_nxt | with_reducible apply v_nxtC | ((with_reducible change forI _ _ _ _ _ _ = _); with_reducible assumption) | with_reducible apply v_forN | with_reducible apply v_forC
  | ((with_reducible apply v_kp); walk_at "gp")
  | ((with_reducible apply v_itl); walk_at "gp")
  | ((with_reducible apply v_sqL); walk_at "gp")
  | ((with_reducible apply v_enu); walk_at "gp")
  | ((with_reducible apply v_pow); decide)
  | ((with_reducible apply v_addlA); (· exact rfl); (· exact rfl); (· walk_at "sz"); (· walk_at "ap"); (· walk_at "ap"))
  | ((with_reducible apply v_appA); (· exact rfl); (· walk_at "sz"); (· walk_at "ap"))
  | ((with_reducible apply v_app); (· walk_at "gp"); (· walk_at "sz"))
  | ((with_reducible apply v_sllA); (· exact rfl); (· walk_at "cut"); (· walk_at "ap"); (· walk_at "ap"))
  | ((with_reducible apply v_slrA); (· walk_at "cut"); (· walk_at "ap"); (· walk_at "ap"))
  | ((with_reducible apply v_dnw); (· walk_at "ap"); (· walk_at "ap"))
  | ((with_reducible change List.length (_ : LH) = _); walk_at "ap")
  | ((with_reducible change (_ : LH) ++ _ = _); walk_at "ap")
  | ((with_reducible change (_ : LH)[_]? = some _); walk_at "gp")
  | ((with_reducible apply v_isi); walk_at "kd")
  | with_reducible exact v_strs | with_reducible exact v_abs | with_reducible exact v_inti | with_reducible exact v_intb | with_reducible exact v_tupt | with_reducible exact v_iadd | with_reducible exact v_eqs | with_reducible exact v_nes | with_reducible exact v_neb | with_reducible exact v_eqb
  | ((with_reducible apply v_str); (· walk_at "lg"))
  | ((with_reducible apply v_listt); (· walk_at "ap"); (· walk_at "ap"))
  | ((with_reducible apply v_listl); (· exact rfl); (· walk_at "ap"); (· walk_at "ap"))
  | ((with_reducible apply v_tupl); walk_at "gp")
  | ((with_reducible apply v_revA); (· exact rfl); (· walk_at "ap"); (· walk_at "ap"))
  | with_reducible apply v_gsb
  | ((with_reducible apply v_setlA); (· exact rfl); (· (first | with_reducible assumption | exact rfl)); (· walk_at "ap"); (· walk_at "ap"))
  | with_reducible apply v_tryG | with_reducible exact v_tryN | with_reducible exact v_tryT
  | ((with_reducible apply v_tryX); (· decide); (· walk_at "sl"); (· walk_at "ap"))
  | ((with_reducible apply v_tryP); (· decide))
  | ((with_reducible apply v_isiE); (· exact rfl))
  | ((with_reducible apply v_isiV); (· decide))
  | with_reducible exact v_isN | with_reducible exact v_notN
  | ((with_reducible apply v_isNx); (· exact rfl))
  | ((with_reducible apply v_notNx); (· exact rfl))
  | ((with_reducible apply v_neW); (· (first | with_reducible assumption | decide)))
  | ((with_reducible apply v_aug); (· exact rfl))
  | ((with_reducible apply v_ind); (· walk_at "gp"); (· (first | exact rfl | with_reducible assumption)))
  | ((with_reducible apply v_nind); (· walk_at "gp"); (· (first | exact rfl | with_reducible assumption)))
  | ((with_reducible apply v_ninT); (· first | exact rfl | assumption); (· exact rfl))
  | ((with_reducible apply v_ninL); (· first | exact rfl | assumption); (· walk_at "gp"); (· exact rfl); (· exact rfl))
  | ((with_reducible apply v_inT); (· first | exact rfl | assumption); (· exact rfl))
  | ((with_reducible apply v_inE); walk_at "gp")
  | ((with_reducible apply v_inL); (· first | exact rfl | assumption); (· walk_at "gp"); (· exact rfl); (· exact rfl))
  | ((with_reducible apply v_getl); (· walk_at "gp"))
  | ((with_reducible apply v_getd); (· walk_at "gp"); (· (first | exact rfl | with_reducible assumption)))
  | with_reducible apply v_getr
  | with_reducible apply v_gett
  | with_reducible apply v_comp
  | ((with_reducible apply v_alls); (· walk_at "gp"))
  | ((with_reducible apply v_dsp); (· exact rfl); (· exact rfl); (· decide); (· (first | with_reducible assumption | exact rfl)); (· walk_at "ap"); (· walk_at "ap"))
  | ((with_reducible apply v_up); (· walk_at "sz"))
  | ((with_reducible apply v_gets); (· walk_at "sz"))
  | ((with_reducible apply v_lens); (· walk_at "sz"))
  | ((with_reducible apply v_adds); (· walk_at "sz"))
  | ((with_reducible apply v_sls); (· walk_at "sz"))
  | ((with_reducible change L2.atI _ _ = some _); walk_at "at")
  | ((with_reducible apply v_lenlN); (· walk_at "gp"); (· walk_at "ap"))
  | ((with_reducible apply v_lentN); (· walk_at "ap"))
  | ((with_reducible apply v_isLst); walk_at "gp")
  | ((with_reducible apply v_fdiv); first | with_reducible assumption | decide)
  | ((with_reducible apply v_mod); first | with_reducible assumption | decide | omega)
  | ((with_reducible apply v_mul); (with_reducible apply v_cmul); first | omega | decide)
  | ((with_reducible change RE.ok _ _ = _); with_reducible exact rfl)
  | ((with_reducible change RS.nx _ _ = _); with_reducible exact rfl)
  | ((with_reducible change RS.rt _ _ = _); with_reducible exact rfl)
  | with_reducible assumption
  | walk_at "fn"))
local macro_rules | `(tactic| walk_at "go") => `(tactic| repeat walk_at "go1")
local macro_rules | `(tactic| walk_at "run") => `(tactic| (apply v_run; (· walk_at "st"); (· walk_at "go"); (· exact rfl)))
end Fw

set_option maxRecDepth 100000
set_option maxHeartbeats 4000000
/-! ### what must be so ahead, for what is wanted behind -/
namespace Fw
open PySem PySem.Spec PyProof.Rows L2
abbrev XP := Str → List (Str × LV) → LH → Prop
def wp {α : Type} (r : RE α) (Q : α → LH → Prop) (E : XP) : Prop := match r with
  | .ok a h => Q a h
  | .exc c fs h => E c fs h
  | .bad => False
structure Kx where
  rt : LV → LH → Prop
  bk : LSt → LH → Prop
  ct : LSt → LH → Prop
  ex : Str → List (Str × LV) → LSt → LH → Prop
def ws (r : RS) (N : LSt → LH → Prop) (K : Kx) : Prop := match r with
  | .nx s h => N s h
  | .rt v h => K.rt v h
  | .bk s h => K.bk s h
  | .ct s h => K.ct s h
  | .exc c fs s h => K.ex c fs s h
  | .bad => False
inductive AllIn : List LV → (LV → Prop) → Prop
  | nil {P} : AllIn [] P
  | cons {x xs P} (a : P x) (b : AllIn xs P) : AllIn (x :: xs) P
theorem AllIn.of {xs : List LV} {P : LV → Prop} (a : AllIn xs P) : ∀ x ∈ xs, P x := by
  induction a with
  | nil => simp
  | cons a b ih => intro x hx; rcases List.mem_cons.mp hx with rfl | hx; exact a; exact ih x hx
abbrev noX : XP := fun _ _ _ => False
mutual
def eqvOk : PyData → Bool
  | .dict _ => false
  | .list xs => eqvOks xs
  | .tuple xs => eqvOks xs
  | _ => true
def eqvOks : List PyData → Bool
  | [] => true
  | d :: ds => eqvOk d && eqvOks ds
end
/-! ### heaps -/
def Hs (h : LH) (L : List (Nat × LO)) : Prop := (L.map (·.1)).Nodup ∧ ∀ p ∈ L, h[p.1]? = some p.2
inductive Up : List (Nat × LO) → Nat → LO → LO → List (Nat × LO) → Prop
  | here {l o o' L} : Up ((l, o) :: L) l o o' ((l, o') :: L)
  | there {p L l o o' L'} (u : Up L l o o' L') : Up (p :: L) l o o' (p :: L')
/-- L is p and the others -/
inductive Pk : List (Nat × LO) → Nat → LO → List (Nat × LO) → Prop
  | here {l o L} : Pk ((l, o) :: L) l o L
  | there {p L l o L'} (u : Pk L l o L') : Pk (p :: L) l o (p :: L')
theorem Hs.nil {h : LH} : Hs h [] := ⟨List.nodup_nil, by simp⟩
theorem Hs.get {h : LH} {L : List (Nat × LO)} {l : Nat} {o : LO} (hs : Hs h L) (m : (l, o) ∈ L) : h[l]? = some o := hs.2 _ m
theorem Hs.lt {h : LH} {L : List (Nat × LO)} {l : Nat} {o : LO} (hs : Hs h L) (m : (l, o) ∈ L) : l < h.length := (List.getElem?_eq_some_iff.mp (hs.get m)).1
theorem Hs.new {h : LH} {L : List (Nat × LO)} {o : LO} (hs : Hs h L) : Hs (h ++ [o]) ((h.length, o) :: L) := by
  refine ⟨?_, ?_⟩
  · rw [List.map_cons, List.nodup_cons]
    refine ⟨fun m => ?_, hs.1⟩
    obtain ⟨p, hp, e⟩ := List.mem_map.mp m
    have := hs.lt (l := p.1) (o := p.2) hp
    omega
  · intro p hp
    rcases List.mem_cons.mp hp with rfl | hp
    · simp
    · exact gO (hs.2 p hp) _
theorem Hs.app {h : LH} {L : List (Nat × LO)} (hs : Hs h L) (t : LH) : Hs (h ++ t) L := ⟨hs.1, fun p hp => gO (hs.2 p hp) t⟩
theorem Up.keys {L L' : List (Nat × LO)} {l : Nat} {o o' : LO} (u : Up L l o o' L') : L'.map (·.1) = L.map (·.1) := by
  induction u with
  | here => rfl
  | there u ih => simp [ih]
theorem Up.mem {L L' : List (Nat × LO)} {l : Nat} {o o' : LO} (u : Up L l o o' L') : (l, o) ∈ L := by
  induction u with
  | here => exact List.mem_cons_self
  | there u ih => exact List.mem_cons_of_mem _ ih
theorem Up.mem' {L L' : List (Nat × LO)} {l : Nat} {o o' : LO} (u : Up L l o o' L') (n : (L.map (·.1)).Nodup) : ∀ p ∈ L', p = (l, o') ∨ (p ∈ L ∧ p.1 ≠ l) := by
  induction u with
  | here =>
    intro p hp
    rw [List.map_cons, List.nodup_cons] at n
    rcases List.mem_cons.mp hp with rfl | hp
    · exact .inl rfl
    · exact .inr ⟨List.mem_cons_of_mem _ hp, fun e => n.1 (by rw [← e]; exact List.mem_map_of_mem (f := (·.1)) hp)⟩
  | there u ih =>
    intro p hp
    rw [List.map_cons, List.nodup_cons] at n
    rcases List.mem_cons.mp hp with rfl | hp
    · exact .inr ⟨List.mem_cons_self, fun e => n.1 (by rw [e]; exact List.mem_map_of_mem (f := (·.1)) u.mem)⟩
    · rcases ih n.2 p hp with e | ⟨m, q⟩
      · exact .inl e
      · exact .inr ⟨List.mem_cons_of_mem _ m, q⟩
theorem Hs.set {h : LH} {L L' : List (Nat × LO)} {l : Nat} {o o' : LO} (hs : Hs h L) (u : Up L l o o' L') : Hs (h.set l o') L' := by
  refine ⟨by rw [u.keys]; exact hs.1, fun p hp => ?_⟩
  rcases u.mem' hs.1 p hp with rfl | ⟨m, q⟩
  · exact List.getElem?_set_self (hs.lt u.mem)
  · rw [List.getElem?_set_ne (Ne.symm q)]; exact hs.2 p m
theorem Pk.perm {L L' : List (Nat × LO)} {l : Nat} {o : LO} (u : Pk L l o L') : L.Perm ((l, o) :: L') := by
  induction u with
  | here => exact .refl _
  | there u ih => exact (List.Perm.cons _ ih).trans (.swap _ _ _)
theorem Hs.perm {h : LH} {L L' : List (Nat × LO)} (hs : Hs h L) (p : L.Perm L') : Hs h L' := ⟨(p.map _).nodup_iff.mp hs.1, fun q hq => hs.2 q (p.mem_iff.mpr hq)⟩
theorem Hs.pk {h : LH} {L L' : List (Nat × LO)} {l : Nat} {o : LO} (hs : Hs h L) (u : Pk L l o L') : Hs h ((l, o) :: L') := hs.perm u.perm
theorem Hs.tail {h : LH} {L : List (Nat × LO)} {p : Nat × LO} (hs : Hs h (p :: L)) : Hs h L := ⟨(List.nodup_cons.mp hs.1).2, fun q hq => hs.2 q (List.mem_cons_of_mem _ hq)⟩
theorem Hs.drop {h : LH} {L L' : List (Nat × LO)} {l : Nat} {o : LO} (hs : Hs h L) (u : Pk L l o L') : Hs h L' := (hs.pk u).tail
theorem Hs.sub {h : LH} {L L' : List (Nat × LO)} (hs : Hs h L) (s : L'.Sublist L) : Hs h L' := ⟨(s.map _).nodup hs.1, fun q hq => hs.2 q (s.subset hq)⟩
theorem Hs.ne {h : LH} {L : List (Nat × LO)} {p q : Nat × LO} (hs : Hs h (p :: L)) (m : q ∈ L) : p.1 ≠ q.1 := fun e => (List.nodup_cons.mp hs.1).1 (by show p.1 ∈ _; rw [e]; exact List.mem_map_of_mem (f := (·.1)) m)

theorem map_inj : ∀ {a b : List Char}, a.map Char.toNat = b.map Char.toNat → a = b
  | [], [], _ => rfl
  | [], _ :: _, e => by simp at e
  | _ :: _, [], e => by simp at e
  | x :: xs, y :: ys, e => by
    simp only [List.map_cons, List.cons.injEq] at e
    rw [map_inj e.2, show x = y from Char.toNat_inj.mp e.1]
theorem ofS_inj {a b : String} (e : Str.ofString a = Str.ofString b) : a = b := by
  rw [Str.ofString_eq_toList, Str.ofString_eq_toList] at e
  have e2 : (a.toList.map Char.toNat).toArray = (b.toList.map Char.toNat).toArray := by injection e
  have e3 : a.toList.map Char.toNat = b.toList.map Char.toNat := by simpa using e2
  exact String.toList_inj.mp (map_inj e3)
theorem ofS_eq (a b : String) : (Str.ofString a = Str.ofString b) = (a = b) := propext ⟨ofS_inj, fun e => by rw [e]⟩
theorem ofS_beq (a b : String) : (Str.ofString a == Str.ofString b) = (a == b) := by
  rw [Bool.eq_iff_iff]; simp [ofS_eq]
theorem ibeq (a b : Int) : (a == b) = decide (a = b) := by rw [Bool.eq_iff_iff]; simp
theorem b_tb (b : Bool) : (true == b) = b := by cases b <;> rfl
theorem b_fb (b : Bool) : (false == b) = !b := by cases b <;> rfl
theorem b_bt (b : Bool) : (b == true) = b := by cases b <;> rfl
theorem b_bf (b : Bool) : (b == false) = !b := by cases b <;> rfl
theorem ofS_dec (a b : String) : decide (Str.ofString a = Str.ofString b) = (a == b) := by
  rw [Bool.eq_iff_iff]; simp [ofS_eq]
section
variable {α β : Type} {s s1 s2 : LSt} {h h1 h2 h3 : LH} {L L' : List (Nat × LO)} {n k : Nat} {v u w : LV} {vs us xs ys : List LV} {a b c m : LE} {ta tb : LT} {aa ar : LA} {f g : LV → LV → M LV} {A B : LS} {l : Nat} {i j : Int} {x y : Str} {kvs : List (LV × LV)} {tk : Bool}
variable {E : XP} {Q : LV → LH → Prop} {QB : Bool → LH → Prop} {QA : List LV → LH → Prop} {QI : Items → LH → Prop} {QS : LSt → LH → Prop} {QO : Option Int → LH → Prop} {N : LSt → LH → Prop} {K : Kx} {R : LV → LH → Prop} {Bk Ct : LSt → LH → Prop} {X : Str → List (Str × LV) → LSt → LH → Prop}
theorem wp_mono {r : RE α} {Q Q' : α → LH → Prop} {E E' : XP} (H : wp r Q E) (k : ∀ v h, Q v h → Q' v h) (e : ∀ c fs h, E c fs h → E' c fs h) : wp r Q' E' := by
  cases r with
  | ok a h => exact k _ _ H
  | exc c fs h => exact e _ _ _ H
  | bad => exact H
/-- a spec that never raises, used anywhere -/
theorem wp_use {r : RE α} {Q Q' : α → LH → Prop} {E' : XP} (H : wp r Q noX) (k : ∀ v h, Q v h → Q' v h) : wp r Q' E' := wp_mono H k fun _ _ _ z => z.elim
theorem wp_ok {r : RE α} {Q : α → LH → Prop} (H : wp r Q noX) : ∃ a h, r = .ok a h ∧ Q a h := by
  cases r with
  | ok a h => exact ⟨a, h, rfl, H⟩
  | exc c fs h => exact H.elim
  | bad => exact H.elim
theorem wp_eq {r : RE α} {Q : α → LH → Prop} {v : α} {h : LH} (e : r = .ok v h) (H : Q v h) : wp r Q E := by rw [e]; exact H
theorem wp_eqX {r : RE α} {Q : α → LH → Prop} {c : Str} {fs : List (Str × LV)} {h : LH} (e : r = .exc c fs h) (H : E c fs h) : wp r Q E := by rw [e]; exact H
theorem ws_mono {r : RS} {N' : LSt → LH → Prop} {K' : Kx} (H : ws r N K) (n : ∀ s h, N s h → N' s h) (rt : ∀ v h, K.rt v h → K'.rt v h) (bk : ∀ s h, K.bk s h → K'.bk s h) (ct : ∀ s h, K.ct s h → K'.ct s h) (ex : ∀ c fs s h, K.ex c fs s h → K'.ex c fs s h) : ws r N' K' := by
  cases r with
  | nx s h => exact n _ _ H
  | rt v h => exact rt _ _ H
  | bk s h => exact bk _ _ H
  | ct s h => exact ct _ _ H
  | exc c fs s h => exact ex _ _ _ _ H
  | bad => exact H
theorem ws_nx {r : RS} {N' : LSt → LH → Prop} (H : ws r N ⟨fun _ _ => False, fun _ _ => False, fun _ _ => False, fun _ _ _ _ => False⟩) (n : ∀ s h, N s h → N' s h) : ws r N' K := ws_mono H n (fun _ _ z => z.elim) (fun _ _ z => z.elim) (fun _ _ z => z.elim) (fun _ _ _ _ z => z.elim)
theorem wp_bnd {m : M α} {f : α → M β} {Q : β → LH → Prop} : wp (bnd m f h) Q E = wp (m h) (fun v h1 => wp (f v h1) Q E) E := by
  unfold bnd; cases m h <;> rfl
theorem wp_bnd' {m : M α} {f : α → M β} {Q : β → LH → Prop} (H : wp (m h) (fun v h1 => wp (f v h1) Q E) E) : wp (bnd m f h) Q E := by rw [wp_bnd]; exact H
theorem wp_iff {c : Prop} [Decidable c] {r r' : M α} {Q : α → LH → Prop} : wp ((if c then r else r') h) Q E = if c then wp (r h) Q E else wp (r' h) Q E := by split <;> rfl
/-- as isK, of a kind that isn't known -/
def isKo (k : Kd) (t : Ty) : Bool := isK k t
/-! frames: what is still to be done, as terms that are not looked into -/
def kOp2 (f : LV → LV → M LV) (v : LV) (Q : LV → LH → Prop) (E : XP) : LV → LH → Prop := fun u h => wp (f v u h) Q E
def kOp1 (f : LV → LV → M LV) (b : LE) (s : LSt) (Q : LV → LH → Prop) (E : XP) : LV → LH → Prop := fun v h => wp (b s h) (kOp2 f v Q E) E
def kUn {γ : Type} (f : LV → M γ) (Q : γ → LH → Prop) (E : XP) : LV → LH → Prop := fun v h => wp (f v h) Q E
def kCall {γ : Type} (f : List LV → M γ) (Q : γ → LH → Prop) (E : XP) : List LV → LH → Prop := fun vs h => wp (f vs h) Q E
def kCons2 (v : LV) (Q : List LV → LH → Prop) : List LV → LH → Prop := fun vs h => Q (v :: vs) h
def kCons1 (r : LA) (s : LSt) (Q : List LV → LH → Prop) (E : XP) : LV → LH → Prop := fun v h => wp (r s h) (kCons2 v Q) E
def kTup (Q : LV → LH → Prop) : List LV → LH → Prop := fun vs h => Q (.tup vs) h
def kLst (Q : LV → LH → Prop) : List LV → LH → Prop := fun vs h => Q (.ref h.length) (h ++ [.lst vs])
def kB (F : Bool → LH → Prop) : LV → LH → Prop := fun v h => match v with
  | .bl k => F k h
  | _ => False
def kBr (P P' : LH → Prop) : Bool → LH → Prop := fun k h => if k = true then P h else P' h
def kNot (F : Bool → LH → Prop) : Bool → LH → Prop := fun k h => F (!k) h
def kNotV (Q : LV → LH → Prop) : Bool → LH → Prop := fun k h => Q (.bl (!k)) h
def wpAt {γ : Type} (m : M γ) (Q : γ → LH → Prop) (E : XP) : LH → Prop := fun h => wp (m h) Q E
def wsAt (A : LS) (s : LSt) (N : LSt → LH → Prop) (K : Kx) : LH → Prop := fun h => ws (A s h) N K
def kChn2 (f g : LV → LV → M LV) (c : LE) (s : LSt) (v : LV) (Q : LV → LH → Prop) (E : XP) : LV → LH → Prop := fun u h => wp (f v u h) (kB (kBr (wpAt (c s) (kOp2 g u Q E) E) (Q (.bl false)))) E
def kChn1 (f g : LV → LV → M LV) (b c : LE) (s : LSt) (Q : LV → LH → Prop) (E : XP) : LV → LH → Prop := fun v h => wp (b s h) (kChn2 f g c s v Q E) E
def kSl3 (v : LV) (i : Option Int) (Q : LV → LH → Prop) (E : XP) : Option Int → LH → Prop := fun j h => wp (sliceL i j v h) Q E
def kSl2 (hi : LO') (s : LSt) (v : LV) (Q : LV → LH → Prop) (E : XP) : Option Int → LH → Prop := fun i h => wp (hi s h) (kSl3 v i Q E) E
def kSl1 (lo hi : LO') (s : LSt) (Q : LV → LH → Prop) (E : XP) : LV → LH → Prop := fun v h => wp (lo s h) (kSl2 hi s v Q E) E
def kMet2 (f : LV → List LV → M LV) (v : LV) (Q : LV → LH → Prop) (E : XP) : List LV → LH → Prop := fun vs h => wp (f v vs h) Q E
def kMet1 (ck : LH → LV → Bool) (f : LV → List LV → M LV) (aa : LA) (s : LSt) (Q : LV → LH → Prop) (E : XP) : LV → LH → Prop := fun v h => ck h v = true ∧ wp (aa s h) (kMet2 f v Q E) E
def kSeq (B : LS) (N : LSt → LH → Prop) (K : Kx) : LSt → LH → Prop := fun s h => ws (B s h) N K
def kExp (N : LSt → LH → Prop) (s : LSt) : LV → LH → Prop := fun _ h => N s h
def xS (X : Str → List (Str × LV) → LSt → LH → Prop) (s : LSt) : XP := fun c fs h => X c fs s h
def kAsg (gg : LG) (s : LSt) (N : LSt → LH → Prop) : LV → LH → Prop := fun v h => wp (gg v s h) N noX
def kSt (o : Option LV) (Q : LSt → LH → Prop) : LSt → LH → Prop := fun s h => Q (o :: s) h
def kGc (gs : List LG) (vs : List LV) (Q : LSt → LH → Prop) (E : XP) : LSt → LH → Prop := fun s h => wp (gAll gs vs s h) Q E
def kSb2 (v o : LV) (s : LSt) (Q : LSt → LH → Prop) : LV → LH → Prop := fun i h => wp (setL o i v h) (fun _ h1 => Q s h1) noX
def kSb1 (mi : LE) (v : LV) (s : LSt) (Q : LSt → LH → Prop) : LV → LH → Prop := fun o h => wp (mi s h) (kSb2 v o s Q) noX
def kFor (gg : LG) (B : LS) (s : LSt) (N : LSt → LH → Prop) (K : Kx) : Items → LH → Prop := fun it h => ws (forI it.o gg B it.its s h) N K
def kFor2 (o : List (Nat × List LV)) (gg : LG) (B : LS) (r : List LV) (N : LSt → LH → Prop) (K : Kx) : LSt → LH → Prop := fun s h => ws (forI o gg B r s h) N K
def kNon (Q : LV → LH → Prop) : LSt → LH → Prop := fun _ h => Q .non h
def kNo : LSt → LH → Prop := fun _ _ => False
def xR (E : XP) : Str → List (Str × LV) → LSt → LH → Prop := fun c fs _ h => E c fs h
def kTry (tab : List (Str × Str × Bool)) (n : Str) (i j : Nat) (N : LSt → LH → Prop) (X : Str → List (Str × LV) → LSt → LH → Prop) : Str → List (Str × LV) → LSt → LH → Prop := fun c fs s1 h1 => (subE tab c n = some true ∧ i < s1.length ∧ N (((s1.set i none).set j (some (.exc c fs))).set i none) h1) ∨ (subE tab c n = some false ∧ X c fs s1 h1)
def kPr3 (k v : LV) (Q : List (LV × LV) → LH → Prop) : List (LV × LV) → LH → Prop := fun ps h => Q ((k, v) :: ps) h
def kPr2 (r : List (LE × LE)) (s : LSt) (k : LV) (Q : List (LV × LV) → LH → Prop) (E : XP) : LV → LH → Prop := fun v h => wp (prsM r s h) (kPr3 k v Q) E
def kPr1 (v : LE) (r : List (LE × LE)) (s : LSt) (Q : List (LV × LV) → LH → Prop) (E : XP) : LV → LH → Prop := fun k h => wp (v s h) (kPr2 r s k Q E) E
def kAug2 (i : Nat) (s : LSt) (N : LSt → LH → Prop) : LV → LH → Prop := fun w h => N (s.set i (some w)) h
def kDsp (D : Nat) (Q : LV → LH → Prop) (E : XP) : List (LV × LV) → LH → Prop := fun ps h => wp (dspF D ps h) Q E
def kComp (gg : LG) (tt : LT) (e : LE) (s : LSt) (Q : LV → LH → Prop) (E : XP) : Items → LH → Prop := fun it h => wp (compI it.o gg tt e h.length s it.its (h ++ [.lst []])) Q E
/-! rewriting -/
theorem e_ok {Q : α → LH → Prop} {v : α} : wp (.ok v h) Q E = Q v h := rfl
theorem e_var0 : wp (varM 0 (some v :: s) h) Q E = Q v h := rfl
theorem e_varS {i : Nat} {o : Option LV} : wp (varM (i + 1) (o :: s) h) Q E = wp (varM i s h) Q E := by unfold varM; rw [List.getElem?_cons_succ]
theorem e_cst : wp (cst v s h) Q E = Q v h := rfl
theorem e_op : wp (opM f a b s h) Q E = wp (a s h) (kOp1 f b s Q E) E := by unfold opM; simp only [wp_bnd]; rfl
theorem e_kOp1 : kOp1 f b s Q E v h = wp (b s h) (kOp2 f v Q E) E := rfl
theorem e_kOp2 : kOp2 f v Q E u h = wp (f v u h) Q E := rfl
theorem e_un {f : LV → M LV} : wp (unM f a s h) Q E = wp (a s h) (kUn f Q E) E := by unfold unM; rw [wp_bnd]; rfl
theorem e_kUn {γ : Type} {f : LV → M γ} {Q : γ → LH → Prop} : kUn f Q E v h = wp (f v h) Q E := rfl
theorem e_call {f : List LV → M LV} : wp (callM f aa s h) Q E = wp (aa s h) (kCall f Q E) E := by unfold callM; rw [wp_bnd]; rfl
theorem e_kCall {γ : Type} {f : List LV → M γ} {Q : γ → LH → Prop} : kCall f Q E vs h = wp (f vs h) Q E := rfl
theorem e_nil : wp (aNil s h) QA E = QA [] h := rfl
theorem e_cons : wp (aCons a ar s h) QA E = wp (a s h) (kCons1 ar s QA E) E := by unfold aCons; simp only [wp_bnd]; rfl
theorem e_kCons1 : kCons1 ar s QA E v h = wp (ar s h) (kCons2 v QA) E := rfl
theorem e_kCons2 : kCons2 v QA vs h = QA (v :: vs) h := rfl
theorem e_tup : wp (tupM aa s h) Q E = wp (aa s h) (kTup Q) E := by unfold tupM; rw [wp_bnd]; rfl
theorem e_kTup : kTup Q vs h = Q (.tup vs) h := rfl
theorem e_lst : wp (lstM aa s h) Q E = wp (aa s h) (kLst Q) E := by unfold lstM; rw [wp_bnd]; rfl
theorem e_kB {k : Bool} : kB QB (.bl k) h = QB k h := rfl
theorem asB_kB : (fun v h1 => wp (asB v h1) QB E) = kB QB := by
  funext v h1; cases v <;> rfl
theorem e_tst : wp (tstM m s h) QB E = wp (m s h) (kB QB) E := by unfold tstM; rw [wp_bnd, asB_kB]
theorem e_kBrT {P P' : LH → Prop} : kBr P P' true h = P h := rfl
theorem e_kBrF {P P' : LH → Prop} : kBr P P' false h = P' h := rfl
theorem e_kBrN {P P' : LH → Prop} {k : Bool} : kBr P P' (!k) h = kBr P' P k h := by cases k <;> rfl
theorem e_kNot {k : Bool} : kNot QB k h = QB (!k) h := rfl
theorem e_kNotV {k : Bool} : kNotV Q k h = Q (.bl (!k)) h := rfl
theorem e_wpAt {γ : Type} {m : M γ} {Q : γ → LH → Prop} : wpAt m Q E h = wp (m h) Q E := rfl
theorem e_wsAt : wsAt A s N K h = ws (A s h) N K := rfl
theorem e_andT : wp (andT ta tb s h) QB E = wp (ta s h) (kBr (wpAt (tb s) QB E) (QB false)) E := by
  unfold andT; rw [wp_bnd]; congr 1; funext k h1; rw [wp_iff]; rfl
theorem e_orT : wp (orT ta tb s h) QB E = wp (ta s h) (kBr (QB true) (wpAt (tb s) QB E)) E := by
  unfold orT; rw [wp_bnd]; congr 1; funext k h1; rw [wp_iff]; rfl
theorem e_notT : wp (notT ta s h) QB E = wp (ta s h) (kNot QB) E := by unfold notT; rw [wp_bnd]; rfl
theorem e_andV : wp (andV a b s h) Q E = wp (a s h) (kB (kBr (wpAt (b s) Q E) (Q (.bl false)))) E := by
  unfold andV; rw [wp_bnd, ← asB_kB (E := E)]; congr 1; funext v h1; rw [wp_bnd]; congr 1; funext k h2; rw [wp_iff]; rfl
theorem e_orV : wp (orV a b s h) Q E = wp (a s h) (kB (kBr (Q (.bl true)) (wpAt (b s) Q E))) E := by
  unfold orV; rw [wp_bnd, ← asB_kB (E := E)]; congr 1; funext v h1; rw [wp_bnd]; congr 1; funext k h2; rw [wp_iff]; rfl
theorem e_notV : wp (notV a s h) Q E = wp (a s h) (kB (kNotV Q)) E := by
  unfold notV; rw [wp_bnd, ← asB_kB (E := E)]; congr 1; funext v h1; rw [wp_bnd]; rfl
theorem e_ifE : wp (ifE ta a b s h) Q E = wp (ta s h) (kBr (wpAt (a s) Q E) (wpAt (b s) Q E)) E := by
  unfold ifE; rw [wp_bnd]; congr 1; funext k h1; rw [wp_iff]; rfl
theorem e_chn : wp (chnM f g a b c s h) Q E = wp (a s h) (kChn1 f g b c s Q E) E := by
  unfold chnM; rw [wp_bnd]; congr 1; funext v h1; rw [wp_bnd]; show _ = wp (b s h1) _ E; congr 1; funext u h2; show _ = wp (f v u h2) _ E; rw [wp_bnd, ← asB_kB (E := E)]; congr 1; funext z h3; rw [wp_bnd]; congr 1; funext k h4; rw [wp_iff]; unfold kBr; congr 1; rw [wp_bnd]; rfl
theorem e_kChn1 : kChn1 f g b c s Q E v h = wp (b s h) (kChn2 f g c s v Q E) E := rfl
theorem e_kChn2 : kChn2 f g c s v Q E u h = wp (f v u h) (kB (kBr (wpAt (c s) (kOp2 g u Q E) E) (Q (.bl false)))) E := rfl
theorem e_slc {lo hi : LO'} : wp (slcM a lo hi s h) Q E = wp (a s h) (kSl1 lo hi s Q E) E := by unfold slcM; simp only [wp_bnd]; rfl
theorem e_kSl1 {lo hi : LO'} : kSl1 lo hi s Q E v h = wp (lo s h) (kSl2 hi s v Q E) E := rfl
theorem e_kSl2 {hi : LO'} {i : Option Int} : kSl2 hi s v Q E i h = wp (hi s h) (kSl3 v i Q E) E := rfl
theorem e_kSl3 {i j : Option Int} : kSl3 v i Q E j h = wp (sliceL i j v h) Q E := rfl
theorem e_poN : wp (poN s h) QO E = QO none h := rfl
theorem e_asI : wp (asI (.int i) h) QO E = QO (some i) h := rfl
theorem e_poS : wp (poS a s h) QO E = wp (a s h) (kUn asI QO E) E := by unfold poS; rw [wp_bnd]; rfl
theorem e_met {ck : LH → LV → Bool} {f : LV → List LV → M LV} : wp (metM ck f a aa s h) Q E = wp (a s h) (kMet1 ck f aa s Q E) E := by
  unfold metM; rw [wp_bnd]; congr 1; funext v h1; unfold kMet1
  by_cases z : ck h1 v = true
  · rw [if_pos z, wp_bnd]; simp only [z, true_and]; rfl
  · rw [if_neg z]; exact (eq_false (fun q => z q.1)).symm
theorem e_kMet2 {f : LV → List LV → M LV} : kMet2 f v Q E vs h = wp (f v vs h) Q E := rfl
theorem e_kMetS {f : LV → List LV → M LV} : kMet1 isStr f aa s Q E (.str x) h = wp (aa s h) (kMet2 f (.str x) Q E) E := by unfold kMet1; simp [isStr]
theorem w_kMetL {f : LV → List LV → M LV} (hs : Hs h L) (hx : (l, LO.lst xs) ∈ L) (H : wp (aa s h) (kMet2 f (.ref l) Q E) E) : kMet1 isLst f aa s Q E (.ref l) h := ⟨v_isLst (hs.get hx), H⟩
theorem e_seq : ws (seqS A B s h) N K = ws (A s h) (kSeq B N K) K := by unfold seqS; cases A s h <;> rfl
theorem e_kSeq : kSeq B N K s h = ws (B s h) N K := rfl
theorem e_nilS : ws (nilS s h) N K = N s h := rfl
theorem e_brk : ws (brkS s h) N ⟨R, Bk, Ct, X⟩ = Bk s h := rfl
theorem e_cnt : ws (cntS s h) N ⟨R, Bk, Ct, X⟩ = Ct s h := rfl
theorem e_expr : ws (exprS m s h) N ⟨R, Bk, Ct, X⟩ = wp (m s h) (kExp N s) (xS X s) := by unfold exprS; cases m s h <;> rfl
theorem e_kExp : kExp N s v h = N s h := rfl
theorem e_xS {c : Str} {fs : List (Str × LV)} : xS X s c fs h = X c fs s h := rfl
theorem e_ret : ws (retS m s h) N ⟨R, Bk, Ct, X⟩ = wp (m s h) R (xS X s) := by unfold retS; cases m s h <;> rfl
theorem e_retN : ws (retN s h) N ⟨R, Bk, Ct, X⟩ = R .non h := rfl
theorem e_if : ws (ifS ta A B s h) N ⟨R, Bk, Ct, X⟩ = wp (ta s h) (kBr (wsAt A s N ⟨R, Bk, Ct, X⟩) (wsAt B s N ⟨R, Bk, Ct, X⟩)) (xS X s) := by
  unfold ifS; cases ta s h
  · rename_i k h1; cases k <;> rfl
  · rfl
  · rfl
theorem e_asg {gg : LG} : wp (m s h) (kAsg gg s N) (xS X s) → ws (asgS m gg s h) N ⟨R, Bk, Ct, X⟩ := by
  intro H
  unfold asgS; cases e : m s h <;> rw [e] at H
  · rename_i v h1
    show ws (match gg v s h1 with | .ok s1 h2 => .nx s1 h2 | .exc c fs h2 => _ | .bad => .bad) N _
    replace H : wp (gg v s h1) N noX := H
    cases e2 : gg v s h1 <;> rw [e2] at H
    · exact H
    · exact H.elim
    · exact H
  · exact H
  · exact H
theorem e_asgN {i : Nat} : ws (asgS m (gNm i) s h) N ⟨R, Bk, Ct, X⟩ = wp (m s h) (kAsg (gNm i) s N) (xS X s) := by
  unfold asgS; cases m s h <;> rfl
theorem e_kAsg {gg : LG} : kAsg gg s N v h = wp (gg v s h) N noX := rfl
theorem e_gnm0 {o : Option LV} : wp (gNm 0 v (o :: s) h) QS E = QS (some v :: s) h := rfl
theorem e_gnmS {i : Nat} {o : Option LV} : wp (gNm (i + 1) v (o :: s) h) QS E = wp (gNm i v s h) (kSt o QS) E := rfl
theorem e_kSt {o : Option LV} : kSt o QS s h = QS (o :: s) h := rfl
theorem e_gtpT {gs : List LG} : wp (gTp gs (.tup vs) s h) QS E = if vs.length = gs.length then wp (gAll gs vs s h) QS E else False := by unfold gTp seqV; dsimp only; split <;> rfl
theorem w_gtp {gs : List LG} (hq : seqV h v = some vs) (hl : vs.length = gs.length) (H : wp (gAll gs vs s h) QS E) : wp (gTp gs v s h) QS E := by unfold gTp; rw [hq]; dsimp only; rw [if_pos hl]; exact H
theorem e_gaN : wp (gAll [] [] s h) QS E = QS s h := rfl
theorem e_gaC {gg : LG} {gs : List LG} : wp (gAll (gg :: gs) (v :: vs) s h) QS E = wp (gg v s h) (kGc gs vs QS E) E := by rw [gAll, wp_bnd]; rfl
theorem e_kGc {gs : List LG} : kGc gs vs QS E s h = wp (gAll gs vs s h) QS E := rfl
theorem e_raise {c : Str} : ws (raiseS c s h) N ⟨R, Bk, Ct, X⟩ = X c [] s h := rfl
theorem e_itmC {f : List LV → M Items} : wp (itmC f aa s h) QI E = wp (aa s h) (kCall f QI E) E := by unfold itmC; rw [wp_bnd]; rfl
theorem e_itmE : wp (itmE a s h) QI E = wp (a s h) (kUn itmL QI E) E := by unfold itmE; rw [wp_bnd]; rfl
theorem e_for {i : LI} {gg : LG} : ws (forS i gg B s h) N ⟨R, Bk, Ct, X⟩ = wp (i s h) (kFor gg B s N ⟨R, Bk, Ct, X⟩) (xS X s) := by unfold forS; cases i s h <;> rfl
theorem e_kFor {gg : LG} {its : List LV} {o : List (Nat × List LV)} : kFor gg B s N K ⟨its, o⟩ h = ws (forI o gg B its s h) N K := rfl
theorem e_kFor2 {gg : LG} {its : List LV} {o : List (Nat × List LV)} : kFor2 o gg B its N K s h = ws (forI o gg B its s h) N K := rfl
theorem e_kNon : kNon Q s h = Q .non h := rfl
theorem e_kNo : kNo s h = False := rfl
theorem e_xR {c : Str} {fs : List (Str × LV)} : xR E c fs s h = E c fs h := rfl
theorem w_aug {i : Nat} (e : s[i]? = some (some v)) (H : wp (m s h) (kOp2 f v (kAug2 i s N) (xS X s)) (xS X s)) : ws (augS i f m s h) N ⟨R, Bk, Ct, X⟩ := by
  unfold augS; rw [e]; dsimp only
  have H2 : wp (bnd (m s) (fun u => f v u) h) (kAug2 i s N) (xS X s) := by rw [wp_bnd]; exact H
  cases e2 : bnd (m s) (fun u => f v u) h <;> rw [e2] at H2 <;> exact H2
theorem e_kAug2 {i : Nat} : kAug2 i s N v h = N (s.set i (some v)) h := rfl
theorem e_tryK {tab : List (Str × Str × Bool)} {n : Str} {i j : Nat} (H : ws (B s h) N ⟨R, Bk, Ct, kTry tab n i j N X⟩) : ws (tryKS tab n i j B s h) N ⟨R, Bk, Ct, X⟩ := by
  unfold tryKS; cases e : B s h <;> rw [e] at H <;> try exact H
  rename_i c fs s1 h1
  rcases H with ⟨z, zl, H⟩ | ⟨z, H⟩
  · dsimp only; rw [z]; dsimp only; rw [if_pos zl]; exact H
  · dsimp only; rw [z]; exact H
theorem w_tryT {tab : List (Str × Str × Bool)} {n c : Str} {i j : Nat} {fs : List (Str × LV)} (z : subE tab c n = some true) (zl : i < s.length) (e : ((s.set i none).set j (some (.exc c fs))).set i none = s1) (H : N s1 h) : kTry tab n i j N X c fs s h := .inl ⟨z, zl, by rw [e]; exact H⟩
theorem w_tryF {tab : List (Str × Str × Bool)} {n c : Str} {i j : Nat} {fs : List (Str × LV)} (z : subE tab c n = some false) (H : X c fs s h) : kTry tab n i j N X c fs s h := .inr ⟨z, H⟩
theorem w_run {n : Nat} {B : LS} (hs : vs.map some ++ List.replicate (n - vs.length) none = s) (H : ws (B s h) (kNon Q) ⟨Q, kNo, kNo, xR E⟩) : wp (runB n B vs h) Q E := by
  subst hs; unfold runB
  cases e : B (vs.map some ++ List.replicate (n - vs.length) none) h <;> rw [e] at H <;> exact H
theorem e_prsN {s : LSt} {QP : List (LV × LV) → LH → Prop} : wp (prsM [] s h) QP E = QP [] h := rfl
theorem e_prsC {s : LSt} {k v : LE} {r : List (LE × LE)} {QP : List (LV × LV) → LH → Prop} : wp (prsM ((k, v) :: r) s h) QP E = wp (k s h) (kPr1 v r s QP E) E := by
  rw [prsM, wp_bnd]; congr 1; funext v h1; rw [wp_bnd]; show _ = wp _ _ _; congr 1; funext v h1; rw [wp_bnd]; rfl
theorem e_kPr1 {v : LE} {r : List (LE × LE)} {k : LV} {QP : List (LV × LV) → LH → Prop} : kPr1 v r s QP E k h = wp (v s h) (kPr2 r s k QP E) E := rfl
theorem e_kPr2 {r : List (LE × LE)} {k : LV} {QP : List (LV × LV) → LH → Prop} : kPr2 r s k QP E v h = wp (prsM r s h) (kPr3 k v QP) E := rfl
theorem e_kPr3 {k : LV} {ps : List (LV × LV)} {QP : List (LV × LV) → LH → Prop} : kPr3 k v QP ps h = QP ((k, v) :: ps) h := rfl
theorem w_dsp {l : List (LE × LE)} {s : LSt} (hs : Hs h L) (H : ∀ D h0, Hs h0 ((D, .dct false []) :: L) → wp (prsM l s h0) (kDsp D Q E) E) : wp (dspM l s h) Q E := by
  unfold dspM; rw [wp_bnd]; exact H _ _ hs.new
theorem w_kDsp {D : Nat} {ps : List (LV × LV)} (hs : Hs h L) (u : Up L D (.dct false []) (.dct false kvs) L') (a : ps.all (fun p => (keyOf p.1).isSome) = true) (b : ps.length ≤ 15) (e : ps.foldl (fun acc p => putL acc p.1 p.2) [] = kvs) (H : ∀ h2, Hs h2 L' → Q (.ref D) h2) : kDsp D Q E ps h := by
  unfold kDsp dspF
  rw [hs.get u.mem]
  dsimp only
  rw [if_pos ⟨a, b⟩, e]
  exact H _ (hs.set u)
theorem e_gsb {mo mi : LE} : wp (mo s h) (kSb1 mi v s QS) noX → wp (gSb mo mi v s h) QS E := by
  intro H
  obtain ⟨o, h1, e1, H⟩ := wp_ok H
  obtain ⟨i, h2, e2, H⟩ := wp_ok (show wp (mi s h1) (kSb2 v o s QS) noX from H)
  obtain ⟨u, h3, e3, H⟩ := wp_ok (show wp (setL o i v h2) (fun _ h1 => QS s h1) noX from H)
  exact wp_eq (v_gsb e1 e2 e3) H
theorem e_kSb1 {mi : LE} : kSb1 mi v s QS u h = wp (mi s h) (kSb2 v u s QS) noX := rfl
theorem e_kSb2 : kSb2 v w s QS u h = wp (setL w u v h) (fun _ h1 => QS s h1) noX := rfl
theorem e_comp {i : LI} {gg : LG} {tt : LT} {ns : List Nat} : wp (compM i gg tt a ns s h) Q E = wp (i s h) (kComp gg tt a (wipeL s ns) Q E) E := by
  unfold compM; cases i s h <;> rfl
/-- a loop by what holds ahead of each turn -/
theorem w_forI {o : List (Nat × List LV)} {gg : LG} (I : List LV → LSt → LH → Prop) {its : List LV} (h0 : I its s h) (kp : ∀ r s h, I r s h → keepB o h = true)
    (step : ∀ x r s h, I (x :: r) s h → wp (gg x s h) (kSeq B (I r) ⟨R, N, I r, X⟩) noX) (fin : ∀ s h, I [] s h → N s h) : ws (forI o gg B its s h) N ⟨R, Bk, Ct, X⟩ := by
  induction its generalizing s h with
  | nil => unfold forI; rw [if_pos (kp _ _ _ h0)]; exact fin _ _ h0
  | cons x r ih =>
    have H := step x r s h h0
    unfold forI; rw [if_pos (kp _ _ _ h0)]
    cases e : gg x s h <;> rw [e] at H
    · rename_i s1 h1
      replace H : ws (B s1 h1) (I r) ⟨R, N, I r, X⟩ := H
      dsimp only
      cases e2 : B s1 h1 <;> rw [e2] at H
      · exact ih H
      · exact H
      · exact H
      · exact ih H
      · exact H
      · exact H
    · exact H.elim
    · exact H.elim
theorem w_forN {o : List (Nat × List LV)} {gg : LG} (kp : keepB o h = true) (H : N s h) : ws (forI o gg B [] s h) N K := by unfold forI; rw [if_pos kp]; exact H
theorem w_forC {o : List (Nat × List LV)} {gg : LG} {x : LV} {r : List LV} (kp : keepB o h = true) (H : wp (gg x s h) (kSeq B (kFor2 o gg B r N ⟨R, Bk, Ct, X⟩) ⟨R, N, kFor2 o gg B r N ⟨R, Bk, Ct, X⟩, X⟩) noX) : ws (forI o gg B (x :: r) s h) N ⟨R, Bk, Ct, X⟩ := by
  unfold forI; rw [if_pos kp]
  cases e : gg x s h <;> rw [e] at H
  · rename_i s1 h1
    dsimp only
    replace H : ws (B s1 h1) _ _ := H
    cases e2 : B s1 h1 <;> rw [e2] at H <;> exact H
  · exact H.elim
  · exact H.elim
theorem w_compI {o : List (Nat × List LV)} {gg : LG} {tt : LT} {e : LE} {D : Nat} (I : List LV → List LV → LH → Prop) {its : List LV} {acc : List LV} (h0 : I its acc h) (kp : ∀ r ac h, I r ac h → keepB o h = true)
    (step : ∀ x r ac h, I (x :: r) ac h → wp (gg x s h) (fun s1 h1 => wp (tt s1 h1) (fun b h2 => if b = true then wp (e s1 h2) (fun y h3 => h3[D]? = some (.lst ac) ∧ ac.length < sizeLine ∧ I r (ac ++ [y]) (h3.set D (.lst (ac ++ [y])))) noX else I r ac h2) noX) noX)
    (fin : ∀ ac h, I [] ac h → Q (.ref D) h) : wp (compI o gg tt e D s its h) Q E := by
  induction its generalizing acc h with
  | nil => unfold compI; rw [if_pos (kp _ _ _ h0)]; exact fin _ _ h0
  | cons x r ih =>
    obtain ⟨s1, h1, e1, H⟩ := wp_ok (step x r acc h h0)
    obtain ⟨b, h2, e2, H⟩ := wp_ok H
    unfold compI; rw [if_pos (kp _ _ _ h0), e1]; dsimp only; rw [e2]; dsimp only
    cases b with
    | true =>
      rw [if_pos rfl] at H
      obtain ⟨y, h3, e3, g1, g2, g3⟩ := wp_ok H
      rw [if_pos rfl, e3]; dsimp only; rw [g1]; dsimp only; rw [if_pos g2]
      exact ih g3
    | false => exact ih H
/-- a loop over numbered whole numbers -/
theorem w_forPI {o : List (Nat × List LV)} {gg : LG} (I : Int → LSt → LH → Prop) {k0 : Int} {zs : List Int} (h0 : I k0 s h) (kp : ∀ k s h, I k s h → keepB o h = true)
    (step : ∀ k z s h, k0 ≤ k → k < k0 + zs.length → I k s h → wp (gg (.tup [.int k, .int z]) s h) (kSeq B (I (k + 1)) ⟨R, N, I (k + 1), X⟩) noX) (fin : ∀ s h, I (k0 + zs.length) s h → N s h) : ws (forI o gg B (prs k0 (zs.map LV.int)) s h) N ⟨R, Bk, Ct, X⟩ := by
  refine w_forI (fun r s h => ∃ k ys, k0 ≤ k ∧ k + (ys.length : Int) = k0 + zs.length ∧ r = prs k (ys.map LV.int) ∧ I k s h) ⟨k0, zs, by omega, rfl, rfl, h0⟩ (fun r s h ⟨k, ys, _, _, _, i⟩ => kp k s h i) (fun x r s h ⟨k, ys, a, b, e, i⟩ => ?_) (fun s h ⟨k, ys, a, b, e, i⟩ => ?_)
  · cases ys with
    | nil => cases e
    | cons y ys =>
      obtain ⟨rfl, rfl⟩ := List.cons.inj e
      rw [List.length_cons] at b
      have H := step k y s h a (by omega) i
      have g : ∀ s h, I (k + 1) s h → ∃ k_1 ys_1, k0 ≤ k_1 ∧ k_1 + (List.length ys_1 : Int) = k0 + zs.length ∧ prs (k + 1) (ys.map LV.int) = prs k_1 (ys_1.map LV.int) ∧ I k_1 s h := fun s h z => ⟨k + 1, ys, by omega, by push_cast at b; omega, rfl, z⟩
      exact wp_mono H (fun s1 h1 z => ws_mono z g (fun _ _ z => z) (fun _ _ z => z) g (fun _ _ _ _ z => z)) (fun _ _ _ z => z)
  · cases ys with
    | nil =>
      have : k = k0 + zs.length := by simpa using b
      rw [← this] at fin
      exact fin s h i
    | cons y ys => cases e
/-- a loop over things that all are so -/
theorem w_forAll {o : List (Nat × List LV)} {gg : LG} (P : LV → Prop) (I : LSt → LH → Prop) {its : List LV} (hp : ∀ x ∈ its, P x) (h0 : I s h) (kp : ∀ s h, I s h → keepB o h = true)
    (step : ∀ x s h, P x → I s h → wp (gg x s h) (kSeq B I ⟨R, N, I, X⟩) noX) (fin : ∀ s h, I s h → N s h) : ws (forI o gg B its s h) N ⟨R, Bk, Ct, X⟩ := by
  refine w_forI (fun r s h => (∀ x ∈ r, P x) ∧ I s h) ⟨hp, h0⟩ (fun r s h ⟨_, i⟩ => kp s h i) (fun x r s h ⟨a, i⟩ => ?_) (fun s h ⟨_, i⟩ => fin s h i)
  have g : ∀ s h, I s h → (∀ x ∈ r, P x) ∧ I s h := fun s h z => ⟨fun y hy => a y (List.mem_cons_of_mem _ hy), z⟩
  exact wp_mono (step x s h (a x List.mem_cons_self) i) (fun s1 h1 z => ws_mono z g (fun _ _ z => z) (fun _ _ z => z) g (fun _ _ _ _ z => z)) (fun _ _ _ z => z)
/-! branches -/
theorem w_brP {P P' : LH → Prop} {k : Bool} (z : k = true) (H : P h) : kBr P P' k h := by subst z; exact H
theorem w_brM {P P' : LH → Prop} {k : Bool} (z : k = false) (H : P' h) : kBr P P' k h := by subst z; exact H
theorem w_br {P P' : LH → Prop} {k : Bool} (t : k = true → P h) (f : k = false → P' h) : kBr P P' k h := by cases k; exact f rfl; exact t rfl
theorem w_brDP {P P' : LH → Prop} {c : Prop} [Decidable c] (z : c) (H : P h) : kBr P P' (decide c) h := by unfold kBr; rw [if_pos (decide_eq_true z)]; exact H
theorem w_brDM {P P' : LH → Prop} {c : Prop} [Decidable c] (z : ¬ c) (H : P' h) : kBr P P' (decide c) h := by unfold kBr; rw [if_neg (by simpa using z)]; exact H
theorem w_brD {P P' : LH → Prop} {c : Prop} [Decidable c] (t : c → P h) (f : ¬ c → P' h) : kBr P P' (decide c) h := by
  by_cases z : c
  · exact w_brDP z (t z)
  · exact w_brDM z (f z)
theorem w_brS {P P' : LH → Prop} {x y : Str} (t : x = y → P h) (f : x ≠ y → P' h) : kBr P P' (x == y) h := by
  by_cases z : x = y
  · exact w_brP (by rw [z]; exact beq_self_eq_true y) (t z)
  · exact w_brM (by simpa using z) (f z)
theorem w_brSP {P P' : LH → Prop} {x y : Str} (t : x = y) (H : P h) : kBr P P' (x == y) h := w_brP (by rw [t]; exact beq_self_eq_true y) H
theorem w_brSM {P P' : LH → Prop} {x y : Str} (t : x ≠ y) (H : P' h) : kBr P P' (x == y) h := w_brM (by simpa using t) H
theorem w_kLst (hs : Hs h L) (H : ∀ l h', Hs h' ((l, .lst vs) :: L) → Q (.ref l) h') : kLst Q vs h := H _ _ hs.new

theorem e_add : wp (addL (.int i) (.int j) h) Q E = Q (.int (i + j)) h := rfl
theorem e_iadd : wp (iaddL (.int i) (.int j) h) Q E = Q (.int (i + j)) h := rfl
theorem e_sub : wp (subL (.int i) (.int j) h) Q E = Q (.int (i - j)) h := rfl
theorem e_neg : wp (negL (.int i) h) Q E = Q (.int (-i)) h := rfl
theorem e_lt : wp (ltL (.int i) (.int j) h) Q E = Q (.bl (decide (i < j))) h := rfl
theorem e_le : wp (leL (.int i) (.int j) h) Q E = Q (.bl (decide (i ≤ j))) h := rfl
theorem e_gt : wp (gtL (.int i) (.int j) h) Q E = Q (.bl (decide (j < i))) h := rfl
theorem e_ge : wp (geL (.int i) (.int j) h) Q E = Q (.bl (decide (j ≤ i))) h := rfl
theorem e_eqi : wp (eqL (.int i) (.int j) h) Q E = Q (.bl (decide (i = j))) h := by rw [v_eqi]; rfl
theorem e_nei : wp (neL (.int i) (.int j) h) Q E = Q (.bl (!decide (i = j))) h := by rw [v_nei]; rfl
theorem e_eqs : wp (eqL (.str x) (.str y) h) Q E = Q (.bl (x == y)) h := rfl
theorem e_nes : wp (neL (.str x) (.str y) h) Q E = Q (.bl (!(x == y))) h := rfl
theorem e_eqb {x y : Bool} : wp (eqL (.bl x) (.bl y) h) Q E = Q (.bl (x == y)) h := rfl
theorem e_neb {x y : Bool} : wp (neL (.bl x) (.bl y) h) Q E = Q (.bl (!(x == y))) h := rfl
theorem e_max : wp (maxL [.int i, .int j] h) Q E = Q (.int (if j > i then j else i)) h := rfl
theorem e_min : wp (minL [.int i, .int j] h) Q E = Q (.int (if j < i then j else i)) h := rfl
theorem e_lent : wp (lenL [.tup xs] h) Q E = Q (.int xs.length) h := rfl
theorem e_lenr : wp (lenL [.scr xs] h) Q E = Q (.int xs.length) h := rfl
theorem e_isN : wp (isNL .non .non h) Q E = Q (.bl true) h := rfl
theorem e_notN : wp (notNL .non .non h) Q E = Q (.bl false) h := rfl
theorem e_itt : wp (itmL (.tup xs) h) QI E = QI ⟨xs, []⟩ h := rfl
theorem e_itr : wp (itmL (.scr xs) h) QI E = QI ⟨xs, []⟩ h := rfl
theorem e_its : wp (itmL (.str x) h) QI E = QI ⟨sgnL x, []⟩ h := rfl
theorem e_enur : wp (enuL [.scr xs] h) QI E = QI ⟨prs 0 xs, []⟩ h := rfl
theorem e_strs : wp (strL [.str x] h) Q E = Q (.str x) h := rfl
theorem e_inti : wp (intL [.int i] h) Q E = Q (.int i) h := rfl
theorem e_intb {b : Bool} : wp (intL [.bl b] h) Q E = Q (.int (if b then 1 else 0)) h := rfl
theorem e_tupt : wp (tupL [.tup xs] h) Q E = Q (.tup xs) h := rfl
theorem e_slt {lo hi : Option Int} : wp (sliceL lo hi (.tup xs) h) Q E = Q (.tup (cutL xs lo hi)) h := rfl
theorem e_isiI {t : Ty} : wp (isiL [.int i, .ty t] h) Q E = Q (.bl (isK .int t)) h := rfl
theorem e_isiS {t : Ty} : wp (isiL [.str x, .ty t] h) Q E = Q (.bl (isK .str t)) h := rfl
theorem e_isiT {t : Ty} : wp (isiL [.tup xs, .ty t] h) Q E = Q (.bl (isK .tup t)) h := rfl
theorem e_isiN {t : Ty} : wp (isiL [.non, .ty t] h) Q E = Q (.bl (isK .non t)) h := rfl
theorem e_isiB {b : Bool} {t : Ty} : wp (isiL [.bl b, .ty t] h) Q E = Q (.bl (isK .bl t)) h := rfl
theorem e_isiR {t : Ty} : wp (isiL [.scr xs, .ty t] h) Q E = Q (.bl (isK .lst t)) h := rfl
/-! leaves -/
theorem w_add (H : Q (.int (i + j)) h) : wp (addL (.int i) (.int j) h) Q E := H
theorem w_iadd (H : Q (.int (i + j)) h) : wp (iaddL (.int i) (.int j) h) Q E := H
theorem w_adds (hc : x.length + y.length ≤ sizeLine) (H : Q (.str (x ++ y)) h) : wp (addL (.str x) (.str y) h) Q E := wp_eq (v_adds hc) H
theorem w_addt (hc : xs.length + ys.length ≤ sizeLine) (H : Q (.tup (xs ++ ys)) h) : wp (addL (.tup xs) (.tup ys) h) Q E := wp_eq (if_pos hc) H
theorem w_addl {l k : Nat} (hs : Hs h L) (hx : (l, LO.lst xs) ∈ L) (hy : (k, LO.lst ys) ∈ L) (hc : xs.length + ys.length ≤ sizeLine) (H : ∀ q h', Hs h' ((q, .lst (xs ++ ys)) :: L) → Q (.ref q) h') : wp (addL (.ref l) (.ref k) h) Q E :=
  wp_eq (v_addl (hs.get hx) (hs.get hy) hc) (H _ _ hs.new)
theorem w_sub (H : Q (.int (i - j)) h) : wp (subL (.int i) (.int j) h) Q E := H
theorem w_mul (hc : (-(2 ^ 64) < i ∧ i < 2 ^ 64) ∨ (-(2 ^ 64) < j ∧ j < 2 ^ 64)) (H : Q (.int (i * j)) h) : wp (mulL (.int i) (.int j) h) Q E := wp_eq (v_mul (v_cmul hc)) H
theorem w_fdiv (hc : 0 < j ∧ j.natAbs.log2 < 9000) (H : Q (.int (i / j)) h) : wp (fdivL (.int i) (.int j) h) Q E := wp_eq (v_fdiv hc) H
theorem w_mod (hc : 0 < j) (H : Q (.int (i % j)) h) : wp (modL (.int i) (.int j) h) Q E := wp_eq (v_mod hc) H
theorem w_pow (hc : 0 ≤ j ∧ j ≤ 1000000 ∧ i.natAbs < 2 ^ 64) (H : Q (.int (i ^ j.toNat)) h) : wp (powL (.int i) (.int j) h) Q E := wp_eq (v_pow hc) H
theorem w_neg (H : Q (.int (-i)) h) : wp (negL (.int i) h) Q E := H
theorem w_lt (H : Q (.bl (decide (i < j))) h) : wp (ltL (.int i) (.int j) h) Q E := H
theorem w_le (H : Q (.bl (decide (i ≤ j))) h) : wp (leL (.int i) (.int j) h) Q E := H
theorem w_gt (H : Q (.bl (decide (j < i))) h) : wp (gtL (.int i) (.int j) h) Q E := H
theorem w_ge (H : Q (.bl (decide (j ≤ i))) h) : wp (geL (.int i) (.int j) h) Q E := H
theorem w_eqi (H : Q (.bl (decide (i = j))) h) : wp (eqL (.int i) (.int j) h) Q E := wp_eq v_eqi H
theorem w_nei (H : Q (.bl (!decide (i = j))) h) : wp (neL (.int i) (.int j) h) Q E := wp_eq v_nei H
theorem w_eqs (H : Q (.bl (x == y)) h) : wp (eqL (.str x) (.str y) h) Q E := H
theorem w_nes (H : Q (.bl (!(x == y))) h) : wp (neL (.str x) (.str y) h) Q E := H
theorem w_eqb {x y : Bool} (H : Q (.bl (x == y)) h) : wp (eqL (.bl x) (.bl y) h) Q E := H
theorem w_neb {x y : Bool} (H : Q (.bl (!(x == y))) h) : wp (neL (.bl x) (.bl y) h) Q E := H
theorem w_eqf (hc : sclL v u = true) (H : Q (.bl (eqF v u)) h) : wp (eqL v u h) Q E := by unfold eqL; rw [if_pos hc]; exact H
theorem w_nef (hc : sclL v u = true) (H : Q (.bl (!eqF v u)) h) : wp (neL v u h) Q E := by unfold neL; rw [if_pos hc]; exact H
theorem w_eqd {d e : PyData} (hc : sclL v u = false) (hd : toD 16 h v = some d) (he : toD 16 h u = some e) (H : Q (.bl (PyData.eqv d e)) h) : wp (eqL v u h) Q E := by
  unfold eqL; rw [if_neg (by rw [hc]; decide), if_neg (fun z => toD_noE hd z.1), if_neg (fun z => toD_noE hd z.1), hd, he]; exact H
theorem w_eqDT {a : Nat} (hs : Hs h L) (ma : (a, LO.dct false []) ∈ L) (H : Q (.bl false) h) : wp (eqL (.ref a) (.tup xs) h) Q E := by
  have e : isE h (.ref a) = true := by simp only [isE, hs.get ma]
  unfold eqL; rw [if_neg (fun z => by cases z), if_neg (fun z => by cases z.2), if_pos ⟨e, rfl⟩]; exact H
theorem w_eqE {a b : Nat} (hs : Hs h L) (ma : (a, LO.dct false []) ∈ L) (mb : (b, LO.dct false []) ∈ L) (H : Q (.bl true) h) : wp (eqL (.ref a) (.ref b) h) Q E := by
  unfold eqL; rw [if_neg (by simp [sclL, flatL]), if_pos ⟨by simp only [isE, hs.get ma], by simp only [isE, hs.get mb]⟩]; exact H
theorem w_ned {d e : PyData} (hc : sclL v u = false) (hd : toD 16 h v = some d) (he : toD 16 h u = some e) (H : Q (.bl (!PyData.eqv d e)) h) : wp (neL v u h) Q E := by
  unfold neL; rw [if_neg (by rw [hc]; decide), hd, he]; exact H
theorem w_max (H : Q (.int (if j > i then j else i)) h) : wp (maxL [.int i, .int j] h) Q E := H
theorem w_min (H : Q (.int (if j < i then j else i)) h) : wp (minL [.int i, .int j] h) Q E := H
theorem w_getl (hs : Hs h L) (hx : (l, LO.lst xs) ∈ L) (hi : atI xs i = some v) (H : Q v h) : wp (getA (.ref l) (.int i) h) Q E := wp_eq (v_getl (hs.get hx) hi) H
theorem w_getlA (hs : Hs h L) (hx : (l, LO.lst xs) ∈ L) (h0 : 0 ≤ i) (h1 : i < xs.length) (H : AllIn xs fun v => Q v h) : wp (getA (.ref l) (.int i) h) Q E := by
  obtain ⟨v, e, m⟩ := atI_mem h0 h1
  exact wp_eq (v_getl (hs.get hx) e) (H.of v m)
theorem w_getlM (hs : Hs h L) (hx : (l, LO.lst xs) ∈ L) (h0 : 0 ≤ i) (h1 : i < xs.length) (H : ∀ v, atI xs i = some v → v ∈ xs → Q v h) : wp (getA (.ref l) (.int i) h) Q E := by
  obtain ⟨v, e, m⟩ := atI_mem h0 h1
  exact wp_eq (v_getl (hs.get hx) e) (H v e m)
theorem w_gettA (h0 : 0 ≤ i) (h1 : i < xs.length) (H : AllIn xs fun v => Q v h) : wp (getA (.tup xs) (.int i) h) Q E := by
  obtain ⟨v, e, m⟩ := atI_mem h0 h1
  exact wp_eq (v_gett e) (H.of v m)
theorem w_gettM (h0 : 0 ≤ i) (h1 : i < xs.length) (H : ∀ v, atI xs i = some v → v ∈ xs → Q v h) : wp (getA (.tup xs) (.int i) h) Q E := by
  obtain ⟨v, e, m⟩ := atI_mem h0 h1
  exact wp_eq (v_gett e) (H v e m)
theorem w_gett (hi : atI xs i = some v) (H : Q v h) : wp (getA (.tup xs) (.int i) h) Q E := wp_eq (v_gett hi) H
theorem w_getr (hi : atI xs i = some v) (H : Q v h) : wp (getA (.scr xs) (.int i) h) Q E := wp_eq (v_getr hi) H
theorem w_gets {k : Nat} (hx : x.length ≤ sizeLine) (hi : atI x.cps.toList i = some k) (H : Q (.str ⟨#[k]⟩) h) : wp (getA (.str x) (.int i) h) Q E := wp_eq (v_gets hx hi) H
theorem w_getd {k : LV} (hs : Hs h L) (hx : (l, LO.dct tk kvs) ∈ L) (hk : okKey tk k = true) (hg : getK kvs k = some v) (H : Q v h) : wp (getA (.ref l) k h) Q E := wp_eq (v_getd (hs.get hx) hk hg) H
theorem w_ind {k : LV} (hs : Hs h L) (hx : (l, LO.dct tk kvs) ∈ L) (hk : okKey tk k = true) (H : Q (.bl (getK kvs k).isSome) h) : wp (inA k (.ref l) h) Q E := wp_eq (v_ind (hs.get hx) hk) H
theorem w_nind {k : LV} (hs : Hs h L) (hx : (l, LO.dct tk kvs) ∈ L) (hk : okKey tk k = true) (H : Q (.bl (!(getK kvs k).isSome)) h) : wp (notInA k (.ref l) h) Q E := wp_eq (v_nind (hs.get hx) hk) H
theorem w_inT (hv : flatL v = true) (hy : ys.all flatL = true) (H : Q (.bl (ys.any fun y => eqF y v)) h) : wp (inA v (.tup ys) h) Q E := wp_eq (v_inT hv hy) H
theorem w_ninT (hv : flatL v = true) (hy : ys.all flatL = true) (H : Q (.bl (!ys.any fun y => eqF y v)) h) : wp (notInA v (.tup ys) h) Q E := wp_eq (v_ninT hv hy) H
theorem w_inL (hs : Hs h L) (hx : (l, LO.lst ys) ∈ L) (hv : flatL v = true) (hy : ys.all flatL = true) (H : Q (.bl (ys.any fun y => eqF y v)) h) : wp (inA v (.ref l) h) Q E := by
  cases ys with
  | nil => exact wp_eq (v_inE (hs.get hx)) H
  | cons y ys => exact wp_eq (v_inL hv (hs.get hx) rfl hy) H
theorem w_inD {d : PyData} {ds : List PyData} (hs : Hs h L) (hx : (l, LO.lst ys) ∈ L) (hf : flatL v = false) (hv : toD 15 h v = some d) (hy : optAll (toD 15 h) ys = some ds) (H : Q (.bl (ds.any fun z => PyData.eqv z d)) h) : wp (inA v (.ref l) h) Q E := by
  cases ys with
  | nil => cases hy; exact wp_eq (v_inE (hs.get hx)) H
  | cons y ys =>
    refine wp_eq ?_ H
    unfold inA selL isD2
    simp only [nd_l (hs.get hx), Option.isSome_none, Bool.false_eq_true, if_false]
    cases v <;> first | (simp only [inL, inBy, hs.get hx, hf, id, hv, hy]; rfl) | cases hf
theorem w_ninD {d : PyData} {ds : List PyData} (hs : Hs h L) (hx : (l, LO.lst ys) ∈ L) (hf : flatL v = false) (hv : toD 15 h v = some d) (hy : optAll (toD 15 h) ys = some ds) (H : Q (.bl (!ds.any fun z => PyData.eqv z d)) h) : wp (notInA v (.ref l) h) Q E := by
  cases ys with
  | nil =>
    cases hy
    refine wp_eq ?_ H
    unfold notInA selL isD2
    simp only [nd_l (hs.get hx), Option.isSome_none, Bool.false_eq_true, if_false]
    cases v <;> first | (simp only [notInL, inBy, hs.get hx]; rfl) | cases hf
  | cons y ys =>
    refine wp_eq ?_ H
    unfold notInA selL isD2
    simp only [nd_l (hs.get hx), Option.isSome_none, Bool.false_eq_true, if_false]
    cases v <;> first | (simp only [notInL, inBy, hs.get hx, hf, hv, hy]; rfl) | cases hf
theorem w_ninL (hs : Hs h L) (hx : (l, LO.lst ys) ∈ L) (hn : ys.isEmpty = false) (hv : flatL v = true) (hy : ys.all flatL = true) (H : Q (.bl (!ys.any fun y => eqF y v)) h) : wp (notInA v (.ref l) h) Q E := wp_eq (v_ninL hv (hs.get hx) hn hy) H
theorem w_lenl (hs : Hs h L) (hx : (l, LO.lst xs) ∈ L) (H : Q (.int xs.length) h) : wp (lenL [.ref l] h) Q E := wp_eq (v_lenl (hs.get hx)) H
theorem w_lens (hx : x.length ≤ sizeLine) (H : Q (.int x.length) h) : wp (lenL [.str x] h) Q E := wp_eq (v_lens hx) H
theorem w_lent (H : Q (.int xs.length) h) : wp (lenL [.tup xs] h) Q E := H
theorem w_lenr (H : Q (.int xs.length) h) : wp (lenL [.scr xs] h) Q E := H
theorem w_isLst (hs : Hs h L) (hx : (l, LO.lst xs) ∈ L) : isLst h (.ref l) = true := v_isLst (hs.get hx)
theorem w_app (hs : Hs h L) (u : Up L l (.lst xs) (.lst (xs ++ [v])) L') (hc : xs.length < sizeLine) (H : ∀ h', Hs h' L' → Q .non h') : wp (appL (.ref l) [v] h) Q E := wp_eq (v_app (hs.get u.mem) hc) (H _ (hs.set u))
theorem w_rng1 (hc : -(2 ^ 62) ≤ j ∧ j < 2 ^ 62) (H : QI ⟨rngI 0 j.toNat, []⟩ h) : wp (rng1 [.int j] h) QI E := wp_eq (v_rng1 hc) H
theorem w_rng2 (hc : -(2 ^ 62) ≤ i ∧ i < 2 ^ 62) (hd : -(2 ^ 62) ≤ j ∧ j < 2 ^ 62) (H : QI ⟨rngI i (j - i).toNat, []⟩ h) : wp (rng2 [.int i, .int j] h) QI E := by
  exact wp_eq (if_pos ⟨decide_eq_true hc, decide_eq_true hd⟩) H
theorem w_isi {t : Ty} {k : Kd} (hk : kdL h v = some k) (H : Q (.bl (isKo k t)) h) : wp (isiL [v, .ty t] h) Q E := wp_eq (v_isi hk) H
theorem w_sll {lo hi : Option Int} (hs : Hs h L) (hx : (l, LO.lst xs) ∈ L) (H : ∀ q h', Hs h' ((q, .lst (cutL xs lo hi)) :: L) → Q (.ref q) h') : wp (sliceL lo hi (.ref l) h) Q E := wp_eq (v_sll (hs.get hx)) (H _ _ hs.new)
theorem w_slrI {lo hi : Option Int} {ns : List Int} (hs : Hs h L) (H : ∀ cs : List Int, cs.length ≤ ns.length → ∀ q h', Hs h' ((q, .lst (cs.map LV.int)) :: L) → Q (.ref q) h') : wp (sliceL lo hi (.scr (ns.map LV.int)) h) Q E := by
  obtain ⟨cs, e, hc⟩ := cut_ints ns lo hi
  refine wp_eq v_slr ?_
  rw [e]
  exact H cs hc _ _ hs.new
theorem w_slr {lo hi : Option Int} (hs : Hs h L) (H : ∀ q h', Hs h' ((q, .lst (cutL xs lo hi)) :: L) → Q (.ref q) h') : wp (sliceL lo hi (.scr xs) h) Q E := wp_eq v_slr (H _ _ hs.new)
theorem w_sls {lo hi : Option Int} (hx : x.length ≤ sizeLine) (H : Q (.str (cutS x lo hi)) h) : wp (sliceL lo hi (.str x) h) Q E := wp_eq (v_sls hx) H
theorem w_slt {lo hi : Option Int} (H : Q (.tup (cutL xs lo hi)) h) : wp (sliceL lo hi (.tup xs) h) Q E := H
theorem w_dnw (hs : Hs h L) (H : ∀ q h', Hs h' ((q, .dct tk []) :: L) → Q (.ref q) h') : wp (dnwM tk s h) Q E := H _ _ hs.new
theorem w_str (hc : i.natAbs.log2 < 1920) (H : Q (.str (toString i)) h) : wp (strL [.int i] h) Q E := wp_eq (v_str hc) H
theorem w_strs (H : Q (.str x) h) : wp (strL [.str x] h) Q E := H
theorem w_abs (H : Q (.int (if i < 0 then -i else i)) h) : wp (absL [.int i] h) Q E := H
theorem w_inti (H : Q (.int i) h) : wp (intL [.int i] h) Q E := H
theorem w_intb {b : Bool} (H : Q (.int (if b then 1 else 0)) h) : wp (intL [.bl b] h) Q E := H
theorem w_listt (hs : Hs h L) (H : ∀ q h', Hs h' ((q, .lst xs) :: L) → Q (.ref q) h') : wp (listL [.tup xs] h) Q E := H _ _ hs.new
theorem w_listr (hs : Hs h L) (H : ∀ q h', Hs h' ((q, .lst xs) :: L) → Q (.ref q) h') : wp (listL [.scr xs] h) Q E := H _ _ hs.new
theorem w_listl (hs : Hs h L) (hx : (l, LO.lst xs) ∈ L) (H : ∀ q h', Hs h' ((q, .lst xs) :: L) → Q (.ref q) h') : wp (listL [.ref l] h) Q E := by
  refine wp_eq ?_ (H _ _ hs.new)
  simp only [listL, hs.get hx]
theorem w_tupl (hs : Hs h L) (hx : (l, LO.lst xs) ∈ L) (H : Q (.tup xs) h) : wp (tupL [.ref l] h) Q E := wp_eq (v_tupl (hs.get hx)) H
theorem w_tupt (H : Q (.tup xs) h) : wp (tupL [.tup xs] h) Q E := H
theorem w_rev (hs : Hs h L) (u : Up L l (.lst xs) (.lst xs.reverse) L') (H : ∀ h', Hs h' L' → Q .non h') : wp (revL (.ref l) [] h) Q E := by
  refine wp_eq (v := .non) (h := h.set l (.lst xs.reverse)) ?_ (H _ (hs.set u))
  simp only [revL, hs.get u.mem]
theorem w_setl {j : Nat} {QU : Unit → LH → Prop} (hs : Hs h L) (u : Up L l (.lst xs) (.lst (xs.set j v)) L') (hi : L2.ixN xs.length i = some j) (H : ∀ h', Hs h' L' → QU () h') : wp (setL (.ref l) (.int i) v h) QU E := by
  refine wp_eq (v := ()) (h := h.set l (.lst (xs.set j v))) ?_ (H _ (hs.set u))
  unfold setL
  rw [nd_w (hs.get u.mem)]
  simp only [hs.get u.mem, hi]
theorem w_setd {k : LV} {QU : Unit → LH → Prop} (hs : Hs h L) (u : Up L l (.dct tk kvs) (.dct tk (putL kvs k v)) L') (hk : okKey tk k = true) (hc : kvs.length < sizeLine) (H : ∀ h', Hs h' L' → QU () h') : wp (setL (.ref l) k v h) QU E := by
  refine wp_eq (v := ()) (h := h.set l (.dct tk (putL kvs k v))) ?_ (H _ (hs.set u))
  unfold setL dAt
  simp only [hs.get u.mem, if_pos (And.intro hk hc)]
theorem w_isN (H : Q (.bl true) h) : wp (isNL .non .non h) Q E := H
theorem w_isNx (hv : isNonB v = false) (H : Q (.bl false) h) : wp (isNL v .non h) Q E := wp_eq (v_isNx hv) H
theorem w_notN (H : Q (.bl false) h) : wp (notNL .non .non h) Q E := H
theorem w_notNx (hv : isNonB v = false) (H : Q (.bl true) h) : wp (notNL v .non h) Q E := wp_eq (v_notNx hv) H
theorem w_isiE {kn : List Str} {tab : List (Str × Str × Bool)} {c n : Str} {b : Bool} (e : subE tab c n = some b) (H : Q (.bl b) h) : wp (isiA kn tab [.exc c [], .fn n] h) Q E := wp_eq (v_isiE e) H
theorem w_isiV {kn : List Str} {tab : List (Str × Str × Bool)} {c : Str} (e : kn.contains c = true) (H : Q (.bl true) h) : wp (isiA kn tab [.exc c [], .ty .verr] h) Q E := wp_eq (v_isiV e) H
theorem w_isiNo {kn : List Str} {tab : List (Str × Str × Bool)} {n : Str} (e : (tab.any fun p => p.2.1 == n) = true) (H : Q (.bl false) h) : wp (isiA kn tab [.non, .fn n] h) Q E := wp_eq (v := .bl false) (by simp only [isiA, if_pos e]) H
theorem w_itl (hs : Hs h L) (hx : (l, LO.lst xs) ∈ L) (H : QI ⟨xs, [(l, xs)]⟩ h) : wp (itmL (.ref l) h) QI E := wp_eq (v_itl (hs.get hx)) H
theorem w_itt (H : QI ⟨xs, []⟩ h) : wp (itmL (.tup xs) h) QI E := H
theorem w_itr (H : QI ⟨xs, []⟩ h) : wp (itmL (.scr xs) h) QI E := H
theorem w_its (H : QI ⟨sgnL x, []⟩ h) : wp (itmL (.str x) h) QI E := H
theorem w_enu (hs : Hs h L) (hx : (l, LO.lst xs) ∈ L) (H : QI ⟨prs 0 xs, [(l, xs)]⟩ h) : wp (enuL [.ref l] h) QI E := wp_eq (v_enu (hs.get hx)) H
theorem w_enur (H : QI ⟨prs 0 xs, []⟩ h) : wp (enuL [.scr xs] h) QI E := H
theorem w_kp (hs : Hs h L) (hx : (l, LO.lst xs) ∈ L) : keepB [(l, xs)] h = true := v_kp (hs.get hx)
theorem w_sqL (hs : Hs h L) (hx : (l, LO.lst xs) ∈ L) : seqV h (.ref l) = some xs := v_sqL (hs.get hx)
theorem w_alls {bs : List Bool} (hs : Hs h L) (hx : (l, LO.lst xs) ∈ L) (hb : asBs xs = some bs) (H : Q (.bl (bs.all id)) h) : wp (allL [.ref l] h) Q E := by
  refine wp_eq ?_ H
  simp only [allL, hs.get hx, hb]
theorem w_isl {t : Ty} (hs : Hs h L) (hx : (l, LO.lst xs) ∈ L) (H : Q (.bl (isK .lst t)) h) : wp (isiL [.ref l, .ty t] h) Q E := wp_eq (v_isi (by simp only [kdL, hs.get hx])) H
theorem w_isd {t : Ty} (hs : Hs h L) (hx : (l, LO.dct tk kvs) ∈ L) (H : Q (.bl (isK .dct t)) h) : wp (isiL [.ref l, .ty t] h) Q E := wp_eq (v_isi (by simp only [kdL, hs.get hx])) H
theorem w_kdl (hs : Hs h L) (hx : (l, LO.lst xs) ∈ L) : kdL h (.ref l) = some .lst := by simp only [kdL, hs.get hx]
theorem w_kdd (hs : Hs h L) (hx : (l, LO.dct tk kvs) ∈ L) : kdL h (.ref l) = some .dct := by simp only [kdL, hs.get hx]
theorem w_ext {k : Nat} (hs : Hs h L) (hy : (k, LO.lst ys) ∈ L) (u : Up L l (.lst xs) (.lst (xs ++ ys)) L') (hc : xs.length + ys.length ≤ sizeLine) (H : ∀ h', Hs h' L' → Q .non h') : wp (extL (.ref l) [.ref k] h) Q E := by
  refine wp_eq (v := .non) (h := h.set l (.lst (xs ++ ys))) ?_ (H _ (hs.set u))
  simp only [extL, hs.get u.mem, hs.get hy, if_pos hc]
theorem w_cnt {n : Nat} (hs : Hs h L) (hx : (l, LO.lst ys) ∈ L) (hv : flatL v = true) (hy : ys.all flatL = true) (hn : (ys.countP fun y => eqF y v) = n) (H : Q (.int (n : Int)) h) : wp (cntL (.ref l) [v] h) Q E := by
  refine wp_eq ?_ H
  simp only [cntL, hs.get hx, hv, hy, hn, and_self, if_true]
theorem w_idx {n : Nat} (hs : Hs h L) (hx : (l, LO.lst ys) ∈ L) (hv : flatL v = true) (hy : ys.all flatL = true) (ha : (ys.any fun y => eqF y v) = true) (hn : (ys.findIdx fun y => eqF y v) = n) (H : Q (.int (n : Int)) h) : wp (idxL (.ref l) [v] h) Q E := by
  refine wp_eq ?_ H
  simp only [idxL, hs.get hx, hv, hy, ha, hn, and_self, if_true]
theorem w_up (hc : x.length ≤ 5592405) (H : Q (.str (Txt.upper x)) h) : wp (upL (.str x) [] h) Q E := wp_eq (v_up hc) H
end
/-! ### data -/
section
variable {h : LH} {L : List (Nat × LO)} {n : Nat} {x : Str} {xs : List LV} {ds : List PyData} {v : LV} {d : PyData} {l : Nat}
theorem d_non : toD n h .non = some .none := by cases n <;> rfl
theorem d_bl {b : Bool} : toD n h (.bl b) = some (.bool b) := by cases n <;> rfl
theorem d_int {i : Int} : toD n h (.int i) = some (.int i) := by cases n <;> rfl
theorem d_str (ok : PyData.strOk x = true) : toD n h (.str x) = some (.str x) := by cases n <;> exact if_pos ok
theorem d_tup (a : optAll (toD n h) xs = some ds) : toD (n + 1) h (.tup xs) = some (.tuple ds) := by rw [toD, a]; rfl
theorem d_scr (a : optAll (toD n h) xs = some ds) : toD (n + 1) h (.scr xs) = some (.list ds) := by rw [toD, a]; rfl
theorem d_lst (hs : Hs h L) (m : (l, LO.lst xs) ∈ L) (a : optAll (toD n h) xs = some ds) : toD (n + 1) h (.ref l) = some (.list ds) := by rw [toD, hs.get m]; dsimp only; rw [a]; rfl
theorem oa_nil : optAll (toD n h) [] = some [] := rfl
theorem oa_cons (a : toD n h v = some d) (b : optAll (toD n h) xs = some ds) : optAll (toD n h) (v :: xs) = some (d :: ds) := by simp only [optAll, a, b]
theorem oa_app {ys : List LV} {es : List PyData} : ∀ {xs : List LV} {ds : List PyData}, optAll (toD n h) xs = some ds → optAll (toD n h) ys = some es → optAll (toD n h) (xs ++ ys) = some (ds ++ es)
  | [], _, a, b => by cases a; exact b
  | v :: xs, _, a, b => by
    obtain ⟨y, r, h1, h2, rfl⟩ := optAll_cons a
    exact oa_cons h1 (oa_app h2 b)
theorem oa_ints (is : List Int) : optAll (toD n h) (is.map LV.int) = some (is.map PyData.int) := by
  induction is with
  | nil => rfl
  | cons i is ih => exact oa_cons d_int ih
mutual
theorem eqv_refl : ∀ d : PyData, (∀ kvs, d ≠ .dict kvs) → eqvOk d = true → PyData.eqv d d = true
  | .none, _, _ => by simp [PyData.eqv]
  | .bool _, _, _ => by simp [PyData.eqv]
  | .int _, _, _ => by simp [PyData.eqv]
  | .str _, _, _ => by simp [PyData.eqv]
  | .list xs, _, o => by simp only [PyData.eqv]; exact eqvA_refl xs (by simpa [eqvOk] using o)
  | .tuple xs, _, o => by simp only [PyData.eqv]; exact eqvA_refl xs (by simpa [eqvOk] using o)
  | .dict k, n, _ => absurd rfl (n k)
theorem eqvA_refl : ∀ ds : List PyData, eqvOks ds = true → PyData.eqvAll ds ds = true
  | [], _ => by simp [PyData.eqvAll]
  | d :: ds, o => by
    simp only [eqvOks, Bool.and_eq_true] at o
    simp only [PyData.eqvAll, Bool.and_eq_true]
    refine ⟨eqv_refl d (fun k e => by rw [e] at o; simp [eqvOk] at o) o.1, eqvA_refl ds o.2⟩
end
end
/-! ### numbers drawn -/
inductive IsI : List LV → List Int → Prop
  | nil : IsI [] []
  | cons {n : Int} {xs : List LV} {ns : List Int} (r : IsI xs ns) : IsI (.int n :: xs) (n :: ns)
theorem IsI.eq {xs : List LV} {ns : List Int} (r : IsI xs ns) : xs = ns.map LV.int := by
  induction r with
  | nil => rfl
  | cons r ih => rw [ih]; rfl
def digs : List Int → (List LV → Prop) → Prop
  | [], P => P []
  | n :: ns, P => ∀ d : Int, 0 ≤ d → d < n → digs ns fun r => P (.int d :: r)
theorem digs_of : ∀ {ss : List Int} {P : List LV → Prop} {ds : List Int}, digs ss P → InR ds ss → P (ds.map LV.int)
  | [], _, [], H, _ => H
  | [], _, _ :: _, _, r => r.elim
  | _ :: _, _, [], _, r => r.elim
  | n :: ns, P, d :: ds, H, r => digs_of (P := fun r => P (.int d :: r)) (H d r.1 r.2.1) r.2.2
theorem w_nums {cell salt : Int} {l : Nat} {xs : List LV} {ss : List Int} {h : LH} {L : List (Nat × LO)} {Q : LV → LH → Prop} {E : XP} (hs : Hs h L) (hx : (l, LO.lst xs) ∈ L) (hi : IsI xs ss) (hz : ∀ z ∈ ss, 0 < z ∧ z.natAbs.log2 < 9000) (hn : ss.length ≤ 1000)
    (H : digs ss fun ds => ∀ q h', Hs h' ((q, .lst ds) :: L) → Q (.ref q) h') : wp (nmF [.int cell, .int salt, .ref l] h) Q E := by
  obtain ⟨ds, hr, e⟩ := nums_ok (cell := cell) (salt := salt) (by rw [← hi.eq]; exact hs.get hx) hz hn
  exact wp_eq e (digs_of H hr _ _ hs.new)
end Fw

set_option maxRecDepth 100000
set_option maxHeartbeats 4000000
namespace Fw
open PySem PySem.Spec PyProof.Rows L2
section
variable {α β : Type} {s s1 s2 : LSt} {h h1 h2 h3 : LH} {L L' : List (Nat × LO)} {n k : Nat} {v u w : LV} {vs us xs ys : List LV} {a b c m : LE} {ta tb : LT} {aa ar : LA} {f g : LV → LV → M LV} {A B : LS} {l : Nat} {i j : Int} {x y : Str} {kvs : List (LV × LV)} {tk : Bool}
variable {E : XP} {Q : LV → LH → Prop} {QB : Bool → LH → Prop} {QA : List LV → LH → Prop} {QI : Items → LH → Prop} {QS : LSt → LH → Prop} {N : LSt → LH → Prop} {K : Kx} {R : LV → LH → Prop} {Bk Ct : LSt → LH → Prop} {X : Str → List (Str × LV) → LSt → LH → Prop} {cl fd mt : Str} {fs : List (Str × LV)} {fn : List LV → M LV} {o : LE}
/-! ### instances -/
def kFld (c f : Str) (Q : LV → LH → Prop) : LV → LH → Prop := fun v h => wp ((match insAt h c v with
  | some (_, fs) => (match fs.lookup f with
    | some u => .ok u h
    | none => .bad)
  | none => .bad : RE LV)) Q noX
theorem e_fld : wp (fldM cl fd o s h) Q E = wp (o s h) (kFld cl fd Q) E := by
  unfold fldM; rw [wp_bnd]; congr 1; funext v h1; unfold kFld
  cases insAt h1 cl v with
  | none => rfl
  | some z => obtain ⟨l, fs⟩ := z; dsimp only; cases fs.lookup fd <;> rfl
theorem insAt_of (hs : Hs h L) (hx : (l, LO.ins cl fs) ∈ L) : insAt h cl (.ref l) = some (l, fs) := by unfold insAt; simp only [hs.get hx, if_true]
theorem w_kFld (hs : Hs h L) (hx : (l, LO.ins cl fs) ∈ L) (hf : fs.lookup fd = some v) (H : Q v h) : kFld cl fd Q (.ref l) h := by
  unfold kFld; rw [insAt_of hs hx]; dsimp only; rw [hf]; exact H
def kFs2 (c f : Str) (y : LV) (s : LSt) (N : LSt → LH → Prop) : LV → LH → Prop := fun x h => match insAt h c x with
  | some (l, fs) => fs.length < 1000 ∧ N s (h.set l (.ins c (putA f y fs)))
  | none => False
def kFs1 (c f : Str) (o : LE) (s : LSt) (N : LSt → LH → Prop) (E : XP) : LV → LH → Prop := fun y h => wp (o s h) (kFs2 c f y s N) E
theorem w_fldS (H : wp (m s h) (kFs1 cl fd o s N (xS X s)) (xS X s)) : ws (fldS cl fd o m s h) N ⟨R, Bk, Ct, X⟩ := by
  have H2 : wp (bnd (m s) (fun y => bnd (o s) fun x h => match insAt h cl x with
    | some (l, fs) => if fs.length < 1000 then .ok () (h.set l (.ins cl (putA fd y fs))) else .bad
    | none => .bad) h) (fun _ h' => N s h') (xS X s) := by
    rw [wp_bnd]
    refine wp_mono H (fun y h1 z => ?_) (fun _ _ _ z => z)
    rw [wp_bnd]
    refine wp_mono (show wp (o s h1) (kFs2 cl fd y s N) (xS X s) from z) (fun x h2 z2 => ?_) (fun _ _ _ z => z)
    unfold kFs2 at z2
    cases q : insAt h2 cl x with
    | none => rw [q] at z2; exact z2.elim
    | some p =>
      obtain ⟨l, fs⟩ := p
      rw [q] at z2
      dsimp only at z2 ⊢
      rw [if_pos z2.1]
      exact z2.2
  unfold fldS
  generalize bnd (m s) _ h = r at H2 ⊢
  cases r <;> exact H2
theorem e_kFs1 : kFs1 cl fd o s N E v h = wp (o s h) (kFs2 cl fd v s N) E := rfl
theorem w_kFs2 (hs : Hs h L) (u : Up L l (.ins cl fs) (.ins cl (putA fd v fs)) L') (hl : fs.length < 1000) (H : ∀ h', Hs h' L' → N s h') : kFs2 cl fd v s N (.ref l) h := by
  unfold kFs2; rw [insAt_of hs u.mem]; exact ⟨hl, H _ (hs.set u)⟩
def kMth2 (g : List LV → M LV) (v : LV) (Q : LV → LH → Prop) (E : XP) : List LV → LH → Prop := fun vs h => wp (g (v :: vs) h) Q E
def kMth1 (c m : Str) (g : List LV → M LV) (a : LA) (s : LSt) (Q : LV → LH → Prop) (E : XP) : LV → LH → Prop := fun v h => match insAt h c v with
  | some (_, fs) => (fs.lookup m).isSome = false ∧ wp (a s h) (kMth2 g v Q E) E
  | none => False
theorem e_mth : wp (mthM cl mt fn o aa s h) Q E = wp (o s h) (kMth1 cl mt fn aa s Q E) E := by
  unfold mthM; rw [wp_bnd]; congr 1; funext v h1; unfold kMth1
  cases insAt h1 cl v with
  | none => rfl
  | some z =>
    obtain ⟨l, fs⟩ := z
    dsimp only
    cases q : (fs.lookup mt).isSome with
    | true => rw [if_pos rfl]; exact (eq_false (fun z => absurd z.1 (by decide))).symm
    | false => rw [if_neg (by decide), wp_bnd]; simp only [true_and]; rfl
theorem w_kMth1 (hs : Hs h L) (hx : (l, LO.ins cl fs) ∈ L) (hn : (fs.lookup mt).isSome = false) (H : wp (aa s h) (kMth2 fn (.ref l) Q E) E) : kMth1 cl mt fn aa s Q E (.ref l) h := by
  unfold kMth1; rw [insAt_of hs hx]; exact ⟨hn, H⟩
theorem e_kMth2 : kMth2 fn v Q E vs h = wp (fn (v :: vs) h) Q E := rfl
def kNew2 (l : Nat) (Q : LV → LH → Prop) : LV → LH → Prop := fun v h => match v with
  | .non => Q (.ref l) h
  | _ => False
def kNew1 (c : Str) (g : List LV → M LV) (Q : LV → LH → Prop) (E : XP) : List LV → LH → Prop := fun vs h => wp (g (.ref h.length :: vs) (h ++ [.ins c []])) (kNew2 h.length Q) E
theorem e_new : wp (newM cl fn aa s h) Q E = wp (aa s h) (kNew1 cl fn Q E) E := by
  unfold newM; rw [wp_bnd]; congr 1; funext vs h1; unfold kNew1
  cases fn (.ref h1.length :: vs) (h1 ++ [.ins cl []]) with
  | ok v h2 => cases v <;> rfl
  | exc c fs h2 => rfl
  | bad => rfl
theorem w_kNew1 (hs : Hs h L) (H : ∀ l h', Hs h' ((l, .ins cl []) :: L) → wp (fn (.ref l :: vs) h') (kNew2 l Q) E) : kNew1 cl fn Q E vs h := H _ _ hs.new
theorem e_kNew2 : kNew2 l Q .non h = Q (.ref l) h := rfl
/-! ### one of two -/
theorem w_selT {ck : LH → LV → Bool} {f g : LE} (ho : wp (o s h) (fun v h1 => ck h1 v = true) noX) (H : wp (f s h) Q E) : wp (selO ck o f g s h) Q E := by
  obtain ⟨v, h1, e, z⟩ := wp_ok ho
  unfold selO; rw [e]; dsimp only; rw [if_pos z]; exact H
theorem w_selF {ck : LH → LV → Bool} {f g : LE} (ho : wp (o s h) (fun v h1 => ck h1 v = false) noX) (H : wp (g s h) Q E) : wp (selO ck o f g s h) Q E := by
  obtain ⟨v, h1, e, z⟩ := wp_ok ho
  unfold selO; rw [e]; dsimp only; rw [if_neg (by rw [z]; decide)]; exact H
theorem isC_t (hs : Hs h L) (hx : (l, LO.ins cl fs) ∈ L) : isC cl h (.ref l) = true := by unfold isC; rw [insAt_of hs hx]; rfl
theorem isC_f {cl' : Str} (hs : Hs h L) (hx : (l, LO.ins cl' fs) ∈ L) (ne : cl' ≠ cl) : isC cl h (.ref l) = false := by unfold isC insAt; simp only [hs.get hx, if_neg ne]; rfl
theorem isC_fl (hs : Hs h L) (hx : (l, LO.lst xs) ∈ L) : isC cl h (.ref l) = false := by unfold isC insAt; simp only [hs.get hx]; rfl
theorem isC_fd (hs : Hs h L) (hx : (l, LO.dct tk kvs) ∈ L) : isC cl h (.ref l) = false := by unfold isC insAt; simp only [hs.get hx]; rfl
theorem isLst_fd (hs : Hs h L) (hx : (l, LO.dct tk kvs) ∈ L) : isLst h (.ref l) = false := by unfold isLst; simp only [hs.get hx]
theorem isLst_fi (hs : Hs h L) (hx : (l, LO.ins cl fs) ∈ L) : isLst h (.ref l) = false := by unfold isLst; simp only [hs.get hx]
theorem isLst_t (hs : Hs h L) (hx : (l, LO.lst xs) ∈ L) : isLst h (.ref l) = true := v_isLst (hs.get hx)
theorem dAt_of (hs : Hs h L) (hx : (l, LO.dct tk kvs) ∈ L) : dAt h (.ref l) = some (l, tk, kvs) := by unfold dAt; simp only [hs.get hx]
theorem dRd_c (hs : Hs h L) (hx : (l, LO.dct tk kvs) ∈ L) : dRd h (.ref l) = some (l, tk, kvs) := by unfold dRd; simp only [hs.get hx]
theorem dRd_f (hs : Hs h L) (hx : (l, LO.fdc tk kvs) ∈ L) : dRd h (.ref l) = some (l, tk, kvs) := by unfold dRd; simp only [hs.get hx]
theorem isDct_t (hs : Hs h L) (hx : (l, LO.dct tk kvs) ∈ L) : isDct h (.ref l) = true := by unfold isDct; rw [dRd_c hs hx]; rfl
theorem isDct_tf (hs : Hs h L) (hx : (l, LO.fdc tk kvs) ∈ L) : isDct h (.ref l) = true := by unfold isDct; rw [dRd_f hs hx]; rfl
theorem isDct_fi (hs : Hs h L) (hx : (l, LO.ins cl fs) ∈ L) : isDct h (.ref l) = false := by unfold isDct dRd; simp only [hs.get hx]; rfl
theorem isDct_fl (hs : Hs h L) (hx : (l, LO.lst xs) ∈ L) : isDct h (.ref l) = false := by unfold isDct dRd; simp only [hs.get hx]; rfl
/-! ### dicts -/
def kGt2 (d x : LV) (Q : LV → LH → Prop) (E : XP) : LV → LH → Prop := fun k h => wp (dgtB d k x h) Q E
def kGt1 (k : LE) (s : LSt) (Q : LV → LH → Prop) (E : XP) : LV → LH → Prop := fun d h => isDct h d = true ∧ wp (k s h) (kGt2 d .non Q E) E
theorem e_get : wp (getM a b s h) Q E = wp (a s h) (kGt1 b s Q E) E := by
  unfold getM; rw [wp_bnd]; congr 1; funext d h1; unfold kGt1
  by_cases z : isDct h1 d = true
  · rw [if_pos z, wp_bnd]; simp only [z, true_and]; rfl
  · rw [if_neg z]; exact (eq_false (fun q => z q.1)).symm
theorem w_kGt1 (hs : Hs h L) (hx : (l, LO.dct tk kvs) ∈ L) (H : wp (b s h) (kGt2 (.ref l) .non Q E) E) : kGt1 b s Q E (.ref l) h := ⟨isDct_t hs hx, H⟩
theorem w_kGt2 {k x : LV} (hs : Hs h L) (hx : (l, LO.dct tk kvs) ∈ L) (hk : okKey tk k = true) (H : Q ((getK kvs k).getD x) h) : kGt2 (.ref l) x Q E k h := by
  unfold kGt2 dgtB; rw [dRd_c hs hx]; dsimp only; rw [if_pos hk]; exact H
def kPp2 (d : LV) (Q : LV → LH → Prop) (E : XP) : LV → LH → Prop := fun k h => wp (dpopB d k h) Q E
def kPp1 (k : LE) (s : LSt) (Q : LV → LH → Prop) (E : XP) : LV → LH → Prop := fun d h => isDct h d = true ∧ wp (k s h) (kPp2 d Q E) E
theorem e_dpop : wp (dpopM a b s h) Q E = wp (a s h) (kPp1 b s Q E) E := by
  unfold dpopM; rw [wp_bnd]; congr 1; funext d h1; unfold kPp1
  by_cases z : isDct h1 d = true
  · rw [if_pos z, wp_bnd]; simp only [z, true_and]; rfl
  · rw [if_neg z]; exact (eq_false (fun q => z q.1)).symm
theorem w_kPp1 (hs : Hs h L) (hx : (l, LO.dct tk kvs) ∈ L) (H : wp (b s h) (kPp2 (.ref l) Q E) E) : kPp1 b s Q E (.ref l) h := ⟨isDct_t hs hx, H⟩
theorem w_kPp2 {k : LV} (hs : Hs h L) (u : Up L l (.dct false kvs) (.dct false (delL kvs k)) L') (hk : (keyOf k).isSome = true) (hg : getK kvs k = some v) (H : ∀ h', Hs h' L' → Q v h') : kPp2 (.ref l) Q E k h := by
  unfold kPp2 dpopB; rw [dAt_of hs u.mem]; dsimp only; rw [if_pos hk, hg]; exact H _ (hs.set u)
theorem e_srk : wp (srkM a s h) Q E = wp (a s h) (kUn srkB Q E) E := by unfold srkM; rw [wp_bnd]; rfl
theorem e_lit : wp (litM a s h) Q E = wp (a s h) (kUn litB Q E) E := by unfold litM; rw [wp_bnd]; rfl
theorem w_srk {ns : List Int} (hs : Hs h L) (hx : (l, LO.dct false kvs) ∈ L) (hi : intsOf (kvs.map (·.1)) = some ns) (hl : ns.length < 64) (H : ∀ q h', Hs h' ((q, .lst ((srtI ns).map LV.int)) :: L) → Q (.ref q) h') : wp (srkB (.ref l) h) Q E := by
  unfold srkB; rw [dAt_of hs hx]; dsimp only; rw [hi]; dsimp only; rw [if_pos (by omega)]; exact H _ _ hs.new
theorem w_srkA {ns : List Int} (hs : Hs h L) (hx : (l, LO.dct false kvs) ∈ L) (hi : intsOf (kvs.map (·.1)) = some ns) (hl : ns.length < 1000000) (H : ∀ q h', Hs h' ((q, .lst ((srtI ns).map LV.int)) :: L) → Q (.ref q) h') : wp (srkB (.ref l) h) Q E := by
  unfold srkB; rw [dAt_of hs hx]; dsimp only; rw [hi]; dsimp only; rw [if_pos hl]; exact H _ _ hs.new
theorem w_lit (hs : Hs h L) (hx : (l, LO.dct false kvs) ∈ L) (H : ∀ q h', Hs h' ((q, .lst (kvs.map fun p => .tup [p.1, p.2])) :: L) → Q (.ref q) h') : wp (litB (.ref l) h) Q E := by
  unfold litB; rw [dAt_of hs hx]; exact H _ _ hs.new
/-! ### lists -/
theorem w_srt {ns : List Int} (hs : Hs h L) (hx : (l, LO.lst xs) ∈ L) (hi : intsOf xs = some ns) (H : ∀ q h', Hs h' ((q, .lst ((srtI ns).map LV.int)) :: L) → Q (.ref q) h') : wp (srtL [.ref l] h) Q E := by
  refine wp_eq ?_ (H _ _ hs.new)
  simp only [srtL, hs.get hx, hi]
theorem w_rem {ns : List Int} {k : Int} (hs : Hs h L) (u : Up L l (.lst xs) (.lst ((ns.eraseIdx (ns.findIdx (· == k))).map LV.int)) L') (hi : intsOf xs = some ns) (hk : k ∈ ns) (H : ∀ h', Hs h' L' → Q .non h') : wp (remL (.ref l) [.int k] h) Q E := by
  refine wp_eq (v := .non) (h := h.set l (.lst ((ns.eraseIdx (ns.findIdx (· == k))).map LV.int))) ?_ (H _ (hs.set u))
  simp only [remL, hs.get u.mem, hi, if_pos hk]
theorem e_zipT : wp (zipL [.tup xs, .tup ys] h) QI E = QI ⟨zipP xs ys, []⟩ h := rfl
theorem w_zip {k : Nat} (hs : Hs h L) (hx : (l, LO.lst xs) ∈ L) (hy : (k, LO.lst ys) ∈ L) (H : QI ⟨zipP xs ys, [(l, xs), (k, ys)]⟩ h) : wp (zipL [.ref l, .ref k] h) QI E := by
  refine wp_eq ?_ H
  simp only [zipL, hs.get hx, hs.get hy]
theorem w_kpC {o : List (Nat × List LV)} (hs : Hs h L) (hx : ∀ p ∈ o, (p.1, LO.lst p.2) ∈ L) : keepB o h = true := by
  induction o with
  | nil => rfl
  | cons p o ih => exact keepB_cons (hs.get (hx p List.mem_cons_self)) (ih fun q hq => hx q (List.mem_cons_of_mem _ hq))
/-! ### comprehensions -/
def kCp3 (D : Nat) (ac : List LV) (I : List LV → List (Nat × LO) → Prop) : LV → LH → Prop := fun y h => ∃ L, Hs h ((D, .lst ac) :: L) ∧ ac.length < sizeLine ∧ I (ac ++ [y]) L
def kCp2 (e : LE) (s1 : LSt) (D : Nat) (ac : List LV) (I : List LV → List (Nat × LO) → Prop) : Bool → LH → Prop := fun b h => if b = true then wp (e s1 h) (kCp3 D ac I) noX else ∃ L, Hs h ((D, .lst ac) :: L) ∧ I ac L
def kCp1 (tt : LT) (e : LE) (D : Nat) (ac : List LV) (I : List LV → List (Nat × LO) → Prop) : LSt → LH → Prop := fun s1 h => wp (tt s1 h) (kCp2 e s1 D ac I) noX
theorem e_kCp1 {tt : LT} {e : LE} {D : Nat} {ac : List LV} {I : List LV → List (Nat × LO) → Prop} : kCp1 tt e D ac I s h = wp (tt s h) (kCp2 e s D ac I) noX := rfl
theorem e_kCp2T {e : LE} {D : Nat} {ac : List LV} {I : List LV → List (Nat × LO) → Prop} : kCp2 e s D ac I true h = wp (e s h) (kCp3 D ac I) noX := rfl
theorem w_kCp2F {e : LE} {D : Nat} {ac : List LV} {I : List LV → List (Nat × LO) → Prop} (hs : Hs h ((D, .lst ac) :: L)) (H : I ac L) : kCp2 e s D ac I false h := ⟨L, hs, H⟩
theorem w_kCp2 {e : LE} {D : Nat} {ac : List LV} {I : List LV → List (Nat × LO) → Prop} {k : Bool} (t : k = true → kCp2 e s D ac I true h) (f : k = false → kCp2 e s D ac I false h) : kCp2 e s D ac I k h := by cases k; exact f rfl; exact t rfl
theorem w_kCp3 {D : Nat} {ac : List LV} {I : List LV → List (Nat × LO) → Prop} (hs : Hs h ((D, .lst ac) :: L)) (hc : ac.length < sizeLine) (H : I (ac ++ [v]) L) : kCp3 D ac I v h := ⟨L, hs, hc, H⟩
theorem e_yesT : wp (yesT s h) QB E = QB true h := rfl
theorem w_kComp {gg : LG} {tt : LT} {e : LE} {its : List LV} {o : List (Nat × List LV)} (I : List LV → List LV → List (Nat × LO) → Prop) (hs : Hs h L) (h0 : I its [] L) (kp : ∀ r ac L', I r ac L' → ∀ p ∈ o, (p.1, LO.lst p.2) ∈ L')
    (step : ∀ x r ac L' D h', I (x :: r) ac L' → Hs h' ((D, .lst ac) :: L') → wp (gg x s h') (kCp1 tt e D ac (I r)) noX)
    (fin : ∀ ac L' D h', I [] ac L' → Hs h' ((D, .lst ac) :: L') → Q (.ref D) h') : kComp gg tt e s Q E ⟨its, o⟩ h := by
  unfold kComp
  refine w_compI (fun r ac h' => ∃ L', Hs h' ((h.length, .lst ac) :: L') ∧ I r ac L') (acc := []) ⟨L, hs.new, h0⟩ ?_ ?_ ?_
  · rintro r ac h' ⟨L', hs', i⟩
    exact w_kpC hs'.tail (kp r ac L' i)
  · rintro x r ac h' ⟨L', hs', i⟩
    refine wp_mono (step x r ac L' _ h' i hs') (fun s1 h1 z => ?_) (fun _ _ _ z => z)
    refine wp_mono (show wp (tt s1 h1) _ noX from z) (fun b h2 z2 => ?_) (fun _ _ _ z => z)
    unfold kCp2 at z2
    split
    · rename_i hb
      rw [if_pos hb] at z2
      refine wp_mono z2 (fun y h3 z3 => ?_) (fun _ _ _ z => z)
      obtain ⟨L2, hs2, hc, i2⟩ := z3
      exact ⟨hs2.get List.mem_cons_self, hc, L2, hs2.set .here, i2⟩
    · rename_i hb
      rw [if_neg hb] at z2
      exact z2
  · rintro ac h' ⟨L', hs', i⟩
    exact fin ac L' _ h' i hs'
theorem w_kComp0 {gg : LG} {tt : LT} {e : LE} {o : List (Nat × List LV)} (hs : Hs h L) (kp : keepB o (h ++ [.lst []]) = true) (H : ∀ D h', Hs h' ((D, .lst []) :: L) → Q (.ref D) h') : kComp gg tt e s Q E ⟨[], o⟩ h := by
  unfold kComp compI
  rw [if_pos kp]
  exact H _ _ hs.new
theorem srtI_nil : srtI [] = [] := by simp [srtI]
/-! comprehensions over few things -/
def kCu3 (o : List (Nat × List LV)) (gg : LG) (tt : LT) (e : LE) (D : Nat) (s : LSt) (r : List LV) (Q : LV → LH → Prop) (E : XP) : LV → LH → Prop := fun y h => ∃ ac, h[D]? = some (.lst ac) ∧ ac.length < sizeLine ∧ wp (compI o gg tt e D s r (h.set D (.lst (ac ++ [y])))) Q E
def kCu2 (o : List (Nat × List LV)) (gg : LG) (tt : LT) (e : LE) (D : Nat) (s s1 : LSt) (r : List LV) (Q : LV → LH → Prop) (E : XP) : Bool → LH → Prop := kBr (wpAt (e s1) (kCu3 o gg tt e D s r Q E) noX) (wpAt (compI o gg tt e D s r) Q E)
def kCu1 (o : List (Nat × List LV)) (gg : LG) (tt : LT) (e : LE) (D : Nat) (s : LSt) (r : List LV) (Q : LV → LH → Prop) (E : XP) : LSt → LH → Prop := fun s1 h => wp (tt s1 h) (kCu2 o gg tt e D s s1 r Q E) noX
theorem e_kCu1 {o : List (Nat × List LV)} {gg : LG} {tt : LT} {e : LE} {D : Nat} {r : List LV} : kCu1 o gg tt e D s r Q E s1 h = wp (tt s1 h) (kCu2 o gg tt e D s s1 r Q E) noX := rfl
theorem e_kCu2 {o : List (Nat × List LV)} {gg : LG} {tt : LT} {e : LE} {D : Nat} {r : List LV} {k : Bool} : kCu2 o gg tt e D s s1 r Q E k h = kBr (wpAt (e s1) (kCu3 o gg tt e D s r Q E) noX) (wpAt (compI o gg tt e D s r) Q E) k h := rfl
theorem w_kCu3 {o : List (Nat × List LV)} {gg : LG} {tt : LT} {e : LE} {D : Nat} {r ac : List LV} (hs : Hs h L) (u : Up L D (.lst ac) (.lst (ac ++ [v])) L') (hc : ac.length < sizeLine) (H : ∀ h', Hs h' L' → wp (compI o gg tt e D s r h') Q E) : kCu3 o gg tt e D s r Q E v h := ⟨ac, hs.get u.mem, hc, H _ (hs.set u)⟩
theorem w_cpN {o : List (Nat × List LV)} {gg : LG} {tt : LT} {e : LE} {D : Nat} (kp : keepB o h = true) (H : Q (.ref D) h) : wp (compI o gg tt e D s [] h) Q E := by unfold compI; rw [if_pos kp]; exact H
theorem w_cpC {o : List (Nat × List LV)} {gg : LG} {tt : LT} {e : LE} {D : Nat} {z : LV} {r : List LV} (kp : keepB o h = true) (H : wp (gg z s h) (kCu1 o gg tt e D s r Q E) noX) : wp (compI o gg tt e D s (z :: r) h) Q E := by
  obtain ⟨s1, h1, e1, H⟩ := wp_ok H
  obtain ⟨b, h2, e2, H⟩ := wp_ok (show wp (tt s1 h1) _ noX from H)
  unfold compI; rw [if_pos kp, e1]; dsimp only; rw [e2]; dsimp only
  cases b with
  | true =>
    obtain ⟨y, h3, e3, ac, g1, g2, g3⟩ := wp_ok (show wp (e s1 h2) _ noX from H)
    rw [if_pos rfl, e3]; dsimp only; rw [g1]; dsimp only; rw [if_pos g2]; exact g3
  | false => exact H
theorem w_kCompU {gg : LG} {tt : LT} {e : LE} {its : List LV} {o : List (Nat × List LV)} (hs : Hs h L) (H : ∀ D h', Hs h' ((D, .lst []) :: L) → wp (compI o gg tt e D s its h') Q E) : kComp gg tt e s Q E ⟨its, o⟩ h := H _ _ hs.new
/-! ### while, try, join -/
theorem w_while {t : LT} {b : LS} {n : Nat} (I : Nat → LSt → LH → Prop) {m : Nat} (h0 : I m s h) (hm : m < n)
    (step : ∀ m s h, I m s h → wp (t s h) (kBr (wsAt b s (fun s2 h2 => ∃ m', m' < m ∧ I m' s2 h2) ⟨R, N, fun s2 h2 => ∃ m', m' < m ∧ I m' s2 h2, X⟩) (N s)) (xS X s)) : ws (whileS t b n s h) N ⟨R, Bk, Ct, X⟩ := by
  induction n generalizing m s h with
  | zero => omega
  | succ n ih =>
    have H := step m s h h0
    unfold whileS
    cases et : t s h with
    | bad => rw [et] at H; exact H
    | exc c fs h1 => rw [et] at H; exact H
    | ok k h1 =>
      rw [et] at H
      replace H : kBr _ _ k h1 := H
      cases k with
      | false => exact H
      | true =>
        replace H : ws (b s h1) _ _ := H
        dsimp only
        rw [if_pos rfl]
        cases eb : b s h1 with
        | nx s2 h2 => rw [eb] at H; obtain ⟨m', hl, i⟩ := H; exact ih i (by omega)
        | ct s2 h2 => rw [eb] at H; obtain ⟨m', hl, i⟩ := H; exact ih i (by omega)
        | bk s2 h2 => rw [eb] at H; exact H
        | rt v h2 => rw [eb] at H; exact H
        | exc c fs s2 h2 => rw [eb] at H; exact H
        | bad => rw [eb] at H; exact H
def xNo : Str → List (Str × LV) → LSt → LH → Prop := fun _ _ _ _ => False
def kTryO (tab : List (Str × Str × Bool)) (n : Str) (ms : LS) (N : LSt → LH → Prop) (R : LV → LH → Prop) (Bk Ct : LSt → LH → Prop) (X : Str → List (Str × LV) → LSt → LH → Prop) : Str → List (Str × LV) → LSt → LH → Prop := fun c fs s1 h1 => (subE tab c n = some true ∧ ws (ms s1 h1) N ⟨R, Bk, Ct, xNo⟩) ∨ (subE tab c n = some false ∧ X c fs s1 h1)
theorem e_tryO {tab : List (Str × Str × Bool)} {n : Str} {ms : LS} (H : ws (B s h) N ⟨R, Bk, Ct, kTryO tab n ms N R Bk Ct X⟩) : ws (tryOS tab n B ms s h) N ⟨R, Bk, Ct, X⟩ := by
  unfold tryOS
  cases e : B s h with
  | exc c fs s1 h1 =>
    rw [e] at H
    dsimp only
    rcases H with ⟨z, H⟩ | ⟨z, H⟩
    · rw [z]
      dsimp only
      cases em : ms s1 h1 with
      | exc c2 fs2 s2 h2 => rw [em] at H; exact H.elim
      | nx s2 h2 => rw [em] at H; exact H
      | rt v h2 => rw [em] at H; exact H
      | bk s2 h2 => rw [em] at H; exact H
      | ct s2 h2 => rw [em] at H; exact H
      | bad => rw [em] at H; exact H
    · rw [z]; exact H
  | nx s1 h1 => rw [e] at H; exact H
  | rt v h1 => rw [e] at H; exact H
  | bk s1 h1 => rw [e] at H; exact H
  | ct s1 h1 => rw [e] at H; exact H
  | bad => rw [e] at H; exact H
theorem w_tryOT {tab : List (Str × Str × Bool)} {n cx : Str} {ms : LS} {fs : List (Str × LV)} (z : subE tab cx n = some true) (H : ws (ms s h) N ⟨R, Bk, Ct, xNo⟩) : kTryO tab n ms N R Bk Ct X cx fs s h := .inl ⟨z, H⟩
theorem w_tryOF {tab : List (Str × Str × Bool)} {n cx : Str} {ms : LS} {fs : List (Str × LV)} (z : subE tab cx n = some false) (H : X cx fs s h) : kTryO tab n ms N R Bk Ct X cx fs s h := .inr ⟨z, H⟩
theorem w_join {zs : List Str} (hs : Hs h L) (hx : (l, LO.lst xs) ∈ L) (hy : strsOf xs = some zs) (hz : (zs.map (·.length)).sum + zs.length * x.length ≤ 16777216) (H : Q (.str (Txt.join x zs)) h) : wp (joinL (.str x) [.ref l] h) Q E := by
  refine wp_eq ?_ H
  simp only [joinL, hs.get hx, hy, if_pos hz]
theorem w_mull {k : Int} (hs : Hs h L) (hx : (l, LO.lst xs) ∈ L) (hk : -(2 ^ 63) ≤ k ∧ k < 2 ^ 63 ∧ xs.length * k.toNat ≤ sizeLine) (H : ∀ q h', Hs h' ((q, .lst (List.replicate k.toNat xs).flatten) :: L) → Q (.ref q) h') : wp (mulL (.ref l) (.int k) h) Q E := by
  refine wp_eq ?_ (H _ _ hs.new)
  simp only [mulL, hs.get hx, if_pos hk]
end
theorem any_ints {rd : List Int} {i : Int} : ((rd.map LV.int).any fun y => eqF y (.int i)) = decide (i ∈ rd) := by
  induction rd with
  | nil => rfl
  | cons r rd ih =>
    rw [List.map_cons, List.any_cons, ih, Bool.eq_iff_iff]
    simp only [eqF, Bool.or_eq_true, beq_iff_eq, decide_eq_true_eq, List.mem_cons]
    rw [eq_comm]
theorem w_inI {h : LH} {L : List (Nat × LO)} {l : Nat} {ns : List Int} {i : Int} {Q : LV → LH → Prop} {E : XP} (hs : Hs h L) (hx : (l, LO.lst (ns.map LV.int)) ∈ L) (H : Q (.bl (decide (i ∈ ns))) h) : wp (inA (.int i) (.ref l) h) Q E := by
  refine w_inL hs hx rfl (by simp [flatL]) ?_
  rw [any_ints]; exact H
theorem w_ninI {h : LH} {L : List (Nat × LO)} {l : Nat} {ns : List Int} {i : Int} {Q : LV → LH → Prop} {E : XP} (hs : Hs h L) (hx : (l, LO.lst (ns.map LV.int)) ∈ L) (H : Q (.bl (!decide (i ∈ ns))) h) : wp (notInA (.int i) (.ref l) h) Q E := by
  cases ns with
  | nil =>
    refine wp_eq ?_ H
    unfold notInA selL isD2
    simp only [nd_l (hs.get hx), Option.isSome_none, Bool.false_eq_true, if_false, notInL, inBy, hs.get hx]
    rfl
  | cons n ns =>
    refine w_ninL hs hx rfl rfl (by simp [flatL]) ?_
    rw [any_ints]; exact H
theorem er_filter {rd : List Int} {k : Int} (nd : rd.Nodup) : rd.eraseIdx (rd.findIdx (· == k)) = rd.filter fun i => !(i == k) := by
  induction rd with
  | nil => rfl
  | cons r rd ih =>
    rw [List.nodup_cons] at nd
    rw [List.findIdx_cons, List.filter_cons]
    by_cases e : r = k
    · subst e
      simp only [beq_self_eq_true, cond_true, List.eraseIdx_zero, List.tail_cons, Bool.not_true, Bool.false_eq_true, if_false]
      symm
      rw [List.filter_eq_self]
      intro a ha
      simp only [Bool.not_eq_true', beq_eq_false_iff_ne]
      exact fun z => nd.1 (z ▸ ha)
    · have : (r == k) = false := by simpa using e
      simp only [this, cond_false, Bool.not_false, if_true, List.eraseIdx_cons_succ, ih nd.2]
theorem w_remF {h : LH} {L L' : List (Nat × LO)} {l : Nat} {ns : List Int} {k : Int} {Q : LV → LH → Prop} {E : XP} (hs : Hs h L) (u : Up L l (.lst (ns.map LV.int)) (.lst ((ns.filter fun j => !(j == k)).map LV.int)) L') (nd : ns.Nodup) (hk : k ∈ ns) (H : ∀ h', Hs h' L' → Q .non h') : wp (remL (.ref l) [.int k] h) Q E :=
  w_rem hs (by rw [er_filter nd]; exact u) (intsOf_map ns) hk H
/-- L' is picked out of L, in any order -/
inductive Prm : List (Nat × LO) → List (Nat × LO) → Prop
  | nil {L} : Prm L []
  | cons {L l o R L'} (p : Pk L l o R) (r : Prm R L') : Prm L ((l, o) :: L')
theorem Prm.sub {L L' : List (Nat × LO)} (p : Prm L L') : ∃ R, L.Perm (L' ++ R) := by
  induction p with
  | nil => exact ⟨_, .refl _⟩
  | cons p r ih =>
    obtain ⟨R, q⟩ := ih
    exact ⟨R, p.perm.trans (.cons _ q)⟩
theorem Hs.prm {h : LH} {L L' : List (Nat × LO)} (hs : Hs h L) (p : Prm L L') : Hs h L' := by
  obtain ⟨R, q⟩ := p.sub
  exact (hs.perm q).sub (List.sublist_append_left _ _)
theorem getK_nil {k : LV} : getK [] k = none := rfl
theorem getK_cons {a v k : LV} {m : List (LV × LV)} : getK ((a, v) :: m) k = if eqLV a k = true then some v else getK m k := by
  unfold getK
  rw [List.find?_cons]
  cases e : eqLV a k
  · simp
  · simp
/-! ### dicts by whole numbers -/
def dI (m : List (Int × LV)) : List (LV × LV) := m.map fun p => (.int p.1, p.2)
theorem dI_get (m : List (Int × LV)) (k : Int) : getK (dI m) (.int k) = m.lookup k := by
  induction m with
  | nil => rfl
  | cons p m ih =>
    obtain ⟨a, v⟩ := p
    unfold getK at ih ⊢
    simp only [dI, List.map_cons, List.find?_cons, eqLV, List.lookup_cons] at ih ⊢
    by_cases e : a = k
    · subst e; simp
    · have e1 : (a == k) = false := by simpa using e
      have e2 : (k == a) = false := by simpa using Ne.symm e
      rw [e1, e2]; exact ih
theorem dI_keys (m : List (Int × LV)) : intsOf ((dI m).map (·.1)) = some (m.map (·.1)) := by
  have : (dI m).map (·.1) = (m.map (·.1)).map LV.int := by simp [dI]
  rw [this, intsOf_map]
theorem dI_len (m : List (Int × LV)) : (dI m).length = m.length := by simp [dI]
theorem dI_has (m : List (Int × LV)) (k : Int) : hasK (dI m) (.int k) = (m.map (·.1)).contains k := by
  induction m with
  | nil => rfl
  | cons p m ih =>
    obtain ⟨a, v⟩ := p
    unfold hasK at ih ⊢
    simp only [dI, List.map_cons, List.any_cons, eqLV, List.contains_cons] at ih ⊢
    rw [ih]
    congr 1
    rw [Bool.eq_iff_iff, beq_iff_eq, beq_iff_eq]; exact eq_comm
theorem dI_new (m : List (Int × LV)) (k : Int) (v : LV) (n : k ∉ m.map (·.1)) : putL (dI m) (.int k) v = dI (m ++ [(k, v)]) := by
  unfold putL
  rw [dI_has, if_neg (by simpa using n)]
  simp [dI]
def putI (m : List (Int × LV)) (k : Int) (v : LV) : List (Int × LV) := if k ∈ m.map (·.1) then m.map (fun p => if p.1 = k then (p.1, v) else p) else m ++ [(k, v)]
theorem dI_put (m : List (Int × LV)) (k : Int) (v : LV) : putL (dI m) (.int k) v = dI (putI m k v) := by
  unfold putI
  split
  · rename_i h
    unfold putL
    rw [dI_has, if_pos (by simpa using h)]
    simp only [dI, List.map_map]
    apply List.map_congr_left
    intro p hp
    simp only [Function.comp, eqLV]
    by_cases e : p.1 = k
    · simp [e]
    · simp [e]
  · rename_i h
    exact dI_new m k v h
theorem dI_del (m : List (Int × LV)) (k : Int) : delL (dI m) (.int k) = dI (m.filter fun p => !(p.1 == k)) := by
  unfold delL dI
  rw [List.filter_map]
  rfl
/-! ### [::-1], repr, a dict that is locked -/
section
variable {s s1 : LSt} {h : LH} {L L' : List (Nat × LO)} {l : Nat} {v : LV} {xs : List LV} {a : LE} {tk : Bool} {kvs : List (LV × LV)} {k : LV} {f : LV → M Items} {Q : LV → LH → Prop} {QI : Items → LH → Prop} {E : XP} {N : LSt → LH → Prop} {R : LV → LH → Prop} {Bk Ct : LSt → LH → Prop} {X : Str → List (Str × LV) → LSt → LH → Prop}
theorem e_rvs : wp (rvsM a s h) Q E = wp (a s h) (kUn rvsL Q E) E := by unfold rvsM; rw [wp_bnd]; rfl
theorem e_rvst : wp (rvsL (.tup xs) h) Q E = Q (.tup xs.reverse) h := rfl
theorem w_rvsl (hs : Hs h L) (hx : (l, LO.lst xs) ∈ L) (H : ∀ q h', Hs h' ((q, .lst xs.reverse) :: L) → Q (.ref q) h') : wp (rvsL (.ref l) h) Q E := by
  refine wp_eq ?_ (H _ _ hs.new)
  simp only [rvsL, hs.get hx]
theorem w_sum {ns : List Int} (hs : Hs h L) (hx : (l, LO.lst (ns.map LV.int)) ∈ L) (H : Q (.int ns.sum) h) : wp (sumL [.ref l] h) Q E := by
  refine wp_eq ?_ H
  simp only [sumL, hs.get hx, intsOf_map]
theorem e_itmD : wp (itmD f a s h) QI E = wp (a s h) (kUn f QI E) E := by unfold itmD; rw [wp_bnd]; rfl
theorem fdAt_of (hs : Hs h L) (hx : (l, LO.fdc tk kvs) ∈ L) : fdAt h (.ref l) = some (tk, kvs) := by unfold fdAt; simp only [hs.get hx]
theorem w_fdK (hs : Hs h L) (hx : (l, LO.fdc tk kvs) ∈ L) (H : QI ⟨kvs.map (·.1), []⟩ h) : wp (fdK (.ref l) h) QI E := by unfold fdK; rw [fdAt_of hs hx]; exact H
theorem w_fdKM (hs : Hs h L) (hx : (l, LO.fdc false kvs) ∈ L) (H : QI ⟨kvs.map (·.1), []⟩ h) : wp (fdKM (.ref l) h) QI E := by unfold fdKM; rw [fdAt_of hs hx]; exact H
theorem w_fdV (hs : Hs h L) (hx : (l, LO.fdc false kvs) ∈ L) (H : QI ⟨kvs.map (·.2), []⟩ h) : wp (fdV (.ref l) h) QI E := by unfold fdV; rw [fdAt_of hs hx]; exact H
theorem w_fdI (hs : Hs h L) (hx : (l, LO.fdc false kvs) ∈ L) (H : QI ⟨kvs.map fun p => .tup [p.1, p.2], []⟩ h) : wp (fdI (.ref l) h) QI E := by unfold fdI; rw [fdAt_of hs hx]; exact H
theorem w_getf (hs : Hs h L) (hx : (l, LO.fdc tk kvs) ∈ L) (hk : okKey tk k = true) (hg : getK kvs k = some v) (H : Q v h) : wp (getA (.ref l) k h) Q E := by
  refine wp_eq ?_ H
  unfold getA selL isD1
  simp only [dRd, hs.get hx, Option.isSome_some, if_true, dgtL, hk, hg]
theorem w_inf (hs : Hs h L) (hx : (l, LO.fdc tk kvs) ∈ L) (hk : okKey tk k = true) (H : Q (.bl (getK kvs k).isSome) h) : wp (inA k (.ref l) h) Q E := by
  refine wp_eq ?_ H
  unfold inA selL isD2
  simp only [dRd, hs.get hx, Option.isSome_some, if_true, dinBy, hk, id]
theorem w_ninf (hs : Hs h L) (hx : (l, LO.fdc tk kvs) ∈ L) (hk : okKey tk k = true) (H : Q (.bl (!(getK kvs k).isSome)) h) : wp (notInA k (.ref l) h) Q E := by
  refine wp_eq ?_ H
  unfold notInA selL isD2
  simp only [dRd, hs.get hx, Option.isSome_some, if_true, dinBy, hk]
def kUnl (l : Nat) (N : LSt → LH → Prop) : LSt → LH → Prop := fun s h => ∃ h2, unl l h = some h2 ∧ N s h2
def kUnlV (l : Nat) (Q : LV → LH → Prop) : LV → LH → Prop := fun v h => ∃ h2, unl l h = some h2 ∧ Q v h2
theorem w_kUnl (hs : Hs h L) (u : Up L l (.fdc tk kvs) (.dct tk kvs) L') (H : ∀ h', Hs h' L' → N s h') : kUnl l N s h := ⟨_, by unfold unl; simp only [hs.get u.mem], H _ (hs.set u)⟩
theorem w_kUnlV (hs : Hs h L) (u : Up L l (.fdc tk kvs) (.dct tk kvs) L') (H : ∀ h', Hs h' L' → Q v h') : kUnlV l Q v h := ⟨_, by unfold unl; simp only [hs.get u.mem], H _ (hs.set u)⟩
def isRf (l : Nat) : LV → LH → Prop := fun v _ => v = .ref l
theorem e_isRf : isRf l (.ref l) h = True := by simp [isRf]
theorem w_lkS {d : LE} {m : LS} (hs : Hs h L) (hd : wp (d s h) (isRf l) noX) (u : Up L l (.dct tk kvs) (.fdc tk kvs) L') (H : ∀ h', Hs h' L' → ws (m s h') (kUnl l N) ⟨kUnlV l R, kNo, kNo, fun _ _ _ _ => False⟩) : ws (lkS d m s h) N ⟨R, Bk, Ct, X⟩ := by
  obtain ⟨v, h0, e0, rfl⟩ := wp_ok hd
  unfold lkS
  rw [e0]
  dsimp only
  rw [hs.get u.mem]
  dsimp only
  have H := H _ (hs.set u)
  cases em : m s (h.set l (.fdc tk kvs)) <;> rw [em] at H
  · obtain ⟨h2, e2, q⟩ := H
    dsimp only; rw [e2]; exact q
  · obtain ⟨h2, e2, q⟩ := H
    dsimp only; rw [e2]; exact q
  · exact H.elim
  · exact H.elim
  · exact H.elim
  · exact H.elim
theorem w_lkE {d m : LE} (hs : Hs h L) (hd : wp (d s h) (isRf l) noX) (u : Up L l (.dct tk kvs) (.fdc tk kvs) L') (H : ∀ h', Hs h' L' → wp (m s h') (kUnlV l Q) noX) : wp (lkE d m s h) Q E := by
  obtain ⟨v, h0, e0, rfl⟩ := wp_ok hd
  unfold lkE
  rw [e0]
  dsimp only
  rw [hs.get u.mem]
  dsimp only
  obtain ⟨v, h1, e1, h2, e2, q⟩ := wp_ok (H _ (hs.set u))
  rw [e1]; dsimp only; rw [e2]; exact q
end
theorem w_slrB {h : LH} {L : List (Nat × LO)} {Q : LV → LH → Prop} {E : XP} {j : Int} {ns : List Int} (hs : Hs h L) (j0 : 0 ≤ j) (H : ∀ cs : List Int, cs.length ≤ ns.length ∧ (cs.length : Int) ≤ j → ∀ q h', Hs h' ((q, .lst (cs.map LV.int)) :: L) → Q (.ref q) h') : wp (sliceL none (some j) (.scr (ns.map LV.int)) h) Q E := by
  have e : cutL (ns.map LV.int) none (some j) = (ns.take (min j.toNat ns.length)).map LV.int := by
    unfold cutL
    have e1 : HT.sIx (ns.map LV.int).length 0 none = 0 := rfl
    have e2 : HT.sIx (ns.map LV.int).length (ns.map LV.int).length (some j) = min j.toNat ns.length := by
      show (if j < 0 then _ else _) = _
      rw [if_neg (by omega), List.length_map]
    rw [e1, e2, List.drop_zero, Nat.sub_zero, List.map_take]
  refine wp_eq v_slr ?_
  rw [e]
  refine H _ ⟨?_, ?_⟩ _ _ hs.new
  · rw [List.length_take]; omega
  · rw [List.length_take]; omega
/-! data that is shown -/
mutual
inductive Rq (L : List (Nat × LO)) : Nat → LV → PyData → Prop
  | non {n} : Rq L n .non .none
  | bl {n} (b : Bool) : Rq L n (.bl b) (.bool b)
  | int {n} (i : Int) (hi : i.natAbs.log2 < 1920) : Rq L n (.int i) (.int i)
  | str {n} (x : Str) (ha : asc x = true) (hl : x.length ≤ 100) : Rq L n (.str x) (.str x)
  | tup {n xs ds} (hl : xs.length ≤ 12) (r : Rqs L n xs ds) : Rq L (n + 1) (.tup xs) (.tuple ds)
  | lst {n l xs ds} (m : (l, LO.lst xs) ∈ L) (hl : xs.length ≤ 12) (r : Rqs L n xs ds) : Rq L (n + 1) (.ref l) (.list ds)
  | dct {n l} (m : (l, LO.dct false []) ∈ L) : Rq L (n + 1) (.ref l) (.dict [])
inductive Rqs (L : List (Nat × LO)) : Nat → List LV → List PyData → Prop
  | nil {n} : Rqs L n [] []
  | cons {n v d xs ds} (a : Rq L n v d) (b : Rqs L n xs ds) : Rqs L n (v :: xs) (d :: ds)
end
def bq : Nat → Nat
  | 0 => 1921
  | n + 1 => 12 * (bq n + 2) + 3
theorem bq_mono (n : Nat) : 1921 ≤ bq n := by
  induction n with
  | zero => exact Nat.le_refl _
  | succ n ih => show 1921 ≤ 12 * (bq n + 2) + 3; omega
mutual
theorem Rq.ok {L : List (Nat × LO)} {h : LH} (hs : Hs h L) : ∀ (d : PyData) (n k : Nat) (v : LV), n ≤ k → Rq L n v d → toR k h v = some d ∧ okR1 d = true ∧ sb d ≤ bq n
  | .none, n, k, _, _, r => by cases r; exact ⟨by cases k <;> rfl, by simp [okR1], by have := bq_mono n; simp only [sb]; omega⟩
  | .bool b, n, k, _, _, r => by cases r; exact ⟨by cases k <;> rfl, by simp [okR1], by have := bq_mono n; simp only [sb]; omega⟩
  | .int i, n, k, _, _, r => by cases r with | int _ hi => exact ⟨by cases k <;> rfl, by simp [okR1, hi], by have := bq_mono n; simp only [sb]; omega⟩
  | .str x, n, k, _, _, r => by cases r with | str _ ha hl => exact ⟨by cases k <;> rfl, by simp [okR1, ha], by have := bq_mono n; simp only [sb]; omega⟩
  | .list ds, n, k, v, hk, r => by
    cases r with
    | lst m hl q =>
      rename_i n' l xs
      cases k with
      | zero => omega
      | succ k =>
        obtain ⟨a, b, c⟩ := Rqs.ok hs ds n' k xs (by omega) q
        refine ⟨by simp only [toR, hs.get m, a]; rfl, by simp [okR1, b], ?_⟩
        have : xs.length * (bq n' + 2) ≤ 12 * (bq n' + 2) := Nat.mul_le_mul_right _ hl
        simp only [sb, bq]; omega
  | .tuple ds, n, k, v, hk, r => by
    cases r with
    | tup hl q =>
      rename_i n' xs
      cases k with
      | zero => omega
      | succ k =>
        obtain ⟨a, b, c⟩ := Rqs.ok hs ds n' k xs (by omega) q
        refine ⟨by simp only [toR, a]; rfl, by simp [okR1, b], ?_⟩
        have : xs.length * (bq n' + 2) ≤ 12 * (bq n' + 2) := Nat.mul_le_mul_right _ hl
        simp only [sb, bq]; omega
  | .dict kvs, n, k, v, hk, r => by
    cases r with
    | dct m =>
      cases k with
      | zero => omega
      | succ k => exact ⟨by simp only [toR, hs.get m], by simp [okR1], by simp only [sb, bq]; omega⟩
theorem Rqs.ok {L : List (Nat × LO)} {h : LH} (hs : Hs h L) : ∀ (ds : List PyData) (n k : Nat) (xs : List LV), n ≤ k → Rqs L n xs ds → optAll (toR k h) xs = some ds ∧ okRs ds = true ∧ sbs ds ≤ xs.length * (bq n + 2)
  | [], n, k, _, _, r => by cases r; exact ⟨rfl, by simp [okRs], by simp [sbs]⟩
  | d :: ds, n, k, _, hk, r => by
    cases r with
    | cons a b =>
      obtain ⟨a1, a2, a3⟩ := Rq.ok hs d n k _ hk a
      obtain ⟨b1, b2, b3⟩ := Rqs.ok hs ds n k _ hk b
      refine ⟨by simp only [optAll, a1, b1], by simp [okRs, a2, b2], ?_⟩
      simp only [sbs, List.length_cons, Nat.succ_mul]
      omega
end
theorem w_repr {h : LH} {L : List (Nat × LO)} {v : LV} {d : PyData} {Q : LV → LH → Prop} {E : XP} (hs : Hs h L) (r : Rq L 3 v d) (H : Q (.str d.shown) h) : wp (reprA [v] h) Q E := by
  obtain ⟨a, b, c⟩ := Rq.ok hs d 3 16 v (by decide) r
  refine wp_eq ?_ H
  have : bq 3 ≤ 16777216 := by decide
  simp only [reprA, a, if_pos (And.intro b (Nat.le_trans c this))]
mutual
theorem Rq.subD {L L' : List (Nat × LO)} (k : ∀ p ∈ L, p ∈ L') : ∀ (d : PyData) (n : Nat) (v : LV), Rq L n v d → Rq L' n v d
  | .none, _, _, r => by cases r; exact .non
  | .bool _, _, _, r => by cases r; exact .bl _
  | .int _, _, _, r => by cases r with | int _ h => exact .int _ h
  | .str _, _, _, r => by cases r with | str _ a b => exact .str _ a b
  | .list ds, _, _, r => by cases r with | lst m hl q => exact .lst (k _ m) hl (Rqs.subD k ds _ _ q)
  | .tuple ds, _, _, r => by cases r with | tup hl q => exact .tup hl (Rqs.subD k ds _ _ q)
  | .dict _, _, _, r => by cases r with | dct m => exact .dct (k _ m)
theorem Rqs.subD {L L' : List (Nat × LO)} (k : ∀ p ∈ L, p ∈ L') : ∀ (ds : List PyData) (n : Nat) (xs : List LV), Rqs L n xs ds → Rqs L' n xs ds
  | [], _, _, r => by cases r; exact .nil
  | d :: ds, _, _, r => by cases r with | cons a b => exact .cons (Rq.subD k d _ _ a) (Rqs.subD k ds _ _ b)
end
theorem Rq.sub {L L' : List (Nat × LO)} {n : Nat} {v : LV} {d : PyData} (r : Rq L n v d) (k : ∀ p ∈ L, p ∈ L') : Rq L' n v d := Rq.subD k d n v r
mutual
theorem Rq.upD {L : List (Nat × LO)} : ∀ (d : PyData) (n : Nat) (v : LV), Rq L n v d → Rq L (n + 1) v d
  | .none, _, _, r => by cases r; exact .non
  | .bool _, _, _, r => by cases r; exact .bl _
  | .int _, _, _, r => by cases r with | int _ h => exact .int _ h
  | .str _, _, _, r => by cases r with | str _ a b => exact .str _ a b
  | .list ds, _, _, r => by cases r with | lst m hl q => exact .lst m hl (Rqs.upD ds _ _ q)
  | .tuple ds, _, _, r => by cases r with | tup hl q => exact .tup hl (Rqs.upD ds _ _ q)
  | .dict _, _, _, r => by cases r with | dct m => exact .dct m
theorem Rqs.upD {L : List (Nat × LO)} : ∀ (ds : List PyData) (n : Nat) (xs : List LV), Rqs L n xs ds → Rqs L (n + 1) xs ds
  | [], _, _, r => by cases r; exact .nil
  | d :: ds, _, _, r => by cases r with | cons a b => exact .cons (Rq.upD d _ _ a) (Rqs.upD ds _ _ b)
end
theorem Rq.up {L : List (Nat × LO)} {n : Nat} {v : LV} {d : PyData} (r : Rq L n v d) : Rq L (n + 1) v d := Rq.upD d n v r
theorem Rqs.get {L : List (Nat × LO)} : ∀ {xs : List LV} {ds : List PyData} {n i : Nat} {v : LV}, Rqs L n xs ds → xs[i]? = some v → Rq L n v (ds.getD i .none)
  | _, _, _, _, _, .nil, e => by simp at e
  | _, _, _, 0, _, .cons a b, e => by simp at e; subst e; exact a
  | _, _, _, i + 1, _, .cons a b, e => by simpa using Rqs.get b (by simpa using e)
theorem w_getlR {h : LH} {L : List (Nat × LO)} {l n : Nat} {xs : List LV} {ds : List PyData} {i : Int} {Q : LV → LH → Prop} {E : XP} (hs : Hs h L) (hx : (l, LO.lst xs) ∈ L) (r : Rqs L n xs ds) (h0 : 0 ≤ i) (h1 : i < xs.length) (H : ∀ v, Rq L n v (ds.getD i.toNat .none) → v ∈ xs → Q v h) : wp (getA (.ref l) (.int i) h) Q E := by
  refine w_getlM hs hx h0 h1 fun v e m => H v (r.get ?_) m
  rw [atI_in h0 h1] at e
  rw [← e]
  exact List.getElem?_eq_getElem _
/-- the drawn numbers -/
def nmC (cell salt : Int) (ss : List Int) : List Int := nmG (if -1 - cell > cell then -1 - cell else cell) salt 0 (if -1 - cell > cell then -1 - cell else cell) ss
theorem nmC_in {cell salt : Int} {ss : List Int} (hz : ∀ z ∈ ss, 0 < z ∧ z.natAbs.log2 < 9000) (hn : ss.length ≤ 1000) : InR (nmC cell salt ss) ss := (nums_det (h := [.lst (ss.map LV.int)]) (l := 0) rfl hz hn).1
theorem w_numsD {cell salt : Int} {l : Nat} {xs : List LV} {ss : List Int} {h : LH} {L : List (Nat × LO)} {Q : LV → LH → Prop} {E : XP} (hs : Hs h L) (hx : (l, LO.lst xs) ∈ L) (hi : IsI xs ss) (hz : ∀ z ∈ ss, 0 < z ∧ z.natAbs.log2 < 9000) (hn : ss.length ≤ 1000)
    (H : ∀ q h', Hs h' ((q, .lst ((nmC cell salt ss).map LV.int)) :: L) → Q (.ref q) h') : wp (nmF [.int cell, .int salt, .ref l] h) Q E := by
  obtain ⟨_, e⟩ := nums_det (cell := cell) (salt := salt) (by rw [← hi.eq]; exact hs.get hx) hz hn
  exact wp_eq e (H _ _ hs.new)
theorem inr_c {ds ns : List Int} {n : Int} (r : InR ds (n :: ns)) : ∃ d e, ds = d :: e ∧ 0 ≤ d ∧ d < n ∧ InR e ns := by
  cases ds with
  | nil => exact r.elim
  | cons d e => exact ⟨d, e, rfl, r.1, r.2.1, r.2.2⟩
theorem inr_n {ds : List Int} (r : InR ds []) : ds = [] := by
  cases ds with
  | nil => rfl
  | cons d e => exact r.elim
theorem w_inTD {h : LH} {v : LV} {ys : List LV} {d : PyData} {ds : List PyData} {Q : LV → LH → Prop} {E : XP} (hf : flatL v = false) (hv : toD 15 h v = some d) (hy : optAll (toD 15 h) ys = some ds) (H : Q (.bl (ds.any fun z => PyData.eqv z d)) h) : wp (inA v (.tup ys) h) Q E := by
  refine wp_eq ?_ H
  unfold inA selL isD2
  have e : inL v (.tup ys) h = .ok (.bl (ds.any fun z => PyData.eqv z d)) h := by
    cases v <;> simp [flatL] at hf <;> simp only [inL, inBy, flatL, Bool.false_eq_true, false_and, if_false, hv, hy, id]
  simp only [dRd, Option.isSome_none, Bool.false_eq_true, if_false, e]
theorem w_ninTD {h : LH} {v : LV} {ys : List LV} {d : PyData} {ds : List PyData} {Q : LV → LH → Prop} {E : XP} (hf : flatL v = false) (hv : toD 15 h v = some d) (hy : optAll (toD 15 h) ys = some ds) (H : Q (.bl (!ds.any fun z => PyData.eqv z d)) h) : wp (notInA v (.tup ys) h) Q E := by
  refine wp_eq ?_ H
  unfold notInA selL isD2
  have e : notInL v (.tup ys) h = .ok (.bl (!ds.any fun z => PyData.eqv z d)) h := by
    cases v <;> simp [flatL] at hf <;> simp only [notInL, inBy, flatL, Bool.false_eq_true, false_and, if_false, hv, hy]
  simp only [dRd, Option.isSome_none, Bool.false_eq_true, if_false, e]
theorem e_isBL {h : LH} {a b : Bool} {Q : LV → LH → Prop} {E : XP} : wp (isBL (.bl a) (.bl b) h) Q E = Q (.bl (decide (a = b))) h := rfl
theorem e_notBL {h : LH} {a b : Bool} {Q : LV → LH → Prop} {E : XP} : wp (notBL (.bl a) (.bl b) h) Q E = Q (.bl (!decide (a = b))) h := rfl
/-- a comprehension over a list of things, some picked, each turned -/
theorem w_kCompF {α : Type} {h : LH} {L : List (Nat × LO)} {s : LSt} {Q : LV → LH → Prop} {E : XP} {gg : LG} {tt : LT} {e : LE} {its : List LV} {o : List (Nat × List LV)} (P : List α) (V : α → LV) (f : α → Bool) (g : α → LV) (ei : its = P.map V) (hs : Hs h L) (hl : P.length ≤ 1000000) (ho : ∀ p ∈ o, (p.1, LO.lst p.2) ∈ L)
    (step : ∀ p ∈ P, ∀ D ac h' (I : List LV → List (Nat × LO) → Prop), Hs h' ((D, .lst ac) :: L) → ac.length < sizeLine → (f p = true → I (ac ++ [g p]) L) → (f p = false → I ac L) → wp (gg (V p) s h') (kCp1 tt e D ac I) noX)
    (fin : ∀ D h', Hs h' ((D, .lst ((P.filter f).map g)) :: L) → Q (.ref D) h') : kComp gg tt e s Q E ⟨its, o⟩ h := by
  subst ei
  refine w_kComp (fun r ac L' => L' = L ∧ ∃ a b : List α, r = b.map V ∧ ac = (a.filter f).map g ∧ a ++ b = P) hs ⟨rfl, [], P, rfl, rfl, rfl⟩ ?_ ?_ ?_
  · rintro r ac L' ⟨rfl, _⟩
    exact ho
  · rintro x r ac L' D h' ⟨rfl, a, b, e1, rfl, e2⟩ hs'
    cases b with
    | nil => cases e1
    | cons p b =>
      obtain ⟨rfl, rfl⟩ := List.cons.inj e1
      have hp : p ∈ P := e2 ▸ List.mem_append_right a List.mem_cons_self
      have hq : ((a.filter f).map g).length < sizeLine := by
        rw [List.length_map, sizeLine_eq]
        have h1 := List.length_filter_le f a
        have h2 := congrArg List.length e2
        rw [List.length_append, List.length_cons] at h2
        omega
      have e3 : (a ++ [p]) ++ b = P := by rw [List.append_assoc]; exact e2
      refine step p hp D _ h' _ hs' hq (fun t => ⟨rfl, a ++ [p], b, rfl, ?_, e3⟩) (fun t => ⟨rfl, a ++ [p], b, rfl, ?_, e3⟩)
      · rw [List.filter_append, List.map_append, List.filter_cons, if_pos t]; rfl
      · rw [List.filter_append, List.map_append, List.filter_cons, if_neg (by rw [t]; decide)]; simp
  · rintro ac L' D h' ⟨rfl, a, b, e1, rfl, e2⟩ hs'
    have : b = [] := by cases b with | nil => rfl | cons p b => cases e1
    subst this
    rw [List.append_nil] at e2
    subst e2
    exact fin _ _ hs'
theorem cut_mem {xs : List LV} {a b : Option Int} {v : LV} (m : v ∈ cutL xs a b) : v ∈ xs := by
  unfold cutL at m
  exact List.mem_of_mem_drop (List.mem_of_mem_take m)
end Fw

set_option maxRecDepth 100000
set_option maxHeartbeats 4000000
namespace Fw
open PySem PySem.Spec PyProof.Rows L2
/-- a loop over a range -/
theorem w_forRn {s : LSt} {h : LH} {N : LSt → LH → Prop} {R : LV → LH → Prop} {Bk C : LSt → LH → Prop} {X : Str → List (Str × LV) → LSt → LH → Prop} {gg : LG} {B : LS} (I : Int → LSt → LH → Prop) {lo : Int} {n : Nat} (h0 : I lo s h)
    (step : ∀ j s h, lo ≤ j → j < lo + n → I j s h → wp (gg (.int j) s h) (kSeq B (I (j + 1)) ⟨R, N, I (j + 1), X⟩) noX) (fin : ∀ s h, I (lo + n) s h → N s h) : ws (forI [] gg B (rngI lo n) s h) N ⟨R, Bk, C, X⟩ := by
  refine w_forI (fun r s h => ∃ (j : Int) (k : Nat), lo ≤ j ∧ j + k = lo + n ∧ r = rngI j k ∧ I j s h) ⟨lo, n, by omega, rfl, rfl, h0⟩ (fun _ _ _ _ => rfl) (fun x r s h ⟨j, k, a, b, e, i⟩ => ?_) (fun s h ⟨j, k, a, b, e, i⟩ => ?_)
  · cases k with
    | zero => cases e
    | succ k =>
      obtain ⟨rfl, rfl⟩ := List.cons.inj e
      have H := step j s h a (by omega) i
      have g : ∀ s h, I (j + 1) s h → ∃ (j' : Int) (k' : Nat), lo ≤ j' ∧ j' + k' = lo + n ∧ rngI (j + 1) k = rngI j' k' ∧ I j' s h := fun s h z => ⟨j + 1, k, by omega, by omega, rfl, z⟩
      exact wp_mono H (fun s1 h1 z => ws_mono z g (fun _ _ z => z) (fun _ _ z => z) g (fun _ _ _ _ z => z)) (fun _ _ _ z => z)
  · cases k with
    | zero =>
      have : j = lo + n := by omega
      rw [← this] at fin
      exact fin s h i
    | succ k => cases e
/-! pickings with an open tail -/
theorem Prm.same : ∀ (L : List (Nat × LO)), Prm L L
  | [] => .nil
  | (_, _) :: L => .cons .here (Prm.same L)
theorem Prm.drop {L L' : List (Nat × LO)} (p : Prm L L') : ∀ {x : Nat × LO}, Prm (x :: L) L' := by
  induction p with
  | nil => exact .nil
  | cons p r ih => exact .cons (.there p) ih
theorem w_rng1m {h : LH} {j : Int} {n : Nat} {E : XP} {QI : Items → LH → Prop} (e : j.toNat = n) (hc : -(2 ^ 62) ≤ j ∧ j < 2 ^ 62) (H : QI ⟨rngI 0 n, []⟩ h) : wp (rng1 [.int j] h) QI E := by
  subst e; exact w_rng1 hc H
theorem w_lenM {h : LH} {L : List (Nat × LO)} {l : Nat} {xs : List LV} {m : Int} {Q : LV → LH → Prop} {E : XP} (hs : Hs h L) (hx : (l, LO.lst xs) ∈ L) (e : (xs.length : Int) = m) (H : Q (.int m) h) : wp (lenL [.ref l] h) Q E := by
  subst e; exact w_lenl hs hx H
end Fw

set_option maxRecDepth 100000
set_option maxHeartbeats 4000000
/-! ### exceptions with fields, texts: what must be so ahead -/
namespace Fw
open PySem PySem.Spec PyProof.Rows L2
section
variable {h : LH} {L : List (Nat × LO)} {Q : LV → LH → Prop} {E : XP} {s : LSt} {c n f x y : Str} {fs : List (Str × LV)} {fl : List Str} {aa : LA} {v : LV} {o m : LE} {N : LSt → LH → Prop} {R : LV → LH → Prop} {Bk Ct : LSt → LH → Prop} {X : Str → List (Str × LV) → LSt → LH → Prop} {kn : List Str} {kf : List (Str × List Str)} {tn tab : List (Str × Str × Bool)} {b : Bool} {i : Int}
def kRF (c : Str) (fl : List Str) (s : LSt) (X : Str → List (Str × LV) → LSt → LH → Prop) : List LV → LH → Prop := fun vs h => (fldsX fl vs).isEmpty = false ∧ X c (fldsX fl vs) s h
theorem e_raiseF : ws (raiseFS c fl aa s h) N ⟨R, Bk, Ct, X⟩ = wp (aa s h) (kRF c fl s X) (xS X s) := by
  unfold raiseFS
  cases aa s h with
  | ok vs h' =>
    show ws (if (fldsX fl vs).isEmpty = true then _ else _) _ _ = kRF c fl s X vs h'
    unfold kRF
    cases e : (fldsX fl vs).isEmpty with
    | true => rw [if_pos rfl]; exact (eq_false (fun z => absurd z.1 (by decide))).symm
    | false => rw [if_neg (by decide)]; simp only [true_and]; rfl
  | exc c' fs h' => rfl
  | bad => rfl
theorem e_kRF1 {v : LV} : kRF c [f] s X [v] h = X c [(f, v)] s h := by unfold kRF fldsX; simp
theorem e_kRF2 {v u : LV} {g : Str} : kRF c [f, g] s X [v, u] h = X c [(g, u), (f, v)] s h := by unfold kRF fldsX; simp
theorem w_isF {p : Str × LV} (hc : (kf.lookup c).isSome = true) (e : subE tab c n = some b) (H : Q (.bl b) h) : wp (isiF kn kf tn tab [.exc c (p :: fs), .fn n] h) Q E := by
  refine wp_eq ?_ H
  simp only [isiF, hc, if_true, e]
theorem w_isFV {p : Str × LV} (hc : (kf.lookup c).isSome = true) (H : Q (.bl true) h) : wp (isiF kn kf tn tab [.exc c (p :: fs), .ty .verr] h) Q E := by
  refine wp_eq ?_ H
  simp only [isiF, hc, if_true]
theorem e_isFn {u : LV} : wp (isiF kn kf tn tab [.non, u] h) Q E = wp (isiA kn tn [.non, u] h) Q E := rfl
theorem e_isF0 {u : LV} : wp (isiF kn kf tn tab [.exc c [], u] h) Q E = wp (isiA kn tn [.exc c [], u] h) Q E := rfl
theorem e_xf : wp (xfM kf f o s h) Q E = wp (o s h) (kUn (xfB kf f) Q E) E := by unfold xfM; rw [wp_bnd]; rfl
theorem w_xf (hk : kf.lookup c = some fl) (hf : fl.contains f = true) (hl : fs.lookup f = some v) (H : Q v h) : wp (xfB kf f (.exc c fs) h) Q E := by
  refine wp_eq ?_ H
  simp only [xfB, hk, hf, if_true, hl]
theorem w_spl (hb : (y.length == 0) = false) (hz : x.length + 2 ≤ sizeLine) (hs : Hs h L) (H : ∀ q h', Hs h' ((q, .lst ((Txt.split x y).map LV.str)) :: L) → Q (.ref q) h') : wp (splL (.str x) [.str y] h) Q E := by
  refine wp_eq ?_ (H _ _ hs.new)
  simp only [splL, hb, hz, and_self, if_true]
theorem w_fnd (H : Q (.int (Txt.find x y)) h) : wp (findL (.str x) [.str y] h) Q E := H
theorem w_lstr (hz : x.length ≤ sizeLine) (H : Q (.str (Txt.lstripChars x y)) h) : wp (lstrL (.str x) [.str y] h) Q E := by
  refine wp_eq ?_ H
  simp only [lstrL, if_pos hz]
theorem w_sw (H : Q (.bl (Txt.startswith x y)) h) : wp (swL (.str x) [.str y] h) Q E := H
theorem w_fmts (hz : x.length ≤ sizeLine) (H : Q (.str x) h) : wp (fmtL (.str x) h) Q E := wp_eq (if_pos hz) H
theorem w_fmti (hz : i.natAbs.log2 < 1920) (H : Q (.str (toString i)) h) : wp (fmtL (.int i) h) Q E := wp_eq (if_pos hz) H
theorem w_mulT (h1 : -(2 ^ 63) ≤ i ∧ i < 2 ^ 63 ∧ x.length * i.toNat ≤ sizeLine) (H : Q (.str (Txt.mul x i)) h) : wp (mulS (.str x) (.int i) h) Q E := wp_eq (if_pos h1) H
theorem e_mulI {j : Int} : wp (mulS (.int i) (.int j) h) Q E = wp (mulL (.int i) (.int j) h) Q E := rfl
theorem e_mulR {l : Nat} {j : Int} : wp (mulS (.ref l) (.int j) h) Q E = wp (mulL (.ref l) (.int j) h) Q E := rfl
/-- the texts of an f-string, one behind the other -/
def fsA (ms : List LE) (acc : Str) : LE := fun s => bnd (jsM ms acc s) fun out => ret (.str out)
def kJ (ms : List LE) (acc : Str) (s : LSt) (Q : LV → LH → Prop) (E : XP) : LV → LH → Prop := fun v h => match v with
  | .str y => (acc ++ y).length ≤ sizeLine ∧ wp (fsA ms (acc ++ y) s h) Q E
  | _ => False
theorem e_fst {ms : List LE} : wp (fstM ms s h) Q E = wp (fsA ms Str.empty s h) Q E := rfl
theorem e_fsA0 {acc : Str} : wp (fsA [] acc s h) Q E = Q (.str acc) h := rfl
theorem w_fsA {m : LE} {ms : List LE} {acc : Str} (H : wp (m s h) (kJ ms acc s Q E) E) : wp (fsA (m :: ms) acc s h) Q E := by
  have e : fsA (m :: ms) acc s h = bnd (m s) (fun v => match v with
      | .str y => fun h => if (acc ++ y).length ≤ sizeLine then fsA ms (acc ++ y) s h else .bad
      | _ => bad) h := by
    unfold fsA jsM bnd
    cases m s h with
    | ok v h1 =>
      cases v <;> try rfl
      rename_i y
      dsimp only
      by_cases k : (acc ++ y).length ≤ sizeLine
      · simp only [if_pos k]; cases ms <;> rfl
      · simp only [if_neg k]
    | exc c fs h1 => rfl
    | bad => rfl
  rw [e, wp_bnd]
  refine wp_mono H (fun v h1 z => ?_) (fun _ _ _ z => z)
  unfold kJ at z
  split at z
  · rename_i y
    show wp (if (acc ++ y).length ≤ sizeLine then _ else _) Q E
    rw [if_pos z.1]
    exact z.2
  · exact z.elim
theorem w_kJ {ms : List LE} {acc : Str} (hz : (acc ++ y).length ≤ sizeLine) (H : wp (fsA ms (acc ++ y) s h) Q E) : kJ ms acc s Q E (.str y) h := ⟨hz, H⟩
end
theorem w_isiU {h : LH} {v : LV} {ts : List LV} {us : List Ty} {k : Kd} {Q : LV → LH → Prop} {E : XP} (hk : kdL h v = some k) (ht : tysOf ts = some us) (H : Q (.bl (us.any (isK k))) h) : wp (isiU [v, .tup ts] h) Q E := by
  refine wp_eq ?_ H
  simp only [isiU, hk, ht]
end Fw

set_option maxRecDepth 100000
set_option maxHeartbeats 4000000
namespace Fw
open PySem PySem.Spec PyProof.Rows L2 PySem.W
/-! ### dicts by tuples, with whole numbers in them -/
abbrev TM := List (List Key × Int)
def dT (M : TM) : List (LV × LV) := M.map fun p => (tupK p.1, .int p.2)
def hasM (M : TM) (k : List Key) : Bool := M.any fun p => decide (p.1 = k)
def lkM (M : TM) (k : List Key) : Option Int := (M.find? fun p => decide (p.1 = k)).map (·.2)
def putM (M : TM) (k : List Key) (v : Int) : TM := if hasM M k = true then M.map (fun p => if p.1 = k then (p.1, v) else p) else M ++ [(k, v)]
def delM (M : TM) (k : List Key) : TM := M.filter fun p => decide (p.1 ≠ k)
theorem hasM_iff {M : TM} {k : List Key} : hasM M k = true ↔ k ∈ M.map (·.1) := by
  unfold hasM
  rw [List.any_eq_true]
  constructor
  · rintro ⟨p, hp, e⟩; exact List.mem_map.mpr ⟨p, hp, of_decide_eq_true e⟩
  · intro h
    obtain ⟨p, hp, e⟩ := List.mem_map.mp h
    exact ⟨p, hp, decide_eq_true e⟩
theorem dT_len (M : TM) : (dT M).length = M.length := by simp [dT]
theorem dT_get (M : TM) (k : List Key) : getK (dT M) (tupK k) = (lkM M k).map LV.int := by
  unfold lkM
  induction M with
  | nil => rfl
  | cons p M ih =>
    obtain ⟨a, v⟩ := p
    rw [show dT ((a, v) :: M) = (tupK a, .int v) :: dT M from rfl, getK_cons, tupK_eq, List.find?_cons, ih]
    by_cases e : a = k <;> simp [e]
theorem dT_has (M : TM) (k : List Key) : hasK (dT M) (tupK k) = hasM M k := by
  unfold hasM
  induction M with
  | nil => rfl
  | cons p M ih =>
    obtain ⟨a, v⟩ := p
    unfold hasK at ih ⊢
    rw [show dT ((a, v) :: M) = (tupK a, .int v) :: dT M from rfl, List.any_cons, List.any_cons, ih, tupK_eq]
theorem dT_put (M : TM) (k : List Key) (v : Int) : putL (dT M) (tupK k) (.int v) = dT (putM M k v) := by
  unfold putL putM
  rw [dT_has]
  split
  · simp only [dT, List.map_map]
    apply List.map_congr_left
    intro p hp
    simp only [Function.comp, tupK_eq]
    by_cases e : p.1 = k <;> simp [e]
  · simp [dT]
theorem dT_del (M : TM) (k : List Key) : delL (dT M) (tupK k) = dT (delM M k) := by
  unfold delL delM
  induction M with
  | nil => rfl
  | cons p M ih =>
    obtain ⟨a, v⟩ := p
    rw [show dT ((a, v) :: M) = (tupK a, .int v) :: dT M from rfl, List.filter_cons, List.filter_cons, tupK_eq, ih]
    by_cases e : a = k <;> simp [e, dT]
theorem putM_keys (M : TM) (k : List Key) (v : Int) : (putM M k v).map (·.1) = if hasM M k = true then M.map (·.1) else M.map (·.1) ++ [k] := by
  unfold putM
  split
  · rw [List.map_map]
    apply List.map_congr_left
    intro p hp
    simp only [Function.comp]
    split <;> rfl
  · simp
theorem putM_nd {M : TM} {k : List Key} {v : Int} (n : (M.map (·.1)).Nodup) : ((putM M k v).map (·.1)).Nodup := by
  rw [putM_keys]
  split
  · exact n
  · rename_i h
    rw [List.nodup_append]
    refine ⟨n, by simp, fun a ha b hb e => ?_⟩
    simp only [List.mem_singleton] at hb
    exact h (hasM_iff.mpr (by rw [← hb, ← e]; exact ha))
theorem putM_mem {M : TM} {k : List Key} {v : Int} {p : List Key × Int} (h : p ∈ putM M k v) : p.1 = k ∧ p.2 = v ∨ p ∈ M := by
  unfold putM at h
  split at h
  · obtain ⟨q, hq, e⟩ := List.mem_map.mp h
    split at e
    · rename_i e2; subst e; exact .inl ⟨e2, rfl⟩
    · subst e; exact .inr hq
  · rcases List.mem_append.mp h with h | h
    · exact .inr h
    · obtain rfl := List.mem_singleton.mp h; exact .inl ⟨rfl, rfl⟩
theorem putM_len (M : TM) (k : List Key) (v : Int) : (putM M k v).length ≤ M.length + 1 := by
  unfold putM; split <;> simp
theorem delM_nd {M : TM} {k : List Key} (n : (M.map (·.1)).Nodup) : ((delM M k).map (·.1)).Nodup := (List.filter_sublist.map _).nodup n
theorem delM_len (M : TM) (k : List Key) : (delM M k).length ≤ M.length := List.length_filter_le _ _
theorem lkM_mem {M : TM} {k : List Key} {v : Int} (h : lkM M k = some v) : (k, v) ∈ M := by
  unfold lkM at h
  obtain ⟨p, e, rfl⟩ := Option.map_eq_some_iff.mp h
  have h1 := List.mem_of_find?_eq_some e
  have h2 := List.find?_some e
  rw [← of_decide_eq_true h2]; exact h1
theorem lkM_of {M : TM} {k : List Key} {v : Int} (n : (M.map (·.1)).Nodup) (h : (k, v) ∈ M) : lkM M k = some v := by
  unfold lkM
  induction M with
  | nil => cases h
  | cons p M ih =>
    obtain ⟨a, w⟩ := p
    rw [List.map_cons, List.nodup_cons] at n
    rw [List.find?_cons]
    rcases List.mem_cons.mp h with e | h
    · cases e; simp
    · have e2 : ¬ a = k := by
        rintro rfl
        exact n.1 (List.mem_map_of_mem (f := (·.1)) h)
      simp only [e2, decide_false]
      exact ih n.2 h
theorem lkM_no {M : TM} {k : List Key} : lkM M k = none ↔ hasM M k = false := by
  unfold lkM hasM
  rw [Option.map_eq_none_iff, List.find?_eq_none, List.any_eq_false]
/-! ### sorted -/
def srtM (M : TM) : TM := insK (fun p q => dataLt (keyD p.1) (keyD q.1)) M
theorem srtM_perm (M : TM) : (srtM M).Perm M := insK_perm M
theorem kyD_dT (M : TM) : kyD (dT M) = some (M.map fun p => keyD p.1) := by
  induction M with
  | nil => rfl
  | cons p M ih =>
    unfold kyD at ih ⊢
    rw [show dT (p :: M) = (tupK p.1, .int p.2) :: dT M from rfl]
    simp only [optAll, keysOf_key, Option.map_some, ih, List.map_cons]
theorem map_paired {α β γ : Type} {R : β → γ → Prop} {f : α → β} {g : α → γ} : ∀ {l : List α}, (∀ a ∈ l, R (f a) (g a)) → Paired R (l.map f) (l.map g)
  | [], _ => .nil
  | a :: l, h => .cons (h a List.mem_cons_self) (map_paired fun b hb => h b (List.mem_cons_of_mem _ hb))
theorem paired_map {α β γ : Type} {f : α → γ} {g : β → γ} : ∀ {l : List α} {m : List β}, Paired (fun a b => f a = g b) l m → l.map f = m.map g
  | _, _, .nil => rfl
  | _, _, .cons r t => by rw [List.map_cons, List.map_cons, r, paired_map t]
/-- sorted by the data beside them, of things made of M -/
theorem insK_of {M : TM} (V : List Key × Int → LV) (D : List Key × Int → PyData) (hD : ∀ p ∈ M, ∀ q ∈ M, dataLt (D p) (D q) = dataLt (keyD p.1) (keyD q.1)) :
    (insK ltP ((M.map V).zip (M.map D))).map (·.1) = (srtM M).map V := by
  have z : (M.map V).zip (M.map D) = M.map fun p => (V p, D p) := by
    rw [List.zip_map', ]
  rw [z]
  have q : Paired (fun (x : LV × PyData) (p : List Key × Int) => x.1 = V p ∧ x.2 = D p ∧ p ∈ M) (insK ltP (M.map fun p => (V p, D p))) (srtM M) := by
    refine insK_rel (fun x y x' y' r1 r2 => ?_) ?_
    · show dataLt x.2 y.2 = _
      rw [r1.2.1, r2.2.1]
      exact hD _ r1.2.2 _ r2.2.2
    · have := map_paired (l := M) (R := fun (x : LV × PyData) (p : List Key × Int) => x.1 = V p ∧ x.2 = D p ∧ p ∈ M) (f := fun p => (V p, D p)) (g := fun p => p) fun a ha => ⟨rfl, rfl, ha⟩
      simpa using this
  exact paired_map (Paired.mapP q fun _ _ r => r.1)
def itD (p : List Key × Int) : PyData := .tuple [keyD p.1, .int p.2]
theorem zip_it : ∀ M : TM, List.zipWith (fun d i => PyData.tuple [d, .int i]) (M.map fun p => keyD p.1) (M.map (·.2)) = M.map itD
  | [] => rfl
  | p :: M => by simp only [List.map_cons, List.zipWith_cons_cons, zip_it M]; rfl
section
variable {h : LH} {L L' : List (Nat × LO)} {l : Nat} {M : TM} {k : List Key} {Q : LV → LH → Prop} {E : XP} {s : LSt} {a : LE} {aa : LA} {v : LV}
theorem w_srtD (hs : Hs h L) (hx : (l, LO.dct true (dT M)) ∈ L) (ok : sok (M.map fun p => keyD p.1) = true) (H : ∀ q h', Hs h' ((q, .lst ((srtM M).map fun p => tupK p.1)) :: L) → Q (.ref q) h') : wp (srtA [.ref l] h) Q E := by
  refine wp_eq ?_ (H _ _ hs.new)
  simp only [srtA, hs.get hx, kyD_dT, srtD, ok, if_true]
  have e : (dT M).map (·.1) = M.map fun p => tupK p.1 := by simp [dT]
  rw [e, insK_of (fun p => tupK p.1) (fun p => keyD p.1) fun p _ q _ => rfl]
theorem e_sri : wp (sriN a s h) Q E = wp (a s h) (kUn sriA Q E) E := by unfold sriN; rw [wp_bnd]; rfl
theorem e_srkN : wp (srkN a s h) Q E = wp (a s h) (kUn srkA Q E) E := by unfold srkN; rw [wp_bnd]; rfl
theorem w_srkT (hs : Hs h L) (hx : (l, LO.dct true (dT M)) ∈ L) (ok : sok (M.map fun p => keyD p.1) = true) (H : ∀ q h', Hs h' ((q, .lst ((srtM M).map fun p => tupK p.1)) :: L) → Q (.ref q) h') : wp (srkA (.ref l) h) Q E := by
  refine wp_eq ?_ (H _ _ hs.new)
  unfold srkA
  rw [dAt_of hs hx]
  simp only [kyD_dT, srtD, ok, if_true]
  have e : (dT M).map (·.1) = M.map fun p => tupK p.1 := by simp [dT]
  rw [e, insK_of (fun p => tupK p.1) (fun p => keyD p.1) fun p _ q _ => rfl]
theorem w_sriT (hs : Hs h L) (hx : (l, LO.dct true (dT M)) ∈ L) (ok : sok (M.map itD) = true) (hD : ∀ p ∈ M, ∀ q ∈ M, dataLt (itD p) (itD q) = dataLt (keyD p.1) (keyD q.1)) (H : ∀ q h', Hs h' ((q, .lst ((srtM M).map fun p => .tup [tupK p.1, .int p.2])) :: L) → Q (.ref q) h') : wp (sriA (.ref l) h) Q E := by
  refine wp_eq ?_ (H _ _ hs.new)
  unfold sriA
  rw [dAt_of hs hx]
  have e0 : intsOf ((dT M).map (·.2)) = some (M.map (·.2)) := by
    have : (dT M).map (·.2) = (M.map (·.2)).map LV.int := by simp [dT]
    rw [this, intsOf_map]
  have e1 : List.zipWith (fun d i => PyData.tuple [d, .int i]) (M.map fun p => keyD p.1) (M.map (·.2)) = M.map itD := by
    exact zip_it M
  have e2 : (dT M).map (fun p => LV.tup [p.1, p.2]) = M.map fun p => .tup [tupK p.1, .int p.2] := by simp [dT]
  simp only [kyD_dT, e0, e1, e2, srtD, ok, if_true]
  rw [insK_of (fun p => .tup [tupK p.1, .int p.2]) itD hD]
/-! ### pop -/
theorem isDT_t {kvs : List (LV × LV)} (hs : Hs h L) (hx : (l, LO.dct true kvs) ∈ L) : isDT h (.ref l) = true := by unfold isDT; rw [dAt_of hs hx]
theorem isDT_f {kvs : List (LV × LV)} (hs : Hs h L) (hx : (l, LO.dct false kvs) ∈ L) : isDT h (.ref l) = false := by unfold isDT; rw [dAt_of hs hx]
theorem w_kMetT {f : LV → List LV → Fw.M LV} {kvs : List (LV × LV)} (hs : Hs h L) (hx : (l, LO.dct true kvs) ∈ L) (H : wp (aa s h) (kMet2 f (.ref l) Q E) E) : kMet1 isDT f aa s Q E (.ref l) h := ⟨isDT_t hs hx, H⟩
theorem w_popT1 {i : Int} (hs : Hs h L) (u : Up L l (.dct true (dT M)) (.dct true (dT (delM M k))) L') (hg : lkM M k = some i) (H : ∀ h', Hs h' L' → Q (.int i) h') : wp (popT (.ref l) [tupK k] h) Q E := by
  refine wp_eq (v := .int i) (h := h.set l (.dct true (dT (delM M k)))) ?_ (H _ (hs.set u))
  have e : (keysOf (tupK k)).isSome = true := by rw [keysOf_key]; rfl
  simp only [popT, hs.get u.mem, e, if_true, dT_get, hg, Option.map_some, dT_del]
theorem w_popT2 {i : Int} (hs : Hs h L) (u : Up L l (.dct true (dT M)) (.dct true (dT (delM M k))) L') (hg : lkM M k = some i) (H : ∀ h', Hs h' L' → Q (.int i) h') : wp (popT (.ref l) [tupK k, v] h) Q E := by
  refine wp_eq (v := .int i) (h := h.set l (.dct true (dT (delM M k)))) ?_ (H _ (hs.set u))
  have e : (keysOf (tupK k)).isSome = true := by rw [keysOf_key]; rfl
  simp only [popT, hs.get u.mem, e, if_true, dT_get, hg, Option.map_some, dT_del]
theorem w_popT3 (hs : Hs h L) (m : (l, LO.dct true (dT M)) ∈ L) (hg : lkM M k = none) (H : Q v h) : wp (popT (.ref l) [tupK k, v] h) Q E := by
  refine wp_eq (v := v) (h := h) ?_ H
  have e : (keysOf (tupK k)).isSome = true := by rw [keysOf_key]; rfl
  simp only [popT, hs.get m, e, if_true, dT_get, hg, Option.map_none]
theorem okK (k : List Key) : okKey true (tupK k) = true := by unfold okKey; rw [if_pos rfl, keysOf_key]; rfl
/-- the sorts of keys that differ in their first sign, or are alike -/
theorem lt_items {p q : List Key × Int} (c : cok (keyD p.1) (keyD q.1) = true) (e : p.1 = q.1 → p = q) (ne : p.1 ≠ q.1 → PyData.eqv (keyD p.1) (keyD q.1) = false) : dataLt (itD p) (itD q) = dataLt (keyD p.1) (keyD q.1) := by
  by_cases z : p.1 = q.1
  · obtain rfl := e z
    have i1 : dataLt (itD p) (itD p) = false := lex_irrefl _
    have i2 : dataLt (keyD p.1) (keyD p.1) = false := lex_irrefl _
    rw [i1, i2]
  · have n := ne z
    show dataLt (.tuple [keyD p.1, .int p.2]) (.tuple [keyD q.1, .int q.2]) = _
    rw [dataLt_tuple]
    exact dlt_no c n
theorem w_lenD {kvs : List (LV × LV)} (hs : Hs h L) (hx : (l, LO.dct true kvs) ∈ L) (H : Q (.int kvs.length) h) : wp (lenA [.ref l] h) Q E := by
  refine wp_eq ?_ H
  simp only [lenA, hs.get hx]
theorem w_lenA {xs : List LV} (hs : Hs h L) (hx : (l, LO.lst xs) ∈ L) (H : Q (.int xs.length) h) : wp (lenA [.ref l] h) Q E := by
  refine wp_eq ?_ H
  simp only [lenA, hs.get hx]
end
end Fw

set_option maxRecDepth 100000
set_option maxHeartbeats 4000000
namespace Lw
open PySem PySem.Spec PyProof.Rows L2 Fw
/-! ### the meanings -/
def b_is_whole : LS :=
  (retS (andV (callM isiL (aCons (varM 0) (aCons (cst (.ty .int)) aNil))) (notV (callM isiL (aCons (varM 0) (aCons (cst (.ty .bool)) aNil))))))
def f_is_whole : List LV → M LV := runB 1 b_is_whole
theorem i_is_whole {v0 : LV} {h : LH} {Q : LV → LH → Prop} {E : XP} (H : ws (b_is_whole [some v0] h) (kNon Q) ⟨Q, kNo, kNo, xR E⟩) : wp (f_is_whole [v0] h) Q E := w_run rfl H
def b__law_numbers_1 : LS :=
  (ifS (andT (tstM (opM geL (varM 3) (opM powL (cst (.int 10)) (cst (.int 18))))) (tstM (opM gtL (varM 4) (cst (.int 0)))))
  (seqS (exprS (metM isLst appL (varM 5) (aCons (opM modL (varM 4) (opM getA (varM 2) (varM 6))) aNil)))
  (asgS (opM fdivL (varM 4) (opM getA (varM 2) (varM 6))) (gNm 4)))
  (seqS (asgS (opM modL (opM addL (opM addL (opM addL (varM 3) (opM mulL (cst (.int 7919)) (varM 1))) (opM mulL (opM mulL (cst (.int 101)) (varM 6)) (varM 6))) (varM 6)) (cst (.int 2147483647))) (gNm 7))
  (seqS (asgS (opM modL (opM mulL (varM 7) (cst (.int 48271))) (cst (.int 2147483647))) (gNm 7))
  (seqS (asgS (opM modL (opM mulL (opM modL (opM mulL (varM 7) (varM 7)) (cst (.int 2147483629))) (cst (.int 48271))) (cst (.int 2147483647))) (gNm 7))
  (exprS (metM isLst appL (varM 5) (aCons (opM modL (opM fdivL (varM 7) (cst (.int 16))) (opM getA (varM 2) (varM 6))) aNil)))))))
def b__law_numbers : LS :=
  (seqS (asgS (callM maxL (aCons (varM 0) (aCons (opM subL (unM negL (cst (.int 1))) (varM 0)) aNil))) (gNm 3))
  (seqS (asgS (varM 3) (gNm 4))
  (seqS (asgS (lstM aNil) (gNm 5))
  (seqS (forS (itmC rng1 (aCons (callM lenL (aCons (varM 2) aNil)) aNil)) (gNm 6)
  b__law_numbers_1)
  (retS (varM 5))))))
def f__law_numbers : List LV → M LV := runB 8 b__law_numbers
theorem i__law_numbers {v0 v1 v2 : LV} {h : LH} {Q : LV → LH → Prop} {E : XP} (H : ws (b__law_numbers [some v0, some v1, some v2, none, none, none, none, none] h) (kNon Q) ⟨Q, kNo, kNo, xR E⟩) : wp (f__law_numbers [v0, v1, v2] h) Q E := w_run rfl H
def b__law_is_word : LS :=
  (seqS (ifS (orT (notT (tstM (callM isiL (aCons (varM 0) (aCons (cst (.ty .tuple)) aNil))))) (tstM (opM neL (callM lenL (aCons (varM 0) aNil)) (cst (.int 2)))))
  (retS (cst (.bl false)))
  nilS)
  (seqS (asgS (varM 0) (gTp [(gNm 1), (gNm 2)]))
  (seqS (ifS (orT (notT (tstM (callM isiL (aCons (varM 1) (aCons (cst (.ty .int)) aNil))))) (orT (tstM (callM isiL (aCons (varM 1) (aCons (cst (.ty .bool)) aNil)))) (notT (tstM (callM isiL (aCons (varM 2) (aCons (cst (.ty .str)) aNil)))))))
  (retS (cst (.bl false)))
  nilS)
  (seqS (asgS (dspM [((cst (.str "owned")), (cst (.int 0))), ((cst (.str "late")), (cst (.int 0))), ((cst (.str "loose")), (cst (.int 1))), ((cst (.str "gone")), (cst (.int 0)))]) (gNm 3))
  (retS (orV (opM eqL (varM 2) (cst (.str "listed"))) (andV (opM inA (varM 2) (varM 3)) (opM geL (varM 1) (opM getA (varM 3) (varM 2))))))))))
def f__law_is_word : List LV → M LV := runB 4 b__law_is_word
theorem i__law_is_word {v0 : LV} {h : LH} {Q : LV → LH → Prop} {E : XP} (H : ws (b__law_is_word [some v0, none, none, none] h) (kNon Q) ⟨Q, kNo, kNo, xR E⟩) : wp (f__law_is_word [v0] h) Q E := w_run rfl H
def b_is_word : LS :=
  (seqS (ifS (orT (notT (tstM (callM isiL (aCons (varM 0) (aCons (cst (.ty .tuple)) aNil))))) (tstM (opM neL (callM lenL (aCons (varM 0) aNil)) (cst (.int 2)))))
  (retS (cst (.bl false)))
  nilS)
  (seqS (asgS (varM 0) (gTp [(gNm 1), (gNm 2)]))
  (seqS (ifS (orT (notT (tstM (callM f_is_whole (aCons (varM 1) aNil)))) (notT (tstM (callM isiL (aCons (varM 2) (aCons (cst (.ty .str)) aNil))))))
  (retS (cst (.bl false)))
  nilS)
  (seqS (ifS (tstM (opM eqL (varM 2) (cst (.str "listed"))))
  (retS (cst (.bl true)))
  nilS)
  (seqS (ifS (tstM (opM eqL (varM 2) (cst (.str "loose"))))
  (retS (opM geL (varM 1) (cst (.int 1))))
  nilS)
  (retS (andV (opM geL (varM 1) (cst (.int 0))) (opM inA (varM 2) (tupM (aCons (cst (.str "owned")) (aCons (cst (.str "late")) (aCons (cst (.str "gone")) aNil))))))))))))
def f_is_word : List LV → M LV := runB 3 b_is_word
theorem i_is_word {v0 : LV} {h : LH} {Q : LV → LH → Prop} {E : XP} (H : ws (b_is_word [some v0, none, none] h) (kNon Q) ⟨Q, kNo, kNo, xR E⟩) : wp (f_is_word [v0] h) Q E := w_run rfl H
def b_look_at_word : LS :=
  (ifS (notT (tstM (callM f_is_word (aCons (varM 0) aNil))))
  (raiseS "NoWord")
  nilS)
def f_look_at_word : List LV → M LV := runB 1 b_look_at_word
theorem i_look_at_word {v0 : LV} {h : LH} {Q : LV → LH → Prop} {E : XP} (H : ws (b_look_at_word [some v0] h) (kNon Q) ⟨Q, kNo, kNo, xR E⟩) : wp (f_look_at_word [v0] h) Q E := w_run rfl H
def b_taken : LS :=
  (seqS (exprS (callM f_look_at_word (aCons (varM 0) aNil)))
  (seqS (asgS (varM 0) (gTp [(gNm 1), (gNm 2)]))
  (seqS (ifS (tstM (opM eqL (varM 2) (cst (.str "gone"))))
  (raiseS "Gone")
  nilS)
  (retS (tupM (aCons (opM addL (varM 1) (cst (.int 1))) (aCons (varM 2) aNil)))))))
def f_taken : List LV → M LV := runB 3 b_taken
theorem i_taken {v0 : LV} {h : LH} {Q : LV → LH → Prop} {E : XP} (H : ws (b_taken [some v0, none, none] h) (kNon Q) ⟨Q, kNo, kNo, xR E⟩) : wp (f_taken [v0] h) Q E := w_run rfl H
def b_dropped : LS :=
  (seqS (exprS (callM f_look_at_word (aCons (varM 0) aNil)))
  (seqS (asgS (varM 0) (gTp [(gNm 1), (gNm 2)]))
  (seqS (ifS (andT (tstM (opM eqL (varM 2) (cst (.str "owned")))) (tstM (opM eqL (varM 1) (cst (.int 0)))))
  (retS (tupM (aCons (tupM (aCons (unM negL (cst (.int 1))) (aCons (cst (.str "listed")) aNil))) (aCons (cst (.str "list")) aNil))))
  nilS)
  (seqS (ifS (andT (tstM (opM eqL (varM 2) (cst (.str "loose")))) (tstM (opM eqL (varM 1) (cst (.int 1)))))
  (retS (tupM (aCons (tupM (aCons (cst (.int 0)) (aCons (cst (.str "gone")) aNil))) (aCons (cst (.str "gone")) aNil))))
  nilS)
  (seqS (ifS (andT (tstM (opM neL (varM 2) (cst (.str "listed")))) (tstM (opM eqL (varM 1) (cst (.int 0)))))
  (raiseS "NoHold")
  nilS)
  (retS (tupM (aCons (tupM (aCons (opM subL (varM 1) (cst (.int 1))) (aCons (varM 2) aNil))) (aCons (cst (.str "none")) aNil)))))))))
def f_dropped : List LV → M LV := runB 3 b_dropped
theorem i_dropped {v0 : LV} {h : LH} {Q : LV → LH → Prop} {E : XP} (H : ws (b_dropped [some v0, none, none] h) (kNon Q) ⟨Q, kNo, kNo, xR E⟩) : wp (f_dropped [v0] h) Q E := w_run rfl H
def b_parted : LS :=
  (seqS (exprS (callM f_look_at_word (aCons (varM 0) aNil)))
  (seqS (asgS (varM 0) (gTp [(gNm 1), (gNm 2)]))
  (seqS (ifS (tstM (opM eqL (varM 2) (cst (.str "listed"))))
  (seqS (ifS (tstM (opM ltL (varM 1) (cst (.int 0))))
  (raiseS "NoHold")
  nilS)
  (retS (tupM (aCons (tupM (aCons (varM 1) (aCons (cst (.str "late")) aNil))) (aCons (cst (.str "none")) aNil)))))
  nilS)
  (seqS (ifS (tstM (opM neL (varM 2) (cst (.str "owned"))))
  (raiseS "NoOwner")
  nilS)
  (seqS (ifS (tstM (opM eqL (varM 1) (cst (.int 0))))
  (retS (tupM (aCons (tupM (aCons (cst (.int 0)) (aCons (cst (.str "gone")) aNil))) (aCons (cst (.str "gone")) aNil))))
  nilS)
  (retS (tupM (aCons (tupM (aCons (varM 1) (aCons (cst (.str "loose")) aNil))) (aCons (cst (.str "none")) aNil)))))))))
def f_parted : List LV → M LV := runB 3 b_parted
theorem i_parted {v0 : LV} {h : LH} {Q : LV → LH → Prop} {E : XP} (H : ws (b_parted [some v0, none, none] h) (kNon Q) ⟨Q, kNo, kNo, xR E⟩) : wp (f_parted [v0] h) Q E := w_run rfl H
def b_merged : LS :=
  (seqS (exprS (callM f_look_at_word (aCons (varM 0) aNil)))
  (seqS (asgS (varM 0) (gTp [(gNm 2), (gNm 3)]))
  (seqS (ifS (tstM (opM notInA (varM 3) (tupM (aCons (cst (.str "listed")) (aCons (cst (.str "late")) aNil)))))
  (raiseS "NotListed")
  nilS)
  (seqS (asgS (opM addL (varM 2) (varM 1)) (gNm 4))
  (seqS (ifS (tstM (opM ltL (varM 4) (cst (.int 0))))
  (raiseS "NoHold")
  nilS)
  (seqS (ifS (tstM (opM eqL (varM 4) (cst (.int 0))))
  (retS (tupM (aCons (tupM (aCons (cst (.int 0)) (aCons (cst (.str "gone")) aNil))) (aCons (cst (.str "gone")) aNil))))
  nilS)
  (retS (tupM (aCons (tupM (aCons (varM 4) (aCons (cst (.str "loose")) aNil))) (aCons (cst (.str "none")) aNil))))))))))
def f_merged : List LV → M LV := runB 5 b_merged
theorem i_merged {v0 v1 : LV} {h : LH} {Q : LV → LH → Prop} {E : XP} (H : ws (b_merged [some v0, some v1, none, none, none] h) (kNon Q) ⟨Q, kNo, kNo, xR E⟩) : wp (f_merged [v0, v1] h) Q E := w_run rfl H
/-! ### the meanings -/
def b__law_edges : LS :=
  (seqS (asgS (lstM (aCons (tupM (aCons (cst (.int 0)) (aCons (cst (.str "owned")) aNil))) (aCons (tupM (aCons (cst (.int 1)) (aCons (cst (.str "owned")) aNil))) (aCons (tupM (aCons (unM negL (cst (.int 1))) (aCons (cst (.str "listed")) aNil))) (aCons (tupM (aCons (cst (.int 0)) (aCons (cst (.str "listed")) aNil))) (aCons (tupM (aCons (cst (.int 1)) (aCons (cst (.str "listed")) aNil))) (aCons (tupM (aCons (cst (.int 0)) (aCons (cst (.str "late")) aNil))) aNil))))))) (gNm 0))
  (retS (opM addL (varM 0) (lstM (aCons (tupM (aCons (cst (.int 1)) (aCons (cst (.str "late")) aNil))) (aCons (tupM (aCons (cst (.int 1)) (aCons (cst (.str "loose")) aNil))) (aCons (tupM (aCons (cst (.int 2)) (aCons (cst (.str "loose")) aNil))) (aCons (tupM (aCons (cst (.int 0)) (aCons (cst (.str "gone")) aNil))) (aCons (tupM (aCons (cst (.int 1)) (aCons (cst (.str "gone")) aNil))) aNil)))))))))
def f__law_edges : List LV → M LV := runB 1 b__law_edges
theorem i__law_edges {h : LH} {Q : LV → LH → Prop} {E : XP} (H : ws (b__law_edges [none] h) (kNon Q) ⟨Q, kNo, kNo, xR E⟩) : wp (f__law_edges [] h) Q E := w_run rfl H
def b__law_word : LS :=
  (seqS (asgS (callM f__law_numbers (aCons (varM 0) (aCons (varM 1) (aCons (lstM (aCons (cst (.int 10)) (aCons (cst (.int 5)) (aCons (cst (.int 3)) (aCons (opM powL (cst (.int 10)) (cst (.int 59))) (aCons (cst (.int 2)) aNil)))))) aNil)))) (gNm 2))
  (seqS (asgS (opM subL (opM getA (varM 2) (cst (.int 0))) (cst (.int 4))) (gNm 3))
  (seqS (ifS (tstM (opM eqL (opM getA (varM 2) (cst (.int 2))) (cst (.int 0))))
  (asgS (opM mulL (opM getA (varM 2) (cst (.int 3))) (opM subL (cst (.int 1)) (opM mulL (cst (.int 2)) (opM getA (varM 2) (cst (.int 4)))))) (gNm 3))
  nilS)
  (seqS (asgS (opM getA (lstM (aCons (cst (.str "owned")) (aCons (cst (.str "listed")) (aCons (cst (.str "late")) (aCons (cst (.str "loose")) (aCons (cst (.str "gone")) aNil)))))) (opM getA (varM 2) (cst (.int 1)))) (gNm 4))
  (seqS (ifS (tstM (opM eqL (varM 4) (cst (.str "listed"))))
  (retS (tupM (aCons (varM 3) (aCons (varM 4) aNil))))
  nilS)
  (retS (tupM (aCons (callM maxL (aCons (varM 3) (aCons (callM intL (aCons (opM eqL (varM 4) (cst (.str "loose"))) aNil)) aNil))) (aCons (varM 4) aNil)))))))))
def f__law_word : List LV → M LV := runB 5 b__law_word
theorem i__law_word {v0 v1 : LV} {h : LH} {Q : LV → LH → Prop} {E : XP} (H : ws (b__law_word [some v0, some v1, none, none, none] h) (kNon Q) ⟨Q, kNo, kNo, xR E⟩) : wp (f__law_word [v0, v1] h) Q E := w_run rfl H
open PySem Fw
local macro_rules | `(tactic| wtm_at "zmem") => `(tactic| first | with_reducible exact List.mem_cons_self | with_reducible assumption | ((with_reducible apply List.mem_cons_of_mem); wtm_at "zmem") | fail)
local macro_rules | `(tactic| wtm_at "zup") => `(tactic| first | with_reducible exact Up.here | with_reducible assumption | ((with_reducible apply Up.there); wtm_at "zup") | fail)
local macro_rules | `(tactic| wtm_at "zisi") => `(tactic| repeat (first | exact IsI.nil | apply IsI.cons))
local macro_rules | `(tactic| wtm_at "zsz") => `(tactic| first | with_reducible assumption | (rw [sizeLine_eq]; decide) | (simp only [sizeLine_eq, List.length_map, List.length_append, List.length_cons, List.length_nil]; omega) | fail)
local macro_rules | `(tactic| wtm_at "zat") => `(tactic| first | with_reducible assumption | exact rfl | fail)
local macro_rules | `(tactic| wtm_at "zkd") => `(tactic| first | with_reducible assumption | exact rfl | exact w_kdl (by assumption) (by wtm_at "zmem") | exact w_kdd (by assumption) (by wtm_at "zmem") | fail)
local macro_rules | `(tactic| wtm_at "zdk") => `(tactic| simp only [List.foldl_cons, List.foldl_nil, putL, hasK, getK, List.find?_cons, List.find?_nil, List.any_cons, List.any_nil, eqLV, eqLVs, ofS_beq, String.reduceBEq, Bool.or_false, Bool.false_or, Bool.and_false, Bool.and_true, Bool.false_eq_true, if_false, if_true, List.nil_append, List.cons_append, Option.map_some, Option.map_none, Option.isSome_some, Option.isSome_none])
local macro_rules | `(tactic| wtm_at "zgk") => `(tactic| simp only [getK_nil, getK_cons, eqLV, eqLVs, ofS_beq, String.reduceBEq, ibeq, decide_true, decide_false, Bool.and_false, Bool.and_true, Bool.false_eq_true, if_false, if_true, Option.isSome_some, Option.isSome_none])
local macro_rules | `(tactic| wtm_at "zln") => `(tactic| first | omega | (simp only [List.length_cons, List.length_nil]; omega) | fail)
local macro_rules | `(tactic| wtm_at "zalls") => `(tactic| first
  | ((with_reducible apply w_getlA); (· with_reducible assumption); (· wtm_at "zmem"); (· wtm_at "zln"); (· wtm_at "zln"); (repeat (with_reducible apply AllIn.cons)); (try with_reducible exact AllIn.nil))
  | ((with_reducible apply w_gettA); (· wtm_at "zln"); (· wtm_at "zln")) | fail)
local macro_rules | `(tactic| wtm_at "zlk") => `(tactic| first | with_reducible assumption | (simp only [List.lookup_cons, List.lookup_nil, ofS_beq, String.reduceBEq, Option.isSome_none, Option.isSome_some]; done) | (simp only [List.lookup_cons, List.lookup_nil, ofS_beq, String.reduceBEq]; exact rfl) | exact rfl | fail)
local macro_rules | `(tactic| wtm_at "zno") => `(tactic| (intro h' hs'; (try simp only [List.cons_append, List.nil_append, List.set_cons_zero, List.set_cons_succ, putA, ofS_eq, String.reduceEq, if_true, if_false] at hs')))
local macro_rules | `(tactic| wtm_at "znew") => `(tactic| (intro l' h' hs'; (try simp only [List.cons_append, List.nil_append, List.map_nil, srtI_nil, Int.reduceToNat, Int.toNat_zero, Int.toNat_one, List.replicate_zero, List.replicate_succ, List.flatten_nil, List.flatten_cons, List.append_nil] at hs')))
local macro_rules | `(tactic| wtm_at "zs") => `(tactic| simp only [↓e_isBL, ↓e_notBL, ↓e_kCu1, ↓e_kCu2, ↓e_rvs, ↓e_rvst, ↓e_itmD, ↓e_isRf, Bool.false_eq_true, eq_self, if_true, if_false, zipP, ↓e_fld, ↓e_kFs1, ↓e_mth, ↓e_kMth2, ↓e_new, ↓e_kNew2, ↓e_get, ↓e_dpop, ↓e_srk, ↓e_lit, ↓e_zipT, ↓e_kCp1, ↓e_kCp2T, ↓e_yesT, wipeL, srtI_nil, List.map_nil, ↓e_ok, ↓e_var0, ↓e_varS, ↓e_cst, ↓e_op, ↓e_kOp1, ↓e_kOp2, ↓e_un, ↓e_kUn, ↓e_call, ↓e_kCall, ↓e_nil, ↓e_cons, ↓e_kCons1, ↓e_kCons2, ↓e_tup, ↓e_kTup, ↓e_lst, ↓e_kB, ↓e_tst, ↓e_kBrT, ↓e_kBrF, ↓e_kBrN, ↓e_kNot, ↓e_kNotV, ↓e_wpAt, ↓e_wsAt, ↓e_andT, ↓e_orT, ↓e_notT, ↓e_andV, ↓e_orV, ↓e_notV, ↓e_ifE, ↓e_chn, ↓e_kChn1, ↓e_kChn2, ↓e_slc, ↓e_kSl1, ↓e_kSl2, ↓e_kSl3, ↓e_poN, ↓e_asI, ↓e_poS, ↓e_met, ↓e_kMet2, ↓e_kMetS, ↓e_seq, ↓e_kSeq, ↓e_nilS, ↓e_brk, ↓e_cnt, ↓e_expr, ↓e_kExp, ↓e_xS, ↓e_ret, ↓e_retN, ↓e_if, ↓e_asgN, ↓e_kAsg, ↓e_gnm0, ↓e_gnmS, ↓e_kSt, ↓e_gaN, ↓e_gaC, ↓e_kGc, ↓e_raise, ↓e_itmC, ↓e_itmE, ↓e_for, ↓e_kFor, ↓e_kFor2, ↓e_kNon, ↓e_xR, ↓e_kAug2, ↓e_prsN, ↓e_prsC, ↓e_kPr1, ↓e_kPr2, ↓e_kPr3, ↓e_kSb1, ↓e_kSb2, ↓e_comp, ↓e_add, ↓e_iadd, ↓e_sub, ↓e_neg, ↓e_lt, ↓e_le, ↓e_gt, ↓e_ge, ↓e_eqi, ↓e_nei, ↓e_eqs, ↓e_nes, ↓e_eqb, ↓e_neb, ↓e_max, ↓e_min, ↓e_lent, ↓e_lenr, ↓e_isN, ↓e_notN, ↓e_itt, ↓e_itr, ↓e_its, ↓e_enur, ↓e_strs, ↓e_inti, ↓e_intb, ↓e_tupt, ↓e_slt, ↓e_isiI, ↓e_isiS, ↓e_isiT, ↓e_isiN, ↓e_isiB, ↓e_isiR, ofS_beq, String.reduceBEq, isK, decide_true, decide_false, Bool.not_true, Bool.not_false, Bool.and_true, Bool.and_false, Bool.true_and, Bool.false_and, Bool.not_not, b_tb, b_fb, b_bt, b_bf, List.length_cons, List.length_nil, Nat.reduceAdd, List.set_cons_zero, List.set_cons_succ])
local macro_rules | `(tactic| wtm_at "zaf") => `(tactic| simp only [List.any_cons, List.any_nil, eqF, ofS_beq, String.reduceBEq, beq_self_eq_true, ibeq, Bool.or_false, Bool.false_or, Bool.or_true, Bool.true_or])
local macro_rules | `(tactic| wtm_at "zsok") => `(tactic| first | with_reducible assumption | decide +kernel | fail)
local macro_rules | `(tactic| wtm_at "zd") => `(tactic| first
  | with_reducible exact d_int | with_reducible exact d_bl | with_reducible exact d_non | ((with_reducible apply d_str); wtm_at "zsok")
  | with_reducible exact oa_nil | ((with_reducible apply oa_cons); (· wtm_at "zd"); (· wtm_at "zd"))
  | ((with_reducible apply d_tup); wtm_at "zd") | ((with_reducible apply d_lst); (· with_reducible assumption); (· wtm_at "zmem"); (· wtm_at "zd")) | with_reducible assumption | fail)
local macro_rules | `(tactic| wtm_at "zev") => `(tactic| simp only [PyData.eqv, PyData.eqvAll, List.any_cons, List.any_nil, Bool.or_false, Bool.false_or, Bool.or_true, Bool.true_or, beq_self_eq_true, Bool.and_true, Bool.true_and, Bool.and_false, Bool.false_and, ofS_beq, String.reduceBEq, ibeq])
local macro_rules | `(tactic| wtm_at "zck") => `(tactic| first
  | exact isC_t (by with_reducible assumption) (by wtm_at "zmem") | exact isC_f (by with_reducible assumption) (by wtm_at "zmem") (by simp only [ne_eq, ofS_eq, String.reduceEq, not_false_eq_true]) | exact isC_fl (by with_reducible assumption) (by wtm_at "zmem") | exact isC_fd (by with_reducible assumption) (by wtm_at "zmem")
  | exact isLst_t (by with_reducible assumption) (by wtm_at "zmem") | exact isLst_fd (by with_reducible assumption) (by wtm_at "zmem") | exact isLst_fi (by with_reducible assumption) (by wtm_at "zmem")
  | exact isDct_t (by with_reducible assumption) (by wtm_at "zmem") | exact isDct_fi (by with_reducible assumption) (by wtm_at "zmem") | exact isDct_fl (by with_reducible assumption) (by wtm_at "zmem") | exact rfl | fail)
local macro_rules | `(tactic| wtm_at "zh") => `(tactic| first
  | ((with_reducible apply w_getl); (· with_reducible assumption); (· wtm_at "zmem"); (· wtm_at "zat"))
  | ((with_reducible apply w_gett); (· wtm_at "zat"))
  | ((with_reducible apply w_getd); (· with_reducible assumption); (· wtm_at "zmem"); (· exact rfl); (· first | with_reducible assumption | (wtm_at "zgk"; exact rfl) | exact rfl))
  | ((with_reducible apply w_isl); (· with_reducible assumption); (· wtm_at "zmem"))
  | ((with_reducible apply w_isd); (· with_reducible assumption); (· wtm_at "zmem"))
  | ((with_reducible apply w_isi); (· with_reducible assumption))
  | ((with_reducible apply w_lenl); (· with_reducible assumption); (· wtm_at "zmem"))
  | ((with_reducible apply w_app); (· with_reducible assumption); (· wtm_at "zup"); (· wtm_at "zsz"); wtm_at "zno")
  | ((with_reducible apply w_addl); (· with_reducible assumption); (· wtm_at "zmem"); (· wtm_at "zmem"); (· wtm_at "zsz"); wtm_at "znew")
  | ((with_reducible apply w_isNx); (· exact rfl)) | ((with_reducible apply w_notNx); (· exact rfl))
  | ((with_reducible apply w_gtp); (· first | exact rfl | exact w_sqL (by with_reducible assumption) (by wtm_at "zmem")); (· exact rfl))
  | ((with_reducible apply w_isiE); (· exact rfl))
  | ((with_reducible apply w_isiV); (· decide +kernel))
  | ((with_reducible apply w_isiNo); (· decide +kernel))
  | ((with_reducible apply w_inT); (· exact rfl); (· exact rfl); try wtm_at "zaf")
  | ((with_reducible apply w_ninT); (· exact rfl); (· exact rfl); try wtm_at "zaf")
  | ((with_reducible apply w_ind); (· with_reducible assumption); (· wtm_at "zmem"); (· exact rfl); try wtm_at "zgk")
  | ((with_reducible apply w_nind); (· with_reducible assumption); (· wtm_at "zmem"); (· exact rfl); try wtm_at "zgk")
  | ((with_reducible apply w_inI); (· with_reducible assumption); (· wtm_at "zmem"))
  | ((with_reducible apply w_ninI); (· with_reducible assumption); (· wtm_at "zmem"))
  | ((with_reducible apply w_inL); (· with_reducible assumption); (· wtm_at "zmem"); (· exact rfl); (· exact rfl); try wtm_at "zaf")
  | ((with_reducible apply w_ninL); (· with_reducible assumption); (· wtm_at "zmem"); (· exact rfl); (· exact rfl); (· exact rfl); try wtm_at "zaf")
  | ((with_reducible apply w_inD); (· with_reducible assumption); (· wtm_at "zmem"); (· exact rfl); (· wtm_at "zd"); (· wtm_at "zd"); try wtm_at "zev")
  | ((with_reducible apply w_ninD); (· with_reducible assumption); (· wtm_at "zmem"); (· exact rfl); (· wtm_at "zd"); (· wtm_at "zd"); try wtm_at "zev")
  | ((with_reducible apply w_setl); (· with_reducible assumption); (· wtm_at "zup"); (· wtm_at "zat"); wtm_at "zno")
  | ((with_reducible apply w_setd); (· with_reducible assumption); (· wtm_at "zup"); (· exact rfl); (· wtm_at "zsz"); wtm_at "zno")
  | ((with_reducible apply w_itl); (· with_reducible assumption); (· wtm_at "zmem"))
  | ((with_reducible apply w_enu); (· with_reducible assumption); (· wtm_at "zmem"))
  | ((with_reducible apply w_dnw); (· with_reducible assumption); wtm_at "znew")
  | ((with_reducible apply w_dsp); (· with_reducible assumption); (intro l' h' hs'))
  | ((with_reducible apply w_pow); (· decide))
  | ((with_reducible apply w_mul); (· omega))
  | ((with_reducible apply w_mod); (· omega))
  | ((with_reducible apply w_fdiv); (· first | with_reducible assumption | decide))
  | with_reducible apply w_abs
  | ((with_reducible apply w_str); (· with_reducible assumption))
  | ((with_reducible apply w_listt); (· with_reducible assumption); wtm_at "znew")
  | ((with_reducible apply w_listr); (· with_reducible assumption); wtm_at "znew")
  | ((with_reducible apply w_listl); (· with_reducible assumption); (· wtm_at "zmem"); wtm_at "znew")
  | ((with_reducible apply w_tupl); (· with_reducible assumption); (· wtm_at "zmem"))
  | ((with_reducible apply w_slrB); (· with_reducible assumption); (· decide); (intro cs' hcs'; wtm_at "znew"))
  | ((with_reducible apply w_slrI); (· with_reducible assumption); (intro cs' hcs'; wtm_at "znew"))
  | ((with_reducible apply w_slr); (· with_reducible assumption); wtm_at "znew")
  | ((with_reducible apply w_sll); (· with_reducible assumption); (· wtm_at "zmem"); wtm_at "znew")
  | ((with_reducible apply w_sls); (· wtm_at "zsz"))
  | ((with_reducible apply w_lens); (· wtm_at "zsz"))
  | ((with_reducible apply w_adds); (· wtm_at "zsz"))
  | ((with_reducible apply w_addt); (· wtm_at "zsz"))
  | ((with_reducible apply w_gets); (· wtm_at "zsz"); (· wtm_at "zat"))
  | ((with_reducible apply w_getr); (· wtm_at "zat"))
  | ((with_reducible apply w_rev); (· with_reducible assumption); (· wtm_at "zup"); wtm_at "zno")
  | ((with_reducible apply w_ext); (· with_reducible assumption); (· wtm_at "zmem"); (· wtm_at "zup"); (· wtm_at "zsz"); wtm_at "zno")
  | ((with_reducible apply w_cnt); (· with_reducible assumption); (· wtm_at "zmem"); (· exact rfl); (· exact rfl); (· first | with_reducible assumption | (simp only [List.countP_cons, List.countP_nil, eqF, beq_self_eq_true, b_tb, b_fb, b_bt, b_bf, Bool.false_eq_true, Bool.not_true, Bool.not_false, if_true, if_false, Nat.reduceAdd]; exact rfl)))
  | ((with_reducible apply w_idx); (· with_reducible assumption); (· wtm_at "zmem"); (· exact rfl); (· exact rfl); (· first | with_reducible assumption | exact rfl); (· first | with_reducible assumption | (simp only [List.findIdx_cons, List.findIdx_nil, eqF, beq_self_eq_true, b_tb, b_fb, b_bt, b_bf, cond_true, cond_false, Bool.false_eq_true, Bool.not_true, Bool.not_false, if_true, if_false, Nat.reduceAdd]; exact rfl)))
  | ((with_reducible apply w_eqf); (· exact rfl))
  | ((with_reducible apply w_nef); (· exact rfl))
  | ((with_reducible apply w_eqd); (· exact rfl); (· wtm_at "zd"); (· wtm_at "zd"); try wtm_at "zev")
  | ((with_reducible apply w_eqDT); (· with_reducible assumption); (· wtm_at "zmem"))
  | ((with_reducible apply w_ned); (· exact rfl); (· wtm_at "zd"); (· wtm_at "zd"); try wtm_at "zev")
  | ((with_reducible apply w_rng1); (· first | with_reducible assumption | omega | decide))
  | with_reducible apply e_gsb
  | ((with_reducible apply w_srk); (· with_reducible assumption); (· wtm_at "zmem"); (· first | with_reducible assumption | exact dI_keys _ | exact rfl); (· first | with_reducible assumption | wtm_at "zln"); wtm_at "znew")
  | ((with_reducible apply w_lit); (· with_reducible assumption); (· wtm_at "zmem"); wtm_at "znew")
  | ((with_reducible apply w_srt); (· with_reducible assumption); (· wtm_at "zmem"); (· first | with_reducible assumption | exact intsOf_map _ | exact rfl); wtm_at "znew")
  | ((with_reducible apply w_remF); (· with_reducible assumption); (· wtm_at "zup"); (· with_reducible assumption); (· with_reducible assumption); wtm_at "zno")
  | ((with_reducible apply w_rem); (· with_reducible assumption); (· wtm_at "zup"); (· first | with_reducible assumption | exact intsOf_map _); (· with_reducible assumption); wtm_at "zno")
  | ((with_reducible apply w_zip); (· with_reducible assumption); (· wtm_at "zmem"); (· wtm_at "zmem"))
  | ((with_reducible apply w_rvsl); (· with_reducible assumption); (· wtm_at "zmem"); wtm_at "znew")
  | ((with_reducible apply w_sum); (· with_reducible assumption); (· wtm_at "zmem"))
  | ((with_reducible apply w_fdK); (· with_reducible assumption); (· wtm_at "zmem"))
  | ((with_reducible apply w_fdKM); (· with_reducible assumption); (· wtm_at "zmem"))
  | ((with_reducible apply w_fdV); (· with_reducible assumption); (· wtm_at "zmem"))
  | ((with_reducible apply w_fdI); (· with_reducible assumption); (· wtm_at "zmem"))
  | ((with_reducible apply w_alls); (· with_reducible assumption); (· wtm_at "zmem"); (· first | with_reducible assumption | exact rfl))
  | ((with_reducible apply w_cpN); (· wtm_at "zkp"))
  | ((with_reducible apply w_cpC); (· wtm_at "zkp"))
  | ((with_reducible apply w_mull); (· with_reducible assumption); (· wtm_at "zmem"); (· (rw [sizeLine_eq]; decide)); wtm_at "znew")
  | ((with_reducible apply w_join); (· with_reducible assumption); (· wtm_at "zmem"); (· exact rfl); (· decide))
  | ((with_reducible apply w_selT); (· (wtm_at "zgo"; wtm_at "zck")))
  | ((with_reducible apply w_selF); (· (wtm_at "zgo"; wtm_at "zck")))
  | fail)
local macro_rules | `(tactic| wtm_at "zb") => `(tactic| first
  | ((with_reducible apply w_brDP); (· first | with_reducible assumption | omega | decide))
  | ((with_reducible apply w_brDM); (· first | with_reducible assumption | omega | decide))
  | ((with_reducible apply w_brD) <;> intro hc)
  | ((with_reducible apply w_brSP); (· first | with_reducible assumption | exact rfl))
  | ((with_reducible apply w_brSM); (· first | with_reducible assumption))
  | ((with_reducible apply w_brS) <;> intro hc)
  | ((with_reducible apply w_brP); (· first | with_reducible assumption | exact rfl))
  | ((with_reducible apply w_brM); (· first | with_reducible assumption | exact rfl))
  | ((with_reducible apply w_br) <;> intro hc) | fail)
local macro_rules | `(tactic| wtm_at "zgo1") => `(tactic| first
  | wtm_at "zs"
  | ((with_reducible change wp _ _ _); first | wtm_at "zh" | wtm_at "zfn" | wtm_at "zix" | fail)
  | ((with_reducible apply w_kLst); (· with_reducible assumption); wtm_at "znew")
  | ((with_reducible apply w_kMetL); (· with_reducible assumption); (· wtm_at "zmem"))
  | ((with_reducible change kBr _ _ _ _); wtm_at "zb")
  | ((with_reducible apply w_kFld); (· with_reducible assumption); (· wtm_at "zmem"); (· wtm_at "zlk"))
  | ((with_reducible apply w_kMth1); (· with_reducible assumption); (· wtm_at "zmem"); (· wtm_at "zlk"))
  | ((with_reducible apply w_kNew1); (· with_reducible assumption); wtm_at "znew")
  | with_reducible apply w_fldS
  | with_reducible apply e_tryO
  | ((with_reducible apply w_kCu3); (· with_reducible assumption); (· wtm_at "zup"); (· wtm_at "zsz"); wtm_at "zno")
  | ((with_reducible apply w_tryOT); (· decide +kernel))
  | ((with_reducible apply w_tryOF); (· decide +kernel))
  | ((with_reducible apply w_forN); (· wtm_at "zkp"))
  | ((with_reducible apply w_kComp0); (· with_reducible assumption); (· exact w_kpC (Hs.app (by with_reducible assumption) _) (by simp)); wtm_at "znew")
  | ((with_reducible apply w_kFs2); (· with_reducible assumption); (· wtm_at "zup"); (· (simp only [List.length_cons, List.length_nil]; decide)); wtm_at "zno")
  | ((with_reducible apply w_kGt1); (· with_reducible assumption); (· wtm_at "zmem"))
  | ((with_reducible apply w_kGt2); (· with_reducible assumption); (· wtm_at "zmem"); (· first | with_reducible assumption | exact rfl))
  | ((with_reducible apply w_kPp1); (· with_reducible assumption); (· wtm_at "zmem"))
  | ((with_reducible apply w_kPp2); (· with_reducible assumption); (· wtm_at "zup"); (· exact rfl); (· first | with_reducible assumption | wtm_at "zgk" | exact rfl); wtm_at "zno")
  | with_reducible apply e_asg
  | with_reducible apply AllIn.cons | with_reducible exact AllIn.nil
  | ((with_reducible apply w_kDsp); (· with_reducible assumption); (· wtm_at "zup"); (· exact rfl); (· (simp only [List.length_cons, List.length_nil]; decide)); (· first | with_reducible assumption | (wtm_at "zdk"; exact rfl) | exact rfl); (intro h' hs'))
  | with_reducible apply e_tryK
  | ((with_reducible apply w_tryT); (· decide +kernel); (· (simp only [List.length_cons, List.length_nil]; decide)); (· (simp only [List.set_cons_zero, List.set_cons_succ]; exact rfl)))
  | ((with_reducible apply w_tryF); (· decide +kernel))
  | ((with_reducible apply w_aug); (· exact rfl))
  | ((with_reducible change ws _ _ _); wtm_at "zfs")
  | wtm_at "zxt"
  | fail)
local macro_rules | `(tactic| wtm_at "zext") => `(tactic| first
  | simp only [↓e_raiseF, ↓e_kRF1, ↓e_kRF2, ↓e_xf, ↓e_isFn, ↓e_isF0, ↓e_fst, ↓e_fsA0]
  | ((with_reducible apply w_isF); (· exact rfl); (· exact rfl))
  | ((with_reducible apply w_isFV); (· exact rfl))
  | ((with_reducible apply w_xf); (· exact rfl); (· exact rfl); (· exact rfl))
  | with_reducible apply w_fnd | with_reducible apply w_sw
  | ((with_reducible apply w_lstr); (· wtm_at "zsz"))
  | ((with_reducible apply w_spl); (· first | with_reducible assumption | exact rfl); (· wtm_at "zsz"); (· with_reducible assumption); wtm_at "znew")
  | ((with_reducible apply w_fmts); (· wtm_at "zsz"))
  | ((with_reducible apply w_fmti); (· with_reducible assumption))
  | ((with_reducible apply w_isiU); (· first | with_reducible assumption | exact rfl); (· exact rfl))
  | with_reducible apply w_fsA
  | ((with_reducible apply w_kJ); (· wtm_at "zsz"))
  | fail)
local macro_rules | `(tactic| wtm_at "zxt") => `(tactic| fail)
local macro_rules | `(tactic| wtm_at "zgo") => `(tactic| repeat' wtm_at "zgo1")
local macro_rules | `(tactic| wtm_at "zst") => `(tactic| ((simp only [List.map_cons, List.map_nil, List.length_cons, List.length_nil, Nat.reduceAdd, Nat.reduceSub, List.replicate_succ, List.replicate_zero, List.cons_append, List.nil_append]); exact rfl))
local macro_rules | `(tactic| wtm_at "zrun") => `(tactic| (apply w_run; (· wtm_at "zst"); wtm_at "zgo"))
local macro_rules | `(tactic| wtm_at "zsub") => `(tactic| first | with_reducible exact List.Sublist.refl _ | ((with_reducible apply List.Sublist.cons_cons); wtm_at "zsub") | ((with_reducible apply List.Sublist.cons); wtm_at "zsub") | with_reducible exact List.nil_sublist _ | fail)
local macro_rules | `(tactic| wtm_at "zhs") => `(tactic| exact Hs.sub (by with_reducible assumption) (by wtm_at "zsub"))
local macro_rules | `(tactic| wtm_at "zkp") => `(tactic| first | with_reducible exact keepB_nil | ((with_reducible apply keepB_cons); (· exact Hs.get (by with_reducible assumption) (by wtm_at "zmem")); wtm_at "zkp") | fail)
local macro_rules | `(tactic| wtm_at "zunr") => `(tactic| first | ((with_reducible apply w_forC); (· wtm_at "zkp")) | ((with_reducible apply w_forN); (· wtm_at "zkp")) | fail)
local macro_rules | `(tactic| wtm_at "zx") => `(tactic| (exfalso; simp_all; done))
local macro_rules | `(tactic| wtm_at "zrp") => `(tactic| first
  | with_reducible exact Rp.int _ | with_reducible exact Rp.str _ | with_reducible exact Rp.bl _ | with_reducible exact Rp.non | with_reducible exact Rps.nil | with_reducible assumption | with_reducible exact Rps.ints _
  | ((with_reducible apply Rps.cons); (· wtm_at "zrp"); (· wtm_at "zrp"))
  | ((with_reducible apply Rp.tup); (· (simp only [List.length_cons, List.length_nil]; decide)); (· wtm_at "zrp"))
  | ((with_reducible apply Rp.lst); (· wtm_at "zmem"); (· first | (simp only [List.length_cons, List.length_nil, List.length_map]; first | decide | omega) | omega); (· wtm_at "zrp")) | fail)
local macro_rules | `(tactic| wtm_at "zsame") => `(tactic| ((with_reducible apply same_s); (· with_reducible assumption); (· wtm_at "zrp"); (· wtm_at "zrp"); (· (simp only [dep, deps, dep_ints, Nat.max_self, Nat.max_zero, Nat.zero_max]; decide)); wtm_at "zno"))
local macro_rules | `(tactic| wtm_at "zpk") => `(tactic| first | with_reducible exact Pk.here | ((with_reducible apply Pk.there); wtm_at "zpk") | fail)
local macro_rules | `(tactic| wtm_at "zprm") => `(tactic| first | with_reducible exact Prm.nil | with_reducible exact Prm.same _ | ((with_reducible apply Prm.cons); (· wtm_at "zpk"); (· wtm_at "zprm")) | ((with_reducible apply Prm.drop); wtm_at "zprm") | fail)
local macro_rules | `(tactic| wtm_at "zhp") => `(tactic| exact Hs.prm (by with_reducible assumption) (by wtm_at "zprm"))
local macro_rules | `(tactic| wtm_at "zcu") => `(tactic| ((with_reducible apply w_kCompU); (· with_reducible assumption); wtm_at "znew"))
theorem whole_i {h : LH} {i : Int} {Q : LV → LH → Prop} {E : XP} (H : Q (.bl true) h) : wp (f_is_whole [.int i] h) Q E := by
  unfold f_is_whole b_is_whole
  wtm_at "zrun"
  exact H
local macro_rules | `(tactic| wtm_at "zfn") => `(tactic| with_reducible apply whole_i)
def okW (c : Int) (m : Str) : Prop := m = "listed" ∨ (m = "loose" ∧ 1 ≤ c) ∨ ((m = "owned" ∨ m = "late" ∨ m = "gone") ∧ 0 ≤ c)
theorem isw {h : LH} {c : Int} {m : Str} {Q : LV → LH → Prop} {E : XP} (o : okW c m) (H : Q (.bl true) h) : wp (f_is_word [.tup [.int c, .str m]] h) Q E := by
  unfold f_is_word b_is_word
  rcases o with rfl | ⟨rfl, o⟩ | ⟨rfl | rfl | rfl, o⟩
  all_goals wtm_at "zrun"
  all_goals simpa [eqF, *, ofS_beq] using H
theorem lsw {h : LH} {L : List (Nat × LO)} {c : Int} {m : Str} {Q : LV → LH → Prop} {E : XP} (hs : Hs h L) (o : okW c m) (H : ∀ h', Hs h' L → Q (.bl true) h') : wp (f__law_is_word [.tup [.int c, .str m]] h) Q E := by
  unfold f__law_is_word b__law_is_word
  rcases o with rfl | ⟨rfl, o⟩ | ⟨rfl | rfl | rfl, o⟩
  all_goals wtm_at "zrun"
  all_goals (try simp [*])
  all_goals exact H _ (by wtm_at "zhs")
theorem nums_s {cell salt : Int} {l : Nat} {xs : List LV} {ss : List Int} {h : LH} {L : List (Nat × LO)} {Q : LV → LH → Prop} {E : XP} (hs : Hs h L) (hx : (l, LO.lst xs) ∈ L) (hi : IsI xs ss) (hz : ∀ z ∈ ss, 0 < z ∧ z.natAbs.log2 < 9000) (hn : ss.length ≤ 1000)
    (H : digs ss fun ds => ∀ q h', Hs h' ((q, .lst ds) :: L) → Q (.ref q) h') : wp (f__law_numbers [.int cell, .int salt, .ref l] h) Q E := w_nums hs hx hi hz hn H
theorem look_s {h : LH} {c : Int} {m : Str} {Q : LV → LH → Prop} {E : XP} (o : okW c m) (H : Q .non h) : wp (f_look_at_word [.tup [.int c, .str m]] h) Q E := by
  unfold f_look_at_word b_look_at_word
  wtm_at "zrun"
  refine isw o ?_
  wtm_at "zgo"
  exact H
local macro_rules | `(tactic| wtm_at "zfn") => `(tactic| first
  | ((with_reducible apply nums_s); (· with_reducible assumption); (· wtm_at "zmem"); (· wtm_at "zisi"); (· decide); (· decide); (simp only [digs]); intros)
  | ((with_reducible apply look_s); (· with_reducible assumption)) | fail)
local macro_rules | `(tactic| wtm_at "zix") => `(tactic| wtm_at "zalls")
def Wd (v : LV) : Prop := ∃ c m, v = .tup [.int c, .str m] ∧ okW c m
theorem word_s {h : LH} {L : List (Nat × LO)} {cell salt : Int} {Q : LV → LH → Prop} {E : XP} (hs : Hs h L) (H : ∀ v h', Wd v → Hs h' L → Q v h') : wp (f__law_word [.int cell, .int salt] h) Q E := by
  unfold f__law_word b__law_word
  wtm_at "zrun"
  all_goals refine H _ _ ⟨_, _, rfl, ?_⟩ (by wtm_at "zhs")
  all_goals unfold okW
  all_goals simp [ofS_eq]
  all_goals omega
theorem edges_s {h : LH} {L : List (Nat × LO)} {Q : LV → LH → Prop} {E : XP} (hs : Hs h L) (H : ∀ xs l h', xs.length = 11 → (∀ v ∈ xs, Wd v) → Hs h' ((l, .lst xs) :: L) → Q (.ref l) h') : wp (f__law_edges [] h) Q E := by
  unfold f__law_edges b__law_edges
  wtm_at "zrun"
  refine H _ _ _ ?_ ?_ (by wtm_at "zhs")
  · rfl
  · refine AllIn.of ?_
    repeat' first | exact AllIn.nil | apply AllIn.cons | exact ⟨_, _, rfl, by unfold okW; simp [ofS_eq]⟩
theorem strOkW {c : Int} {m : Str} (o : okW c m) : PyData.strOk m = true := by
  rcases o with rfl | ⟨rfl, o⟩ | ⟨rfl | rfl | rfl, o⟩ <;> decide +kernel
end Lw

set_option maxRecDepth 100000
set_option maxHeartbeats 4000000
namespace Lw
open PySem PySem.Spec PyProof.Rows L2 Fw
/-! ### the meanings -/
def b__law_same (r : List LV → M LV) : LS :=
  (seqS (ifS (orT (tstM (opM neL (callM isiL (aCons (varM 1) (aCons (cst (.ty .list)) aNil))) (callM isiL (aCons (varM 0) (aCons (cst (.ty .list)) aNil))))) (tstM (opM neL (callM isiL (aCons (varM 1) (aCons (cst (.ty .tuple)) aNil))) (callM isiL (aCons (varM 0) (aCons (cst (.ty .tuple)) aNil))))))
  (retS (cst (.bl false)))
  nilS)
  (seqS (ifS (orT (tstM (callM isiL (aCons (varM 1) (aCons (cst (.ty .list)) aNil)))) (tstM (callM isiL (aCons (varM 1) (aCons (cst (.ty .tuple)) aNil)))))
  (seqS (ifS (tstM (opM neL (callM lenL (aCons (varM 0) aNil)) (callM lenL (aCons (varM 1) aNil))))
  (retS (cst (.bl false)))
  nilS)
  (retS (callM allL (aCons (compM (itmC zipL (aCons (varM 0) (aCons (varM 1) aNil))) (gTp [(gNm 2), (gNm 3)]) yesT (callM r (aCons (varM 2) (aCons (varM 3) aNil))) [2, 3]) aNil))))
  nilS)
  (seqS (ifS (orT (tstM (opM neL (callM isiL (aCons (varM 1) (aCons (cst (.ty .bool)) aNil))) (callM isiL (aCons (varM 0) (aCons (cst (.ty .bool)) aNil))))) (tstM (opM neL (callM isiL (aCons (varM 1) (aCons (cst (.ty .int)) aNil))) (callM isiL (aCons (varM 0) (aCons (cst (.ty .int)) aNil))))))
  (retS (cst (.bl false)))
  nilS)
  (retS (opM eqL (varM 0) (varM 1))))))
def f__law_same : Nat → List LV → M LV :=
  fun k => Nat.rec (fun _ _ => .bad) (fun _ f => runB 4 (b__law_same f)) k
theorem i__law_same {k : Nat} {v0 v1 : LV} {h : LH} {Q : LV → LH → Prop} {E : XP} (H : ws (b__law_same (f__law_same k) [some v0, some v1, none, none] h) (kNon Q) ⟨Q, kNo, kNo, xR E⟩) : wp (f__law_same (k + 1) [v0, v1] h) Q E := w_run rfl H
open PySem Fw
local macro_rules | `(tactic| wtm_at "zmem") => `(tactic| first | with_reducible exact List.mem_cons_self | with_reducible assumption | ((with_reducible apply List.mem_cons_of_mem); wtm_at "zmem") | fail)
local macro_rules | `(tactic| wtm_at "zup") => `(tactic| first | with_reducible exact Up.here | with_reducible assumption | ((with_reducible apply Up.there); wtm_at "zup") | fail)
local macro_rules | `(tactic| wtm_at "zisi") => `(tactic| repeat (first | exact IsI.nil | apply IsI.cons))
local macro_rules | `(tactic| wtm_at "zsz") => `(tactic| first | with_reducible assumption | (rw [sizeLine_eq]; decide) | (simp only [sizeLine_eq, List.length_map, List.length_append, List.length_cons, List.length_nil]; omega) | fail)
local macro_rules | `(tactic| wtm_at "zat") => `(tactic| first | with_reducible assumption | exact rfl | fail)
local macro_rules | `(tactic| wtm_at "zkd") => `(tactic| first | with_reducible assumption | exact rfl | exact w_kdl (by assumption) (by wtm_at "zmem") | exact w_kdd (by assumption) (by wtm_at "zmem") | fail)
local macro_rules | `(tactic| wtm_at "zdk") => `(tactic| simp only [List.foldl_cons, List.foldl_nil, putL, hasK, getK, List.find?_cons, List.find?_nil, List.any_cons, List.any_nil, eqLV, eqLVs, ofS_beq, String.reduceBEq, Bool.or_false, Bool.false_or, Bool.and_false, Bool.and_true, Bool.false_eq_true, if_false, if_true, List.nil_append, List.cons_append, Option.map_some, Option.map_none, Option.isSome_some, Option.isSome_none])
local macro_rules | `(tactic| wtm_at "zgk") => `(tactic| simp only [getK_nil, getK_cons, eqLV, eqLVs, ofS_beq, String.reduceBEq, ibeq, decide_true, decide_false, Bool.and_false, Bool.and_true, Bool.false_eq_true, if_false, if_true, Option.isSome_some, Option.isSome_none])
local macro_rules | `(tactic| wtm_at "zln") => `(tactic| first | omega | (simp only [List.length_cons, List.length_nil]; omega) | fail)
local macro_rules | `(tactic| wtm_at "zalls") => `(tactic| first
  | ((with_reducible apply w_getlA); (· with_reducible assumption); (· wtm_at "zmem"); (· wtm_at "zln"); (· wtm_at "zln"); (repeat (with_reducible apply AllIn.cons)); (try with_reducible exact AllIn.nil))
  | ((with_reducible apply w_gettA); (· wtm_at "zln"); (· wtm_at "zln")) | fail)
local macro_rules | `(tactic| wtm_at "zlk") => `(tactic| first | with_reducible assumption | (simp only [List.lookup_cons, List.lookup_nil, ofS_beq, String.reduceBEq, Option.isSome_none, Option.isSome_some]; done) | (simp only [List.lookup_cons, List.lookup_nil, ofS_beq, String.reduceBEq]; exact rfl) | exact rfl | fail)
local macro_rules | `(tactic| wtm_at "zno") => `(tactic| (intro h' hs'; (try simp only [List.cons_append, List.nil_append, List.set_cons_zero, List.set_cons_succ, putA, ofS_eq, String.reduceEq, if_true, if_false] at hs')))
local macro_rules | `(tactic| wtm_at "znew") => `(tactic| (intro l' h' hs'; (try simp only [List.cons_append, List.nil_append, List.map_nil, srtI_nil, Int.reduceToNat, Int.toNat_zero, Int.toNat_one, List.replicate_zero, List.replicate_succ, List.flatten_nil, List.flatten_cons, List.append_nil] at hs')))
local macro_rules | `(tactic| wtm_at "zs") => `(tactic| simp only [↓e_isBL, ↓e_notBL, ↓e_kCu1, ↓e_kCu2, ↓e_rvs, ↓e_rvst, ↓e_itmD, ↓e_isRf, Bool.false_eq_true, eq_self, if_true, if_false, zipP, ↓e_fld, ↓e_kFs1, ↓e_mth, ↓e_kMth2, ↓e_new, ↓e_kNew2, ↓e_get, ↓e_dpop, ↓e_srk, ↓e_lit, ↓e_zipT, ↓e_kCp1, ↓e_kCp2T, ↓e_yesT, wipeL, srtI_nil, List.map_nil, ↓e_ok, ↓e_var0, ↓e_varS, ↓e_cst, ↓e_op, ↓e_kOp1, ↓e_kOp2, ↓e_un, ↓e_kUn, ↓e_call, ↓e_kCall, ↓e_nil, ↓e_cons, ↓e_kCons1, ↓e_kCons2, ↓e_tup, ↓e_kTup, ↓e_lst, ↓e_kB, ↓e_tst, ↓e_kBrT, ↓e_kBrF, ↓e_kBrN, ↓e_kNot, ↓e_kNotV, ↓e_wpAt, ↓e_wsAt, ↓e_andT, ↓e_orT, ↓e_notT, ↓e_andV, ↓e_orV, ↓e_notV, ↓e_ifE, ↓e_chn, ↓e_kChn1, ↓e_kChn2, ↓e_slc, ↓e_kSl1, ↓e_kSl2, ↓e_kSl3, ↓e_poN, ↓e_asI, ↓e_poS, ↓e_met, ↓e_kMet2, ↓e_kMetS, ↓e_seq, ↓e_kSeq, ↓e_nilS, ↓e_brk, ↓e_cnt, ↓e_expr, ↓e_kExp, ↓e_xS, ↓e_ret, ↓e_retN, ↓e_if, ↓e_asgN, ↓e_kAsg, ↓e_gnm0, ↓e_gnmS, ↓e_kSt, ↓e_gaN, ↓e_gaC, ↓e_kGc, ↓e_raise, ↓e_itmC, ↓e_itmE, ↓e_for, ↓e_kFor, ↓e_kFor2, ↓e_kNon, ↓e_xR, ↓e_kAug2, ↓e_prsN, ↓e_prsC, ↓e_kPr1, ↓e_kPr2, ↓e_kPr3, ↓e_kSb1, ↓e_kSb2, ↓e_comp, ↓e_add, ↓e_iadd, ↓e_sub, ↓e_neg, ↓e_lt, ↓e_le, ↓e_gt, ↓e_ge, ↓e_eqi, ↓e_nei, ↓e_eqs, ↓e_nes, ↓e_eqb, ↓e_neb, ↓e_max, ↓e_min, ↓e_lent, ↓e_lenr, ↓e_isN, ↓e_notN, ↓e_itt, ↓e_itr, ↓e_its, ↓e_enur, ↓e_strs, ↓e_inti, ↓e_intb, ↓e_tupt, ↓e_slt, ↓e_isiI, ↓e_isiS, ↓e_isiT, ↓e_isiN, ↓e_isiB, ↓e_isiR, ofS_beq, String.reduceBEq, isK, decide_true, decide_false, Bool.not_true, Bool.not_false, Bool.and_true, Bool.and_false, Bool.true_and, Bool.false_and, Bool.not_not, b_tb, b_fb, b_bt, b_bf, List.length_cons, List.length_nil, Nat.reduceAdd, List.set_cons_zero, List.set_cons_succ])
local macro_rules | `(tactic| wtm_at "zaf") => `(tactic| simp only [List.any_cons, List.any_nil, eqF, ofS_beq, String.reduceBEq, beq_self_eq_true, ibeq, Bool.or_false, Bool.false_or, Bool.or_true, Bool.true_or])
local macro_rules | `(tactic| wtm_at "zsok") => `(tactic| first | with_reducible assumption | decide +kernel | fail)
local macro_rules | `(tactic| wtm_at "zd") => `(tactic| first
  | with_reducible exact d_int | with_reducible exact d_bl | with_reducible exact d_non | ((with_reducible apply d_str); wtm_at "zsok")
  | with_reducible exact oa_nil | ((with_reducible apply oa_cons); (· wtm_at "zd"); (· wtm_at "zd"))
  | ((with_reducible apply d_tup); wtm_at "zd") | ((with_reducible apply d_lst); (· with_reducible assumption); (· wtm_at "zmem"); (· wtm_at "zd")) | with_reducible assumption | fail)
local macro_rules | `(tactic| wtm_at "zev") => `(tactic| simp only [PyData.eqv, PyData.eqvAll, List.any_cons, List.any_nil, Bool.or_false, Bool.false_or, Bool.or_true, Bool.true_or, beq_self_eq_true, Bool.and_true, Bool.true_and, Bool.and_false, Bool.false_and, ofS_beq, String.reduceBEq, ibeq])
local macro_rules | `(tactic| wtm_at "zck") => `(tactic| first
  | exact isC_t (by with_reducible assumption) (by wtm_at "zmem") | exact isC_f (by with_reducible assumption) (by wtm_at "zmem") (by simp only [ne_eq, ofS_eq, String.reduceEq, not_false_eq_true]) | exact isC_fl (by with_reducible assumption) (by wtm_at "zmem") | exact isC_fd (by with_reducible assumption) (by wtm_at "zmem")
  | exact isLst_t (by with_reducible assumption) (by wtm_at "zmem") | exact isLst_fd (by with_reducible assumption) (by wtm_at "zmem") | exact isLst_fi (by with_reducible assumption) (by wtm_at "zmem")
  | exact isDct_t (by with_reducible assumption) (by wtm_at "zmem") | exact isDct_fi (by with_reducible assumption) (by wtm_at "zmem") | exact isDct_fl (by with_reducible assumption) (by wtm_at "zmem") | exact rfl | fail)
local macro_rules | `(tactic| wtm_at "zh") => `(tactic| first
  | ((with_reducible apply w_getl); (· with_reducible assumption); (· wtm_at "zmem"); (· wtm_at "zat"))
  | ((with_reducible apply w_gett); (· wtm_at "zat"))
  | ((with_reducible apply w_getd); (· with_reducible assumption); (· wtm_at "zmem"); (· exact rfl); (· first | with_reducible assumption | (wtm_at "zgk"; exact rfl) | exact rfl))
  | ((with_reducible apply w_isl); (· with_reducible assumption); (· wtm_at "zmem"))
  | ((with_reducible apply w_isd); (· with_reducible assumption); (· wtm_at "zmem"))
  | ((with_reducible apply w_isi); (· with_reducible assumption))
  | ((with_reducible apply w_lenl); (· with_reducible assumption); (· wtm_at "zmem"))
  | ((with_reducible apply w_app); (· with_reducible assumption); (· wtm_at "zup"); (· wtm_at "zsz"); wtm_at "zno")
  | ((with_reducible apply w_addl); (· with_reducible assumption); (· wtm_at "zmem"); (· wtm_at "zmem"); (· wtm_at "zsz"); wtm_at "znew")
  | ((with_reducible apply w_isNx); (· exact rfl)) | ((with_reducible apply w_notNx); (· exact rfl))
  | ((with_reducible apply w_gtp); (· first | exact rfl | exact w_sqL (by with_reducible assumption) (by wtm_at "zmem")); (· exact rfl))
  | ((with_reducible apply w_isiE); (· exact rfl))
  | ((with_reducible apply w_isiV); (· decide +kernel))
  | ((with_reducible apply w_isiNo); (· decide +kernel))
  | ((with_reducible apply w_inT); (· exact rfl); (· exact rfl); try wtm_at "zaf")
  | ((with_reducible apply w_ninT); (· exact rfl); (· exact rfl); try wtm_at "zaf")
  | ((with_reducible apply w_ind); (· with_reducible assumption); (· wtm_at "zmem"); (· exact rfl); try wtm_at "zgk")
  | ((with_reducible apply w_nind); (· with_reducible assumption); (· wtm_at "zmem"); (· exact rfl); try wtm_at "zgk")
  | ((with_reducible apply w_inI); (· with_reducible assumption); (· wtm_at "zmem"))
  | ((with_reducible apply w_ninI); (· with_reducible assumption); (· wtm_at "zmem"))
  | ((with_reducible apply w_inL); (· with_reducible assumption); (· wtm_at "zmem"); (· exact rfl); (· exact rfl); try wtm_at "zaf")
  | ((with_reducible apply w_ninL); (· with_reducible assumption); (· wtm_at "zmem"); (· exact rfl); (· exact rfl); (· exact rfl); try wtm_at "zaf")
  | ((with_reducible apply w_inD); (· with_reducible assumption); (· wtm_at "zmem"); (· exact rfl); (· wtm_at "zd"); (· wtm_at "zd"); try wtm_at "zev")
  | ((with_reducible apply w_ninD); (· with_reducible assumption); (· wtm_at "zmem"); (· exact rfl); (· wtm_at "zd"); (· wtm_at "zd"); try wtm_at "zev")
  | ((with_reducible apply w_setl); (· with_reducible assumption); (· wtm_at "zup"); (· wtm_at "zat"); wtm_at "zno")
  | ((with_reducible apply w_setd); (· with_reducible assumption); (· wtm_at "zup"); (· exact rfl); (· wtm_at "zsz"); wtm_at "zno")
  | ((with_reducible apply w_itl); (· with_reducible assumption); (· wtm_at "zmem"))
  | ((with_reducible apply w_enu); (· with_reducible assumption); (· wtm_at "zmem"))
  | ((with_reducible apply w_dnw); (· with_reducible assumption); wtm_at "znew")
  | ((with_reducible apply w_dsp); (· with_reducible assumption); (intro l' h' hs'))
  | ((with_reducible apply w_pow); (· decide))
  | ((with_reducible apply w_mul); (· omega))
  | ((with_reducible apply w_mod); (· omega))
  | ((with_reducible apply w_fdiv); (· first | with_reducible assumption | decide))
  | with_reducible apply w_abs
  | ((with_reducible apply w_str); (· with_reducible assumption))
  | ((with_reducible apply w_listt); (· with_reducible assumption); wtm_at "znew")
  | ((with_reducible apply w_listr); (· with_reducible assumption); wtm_at "znew")
  | ((with_reducible apply w_listl); (· with_reducible assumption); (· wtm_at "zmem"); wtm_at "znew")
  | ((with_reducible apply w_tupl); (· with_reducible assumption); (· wtm_at "zmem"))
  | ((with_reducible apply w_slrB); (· with_reducible assumption); (· decide); (intro cs' hcs'; wtm_at "znew"))
  | ((with_reducible apply w_slrI); (· with_reducible assumption); (intro cs' hcs'; wtm_at "znew"))
  | ((with_reducible apply w_slr); (· with_reducible assumption); wtm_at "znew")
  | ((with_reducible apply w_sll); (· with_reducible assumption); (· wtm_at "zmem"); wtm_at "znew")
  | ((with_reducible apply w_sls); (· wtm_at "zsz"))
  | ((with_reducible apply w_lens); (· wtm_at "zsz"))
  | ((with_reducible apply w_adds); (· wtm_at "zsz"))
  | ((with_reducible apply w_addt); (· wtm_at "zsz"))
  | ((with_reducible apply w_gets); (· wtm_at "zsz"); (· wtm_at "zat"))
  | ((with_reducible apply w_getr); (· wtm_at "zat"))
  | ((with_reducible apply w_rev); (· with_reducible assumption); (· wtm_at "zup"); wtm_at "zno")
  | ((with_reducible apply w_ext); (· with_reducible assumption); (· wtm_at "zmem"); (· wtm_at "zup"); (· wtm_at "zsz"); wtm_at "zno")
  | ((with_reducible apply w_cnt); (· with_reducible assumption); (· wtm_at "zmem"); (· exact rfl); (· exact rfl); (· first | with_reducible assumption | (simp only [List.countP_cons, List.countP_nil, eqF, beq_self_eq_true, b_tb, b_fb, b_bt, b_bf, Bool.false_eq_true, Bool.not_true, Bool.not_false, if_true, if_false, Nat.reduceAdd]; exact rfl)))
  | ((with_reducible apply w_idx); (· with_reducible assumption); (· wtm_at "zmem"); (· exact rfl); (· exact rfl); (· first | with_reducible assumption | exact rfl); (· first | with_reducible assumption | (simp only [List.findIdx_cons, List.findIdx_nil, eqF, beq_self_eq_true, b_tb, b_fb, b_bt, b_bf, cond_true, cond_false, Bool.false_eq_true, Bool.not_true, Bool.not_false, if_true, if_false, Nat.reduceAdd]; exact rfl)))
  | ((with_reducible apply w_eqf); (· exact rfl))
  | ((with_reducible apply w_nef); (· exact rfl))
  | ((with_reducible apply w_eqd); (· exact rfl); (· wtm_at "zd"); (· wtm_at "zd"); try wtm_at "zev")
  | ((with_reducible apply w_eqDT); (· with_reducible assumption); (· wtm_at "zmem"))
  | ((with_reducible apply w_ned); (· exact rfl); (· wtm_at "zd"); (· wtm_at "zd"); try wtm_at "zev")
  | ((with_reducible apply w_rng1); (· first | with_reducible assumption | omega | decide))
  | with_reducible apply e_gsb
  | ((with_reducible apply w_srk); (· with_reducible assumption); (· wtm_at "zmem"); (· first | with_reducible assumption | exact dI_keys _ | exact rfl); (· first | with_reducible assumption | wtm_at "zln"); wtm_at "znew")
  | ((with_reducible apply w_lit); (· with_reducible assumption); (· wtm_at "zmem"); wtm_at "znew")
  | ((with_reducible apply w_srt); (· with_reducible assumption); (· wtm_at "zmem"); (· first | with_reducible assumption | exact intsOf_map _ | exact rfl); wtm_at "znew")
  | ((with_reducible apply w_remF); (· with_reducible assumption); (· wtm_at "zup"); (· with_reducible assumption); (· with_reducible assumption); wtm_at "zno")
  | ((with_reducible apply w_rem); (· with_reducible assumption); (· wtm_at "zup"); (· first | with_reducible assumption | exact intsOf_map _); (· with_reducible assumption); wtm_at "zno")
  | ((with_reducible apply w_zip); (· with_reducible assumption); (· wtm_at "zmem"); (· wtm_at "zmem"))
  | ((with_reducible apply w_rvsl); (· with_reducible assumption); (· wtm_at "zmem"); wtm_at "znew")
  | ((with_reducible apply w_sum); (· with_reducible assumption); (· wtm_at "zmem"))
  | ((with_reducible apply w_fdK); (· with_reducible assumption); (· wtm_at "zmem"))
  | ((with_reducible apply w_fdKM); (· with_reducible assumption); (· wtm_at "zmem"))
  | ((with_reducible apply w_fdV); (· with_reducible assumption); (· wtm_at "zmem"))
  | ((with_reducible apply w_fdI); (· with_reducible assumption); (· wtm_at "zmem"))
  | ((with_reducible apply w_alls); (· with_reducible assumption); (· wtm_at "zmem"); (· first | with_reducible assumption | exact rfl))
  | ((with_reducible apply w_cpN); (· wtm_at "zkp"))
  | ((with_reducible apply w_cpC); (· wtm_at "zkp"))
  | ((with_reducible apply w_mull); (· with_reducible assumption); (· wtm_at "zmem"); (· (rw [sizeLine_eq]; decide)); wtm_at "znew")
  | ((with_reducible apply w_join); (· with_reducible assumption); (· wtm_at "zmem"); (· exact rfl); (· decide))
  | ((with_reducible apply w_selT); (· (wtm_at "zgo"; wtm_at "zck")))
  | ((with_reducible apply w_selF); (· (wtm_at "zgo"; wtm_at "zck")))
  | fail)
local macro_rules | `(tactic| wtm_at "zb") => `(tactic| first
  | ((with_reducible apply w_brDP); (· first | with_reducible assumption | omega | decide))
  | ((with_reducible apply w_brDM); (· first | with_reducible assumption | omega | decide))
  | ((with_reducible apply w_brD) <;> intro hc)
  | ((with_reducible apply w_brSP); (· first | with_reducible assumption | exact rfl))
  | ((with_reducible apply w_brSM); (· first | with_reducible assumption))
  | ((with_reducible apply w_brS) <;> intro hc)
  | ((with_reducible apply w_brP); (· first | with_reducible assumption | exact rfl))
  | ((with_reducible apply w_brM); (· first | with_reducible assumption | exact rfl))
  | ((with_reducible apply w_br) <;> intro hc) | fail)
local macro_rules | `(tactic| wtm_at "zgo1") => `(tactic| first
  | wtm_at "zs"
  | ((with_reducible change wp _ _ _); first | wtm_at "zh" | wtm_at "zfn" | wtm_at "zix" | fail)
  | ((with_reducible apply w_kLst); (· with_reducible assumption); wtm_at "znew")
  | ((with_reducible apply w_kMetL); (· with_reducible assumption); (· wtm_at "zmem"))
  | ((with_reducible change kBr _ _ _ _); wtm_at "zb")
  | ((with_reducible apply w_kFld); (· with_reducible assumption); (· wtm_at "zmem"); (· wtm_at "zlk"))
  | ((with_reducible apply w_kMth1); (· with_reducible assumption); (· wtm_at "zmem"); (· wtm_at "zlk"))
  | ((with_reducible apply w_kNew1); (· with_reducible assumption); wtm_at "znew")
  | with_reducible apply w_fldS
  | with_reducible apply e_tryO
  | ((with_reducible apply w_kCu3); (· with_reducible assumption); (· wtm_at "zup"); (· wtm_at "zsz"); wtm_at "zno")
  | ((with_reducible apply w_tryOT); (· decide +kernel))
  | ((with_reducible apply w_tryOF); (· decide +kernel))
  | ((with_reducible apply w_forN); (· wtm_at "zkp"))
  | ((with_reducible apply w_kComp0); (· with_reducible assumption); (· exact w_kpC (Hs.app (by with_reducible assumption) _) (by simp)); wtm_at "znew")
  | ((with_reducible apply w_kFs2); (· with_reducible assumption); (· wtm_at "zup"); (· (simp only [List.length_cons, List.length_nil]; decide)); wtm_at "zno")
  | ((with_reducible apply w_kGt1); (· with_reducible assumption); (· wtm_at "zmem"))
  | ((with_reducible apply w_kGt2); (· with_reducible assumption); (· wtm_at "zmem"); (· first | with_reducible assumption | exact rfl))
  | ((with_reducible apply w_kPp1); (· with_reducible assumption); (· wtm_at "zmem"))
  | ((with_reducible apply w_kPp2); (· with_reducible assumption); (· wtm_at "zup"); (· exact rfl); (· first | with_reducible assumption | wtm_at "zgk" | exact rfl); wtm_at "zno")
  | with_reducible apply e_asg
  | with_reducible apply AllIn.cons | with_reducible exact AllIn.nil
  | ((with_reducible apply w_kDsp); (· with_reducible assumption); (· wtm_at "zup"); (· exact rfl); (· (simp only [List.length_cons, List.length_nil]; decide)); (· first | with_reducible assumption | (wtm_at "zdk"; exact rfl) | exact rfl); (intro h' hs'))
  | with_reducible apply e_tryK
  | ((with_reducible apply w_tryT); (· decide +kernel); (· (simp only [List.length_cons, List.length_nil]; decide)); (· (simp only [List.set_cons_zero, List.set_cons_succ]; exact rfl)))
  | ((with_reducible apply w_tryF); (· decide +kernel))
  | ((with_reducible apply w_aug); (· exact rfl))
  | ((with_reducible change ws _ _ _); wtm_at "zfs")
  | wtm_at "zxt"
  | fail)
local macro_rules | `(tactic| wtm_at "zext") => `(tactic| first
  | simp only [↓e_raiseF, ↓e_kRF1, ↓e_kRF2, ↓e_xf, ↓e_isFn, ↓e_isF0, ↓e_fst, ↓e_fsA0]
  | ((with_reducible apply w_isF); (· exact rfl); (· exact rfl))
  | ((with_reducible apply w_isFV); (· exact rfl))
  | ((with_reducible apply w_xf); (· exact rfl); (· exact rfl); (· exact rfl))
  | with_reducible apply w_fnd | with_reducible apply w_sw
  | ((with_reducible apply w_lstr); (· wtm_at "zsz"))
  | ((with_reducible apply w_spl); (· first | with_reducible assumption | exact rfl); (· wtm_at "zsz"); (· with_reducible assumption); wtm_at "znew")
  | ((with_reducible apply w_fmts); (· wtm_at "zsz"))
  | ((with_reducible apply w_fmti); (· with_reducible assumption))
  | ((with_reducible apply w_isiU); (· first | with_reducible assumption | exact rfl); (· exact rfl))
  | with_reducible apply w_fsA
  | ((with_reducible apply w_kJ); (· wtm_at "zsz"))
  | fail)
local macro_rules | `(tactic| wtm_at "zxt") => `(tactic| fail)
local macro_rules | `(tactic| wtm_at "zgo") => `(tactic| repeat' wtm_at "zgo1")
local macro_rules | `(tactic| wtm_at "zst") => `(tactic| ((simp only [List.map_cons, List.map_nil, List.length_cons, List.length_nil, Nat.reduceAdd, Nat.reduceSub, List.replicate_succ, List.replicate_zero, List.cons_append, List.nil_append]); exact rfl))
local macro_rules | `(tactic| wtm_at "zrun") => `(tactic| (apply w_run; (· wtm_at "zst"); wtm_at "zgo"))
local macro_rules | `(tactic| wtm_at "zsub") => `(tactic| first | with_reducible exact List.Sublist.refl _ | ((with_reducible apply List.Sublist.cons_cons); wtm_at "zsub") | ((with_reducible apply List.Sublist.cons); wtm_at "zsub") | with_reducible exact List.nil_sublist _ | fail)
local macro_rules | `(tactic| wtm_at "zhs") => `(tactic| exact Hs.sub (by with_reducible assumption) (by wtm_at "zsub"))
local macro_rules | `(tactic| wtm_at "zkp") => `(tactic| first | with_reducible exact keepB_nil | ((with_reducible apply keepB_cons); (· exact Hs.get (by with_reducible assumption) (by wtm_at "zmem")); wtm_at "zkp") | fail)
local macro_rules | `(tactic| wtm_at "zunr") => `(tactic| first | ((with_reducible apply w_forC); (· wtm_at "zkp")) | ((with_reducible apply w_forN); (· wtm_at "zkp")) | fail)
local macro_rules | `(tactic| wtm_at "zx") => `(tactic| (exfalso; simp_all; done))
local macro_rules | `(tactic| wtm_at "zrp") => `(tactic| first
  | with_reducible exact Rp.int _ | with_reducible exact Rp.str _ | with_reducible exact Rp.bl _ | with_reducible exact Rp.non | with_reducible exact Rps.nil | with_reducible assumption | with_reducible exact Rps.ints _
  | ((with_reducible apply Rps.cons); (· wtm_at "zrp"); (· wtm_at "zrp"))
  | ((with_reducible apply Rp.tup); (· (simp only [List.length_cons, List.length_nil]; decide)); (· wtm_at "zrp"))
  | ((with_reducible apply Rp.lst); (· wtm_at "zmem"); (· first | (simp only [List.length_cons, List.length_nil, List.length_map]; first | decide | omega) | omega); (· wtm_at "zrp")) | fail)
local macro_rules | `(tactic| wtm_at "zsame") => `(tactic| ((with_reducible apply same_s); (· with_reducible assumption); (· wtm_at "zrp"); (· wtm_at "zrp"); (· (simp only [dep, deps, dep_ints, Nat.max_self, Nat.max_zero, Nat.zero_max]; decide)); wtm_at "zno"))
local macro_rules | `(tactic| wtm_at "zpk") => `(tactic| first | with_reducible exact Pk.here | ((with_reducible apply Pk.there); wtm_at "zpk") | fail)
local macro_rules | `(tactic| wtm_at "zprm") => `(tactic| first | with_reducible exact Prm.nil | with_reducible exact Prm.same _ | ((with_reducible apply Prm.cons); (· wtm_at "zpk"); (· wtm_at "zprm")) | ((with_reducible apply Prm.drop); wtm_at "zprm") | fail)
local macro_rules | `(tactic| wtm_at "zhp") => `(tactic| exact Hs.prm (by with_reducible assumption) (by wtm_at "zprm"))
local macro_rules | `(tactic| wtm_at "zcu") => `(tactic| ((with_reducible apply w_kCompU); (· with_reducible assumption); wtm_at "znew"))
/-! ### what stands for which data -/
mutual
inductive Rp (L : List (Nat × LO)) : LV → PyData → Prop
  | non : Rp L .non .none
  | bl (b : Bool) : Rp L (.bl b) (.bool b)
  | int (i : Int) : Rp L (.int i) (.int i)
  | str (x : Str) : Rp L (.str x) (.str x)
  | tup {xs ds} (hl : xs.length ≤ 1000000) (r : Rps L xs ds) : Rp L (.tup xs) (.tuple ds)
  | lst {l xs ds} (m : (l, LO.lst xs) ∈ L) (hl : xs.length ≤ 1000000) (r : Rps L xs ds) : Rp L (.ref l) (.list ds)
inductive Rps (L : List (Nat × LO)) : List LV → List PyData → Prop
  | nil : Rps L [] []
  | cons {v d xs ds} (a : Rp L v d) (b : Rps L xs ds) : Rps L (v :: xs) (d :: ds)
end
mutual
def dep : PyData → Nat
  | .list ds => deps ds + 1
  | .tuple ds => deps ds + 1
  | _ => 0
def deps : List PyData → Nat
  | [] => 0
  | d :: ds => max (dep d) (deps ds)
end
mutual
theorem Rp.subD {L L' : List (Nat × LO)} (k : ∀ p ∈ L, p ∈ L') : ∀ (d : PyData) (v : LV), Rp L v d → Rp L' v d
  | .none, _, r => by cases r; exact .non
  | .bool _, _, r => by cases r; exact .bl _
  | .int _, _, r => by cases r; exact .int _
  | .str _, _, r => by cases r; exact .str _
  | .tuple ds, _, r => by cases r with | tup hl r => exact .tup hl (Rps.subD k ds _ r)
  | .list ds, _, r => by cases r with | lst m hl r => exact .lst (k _ m) hl (Rps.subD k ds _ r)
  | .dict _, _, r => by cases r
theorem Rps.subD {L L' : List (Nat × LO)} (k : ∀ p ∈ L, p ∈ L') : ∀ (d : List PyData) (v : List LV), Rps L v d → Rps L' v d
  | [], _, r => by cases r; exact .nil
  | d :: ds, _, r => by cases r with | cons a b => exact .cons (Rp.subD k d _ a) (Rps.subD k ds _ b)
end
theorem Rp.sub {L L' : List (Nat × LO)} {v : LV} {d : PyData} (r : Rp L v d) (k : ∀ p ∈ L, p ∈ L') : Rp L' v d := Rp.subD k d v r
theorem Rps.sub {L L' : List (Nat × LO)} {v : List LV} {d : List PyData} (r : Rps L v d) (k : ∀ p ∈ L, p ∈ L') : Rps L' v d := Rps.subD k d v r
theorem Rps.len {L : List (Nat × LO)} : ∀ {xs : List LV} {ds : List PyData}, Rps L xs ds → xs.length = ds.length
  | [], _, r => by cases r; rfl
  | _ :: _, _, r => by
    cases r with
    | cons a b => simp [Rps.len b]
theorem Rps.ints {L : List (Nat × LO)} : ∀ ns : List Int, Rps L (ns.map LV.int) (ns.map PyData.int)
  | [] => .nil
  | n :: ns => .cons (.int n) (Rps.ints ns)
theorem asBs_rep (n : Nat) : asBs (List.replicate n (LV.bl true)) = some (List.replicate n true) := by
  induction n with
  | zero => rfl
  | succ n ih => simp [List.replicate_succ, asBs, ih]
theorem all_rep (n : Nat) : (List.replicate n true).all id = true := by
  induction n with
  | zero => rfl
  | succ n ih => simp
theorem same_comp {n : Nat} {L : List (Nat × LO)} {xs ys : List LV} {ds : List PyData} {h : LH} {o : List (Nat × List LV)} {Q : LV → LH → Prop} {E : XP} {s0 s1 : Option LV}
    (ih : ∀ d, dep d < n → ∀ v u h, Rp L v d → Rp L u d → ∀ D ac, Hs h ((D, .lst ac) :: L) → wp (f__law_same n [v, u] h) (fun r h' => r = .bl true ∧ Hs h' ((D, .lst ac) :: L)) noX)
    (hs : Hs h L) (hd : deps ds < n) (rx : Rps L xs ds) (ry : Rps L ys ds) (hl : xs.length ≤ 1000000) (ho : ∀ p ∈ o, (p.1, LO.lst p.2) ∈ L) (H : ∀ D h' k, Hs h' ((D, .lst (List.replicate k (.bl true))) :: L) → Q (.ref D) h') :
    kComp (gTp [gNm 2, gNm 3]) yesT (callM (f__law_same n) (aCons (varM 2) (aCons (varM 3) aNil))) [s0, s1, none, none] Q E ⟨zipP xs ys, o⟩ h := by
  refine w_kComp (fun r ac L' => L' = L ∧ ∃ k xs' ys' ds', ac = List.replicate k (.bl true) ∧ r = zipP xs' ys' ∧ Rps L xs' ds' ∧ Rps L ys' ds' ∧ deps ds' < n ∧ k + xs'.length ≤ 1000000) hs ⟨rfl, 0, xs, ys, ds, rfl, rfl, rx, ry, hd, by omega⟩ ?_ ?_ ?_
  · rintro r ac L' ⟨rfl, _⟩
    exact ho
  · rintro x r ac L' D h' ⟨rfl, k, xs', ys', ds', rfl, e, rx, ry, hd, hk⟩ hs'
    cases rx with
    | nil => simp [zipP] at e
    | cons a1 b1 =>
      cases ry with
      | cons a2 b2 =>
        simp only [zipP, List.cons.injEq] at e
        obtain ⟨rfl, rfl⟩ := e
        simp only [deps] at hd
        rw [List.length_cons] at hk
        wtm_at "zgo"
        refine wp_use (ih _ (by omega) _ _ _ a1 a2 _ _ hs') ?_
        rintro _ h2 ⟨rfl, hs2⟩
        refine w_kCp3 hs2 (by rw [List.length_replicate, sizeLine_eq]; omega) ⟨rfl, k + 1, _, _, _, ?_, rfl, b1, b2, by omega, by omega⟩
        rw [List.replicate_succ']
  · rintro ac L' D h' ⟨rfl, k, xs', ys', ds', rfl, e, rx, ry, hd, hk⟩ hs'
    exact H _ _ _ hs'
theorem same_ok : ∀ (n : Nat) (d : PyData), dep d < n → ∀ (L : List (Nat × LO)) (v u : LV) (h : LH), Rp L v d → Rp L u d → Hs h L → wp (f__law_same n [v, u] h) (fun r h' => r = .bl true ∧ Hs h' L) noX
  | 0, _, hd, _, _, _, _, _, _, _ => by omega
  | n + 1, d, hd, L, v, u, h, rv, ru, hs => by
    apply i__law_same
    unfold b__law_same
    cases rv with
    | non => cases ru; wtm_at "zgo"; exact ⟨rfl, hs⟩
    | bl b => cases ru; wtm_at "zgo"; exact ⟨by simp, hs⟩
    | int i => cases ru; wtm_at "zgo"; exact ⟨by simp, hs⟩
    | str x => cases ru; wtm_at "zgo"; exact ⟨by simp, hs⟩
    | tup hl r =>
      cases ru with
      | tup hl2 r2 =>
        have e := r.len.trans r2.len.symm
        simp only [dep] at hd
        wtm_at "zgo"
        refine same_comp (fun d hd v u h rv ru D ac hs => same_ok n d hd _ v u h (rv.sub fun p hp => List.mem_cons_of_mem _ hp) (ru.sub fun p hp => List.mem_cons_of_mem _ hp) hs) hs (by omega) r r2 hl (by simp) ?_
        intro D h' k hs'
        wtm_at "zgo"
        refine w_alls hs' List.mem_cons_self (asBs_rep k) ⟨by rw [all_rep], hs'.tail⟩
    | lst m hl r =>
      cases ru with
      | lst m2 hl2 r2 =>
        have e := r.len.trans r2.len.symm
        simp only [dep] at hd
        wtm_at "zgo"
        refine same_comp (fun d hd v u h rv ru D ac hs => same_ok n d hd _ v u h (rv.sub fun p hp => List.mem_cons_of_mem _ hp) (ru.sub fun p hp => List.mem_cons_of_mem _ hp) hs) hs (by omega) r r2 hl (by simp [m, m2]) ?_
        intro D h' k hs'
        wtm_at "zgo"
        refine w_alls hs' List.mem_cons_self (asBs_rep k) ⟨by rw [all_rep], hs'.tail⟩
theorem same_s {n : Nat} {v u : LV} {d : PyData} {h : LH} {L : List (Nat × LO)} {Q : LV → LH → Prop} {E : XP} (hs : Hs h L) (rv : Rp L v d) (ru : Rp L u d) (hd : dep d < n) (H : ∀ h', Hs h' L → Q (.bl true) h') : wp (f__law_same n [v, u] h) Q E :=
  wp_use (same_ok n d hd L v u h rv ru hs) fun r h' ⟨e, z⟩ => by rw [e]; exact H h' z
theorem dep_ints (ns : List Int) : deps (ns.map PyData.int) = 0 := by
  induction ns with
  | nil => rfl
  | cons n ns ih => simp [deps, dep, ih]
end Lw

namespace Lw
open PySem PySem.Spec PyProof.Rows L2 Fw
local macro_rules | `(tactic| wtm_at "zmem") => `(tactic| first | with_reducible exact List.mem_cons_self | with_reducible assumption | ((with_reducible apply List.mem_cons_of_mem); wtm_at "zmem") | fail)
local macro_rules | `(tactic| wtm_at "zup") => `(tactic| first | with_reducible exact Up.here | with_reducible assumption | ((with_reducible apply Up.there); wtm_at "zup") | fail)
local macro_rules | `(tactic| wtm_at "zisi") => `(tactic| repeat (first | exact IsI.nil | apply IsI.cons))
local macro_rules | `(tactic| wtm_at "zsz") => `(tactic| first | with_reducible assumption | (rw [sizeLine_eq]; decide) | (simp only [sizeLine_eq, List.length_map, List.length_append, List.length_cons, List.length_nil]; omega) | fail)
local macro_rules | `(tactic| wtm_at "zat") => `(tactic| first | with_reducible assumption | exact rfl | fail)
local macro_rules | `(tactic| wtm_at "zkd") => `(tactic| first | with_reducible assumption | exact rfl | exact w_kdl (by assumption) (by wtm_at "zmem") | exact w_kdd (by assumption) (by wtm_at "zmem") | fail)
local macro_rules | `(tactic| wtm_at "zdk") => `(tactic| simp only [List.foldl_cons, List.foldl_nil, putL, hasK, getK, List.find?_cons, List.find?_nil, List.any_cons, List.any_nil, eqLV, eqLVs, ofS_beq, String.reduceBEq, Bool.or_false, Bool.false_or, Bool.and_false, Bool.and_true, Bool.false_eq_true, if_false, if_true, List.nil_append, List.cons_append, Option.map_some, Option.map_none, Option.isSome_some, Option.isSome_none])
local macro_rules | `(tactic| wtm_at "zgk") => `(tactic| simp only [getK_nil, getK_cons, eqLV, eqLVs, ofS_beq, String.reduceBEq, ibeq, decide_true, decide_false, Bool.and_false, Bool.and_true, Bool.false_eq_true, if_false, if_true, Option.isSome_some, Option.isSome_none])
local macro_rules | `(tactic| wtm_at "zln") => `(tactic| first | omega | (simp only [List.length_cons, List.length_nil]; omega) | fail)
local macro_rules | `(tactic| wtm_at "zalls") => `(tactic| first
  | ((with_reducible apply w_getlA); (· with_reducible assumption); (· wtm_at "zmem"); (· wtm_at "zln"); (· wtm_at "zln"); (repeat (with_reducible apply AllIn.cons)); (try with_reducible exact AllIn.nil))
  | ((with_reducible apply w_gettA); (· wtm_at "zln"); (· wtm_at "zln")) | fail)
local macro_rules | `(tactic| wtm_at "zlk") => `(tactic| first | with_reducible assumption | (simp only [List.lookup_cons, List.lookup_nil, ofS_beq, String.reduceBEq, Option.isSome_none, Option.isSome_some]; done) | (simp only [List.lookup_cons, List.lookup_nil, ofS_beq, String.reduceBEq]; exact rfl) | exact rfl | fail)
local macro_rules | `(tactic| wtm_at "zno") => `(tactic| (intro h' hs'; (try simp only [List.cons_append, List.nil_append, List.set_cons_zero, List.set_cons_succ, putA, ofS_eq, String.reduceEq, if_true, if_false] at hs')))
local macro_rules | `(tactic| wtm_at "znew") => `(tactic| (intro l' h' hs'; (try simp only [List.cons_append, List.nil_append, List.map_nil, srtI_nil, Int.reduceToNat, Int.toNat_zero, Int.toNat_one, List.replicate_zero, List.replicate_succ, List.flatten_nil, List.flatten_cons, List.append_nil] at hs')))
local macro_rules | `(tactic| wtm_at "zs") => `(tactic| simp only [↓e_isBL, ↓e_notBL, ↓e_kCu1, ↓e_kCu2, ↓e_rvs, ↓e_rvst, ↓e_itmD, ↓e_isRf, Bool.false_eq_true, eq_self, if_true, if_false, zipP, ↓e_fld, ↓e_kFs1, ↓e_mth, ↓e_kMth2, ↓e_new, ↓e_kNew2, ↓e_get, ↓e_dpop, ↓e_srk, ↓e_lit, ↓e_zipT, ↓e_kCp1, ↓e_kCp2T, ↓e_yesT, wipeL, srtI_nil, List.map_nil, ↓e_ok, ↓e_var0, ↓e_varS, ↓e_cst, ↓e_op, ↓e_kOp1, ↓e_kOp2, ↓e_un, ↓e_kUn, ↓e_call, ↓e_kCall, ↓e_nil, ↓e_cons, ↓e_kCons1, ↓e_kCons2, ↓e_tup, ↓e_kTup, ↓e_lst, ↓e_kB, ↓e_tst, ↓e_kBrT, ↓e_kBrF, ↓e_kBrN, ↓e_kNot, ↓e_kNotV, ↓e_wpAt, ↓e_wsAt, ↓e_andT, ↓e_orT, ↓e_notT, ↓e_andV, ↓e_orV, ↓e_notV, ↓e_ifE, ↓e_chn, ↓e_kChn1, ↓e_kChn2, ↓e_slc, ↓e_kSl1, ↓e_kSl2, ↓e_kSl3, ↓e_poN, ↓e_asI, ↓e_poS, ↓e_met, ↓e_kMet2, ↓e_kMetS, ↓e_seq, ↓e_kSeq, ↓e_nilS, ↓e_brk, ↓e_cnt, ↓e_expr, ↓e_kExp, ↓e_xS, ↓e_ret, ↓e_retN, ↓e_if, ↓e_asgN, ↓e_kAsg, ↓e_gnm0, ↓e_gnmS, ↓e_kSt, ↓e_gaN, ↓e_gaC, ↓e_kGc, ↓e_raise, ↓e_itmC, ↓e_itmE, ↓e_for, ↓e_kFor, ↓e_kFor2, ↓e_kNon, ↓e_xR, ↓e_kAug2, ↓e_prsN, ↓e_prsC, ↓e_kPr1, ↓e_kPr2, ↓e_kPr3, ↓e_kSb1, ↓e_kSb2, ↓e_comp, ↓e_add, ↓e_iadd, ↓e_sub, ↓e_neg, ↓e_lt, ↓e_le, ↓e_gt, ↓e_ge, ↓e_eqi, ↓e_nei, ↓e_eqs, ↓e_nes, ↓e_eqb, ↓e_neb, ↓e_max, ↓e_min, ↓e_lent, ↓e_lenr, ↓e_isN, ↓e_notN, ↓e_itt, ↓e_itr, ↓e_its, ↓e_enur, ↓e_strs, ↓e_inti, ↓e_intb, ↓e_tupt, ↓e_slt, ↓e_isiI, ↓e_isiS, ↓e_isiT, ↓e_isiN, ↓e_isiB, ↓e_isiR, ofS_beq, String.reduceBEq, isK, decide_true, decide_false, Bool.not_true, Bool.not_false, Bool.and_true, Bool.and_false, Bool.true_and, Bool.false_and, Bool.not_not, b_tb, b_fb, b_bt, b_bf, List.length_cons, List.length_nil, Nat.reduceAdd, List.set_cons_zero, List.set_cons_succ])
local macro_rules | `(tactic| wtm_at "zaf") => `(tactic| simp only [List.any_cons, List.any_nil, eqF, ofS_beq, String.reduceBEq, beq_self_eq_true, ibeq, Bool.or_false, Bool.false_or, Bool.or_true, Bool.true_or])
local macro_rules | `(tactic| wtm_at "zsok") => `(tactic| first | with_reducible assumption | decide +kernel | fail)
local macro_rules | `(tactic| wtm_at "zd") => `(tactic| first
  | with_reducible exact d_int | with_reducible exact d_bl | with_reducible exact d_non | ((with_reducible apply d_str); wtm_at "zsok")
  | with_reducible exact oa_nil | ((with_reducible apply oa_cons); (· wtm_at "zd"); (· wtm_at "zd"))
  | ((with_reducible apply d_tup); wtm_at "zd") | ((with_reducible apply d_lst); (· with_reducible assumption); (· wtm_at "zmem"); (· wtm_at "zd")) | with_reducible assumption | fail)
local macro_rules | `(tactic| wtm_at "zev") => `(tactic| simp only [PyData.eqv, PyData.eqvAll, List.any_cons, List.any_nil, Bool.or_false, Bool.false_or, Bool.or_true, Bool.true_or, beq_self_eq_true, Bool.and_true, Bool.true_and, Bool.and_false, Bool.false_and, ofS_beq, String.reduceBEq, ibeq])
local macro_rules | `(tactic| wtm_at "zck") => `(tactic| first
  | exact isC_t (by with_reducible assumption) (by wtm_at "zmem") | exact isC_f (by with_reducible assumption) (by wtm_at "zmem") (by simp only [ne_eq, ofS_eq, String.reduceEq, not_false_eq_true]) | exact isC_fl (by with_reducible assumption) (by wtm_at "zmem") | exact isC_fd (by with_reducible assumption) (by wtm_at "zmem")
  | exact isLst_t (by with_reducible assumption) (by wtm_at "zmem") | exact isLst_fd (by with_reducible assumption) (by wtm_at "zmem") | exact isLst_fi (by with_reducible assumption) (by wtm_at "zmem")
  | exact isDct_t (by with_reducible assumption) (by wtm_at "zmem") | exact isDct_fi (by with_reducible assumption) (by wtm_at "zmem") | exact isDct_fl (by with_reducible assumption) (by wtm_at "zmem") | exact rfl | fail)
local macro_rules | `(tactic| wtm_at "zh") => `(tactic| first
  | ((with_reducible apply w_getl); (· with_reducible assumption); (· wtm_at "zmem"); (· wtm_at "zat"))
  | ((with_reducible apply w_gett); (· wtm_at "zat"))
  | ((with_reducible apply w_getd); (· with_reducible assumption); (· wtm_at "zmem"); (· exact rfl); (· first | with_reducible assumption | (wtm_at "zgk"; exact rfl) | exact rfl))
  | ((with_reducible apply w_isl); (· with_reducible assumption); (· wtm_at "zmem"))
  | ((with_reducible apply w_isd); (· with_reducible assumption); (· wtm_at "zmem"))
  | ((with_reducible apply w_isi); (· with_reducible assumption))
  | ((with_reducible apply w_lenl); (· with_reducible assumption); (· wtm_at "zmem"))
  | ((with_reducible apply w_app); (· with_reducible assumption); (· wtm_at "zup"); (· wtm_at "zsz"); wtm_at "zno")
  | ((with_reducible apply w_addl); (· with_reducible assumption); (· wtm_at "zmem"); (· wtm_at "zmem"); (· wtm_at "zsz"); wtm_at "znew")
  | ((with_reducible apply w_isNx); (· exact rfl)) | ((with_reducible apply w_notNx); (· exact rfl))
  | ((with_reducible apply w_gtp); (· first | exact rfl | exact w_sqL (by with_reducible assumption) (by wtm_at "zmem")); (· exact rfl))
  | ((with_reducible apply w_isiE); (· exact rfl))
  | ((with_reducible apply w_isiV); (· decide +kernel))
  | ((with_reducible apply w_isiNo); (· decide +kernel))
  | ((with_reducible apply w_inT); (· exact rfl); (· exact rfl); try wtm_at "zaf")
  | ((with_reducible apply w_ninT); (· exact rfl); (· exact rfl); try wtm_at "zaf")
  | ((with_reducible apply w_ind); (· with_reducible assumption); (· wtm_at "zmem"); (· exact rfl); try wtm_at "zgk")
  | ((with_reducible apply w_nind); (· with_reducible assumption); (· wtm_at "zmem"); (· exact rfl); try wtm_at "zgk")
  | ((with_reducible apply w_inI); (· with_reducible assumption); (· wtm_at "zmem"))
  | ((with_reducible apply w_ninI); (· with_reducible assumption); (· wtm_at "zmem"))
  | ((with_reducible apply w_inL); (· with_reducible assumption); (· wtm_at "zmem"); (· exact rfl); (· exact rfl); try wtm_at "zaf")
  | ((with_reducible apply w_ninL); (· with_reducible assumption); (· wtm_at "zmem"); (· exact rfl); (· exact rfl); (· exact rfl); try wtm_at "zaf")
  | ((with_reducible apply w_inD); (· with_reducible assumption); (· wtm_at "zmem"); (· exact rfl); (· wtm_at "zd"); (· wtm_at "zd"); try wtm_at "zev")
  | ((with_reducible apply w_ninD); (· with_reducible assumption); (· wtm_at "zmem"); (· exact rfl); (· wtm_at "zd"); (· wtm_at "zd"); try wtm_at "zev")
  | ((with_reducible apply w_setl); (· with_reducible assumption); (· wtm_at "zup"); (· wtm_at "zat"); wtm_at "zno")
  | ((with_reducible apply w_setd); (· with_reducible assumption); (· wtm_at "zup"); (· exact rfl); (· wtm_at "zsz"); wtm_at "zno")
  | ((with_reducible apply w_itl); (· with_reducible assumption); (· wtm_at "zmem"))
  | ((with_reducible apply w_enu); (· with_reducible assumption); (· wtm_at "zmem"))
  | ((with_reducible apply w_dnw); (· with_reducible assumption); wtm_at "znew")
  | ((with_reducible apply w_dsp); (· with_reducible assumption); (intro l' h' hs'))
  | ((with_reducible apply w_pow); (· decide))
  | ((with_reducible apply w_mul); (· omega))
  | ((with_reducible apply w_mod); (· omega))
  | ((with_reducible apply w_fdiv); (· first | with_reducible assumption | decide))
  | with_reducible apply w_abs
  | ((with_reducible apply w_str); (· with_reducible assumption))
  | ((with_reducible apply w_listt); (· with_reducible assumption); wtm_at "znew")
  | ((with_reducible apply w_listr); (· with_reducible assumption); wtm_at "znew")
  | ((with_reducible apply w_listl); (· with_reducible assumption); (· wtm_at "zmem"); wtm_at "znew")
  | ((with_reducible apply w_tupl); (· with_reducible assumption); (· wtm_at "zmem"))
  | ((with_reducible apply w_slrB); (· with_reducible assumption); (· decide); (intro cs' hcs'; wtm_at "znew"))
  | ((with_reducible apply w_slrI); (· with_reducible assumption); (intro cs' hcs'; wtm_at "znew"))
  | ((with_reducible apply w_slr); (· with_reducible assumption); wtm_at "znew")
  | ((with_reducible apply w_sll); (· with_reducible assumption); (· wtm_at "zmem"); wtm_at "znew")
  | ((with_reducible apply w_sls); (· wtm_at "zsz"))
  | ((with_reducible apply w_lens); (· wtm_at "zsz"))
  | ((with_reducible apply w_adds); (· wtm_at "zsz"))
  | ((with_reducible apply w_addt); (· wtm_at "zsz"))
  | ((with_reducible apply w_gets); (· wtm_at "zsz"); (· wtm_at "zat"))
  | ((with_reducible apply w_getr); (· wtm_at "zat"))
  | ((with_reducible apply w_rev); (· with_reducible assumption); (· wtm_at "zup"); wtm_at "zno")
  | ((with_reducible apply w_ext); (· with_reducible assumption); (· wtm_at "zmem"); (· wtm_at "zup"); (· wtm_at "zsz"); wtm_at "zno")
  | ((with_reducible apply w_cnt); (· with_reducible assumption); (· wtm_at "zmem"); (· exact rfl); (· exact rfl); (· first | with_reducible assumption | (simp only [List.countP_cons, List.countP_nil, eqF, beq_self_eq_true, b_tb, b_fb, b_bt, b_bf, Bool.false_eq_true, Bool.not_true, Bool.not_false, if_true, if_false, Nat.reduceAdd]; exact rfl)))
  | ((with_reducible apply w_idx); (· with_reducible assumption); (· wtm_at "zmem"); (· exact rfl); (· exact rfl); (· first | with_reducible assumption | exact rfl); (· first | with_reducible assumption | (simp only [List.findIdx_cons, List.findIdx_nil, eqF, beq_self_eq_true, b_tb, b_fb, b_bt, b_bf, cond_true, cond_false, Bool.false_eq_true, Bool.not_true, Bool.not_false, if_true, if_false, Nat.reduceAdd]; exact rfl)))
  | ((with_reducible apply w_eqf); (· exact rfl))
  | ((with_reducible apply w_nef); (· exact rfl))
  | ((with_reducible apply w_eqd); (· exact rfl); (· wtm_at "zd"); (· wtm_at "zd"); try wtm_at "zev")
  | ((with_reducible apply w_eqDT); (· with_reducible assumption); (· wtm_at "zmem"))
  | ((with_reducible apply w_ned); (· exact rfl); (· wtm_at "zd"); (· wtm_at "zd"); try wtm_at "zev")
  | ((with_reducible apply w_rng1); (· first | with_reducible assumption | omega | decide))
  | with_reducible apply e_gsb
  | ((with_reducible apply w_srk); (· with_reducible assumption); (· wtm_at "zmem"); (· first | with_reducible assumption | exact dI_keys _ | exact rfl); (· first | with_reducible assumption | wtm_at "zln"); wtm_at "znew")
  | ((with_reducible apply w_lit); (· with_reducible assumption); (· wtm_at "zmem"); wtm_at "znew")
  | ((with_reducible apply w_srt); (· with_reducible assumption); (· wtm_at "zmem"); (· first | with_reducible assumption | exact intsOf_map _ | exact rfl); wtm_at "znew")
  | ((with_reducible apply w_remF); (· with_reducible assumption); (· wtm_at "zup"); (· with_reducible assumption); (· with_reducible assumption); wtm_at "zno")
  | ((with_reducible apply w_rem); (· with_reducible assumption); (· wtm_at "zup"); (· first | with_reducible assumption | exact intsOf_map _); (· with_reducible assumption); wtm_at "zno")
  | ((with_reducible apply w_zip); (· with_reducible assumption); (· wtm_at "zmem"); (· wtm_at "zmem"))
  | ((with_reducible apply w_rvsl); (· with_reducible assumption); (· wtm_at "zmem"); wtm_at "znew")
  | ((with_reducible apply w_sum); (· with_reducible assumption); (· wtm_at "zmem"))
  | ((with_reducible apply w_fdK); (· with_reducible assumption); (· wtm_at "zmem"))
  | ((with_reducible apply w_fdKM); (· with_reducible assumption); (· wtm_at "zmem"))
  | ((with_reducible apply w_fdV); (· with_reducible assumption); (· wtm_at "zmem"))
  | ((with_reducible apply w_fdI); (· with_reducible assumption); (· wtm_at "zmem"))
  | ((with_reducible apply w_alls); (· with_reducible assumption); (· wtm_at "zmem"); (· first | with_reducible assumption | exact rfl))
  | ((with_reducible apply w_cpN); (· wtm_at "zkp"))
  | ((with_reducible apply w_cpC); (· wtm_at "zkp"))
  | ((with_reducible apply w_mull); (· with_reducible assumption); (· wtm_at "zmem"); (· (rw [sizeLine_eq]; decide)); wtm_at "znew")
  | ((with_reducible apply w_join); (· with_reducible assumption); (· wtm_at "zmem"); (· exact rfl); (· decide))
  | ((with_reducible apply w_selT); (· (wtm_at "zgo"; wtm_at "zck")))
  | ((with_reducible apply w_selF); (· (wtm_at "zgo"; wtm_at "zck")))
  | fail)
local macro_rules | `(tactic| wtm_at "zb") => `(tactic| first
  | ((with_reducible apply w_brDP); (· first | with_reducible assumption | omega | decide))
  | ((with_reducible apply w_brDM); (· first | with_reducible assumption | omega | decide))
  | ((with_reducible apply w_brD) <;> intro hc)
  | ((with_reducible apply w_brSP); (· first | with_reducible assumption | exact rfl))
  | ((with_reducible apply w_brSM); (· first | with_reducible assumption))
  | ((with_reducible apply w_brS) <;> intro hc)
  | ((with_reducible apply w_brP); (· first | with_reducible assumption | exact rfl))
  | ((with_reducible apply w_brM); (· first | with_reducible assumption | exact rfl))
  | ((with_reducible apply w_br) <;> intro hc) | fail)
local macro_rules | `(tactic| wtm_at "zgo1") => `(tactic| first
  | wtm_at "zs"
  | ((with_reducible change wp _ _ _); first | wtm_at "zh" | wtm_at "zfn" | wtm_at "zix" | fail)
  | ((with_reducible apply w_kLst); (· with_reducible assumption); wtm_at "znew")
  | ((with_reducible apply w_kMetL); (· with_reducible assumption); (· wtm_at "zmem"))
  | ((with_reducible change kBr _ _ _ _); wtm_at "zb")
  | ((with_reducible apply w_kFld); (· with_reducible assumption); (· wtm_at "zmem"); (· wtm_at "zlk"))
  | ((with_reducible apply w_kMth1); (· with_reducible assumption); (· wtm_at "zmem"); (· wtm_at "zlk"))
  | ((with_reducible apply w_kNew1); (· with_reducible assumption); wtm_at "znew")
  | with_reducible apply w_fldS
  | with_reducible apply e_tryO
  | ((with_reducible apply w_kCu3); (· with_reducible assumption); (· wtm_at "zup"); (· wtm_at "zsz"); wtm_at "zno")
  | ((with_reducible apply w_tryOT); (· decide +kernel))
  | ((with_reducible apply w_tryOF); (· decide +kernel))
  | ((with_reducible apply w_forN); (· wtm_at "zkp"))
  | ((with_reducible apply w_kComp0); (· with_reducible assumption); (· exact w_kpC (Hs.app (by with_reducible assumption) _) (by simp)); wtm_at "znew")
  | ((with_reducible apply w_kFs2); (· with_reducible assumption); (· wtm_at "zup"); (· (simp only [List.length_cons, List.length_nil]; decide)); wtm_at "zno")
  | ((with_reducible apply w_kGt1); (· with_reducible assumption); (· wtm_at "zmem"))
  | ((with_reducible apply w_kGt2); (· with_reducible assumption); (· wtm_at "zmem"); (· first | with_reducible assumption | exact rfl))
  | ((with_reducible apply w_kPp1); (· with_reducible assumption); (· wtm_at "zmem"))
  | ((with_reducible apply w_kPp2); (· with_reducible assumption); (· wtm_at "zup"); (· exact rfl); (· first | with_reducible assumption | wtm_at "zgk" | exact rfl); wtm_at "zno")
  | with_reducible apply e_asg
  | with_reducible apply AllIn.cons | with_reducible exact AllIn.nil
  | ((with_reducible apply w_kDsp); (· with_reducible assumption); (· wtm_at "zup"); (· exact rfl); (· (simp only [List.length_cons, List.length_nil]; decide)); (· first | with_reducible assumption | (wtm_at "zdk"; exact rfl) | exact rfl); (intro h' hs'))
  | with_reducible apply e_tryK
  | ((with_reducible apply w_tryT); (· decide +kernel); (· (simp only [List.length_cons, List.length_nil]; decide)); (· (simp only [List.set_cons_zero, List.set_cons_succ]; exact rfl)))
  | ((with_reducible apply w_tryF); (· decide +kernel))
  | ((with_reducible apply w_aug); (· exact rfl))
  | ((with_reducible change ws _ _ _); wtm_at "zfs")
  | wtm_at "zxt"
  | fail)
local macro_rules | `(tactic| wtm_at "zext") => `(tactic| first
  | simp only [↓e_raiseF, ↓e_kRF1, ↓e_kRF2, ↓e_xf, ↓e_isFn, ↓e_isF0, ↓e_fst, ↓e_fsA0]
  | ((with_reducible apply w_isF); (· exact rfl); (· exact rfl))
  | ((with_reducible apply w_isFV); (· exact rfl))
  | ((with_reducible apply w_xf); (· exact rfl); (· exact rfl); (· exact rfl))
  | with_reducible apply w_fnd | with_reducible apply w_sw
  | ((with_reducible apply w_lstr); (· wtm_at "zsz"))
  | ((with_reducible apply w_spl); (· first | with_reducible assumption | exact rfl); (· wtm_at "zsz"); (· with_reducible assumption); wtm_at "znew")
  | ((with_reducible apply w_fmts); (· wtm_at "zsz"))
  | ((with_reducible apply w_fmti); (· with_reducible assumption))
  | ((with_reducible apply w_isiU); (· first | with_reducible assumption | exact rfl); (· exact rfl))
  | with_reducible apply w_fsA
  | ((with_reducible apply w_kJ); (· wtm_at "zsz"))
  | fail)
local macro_rules | `(tactic| wtm_at "zxt") => `(tactic| fail)
local macro_rules | `(tactic| wtm_at "zgo") => `(tactic| repeat' wtm_at "zgo1")
local macro_rules | `(tactic| wtm_at "zst") => `(tactic| ((simp only [List.map_cons, List.map_nil, List.length_cons, List.length_nil, Nat.reduceAdd, Nat.reduceSub, List.replicate_succ, List.replicate_zero, List.cons_append, List.nil_append]); exact rfl))
local macro_rules | `(tactic| wtm_at "zrun") => `(tactic| (apply w_run; (· wtm_at "zst"); wtm_at "zgo"))
local macro_rules | `(tactic| wtm_at "zsub") => `(tactic| first | with_reducible exact List.Sublist.refl _ | ((with_reducible apply List.Sublist.cons_cons); wtm_at "zsub") | ((with_reducible apply List.Sublist.cons); wtm_at "zsub") | with_reducible exact List.nil_sublist _ | fail)
local macro_rules | `(tactic| wtm_at "zhs") => `(tactic| exact Hs.sub (by with_reducible assumption) (by wtm_at "zsub"))
local macro_rules | `(tactic| wtm_at "zkp") => `(tactic| first | with_reducible exact keepB_nil | ((with_reducible apply keepB_cons); (· exact Hs.get (by with_reducible assumption) (by wtm_at "zmem")); wtm_at "zkp") | fail)
local macro_rules | `(tactic| wtm_at "zunr") => `(tactic| first | ((with_reducible apply w_forC); (· wtm_at "zkp")) | ((with_reducible apply w_forN); (· wtm_at "zkp")) | fail)
local macro_rules | `(tactic| wtm_at "zx") => `(tactic| (exfalso; simp_all; done))
local macro_rules | `(tactic| wtm_at "zrp") => `(tactic| first
  | with_reducible exact Rp.int _ | with_reducible exact Rp.str _ | with_reducible exact Rp.bl _ | with_reducible exact Rp.non | with_reducible exact Rps.nil | with_reducible assumption | with_reducible exact Rps.ints _
  | ((with_reducible apply Rps.cons); (· wtm_at "zrp"); (· wtm_at "zrp"))
  | ((with_reducible apply Rp.tup); (· (simp only [List.length_cons, List.length_nil]; decide)); (· wtm_at "zrp"))
  | ((with_reducible apply Rp.lst); (· wtm_at "zmem"); (· first | (simp only [List.length_cons, List.length_nil, List.length_map]; first | decide | omega) | omega); (· wtm_at "zrp")) | fail)
local macro_rules | `(tactic| wtm_at "zsame") => `(tactic| ((with_reducible apply same_s); (· with_reducible assumption); (· wtm_at "zrp"); (· wtm_at "zrp"); (· (simp only [dep, deps, dep_ints, Nat.max_self, Nat.max_zero, Nat.zero_max]; decide)); wtm_at "zno"))
local macro_rules | `(tactic| wtm_at "zpk") => `(tactic| first | with_reducible exact Pk.here | ((with_reducible apply Pk.there); wtm_at "zpk") | fail)
local macro_rules | `(tactic| wtm_at "zprm") => `(tactic| first | with_reducible exact Prm.nil | with_reducible exact Prm.same _ | ((with_reducible apply Prm.cons); (· wtm_at "zpk"); (· wtm_at "zprm")) | ((with_reducible apply Prm.drop); wtm_at "zprm") | fail)
local macro_rules | `(tactic| wtm_at "zhp") => `(tactic| exact Hs.prm (by with_reducible assumption) (by wtm_at "zprm"))
local macro_rules | `(tactic| wtm_at "zcu") => `(tactic| ((with_reducible apply w_kCompU); (· with_reducible assumption); wtm_at "znew"))
set_option maxRecDepth 100000
set_option maxHeartbeats 4000000
section
open PySem PySem.Spec PyProof.Rows L2 Fw
/-! ### the meanings -/
def b_is_weak : LS :=
  (retS (andV (callM isiL (aCons (varM 0) (aCons (cst (.ty .str)) aNil))) (opM inA (varM 0) (tupM (aCons (cst (.str "m")) (aCons (cst (.str "n")) aNil))))))
def f_is_weak : List LV → M LV := runB 1 b_is_weak
theorem i_is_weak {v0 : LV} {h : LH} {Q : LV → LH → Prop} {E : XP} (H : ws (b_is_weak [some v0] h) (kNon Q) ⟨Q, kNo, kNo, xR E⟩) : wp (f_is_weak [v0] h) Q E := w_run rfl H
def b_is_glance : LS :=
  (retS (andV (callM isiL (aCons (varM 0) (aCons (cst (.ty .str)) aNil))) (opM inA (varM 0) (tupM (aCons (cst (.str "u")) (aCons (cst (.str "v")) aNil))))))
def f_is_glance : List LV → M LV := runB 1 b_is_glance
theorem i_is_glance {v0 : LV} {h : LH} {Q : LV → LH → Prop} {E : XP} (H : ws (b_is_glance [some v0] h) (kNon Q) ⟨Q, kNo, kNo, xR E⟩) : wp (f_is_glance [v0] h) Q E := w_run rfl H
def b_Sights___init__ : LS :=
  (fldS "Sights" "views" (varM 0) (dnwM true))
def f_Sights___init__ : List LV → M LV := runB 1 b_Sights___init__
theorem i_Sights___init__ {v0 : LV} {h : LH} {Q : LV → LH → Prop} {E : XP} (H : ws (b_Sights___init__ [some v0] h) (kNon Q) ⟨Q, kNo, kNo, xR E⟩) : wp (f_Sights___init__ [v0] h) Q E := w_run rfl H
def b_Sights_seen : LS :=
  (retS (compM (itmE (srkN (fldM "Sights" "views" (varM 0)))) (gNm 1) yesT (tupM (aCons (varM 1) (aCons (opM getA (fldM "Sights" "views" (varM 0)) (varM 1)) aNil))) [1]))
def f_Sights_seen : List LV → M LV := runB 2 b_Sights_seen
theorem i_Sights_seen {v0 : LV} {h : LH} {Q : LV → LH → Prop} {E : XP} (H : ws (b_Sights_seen [some v0, none] h) (kNon Q) ⟨Q, kNo, kNo, xR E⟩) : wp (f_Sights_seen [v0] h) Q E := w_run rfl H
def b__law_all : LS :=
  (seqS (asgS (compM (itmC rng1 (aCons (cst (.int 8)) aNil)) (gNm 1) yesT (tupM (aCons (cst (.str "glance")) (aCons (opM fdivL (varM 1) (cst (.int 2))) (aCons (opM getA (cst (.str "uv")) (opM modL (varM 1) (cst (.int 2)))) aNil)))) [1]) (gNm 0))
  (retS (opM addL (varM 0) (lstM (aCons (tupM (aCons (cst (.str "weak")) (aCons (cst (.str "m")) aNil))) (aCons (tupM (aCons (cst (.str "weak")) (aCons (cst (.str "n")) aNil))) aNil))))))
def f__law_all : List LV → M LV := runB 2 b__law_all
theorem i__law_all {h : LH} {Q : LV → LH → Prop} {E : XP} (H : ws (b__law_all [none, none] h) (kNon Q) ⟨Q, kNo, kNo, xR E⟩) : wp (f__law_all [] h) Q E := w_run rfl H
def b_is_hand : LS :=
  (retS (andV (callM f_is_whole (aCons (varM 0) aNil)) (chnM leL leL (cst (.int 0)) (varM 0) (cst (.int 3)))))
def f_is_hand : List LV → M LV := runB 1 b_is_hand
theorem i_is_hand {v0 : LV} {h : LH} {Q : LV → LH → Prop} {E : XP} (H : ws (b_is_hand [some v0] h) (kNon Q) ⟨Q, kNo, kNo, xR E⟩) : wp (f_is_hand [v0] h) Q E := w_run rfl H
def b_is_thing : LS :=
  (retS (andV (callM f_is_whole (aCons (varM 0) aNil)) (opM geL (varM 0) (cst (.int 0)))))
def f_is_thing : List LV → M LV := runB 1 b_is_thing
theorem i_is_thing {v0 : LV} {h : LH} {Q : LV → LH → Prop} {E : XP} (H : ws (b_is_thing [some v0] h) (kNon Q) ⟨Q, kNo, kNo, xR E⟩) : wp (f_is_thing [v0] h) Q E := w_run rfl H
def b_is_sight : LS :=
  (seqS (ifS (orT (notT (tstM (callM isiL (aCons (varM 0) (aCons (cst (.ty .tuple)) aNil))))) (tstM (opM ltL (callM lenL (aCons (varM 0) aNil)) (cst (.int 2)))))
  (retS (cst (.bl false)))
  nilS)
  (seqS (ifS (notT (tstM (callM isiL (aCons (opM getA (varM 0) (cst (.int 0))) (aCons (cst (.ty .str)) aNil)))))
  (retS (cst (.bl false)))
  nilS)
  (seqS (ifS (tstM (opM eqL (opM getA (varM 0) (cst (.int 0))) (cst (.str "weak"))))
  (retS (andV (opM eqL (callM lenL (aCons (varM 0) aNil)) (cst (.int 2))) (callM f_is_weak (aCons (opM getA (varM 0) (cst (.int 1))) aNil))))
  nilS)
  (seqS (ifS (tstM (opM eqL (opM getA (varM 0) (cst (.int 0))) (cst (.str "glance"))))
  (retS (andV (opM eqL (callM lenL (aCons (varM 0) aNil)) (cst (.int 3))) (andV (callM f_is_hand (aCons (opM getA (varM 0) (cst (.int 1))) aNil)) (callM f_is_glance (aCons (opM getA (varM 0) (cst (.int 2))) aNil)))))
  nilS)
  (retS (cst (.bl false)))))))
def f_is_sight : List LV → M LV := runB 1 b_is_sight
theorem i_is_sight {v0 : LV} {h : LH} {Q : LV → LH → Prop} {E : XP} (H : ws (b_is_sight [some v0] h) (kNon Q) ⟨Q, kNo, kNo, xR E⟩) : wp (f_is_sight [v0] h) Q E := w_run rfl H
def b_Sights_at : LS :=
  (seqS (ifS (notT (tstM (callM f_is_sight (aCons (varM 1) aNil))))
  (raiseS "NoPlace")
  nilS)
  (retS (getM (fldM "Sights" "views" (varM 0)) (varM 1))))
def f_Sights_at : List LV → M LV := runB 2 b_Sights_at
theorem i_Sights_at {v0 v1 : LV} {h : LH} {Q : LV → LH → Prop} {E : XP} (H : ws (b_Sights_at [some v0, some v1] h) (kNon Q) ⟨Q, kNo, kNo, xR E⟩) : wp (f_Sights_at [v0, v1] h) Q E := w_run rfl H
def b_Sights_look : LS :=
  (seqS (asgS (mthM "Sights" "at" f_Sights_at (varM 0) (aCons (varM 1) aNil)) (gNm 3))
  (seqS (ifS (andT (tstM (opM notNL (varM 2) (cst .non))) (notT (tstM (callM f_is_thing (aCons (varM 2) aNil)))))
  (raiseS "NoThing")
  nilS)
  (seqS (ifS (tstM (opM isNL (varM 2) (cst .non)))
  (exprS (metM isDT popT (fldM "Sights" "views" (varM 0)) (aCons (varM 1) (aCons (cst .non) aNil))))
  (asgS (varM 2) (gSb (fldM "Sights" "views" (varM 0)) (varM 1))))
  (retS (varM 3)))))
def f_Sights_look : List LV → M LV := runB 4 b_Sights_look
theorem i_Sights_look {v0 v1 v2 : LV} {h : LH} {Q : LV → LH → Prop} {E : XP} (H : ws (b_Sights_look [some v0, some v1, some v2, none] h) (kNon Q) ⟨Q, kNo, kNo, xR E⟩) : wp (f_Sights_look [v0, v1, v2] h) Q E := w_run rfl H
/-! ### sights -/
def every : List (List Key) := [[.inr "glance", .inl 0, .inr "u"], [.inr "glance", .inl 0, .inr "v"], [.inr "glance", .inl 1, .inr "u"], [.inr "glance", .inl 1, .inr "v"], [.inr "glance", .inl 2, .inr "u"], [.inr "glance", .inl 2, .inr "v"], [.inr "glance", .inl 3, .inr "u"], [.inr "glance", .inl 3, .inr "v"], [.inr "weak", .inr "m"], [.inr "weak", .inr "n"]]
def rkS (k : List Key) : Nat := every.findIdx fun a => decide (a = k)
theorem rk_lt : ∀ a ∈ every, ∀ b ∈ every, W.dataLt (keyD a) (keyD b) = decide (rkS a < rkS b) := by decide +kernel
theorem rk_inj : ∀ a ∈ every, ∀ b ∈ every, rkS a = rkS b → a = b := by decide +kernel
theorem every_rk : every.Pairwise fun a b => rkS a < rkS b := by decide +kernel
theorem ev_cok : ∀ a ∈ every, ∀ b ∈ every, cok (keyD a) (keyD b) = true := by decide +kernel
theorem ev_head : ∀ a ∈ every, headK (keyD a) = some true := by decide +kernel
theorem ev_pur : ∀ a ∈ every, pur (keyD a) = true := by decide +kernel
theorem ev_dep : ∀ a ∈ every, (keyD a).depth ≤ 8 := by decide +kernel
abbrev ov (o : Option Int) : LV := (o.map LV.int).getD .non
def setS (M : TM) (k : List Key) : Option Int → TM
  | some i => putM M k i
  | none => delM M k
theorem delS_no {M : TM} {k : List Key} (h : lkM M k = none) : delM M k = M := by
  have h := lkM_no.mp h
  unfold delM
  rw [List.filter_eq_self]
  intro p hp
  unfold hasM at h
  rw [List.any_eq_false] at h
  simpa using h p hp
theorem upS_same {L L' : List (Nat × LO)} {l : Nat} {o o' : LO} (u : Up L l o o' L') (e : o = o') : L' = L := by
  induction u with
  | here => rw [e]
  | there u ih => rw [ih e]
theorem lk_cons (a k : List Key) (v : Int) (M : TM) : lkM ((a, v) :: M) k = if a = k then some v else lkM M k := by
  unfold lkM
  rw [List.find?_cons]
  by_cases e : a = k <;> simp [e]
theorem lk_map (M : TM) (k k' : List Key) (v : Int) : lkM (M.map fun p => if p.1 = k then (p.1, v) else p) k' = if k' = k then (if hasM M k = true then some v else none) else lkM M k' := by
  induction M with
  | nil => by_cases e : k' = k <;> simp [lkM, hasM, e]
  | cons p M ih =>
    obtain ⟨a, w⟩ := p
    have hc : hasM ((a, w) :: M) k = (decide (a = k) || hasM M k) := rfl
    rw [List.map_cons, hc]
    by_cases e : a = k
    · subst e
      simp only [if_true, lk_cons, ih, decide_true, Bool.true_or]
      by_cases z : a = k'
      · subst z; simp
      · have z2 : ¬ k' = a := fun y => z y.symm
        simp [z, z2]
    · simp only [e, if_false, lk_cons, ih, decide_false, Bool.false_or]
      by_cases z : a = k'
      · subst z; simp [e]
      · simp [z]
theorem lk_app (M : TM) (k k' : List Key) (v : Int) (n : hasM M k = false) : lkM (M ++ [(k, v)]) k' = if k' = k then some v else lkM M k' := by
  induction M with
  | nil => rw [List.nil_append, lk_cons]; by_cases e : k = k' <;> simp [e, lkM, eq_comm]
  | cons p M ih =>
    obtain ⟨a, w⟩ := p
    have hc : hasM ((a, w) :: M) k = (decide (a = k) || hasM M k) := rfl
    rw [hc, Bool.or_eq_false_iff] at n
    have ne : ¬ a = k := by simpa using n.1
    rw [List.cons_append, lk_cons, lk_cons, ih n.2]
    by_cases z : a = k'
    · subst z; simp [ne]
    · simp [z]
theorem lk_del (M : TM) (k k' : List Key) : lkM (delM M k) k' = if k' = k then none else lkM M k' := by
  unfold delM
  induction M with
  | nil => simp [lkM]
  | cons p M ih =>
    obtain ⟨a, w⟩ := p
    rw [List.filter_cons]
    by_cases e : a = k
    · subst e
      simp only [ne_eq, not_true, decide_false, Bool.false_eq_true, if_false, ih, lk_cons]
      by_cases z : k' = a
      · simp [z]
      · have : ¬ a = k' := fun y => z y.symm
        simp [z, this]
    · simp only [ne_eq, e, not_false_eq_true, decide_true, if_true, lk_cons, ih]
      by_cases z : a = k'
      · subst z; simp [e]
      · simp [z]
theorem lk_set (M : TM) (k k' : List Key) (t : Option Int) : lkM (setS M k t) k' = if k' = k then t else lkM M k' := by
  cases t with
  | none => exact lk_del M k k'
  | some v =>
    show lkM (putM M k v) k' = _
    unfold putM
    by_cases h : hasM M k = true
    · rw [if_pos h, lk_map, if_pos h]
    · rw [if_neg h, lk_app M k k' v (by simpa using h)]
structure GS (M : TM) : Prop where
  ev : ∀ p ∈ M, p.1 ∈ every
  nd : (M.map (·.1)).Nodup
  nn : ∀ p ∈ M, 0 ≤ p.2
theorem gs0 : GS [] := ⟨by simp, by simp, by simp⟩
theorem GS.put {M : TM} {k : List Key} {t : Option Int} (g : GS M) (p : k ∈ every) (ht : ∀ i, t = some i → 0 ≤ i) : GS (setS M k t) := by
  cases t with
  | some i => exact ⟨fun q hq => by rcases putM_mem hq with ⟨e, _⟩ | hq; rw [e]; exact p; exact g.ev q hq, putM_nd g.nd, fun q hq => by rcases putM_mem hq with ⟨_, e⟩ | hq; rw [e]; exact ht i rfl; exact g.nn q hq⟩
  | none => exact ⟨fun q hq => g.ev q (List.mem_filter.mp hq).1, delM_nd g.nd, fun q hq => g.nn q (List.mem_filter.mp hq).1⟩
theorem setS_len (M : TM) (k : List Key) (t : Option Int) : (setS M k t).length ≤ M.length + 1 := by
  cases t with
  | some i => exact putM_len M k i
  | none => have := delM_len M k; show (delM M k).length ≤ _; omega
theorem pursS : ∀ {ds : List PyData}, (∀ d ∈ ds, pur d = true) → purs ds = true
  | [], _ => rfl
  | d :: ds, h => by rw [purs, h d List.mem_cons_self, pursS fun e he => h e (List.mem_cons_of_mem _ he)]; rfl
theorem sokS {M : TM} (g : GS M) : sok (M.map fun p => keyD p.1) = true := by
  have m : ∀ d ∈ M.map (fun p => keyD p.1), ∃ p ∈ M, keyD p.1 = d := fun d hd => List.mem_map.mp hd
  unfold sok
  simp only [Bool.and_eq_true, Bool.or_eq_true, List.all_eq_true, beq_iff_eq, decide_eq_true_eq]
  refine ⟨⟨⟨pursS fun d hd => ?_, fun d hd e he => ?_⟩, .inl fun d hd => ?_⟩, fun d hd => ?_⟩
  · obtain ⟨p, hp, rfl⟩ := m d hd; exact ev_pur _ (g.ev p hp)
  · obtain ⟨p, hp, rfl⟩ := m d hd
    obtain ⟨q, hq, rfl⟩ := m e he
    exact ev_cok _ (g.ev p hp) _ (g.ev q hq)
  · obtain ⟨p, hp, rfl⟩ := m d hd; exact ev_head _ (g.ev p hp)
  · obtain ⟨p, hp, rfl⟩ := m d hd; exact ev_dep _ (g.ev p hp)
theorem uniq_rk : ∀ {l m : TM}, l.Pairwise (fun p q => rkS p.1 < rkS q.1) → m.Pairwise (fun p q => rkS p.1 < rkS q.1) → (∀ x, x ∈ l ↔ x ∈ m) → l = m
  | [], [], _, _, _ => rfl
  | [], y :: m, _, _, h => by have := (h y).mpr List.mem_cons_self; cases this
  | x :: l, [], _, _, h => by have := (h x).mp List.mem_cons_self; cases this
  | x :: l, y :: m, hl, hm, h => by
    rw [List.pairwise_cons] at hl hm
    have e : x = y := by
      rcases List.mem_cons.mp ((h x).mp List.mem_cons_self) with e | e
      · exact e
      · rcases List.mem_cons.mp ((h y).mpr List.mem_cons_self) with e2 | e2
        · exact e2.symm
        · have a := hm.1 x e
          have b := hl.1 y e2
          omega
    subst e
    congr 1
    refine uniq_rk hl.2 hm.2 fun z => ⟨fun hz => ?_, fun hz => ?_⟩
    · rcases List.mem_cons.mp ((h z).mp (List.mem_cons_of_mem _ hz)) with e | e
      · have := hl.1 z hz; rw [e] at this; omega
      · exact e
    · rcases List.mem_cons.mp ((h z).mpr (List.mem_cons_of_mem _ hz)) with e | e
      · have := hm.1 z hz; rw [e] at this; omega
      · exact e
theorem srt_rk {M : TM} (g : GS M) : (srtM M).Pairwise fun p q => rkS p.1 < rkS q.1 := by
  have ev : ∀ p ∈ srtM M, p.1 ∈ every := fun p hp => g.ev p ((srtM_perm M).mem_iff.mp hp)
  have nd : ((srtM M).map (·.1)).Nodup := ((srtM_perm M).map (·.1)).nodup_iff.mpr g.nd
  have so : SrtO.Srtd (fun p q => W.dataLt (keyD p.1) (keyD q.1)) (srtM M) := insK_srtd (swo_data fun p : List Key × Int => keyD p.1) M
  have nd2 : (srtM M).Pairwise fun p q => p.1 ≠ q.1 := List.pairwise_map.mp nd
  refine (List.Pairwise.and so nd2).imp_of_mem ?_
  rintro p q hp hq ⟨a, b⟩
  have a' : W.dataLt (keyD q.1) (keyD p.1) = false := a
  rw [rk_lt _ (ev q hq) _ (ev p hp)] at a'
  have a'' := of_decide_eq_false a'
  have : rkS p.1 ≠ rkS q.1 := fun e => b (rk_inj _ (ev p hp) _ (ev q hq) e)
  omega
theorem seen_due {M : TM} (g : GS M) : srtM M = every.filterMap fun k => (lkM M k).map fun v => (k, v) := by
  refine uniq_rk (srt_rk g) ?_ ?_
  · rw [List.pairwise_filterMap]
    refine every_rk.imp ?_
    intro a b ab x ex y ey
    obtain ⟨v, -, rfl⟩ := Option.map_eq_some_iff.mp ex
    obtain ⟨w, -, rfl⟩ := Option.map_eq_some_iff.mp ey
    exact ab
  · intro x
    rw [List.mem_filterMap]
    constructor
    · intro hx
      have hm : (x.1, x.2) ∈ M := (srtM_perm M).mem_iff.mp hx
      exact ⟨x.1, g.ev _ hm, by rw [lkM_of g.nd hm]; rfl⟩
    · rintro ⟨k, hk, e⟩
      obtain ⟨v, ev, rfl⟩ := Option.map_eq_some_iff.mp e
      exact (srtM_perm M).mem_iff.mpr (lkM_mem ev)
local macro_rules | `(tactic| wtm_at "zfs") => `(tactic| fail)
local macro_rules | `(tactic| wtm_at "zix") => `(tactic| fail)
local macro_rules | `(tactic| wtm_at "zas") => `(tactic| with_reducible assumption)
section
variable {h : LH} {L L' F : List (Nat × LO)} {S v : Nat} {M : TM} {k : List Key} {t o : Option Int} {i : Int} {Q : LV → LH → Prop} {E : XP}
abbrev siO (v : Nat) : LO := .ins "Sights" [("views", .ref v)]
local macro_rules | `(tactic| wtm_at "zfn") => `(tactic| first
  | ((with_reducible apply whole_i)) | ((with_reducible apply i_is_hand); unfold b_is_hand) | ((with_reducible apply i_is_weak); unfold b_is_weak) | ((with_reducible apply i_is_glance); unfold b_is_glance) | ((with_reducible apply i_is_thing); unfold b_is_thing) | fail)
theorem issight_s (p : k ∈ every) (H : Q (.bl true) h) : wp (f_is_sight [tupK k] h) Q E := by
  apply i_is_sight; unfold b_is_sight
  simp only [every, List.mem_cons, List.not_mem_nil, or_false] at p
  rcases p with rfl | rfl | rfl | rfl | rfl | rfl | rfl | rfl | rfl | rfl
  all_goals simp only [tupK, List.map_cons, List.map_nil, keyL]
  all_goals wtm_at "zgo"
  all_goals exact H
theorem at_s (p : k ∈ every) (hs : Hs h L) (m1 : (S, siO v) ∈ L) (m2 : (v, LO.dct true (dT M)) ∈ L) (H : Q (ov (lkM M k)) h) : wp (f_Sights_at [.ref S, tupK k] h) Q E := by
  have ok := okK k
  apply i_Sights_at; unfold b_Sights_at
  wtm_at "zgo"
  refine issight_s p ?_
  wtm_at "zgo"
  rw [dT_get]
  exact H
theorem slook_s (p : k ∈ every) (hs : Hs h L) (m1 : (S, siO v) ∈ L) (u : Up L v (.dct true (dT M)) (.dct true (dT (setS M k t))) L') (ht : ∀ i, t = some i → 0 ≤ i) (hl : M.length < 1000) (H : ∀ h', Hs h' L' → Q (ov (lkM M k)) h') : wp (f_Sights_look [.ref S, tupK k, ov t] h) Q E := by
  have ok := okK k
  have m2 := u.mem
  have hl' : (dT M).length < sizeLine := by rw [dT_len, sizeLine_eq]; omega
  apply i_Sights_look; unfold b_Sights_look
  wtm_at "zgo"
  refine at_s p hs m1 m2 ?_
  cases t with
  | none =>
    simp only [ov, Option.map_none, Option.getD_none]
    wtm_at "zgo"
    refine w_kMetT hs m2 ?_
    wtm_at "zgo"
    cases e : lkM M k with
    | none =>
      have e2 : setS M k none = M := delS_no e
      rw [e2] at u
      obtain rfl := upS_same u rfl
      rw [e] at H
      refine w_popT3 hs m2 e ?_
      wtm_at "zgo"
      exact H _ hs
    | some j =>
      rw [e] at H
      refine w_popT2 hs u e ?_
      intro h1 hs1
      wtm_at "zgo"
      exact H _ hs1
  | some j =>
    have j0 := ht j rfl
    simp only [ov, Option.map_some, Option.getD_some]
    wtm_at "zgo"
    refine w_setd hs (by rw [dT_put]; exact u) ok hl' ?_
    intro h1 hs1
    wtm_at "zgo"
    exact H _ hs1
theorem seen_s (g : GS M) (hl : M.length < 1000) (hs : Hs h L) (m1 : (S, siO v) ∈ L) (m2 : (v, LO.dct true (dT M)) ∈ L) (H : ∀ q h', Hs h' ((q, .lst ((srtM M).map fun p => .tup [tupK p.1, .int p.2])) :: L) → Q (.ref q) h') : wp (f_Sights_seen [.ref S] h) Q E := by
  have ls : (srtM M).length ≤ 1000000 := by rw [(srtM_perm M).length_eq]; omega
  apply i_Sights_seen; unfold b_Sights_seen
  wtm_at "zgo"
  rw [e_srkN]
  wtm_at "zgo"
  refine w_srkT hs m2 (sokS g) ?_
  intro q1 h1 hs1
  wtm_at "zgo"
  refine w_kCompF (srtM M) (fun p => tupK p.1) (fun _ => true) (fun p => LV.tup [tupK p.1, .int p.2]) rfl hs1 ls (by intro z hz; rw [List.mem_singleton] at hz; subst hz; exact List.mem_cons_self) ?_ ?_
  · intro p hp D ac h2 I hs2 la T U
    have gk : getK (dT M) (tupK p.1) = some (.int p.2) := by rw [dT_get, lkM_of g.nd (show (p.1, p.2) ∈ M from (srtM_perm M).mem_iff.mp hp)]; rfl
    have ok := okK p.1
    wtm_at "zgo"
    refine w_getd hs2 (by wtm_at "zmem") ok gk ?_
    wtm_at "zgo"
    exact w_kCp3 hs2 la (T rfl)
  · intro D h2 hs2
    rw [List.filter_eq_self.mpr fun _ _ => rfl] at hs2
    wtm_at "zgo"
    exact H _ _ (hs2.prm (by wtm_at "zprm"))
def evI (i : Int) : List Key := [.inr "glance", .inl (i / 2), .inr (if i % 2 = 0 then "u" else "v")]
theorem lall_s (hs : Hs h L) (H : ∀ q h', Hs h' ((q, .lst (every.map tupK)) :: L) → Q (.ref q) h') : wp (f__law_all [] h) Q E := by
  apply i__law_all; unfold b__law_all
  wtm_at "zgo"
  refine w_kCompF ([0, 1, 2, 3, 4, 5, 6, 7] : List Int) LV.int (fun _ => true) (fun i => tupK (evI i)) (by rfl) hs (by decide) (by simp) ?_ ?_
  · intro i hi D ac h2 I hs2 la T U
    simp only [List.mem_cons, List.not_mem_nil, or_false] at hi
    rcases hi with rfl | rfl | rfl | rfl | rfl | rfl | rfl | rfl
    all_goals wtm_at "zgo"
    all_goals exact w_kCp3 hs2 la (T rfl)
  · intro D h2 hs2
    wtm_at "zgo"
    rename_i q h4 hs4
    replace hs4 : Hs h4 ((q, .lst (every.map tupK)) :: _) := hs4
    exact H _ _ (hs4.prm (by wtm_at "zprm"))
end

end

set_option maxRecDepth 100000
set_option maxHeartbeats 4000000
section
open PySem PySem.Spec PyProof.Rows L2 Fw
/-! ### the meanings -/
def b_Rooms___init__ : LS :=
  (seqS (fldS "Rooms" "readers" (varM 0) (dnwM false))
  (fldS "Rooms" "waits" (varM 0) (dnwM false)))
def f_Rooms___init__ : List LV → M LV := runB 1 b_Rooms___init__
theorem i_Rooms___init__ {v0 : LV} {h : LH} {Q : LV → LH → Prop} {E : XP} (H : ws (b_Rooms___init__ [some v0] h) (kNon Q) ⟨Q, kNo, kNo, xR E⟩) : wp (f_Rooms___init__ [v0] h) Q E := w_run rfl H
def b_Rooms_reading : LS :=
  (retS (srkN (fldM "Rooms" "readers" (varM 0))))
def f_Rooms_reading : List LV → M LV := runB 1 b_Rooms_reading
theorem i_Rooms_reading {v0 : LV} {h : LH} {Q : LV → LH → Prop} {E : XP} (H : ws (b_Rooms_reading [some v0] h) (kNon Q) ⟨Q, kNo, kNo, xR E⟩) : wp (f_Rooms_reading [v0] h) Q E := w_run rfl H
def b_Rooms_waiting : LS :=
  (retS (compM (itmE (srkN (fldM "Rooms" "waits" (varM 0)))) (gNm 1) yesT (tupM (aCons (varM 1) (aCons (callM listL (aCons (opM getA (fldM "Rooms" "waits" (varM 0)) (varM 1)) aNil)) aNil))) [1]))
def f_Rooms_waiting : List LV → M LV := runB 2 b_Rooms_waiting
theorem i_Rooms_waiting {v0 : LV} {h : LH} {Q : LV → LH → Prop} {E : XP} (H : ws (b_Rooms_waiting [some v0, none] h) (kNon Q) ⟨Q, kNo, kNo, xR E⟩) : wp (f_Rooms_waiting [v0] h) Q E := w_run rfl H
def b_Rooms_ready : LS :=
  (retS (compM (itmE (srkN (fldM "Rooms" "waits" (varM 0)))) (gNm 1) (tstM (opM eqL (opM getA (fldM "Rooms" "waits" (varM 0)) (varM 1)) (lstM aNil))) (varM 1) [1]))
def f_Rooms_ready : List LV → M LV := runB 2 b_Rooms_ready
theorem i_Rooms_ready {v0 : LV} {h : LH} {Q : LV → LH → Prop} {E : XP} (H : ws (b_Rooms_ready [some v0, none] h) (kNon Q) ⟨Q, kNo, kNo, xR E⟩) : wp (f_Rooms_ready [v0] h) Q E := w_run rfl H
def b_Rooms_enter : LS :=
  (seqS (ifS (notT (tstM (callM f_is_hand (aCons (varM 1) aNil))))
  (raiseS "NoHand")
  nilS)
  (seqS (ifS (tstM (opM inA (varM 1) (fldM "Rooms" "readers" (varM 0))))
  (raiseS "Within")
  nilS)
  (asgS (cst (.bl true)) (gSb (fldM "Rooms" "readers" (varM 0)) (varM 1)))))
def f_Rooms_enter : List LV → M LV := runB 2 b_Rooms_enter
theorem i_Rooms_enter {v0 v1 : LV} {h : LH} {Q : LV → LH → Prop} {E : XP} (H : ws (b_Rooms_enter [some v0, some v1] h) (kNon Q) ⟨Q, kNo, kNo, xR E⟩) : wp (f_Rooms_enter [v0, v1] h) Q E := w_run rfl H
def b_Rooms_leave_1 : LS :=
  (asgS (compM (itmE (varM 3)) (gNm 4) (tstM (opM neL (varM 4) (varM 1))) (varM 4) [4]) (gSb (fldM "Rooms" "waits" (varM 0)) (varM 2)))
def b_Rooms_leave : LS :=
  (seqS (ifS (notT (tstM (callM f_is_hand (aCons (varM 1) aNil))))
  (raiseS "NoHand")
  nilS)
  (seqS (ifS (tstM (opM notInA (varM 1) (fldM "Rooms" "readers" (varM 0))))
  (raiseS "Without")
  nilS)
  (seqS (exprS (selO isLst (fldM "Rooms" "readers" (varM 0)) (metM isLst popL (fldM "Rooms" "readers" (varM 0)) (aCons (varM 1) aNil)) (selO isDT (fldM "Rooms" "readers" (varM 0)) (metM isDT popT (fldM "Rooms" "readers" (varM 0)) (aCons (varM 1) aNil)) (dpopM (fldM "Rooms" "readers" (varM 0)) (varM 1)))))
  (forS (itmE (litM (fldM "Rooms" "waits" (varM 0)))) (gTp [(gNm 2), (gNm 3)])
  b_Rooms_leave_1))))
def f_Rooms_leave : List LV → M LV := runB 5 b_Rooms_leave
theorem i_Rooms_leave {v0 v1 : LV} {h : LH} {Q : LV → LH → Prop} {E : XP} (H : ws (b_Rooms_leave [some v0, some v1, none, none, none] h) (kNon Q) ⟨Q, kNo, kNo, xR E⟩) : wp (f_Rooms_leave [v0, v1] h) Q E := w_run rfl H
def b_Rooms_retire : LS :=
  (seqS (ifS (notT (tstM (callM f_is_thing (aCons (varM 1) aNil))))
  (raiseS "NoThing")
  nilS)
  (seqS (ifS (tstM (opM inA (varM 1) (fldM "Rooms" "waits" (varM 0))))
  (raiseS "Twice")
  nilS)
  (asgS (mthM "Rooms" "reading" f_Rooms_reading (varM 0) aNil) (gSb (fldM "Rooms" "waits" (varM 0)) (varM 1)))))
def f_Rooms_retire : List LV → M LV := runB 2 b_Rooms_retire
theorem i_Rooms_retire {v0 v1 : LV} {h : LH} {Q : LV → LH → Prop} {E : XP} (H : ws (b_Rooms_retire [some v0, some v1] h) (kNon Q) ⟨Q, kNo, kNo, xR E⟩) : wp (f_Rooms_retire [v0, v1] h) Q E := w_run rfl H
def b_Rooms_give : LS :=
  (seqS (ifS (notT (tstM (callM f_is_thing (aCons (varM 1) aNil))))
  (raiseS "NoThing")
  nilS)
  (seqS (ifS (orT (tstM (opM notInA (varM 1) (fldM "Rooms" "waits" (varM 0)))) (tstM (opM neL (opM getA (fldM "Rooms" "waits" (varM 0)) (varM 1)) (lstM aNil))))
  (raiseS "NotReady")
  nilS)
  (exprS (selO isLst (fldM "Rooms" "waits" (varM 0)) (metM isLst popL (fldM "Rooms" "waits" (varM 0)) (aCons (varM 1) aNil)) (selO isDT (fldM "Rooms" "waits" (varM 0)) (metM isDT popT (fldM "Rooms" "waits" (varM 0)) (aCons (varM 1) aNil)) (dpopM (fldM "Rooms" "waits" (varM 0)) (varM 1)))))))
def f_Rooms_give : List LV → M LV := runB 2 b_Rooms_give
theorem i_Rooms_give {v0 v1 : LV} {h : LH} {Q : LV → LH → Prop} {E : XP} (H : ws (b_Rooms_give [some v0, some v1] h) (kNon Q) ⟨Q, kNo, kNo, xR E⟩) : wp (f_Rooms_give [v0, v1] h) Q E := w_run rfl H
/-! ### a dict of whole numbers with lists of whole numbers, the lists among the last cells -/
abbrev WL := List (Int × Nat × List Int)
def wC (W : WL) : List (Nat × LO) := W.map fun p => (p.2.1, LO.lst (p.2.2.map LV.int))
def wD (W : WL) : List (LV × LV) := dI (W.map fun p => (p.1, LV.ref p.2.1))
def rD (R : List Int) : List (LV × LV) := dI (R.map fun i => (i, LV.bl true))
def sh (p : Int × Nat × List Int) : Int × List Int := (p.1, p.2.2)
inductive Tw : List (Nat × LO) → WL → List (Nat × LO) → WL → Prop
  | here {W W' B} : Tw (wC W ++ B) W (wC W' ++ B) W'
  | there {x L W L' W'} (u : Tw L W L' W') : Tw (x :: L) W (x :: L') W'
  | app {V L W L' W'} (u : Tw L W L' W') : Tw (wC V ++ L) W (wC V ++ L') W'
theorem Tw.ex {L L' : List (Nat × LO)} {W W' : WL} (u : Tw L W L' W') : ∃ A B, L = A ++ (wC W ++ B) ∧ L' = A ++ (wC W' ++ B) := by
  induction u with
  | @here W W' B => exact ⟨[], B, rfl, rfl⟩
  | @there x L W L' W' u ih => obtain ⟨A, B, rfl, rfl⟩ := ih; exact ⟨x :: A, B, rfl, rfl⟩
  | @app V L W L' W' u ih => obtain ⟨A, B, rfl, rfl⟩ := ih; exact ⟨wC V ++ A, B, by rw [List.append_assoc], by rw [List.append_assoc]⟩
theorem wC_mem {W : WL} {p : Int × Nat × List Int} (h : p ∈ W) : (p.2.1, LO.lst (p.2.2.map LV.int)) ∈ wC W := List.mem_map_of_mem (f := fun p : Int × Nat × List Int => (p.2.1, LO.lst (p.2.2.map LV.int))) h
theorem Tw.mem {L L' : List (Nat × LO)} {W W' : WL} (u : Tw L W L' W') {p : Int × Nat × List Int} (h : p ∈ W) : (p.2.1, LO.lst (p.2.2.map LV.int)) ∈ L := by
  obtain ⟨A, B, rfl, rfl⟩ := u.ex
  exact List.mem_append_right _ (List.mem_append_left _ (wC_mem h))
theorem Tw.hs {h : LH} {L L' X C : List (Nat × LO)} {W W' : WL} (u : Tw L W L' W') (p : (X ++ wC W).Perm (wC W' ++ C)) (hs : Hs h (X ++ L)) : Hs h L' := by
  obtain ⟨A, B, rfl, rfl⟩ := u.ex
  refine Hs.sub (L := (A ++ (wC W' ++ B)) ++ C) (hs.perm ?_) (List.sublist_append_left _ _)
  have a : (X ++ (A ++ (wC W ++ B))).Perm (A ++ ((X ++ wC W) ++ B)) := by
    rw [← List.append_assoc, ← List.append_assoc, ← List.append_assoc, ← List.append_assoc]
    exact List.Perm.append_right _ (List.Perm.append_right _ List.perm_append_comm)
  refine a.trans ?_
  rw [List.append_assoc A]
  refine List.Perm.append_left _ ?_
  refine (List.Perm.append_right _ p).trans ?_
  rw [List.append_assoc, List.append_assoc]
  exact List.Perm.append_left _ List.perm_append_comm
theorem Tw.push {h : LH} {L L' : List (Nat × LO)} {W : WL} {k : Int} {l : Nat} {ns : List Int} (u : Tw L W L' (W ++ [(k, l, ns)])) (hs : Hs h ((l, .lst (ns.map LV.int)) :: L)) : Hs h L' := by
  refine u.hs (X := [(l, .lst (ns.map LV.int))]) (C := []) ?_ hs
  unfold wC
  rw [List.map_append, List.append_nil]
  exact List.perm_append_comm
theorem Tw.rep {h : LH} {L L' : List (Nat × LO)} {A B : WL} {k : Int} {r l : Nat} {ns ms : List Int} (u : Tw L (A ++ (k, r, ms) :: B) L' (A ++ (k, l, ns) :: B)) (hs : Hs h ((l, .lst (ns.map LV.int)) :: L)) : Hs h L' := by
  refine u.hs (X := [(l, .lst (ns.map LV.int))]) (C := [(r, .lst (ms.map LV.int))]) ?_ hs
  unfold wC
  simp only [List.map_append, List.map_cons]
  have p1 : ((l, LO.lst (ns.map LV.int)) :: (wC A ++ (r, LO.lst (ms.map LV.int)) :: wC B)).Perm (wC A ++ ((l, LO.lst (ns.map LV.int)) :: (r, LO.lst (ms.map LV.int)) :: wC B)) := (List.perm_middle (a := (l, LO.lst (ns.map LV.int)))).symm
  refine p1.trans ?_
  rw [List.append_assoc, List.cons_append]
  refine List.Perm.append_left _ (List.Perm.cons _ ?_)
  exact List.perm_append_comm (l₁ := [(r, LO.lst (ms.map LV.int))])
theorem Tw.del {h : LH} {L L' : List (Nat × LO)} {W W' : WL} (u : Tw L W L' W') (s : W'.Sublist W) (hs : Hs h L) : Hs h L' := by
  obtain ⟨A, B, rfl, rfl⟩ := u.ex
  exact hs.sub (List.Sublist.append (List.Sublist.refl _) (List.Sublist.append (s.map _) (List.Sublist.refl _)))
theorem lookup_map {α β : Type} {f : α → β} {k : Int} : ∀ {m : List (Int × α)}, (m.map fun p => (p.1, f p.2)).lookup k = (m.lookup k).map f
  | [] => rfl
  | (a, v) :: m => by
    rw [List.map_cons, List.lookup_cons, List.lookup_cons]
    dsimp only
    cases k == a
    · exact lookup_map
    · rfl
theorem wD_get (W : WL) (k : Int) : getK (wD W) (.int k) = (W.lookup k).map fun p => LV.ref p.1 := by
  unfold wD
  rw [dI_get]
  exact lookup_map (f := fun p : Nat × List Int => LV.ref p.1)
theorem rD_get (R : List Int) (i : Int) : getK (rD R) (.int i) = if i ∈ R then some (.bl true) else none := by
  unfold rD
  rw [dI_get]
  induction R with
  | nil => rfl
  | cons j R ih =>
    rw [List.map_cons, List.lookup_cons, ih]
    by_cases e : i = j
    · subst e; simp
    · have : (i == j) = false := by simpa using e
      rw [this]; simp [e]
theorem look_none {α : Type} {k : Int} : ∀ {m : List (Int × α)}, k ∉ m.map (·.1) → m.lookup k = none
  | [], _ => rfl
  | (a, v) :: m, h => by
    simp only [List.map_cons, List.mem_cons, not_or] at h
    rw [List.lookup_cons]
    have : (k == a) = false := by simpa using h.1
    rw [this]; exact look_none h.2
theorem look_some {α : Type} {k : Int} {v : α} : ∀ {m : List (Int × α)}, (m.map (·.1)).Nodup → (k, v) ∈ m → m.lookup k = some v
  | (a, w) :: m, n, h => by
    rw [List.map_cons, List.nodup_cons] at n
    rw [List.lookup_cons]
    rcases List.mem_cons.mp h with e | h
    · cases e; simp
    · have : k ≠ a := fun e => n.1 (by rw [← e]; exact List.mem_map_of_mem (f := (·.1)) h)
      have : (k == a) = false := by simpa using this
      rw [this]; exact look_some n.2 h
theorem rD_put {R : List Int} {i : Int} (n : i ∉ R) : putL (rD R) (.int i) (.bl true) = rD (R ++ [i]) := by
  unfold rD
  rw [dI_new _ _ _ (by simpa using n), List.map_append]; rfl
theorem rD_del (R : List Int) (i : Int) : delL (rD R) (.int i) = rD (R.filter fun j => !(j == i)) := by
  unfold rD
  rw [dI_del, List.filter_map]; rfl
theorem wD_put {W : WL} {k : Int} {l : Nat} {ns : List Int} (n : k ∉ W.map (·.1)) : putL (wD W) (.int k) (.ref l) = wD (W ++ [(k, l, ns)]) := by
  unfold wD
  rw [dI_new _ _ _ (by simpa using n), List.map_append]; rfl
theorem wD_del (W : WL) (k : Int) : delL (wD W) (.int k) = wD (W.filter fun p => !(p.1 == k)) := by
  unfold wD
  rw [dI_del, List.filter_map]; rfl
theorem wD_set {A B : WL} {k : Int} {r l : Nat} {ns ms : List Int} (n : ((A ++ (k, r, ms) :: B).map (·.1)).Nodup) : putL (wD (A ++ (k, r, ms) :: B)) (.int k) (.ref l) = wD (A ++ (k, l, ns) :: B) := by
  unfold wD
  rw [dI_put]
  congr 1
  unfold putI
  rw [if_pos (by simp)]
  rw [List.map_append, List.map_cons, List.nodup_append, List.nodup_cons] at n
  obtain ⟨_, ⟨nb, _⟩, na⟩ := n
  simp only [List.map_append, List.map_map, List.map_cons]
  congr 1
  · apply List.map_congr_left
    intro p hp
    have : p.1 ≠ k := fun e => na p.1 (List.mem_map_of_mem (f := (·.1)) hp) k (by simp) e
    simp [Function.comp, this]
  · congr 1
    · apply List.map_congr_left
      intro p hp
      have : p.1 ≠ k := fun e => nb (by rw [← e]; exact List.mem_map_of_mem (f := (·.1)) hp)
      simp [Function.comp, this]
end

set_option maxRecDepth 100000
set_option maxHeartbeats 4000000
section
open PySem PySem.Spec PyProof.Rows L2 Fw
/-! ### Rooms' doors -/
abbrev rmO (r w : Nat) : LO := .ins "Rooms" [("readers", .ref r), ("waits", .ref w)]
abbrev rmC (o rd wt : Nat) (R : List Int) (W : WL) (T : List (Nat × LO)) : List (Nat × LO) := (o, rmO rd wt) :: (rd, .dct false (rD R)) :: (wt, .dct false (wD W)) :: T
theorem srt1R (i : Int) : srtI [i] = [i] := List.perm_singleton.mp (srtI_perm [i])
local macro_rules | `(tactic| wtm_at "zck") => `(tactic| first | exact isDT_f (by with_reducible assumption) (by wtm_at "zmem") | fail)
local macro_rules | `(tactic| wtm_at "zfn") => `(tactic| first
  | ((with_reducible apply whole_i)) | ((with_reducible apply i_is_hand); unfold b_is_hand) | ((with_reducible apply i_is_thing); unfold b_is_thing) | fail)
section
variable {h : LH} {L L' T T' : List (Nat × LO)} {o rd wt l : Nat} {R : List Int} {W : WL} {i k : Int} {kvs : List (LV × LV)} {Q : LV → LH → Prop} {E : XP}
theorem w_srkJ {ns : List Int} (hs : Hs h L) (hx : (l, LO.dct false kvs) ∈ L) (e : intsOf (kvs.map (·.1)) = some ns) (ok : ns.length < 1000000) (H : ∀ q h', Hs h' ((q, .lst ((srtI ns).map LV.int)) :: L) → Q (.ref q) h') : wp (srkA (.ref l) h) Q E := by
  refine wp_eq ?_ (H _ _ hs.new)
  unfold srkA
  rw [dAt_of hs hx]
  simp only [e, if_pos ok]
theorem rD_keys (R : List Int) : intsOf ((rD R).map (·.1)) = some R := by
  unfold rD
  rw [dI_keys, List.map_map, show ((fun x : Int × LV => x.1) ∘ fun i : Int => (i, LV.bl true)) = id from rfl, List.map_id]
theorem wD_keys (W : WL) : intsOf ((wD W).map (·.1)) = some (W.map (·.1)) := by
  unfold wD
  rw [dI_keys]
  simp [Function.comp]
theorem rD_len (R : List Int) : (rD R).length = R.length := by unfold rD; rw [dI_len]; simp
theorem wD_len (W : WL) : (wD W).length = W.length := by unfold wD; rw [dI_len]; simp
theorem renter_w (b : 0 ≤ i ∧ i ≤ 3) (n : i ∉ R) (lr : R.length < 100) (hs : Hs h (rmC o rd wt R W T)) (H : ∀ h', Hs h' (rmC o rd wt (R ++ [i]) W T) → Q .non h') : wp (f_Rooms_enter [.ref o, .int i] h) Q E := by
  obtain ⟨b0, b1⟩ := b
  have g : (getK (rD R) (.int i)).isSome = false := by rw [rD_get, if_neg n]; rfl
  have lz : (rD R).length < sizeLine := by rw [rD_len, sizeLine_eq]; omega
  apply i_Rooms_enter; unfold b_Rooms_enter
  wtm_at "zgo"
  rename_i h1 hs1
  rw [rD_put n] at hs1
  exact H _ hs1
theorem renter_x (b : 0 ≤ i ∧ i ≤ 3) (n : i ∈ R) (hs : Hs h (rmC o rd wt R W T)) (H : E "Within" [] h) : wp (f_Rooms_enter [.ref o, .int i] h) Q E := by
  obtain ⟨b0, b1⟩ := b
  have g : (getK (rD R) (.int i)).isSome = true := by rw [rD_get, if_pos n]; rfl
  apply i_Rooms_enter; unfold b_Rooms_enter
  wtm_at "zgo"
  exact H
theorem rleave_x (b : 0 ≤ i ∧ i ≤ 3) (n : i ∉ R) (hs : Hs h (rmC o rd wt R W T)) (H : E "Without" [] h) : wp (f_Rooms_leave [.ref o, .int i] h) Q E := by
  obtain ⟨b0, b1⟩ := b
  have g : (getK (rD R) (.int i)).isSome = false := by rw [rD_get, if_neg n]; rfl
  apply i_Rooms_leave; unfold b_Rooms_leave
  wtm_at "zgo"
  exact H
theorem rreading_s (lr : R.length < 100) (hs : Hs h (rmC o rd wt R W T)) (H : ∀ r h', Hs h' ((r, .lst ((srtI R).map LV.int)) :: rmC o rd wt R W T) → Q (.ref r) h') : wp (f_Rooms_reading [.ref o] h) Q E := by
  apply i_Rooms_reading; unfold b_Rooms_reading
  wtm_at "zgo"
  rw [e_srkN]
  wtm_at "zgo"
  exact w_srkJ hs (by wtm_at "zmem") (rD_keys R) (by omega) H
theorem rretire_x (k0 : 0 ≤ k) (n : k ∈ W.map (·.1)) (hs : Hs h (rmC o rd wt R W T)) (H : E "Twice" [] h) : wp (f_Rooms_retire [.ref o, .int k] h) Q E := by
  have g : (getK (wD W) (.int k)).isSome = true := by
    unfold wD
    rw [dI_get]
    have := dI_has (W.map fun p => (p.1, LV.ref p.2.1)) k
    rw [Option.isSome_iff_ne_none]
    intro e
    obtain ⟨p, hp, rfl⟩ := List.mem_map.mp n
    rw [List.lookup_eq_none_iff] at e
    have := e (p.1, LV.ref p.2.1) (List.mem_map_of_mem (f := fun p : Int × Nat × List Int => (p.1, LV.ref p.2.1)) hp)
    simp at this
  apply i_Rooms_retire; unfold b_Rooms_retire
  wtm_at "zgo"
  exact H
theorem rretire_w {M : Nat → List (Nat × LO)} (k0 : 0 ≤ k) (n : k ∉ W.map (·.1)) (lr : R.length < 100) (lw : W.length < 1000) (hs : Hs h (rmC o rd wt R W T)) (u : ∀ l, Tw T W (M l) (W ++ [(k, l, srtI R)])) (H : ∀ l h', Hs h' (rmC o rd wt R (W ++ [(k, l, srtI R)]) (M l)) → Q .non h') : wp (f_Rooms_retire [.ref o, .int k] h) Q E := by
  have g : (getK (wD W) (.int k)).isSome = false := by
    rw [wD_get, look_none n]; rfl
  have lz : (wD W).length < sizeLine := by rw [wD_len, sizeLine_eq]; omega
  apply i_Rooms_retire; unfold b_Rooms_retire
  wtm_at "zgo"
  refine rreading_s lr hs ?_
  intro l h1 hs1
  wtm_at "zgo"
  rename_i h2 hs2
  rw [wD_put (ns := srtI R) n] at hs2
  refine H l h2 ?_
  exact Tw.push (L := (o, rmO rd wt) :: (rd, .dct false (rD R)) :: (wt, .dct false (wD (W ++ [(k, l, srtI R)]))) :: T) (.there (.there (.there (u l)))) hs2
end
end

set_option maxRecDepth 100000
set_option maxHeartbeats 4000000
section
open PySem PySem.Spec PyProof.Rows L2 Fw
local macro_rules | `(tactic| wtm_at "zck") => `(tactic| first | exact isDT_f (by with_reducible assumption) (by wtm_at "zmem") | fail)
local macro_rules | `(tactic| wtm_at "zfn") => `(tactic| first
  | ((with_reducible apply whole_i)) | ((with_reducible apply i_is_hand); unfold b_is_hand) | ((with_reducible apply i_is_thing); unfold b_is_thing) | fail)
section
variable {h : LH} {L L' T T' : List (Nat × LO)} {o rd wt l r : Nat} {R : List Int} {W : WL} {i k : Int} {ns : List Int} {kvs : List (LV × LV)} {Q : LV → LH → Prop} {E : XP}
theorem oa_intsR {n : Nat} {h : LH} : ∀ (ns : List Int), optAll (toD n h) (ns.map LV.int) = some (ns.map PyData.int)
  | [] => rfl
  | i :: r => oa_cons d_int (oa_intsR r)
theorem w_eqR {l' : Nat} (hs : Hs h L) (m : (l, LO.lst (ns.map LV.int)) ∈ L) (m' : (l', LO.lst []) ∈ L) (H : Q (.bl ns.isEmpty) h) : wp (eqL (.ref l) (.ref l') h) Q E := by
  refine w_eqd rfl (d_lst hs m (oa_intsR ns)) (d_lst hs m' oa_nil) ?_
  cases ns with
  | nil => simpa [PyData.eqv, PyData.eqvAll] using H
  | cons i r => simpa [PyData.eqv, PyData.eqvAll] using H
theorem w_neR {l' : Nat} (hs : Hs h L) (m : (l, LO.lst (ns.map LV.int)) ∈ L) (m' : (l', LO.lst []) ∈ L) (H : Q (.bl (!ns.isEmpty)) h) : wp (neL (.ref l) (.ref l') h) Q E := by
  refine w_ned rfl (d_lst hs m (oa_intsR ns)) (d_lst hs m' oa_nil) ?_
  cases ns with
  | nil => simpa [PyData.eqv, PyData.eqvAll] using H
  | cons i r => simpa [PyData.eqv, PyData.eqvAll] using H
theorem wD_some (e : W.lookup k = some (r, ns)) : getK (wD W) (.int k) = some (.ref r) := by rw [wD_get, e]; rfl
theorem look_mem {α : Type} {k : Int} {v : α} : ∀ {m : List (Int × α)}, m.lookup k = some v → (k, v) ∈ m
  | (a, w) :: m, h => by
    rw [List.lookup_cons] at h
    by_cases e : k = a
    · subst e; simp at h; subst h; exact List.mem_cons_self
    · have : (k == a) = false := by simpa using e
      rw [this] at h
      exact List.mem_cons_of_mem _ (look_mem h)
theorem rgive_n (k0 : 0 ≤ k) (n : W.lookup k = none) (hs : Hs h (rmC o rd wt R W T)) (H : E "NotReady" [] h) : wp (f_Rooms_give [.ref o, .int k] h) Q E := by
  have g : (getK (wD W) (.int k)).isSome = false := by rw [wD_get, n]; rfl
  apply i_Rooms_give; unfold b_Rooms_give
  wtm_at "zgo"
  exact H
theorem rgive_x (k0 : 0 ≤ k) (n : W.lookup k = some (r, ns)) (ne : ns.isEmpty = false) (u : Tw T W T' W) (hs : Hs h (rmC o rd wt R W T)) (H : ∀ h', Hs h' (rmC o rd wt R W T) → E "NotReady" [] h') : wp (f_Rooms_give [.ref o, .int k] h) Q E := by
  have g1 := wD_some n
  have g : (getK (wD W) (.int k)).isSome = true := by rw [g1]; rfl
  have mm : (r, LO.lst (ns.map LV.int)) ∈ rmC o rd wt R W T := List.mem_cons_of_mem _ (List.mem_cons_of_mem _ (List.mem_cons_of_mem _ (u.mem (look_mem n))))
  apply i_Rooms_give; unfold b_Rooms_give
  wtm_at "zgo"
  refine w_neR (ns := ns) (by with_reducible assumption) (List.mem_cons_of_mem _ mm) List.mem_cons_self ?_
  rw [ne]
  wtm_at "zgo"
  exact H _ (by wtm_at "zhs")
theorem rgive_w (k0 : 0 ≤ k) (n : W.lookup k = some (r, [])) (u : Tw T W T' (W.filter fun p => !(p.1 == k))) (hs : Hs h (rmC o rd wt R W T)) (H : ∀ h', Hs h' (rmC o rd wt R (W.filter fun p => !(p.1 == k)) T') → Q .non h') : wp (f_Rooms_give [.ref o, .int k] h) Q E := by
  have g1 := wD_some n
  have g : (getK (wD W) (.int k)).isSome = true := by rw [g1]; rfl
  have mm : (r, LO.lst (([] : List Int).map LV.int)) ∈ rmC o rd wt R W T := List.mem_cons_of_mem _ (List.mem_cons_of_mem _ (List.mem_cons_of_mem _ (u.mem (look_mem n))))
  apply i_Rooms_give; unfold b_Rooms_give
  wtm_at "zgo"
  refine w_neR (ns := []) (by with_reducible assumption) (List.mem_cons_of_mem _ mm) List.mem_cons_self ?_
  wtm_at "zgo"
  rename_i h1 hs1
  rw [wD_del] at hs1
  refine H _ ?_
  exact Tw.del (L := rmC o rd wt R (W.filter fun p => !(p.1 == k)) T) (.there (.there (.there u))) List.filter_sublist (hs1.sub (by wtm_at "zsub"))
end
end

set_option maxRecDepth 100000
set_option maxHeartbeats 4000000
section
open PySem PySem.Spec PyProof.Rows L2 Fw
section
variable {α : Type} {s : LSt} {h : LH} {N : LSt → LH → Prop} {R : LV → LH → Prop} {Bk C : LSt → LH → Prop} {X : Str → List (Str × LV) → LSt → LH → Prop}
theorem w_forPre {o : List (Nat × List LV)} {gg : LG} {B : LS} {its : List LV} (P : List α) (V : α → LV) (I : List α → LSt → LH → Prop) (ei : its = P.map V) (h0 : I [] s h) (kp : ∀ a s h, I a s h → keepB o h = true)
    (step : ∀ a x b s h, P = a ++ x :: b → I a s h → wp (gg (V x) s h) (kSeq B (I (a ++ [x])) ⟨R, N, I (a ++ [x]), X⟩) noX) (fin : ∀ s h, I P s h → N s h) : ws (forI o gg B its s h) N ⟨R, Bk, C, X⟩ := by
  subst ei
  refine w_forI (fun r s h => ∃ a b, r = b.map V ∧ P = a ++ b ∧ I a s h) ⟨[], P, rfl, rfl, h0⟩ (fun r s h ⟨a, b, _, _, i⟩ => kp a s h i) ?_ ?_
  · rintro x r s h ⟨a, b, e1, e2, i⟩
    cases b with
    | nil => cases e1
    | cons y b =>
      obtain ⟨rfl, rfl⟩ := List.cons.inj e1
      have g : ∀ s h, I (a ++ [y]) s h → ∃ a' b', b.map V = b'.map V ∧ P = a' ++ b' ∧ I a' s h := fun s h z => ⟨a ++ [y], b, rfl, by rw [e2]; simp, z⟩
      exact wp_mono (step a y b s h e2 i) (fun s1 h1 z => ws_mono z g (fun _ _ z => z) (fun _ _ z => z) g (fun _ _ _ _ z => z)) (fun _ _ _ z => z)
  · rintro s h ⟨a, b, e1, e2, i⟩
    cases b with
    | nil => rw [List.append_nil] at e2; subst e2; exact fin s h i
    | cons y b => cases e1
end
local macro_rules | `(tactic| wtm_at "zck") => `(tactic| first | exact isDT_f (by with_reducible assumption) (by wtm_at "zmem") | fail)
local macro_rules | `(tactic| wtm_at "zfn") => `(tactic| first
  | ((with_reducible apply whole_i)) | ((with_reducible apply i_is_hand); unfold b_is_hand) | ((with_reducible apply i_is_thing); unfold b_is_thing) | fail)
/-- what a leaving makes of what is waited for -/
def lvS (i : Int) (S : List (Int × List Int)) : List (Int × List Int) := S.map fun p => (p.1, p.2.filter fun j => !(j == i))
section
variable {h : LH} {L L' T T' : List (Nat × LO)} {o rd wt l r : Nat} {R : List Int} {W : WL} {i k : Int} {ns : List Int} {kvs : List (LV × LV)} {Q : LV → LH → Prop} {E : XP}
theorem rleave_w {M : WL → List (Nat × LO)} (b : 0 ≤ i ∧ i ≤ 3) (n : i ∈ R) (nk : (W.map (·.1)).Nodup) (lw : W.length < 1000) (ln : ∀ p ∈ W, p.2.2.length ≤ 1000) (u : ∀ W1 W2, Tw (M W1) W1 (M W2) W2) (hs : Hs h (rmC o rd wt R W (M W))) (H : ∀ W' h', W'.map sh = lvS i (W.map sh) → Hs h' (rmC o rd wt (R.filter fun j => !(j == i)) W' (M W')) → Q .non h') : wp (f_Rooms_leave [.ref o, .int i] h) Q E := by
  obtain ⟨b0, b1⟩ := b
  have g : (getK (rD R) (.int i)).isSome = true := by rw [rD_get, if_pos n]; rfl
  have g2 : getK (rD R) (.int i) = some (.bl true) := by rw [rD_get, if_pos n]
  apply i_Rooms_leave; unfold b_Rooms_leave
  wtm_at "zgo"
  rename_i h1 _ q h2 hs2
  rw [rD_del] at hs2
  have ei : (wD W).map (fun p => LV.tup [p.1, p.2]) = W.map fun p => LV.tup [.int p.1, .ref p.2.1] := by simp [wD, dI, Function.comp]
  rw [ei] at hs2 ⊢
  refine w_forPre W (fun p => LV.tup [.int p.1, .ref p.2.1]) (fun a s h => ∃ A' y2 y3 y4, s = [some (.ref o), some (.int i), y2, y3, y4] ∧ A'.map sh = lvS i (a.map sh) ∧ (∃ b, W = a ++ b) ∧ ∀ b, W = a ++ b → Hs h ((q, .lst (W.map fun p => LV.tup [.int p.1, .ref p.2.1])) :: rmC o rd wt (R.filter fun j => !(j == i)) (A' ++ b) (M (A' ++ b)))) rfl ⟨[], _, _, _, rfl, rfl, ⟨W, rfl⟩, fun b e => by rw [List.nil_append] at e; subst e; exact hs2⟩ ?_ ?_ ?_
  · rintro a s h ⟨A', y2, y3, y4, rfl, e, ⟨b, eb⟩, kk⟩
    exact keepB_cons ((kk b eb).get List.mem_cons_self) keepB_nil
  · rintro a p b s h eW ⟨A', y2, y3, y4, rfl, e, _, kk⟩
    obtain ⟨k, r, ns⟩ := p
    have hs3 := kk _ eW
    have mp : (k, r, ns) ∈ W := by rw [eW]; simp
    have mm : (r, LO.lst (ns.map LV.int)) ∈ ((q, .lst (W.map fun p => LV.tup [.int p.1, .ref p.2.1])) :: rmC o rd wt (R.filter fun j => !(j == i)) (A' ++ (k, r, ns) :: b) (M (A' ++ (k, r, ns) :: b))) := List.mem_cons_of_mem _ (List.mem_cons_of_mem _ (List.mem_cons_of_mem _ (List.mem_cons_of_mem _ ((u _ []).mem (p := (k, r, ns)) (by simp)))))
    have lz : (wD (A' ++ (k, r, ns) :: b)).length < sizeLine := by
      have e1 : A'.length = a.length := by simpa [lvS] using congrArg List.length e
      have e2 := congrArg List.length eW
      rw [wD_len, sizeLine_eq]
      simp at e2 ⊢
      omega
    unfold b_Rooms_leave_1
    wtm_at "zgo"
    have ek : ((A' ++ (k, r, ns) :: b).map (·.1)).Nodup := by
      have e1 : A'.map (·.1) = a.map (·.1) := by
        have := congrArg (List.map fun p : Int × List Int => p.1) e
        simp only [lvS, List.map_map] at this
        exact this
      rw [List.map_append, e1, ← List.map_append, ← eW]
      exact nk
    refine w_kCompF ns LV.int (fun j => !(j == i)) LV.int rfl hs3 (by have := ln _ mp; dsimp only at this; omega) (by intro z hz; rw [List.mem_singleton] at hz; subst hz; exact mm) ?_ ?_
    · intro j hj D ac h2 I hs4 la T U
      wtm_at "zgo"
      refine w_kCp2 (fun z => ?_) (fun z => ?_)
      · wtm_at "zgo"
        exact w_kCp3 hs4 la (T (by simpa using z))
      · exact ⟨_, hs4, U (by simpa using z)⟩
    · intro D h2 hs4
      wtm_at "zgo"
      rename_i h5 hs5
      rw [wD_set (ns := ns.filter fun j => !(j == i)) ek] at hs5
      refine ⟨A' ++ [(k, D, ns.filter fun j => !(j == i))], _, _, _, rfl, ?_, ⟨b, by rw [eW]; simp⟩, ?_⟩
      · simp only [List.map_append, e, lvS]; rfl
      · intro b' eb
        have : b' = b := by
          rw [eW, List.append_assoc] at eb
          have := List.append_cancel_left eb
          simpa using this.symm
        subst this
        rw [List.append_assoc, List.singleton_append]
        exact Tw.rep (L := (q, .lst (W.map fun p => LV.tup [.int p.1, .ref p.2.1])) :: rmC o rd wt (R.filter fun j => !(j == i)) (A' ++ (k, D, ns.filter fun j => !(j == i)) :: b') (M (A' ++ (k, r, ns) :: b'))) (.there (.there (.there (.there (u _ _))))) (hs5.prm (by wtm_at "zprm"))
  · rintro s h ⟨A', y2, y3, y4, rfl, e, _, kk⟩
    wtm_at "zgo"
    have hs3 := kk [] (by rw [List.append_nil])
    rw [List.append_nil] at hs3
    exact H _ _ e hs3.tail
end
end

set_option maxRecDepth 100000
set_option maxHeartbeats 4000000
section
open PySem PySem.Spec PyProof.Rows L2 Fw
/-! ### what waits, and what is ready -/
def hsOf (S : List (Int × List Int)) (k : Int) : List Int := (S.lookup k).getD []
def waitS (S : List (Int × List Int)) : List PyData := (srtI (S.map (·.1))).map fun k => .tuple [.int k, .list ((hsOf S k).map .int)]
def readyS (S : List (Int × List Int)) : List Int := (srtI (S.map (·.1))).filter fun k => (hsOf S k).isEmpty
inductive Wt (X : List (Nat × LO)) : List LV → List PyData → Prop
  | nil : Wt X [] []
  | cons {k : Int} {c : Nat} {ns : List Int} {xs : List LV} {ds : List PyData} (m : (c, LO.lst (ns.map LV.int)) ∈ X) (ln : ns.length ≤ 1000) (t : Wt X xs ds) : Wt X (.tup [.int k, .ref c] :: xs) (.tuple [.int k, .list (ns.map PyData.int)] :: ds)
theorem Wt.sub {X Y : List (Nat × LO)} {xs : List LV} {ds : List PyData} (w : Wt X xs ds) (k : ∀ p ∈ X, p ∈ Y) : Wt Y xs ds := by
  induction w with
  | nil => exact .nil
  | cons m ln t ih => exact .cons (k _ m) ln ih
theorem Wt.app {X : List (Nat × LO)} {xs ys : List LV} {ds es : List PyData} (w : Wt X xs ds) (v : Wt X ys es) : Wt X (xs ++ ys) (ds ++ es) := by
  induction w with
  | nil => exact v
  | cons m ln t ih => exact .cons m ln ih
theorem Wt.rps {X L : List (Nat × LO)} {xs : List LV} {ds : List PyData} (w : Wt X xs ds) (k : ∀ p ∈ X, p ∈ L) : Rps L xs ds := by
  induction w with
  | nil => exact .nil
  | cons m ln t ih => exact .cons (.tup (by simp) (.cons (.int _) (.cons (.lst (k _ m) (by rw [List.length_map]; omega) (Rps.ints _)) .nil))) ih
theorem hsOf_of {W : WL} {k : Int} {r : Nat} {ns : List Int} (e : W.lookup k = some (r, ns)) : hsOf (W.map sh) k = ns := by
  unfold hsOf
  have : (W.map sh).lookup k = (W.lookup k).map (·.2) := lookup_map (f := fun p : Nat × List Int => p.2)
  rw [this, e]; rfl
theorem sh_keys (W : WL) : (W.map sh).map (·.1) = W.map (·.1) := by
  rw [List.map_map]; rfl
theorem look_ex {α : Type} {k : Int} : ∀ {m : List (Int × α)}, k ∈ m.map (·.1) → ∃ v, m.lookup k = some v
  | [], h => by cases h
  | (a, v) :: m, h => by
    rw [List.lookup_cons]
    by_cases e : k = a
    · exact ⟨v, by simp [e]⟩
    · have : (k == a) = false := by simpa using e
      rw [this]
      refine look_ex ?_
      rcases List.mem_cons.mp h with h | h
      · exact absurd h e
      · exact h
section
variable {h : LH} {L L' T T' : List (Nat × LO)} {o rd wt l r : Nat} {R : List Int} {W : WL} {i k : Int} {ns : List Int} {kvs : List (LV × LV)} {Q : LV → LH → Prop} {E : XP}
theorem rwaiting_w (lw : W.length < 1000) (ln : ∀ p ∈ W, p.2.2.length ≤ 1000) (u : Tw T W T' W) (hs : Hs h (rmC o rd wt R W T)) (H : ∀ r X xs h', Wt X xs (waitS (W.map sh)) → xs.length = W.length → Hs h' ((r, .lst xs) :: (X ++ rmC o rd wt R W T)) → Q (.ref r) h') : wp (f_Rooms_waiting [.ref o] h) Q E := by
  have lk : (srtI (W.map (·.1))).length = W.length := by rw [(srtI_perm _).length_eq, List.length_map]
  apply i_Rooms_waiting; unfold b_Rooms_waiting
  wtm_at "zgo"
  rw [e_srkN]
  wtm_at "zgo"
  refine w_srkJ hs (by wtm_at "zmem") (wD_keys W) (by rw [List.length_map]; omega) ?_
  intro q h1 hs1
  wtm_at "zgo"
  refine w_kComp (fun r ac L' => ∃ A B X, srtI (W.map (·.1)) = A ++ B ∧ r = B.map LV.int ∧ L' = X ++ ((q, .lst ((srtI (W.map (·.1))).map LV.int)) :: rmC o rd wt R W T) ∧ ac.length = A.length ∧ Wt X ac (A.map fun k => .tuple [.int k, .list ((hsOf (W.map sh) k).map .int)])) hs1 ⟨[], _, [], rfl, rfl, rfl, rfl, .nil⟩ ?_ ?_ ?_
  · rintro r ac L' ⟨A, B, X, _, _, rfl, _⟩ p hp
    rw [List.mem_singleton] at hp; subst hp
    exact List.mem_append_right _ List.mem_cons_self
  · rintro x r ac L' D h' ⟨A, B, X, e1, e2, rfl, la, w⟩ hs'
    cases B with
    | nil => cases e2
    | cons k B =>
      obtain ⟨rfl, rfl⟩ := List.cons.inj e2
      have kin : k ∈ W.map (·.1) := (srtI_perm _).mem_iff.mp (by rw [e1]; simp)
      obtain ⟨⟨r, ns⟩, el⟩ := look_ex kin
      have g1 := wD_some el
      have ml := look_mem el
      have m1 : (o, rmO rd wt) ∈ (D, LO.lst ac) :: (X ++ ((q, .lst ((srtI (W.map (·.1))).map LV.int)) :: rmC o rd wt R W T)) := List.mem_cons_of_mem _ (List.mem_append_right _ (by wtm_at "zmem"))
      have m3 : (wt, LO.dct false (wD W)) ∈ (D, LO.lst ac) :: (X ++ ((q, .lst ((srtI (W.map (·.1))).map LV.int)) :: rmC o rd wt R W T)) := List.mem_cons_of_mem _ (List.mem_append_right _ (by wtm_at "zmem"))
      have mm : (r, LO.lst (ns.map LV.int)) ∈ (D, LO.lst ac) :: (X ++ ((q, .lst ((srtI (W.map (·.1))).map LV.int)) :: rmC o rd wt R W T)) := List.mem_cons_of_mem _ (List.mem_append_right _ (List.mem_cons_of_mem _ (List.mem_cons_of_mem _ (List.mem_cons_of_mem _ (List.mem_cons_of_mem _ (u.mem ml))))))
      wtm_at "zgo"
      rename_i c h2 hs2
      refine w_kCp3 (L := ((c, LO.lst (ns.map LV.int)) :: X) ++ ((q, .lst ((srtI (W.map (·.1))).map LV.int)) :: rmC o rd wt R W T)) (hs2.perm (.swap _ _ _)) ?_ ⟨A ++ [k], B, _, by rw [e1]; simp, rfl, rfl, by simp [la], ?_⟩
      · have e3 := congrArg List.length e1
        rw [lk] at e3
        rw [la, sizeLine_eq]
        simp at e3; omega
      · rw [List.map_append]
        refine (w.sub fun p hp => List.mem_cons_of_mem _ hp).app ?_
        rw [List.map_cons, List.map_nil, hsOf_of el]
        exact .cons List.mem_cons_self (ln _ ml) .nil
  · rintro ac L' D h' ⟨A, B, X, e1, e2, rfl, la, w⟩ hs'
    have : B = [] := by cases B with | nil => rfl | cons k B => cases e2
    subst this
    rw [List.append_nil] at e1
    subst e1
    refine H _ X _ _ (by unfold waitS; rw [sh_keys]; exact w) (by rw [la, lk]) (hs'.sub ?_)
    exact List.Sublist.cons_cons _ (List.Sublist.append (List.Sublist.refl _) (List.sublist_cons_self _ _))
theorem rready_w (lw : W.length < 1000) (u : Tw T W T' W) (hs : Hs h (rmC o rd wt R W T)) (H : ∀ r h', Hs h' ((r, .lst ((readyS (W.map sh)).map LV.int)) :: rmC o rd wt R W T) → Q (.ref r) h') : wp (f_Rooms_ready [.ref o] h) Q E := by
  have lk : (srtI (W.map (·.1))).length = W.length := by rw [(srtI_perm _).length_eq, List.length_map]
  apply i_Rooms_ready; unfold b_Rooms_ready
  wtm_at "zgo"
  rw [e_srkN]
  wtm_at "zgo"
  refine w_srkJ hs (by wtm_at "zmem") (wD_keys W) (by rw [List.length_map]; omega) ?_
  intro q h1 hs1
  wtm_at "zgo"
  refine w_kCompF (srtI (W.map (·.1))) LV.int (fun k => (hsOf (W.map sh) k).isEmpty) LV.int rfl hs1 (by omega) (by intro z hz; rw [List.mem_singleton] at hz; subst hz; exact List.mem_cons_self) ?_ ?_
  · intro k hk D ac h2 I hs2 la T U
    have kin : k ∈ W.map (·.1) := (srtI_perm _).mem_iff.mp hk
    obtain ⟨⟨r, ns⟩, el⟩ := look_ex kin
    have g1 := wD_some el
    have ml := look_mem el
    have mm : (r, LO.lst (ns.map LV.int)) ∈ (D, LO.lst ac) :: (q, .lst ((srtI (W.map (·.1))).map LV.int)) :: rmC o rd wt R W _ := List.mem_cons_of_mem _ (List.mem_cons_of_mem _ (List.mem_cons_of_mem _ (List.mem_cons_of_mem _ (List.mem_cons_of_mem _ (u.mem ml)))))
    rw [hsOf_of el] at T U
    wtm_at "zgo"
    refine w_eqR (ns := ns) (by with_reducible assumption) (List.mem_cons_of_mem _ mm) List.mem_cons_self ?_
    wtm_at "zgo"
    rename_i h3 hs3
    refine w_kCp2 (fun z => ?_) (fun z => ?_)
    · wtm_at "zgo"
      exact w_kCp3 hs3.tail la (T z)
    · exact ⟨_, hs3.tail, U z⟩
  · intro D h2 hs2
    wtm_at "zgo"
    refine H _ _ ?_
    have e : readyS (W.map sh) = (srtI (W.map (·.1))).filter fun k => (hsOf (W.map sh) k).isEmpty := by unfold readyS; rw [sh_keys]
    rw [e]
    exact hs2.prm (by wtm_at "zprm")
end
end

set_option maxRecDepth 100000
set_option maxHeartbeats 4000000
section
open PySem PySem.Spec PyProof.Rows L2 Fw
/-! ### the meanings -/
def b_Rooms_copy_1 : LS :=
  (asgS (callM listL (aCons (varM 3) aNil)) (gSb (fldM "Rooms" "waits" (varM 1)) (varM 2)))
def b_Rooms_copy : LS :=
  (seqS (asgS (newM "Rooms" f_Rooms___init__ aNil) (gNm 1))
  (seqS (fldS "Rooms" "readers" (varM 1) (callM dctL (aCons (fldM "Rooms" "readers" (varM 0)) aNil)))
  (seqS (lkS (fldM "Rooms" "waits" (varM 0)) (forS (itmD fdI (fldM "Rooms" "waits" (varM 0))) (gTp [(gNm 2), (gNm 3)])
  b_Rooms_copy_1))
  (retS (varM 1)))))
def f_Rooms_copy : List LV → M LV := runB 4 b_Rooms_copy
theorem i_Rooms_copy {v0 : LV} {h : LH} {Q : LV → LH → Prop} {E : XP} (H : ws (b_Rooms_copy [some v0, none, none, none] h) (kNon Q) ⟨Q, kNo, kNo, xR E⟩) : wp (f_Rooms_copy [v0] h) Q E := w_run rfl H
def b__law_given : LS :=
  (seqS (asgS (cst (.str "none")) (gNm 2))
  (seqS (asgS (cst (.bl false)) (gNm 3))
  (seqS (tryOS tab "NotReady"
  (asgS (mthM "Rooms" "give" f_Rooms_give (varM 0) (aCons (varM 1) aNil)) (gNm 2))
  (asgS (cst (.bl true)) (gNm 3)))
  (seqS (ifS (tstM (varM 3))
  (retS (cst (.str "late")))
  nilS)
  (retS (opM getA (lstM (aCons (cst (.str "other")) (aCons (cst (.str "given")) aNil))) (callM intL (aCons (opM isNL (varM 2) (cst .non)) aNil))))))))
def f__law_given : List LV → M LV := runB 4 b__law_given
theorem i__law_given {v0 v1 : LV} {h : LH} {Q : LV → LH → Prop} {E : XP} (H : ws (b__law_given [some v0, some v1, none, none] h) (kNon Q) ⟨Q, kNo, kNo, xR E⟩) : wp (f__law_given [v0, v1] h) Q E := w_run rfl H
def b__law_all_tried_1 : LS :=
  (seqS (asgS (opM eqL (compM (itmE (opM getA (varM 2) (varM 5))) (gNm 7) (tstM (invM (varM 7) (varM 1))) (varM 7) [7]) (lstM aNil)) (gNm 6))
  (seqS (ifS (tstM (opM neL (callM f__law_given (aCons (varM 0) (aCons (varM 5) aNil))) (opM getA (lstM (aCons (cst (.str "late")) (aCons (cst (.str "given")) aNil))) (callM intL (aCons (varM 6) aNil)))))
  (retS (cst (.bl false)))
  nilS)
  (ifS (tstM (varM 6))
  (seqS (exprS (selO isLst (varM 2) (metM isLst popL (varM 2) (aCons (varM 5) aNil)) (selO isDT (varM 2) (metM isDT popT (varM 2) (aCons (varM 5) aNil)) (dpopM (varM 2) (varM 5)))))
  (ifS (tstM (opM neL (callM f__law_given (aCons (varM 0) (aCons (varM 5) aNil))) (cst (.str "late"))))
  (retS (cst (.bl false)))
  nilS))
  nilS)))
def b__law_all_tried : LS :=
  (seqS (asgS (srkN (varM 2)) (gNm 4))
  (seqS (forS (itmE (opM getA (lstM (aCons (varM 4) (aCons (rvsM (varM 4)) aNil))) (varM 3))) (gNm 5)
  b__law_all_tried_1)
  (retS (opM eqL (mthM "Rooms" "ready" f_Rooms_ready (varM 0) aNil) (lstM aNil)))))
def f__law_all_tried : List LV → M LV := runB 8 b__law_all_tried
theorem i__law_all_tried {v0 v1 v2 v3 : LV} {h : LH} {Q : LV → LH → Prop} {E : XP} (H : ws (b__law_all_tried [some v0, some v1, some v2, some v3, none, none, none, none] h) (kNon Q) ⟨Q, kNo, kNo, xR E⟩) : wp (f__law_all_tried [v0, v1, v2, v3] h) Q E := w_run rfl H
def b__law_deed : LS :=
  (seqS (asgS (opM getA (varM 4) (cst (.int 2))) (gNm 6))
  (seqS (ifS (tstM (opM eqL (varM 3) (cst (.str "step"))))
  (seqS (ifS (tstM (opM inA (varM 6) (varM 1)))
  (seqS (exprS (selO isLst (varM 1) (metM isLst popL (varM 1) (aCons (varM 6) aNil)) (selO isDT (varM 1) (metM isDT popT (varM 1) (aCons (varM 6) aNil)) (dpopM (varM 1) (varM 6)))))
  (retS (opM isNL (mthM "Rooms" "leave" f_Rooms_leave (varM 0) (aCons (varM 6) aNil)) (cst .non))))
  nilS)
  (seqS (asgS (varM 5) (gSb (varM 1) (varM 6)))
  (retS (opM isNL (mthM "Rooms" "enter" f_Rooms_enter (varM 0) (aCons (varM 6) aNil)) (cst .non)))))
  nilS)
  (seqS (ifS (tstM (opM eqL (varM 3) (cst (.str "retire"))))
  (seqS (asgS (opM getA (lstM (aCons (opM getA (varM 4) (cst (.int 3))) (aCons (opM getA (varM 4) (cst (.int 4))) aNil))) (opM getA (varM 4) (cst (.int 5)))) (gNm 7))
  (seqS (ifS (tstM (opM inA (varM 7) (varM 2)))
  (retS (cst (.bl true)))
  nilS)
  (seqS (asgS (lsvM (varM 1)) (gSb (varM 2) (varM 7)))
  (retS (opM isNL (mthM "Rooms" "retire" f_Rooms_retire (varM 0) (aCons (varM 7) aNil)) (cst .non))))))
  nilS)
  (retS (callM f__law_all_tried (aCons (varM 0) (aCons (varM 1) (aCons (varM 2) (aCons (opM getA (varM 4) (cst (.int 5))) aNil)))))))))
def f__law_deed : List LV → M LV := runB 8 b__law_deed
theorem i__law_deed {v0 v1 v2 v3 v4 v5 : LV} {h : LH} {Q : LV → LH → Prop} {E : XP} (H : ws (b__law_deed [some v0, some v1, some v2, some v3, some v4, some v5, none, none] h) (kNon Q) ⟨Q, kNo, kNo, xR E⟩) : wp (f__law_deed [v0, v1, v2, v3, v4, v5] h) Q E := w_run rfl H
def b__law_stands_1 : LS :=
  (exprS (metM isLst appL (varM 3) (aCons (tupM (aCons (varM 4) (aCons (compM (itmE (srkN (varM 1))) (gNm 5) (tstM (opM inA (opM getA (varM 1) (varM 5)) (opM getA (varM 2) (varM 4)))) (varM 5) [5]) aNil))) aNil)))
def b__law_stands : LS :=
  (seqS (asgS (lstM aNil) (gNm 3))
  (seqS (forS (itmE (srkN (varM 2))) (gNm 4)
  b__law_stands_1)
  (seqS (ifS (orT (notT (tstM (callM (f__law_same 9) (aCons (mthM "Rooms" "waiting" f_Rooms_waiting (varM 0) aNil) (aCons (varM 3) aNil))))) (notT (tstM (callM (f__law_same 9) (aCons (mthM "Rooms" "reading" f_Rooms_reading (varM 0) aNil) (aCons (srkN (varM 1)) aNil))))))
  (retS (cst (.bl false)))
  nilS)
  (retS (callM (f__law_same 9) (aCons (mthM "Rooms" "ready" f_Rooms_ready (varM 0) aNil) (aCons (compM (itmE (varM 3)) (gTp [(gNm 4), (gNm 6)]) (tstM (opM eqL (varM 6) (lstM aNil))) (varM 4) [4, 6]) aNil)))))))
def f__law_stands : List LV → M LV := runB 7 b__law_stands
theorem i__law_stands {v0 v1 v2 : LV} {h : LH} {Q : LV → LH → Prop} {E : XP} (H : ws (b__law_stands [some v0, some v1, some v2, none, none, none, none] h) (kNon Q) ⟨Q, kNo, kNo, xR E⟩) : wp (f__law_stands [v0, v1, v2] h) Q E := w_run rfl H
def b_law_1 : LS :=
  (seqS (asgS (callM f__law_numbers (aCons (varM 5) (aCons (opM addL (cst (.int 2800)) (varM 4)) (aCons (lstM (aCons (cst (.int 8)) (aCons (cst (.int 2)) (aCons (cst (.int 4)) (aCons (cst (.int 9)) (aCons (opM powL (cst (.int 10)) (cst (.int 59))) (aCons (cst (.int 2)) (aCons (cst (.int 5)) aNil)))))))) aNil)))) (gNm 6))
  (seqS (asgS (opM getA (varM 6) (cst (.int 1))) (gNm 7))
  (seqS (asgS (opM getA (lstM (aCons (cst (.str "step")) (aCons (cst (.str "step")) (aCons (cst (.str "step")) (aCons (cst (.str "retire")) (aCons (cst (.str "retire")) (aCons (cst (.str "retire")) (aCons (cst (.str "give")) (aCons (cst (.str "copy")) aNil))))))))) (opM getA (varM 6) (cst (.int 0)))) (gNm 8))
  (seqS (ifS (tstM (opM eqL (varM 8) (cst (.str "copy"))))
  (seqS (asgS (mthM "Rooms" "copy" f_Rooms_copy (opM getA (varM 1) (varM 7)) aNil) (gSb (varM 1) (opM subL (cst (.int 1)) (varM 7))))
  (seqS (asgS (callM dctL (aCons (opM getA (varM 2) (varM 7)) aNil)) (gSb (varM 2) (opM subL (cst (.int 1)) (varM 7))))
  (asgS (callM dctL (aCons (opM getA (varM 3) (varM 7)) aNil)) (gSb (varM 3) (opM subL (cst (.int 1)) (varM 7))))))
  (ifS (notT (tstM (callM f__law_deed (aCons (opM getA (varM 1) (varM 7)) (aCons (opM getA (varM 2) (varM 7)) (aCons (opM getA (varM 3) (varM 7)) (aCons (varM 8) (aCons (varM 6) (aCons (varM 4) aNil)))))))))
  (retS (cst (.bl false)))
  nilS))
  (ifS (andT (tstM (opM gtL (opM getA (varM 6) (cst (.int 6))) (cst (.int 0)))) (notT (tstM (callM f__law_stands (aCons (opM getA (varM 1) (opM modL (varM 4) (cst (.int 2)))) (aCons (opM getA (varM 2) (opM modL (varM 4) (cst (.int 2)))) (aCons (opM getA (varM 3) (opM modL (varM 4) (cst (.int 2)))) aNil)))))))
  (retS (cst (.bl false)))
  nilS)))))
def b_law_2 : LS :=
  (seqS (ifS (tstM (opM inA (varM 9) (opM getA (varM 2) (varM 7))))
  (seqS (exprS (selO isLst (opM getA (varM 2) (varM 7)) (metM isLst popL (opM getA (varM 2) (varM 7)) (aCons (varM 9) aNil)) (selO isDT (opM getA (varM 2) (varM 7)) (metM isDT popT (opM getA (varM 2) (varM 7)) (aCons (varM 9) aNil)) (dpopM (opM getA (varM 2) (varM 7)) (varM 9)))))
  (exprS (mthM "Rooms" "leave" f_Rooms_leave (opM getA (varM 1) (varM 7)) (aCons (varM 9) aNil))))
  nilS)
  (ifS (notT (tstM (callM f__law_all_tried (aCons (opM getA (varM 1) (varM 7)) (aCons (opM getA (varM 2) (varM 7)) (aCons (opM getA (varM 3) (varM 7)) (aCons (cst (.int 0)) aNil)))))))
  (retS (cst (.bl false)))
  nilS))
def b_law_3 : LS :=
  (forS (itmC rng1 (aCons (cst (.int 2)) aNil)) (gNm 7)
  b_law_2)
def b_law : LS :=
  (seqS (asgS (lstM (aCons (newM "Rooms" f_Rooms___init__ aNil) (aCons (newM "Rooms" f_Rooms___init__ aNil) aNil))) (gNm 1))
  (seqS (asgS (lstM (aCons (dnwM false) (aCons (dnwM false) aNil))) (gNm 2))
  (seqS (asgS (lstM (aCons (dnwM false) (aCons (dnwM false) aNil))) (gNm 3))
  (seqS (forS (itmC enuL (aCons (opM addL (lstM (aCons (cst (.int 2)) aNil)) (slcM (varM 0) poN (poS (cst (.int 62))))) aNil)) (gTp [(gNm 4), (gNm 5)])
  b_law_1)
  (seqS (forS (itmC rng1 (aCons (cst (.int 4)) aNil)) (gNm 9)
  b_law_3)
  (retS (andV (opM eqY (varM 3) (lstM (aCons (dnwM false) (aCons (dnwM false) aNil)))) (andV (opM eqY (mthM "Rooms" "waiting" f_Rooms_waiting (opM getA (varM 1) (cst (.int 0))) aNil) (lstM aNil)) (opM eqY (mthM "Rooms" "waiting" f_Rooms_waiting (opM getA (varM 1) (cst (.int 1))) aNil) (lstM aNil))))))))))
def f_law : List LV → M LV := runB 10 b_law
theorem i_law {v0 : LV} {h : LH} {Q : LV → LH → Prop} {E : XP} (H : ws (b_law [some v0, none, none, none, none, none, none, none, none, none] h) (kNon Q) ⟨Q, kNo, kNo, xR E⟩) : wp (f_law [v0] h) Q E := w_run rfl H
end

set_option maxRecDepth 100000
set_option maxHeartbeats 4000000
section
open PySem PySem.Spec PyProof.Rows L2 Fw
/-! ### the law's own notes: which stretch each hand is in, which stretches were open when a thing was retired -/
abbrev OL := List (Int × Int)
abbrev UL := List (Int × List Int)
def inO (O : OL) (ns : List Int) (j : Int) : Bool := match O.lookup j with
  | some s => decide (s ∈ ns)
  | none => false
def due (O : OL) (ns : List Int) : List Int := (srtI (O.map (·.1))).filter (inO O ns)
def stOf (O : OL) (U : UL) : UL := U.map fun p => (p.1, due O p.2)
def oD (O : OL) : List (LV × LV) := dI (O.map fun p => (p.1, LV.int p.2))
theorem keys_filter (O : OL) (i : Int) : (O.filter fun p => !(p.1 == i)).map (·.1) = (O.map (·.1)).filter fun j => !(j == i) := by
  rw [List.filter_map]; rfl
theorem look_filter {O : OL} {i j : Int} (ne : j ≠ i) : (O.filter fun p => !(p.1 == i)).lookup j = O.lookup j := by
  induction O with
  | nil => rfl
  | cons p O ih =>
    obtain ⟨a, b⟩ := p
    by_cases e : a = i
    · subst e
      have h1 : (j == a) = false := by simpa using ne
      rw [List.filter_cons_of_neg (by simp), ih, List.lookup_cons, h1]
    · rw [List.filter_cons_of_pos (by simpa using e), List.lookup_cons, List.lookup_cons, ih]
theorem srt_filter (ns : List Int) (f : Int → Bool) : srtI (ns.filter f) = (srtI ns).filter f :=
  (srtI_of (((srtI_perm ns).filter f)) ((srtI_sorted _).filter _)).symm
theorem due_leave (O : OL) (ns : List Int) (i : Int) : due (O.filter fun p => !(p.1 == i)) ns = (due O ns).filter fun j => !(j == i) := by
  unfold due
  rw [keys_filter, srt_filter, List.filter_filter, List.filter_filter]
  apply List.filter_congr
  intro j hj
  by_cases e : j = i
  · subst e; simp
  · unfold inO; rw [look_filter e, Bool.and_comm]
theorem look_app (O : OL) (i n j : Int) : (O ++ [(i, n)]).lookup j = (O.lookup j).or (if j = i then some n else none) := by
  rw [List.lookup_append]
  congr 1
  by_cases e : j = i
  · subst e; simp
  · have h1 : (j == i) = false := by simpa using e
    simp [List.lookup_cons, h1, e]
theorem inO_other {O : OL} {ns : List Int} {i n j : Int} (ne : j ≠ i) : inO (O ++ [(i, n)]) ns j = inO O ns j := by
  unfold inO; rw [look_app, if_neg ne, Option.or_none]
theorem inO_new {O : OL} {ns : List Int} {i n : Int} (ni : i ∉ O.map (·.1)) (b : ∀ s ∈ ns, s < n) : inO (O ++ [(i, n)]) ns i = false := by
  unfold inO; rw [look_app, look_none ni, if_pos rfl]
  apply decide_eq_false
  intro m
  have := b n m
  omega
theorem due_enter {O : OL} {ns : List Int} {i n : Int} (ni : i ∉ O.map (·.1)) (b : ∀ s ∈ ns, s < n) : due (O ++ [(i, n)]) ns = due O ns := by
  unfold due
  refine srt_uniq ?_ ((srtI_sorted _).filter _) ((srtI_sorted _).filter _)
  refine ((srtI_perm _).filter _).trans (List.Perm.trans ?_ ((srtI_perm _).filter _).symm)
  rw [List.map_append, List.filter_append]
  have e1 : [(i, n)].map (·.1) = [i] := rfl
  rw [e1, List.filter_cons_of_neg (by rw [inO_new ni b]; decide), List.filter_nil, List.append_nil]
  refine List.Perm.of_eq (List.filter_congr fun j hj => inO_other fun e => ni (by rw [← e]; exact hj))
theorem look_key {O : OL} {j : Int} (m : j ∈ O.map (·.1)) : ∃ s, O.lookup j = some s ∧ s ∈ O.map (·.2) := by
  obtain ⟨s, e⟩ := look_ex m
  exact ⟨s, e, List.mem_map_of_mem (f := (·.2)) (look_mem e)⟩
theorem due_retire (O : OL) : due O (O.map (·.2)) = srtI (O.map (·.1)) := by
  unfold due
  refine List.filter_eq_self.mpr fun j hj => ?_
  obtain ⟨s, e, m⟩ := look_key ((srtI_perm _).mem_iff.mp hj)
  unfold inO; rw [e]; exact decide_eq_true m
/-- nothing that was open is open still, told by either side -/
theorem due_empty {O : OL} {ns : List Int} (nd : (O.map (·.1)).Nodup) : (due O ns).isEmpty = (ns.filter fun s => decide (s ∈ O.map (·.2))).isEmpty := by
  rw [Bool.eq_iff_iff, List.isEmpty_iff, List.isEmpty_iff]
  constructor
  · intro h
    refine List.filter_eq_nil_iff.mpr fun s hs hc => ?_
    obtain ⟨⟨j, s'⟩, hp, rfl⟩ := List.mem_map.mp (of_decide_eq_true hc)
    have : j ∈ due O ns := List.mem_filter.mpr ⟨(srtI_perm _).mem_iff.mpr (List.mem_map_of_mem (f := (·.1)) hp), by unfold inO; rw [look_some nd hp]; exact decide_eq_true hs⟩
    rw [h] at this; cases this
  · intro h
    refine List.filter_eq_nil_iff.mpr fun j hj hc => ?_
    obtain ⟨s, e, m⟩ := look_key ((srtI_perm _).mem_iff.mp hj)
    unfold inO at hc
    rw [e] at hc
    have : s ∈ ns.filter fun s => decide (s ∈ O.map (·.2)) := List.mem_filter.mpr ⟨of_decide_eq_true hc, decide_eq_true m⟩
    rw [h] at this; cases this
theorem due_none (ns : List Int) : due [] ns = [] := by
  unfold due; rw [List.map_nil, srtI_nil]; rfl
theorem due_len (O : OL) (ns : List Int) : (due O ns).length ≤ O.length := by
  unfold due
  have h1 := List.length_filter_le (inO O ns) (srtI (O.map (·.1)))
  rw [(srtI_perm _).length_eq, List.length_map] at h1
  exact h1
theorem stOf_keys (O : OL) (U : UL) : (stOf O U).map (·.1) = U.map (·.1) := by unfold stOf; rw [List.map_map]; rfl
theorem stOf_leave (O : OL) (U : UL) (i : Int) : lvS i (stOf O U) = stOf (O.filter fun p => !(p.1 == i)) U := by
  unfold lvS stOf
  rw [List.map_map]
  apply List.map_congr_left
  intro p _
  simp [Function.comp, due_leave]
theorem stOf_enter {O : OL} {U : UL} {i n : Int} (ni : i ∉ O.map (·.1)) (b : ∀ p ∈ U, ∀ s ∈ p.2, s < n) : stOf (O ++ [(i, n)]) U = stOf O U := by
  unfold stOf
  exact List.map_congr_left fun p hp => by rw [due_enter ni (b p hp)]
theorem stOf_retire (O : OL) (U : UL) (k : Int) : stOf O (U ++ [(k, O.map (·.2))]) = stOf O U ++ [(k, srtI (O.map (·.1)))] := by
  unfold stOf; rw [List.map_append, List.map_cons, due_retire]; rfl
theorem stOf_del (O : OL) (U : UL) (f : Int → Bool) : stOf O (U.filter fun p => f p.1) = (stOf O U).filter fun p => f p.1 := by
  unfold stOf; rw [List.filter_map]; rfl
theorem stOf_look {O : OL} {U : UL} {k : Int} {ns : List Int} (e : U.lookup k = some ns) : (stOf O U).lookup k = some (due O ns) := by
  unfold stOf
  rw [lookup_map (f := fun p : List Int => due O p), e]; rfl
theorem oD_get (O : OL) (k : Int) : getK (oD O) (.int k) = (O.lookup k).map LV.int := by
  unfold oD
  rw [dI_get]
  exact lookup_map (f := fun p : Int => LV.int p)
theorem oD_put {O : OL} {i n : Int} (ni : i ∉ O.map (·.1)) : putL (oD O) (.int i) (.int n) = oD (O ++ [(i, n)]) := by
  unfold oD
  rw [dI_new _ _ _ (by simpa using ni), List.map_append]; rfl
theorem oD_del (O : OL) (i : Int) : delL (oD O) (.int i) = oD (O.filter fun p => !(p.1 == i)) := by
  unfold oD
  rw [dI_del, List.filter_map]; rfl
theorem oD_len (O : OL) : (oD O).length = O.length := by unfold oD; rw [dI_len]; simp
theorem oD_keys (O : OL) : intsOf ((oD O).map (·.1)) = some (O.map (·.1)) := by
  unfold oD
  rw [dI_keys]
  simp [Function.comp]
theorem oD_vals (O : OL) : (oD O).map (·.2) = (O.map (·.2)).map LV.int := by
  unfold oD dI; simp [Function.comp]
section
variable {h : LH} {L L' : List (Nat × LO)} {Q : LV → LH → Prop} {E : XP} {l : Nat} {kvs : List (LV × LV)} {s : LSt} {d : LE}
theorem e_lsv : wp (lsvM d s h) Q E = wp (d s h) (kUn lsvB Q E) E := by unfold lsvM; rw [wp_bnd]; rfl
theorem w_lsvB (hs : Hs h L) (hx : (l, LO.dct false kvs) ∈ L) (H : ∀ q h', Hs h' ((q, .lst (kvs.map (·.2))) :: L) → Q (.ref q) h') : wp (lsvB (.ref l) h) Q E := by
  refine wp_eq ?_ (H _ _ hs.new)
  unfold lsvB; rw [dAt_of hs hx]
theorem e_invM {a : LE} : wp (invM a d s h) Q E = wp (a s h) (fun x h1 => wp (d s h1) (fun y h2 => wp (invB x y h2) Q E) E) E := by unfold invM; simp only [wp_bnd]
theorem w_invB {i : Int} {ns : List Int} (hs : Hs h L) (hx : (l, LO.dct false kvs) ∈ L) (e : kvs.map (·.2) = ns.map LV.int) (H : Q (.bl (decide (i ∈ ns))) h) : wp (invB (.int i) (.ref l) h) Q E := by
  refine wp_eq ?_ H
  unfold invB; rw [dAt_of hs hx]; dsimp only; rw [e, intsOf_map]
end
end

set_option maxRecDepth 100000
set_option maxHeartbeats 4000000
section
open PySem PySem.Spec PyProof.Rows L2 Fw
section
variable {h : LH} {L L' T T' : List (Nat × LO)} {o rd wt l r : Nat} {R : List Int} {W : WL} {i k : Int} {ns : List Int} {kvs : List (LV × LV)} {Q : LV → LH → Prop} {E : XP}
theorem dct_w8 {l : Nat} {kvs : List (LV × LV)} (hs : Hs h L) (hx : (l, LO.dct false kvs) ∈ L) (H : ∀ q h', Hs h' ((q, .dct false kvs) :: L) → Q (.ref q) h') : wp (dctL [.ref l] h) Q E := by
  refine wp_eq (v := .ref h.length) (h := h ++ [.dct false kvs]) ?_ (H _ _ hs.new)
  simp only [dctL, hs.get hx]
local macro_rules | `(tactic| wtm_at "zfn") => `(tactic| first
  | ((with_reducible apply dct_w8); (· with_reducible assumption); (· wtm_at "zmem"); (intro l' h' hs'))
  | ((with_reducible apply i_Rooms___init__); unfold b_Rooms___init__)
  | ((with_reducible apply w_fdI); (· with_reducible assumption); (· wtm_at "zmem")) | fail)
theorem rcopy_s (lw : W.length < 1000) (nk : (W.map (·.1)).Nodup) (u : Tw T W T' W) (hs : Hs h (rmC o rd wt R W T)) (H : ∀ o2 rd2 wt2 W2 h', W2.map sh = W.map sh → Hs h' (rmC o2 rd2 wt2 R W2 (wC W2 ++ rmC o rd wt R W T)) → Q (.ref o2) h') : wp (f_Rooms_copy [.ref o] h) Q E := by
  apply i_Rooms_copy; unfold b_Rooms_copy
  wtm_at "zgo"
  rename_i o2 _ _ q0 _ _ _ _ wt2 _ _ _ _ rd2 _ _ h9 hs9
  have hsA : Hs h9 ((o2, rmO rd2 wt2) :: (rd2, .dct false (rD R)) :: (wt2, .dct false []) :: (o, rmO rd wt) :: (rd, .dct false (rD R)) :: (wt, .dct false (wD W)) :: T) := hs9.prm (by wtm_at "zprm")
  clear hs9 hs
  refine w_lkS hsA (l := wt) (L' := (o2, rmO rd2 wt2) :: (rd2, .dct false (rD R)) :: (wt2, .dct false []) :: (o, rmO rd wt) :: (rd, .dct false (rD R)) :: (wt, .fdc false (wD W)) :: T) (kvs := wD W) (tk := false) (by wtm_at "zgo") (by wtm_at "zup") ?_
  intro h1 hs1
  wtm_at "zgo"
  have ei : (wD W).map (fun p => LV.tup [p.1, p.2]) = W.map fun p => LV.tup [.int p.1, .ref p.2.1] := by simp [wD, dI, Function.comp]
  rw [ei]
  refine w_forPre W (fun p => LV.tup [.int p.1, .ref p.2.1]) (fun a s h => ∃ A' y2 y3, s = [some (.ref o), some (.ref o2), y2, y3] ∧ A'.map sh = a.map sh ∧ Hs h ((o2, rmO rd2 wt2) :: (rd2, .dct false (rD R)) :: (wt2, .dct false (wD A')) :: (wC A' ++ ((o, rmO rd wt) :: (rd, .dct false (rD R)) :: (wt, .fdc false (wD W)) :: T)))) rfl ⟨[], _, _, rfl, rfl, hs1⟩ ?_ ?_ ?_
  · rintro a s h ⟨A', y2, y3, rfl, e, hs⟩; rfl
  · rintro a p b s h eW ⟨A', y2, y3, rfl, e, hs⟩
    obtain ⟨k, r, ns⟩ := p
    have mp : (k, r, ns) ∈ W := by rw [eW]; simp
    have mm : (r, LO.lst (ns.map LV.int)) ∈ ((o2, rmO rd2 wt2) :: (rd2, .dct false (rD R)) :: (wt2, .dct false (wD A')) :: (wC A' ++ ((o, rmO rd wt) :: (rd, .dct false (rD R)) :: (wt, .fdc false (wD W)) :: T))) := List.mem_cons_of_mem _ (List.mem_cons_of_mem _ (List.mem_cons_of_mem _ (List.mem_append_right _ (List.mem_cons_of_mem _ (List.mem_cons_of_mem _ (List.mem_cons_of_mem _ (u.mem mp)))))))
    have ek : A'.map (·.1) = a.map (·.1) := by
      have := congrArg (List.map fun p : Int × List Int => p.1) e
      rw [List.map_map, List.map_map] at this
      exact this
    have lz : (wD A').length < sizeLine := by
      have e1 := congrArg List.length ek
      have e2 := congrArg List.length eW
      rw [wD_len, sizeLine_eq]
      simp at e1 e2 ⊢
      omega
    have kn : k ∉ A'.map (·.1) := by
      rw [ek]
      rw [eW, List.map_append, List.nodup_append] at nk
      intro hk
      exact nk.2.2 k hk k (by simp) rfl
    unfold b_Rooms_copy_1
    wtm_at "zgo"
    rename_i q h2 hs2 h3 hs3
    rw [wD_put (ns := ns) kn] at hs3
    refine ⟨A' ++ [(k, q, ns)], _, _, rfl, by simp [e, sh], ?_⟩
    exact Tw.push (L := (o2, rmO rd2 wt2) :: (rd2, .dct false (rD R)) :: (wt2, .dct false (wD (A' ++ [(k, q, ns)]))) :: (wC A' ++ ((o, rmO rd wt) :: (rd, .dct false (rD R)) :: (wt, .fdc false (wD W)) :: T))) (.there (.there (.there .here))) hs3
  · rintro s h ⟨A', y2, y3, rfl, e, hs⟩
    have hs' : Hs h ((wt, .fdc false (wD W)) :: ((o2, rmO rd2 wt2) :: (rd2, .dct false (rD R)) :: (wt2, .dct false (wD A')) :: (wC A' ++ ((o, rmO rd wt) :: (rd, .dct false (rD R)) :: T)))) := by
      refine hs.perm ?_
      letI := Classical.typeDecidableEq (Nat × LO)
      rw [List.perm_iff_count]; intro x; simp only [List.count_append, List.count_cons]; omega
    refine w_kUnl hs' .here ?_
    intro h2 hs2
    wtm_at "zgo"
    refine H o2 rd2 wt2 A' _ e (hs2.perm ?_)
    letI := Classical.typeDecidableEq (Nat × LO)
    rw [List.perm_iff_count]; intro x; simp only [List.count_append, List.count_cons]; omega
end
end

set_option maxRecDepth 100000
set_option maxHeartbeats 4000000
section
open PySem PySem.Spec PyProof.Rows L2 Fw
section
variable {h : LH} {L L' T T' : List (Nat × LO)} {o rd wt l r : Nat} {R : List Int} {W : WL} {i k : Int} {ns : List Int} {kvs : List (LV × LV)} {Q : LV → LH → Prop} {E : XP}
theorem given_n (k0 : 0 ≤ k) (n : W.lookup k = none) (hs : Hs h (rmC o rd wt R W T)) (H : ∀ h', Hs h' (rmC o rd wt R W T) → Q (.str "late") h') : wp (f__law_given [.ref o, .int k] h) Q E := by
  apply i__law_given; unfold b__law_given
  wtm_at "zgo"
  refine rgive_n k0 n hs ?_
  wtm_at "zgo"
  exact H _ hs
theorem given_x (k0 : 0 ≤ k) (n : W.lookup k = some (r, ns)) (ne : ns.isEmpty = false) (u : Tw T W T' W) (hs : Hs h (rmC o rd wt R W T)) (H : ∀ h', Hs h' (rmC o rd wt R W T) → Q (.str "late") h') : wp (f__law_given [.ref o, .int k] h) Q E := by
  apply i__law_given; unfold b__law_given
  wtm_at "zgo"
  refine rgive_x k0 n ne u hs ?_
  intro h1 hs1
  wtm_at "zgo"
  exact H _ hs1
theorem given_w (k0 : 0 ≤ k) (n : W.lookup k = some (r, [])) (u : Tw T W T' (W.filter fun p => !(p.1 == k))) (hs : Hs h (rmC o rd wt R W T)) (H : ∀ h', Hs h' (rmC o rd wt R (W.filter fun p => !(p.1 == k)) T') → Q (.str "given") h') : wp (f__law_given [.ref o, .int k] h) Q E := by
  apply i__law_given; unfold b__law_given
  wtm_at "zgo"
  refine rgive_w k0 n u hs ?_
  intro h1 hs1
  wtm_at "zgo"
  exact H _ (by wtm_at "zhs")
end
/-! ### a room with the law's notes of it -/
structure Rm where
  o : Nat
  rd : Nat
  wt : Nat
  d : Nat
  v : Nat
  O : OL
  W : WL
  V : WL
abbrev rmL (x : Rm) (T : List (Nat × LO)) : List (Nat × LO) := (x.d, .dct false (oD x.O)) :: (x.v, .dct false (wD x.V)) :: rmC x.o x.rd x.wt (x.O.map (·.1)) x.W T
structure OkR (F : List (Nat × LO)) (n : Int) (x : Rm) : Prop where
  nd : (x.O.map (·.1)).Nodup
  b : ∀ p ∈ x.O, (0 ≤ p.1 ∧ p.1 ≤ 3) ∧ p.2 < n
  w : x.W.map sh = stOf x.O (x.V.map sh)
  kn : (x.V.map (·.1)).Nodup
  kp : ∀ p ∈ x.V, 0 ≤ p.1
  s : ∀ p ∈ x.V, ∀ s ∈ p.2.2, s < n
  m : ∀ p ∈ x.V, (p.2.1, LO.lst (p.2.2.map LV.int)) ∈ F
  lv : (x.V.length : Int) ≤ n
  ln : ∀ p ∈ x.V, p.2.2.length ≤ 4
  n : n ≤ 100
theorem nd_sub : ∀ {xs ys : List Int}, xs.Nodup → (∀ i ∈ xs, i ∈ ys) → xs.length ≤ ys.length
  | [], _, _, _ => Nat.zero_le _
  | x :: xs, ys, nd, k => by
    rw [List.nodup_cons] at nd
    have m := k x List.mem_cons_self
    have h := nd_sub (xs := xs) (ys := ys.erase x) nd.2 fun i hi => (List.mem_erase_of_ne (fun e => nd.1 (by rw [← e]; exact hi))).mpr (k i (List.mem_cons_of_mem _ hi))
    rw [List.length_erase_of_mem m] at h
    have := List.length_pos_of_mem m
    rw [List.length_cons]
    omega
theorem nodup_le4 {xs : List Int} (nd : xs.Nodup) (b : ∀ i ∈ xs, 0 ≤ i ∧ i ≤ 3) : xs.length ≤ 4 := by
  refine nd_sub (ys := [0, 1, 2, 3]) nd fun i hi => ?_
  have := b i hi
  obtain h | h | h | h : i = 0 ∨ i = 1 ∨ i = 2 ∨ i = 3 := by omega
  all_goals subst h; simp
section
variable {F F' : List (Nat × LO)} {n n' : Int} {x : Rm}
theorem OkR.up (z : OkR F n x) (hn : n ≤ n') (h100 : n' ≤ 100) (k : ∀ p ∈ F, p ∈ F') : OkR F' n' x :=
  ⟨z.nd, fun p hp => ⟨(z.b p hp).1, by have := (z.b p hp).2; omega⟩, z.w, z.kn, z.kp, fun p hp s hs => by have := z.s p hp s hs; omega, fun p hp => k _ (z.m p hp), by have := z.lv; omega, z.ln, h100⟩
theorem OkR.lo (z : OkR F n x) : x.O.length ≤ 4 := by
  have := nodup_le4 z.nd (fun i hi => by obtain ⟨p, hp, rfl⟩ := List.mem_map.mp hi; exact (z.b p hp).1)
  rwa [List.length_map] at this
theorem OkR.kw (z : OkR F n x) : x.W.map (·.1) = x.V.map (·.1) := by
  have h := congrArg (List.map fun p : Int × List Int => p.1) z.w
  rw [stOf_keys, sh_keys, sh_keys] at h
  exact h
theorem OkR.lw (z : OkR F n x) : x.W.length = x.V.length := by simpa using congrArg List.length z.kw
theorem OkR.lw2 (z : OkR F n x) : x.W.length < 1000 := by have := z.lw; have := z.lv; have := z.n; omega
theorem OkR.lnW (z : OkR F n x) : ∀ p ∈ x.W, p.2.2.length ≤ 4 := by
  intro p hp
  have h : sh p ∈ stOf x.O (x.V.map sh) := by rw [← z.w]; exact List.mem_map_of_mem hp
  unfold stOf at h
  obtain ⟨q, _, e⟩ := List.mem_map.mp h
  have e2 : p.2.2 = due x.O q.2 := (congrArg Prod.snd e).symm
  rw [e2]
  have := due_len x.O q.2
  have := z.lo
  omega
/-- what a thing that waits here waits for -/
theorem OkR.at (z : OkR F n x) {k : Int} {r : Nat} {ns : List Int} (e : x.V.lookup k = some (r, ns)) : ∃ q, x.W.lookup k = some (q, due x.O ns) := by
  have h1 : (x.V.map sh).lookup k = some ns := by
    have : (x.V.map sh).lookup k = (x.V.lookup k).map (·.2) := lookup_map (f := fun p : Nat × List Int => p.2)
    rw [this, e]; rfl
  have h2 : (x.W.map sh).lookup k = (x.W.lookup k).map (·.2) := lookup_map (f := fun p : Nat × List Int => p.2)
  rw [z.w, stOf_look h1] at h2
  cases e2 : x.W.lookup k with
  | none => rw [e2] at h2; cases h2
  | some q => rw [e2] at h2; exact ⟨q.1, by rw [Option.some.inj h2]⟩
theorem OkR.no (z : OkR F n x) {k : Int} (e : k ∉ x.V.map (·.1)) : x.W.lookup k = none := look_none (by rw [z.kw]; exact e)
theorem OkR.del (z : OkR F n x) (f : Int → Bool) : OkR F n { x with W := x.W.filter (fun p => f p.1), V := x.V.filter fun p => f p.1 } := by
  refine ⟨z.nd, z.b, ?_, ?_, fun p hp => z.kp p (List.mem_filter.mp hp).1, fun p hp => z.s p (List.mem_filter.mp hp).1, fun p hp => z.m p (List.mem_filter.mp hp).1, ?_, fun p hp => z.ln p (List.mem_filter.mp hp).1, z.n⟩
  · show (x.W.filter fun p => f p.1).map sh = stOf x.O ((x.V.filter fun p => f p.1).map sh)
    have e1 : (x.W.filter fun p => f p.1).map sh = (x.W.map sh).filter fun p => f p.1 := by rw [List.filter_map]; rfl
    have e2 : (x.V.filter fun p => f p.1).map sh = (x.V.map sh).filter fun p => f p.1 := by rw [List.filter_map]; rfl
    rw [e1, e2, stOf_del, z.w]
  · exact z.kn.sublist (List.filter_sublist.map _)
  · have := List.length_filter_le (fun p : Int × Nat × List Int => f p.1) x.V
    have := z.lv
    show ((x.V.filter fun p => f p.1).length : Int) ≤ n
    omega
end
end

set_option maxRecDepth 100000
set_option maxHeartbeats 4000000
section
open PySem PySem.Spec PyProof.Rows L2 Fw
abbrev xf (x : Rm) (f : Int → Bool) : Rm := { x with W := x.W.filter (fun p => f p.1), V := x.V.filter fun p => f p.1 }
def keepA (x : Rm) (a : List Int) (k : Int) : Bool := !(decide (k ∈ a)) || !(due x.O (hsOf (x.V.map sh) k)).isEmpty
theorem look_filt {α : Type} {f : Int → Bool} {k : Int} (e : f k = true) : ∀ {m : List (Int × α)}, (m.filter fun p => f p.1).lookup k = m.lookup k
  | [] => rfl
  | (a, v) :: m => by
    by_cases c : f a = true
    · rw [List.filter_cons_of_pos (by exact c), List.lookup_cons, List.lookup_cons, look_filt e]
    · have ne : (k == a) = false := by
        have : k ≠ a := fun h => c (by rw [← h]; exact e)
        simpa using this
      rw [List.filter_cons_of_neg (by exact c), List.lookup_cons, ne]; exact look_filt e
theorem xf_congr {x : Rm} {f g : Int → Bool} (h : ∀ k, k ∈ x.V.map (·.1) → f k = g k) (kw : x.W.map (·.1) = x.V.map (·.1)) : xf x f = xf x g := by
  have e1 : x.W.filter (fun p => f p.1) = x.W.filter (fun p => g p.1) := List.filter_congr fun p hp => h p.1 (by rw [← kw]; exact List.mem_map_of_mem (f := (·.1)) hp)
  have e2 : x.V.filter (fun p => f p.1) = x.V.filter (fun p => g p.1) := List.filter_congr fun p hp => h p.1 (List.mem_map_of_mem (f := (·.1)) hp)
  unfold xf
  rw [e1, e2]
theorem pmB {α : Type} (d v o r w : α) (A F : List α) : (d :: v :: o :: r :: w :: (A ++ F)).Perm (o :: r :: w :: (A ++ (d :: v :: F))) := by
  letI := Classical.typeDecidableEq α
  rw [List.perm_iff_count]; intro x; simp only [List.count_append, List.count_cons]; omega
theorem pmA {α : Type} (q d v o r w : α) (A F : List α) : (q :: d :: v :: o :: r :: w :: (A ++ F)).Perm (o :: r :: w :: (A ++ (q :: d :: v :: F))) := by
  letI := Classical.typeDecidableEq α
  rw [List.perm_iff_count]; intro x; simp only [List.count_append, List.count_cons]; omega
local macro_rules | `(tactic| wtm_at "zck") => `(tactic| first | exact isDT_f (by with_reducible assumption) (by wtm_at "zmem") | fail)
theorem xf_id {x : Rm} {f : Int → Bool} (h : ∀ k, f k = true) : xf x f = x := by
  unfold xf
  rw [List.filter_eq_self.mpr (fun p _ => h p.1), List.filter_eq_self.mpr (fun p _ => h p.1)]
section
variable {h : LH} {L F B : List (Nat × LO)} {n : Int} {x : Rm} {q : Nat} {K : List Int} {Q : LV → LH → Prop} {E : XP} {s3 s4 s5 s6 s7 : Option LV} {N : LSt → LH → Prop} {Rr : LV → LH → Prop} {Bk C : LSt → LH → Prop} {X : Str → List (Str × LV) → LSt → LH → Prop}
theorem triedL (z : OkR F n x) (sub : ∀ p ∈ F, p ∈ B) (pk : K.Perm (x.V.map (·.1))) (hs : Hs h ((q, .lst (K.map LV.int)) :: rmL x (wC x.W ++ B)))
    (H : ∀ y5 y6 y7 h', Hs h' (rmL (xf x (keepA x K)) (wC (xf x (keepA x K)).W ++ B)) → N [some (.ref x.o), some (.ref x.d), some (.ref x.v), s3, s4, y5, y6, y7] h') :
    ws (forI [(q, K.map LV.int)] (gNm 5) b__law_all_tried_1 (K.map LV.int) [some (.ref x.o), some (.ref x.d), some (.ref x.v), s3, s4, s5, s6, s7] h) N ⟨Rr, Bk, C, X⟩ := by
  have nk : K.Nodup := pk.nodup_iff.mpr z.kn
  have x0 : xf x (keepA x []) = x := xf_id fun p => by simp [keepA]
  refine w_forPre K LV.int (fun a s h => ∃ y5 y6 y7, s = [some (.ref x.o), some (.ref x.d), some (.ref x.v), s3, s4, y5, y6, y7] ∧ Hs h ((q, .lst (K.map LV.int)) :: rmL (xf x (keepA x a)) (wC (xf x (keepA x a)).W ++ B))) rfl ⟨_, _, _, rfl, by rw [x0]; exact hs⟩ ?_ ?_ ?_
  · rintro a s h ⟨y5, y6, y7, rfl, hs⟩
    exact keepB_cons (hs.get List.mem_cons_self) keepB_nil
  · rintro a k b s h eK ⟨y5, y6, y7, rfl, hs⟩
    have ka : k ∉ a := by
      rw [eK, List.nodup_append] at nk
      exact fun m => nk.2.2 k m k (by simp) rfl
    have kk : k ∈ x.V.map (·.1) := pk.mem_iff.mp (by rw [eK]; simp)
    have k0 : 0 ≤ k := by obtain ⟨p, hp, rfl⟩ := List.mem_map.mp kk; exact z.kp p hp
    obtain ⟨⟨r, ns⟩, el⟩ := look_ex kk
    have fk : keepA x a k = true := by simp [keepA, ka]
    have za := z.del (keepA x a)
    have el2 : (xf x (keepA x a)).V.lookup k = some (r, ns) := by
      show (x.V.filter fun p => keepA x a p.1).lookup k = _
      rw [look_filt fk, el]
    obtain ⟨qw, ew⟩ := za.at el2
    have eh : hsOf (x.V.map sh) k = ns := hsOf_of el
    have g1 : getK (wD (xf x (keepA x a)).V) (.int k) = some (.ref r) := wD_some el2
    have mr : (r, LO.lst (ns.map LV.int)) ∈ F := z.m (k, r, ns) (look_mem el)
    have l4 : ns.length ≤ 4 := z.ln (k, r, ns) (look_mem el)
    have emp := due_empty (ns := ns) z.nd
    unfold b__law_all_tried_1
    have mm : (r, LO.lst (ns.map LV.int)) ∈ ((q, LO.lst (K.map LV.int)) :: rmL (xf x (keepA x a)) (wC (xf x (keepA x a)).W ++ B)) := List.mem_cons_of_mem _ (List.mem_cons_of_mem _ (List.mem_cons_of_mem _ (List.mem_cons_of_mem _ (List.mem_cons_of_mem _ (List.mem_cons_of_mem _ (List.mem_append_right _ (sub _ mr)))))))
    wtm_at "zgo"
    refine w_kCompF ns LV.int (fun s => decide (s ∈ x.O.map (·.2))) LV.int rfl hs (by omega) (by intro p hp; rw [List.mem_singleton] at hp; subst hp; exact mm) ?_ ?_
    · intro s' hs' D ac h2 I hs2 la T U
      wtm_at "zgo"
      rw [e_invM]
      wtm_at "zgo"
      refine w_invB (ns := x.O.map (·.2)) hs2 (by wtm_at "zmem") (oD_vals x.O) ?_
      wtm_at "zgo"
      refine w_kCp2 (fun c => ?_) (fun c => ⟨_, hs2, U c⟩)
      wtm_at "zgo"
      exact w_kCp3 hs2 la (T c)
    · intro D h2 hs2
      wtm_at "zgo"
      rename_i l3 h3 hs3
      refine w_eqR hs3 (List.mem_cons_of_mem _ List.mem_cons_self) List.mem_cons_self ?_
      rw [← emp]
      have hs4 : Hs h3 ((q, .lst (K.map LV.int)) :: rmL (xf x (keepA x a)) (wC (xf x (keepA x a)).W ++ B)) := hs3.tail.tail
      wtm_at "zgo"
      have hs5 := hs4.perm (pmA _ _ _ _ _ _ _ _)
      have R2 : ∀ {l : Nat} {ys : List LV} {L0 : List (Nat × LO)} {h0 : LH}, Hs h0 ((l, .lst ys) :: L0) → Hs h0 L0 := fun z => z.tail
      cases c : (due x.O ns).isEmpty with
      | false =>
        refine given_x k0 ew c .here hs5 ?_
        intro h4 hs6
        have hs7 := hs6.perm (pmA _ _ _ _ _ _ _ _).symm
        clear hs2 hs3 hs4 hs5 hs6
        have ef : ∀ j, keepA x (a ++ [k]) j = keepA x a j := fun j => by
          unfold keepA
          by_cases e : j = k
          · subst e; rw [eh, c]; simp
          · simp [e]
        wtm_at "zgo"
        rename_i l8 h8 hs8
        refine ⟨_, _, _, rfl, ?_⟩
        show Hs _ ((q, LO.lst (K.map LV.int)) :: (x.d, LO.dct false (oD x.O)) :: (x.v, LO.dct false (wD (x.V.filter fun p => keepA x (a ++ [k]) p.1))) :: rmC x.o x.rd x.wt (x.O.map (·.1)) (x.W.filter fun p => keepA x (a ++ [k]) p.1) (wC (x.W.filter fun p => keepA x (a ++ [k]) p.1) ++ B))
        simp only [ef]
        exact hs8.tail
      | true =>
        have c' : due x.O ns = [] := List.isEmpty_iff.mp c
        rw [c'] at ew
        refine given_w k0 ew .here hs5 ?_
        intro h4 hs6
        have hs7 := hs6.perm (pmA _ _ _ _ _ _ _ _).symm
        clear hs2 hs3 hs4 hs5 hs6
        have ef1 : (x.W.filter fun p => keepA x (a ++ [k]) p.1) = ((x.W.filter fun p => keepA x a p.1).filter fun p => !(p.1 == k)) := by
          rw [List.filter_filter]
          refine List.filter_congr fun p _ => ?_
          unfold keepA
          by_cases e : p.1 = k
          · rw [e, eh, c]; simp
          · simp [e]
        have ef2 : (x.V.filter fun p => keepA x (a ++ [k]) p.1) = ((x.V.filter fun p => keepA x a p.1).filter fun p => !(p.1 == k)) := by
          rw [List.filter_filter]
          refine List.filter_congr fun p _ => ?_
          unfold keepA
          by_cases e : p.1 = k
          · rw [e, eh, c]; simp
          · simp [e]
        have gn : ((x.W.filter fun p => keepA x a p.1).filter fun p => !(p.1 == k)).lookup k = none := by
          refine look_none fun m => ?_
          obtain ⟨p, hp, e⟩ := List.mem_map.mp m
          have := (List.mem_filter.mp hp).2
          rw [e] at this
          simp at this
        wtm_at "zgo"
        rename_i l8 h8 hs8 h9 hs9
        have hs10 := hs9.tail.perm (pmA _ _ _ _ _ _ _ _)
        refine given_n k0 gn hs10 ?_
        intro h11 hs11
        have hs12 := hs11.perm (pmA _ _ _ _ _ _ _ _).symm
        wtm_at "zgo"
        refine ⟨_, _, _, rfl, ?_⟩
        rw [wD_del] at hs12
        show Hs _ ((q, LO.lst (K.map LV.int)) :: (x.d, LO.dct false (oD x.O)) :: (x.v, LO.dct false (wD (x.V.filter fun p => keepA x (a ++ [k]) p.1))) :: rmC x.o x.rd x.wt (x.O.map (·.1)) (x.W.filter fun p => keepA x (a ++ [k]) p.1) (wC (x.W.filter fun p => keepA x (a ++ [k]) p.1) ++ B))
        rw [ef1, ef2]
        exact hs12
  · rintro s h ⟨y5, y6, y7, rfl, hs⟩
    exact H _ _ _ _ hs.tail
theorem keepAll (x : Rm) {K : List Int} (pk : K.Perm (x.V.map (·.1))) (kw : x.W.map (·.1) = x.V.map (·.1)) : xf x (keepA x K) = xf x fun k => !(due x.O (hsOf (x.V.map sh) k)).isEmpty :=
  xf_congr (fun k hk => by unfold keepA; simp [pk.mem_iff.mpr hk]) kw
/-- a thing that is left waits for somebody -/
def Wts (x : Rm) : Prop := ∀ p ∈ x.V, (due x.O p.2.2).isEmpty = false
theorem wts_xf (z : OkR F n x) : Wts (xf x fun k => !(due x.O (hsOf (x.V.map sh) k)).isEmpty) := by
  intro p hp
  obtain ⟨hp, c⟩ := List.mem_filter.mp hp
  have : hsOf (x.V.map sh) p.1 = p.2.2 := hsOf_of (look_some z.kn hp)
  dsimp only at c
  rw [this] at c
  simpa using c
theorem ready_none (z : OkR F n x) (w : Wts x) : readyS (x.W.map sh) = [] := by
  unfold readyS
  rw [z.w, stOf_keys, sh_keys]
  refine List.filter_eq_nil_iff.mpr fun k hk hc => ?_
  have kk := (srtI_perm _).mem_iff.mp hk
  obtain ⟨⟨r, ns⟩, el⟩ := look_ex kk
  have h1 : (x.V.map sh).lookup k = some ns := by
    have : (x.V.map sh).lookup k = (x.V.lookup k).map (·.2) := lookup_map (f := fun p : Nat × List Int => p.2)
    rw [this, el]; rfl
  unfold hsOf at hc
  rw [stOf_look h1] at hc
  have := w (k, r, ns) (look_mem el)
  rw [Option.getD_some, this] at hc
  cases hc
local macro_rules | `(tactic| wtm_at "zfn") => `(tactic| fail)
theorem tried_s {t : Int} (ht : t = 0 ∨ t = 1) (z : OkR F n x) (sub : ∀ p ∈ F, p ∈ B) (hs : Hs h (rmL x (wC x.W ++ B))) (H : ∀ W' V' h', OkR F n { x with W := W', V := V' } → Wts { x with W := W', V := V' } → Hs h' (rmL { x with W := W', V := V' } (wC W' ++ B)) → Q (.bl true) h') : wp (f__law_all_tried [.ref x.o, .ref x.d, .ref x.v, .int t] h) Q E := by
  have lk : (srtI (x.V.map (·.1))).length = x.V.length := by rw [(srtI_perm _).length_eq, List.length_map]
  have l1 := z.lv
  have l2 := z.n
  have z' := z.del fun k => !(due x.O (hsOf (x.V.map sh) k)).isEmpty
  have w' := wts_xf z
  have fin : ∀ (s : LSt) (h' : LH), Hs h' (rmL (xf x fun k => !(due x.O (hsOf (x.V.map sh) k)).isEmpty) (wC (xf x fun k => !(due x.O (hsOf (x.V.map sh) k)).isEmpty).W ++ B)) → wp (f_Rooms_ready [.ref x.o] h') (kOp1 eqL (lstM aNil) s Q E) E := by
    intro s h' hs'
    have hs2 : Hs h' (rmC x.o x.rd x.wt (x.O.map (·.1)) (xf x fun k => !(due x.O (hsOf (x.V.map sh) k)).isEmpty).W (wC (xf x fun k => !(due x.O (hsOf (x.V.map sh) k)).isEmpty).W ++ ((x.d, .dct false (oD x.O)) :: (x.v, .dct false (wD (xf x fun k => !(due x.O (hsOf (x.V.map sh) k)).isEmpty).V)) :: B))) := hs'.perm (pmB _ _ _ _ _ _ _)
    refine rready_w (OkR.lw2 z') .here hs2 ?_
    intro r h2 hs3
    wtm_at "zgo"
    rename_i l4 h4 hs4
    refine w_eqR hs4 (List.mem_cons_of_mem _ List.mem_cons_self) List.mem_cons_self ?_
    rw [ready_none z' w']
    exact H _ _ _ z' w' (hs4.tail.tail.perm (pmB _ _ _ _ _ _ _).symm)
  apply i__law_all_tried; unfold b__law_all_tried
  wtm_at "zgo"
  rw [e_srkN]
  wtm_at "zgo"
  refine w_srkJ hs (by wtm_at "zmem") (wD_keys x.V) (by rw [List.length_map]; omega) ?_
  intro q h1 hs1
  rcases ht with rfl | rfl
  · wtm_at "zgo"
    rename_i l2 h2 hs2 l3 h3 hs3
    refine triedL z sub (srtI_perm _) hs3.tail.tail ?_
    intro y5 y6 y7 h4 hs4
    rw [keepAll x (srtI_perm _) z.kw] at hs4
    wtm_at "zgo"
    exact fin _ _ hs4
  · wtm_at "zgo"
    rename_i l2 h2 hs2 l3 h3 hs3
    rw [← List.map_reverse] at hs3 ⊢
    have hs4 := (hs3.tail.perm (.swap _ _ _)).tail
    refine triedL z sub ((List.reverse_perm _).trans (srtI_perm _)) hs4 ?_
    intro y5 y6 y7 h4 hs4
    rw [keepAll x ((List.reverse_perm _).trans (srtI_perm _)) z.kw] at hs4
    wtm_at "zgo"
    exact fin _ _ hs4
end
end

set_option maxRecDepth 100000
set_option maxHeartbeats 4000000
section
open PySem PySem.Spec PyProof.Rows L2 Fw
local macro_rules | `(tactic| wtm_at "zck") => `(tactic| first | exact isDT_f (by with_reducible assumption) (by wtm_at "zmem") | fail)
local macro_rules | `(tactic| wtm_at "zfn") => `(tactic| fail)
def rtB : LS :=
  (seqS (ifS (tstM (opM inA (varM 7) (varM 2)))
  (retS (cst (.bl true)))
  nilS)
  (seqS (asgS (lsvM (varM 1)) (gSb (varM 2) (varM 7)))
  (retS (opM isNL (mthM "Rooms" "retire" f_Rooms_retire (varM 0) (aCons (varM 7) aNil)) (cst .non)))))
theorem deed_eq : b__law_deed =
  (seqS (asgS (opM getA (varM 4) (cst (.int 2))) (gNm 6))
  (seqS (ifS (tstM (opM eqL (varM 3) (cst (.str "step"))))
  (seqS (ifS (tstM (opM inA (varM 6) (varM 1)))
  (seqS (exprS (selO isLst (varM 1) (metM isLst popL (varM 1) (aCons (varM 6) aNil)) (selO isDT (varM 1) (metM isDT popT (varM 1) (aCons (varM 6) aNil)) (dpopM (varM 1) (varM 6)))))
  (retS (opM isNL (mthM "Rooms" "leave" f_Rooms_leave (varM 0) (aCons (varM 6) aNil)) (cst .non))))
  nilS)
  (seqS (asgS (varM 5) (gSb (varM 1) (varM 6)))
  (retS (opM isNL (mthM "Rooms" "enter" f_Rooms_enter (varM 0) (aCons (varM 6) aNil)) (cst .non)))))
  nilS)
  (seqS (ifS (tstM (opM eqL (varM 3) (cst (.str "retire"))))
  (seqS (asgS (opM getA (lstM (aCons (opM getA (varM 4) (cst (.int 3))) (aCons (opM getA (varM 4) (cst (.int 4))) aNil))) (opM getA (varM 4) (cst (.int 5)))) (gNm 7))
  rtB)
  nilS)
  (retS (callM f__law_all_tried (aCons (varM 0) (aCons (varM 1) (aCons (varM 2) (aCons (opM getA (varM 4) (cst (.int 5))) aNil))))))))) := rfl
theorem pmC {α : Type} (q d v o r w : α) (A F : List α) : (o :: r :: w :: (A ++ (q :: d :: v :: F))).Perm (d :: v :: o :: r :: w :: (A ++ ([q] ++ F))) := by
  letI := Classical.typeDecidableEq α
  rw [List.perm_iff_count]; intro x; simp only [List.count_append, List.count_cons, List.count_nil]; omega
section
variable {h : LH} {L F B : List (Nat × LO)} {n : Int} {x : Rm} {dg : Nat} {e0 e1 e2 e3 e4 e5 e6 : Int} {Q : LV → LH → Prop} {E : XP}
theorem ok_leave (z : OkR F n x) {i : Int} {W' : WL} (e : W'.map sh = lvS i (x.W.map sh)) : OkR F n { x with O := x.O.filter (fun p => !(p.1 == i)), W := W' } := by
  refine ⟨?_, fun p hp => z.b p (List.mem_filter.mp hp).1, ?_, z.kn, z.kp, z.s, z.m, z.lv, z.ln, z.n⟩
  · exact z.nd.sublist (List.filter_sublist.map _)
  · show W'.map sh = _
    rw [e, z.w, stOf_leave]
theorem ok_enter (z : OkR F n x) {i : Int} (ni : i ∉ x.O.map (·.1)) (b : 0 ≤ i ∧ i ≤ 3) (h100 : n + 1 ≤ 100) : OkR F (n + 1) { x with O := x.O ++ [(i, n)] } := by
  refine ⟨?_, ?_, ?_, z.kn, z.kp, fun p hp s hs => by have := z.s p hp s hs; omega, z.m, by have := z.lv; show (x.V.length : Int) ≤ n + 1; omega, z.ln, h100⟩
  · show ((x.O ++ [(i, n)]).map (·.1)).Nodup
    rw [List.map_append, List.nodup_append]
    exact ⟨z.nd, by simp, fun a ha b hb => by
      have : b = i := by simpa using hb
      subst this
      exact fun e => ni (by rw [← e]; exact ha)⟩
  · intro p hp
    rcases List.mem_append.mp hp with hp | hp
    · have := z.b p hp; exact ⟨this.1, by omega⟩
    · have : p = (i, n) := by simpa using hp
      subst this
      exact ⟨b, by show n < n + 1; omega⟩
  · show x.W.map sh = _
    rw [z.w, stOf_enter ni]
    intro p hp s hs
    obtain ⟨q, hq, rfl⟩ := List.mem_map.mp hp
    exact z.s q hq s hs
theorem ok_retire (z : OkR F n x) {k : Int} {l lw : Nat} (k0 : 0 ≤ k) (nk : k ∉ x.V.map (·.1)) (h100 : n + 1 ≤ 100) : OkR ((l, .lst ((x.O.map (·.2)).map LV.int)) :: F) (n + 1) { x with W := x.W ++ [(k, lw, srtI (x.O.map (·.1)))], V := x.V ++ [(k, l, x.O.map (·.2))] } := by
  refine ⟨z.nd, fun p hp => ⟨(z.b p hp).1, by have := (z.b p hp).2; omega⟩, ?_, ?_, ?_, ?_, ?_, ?_, ?_, h100⟩
  · show (x.W ++ _).map sh = stOf x.O ((x.V ++ _).map sh)
    rw [List.map_append, List.map_append]
    have : [(k, l, x.O.map (·.2))].map sh = [(k, x.O.map (·.2))] := rfl
    rw [this, stOf_retire, z.w]; rfl
  · show ((x.V ++ _).map (·.1)).Nodup
    rw [List.map_append, List.nodup_append]
    exact ⟨z.kn, by simp, fun a ha b hb => by
      have : b = k := by simpa using hb
      subst this
      exact fun e => nk (by rw [← e]; exact ha)⟩
  · intro p hp
    rcases List.mem_append.mp hp with hp | hp
    · exact z.kp p hp
    · have : p = (k, l, x.O.map (·.2)) := by simpa using hp
      subst this; exact k0
  · intro p hp s hs
    rcases List.mem_append.mp hp with hp | hp
    · have := z.s p hp s hs; omega
    · have : p = (k, l, x.O.map (·.2)) := by simpa using hp
      subst this
      obtain ⟨q, hq, rfl⟩ := List.mem_map.mp hs
      have := (z.b q hq).2
      omega
  · intro p hp
    rcases List.mem_append.mp hp with hp | hp
    · exact List.mem_cons_of_mem _ (z.m p hp)
    · have : p = (k, l, x.O.map (·.2)) := by simpa using hp
      subst this; exact List.mem_cons_self
  · show ((x.V ++ _).length : Int) ≤ n + 1
    have := z.lv
    simp; omega
  · intro p hp
    rcases List.mem_append.mp hp with hp | hp
    · exact z.ln p hp
    · have : p = (k, l, x.O.map (·.2)) := by simpa using hp
      subst this
      have := z.lo
      simpa using this
theorem oD_some {O : OL} {i : Int} (m : i ∈ O.map (·.1)) : ∃ s, getK (oD O) (.int i) = some (.int s) := by
  obtain ⟨s, e, _⟩ := look_key m
  exact ⟨s, by rw [oD_get, e]; rfl⟩
theorem deed_step (z : OkR F n x) (h100 : n + 1 ≤ 100) (m : (dg, LO.lst [.int e0, .int e1, .int e2, .int e3, .int e4, .int e5, .int e6]) ∈ B) (b : 0 ≤ e2 ∧ e2 ≤ 3) (hs : Hs h (rmL x (wC x.W ++ B)))
    (H : ∀ O' W' h', OkR F (n + 1) { x with O := O', W := W' } → Hs h' (rmL { x with O := O', W := W' } (wC W' ++ B)) → Q (.bl true) h') : wp (f__law_deed [.ref x.o, .ref x.d, .ref x.v, .str "step", .ref dg, .int n] h) Q E := by
  have mm : (dg, LO.lst [.int e0, .int e1, .int e2, .int e3, .int e4, .int e5, .int e6]) ∈ rmL x (wC x.W ++ B) := List.mem_cons_of_mem _ (List.mem_cons_of_mem _ (List.mem_cons_of_mem _ (List.mem_cons_of_mem _ (List.mem_cons_of_mem _ (List.mem_append_right _ m)))))
  have lo := z.lo
  apply i__law_deed; unfold b__law_deed
  by_cases c : e2 ∈ x.O.map (·.1)
  · obtain ⟨s, g⟩ := oD_some c
    have g' : (getK (oD x.O) (.int e2)).isSome = true := by rw [g]; rfl
    wtm_at "zgo"
    rename_i h1 hs1
    rw [oD_del] at hs1
    have hs2 := hs1.perm (pmB _ _ _ _ _ _ _)
    refine rleave_w (M := fun W => wC W ++ ((x.d, .dct false (oD (x.O.filter fun p => !(p.1 == e2)))) :: (x.v, .dct false (wD x.V)) :: B)) b c (by rw [z.kw]; exact z.kn) (OkR.lw2 z) (fun p hp => by have := z.lnW p hp; omega) (fun _ _ => .here) hs2 ?_
    intro W' h2 ew hs3
    wtm_at "zgo"
    have z' := (ok_leave z ew).up (n' := n + 1) (by omega) h100 fun _ hp => hp
    refine H _ W' _ z' ?_
    have hs4 := hs3.perm (pmB _ _ _ _ _ _ _).symm
    rw [← keys_filter] at hs4
    exact hs4
  · have g' : (getK (oD x.O) (.int e2)).isSome = false := by rw [oD_get, look_none c]; rfl
    have lz : (oD x.O).length < sizeLine := by rw [oD_len, sizeLine_eq]; omega
    wtm_at "zgo"
    rename_i h1 hs1
    rw [oD_put c] at hs1
    have hs2 := hs1.perm (pmB _ _ _ _ _ _ _)
    refine renter_w b c (by rw [List.length_map]; omega) hs2 ?_
    intro h2 hs3
    wtm_at "zgo"
    refine H _ x.W _ (ok_enter z c b h100) ?_
    have hs4 := hs3.perm (pmB _ _ _ _ _ _ _).symm
    have e5 : x.O.map (·.1) ++ [e2] = (x.O ++ [(e2, n)]).map (·.1) := by simp
    rw [e5] at hs4
    exact hs4
theorem deed_retire (z : OkR F n x) (h100 : n + 1 ≤ 100) (m : (dg, LO.lst [.int e0, .int e1, .int e2, .int e3, .int e4, .int e5, .int e6]) ∈ B) (b3 : 0 ≤ e3) (b4 : 0 ≤ e4) (b5 : e5 = 0 ∨ e5 = 1) (hs : Hs h (rmL x (wC x.W ++ B)))
    (H : ∀ G W' V' h', OkR (G ++ F) (n + 1) { x with W := W', V := V' } → Hs h' (rmL { x with W := W', V := V' } (wC W' ++ (G ++ B))) → Q (.bl true) h') : wp (f__law_deed [.ref x.o, .ref x.d, .ref x.v, .str "retire", .ref dg, .int n] h) Q E := by
  have mm : (dg, LO.lst [.int e0, .int e1, .int e2, .int e3, .int e4, .int e5, .int e6]) ∈ rmL x (wC x.W ++ B) := List.mem_cons_of_mem _ (List.mem_cons_of_mem _ (List.mem_cons_of_mem _ (List.mem_cons_of_mem _ (List.mem_cons_of_mem _ (List.mem_append_right _ m)))))
  have lo := z.lo
  have l1 := z.lv
  have main : ∀ (k : Int) (s : LSt), 0 ≤ k → ∀ (h : LH), Hs h (rmL x (wC x.W ++ B)) → ws (rtB [some (.ref x.o), some (.ref x.d), some (.ref x.v), some (.str "retire"), some (.ref dg), some (.int n), some (.int e2), some (.int k)] h) (kSeq (retS (callM f__law_all_tried (aCons (varM 0) (aCons (varM 1) (aCons (varM 2) (aCons (opM getA (varM 4) (cst (.int 5))) aNil)))))) (kNon Q) ⟨Q, kNo, kNo, xR E⟩) ⟨Q, kNo, kNo, xR E⟩ := by
    intro k s k0 h hs
    unfold rtB
    by_cases c : k ∈ x.V.map (·.1)
    · obtain ⟨⟨r, ns⟩, el⟩ := look_ex c
      have g : (getK (wD x.V) (.int k)).isSome = true := by rw [wD_some el]; rfl
      wtm_at "zgo"
      exact H [] x.W x.V _ (z.up (by omega) h100 fun _ hp => hp) hs
    · have g : (getK (wD x.V) (.int k)).isSome = false := by rw [wD_get, look_none c]; rfl
      have lz : (wD x.V).length < sizeLine := by rw [wD_len, sizeLine_eq]; omega
      wtm_at "zgo"
      rw [e_lsv]
      wtm_at "zgo"
      refine w_lsvB hs (by wtm_at "zmem") ?_
      intro l h1 hs1
      rw [oD_vals] at hs1
      wtm_at "zgo"
      rename_i h2 hs2
      rw [wD_put (ns := x.O.map (·.2)) c] at hs2
      have hs3 := hs2.perm (pmA _ _ _ _ _ _ _ _)
      refine rretire_w (M := fun lw => wC (x.W ++ [(k, lw, srtI (x.O.map (·.1)))]) ++ ((l, .lst ((x.O.map (·.2)).map LV.int)) :: (x.d, .dct false (oD x.O)) :: (x.v, .dct false (wD (x.V ++ [(k, l, x.O.map (·.2))]))) :: B)) k0 (by rw [z.kw]; exact c) (by rw [List.length_map]; omega) (OkR.lw2 z) hs3 (fun _ => .here) ?_
      intro lw h4 hs4
      wtm_at "zgo"
      refine H [(l, .lst ((x.O.map (fun p : Int × Int => p.2)).map LV.int))] (x.W ++ [(k, lw, srtI (x.O.map (·.1)))]) (x.V ++ [(k, l, x.O.map (·.2))]) _ (ok_retire (l := l) (lw := lw) z k0 c h100) ?_
      exact hs4.perm (pmC _ _ _ _ _ _ _ _)
  apply i__law_deed; rw [deed_eq]
  rcases b5 with rfl | rfl
  · wtm_at "zgo"
    exact main e3 [] b3 _ (by wtm_at "zhs")
  · wtm_at "zgo"
    exact main e4 [] b4 _ (by wtm_at "zhs")
end
end

set_option maxRecDepth 100000
set_option maxHeartbeats 4000000
section
open PySem PySem.Spec PyProof.Rows L2 Fw
abbrev tV (p : Int × Nat × List Int) : LV := .tup [.int p.1, .ref p.2.1]
theorem rps_D {L : List (Nat × LO)} : ∀ {D : WL}, (∀ p ∈ D, (p.2.1, LO.lst (p.2.2.map LV.int)) ∈ L ∧ p.2.2.length ≤ 1000) → Rps L (D.map tV) (D.map fun p => .tuple [.int p.1, .list (p.2.2.map PyData.int)])
  | [], _ => .nil
  | p :: D, h => .cons (.tup (by simp) (.cons (.int _) (.cons (.lst (h p List.mem_cons_self).1 (by rw [List.length_map]; have := (h p List.mem_cons_self).2; omega) (Rps.ints _)) .nil))) (rps_D fun q hq => h q (List.mem_cons_of_mem _ hq))
theorem pmD {α : Type} (q c : α) (A G : List α) : (c :: q :: (A ++ G)).Perm (q :: (A ++ [c] ++ G)) := by
  letI := Classical.typeDecidableEq α
  rw [List.perm_iff_count]; intro x; simp only [List.count_append, List.count_cons, List.count_nil]; omega
theorem deps_wait (D : WL) : deps (D.map fun p => .tuple [.int p.1, .list (p.2.2.map PyData.int)]) ≤ 2 := by
  induction D with
  | nil => simp [deps]
  | cons p D ih =>
    rw [List.map_cons]
    simp only [deps, dep, dep_ints]
    omega
section
variable {h : LH} {L F : List (Nat × LO)} {n : Int} {x : Rm} {Q : LV → LH → Prop} {E : XP}
local macro_rules | `(tactic| wtm_at "zfn") => `(tactic| fail)
theorem stands_s (z : OkR F n x) (hs : Hs h (rmL x (wC x.W ++ F))) (H : ∀ h', Hs h' (rmL x (wC x.W ++ F)) → Q (.bl true) h') : wp (f__law_stands [.ref x.o, .ref x.d, .ref x.v] h) Q E := by
  have lk : (srtI (x.V.map (·.1))).length = x.V.length := by rw [(srtI_perm _).length_eq, List.length_map]
  have l1 := z.lv
  have l2 := z.n
  have lo := z.lo
  have lw := z.lw
  apply i__law_stands; unfold b__law_stands
  wtm_at "zgo"
  rename_i dl h1 hs1
  rw [e_srkN]
  wtm_at "zgo"
  refine w_srkJ hs1 (by wtm_at "zmem") (wD_keys x.V) (by rw [List.length_map]; omega) ?_
  intro q h2 hs2
  wtm_at "zgo"
  have hs3 : Hs h2 ((q, .lst ((srtI (x.V.map (·.1))).map LV.int)) :: (dl, .lst (([] : WL).map tV)) :: (wC [] ++ rmL x (wC x.W ++ F))) := hs2
  refine w_forPre (srtI (x.V.map (·.1))) LV.int (fun a s h => ∃ D y4 y5, s = [some (.ref x.o), some (.ref x.d), some (.ref x.v), some (.ref dl), y4, y5, none] ∧ D.map sh = (a.map fun k => (k, due x.O (hsOf (x.V.map sh) k))) ∧ Hs h ((q, .lst ((srtI (x.V.map (·.1))).map LV.int)) :: (dl, .lst (D.map tV)) :: (wC D ++ rmL x (wC x.W ++ F)))) rfl ⟨[], _, _, rfl, rfl, hs3⟩ ?_ ?_ ?_
  · rintro a s h ⟨D, y4, y5, rfl, _, hs⟩
    exact keepB_cons (hs.get List.mem_cons_self) keepB_nil
  · rintro a k b s h eK ⟨D, y4, y5, rfl, eD, hs⟩
    have kk : k ∈ x.V.map (·.1) := (srtI_perm _).mem_iff.mp (by rw [eK]; simp)
    obtain ⟨⟨r, ns⟩, el⟩ := look_ex kk
    have eh : hsOf (x.V.map sh) k = ns := hsOf_of el
    have g1 : getK (wD x.V) (.int k) = some (.ref r) := wD_some el
    have mr : (r, LO.lst (ns.map LV.int)) ∈ F := z.m (k, r, ns) (look_mem el)
    have lD : D.length < 1000 := by
      have e1 := congrArg List.length eD
      have e2 := congrArg List.length eK
      rw [lk] at e2
      simp at e1 e2
      omega
    have lz : (D.map tV).length < sizeLine := by rw [List.length_map, sizeLine_eq]; omega
    unfold b__law_stands_1
    wtm_at "zgo"
    rw [e_srkN]
    have m1 : (x.d, LO.dct false (oD x.O)) ∈ ((q, LO.lst ((srtI (x.V.map (·.1))).map LV.int)) :: (dl, .lst (D.map tV)) :: (wC D ++ rmL x (wC x.W ++ F))) := List.mem_cons_of_mem _ (List.mem_cons_of_mem _ (List.mem_append_right _ List.mem_cons_self))
    wtm_at "zgo"
    refine w_srkJ hs m1 (oD_keys x.O) (by rw [List.length_map]; omega) ?_
    intro q2 h3 hs3
    wtm_at "zgo"
    have lo2 : (srtI (x.O.map (·.1))).length ≤ 4 := by rw [(srtI_perm _).length_eq, List.length_map]; exact lo
    refine w_kCompF (srtI (x.O.map (·.1))) LV.int (inO x.O ns) LV.int rfl hs3 (by omega) (by intro p hp; rw [List.mem_singleton] at hp; subst hp; exact List.mem_cons_self) ?_ ?_
    · intro j hj C ac h4 I hs4 la T U
      obtain ⟨s', es, _⟩ := look_key ((srtI_perm _).mem_iff.mp hj)
      have gs : getK (oD x.O) (.int j) = some (.int s') := by rw [oD_get, es]; rfl
      have m2 : (x.d, LO.dct false (oD x.O)) ∈ ((C, LO.lst ac) :: (q2, .lst ((srtI (x.O.map (·.1))).map LV.int)) :: (q, LO.lst ((srtI (x.V.map (·.1))).map LV.int)) :: (dl, .lst (D.map tV)) :: (wC D ++ rmL x (wC x.W ++ F))) := List.mem_cons_of_mem _ (List.mem_cons_of_mem _ m1)
      have m3 : (x.v, LO.dct false (wD x.V)) ∈ ((C, LO.lst ac) :: (q2, .lst ((srtI (x.O.map (·.1))).map LV.int)) :: (q, LO.lst ((srtI (x.V.map (·.1))).map LV.int)) :: (dl, .lst (D.map tV)) :: (wC D ++ rmL x (wC x.W ++ F))) := List.mem_cons_of_mem _ (List.mem_cons_of_mem _ (List.mem_cons_of_mem _ (List.mem_cons_of_mem _ (List.mem_append_right _ (List.mem_cons_of_mem _ List.mem_cons_self)))))
      have m4 : (r, LO.lst (ns.map LV.int)) ∈ ((C, LO.lst ac) :: (q2, .lst ((srtI (x.O.map (·.1))).map LV.int)) :: (q, LO.lst ((srtI (x.V.map (·.1))).map LV.int)) :: (dl, .lst (D.map tV)) :: (wC D ++ rmL x (wC x.W ++ F))) := List.mem_cons_of_mem _ (List.mem_cons_of_mem _ (List.mem_cons_of_mem _ (List.mem_cons_of_mem _ (List.mem_append_right _ (List.mem_cons_of_mem _ (List.mem_cons_of_mem _ (List.mem_cons_of_mem _ (List.mem_cons_of_mem _ (List.mem_cons_of_mem _ (List.mem_append_right _ mr))))))))))
      have ei : inO x.O ns j = decide (s' ∈ ns) := by unfold inO; rw [es]
      rw [ei] at T U
      wtm_at "zgo"
      refine w_kCp2 (fun c => ?_) (fun c => ⟨_, hs4, U c⟩)
      wtm_at "zgo"
      exact w_kCp3 hs4 la (T c)
    · intro C h4 hs4
      have hs5 : Hs h4 ((C, .lst ((due x.O ns).map LV.int)) :: (q, .lst ((srtI (x.V.map (·.1))).map LV.int)) :: (dl, .lst (D.map tV)) :: (wC D ++ rmL x (wC x.W ++ F))) := hs4.sub (.cons_cons _ (.cons _ (List.Sublist.refl _)))
      wtm_at "zgo"
      rename_i h5 hs6
      refine ⟨D ++ [(k, C, due x.O ns)], _, _, rfl, ?_, ?_⟩
      · rw [List.map_append, eD, List.map_append, ← eh]; rfl
      · have e1 : (D ++ [(k, C, due x.O ns)]).map tV = D.map tV ++ [LV.tup [.int k, .ref C]] := by rw [List.map_append]; rfl
        have e2 : wC (D ++ [(k, C, due x.O ns)]) = wC D ++ [(C, .lst ((due x.O ns).map LV.int))] := by unfold wC; rw [List.map_append]; rfl
        rw [e1, e2]
        refine hs6.perm ?_
        refine (List.Perm.swap _ _ _).trans (List.Perm.cons _ ?_)
        exact pmD _ _ _ _
  · rintro s h ⟨D, y4, y5, rfl, eD, hs⟩
    have eD2 : (D.map fun p => PyData.tuple [.int p.1, .list (p.2.2.map PyData.int)]) = waitS (x.W.map sh) := by
      unfold waitS
      have e1 : (D.map fun p => PyData.tuple [.int p.1, .list (p.2.2.map PyData.int)]) = (D.map sh).map fun p => PyData.tuple [.int p.1, .list (p.2.map PyData.int)] := by rw [List.map_map]; rfl
      rw [e1, eD, z.w, stOf_keys, sh_keys, List.map_map]
      refine List.map_congr_left fun k hk => ?_
      obtain ⟨⟨r, ns⟩, el⟩ := look_ex ((srtI_perm _).mem_iff.mp hk)
      have h1 : (x.V.map sh).lookup k = some ns := by
        have : (x.V.map sh).lookup k = (x.V.lookup k).map (·.2) := lookup_map (f := fun p : Nat × List Int => p.2)
        rw [this, el]; rfl
      show PyData.tuple [.int k, .list ((due x.O (hsOf (x.V.map sh) k)).map PyData.int)] = _
      unfold hsOf
      rw [h1, stOf_look h1]; rfl
    have lD : D.length = x.V.length := by
      have e1 := congrArg List.length eD
      simp at e1
      rw [e1, ← lk]
    have ln4 : ∀ p ∈ D, p.2.2.length ≤ 4 := by
      intro p hp
      have : sh p ∈ D.map sh := List.mem_map_of_mem hp
      rw [eD] at this
      obtain ⟨k, _, e⟩ := List.mem_map.mp this
      have e2 : p.2.2 = due x.O (hsOf (x.V.map sh) k) := (congrArg Prod.snd e).symm
      rw [e2]
      have := due_len x.O (hsOf (x.V.map sh) k)
      omega
    have hsB : Hs h (rmC x.o x.rd x.wt (x.O.map (·.1)) x.W (wC x.W ++ ((dl, .lst (D.map tV)) :: (x.d, .dct false (oD x.O)) :: (x.v, .dct false (wD x.V)) :: (wC D ++ F)))) := by
      refine hs.tail.perm ?_
      letI := Classical.typeDecidableEq (Nat × LO)
      rw [List.perm_iff_count]; intro y; simp only [List.count_append, List.count_cons]; omega
    wtm_at "zgo"
    refine rwaiting_w (OkR.lw2 z) (fun p hp => by have := z.lnW p hp; omega) .here hsB ?_
    intro r X xs h2 w lx hs2
    wtm_at "zgo"
    have mdl : (dl, LO.lst (D.map tV)) ∈ ((r, LO.lst xs) :: (X ++ rmC x.o x.rd x.wt (x.O.map (·.1)) x.W (wC x.W ++ ((dl, .lst (D.map tV)) :: (x.d, .dct false (oD x.O)) :: (x.v, .dct false (wD x.V)) :: (wC D ++ F))))) := List.mem_cons_of_mem _ (List.mem_append_right _ (List.mem_cons_of_mem _ (List.mem_cons_of_mem _ (List.mem_cons_of_mem _ (List.mem_append_right _ List.mem_cons_self)))))
    have mD : ∀ p ∈ D, (p.2.1, LO.lst (p.2.2.map LV.int)) ∈ ((r, LO.lst xs) :: (X ++ rmC x.o x.rd x.wt (x.O.map (·.1)) x.W (wC x.W ++ ((dl, .lst (D.map tV)) :: (x.d, .dct false (oD x.O)) :: (x.v, .dct false (wD x.V)) :: (wC D ++ F))))) := fun p hp => List.mem_cons_of_mem _ (List.mem_append_right _ (List.mem_cons_of_mem _ (List.mem_cons_of_mem _ (List.mem_cons_of_mem _ (List.mem_append_right _ (List.mem_cons_of_mem _ (List.mem_cons_of_mem _ (List.mem_cons_of_mem _ (List.mem_append_left _ (wC_mem hp))))))))))
    refine same_s (d := .list (waitS (x.W.map sh))) hs2 (.lst List.mem_cons_self (by omega) (w.rps fun p hp => by simp [hp])) (.lst mdl (by rw [List.length_map]; omega) (by rw [← eD2]; exact rps_D fun p hp => ⟨mD p hp, by have := ln4 p hp; omega⟩)) (by rw [← eD2, dep]; have := deps_wait D; omega) ?_
    intro h3 hs3
    have hs4 : Hs h3 (rmC x.o x.rd x.wt (x.O.map (·.1)) x.W (wC x.W ++ ((dl, .lst (D.map tV)) :: (x.d, .dct false (oD x.O)) :: (x.v, .dct false (wD x.V)) :: (wC D ++ F)))) := hs3.sub (.cons _ (List.sublist_append_right _ _))
    clear hs hs1 hs2 hs3 hsB mdl mD
    wtm_at "zgo"
    refine rreading_s (by rw [List.length_map]; omega) hs4 ?_
    intro r2 h5 hs5
    wtm_at "zgo"
    rw [e_srkN]
    have m1 : (x.d, LO.dct false (oD x.O)) ∈ ((r2, LO.lst ((srtI (x.O.map (·.1))).map LV.int)) :: (rmC x.o x.rd x.wt (x.O.map (·.1)) x.W (wC x.W ++ ((dl, .lst (D.map tV)) :: (x.d, .dct false (oD x.O)) :: (x.v, .dct false (wD x.V)) :: (wC D ++ F))))) := List.mem_cons_of_mem _ (List.mem_cons_of_mem _ (List.mem_cons_of_mem _ (List.mem_cons_of_mem _ (List.mem_append_right _ (List.mem_cons_of_mem _ List.mem_cons_self)))))
    wtm_at "zgo"
    refine w_srkJ hs5 m1 (oD_keys x.O) (by rw [List.length_map]; omega) ?_
    intro r3 h6 hs6
    wtm_at "zgo"
    have lo2 : (srtI (x.O.map (·.1))).length ≤ 4 := by rw [(srtI_perm _).length_eq, List.length_map]; exact lo
    refine same_s (d := .list ((srtI (x.O.map (·.1))).map PyData.int)) hs6 (.lst (by simp) (by rw [List.length_map]; omega) (Rps.ints _)) (.lst (by simp) (by rw [List.length_map]; omega) (Rps.ints _)) (by rw [dep, dep_ints]; decide) ?_
    intro h7 hs7
    have hs8 := hs7.tail.tail
    clear hs5 hs6 hs7 m1
    wtm_at "zgo"
    refine rready_w (OkR.lw2 z) .here hs8 ?_
    intro r4 h9 hs9
    have mdl : (dl, LO.lst (D.map tV)) ∈ ((r4, LO.lst ((readyS (x.W.map sh)).map LV.int)) :: (rmC x.o x.rd x.wt (x.O.map (·.1)) x.W (wC x.W ++ ((dl, .lst (D.map tV)) :: (x.d, .dct false (oD x.O)) :: (x.v, .dct false (wD x.V)) :: (wC D ++ F))))) := List.mem_cons_of_mem _ (List.mem_cons_of_mem _ (List.mem_cons_of_mem _ (List.mem_cons_of_mem _ (List.mem_append_right _ List.mem_cons_self))))
    have mD : ∀ p ∈ D, (p.2.1, LO.lst (p.2.2.map LV.int)) ∈ ((r4, LO.lst ((readyS (x.W.map sh)).map LV.int)) :: (rmC x.o x.rd x.wt (x.O.map (·.1)) x.W (wC x.W ++ ((dl, .lst (D.map tV)) :: (x.d, .dct false (oD x.O)) :: (x.v, .dct false (wD x.V)) :: (wC D ++ F))))) := fun p hp => List.mem_cons_of_mem _ (List.mem_cons_of_mem _ (List.mem_cons_of_mem _ (List.mem_cons_of_mem _ (List.mem_append_right _ (List.mem_cons_of_mem _ (List.mem_cons_of_mem _ (List.mem_cons_of_mem _ (List.mem_append_left _ (wC_mem hp)))))))))
    wtm_at "zgo"
    refine w_kCompF D tV (fun p => p.2.2.isEmpty) (fun p => .int p.1) rfl hs9 (by omega) (by intro p hp; rw [List.mem_singleton] at hp; subst hp; exact mdl) ?_ ?_
    · intro p hp C ac h10 I hs10 la T U
      have mp := List.mem_cons_of_mem (C, LO.lst ac) (mD p hp)
      wtm_at "zgo"
      rename_i l11 h11 hs11
      refine w_eqR (ns := p.2.2) hs11 (List.mem_cons_of_mem _ mp) List.mem_cons_self ?_
      wtm_at "zgo"
      refine w_kCp2 (fun c => ?_) (fun c => ⟨_, hs11.tail, U c⟩)
      wtm_at "zgo"
      exact w_kCp3 hs11.tail la (T c)
    · intro C h10 hs10
      have eC : (D.filter fun p => p.2.2.isEmpty).map (fun p => LV.int p.1) = (readyS (x.W.map sh)).map LV.int := by
        have e1 : (D.filter fun p => p.2.2.isEmpty).map (fun p => LV.int p.1) = (((D.map sh).filter fun p => p.2.isEmpty).map (·.1)).map LV.int := by
          rw [List.filter_map, List.map_map, List.map_map]; rfl
        rw [e1, eD]
        congr 1
        unfold readyS
        rw [z.w, stOf_keys, sh_keys, List.filter_map, List.map_map]
        have e2 : ∀ K : List Int, K.map ((fun p : Int × List Int => p.1) ∘ fun k => (k, due x.O (hsOf (x.V.map sh) k))) = K := fun K => by
          induction K with
          | nil => rfl
          | cons a K ih => rw [List.map_cons, ih]; rfl
        rw [e2]
        refine List.filter_congr fun k hk => ?_
        obtain ⟨⟨r, ns⟩, el⟩ := look_ex ((srtI_perm _).mem_iff.mp hk)
        have h1 : (x.V.map sh).lookup k = some ns := by
          have : (x.V.map sh).lookup k = (x.V.lookup k).map (·.2) := lookup_map (f := fun p : Nat × List Int => p.2)
          rw [this, el]; rfl
        show (due x.O (hsOf (x.V.map sh) k)).isEmpty = _
        unfold hsOf
        rw [h1, stOf_look h1]; rfl
      rw [eC] at hs10
      have lr : (readyS (x.W.map sh)).length ≤ 1000 := by
        unfold readyS
        refine Nat.le_trans (List.length_filter_le _ _) ?_
        rw [(srtI_perm _).length_eq, sh_keys, List.length_map]
        omega
      wtm_at "zgo"
      refine same_s (d := .list ((readyS (x.W.map sh)).map PyData.int)) hs10 (.lst (by simp) (by rw [List.length_map]; omega) (Rps.ints _)) (.lst (by simp) (by rw [List.length_map]; omega) (Rps.ints _)) (by rw [dep, dep_ints]; decide) ?_
      intro h11 hs11
      refine H _ (Hs.sub (L := rmL x (wC x.W ++ F) ++ ((dl, .lst (D.map tV)) :: wC D)) (hs11.tail.tail.perm ?_) (List.sublist_append_left _ _))
      letI := Classical.typeDecidableEq (Nat × LO)
      rw [List.perm_iff_count]; intro y; simp only [rmL, rmC, List.cons_append, List.count_append, List.count_cons]; omega
end
end

set_option maxRecDepth 100000
set_option maxHeartbeats 4000000
section
open PySem PySem.Spec PyProof.Rows L2 Fw
local macro_rules | `(tactic| wtm_at "zck") => `(tactic| first | exact isDT_f (by with_reducible assumption) (by wtm_at "zmem") | fail)
local macro_rules | `(tactic| wtm_at "zfn") => `(tactic| fail)
abbrev hdC (b ob wb : Nat) (x0 x1 : Rm) (T : List (Nat × LO)) : List (Nat × LO) := (b, .lst [.ref x0.o, .ref x1.o]) :: (ob, .lst [.ref x0.d, .ref x1.d]) :: (wb, .lst [.ref x0.v, .ref x1.v]) :: T
abbrev wor (b ob wb : Nat) (x0 x1 : Rm) (F : List (Nat × LO)) : List (Nat × LO) := hdC b ob wb x0 x1 (rmL x0 (wC x0.W ++ rmL x1 (wC x1.W ++ F)))
def B0 (b ob wb : Nat) (x0 x1 : Rm) (F : List (Nat × LO)) : List (Nat × LO) := hdC b ob wb x0 x1 (rmL x1 (wC x1.W ++ F))
def B1 (b ob wb : Nat) (x0 x1 : Rm) (F : List (Nat × LO)) : List (Nat × LO) := hdC b ob wb x0 x1 (rmL x0 (wC x0.W ++ F))
section
variable {b ob wb : Nat} {x0 x1 : Rm} {F G : List (Nat × LO)} {h : LH}
theorem sub0 : ∀ p ∈ F, p ∈ B0 b ob wb x0 x1 F := fun p hp => by simp [B0, hp]
theorem sub1 : ∀ p ∈ F, p ∈ B1 b ob wb x0 x1 F := fun p hp => by simp [B1, hp]
theorem to0 (hs : Hs h (wor b ob wb x0 x1 F)) : Hs h (rmL x0 (wC x0.W ++ B0 b ob wb x0 x1 F)) := by
  refine hs.perm ?_
  letI := Classical.typeDecidableEq (Nat × LO)
  rw [List.perm_iff_count]; intro y; simp only [B0, wor, hdC, rmL, rmC, List.cons_append, List.count_append, List.count_cons]; omega
theorem to1 (hs : Hs h (wor b ob wb x0 x1 F)) : Hs h (rmL x1 (wC x1.W ++ B1 b ob wb x0 x1 F)) := by
  refine hs.perm ?_
  letI := Classical.typeDecidableEq (Nat × LO)
  rw [List.perm_iff_count]; intro y; simp only [B1, wor, hdC, rmL, rmC, List.cons_append, List.count_append, List.count_cons]; omega
theorem from0 {y : Rm} (eo : y.o = x0.o) (ed : y.d = x0.d) (ev : y.v = x0.v) (hs : Hs h (rmL y (wC y.W ++ (G ++ B0 b ob wb x0 x1 F)))) : Hs h (wor b ob wb y x1 (G ++ F)) := by
  refine hs.perm ?_
  letI := Classical.typeDecidableEq (Nat × LO)
  rw [List.perm_iff_count]; intro z; simp only [B0, wor, hdC, rmL, rmC, List.cons_append, List.count_append, List.count_cons, eo, ed, ev]; omega
theorem from1 {y : Rm} (eo : y.o = x1.o) (ed : y.d = x1.d) (ev : y.v = x1.v) (hs : Hs h (rmL y (wC y.W ++ (G ++ B1 b ob wb x0 x1 F)))) : Hs h (wor b ob wb x0 y (G ++ F)) := by
  refine hs.perm ?_
  letI := Classical.typeDecidableEq (Nat × LO)
  rw [List.perm_iff_count]; intro z; simp only [B1, wor, hdC, rmL, rmC, List.cons_append, List.count_append, List.count_cons, eo, ed, ev]; omega
end
def lt0 : LS := (ifS (tstM (opM eqL (varM 8) (cst (.str "copy"))))
  (seqS (asgS (mthM "Rooms" "copy" f_Rooms_copy (opM getA (varM 1) (varM 7)) aNil) (gSb (varM 1) (opM subL (cst (.int 1)) (varM 7))))
  (seqS (asgS (callM dctL (aCons (opM getA (varM 2) (varM 7)) aNil)) (gSb (varM 2) (opM subL (cst (.int 1)) (varM 7))))
  (asgS (callM dctL (aCons (opM getA (varM 3) (varM 7)) aNil)) (gSb (varM 3) (opM subL (cst (.int 1)) (varM 7))))))
  (ifS (notT (tstM (callM f__law_deed (aCons (opM getA (varM 1) (varM 7)) (aCons (opM getA (varM 2) (varM 7)) (aCons (opM getA (varM 3) (varM 7)) (aCons (varM 8) (aCons (varM 6) (aCons (varM 4) aNil)))))))))
  (retS (cst (.bl false)))
  nilS))
def lt1 : LS := (ifS (andT (tstM (opM gtL (opM getA (varM 6) (cst (.int 6))) (cst (.int 0)))) (notT (tstM (callM f__law_stands (aCons (opM getA (varM 1) (opM modL (varM 4) (cst (.int 2)))) (aCons (opM getA (varM 2) (opM modL (varM 4) (cst (.int 2)))) (aCons (opM getA (varM 3) (opM modL (varM 4) (cst (.int 2)))) aNil)))))))
  (retS (cst (.bl false)))
  nilS)
theorem law1_eq : b_law_1 =
  (seqS (asgS (callM f__law_numbers (aCons (varM 5) (aCons (opM addL (cst (.int 2800)) (varM 4)) (aCons (lstM (aCons (cst (.int 8)) (aCons (cst (.int 2)) (aCons (cst (.int 4)) (aCons (cst (.int 9)) (aCons (opM powL (cst (.int 10)) (cst (.int 59))) (aCons (cst (.int 2)) (aCons (cst (.int 5)) aNil)))))))) aNil)))) (gNm 6))
  (seqS (asgS (opM getA (varM 6) (cst (.int 1))) (gNm 7))
  (seqS (asgS (opM getA (lstM (aCons (cst (.str "step")) (aCons (cst (.str "step")) (aCons (cst (.str "step")) (aCons (cst (.str "retire")) (aCons (cst (.str "retire")) (aCons (cst (.str "retire")) (aCons (cst (.str "give")) (aCons (cst (.str "copy")) aNil))))))))) (opM getA (varM 6) (cst (.int 0)))) (gNm 8))
  (seqS lt0 lt1)))) := rfl
section
variable {b ob wb dg : Nat} {x0 x1 : Rm} {F : List (Nat × LO)} {h : LH} {n e0 e1 e2 e3 e4 e5 e6 : Int} {s0 s5 s9 : Option LV} {w8 : LV} {k : Int} {N : LSt → LH → Prop} {R : LV → LH → Prop} {Bk C : LSt → LH → Prop} {X : Str → List (Str × LV) → LSt → LH → Prop}
theorem lt1_s (z0 : OkR F n x0) (z1 : OkR F n x1) (m : (dg, LO.lst [.int e0, .int e1, .int e2, .int e3, .int e4, .int e5, .int e6]) ∈ F) {a : Int} (hs : Hs h (wor b ob wb x0 x1 F))
    (H : ∀ h', Hs h' (wor b ob wb x0 x1 F) → N [s0, some (.ref b), some (.ref ob), some (.ref wb), some (.int a), s5, some (.ref dg), some (.int k), some w8, s9] h') :
    ws (lt1 [s0, some (.ref b), some (.ref ob), some (.ref wb), some (.int a), s5, some (.ref dg), some (.int k), some w8, s9] h) N ⟨R, Bk, C, X⟩ := by
  have mm : (dg, LO.lst [.int e0, .int e1, .int e2, .int e3, .int e4, .int e5, .int e6]) ∈ wor b ob wb x0 x1 F := by simp [m]
  unfold lt1
  have hm : a % 2 = 0 ∨ a % 2 = 1 := by omega
  wtm_at "zgo"
  rcases hm with e | e
  · rw [e]
    wtm_at "zgo"
    rw [e]
    wtm_at "zgo"
    rw [e]
    wtm_at "zgo"
    refine stands_s (F := B0 b ob wb x0 x1 F) (z0.up (Int.le_refl _) z0.n sub0) (to0 hs) ?_
    intro h1 hs1
    wtm_at "zgo"
    exact H _ (from0 (G := []) rfl rfl rfl hs1)
  · rw [e]
    wtm_at "zgo"
    rw [e]
    wtm_at "zgo"
    rw [e]
    wtm_at "zgo"
    refine stands_s (F := B1 b ob wb x0 x1 F) (z1.up (Int.le_refl _) z1.n sub1) (to1 hs) ?_
    intro h1 hs1
    wtm_at "zgo"
    exact H _ (from1 (G := []) rfl rfl rfl hs1)
  · exact H _ hs
theorem ok_copy {x : Rm} (z : OkR F n x) {W2 : WL} (e : W2.map sh = x.W.map sh) (o2 rd2 wt2 d2 v2 : Nat) : OkR F n ⟨o2, rd2, wt2, d2, v2, x.O, W2, x.V⟩ :=
  ⟨z.nd, z.b, by rw [e]; exact z.w, z.kn, z.kp, z.s, z.m, z.lv, z.ln, z.n⟩
local macro_rules | `(tactic| wtm_at "zfn") => `(tactic| first
  | ((with_reducible apply dct_w8); (· with_reducible assumption); (· wtm_at "zmem"); (intro l' h' hs'))
  | fail)
theorem lt0_copy (hk : k = 0 ∨ k = 1) (z0 : OkR F n x0) (z1 : OkR F n x1) (h100 : n + 1 ≤ 100) {a : Int} (hs : Hs h (wor b ob wb x0 x1 F))
    (H : ∀ y0 y1 h', OkR F (n + 1) y0 → OkR F (n + 1) y1 → Hs h' (wor b ob wb y0 y1 F) → N [s0, some (.ref b), some (.ref ob), some (.ref wb), some (.int a), s5, some (.ref dg), some (.int k), some (.str "copy"), s9] h') :
    ws (lt0 [s0, some (.ref b), some (.ref ob), some (.ref wb), some (.int a), s5, some (.ref dg), some (.int k), some (.str "copy"), s9] h) N ⟨R, Bk, C, X⟩ := by
  unfold lt0
  rcases hk with rfl | rfl
  · wtm_at "zgo"
    have hs1 : Hs h (rmC x0.o x0.rd x0.wt (x0.O.map (·.1)) x0.W (wC x0.W ++ ((x0.d, .dct false (oD x0.O)) :: (x0.v, .dct false (wD x0.V)) :: B0 b ob wb x0 x1 F))) := (to0 hs).perm (pmB _ _ _ _ _ _ _)
    refine rcopy_s (OkR.lw2 z0) (by rw [z0.kw]; exact z0.kn) .here hs1 ?_
    intro o2 rd2 wt2 W2 h2 eW hs2
    have hs3 : Hs h2 (hdC b ob wb x0 x1 ((x0.d, .dct false (oD x0.O)) :: (x0.v, .dct false (wD x0.V)) :: (rmC o2 rd2 wt2 (x0.O.map (·.1)) W2 (wC W2 ++ (rmC x0.o x0.rd x0.wt (x0.O.map (·.1)) x0.W (wC x0.W ++ rmL x1 (wC x1.W ++ F))))))) := by
      refine hs2.perm ?_
      letI := Classical.typeDecidableEq (Nat × LO)
      rw [List.perm_iff_count]; intro z; simp only [B0, hdC, rmL, rmC, List.cons_append, List.count_append, List.count_cons]; omega
    clear hs hs1 hs2
    wtm_at "zgo"
    rename_i h4 hs4 d2 h5 hs5 h6 hs6 v2 h7 hs7 h8 hs8
    have e1 : (1 - 0 : Int).toNat = 1 := rfl
    simp only [e1, List.set_cons_succ, List.set_cons_zero] at hs8
    refine H x0 ⟨o2, rd2, wt2, d2, v2, x0.O, W2, x0.V⟩ _ (z0.up (by omega) h100 fun _ hp => hp) ((ok_copy z0 eW o2 rd2 wt2 d2 v2).up (by omega) h100 fun _ hp => hp) (Hs.sub (L := wor b ob wb x0 ⟨o2, rd2, wt2, d2, v2, x0.O, W2, x0.V⟩ F ++ rmL x1 (wC x1.W)) (hs8.perm ?_) (List.sublist_append_left _ _))
    letI := Classical.typeDecidableEq (Nat × LO)
    rw [List.perm_iff_count]; intro z; simp only [wor, hdC, rmL, rmC, List.cons_append, List.count_append, List.count_cons]; omega
  · have hs0 : Hs h (hdC b ob wb x0 x1 (rmL x1 (wC x1.W ++ rmL x0 (wC x0.W ++ F)))) := by
      refine hs.perm ?_
      letI := Classical.typeDecidableEq (Nat × LO)
      rw [List.perm_iff_count]; intro z; simp only [wor, hdC, rmL, rmC, List.cons_append, List.count_append, List.count_cons]; omega
    wtm_at "zgo"
    have hs1 : Hs h (rmC x1.o x1.rd x1.wt (x1.O.map (·.1)) x1.W (wC x1.W ++ ((x1.d, .dct false (oD x1.O)) :: (x1.v, .dct false (wD x1.V)) :: B1 b ob wb x0 x1 F))) := (to1 hs).perm (pmB _ _ _ _ _ _ _)
    refine rcopy_s (OkR.lw2 z1) (by rw [z1.kw]; exact z1.kn) .here hs1 ?_
    intro o2 rd2 wt2 W2 h2 eW hs2
    have hs3 : Hs h2 (hdC b ob wb x0 x1 ((x1.d, .dct false (oD x1.O)) :: (x1.v, .dct false (wD x1.V)) :: (rmC o2 rd2 wt2 (x1.O.map (·.1)) W2 (wC W2 ++ (rmC x1.o x1.rd x1.wt (x1.O.map (·.1)) x1.W (wC x1.W ++ rmL x0 (wC x0.W ++ F))))))) := by
      refine hs2.perm ?_
      letI := Classical.typeDecidableEq (Nat × LO)
      rw [List.perm_iff_count]; intro z; simp only [B1, hdC, rmL, rmC, List.cons_append, List.count_append, List.count_cons]; omega
    clear hs hs0 hs1 hs2
    wtm_at "zgo"
    rename_i h4 hs4 d2 h5 hs5 h6 hs6 v2 h7 hs7 h8 hs8
    have e1 : (1 - 1 : Int).toNat = 0 := rfl
    simp only [e1, List.set_cons_succ, List.set_cons_zero] at hs8
    refine H ⟨o2, rd2, wt2, d2, v2, x1.O, W2, x1.V⟩ x1 _ ((ok_copy z1 eW o2 rd2 wt2 d2 v2).up (by omega) h100 fun _ hp => hp) (z1.up (by omega) h100 fun _ hp => hp) (Hs.sub (L := wor b ob wb ⟨o2, rd2, wt2, d2, v2, x1.O, W2, x1.V⟩ x1 F ++ rmL x0 (wC x0.W)) (hs8.perm ?_) (List.sublist_append_left _ _))
    letI := Classical.typeDecidableEq (Nat × LO)
    rw [List.perm_iff_count]; intro z; simp only [wor, hdC, rmL, rmC, List.cons_append, List.count_append, List.count_cons]; omega
local macro_rules | `(tactic| wtm_at "zfn") => `(tactic| fail)
/-- a deed of one room, whichever it is -/
theorem deed_any (z : OkR F n x0) (sub : ∀ p ∈ F, p ∈ G) (h100 : n + 1 ≤ 100) {w : Str} (hw : w = "step" ∨ w = "retire" ∨ w = "give") (m : (dg, LO.lst [.int e0, .int e1, .int e2, .int e3, .int e4, .int e5, .int e6]) ∈ G) (b2 : 0 ≤ e2 ∧ e2 ≤ 3) (b3 : 0 ≤ e3) (b4 : 0 ≤ e4) (b5 : e5 = 0 ∨ e5 = 1)
    {Q : LV → LH → Prop} {E : XP} (hs : Hs h (rmL x0 (wC x0.W ++ G)))
    (H : ∀ D O' W' V' h', OkR (D ++ F) (n + 1) { x0 with O := O', W := W', V := V' } → Hs h' (rmL { x0 with O := O', W := W', V := V' } (wC W' ++ (D ++ G))) → Q (.bl true) h') : wp (f__law_deed [.ref x0.o, .ref x0.d, .ref x0.v, .str w, .ref dg, .int n] h) Q E := by
  rcases hw with rfl | rfl | rfl
  · exact deed_step z h100 m b2 hs fun O' W' h' z' hs' => H [] O' W' x0.V h' z' hs'
  · exact deed_retire z h100 m b3 b4 b5 hs fun D W' V' h' z' hs' => H D x0.O W' V' h' z' hs'
  · have mm : (dg, LO.lst [.int e0, .int e1, .int e2, .int e3, .int e4, .int e5, .int e6]) ∈ rmL x0 (wC x0.W ++ G) := by simp [m]
    apply i__law_deed; unfold b__law_deed
    wtm_at "zgo"
    refine tried_s b5 z sub hs ?_
    intro W' V' h' z' _ hs'
    exact H [] x0.O W' V' h' (z'.up (by omega) h100 fun _ hp => hp) hs'
theorem lt0_deed (hk : k = 0 ∨ k = 1) (z0 : OkR F n x0) (z1 : OkR F n x1) (h100 : n + 1 ≤ 100) {w : Str} (hw : w = "step" ∨ w = "retire" ∨ w = "give") (m : (dg, LO.lst [.int e0, .int e1, .int e2, .int e3, .int e4, .int e5, .int e6]) ∈ F) (b2 : 0 ≤ e2 ∧ e2 ≤ 3) (b3 : 0 ≤ e3) (b4 : 0 ≤ e4) (b5 : e5 = 0 ∨ e5 = 1) (hs : Hs h (wor b ob wb x0 x1 F))
    (H : ∀ y0 y1 D h', OkR (D ++ F) (n + 1) y0 → OkR (D ++ F) (n + 1) y1 → Hs h' (wor b ob wb y0 y1 (D ++ F)) → N [s0, some (.ref b), some (.ref ob), some (.ref wb), some (.int n), s5, some (.ref dg), some (.int k), some (.str w), s9] h') :
    ws (lt0 [s0, some (.ref b), some (.ref ob), some (.ref wb), some (.int n), s5, some (.ref dg), some (.int k), some (.str w), s9] h) N ⟨R, Bk, C, X⟩ := by
  unfold lt0
  have nc : w ≠ "copy" := by rcases hw with rfl | rfl | rfl <;> simp only [ne_eq, ofS_eq, String.reduceEq, not_false_eq_true]
  rcases hk with rfl | rfl
  · wtm_at "zgo"
    refine deed_any z0 sub0 h100 hw (sub0 _ m) b2 b3 b4 b5 (to0 hs) ?_
    intro D O' W' V' h' z' hs'
    wtm_at "zgo"
    exact H _ x1 D _ z' (z1.up (by omega) h100 fun p hp => List.mem_append_right _ hp) (from0 (y := { x0 with O := O', W := W', V := V' }) rfl rfl rfl hs')
  · wtm_at "zgo"
    refine deed_any z1 sub1 h100 hw (sub1 _ m) b2 b3 b4 b5 (to1 hs) ?_
    intro D O' W' V' h' z' hs'
    wtm_at "zgo"
    exact H x0 _ D _ (z0.up (by omega) h100 fun p hp => List.mem_append_right _ hp) z' (from1 (y := { x1 with O := O', W := W', V := V' }) rfl rfl rfl hs')
end
end

set_option maxRecDepth 100000
set_option maxHeartbeats 4000000
section
open PySem PySem.Spec PyProof.Rows L2 Fw
local macro_rules | `(tactic| wtm_at "zck") => `(tactic| first | exact isDT_f (by with_reducible assumption) (by wtm_at "zmem") | fail)
local macro_rules | `(tactic| wtm_at "zfn") => `(tactic| fail)
abbrev stL (s0 : Option LV) (b ob wb : Nat) (s4 s5 s6 s7 s8 s9 : Option LV) : LSt := [s0, some (.ref b), some (.ref ob), some (.ref wb), s4, s5, s6, s7, s8, s9]
section
variable {b ob wb dg : Nat} {x0 x1 : Rm} {F : List (Nat × LO)} {h : LH} {n i : Int} {s0 s4 s5 s6 s7 s8 s9 : Option LV} {k c : Int} {N : LSt → LH → Prop} {R : LV → LH → Prop} {Bk C : LSt → LH → Prop} {X : Str → List (Str × LV) → LSt → LH → Prop}
theorem turn_s (z0 : OkR F n x0) (z1 : OkR F n x1) (h100 : n + 1 ≤ 100) (hs : Hs h (wor b ob wb x0 x1 F))
    (H : ∀ y0 y1 D s4 s5 s6 s7 s8 h', OkR (D ++ F) (n + 1) y0 → OkR (D ++ F) (n + 1) y1 → Hs h' (wor b ob wb y0 y1 (D ++ F)) → N (stL s0 b ob wb s4 s5 s6 s7 s8 s9) h') :
    ws (b_law_1 (stL s0 b ob wb (some (.int n)) (some (.int c)) s6 s7 s8 s9) h) N ⟨R, Bk, C, X⟩ := by
  rw [law1_eq]
  wtm_at "zgo"
  rename_i l1 h1 hs1
  refine nums_s hs1 (by wtm_at "zmem") (by wtm_at "zisi") (by decide +kernel) (by decide) ?_
  simp only [digs]
  intro d0 a0 b0 d1 a1 b1 d2 a2 b2 d3 a3 b3 d4 a4 b4 d5 a5 b5 d6 a6 b6 dg h2 hs2
  have hs3 : Hs h2 (wor b ob wb x0 x1 ((dg, .lst [.int d0, .int d1, .int d2, .int d3, .int d4, .int d5, .int d6]) :: F)) := by
    refine (hs2.perm (.swap _ _ _)).tail.perm ?_
    letI := Classical.typeDecidableEq (Nat × LO)
    rw [List.perm_iff_count]; intro z; simp only [wor, hdC, rmL, rmC, List.cons_append, List.count_append, List.count_cons, List.count_nil]; omega
  have mm : (dg, LO.lst [.int d0, .int d1, .int d2, .int d3, .int d4, .int d5, .int d6]) ∈ wor b ob wb x0 x1 ((dg, .lst [.int d0, .int d1, .int d2, .int d3, .int d4, .int d5, .int d6]) :: F) := by simp
  clear hs hs1 hs2
  wtm_at "zgo"
  rename_i l3 h3 hs4
  refine w_getlM hs4 List.mem_cons_self a0 (by simp only [List.length_cons, List.length_nil]; omega) ?_
  intro v _ mv
  have hv : ∃ w : Str, v = .str w ∧ ((w = "step" ∨ w = "retire" ∨ w = "give") ∨ w = "copy") := by
    simp only [List.mem_cons, List.not_mem_nil, or_false] at mv
    rcases mv with rfl | rfl | rfl | rfl | rfl | rfl | rfl | rfl
    all_goals exact ⟨_, rfl, by simp⟩
  obtain ⟨w, rfl, hw⟩ := hv
  have hk : d1 = 0 ∨ d1 = 1 := by omega
  have z0' := z0.up (F' := (dg, .lst [.int d0, .int d1, .int d2, .int d3, .int d4, .int d5, .int d6]) :: F) (Int.le_refl _) z0.n fun p hp => List.mem_cons_of_mem _ hp
  have z1' := z1.up (F' := (dg, .lst [.int d0, .int d1, .int d2, .int d3, .int d4, .int d5, .int d6]) :: F) (Int.le_refl _) z1.n fun p hp => List.mem_cons_of_mem _ hp
  wtm_at "zgo"
  rcases hw with hw | rfl
  · refine lt0_deed hk z0' z1' h100 hw List.mem_cons_self ⟨a2, by omega⟩ a3 a4 (by omega) hs4.tail ?_
    intro y0 y1 D h5 w0 w1 hs5
    wtm_at "zgo"
    refine lt1_s w0 w1 (List.mem_append_right _ List.mem_cons_self) hs5 ?_
    intro h6 hs6
    have e : D ++ ((dg, LO.lst [.int d0, .int d1, .int d2, .int d3, .int d4, .int d5, .int d6]) :: F) = (D ++ [(dg, LO.lst [.int d0, .int d1, .int d2, .int d3, .int d4, .int d5, .int d6])]) ++ F := by simp
    rw [e] at w0 w1 hs6
    exact H y0 y1 _ _ _ _ _ _ _ w0 w1 hs6
  · refine lt0_copy hk z0' z1' h100 hs4.tail ?_
    intro y0 y1 h5 w0 w1 hs5
    wtm_at "zgo"
    refine lt1_s w0 w1 List.mem_cons_self hs5 ?_
    intro h6 hs6
    exact H y0 y1 [(dg, _)] _ _ _ _ _ _ w0 w1 hs6
/-- the end: a hand leaves one of the rooms, and all is tried there -/
theorem fin0 (z0 : OkR F n x0) (b2 : 0 ≤ i ∧ i ≤ 3) (hs : Hs h (wor b ob wb x0 x1 F))
    (H : ∀ O' W' V' h', OkR F n { x0 with O := O', W := W', V := V' } → Wts { x0 with O := O', W := W', V := V' } → (∀ p ∈ O', p ∈ x0.O ∧ p.1 ≠ i) → Hs h' (wor b ob wb { x0 with O := O', W := W', V := V' } x1 F) → N (stL s0 b ob wb s4 s5 s6 (some (.int 0)) s8 (some (.int i))) h') :
    ws (b_law_2 (stL s0 b ob wb s4 s5 s6 (some (.int 0)) s8 (some (.int i))) h) N ⟨R, Bk, C, X⟩ := by
  have lo := z0.lo
  unfold b_law_2
  by_cases c : i ∈ x0.O.map (·.1)
  · obtain ⟨s, g⟩ := oD_some c
    have g' : (getK (oD x0.O) (.int i)).isSome = true := by rw [g]; rfl
    wtm_at "zgo"
    rename_i h1 hs1
    rw [oD_del] at hs1
    have hs2 : Hs h1 (rmC x0.o x0.rd x0.wt (x0.O.map (·.1)) x0.W (wC x0.W ++ ((x0.d, .dct false (oD (x0.O.filter fun p => !(p.1 == i)))) :: (x0.v, .dct false (wD x0.V)) :: B0 b ob wb x0 x1 F))) := by
      refine hs1.perm ?_
      letI := Classical.typeDecidableEq (Nat × LO)
      rw [List.perm_iff_count]; intro z; simp only [B0, hdC, rmL, rmC, List.cons_append, List.count_append, List.count_cons]; omega
    refine rleave_w (M := fun W => wC W ++ ((x0.d, .dct false (oD (x0.O.filter fun p => !(p.1 == i)))) :: (x0.v, .dct false (wD x0.V)) :: B0 b ob wb x0 x1 F)) b2 c (by rw [z0.kw]; exact z0.kn) (OkR.lw2 z0) (fun p hp => by have := z0.lnW p hp; omega) (fun _ _ => .here) hs2 ?_
    intro W' h2 ew hs3
    rw [← keys_filter] at hs3
    have hs4 : Hs h2 (wor b ob wb { x0 with O := x0.O.filter (fun p => !(p.1 == i)), W := W' } x1 F) := from0 (G := []) rfl rfl rfl (hs3.perm (pmB _ _ _ _ _ _ _).symm)
    clear hs1 hs2 hs3
    have z' := ok_leave z0 ew
    wtm_at "zgo"
    refine tried_s (x := { x0 with O := x0.O.filter (fun p => !(p.1 == i)), W := W' }) (.inl rfl) z' sub0 (to0 hs4) ?_
    intro W2 V2 h3 z2 w2 hs5
    wtm_at "zgo"
    exact H _ W2 V2 _ z2 w2 (fun p hp => ⟨(List.mem_filter.mp hp).1, by simpa using (List.mem_filter.mp hp).2⟩) (from0 (G := []) (y := { x0 with O := x0.O.filter (fun p => !(p.1 == i)), W := W2, V := V2 }) rfl rfl rfl hs5)
  · have g' : (getK (oD x0.O) (.int i)).isSome = false := by rw [oD_get, look_none c]; rfl
    wtm_at "zgo"
    refine tried_s (.inl rfl) z0 sub0 (to0 hs) ?_
    intro W2 V2 h3 z2 w2 hs5
    wtm_at "zgo"
    exact H x0.O W2 V2 _ z2 w2 (fun p hp => ⟨hp, fun e => c (by rw [← e]; exact List.mem_map_of_mem (f := (·.1)) hp)⟩) (from0 (G := []) (y := { x0 with W := W2, V := V2 }) rfl rfl rfl hs5)
theorem fin1 (z1 : OkR F n x1) (b2 : 0 ≤ i ∧ i ≤ 3) (hs : Hs h (wor b ob wb x0 x1 F))
    (H : ∀ O' W' V' h', OkR F n { x1 with O := O', W := W', V := V' } → Wts { x1 with O := O', W := W', V := V' } → (∀ p ∈ O', p ∈ x1.O ∧ p.1 ≠ i) → Hs h' (wor b ob wb x0 { x1 with O := O', W := W', V := V' } F) → N (stL s0 b ob wb s4 s5 s6 (some (.int 1)) s8 (some (.int i))) h') :
    ws (b_law_2 (stL s0 b ob wb s4 s5 s6 (some (.int 1)) s8 (some (.int i))) h) N ⟨R, Bk, C, X⟩ := by
  have lo := z1.lo
  have hs0 : Hs h (hdC b ob wb x0 x1 (rmL x1 (wC x1.W ++ rmL x0 (wC x0.W ++ F)))) := by
    refine hs.perm ?_
    letI := Classical.typeDecidableEq (Nat × LO)
    rw [List.perm_iff_count]; intro z; simp only [wor, hdC, rmL, rmC, List.cons_append, List.count_append, List.count_cons]; omega
  unfold b_law_2
  by_cases c : i ∈ x1.O.map (·.1)
  · obtain ⟨s, g⟩ := oD_some c
    have g' : (getK (oD x1.O) (.int i)).isSome = true := by rw [g]; rfl
    wtm_at "zgo"
    rename_i h1 hs1
    rw [oD_del] at hs1
    have hs2 : Hs h1 (rmC x1.o x1.rd x1.wt (x1.O.map (·.1)) x1.W (wC x1.W ++ ((x1.d, .dct false (oD (x1.O.filter fun p => !(p.1 == i)))) :: (x1.v, .dct false (wD x1.V)) :: B1 b ob wb x0 x1 F))) := by
      refine hs1.perm ?_
      letI := Classical.typeDecidableEq (Nat × LO)
      rw [List.perm_iff_count]; intro z; simp only [B1, hdC, rmL, rmC, List.cons_append, List.count_append, List.count_cons]; omega
    refine rleave_w (M := fun W => wC W ++ ((x1.d, .dct false (oD (x1.O.filter fun p => !(p.1 == i)))) :: (x1.v, .dct false (wD x1.V)) :: B1 b ob wb x0 x1 F)) b2 c (by rw [z1.kw]; exact z1.kn) (OkR.lw2 z1) (fun p hp => by have := z1.lnW p hp; omega) (fun _ _ => .here) hs2 ?_
    intro W' h2 ew hs3
    rw [← keys_filter] at hs3
    have hs4 : Hs h2 (wor b ob wb x0 { x1 with O := x1.O.filter (fun p => !(p.1 == i)), W := W' } F) := from1 (G := []) rfl rfl rfl (hs3.perm (pmB _ _ _ _ _ _ _).symm)
    clear hs hs0 hs1 hs2 hs3
    have z' := ok_leave z1 ew
    wtm_at "zgo"
    refine tried_s (x := { x1 with O := x1.O.filter (fun p => !(p.1 == i)), W := W' }) (.inl rfl) z' sub1 (to1 hs4) ?_
    intro W2 V2 h3 z2 w2 hs5
    wtm_at "zgo"
    exact H _ W2 V2 _ z2 w2 (fun p hp => ⟨(List.mem_filter.mp hp).1, by simpa using (List.mem_filter.mp hp).2⟩) (from1 (G := []) (y := { x1 with O := x1.O.filter (fun p => !(p.1 == i)), W := W2, V := V2 }) rfl rfl rfl hs5)
  · have g' : (getK (oD x1.O) (.int i)).isSome = false := by rw [oD_get, look_none c]; rfl
    wtm_at "zgo"
    refine tried_s (.inl rfl) z1 sub1 (to1 hs) ?_
    intro W2 V2 h3 z2 w2 hs5
    wtm_at "zgo"
    exact H x1.O W2 V2 _ z2 w2 (fun p hp => ⟨hp, fun e => c (by rw [← e]; exact List.mem_map_of_mem (f := (·.1)) hp)⟩) (from1 (G := []) (y := { x1 with W := W2, V := V2 }) rfl rfl rfl hs5)
end
local macro_rules | `(tactic| wtm_at "zfn") => `(tactic| first | ((with_reducible apply i_Rooms___init__); unfold b_Rooms___init__) | fail)
theorem ok_empty {F : List (Nat × LO)} (o rd wt d v : Nat) : OkR F 0 ⟨o, rd, wt, d, v, [], [], []⟩ :=
  ⟨List.nodup_nil, fun _ h => (by cases h), rfl, List.nodup_nil, fun _ h => (by cases h), fun _ h => (by cases h), fun _ h => (by cases h), Int.le_refl _, fun _ h => (by cases h), by decide⟩
theorem wts_nil {F : List (Nat × LO)} {n : Int} {x : Rm} (z : OkR F n x) (w : Wts x) (e : x.O = []) : x.V = [] ∧ x.W = [] := by
  have h1 : x.V = [] := by
    cases c : x.V with
    | nil => rfl
    | cons p V =>
      have := w p (by rw [c]; exact List.mem_cons_self)
      rw [e, due_none] at this
      cases this
  refine ⟨h1, ?_⟩
  have := z.lw
  rw [h1] at this
  exact List.eq_nil_of_length_eq_zero this
theorem w_eqY2 {h : LH} {L : List (Nat × LO)} {Q : LV → LH → Prop} {E : XP} {a b v0 v1 u0 u1 : Nat} (hs : Hs h L) (ma : (a, LO.lst [.ref v0, .ref v1]) ∈ L) (mb : (b, LO.lst [.ref u0, .ref u1]) ∈ L)
    (m0 : (v0, LO.dct false []) ∈ L) (m1 : (v1, LO.dct false []) ∈ L) (m2 : (u0, LO.dct false []) ∈ L) (m3 : (u1, LO.dct false []) ∈ L) (H : Q (.bl true) h) : wp (eqY (.ref a) (.ref b) h) Q E := by
  refine wp_eq ?_ H
  have e : Fw.lenZ h (.ref a) (.ref b) = some ([.ref v0, .ref v1], [.ref u0, .ref u1]) := by simp only [Fw.lenZ, hs.get ma, hs.get mb]
  have q : ∀ v u, (v, LO.dct false []) ∈ L → (u, LO.dct false []) ∈ L → deepQ 32 h (.ref v) (.ref u) = true := by
    intro v u hv hu
    unfold deepQ
    simp [hs.get hv, hs.get hu, deepK]
  simp only [eqY, e, deepA, q _ _ m0 m2, q _ _ m1 m3, Bool.and_true, if_true]
theorem w_eqY0 {h : LH} {L : List (Nat × LO)} {Q : LV → LH → Prop} {E : XP} {a b : Nat} (hs : Hs h L) (ma : (a, LO.lst []) ∈ L) (mb : (b, LO.lst []) ∈ L) (H : Q (.bl true) h) : wp (eqY (.ref a) (.ref b) h) Q E := by
  refine wp_eq ?_ H
  have e : Fw.lenZ h (.ref a) (.ref b) = some ([], []) := by simp only [Fw.lenZ, hs.get ma, hs.get mb]
  simp only [eqY, e, deepA, if_true]
theorem no_keys {F : List (Nat × LO)} {n : Int} {x : Rm} (z : OkR F n x) (h : ∀ p ∈ x.O, p.1 ∉ [(0 : Int), 1, 2, 3]) : x.O = [] := by
  cases c : x.O with
  | nil => rfl
  | cons p O =>
    have m : p ∈ x.O := by rw [c]; exact List.mem_cons_self
    have := (z.b p m).1
    refine absurd ?_ (h p m)
    obtain e | e | e | e : p.1 = 0 ∨ p.1 = 1 ∨ p.1 = 2 ∨ p.1 = 3 := by omega
    all_goals rw [e]; simp
section
variable {b ob wb : Nat} {F : List (Nat × LO)} {h : LH} {n : Int} {s0 s4 s5 s6 s7 s8 s9 : Option LV} {N : LSt → LH → Prop} {R : LV → LH → Prop} {Bk C : LSt → LH → Prop} {X : Str → List (Str × LV) → LSt → LH → Prop}
def InF (b ob wb : Nat) (F : List (Nat × LO)) (n : Int) (s0 s4 s5 s6 s8 : Option LV) (a : List Int) (s : LSt) (h : LH) : Prop :=
  ∃ x0 x1 s7 s9, OkR F n x0 ∧ OkR F n x1 ∧ (∀ p ∈ x0.O, p.1 ∉ a) ∧ (∀ p ∈ x1.O, p.1 ∉ a) ∧ (a ≠ [] → Wts x0 ∧ Wts x1) ∧ s = stL s0 b ob wb s4 s5 s6 s7 s8 s9 ∧ Hs h (wor b ob wb x0 x1 F)
theorem hands_s (i0 : InF b ob wb F n s0 s4 s5 s6 s8 [] (stL s0 b ob wb s4 s5 s6 s7 s8 s9) h)
    (H : ∀ s h', InF b ob wb F n s0 s4 s5 s6 s8 [0, 1, 2, 3] s h' → N s h') : ws (forI [] (gNm 9) b_law_3 ([0, 1, 2, 3].map LV.int) (stL s0 b ob wb s4 s5 s6 s7 s8 s9) h) N ⟨R, Bk, C, X⟩ := by
  refine w_forPre [0, 1, 2, 3] LV.int (InF b ob wb F n s0 s4 s5 s6 s8) rfl i0 (fun _ _ _ _ => rfl) ?_ H
  rintro a i r s h eP ⟨x0, x1, s7, s9, z0, z1, k0, k1, w, rfl, hs⟩
  have ib : 0 ≤ i ∧ i ≤ 3 := by
    have : i ∈ [(0 : Int), 1, 2, 3] := by rw [eP]; simp
    simp only [List.mem_cons, List.not_mem_nil, or_false] at this
    omega
  wtm_at "zgo"
  unfold b_law_3
  wtm_at "zgo"
  show ws (forI [] (gNm 7) b_law_2 [.int 0, .int 1] (stL s0 b ob wb s4 s5 s6 s7 s8 (some (.int i))) h) _ _
  refine w_forC keepB_nil ?_
  wtm_at "zgo"
  refine fin0 z0 ib hs ?_
  intro O' W' V' h1 z0' w0 ko hs1
  wtm_at "zgo"
  refine w_forC keepB_nil ?_
  wtm_at "zgo"
  refine fin1 z1 ib hs1 ?_
  intro O1 W1 V1 h2 z1' w1 ko1 hs2
  wtm_at "zgo"
  refine ⟨_, _, _, _, z0', z1', fun p hp m => ?_, fun p hp m => ?_, fun _ => ⟨w0, w1⟩, rfl, hs2⟩
  · obtain ⟨m1, ne⟩ := ko p hp
    rcases List.mem_append.mp m with m | m
    · exact k0 p m1 m
    · exact ne (by simpa using m)
  · obtain ⟨m1, ne⟩ := ko1 p hp
    rcases List.mem_append.mp m with m | m
    · exact k1 p m1 m
    · exact ne (by simpa using m)
end
theorem law_true : ∀ ns : List Int, ns.length ≤ 63 → ∃ h', f_law [.scr (ns.map LV.int)] [] = .ok (.bl true) h' := by
  intro ns hn
  have hh : wp (f_law [.scr (ns.map LV.int)] []) (fun v _ => v = .bl true) noX := by
    have hs : Hs [] [] := Hs.nil
    apply i_law
    unfold b_law
    wtm_at "zgo"
    rename_i o0 _ _ rd0 _ _ _ _ wt0 _ _ _ _ o1 _ _ rd1 _ _ _ _ wt1 _ _ _ _ b _ _ d0 _ _ d1 _ _ ob _ _ v0 _ _ v1 _ _ wb _ _ l2 _ _ cs hcs l1 _ _ sc h0 hs0
    have hsA : Hs h0 [(b, .lst [.ref o0, .ref o1]), (ob, .lst [.ref d0, .ref d1]), (wb, .lst [.ref v0, .ref v1]), (d0, .dct false []), (v0, .dct false []), (o0, rmO rd0 wt0), (rd0, .dct false []), (wt0, .dct false []), (d1, .dct false []), (v1, .dct false []), (o1, rmO rd1 wt1), (rd1, .dct false []), (wt1, .dct false []), (sc, .lst (.int 2 :: cs.map LV.int))] := hs0.prm (by wtm_at "zprm")
    have hsB : Hs h0 (wor b ob wb ⟨o0, rd0, wt0, d0, v0, [], [], []⟩ ⟨o1, rd1, wt1, d1, v1, [], [], []⟩ [(sc, .lst (.int 2 :: cs.map LV.int))]) := hsA
    clear hs hs0 hsA
    refine w_forPI (zs := 2 :: cs) (fun k s h => ∃ x0 x1 F s4 s5 s6 s7 s8 s9, OkR F k x0 ∧ OkR F k x1 ∧ (sc, LO.lst (.int 2 :: cs.map LV.int)) ∈ F ∧ s = stL (some (.scr (ns.map LV.int))) b ob wb s4 s5 s6 s7 s8 s9 ∧ Hs h (wor b ob wb x0 x1 F))
      ⟨_, _, _, _, _, _, _, _, _, ok_empty o0 rd0 wt0 d0 v0, ok_empty o1 rd1 wt1 d1 v1, List.mem_singleton.mpr rfl, rfl, hsB⟩ ?_ ?_ ?_
    · rintro k s h ⟨x0, x1, F, s4, s5, s6, s7, s8, s9, z0, z1, ms, rfl, hs⟩
      exact keepB_cons (hs.get (by simp [ms])) keepB_nil
    · rintro k c s h k0 kk ⟨x0, x1, F, s4, s5, s6, s7, s8, s9, z0, z1, ms, rfl, hs⟩
      have k64 : k < 63 := by
        have := hcs.2
        simp only [List.length_cons] at kk
        push_cast at kk
        omega
      wtm_at "zgo"
      refine turn_s z0 z1 (by omega) hs ?_
      intro y0 y1 D s4 s5 s6 s7 s8 h1 w0 w1 hs1
      exact ⟨y0, y1, _, _, _, _, _, _, _, w0, w1, List.mem_append_right _ ms, rfl, hs1⟩
    · rintro s h ⟨x0, x1, F, s4, s5, s6, s7, s8, s9, z0, z1, ms, rfl, hs⟩
      wtm_at "zgo"
      refine hands_s ⟨x0, x1, _, _, z0, z1, fun _ _ m => (by cases m), fun _ _ m => (by cases m), fun m => absurd rfl m, rfl, hs⟩ ?_
      rintro s h1 ⟨y0, y1, s7, s9, w0, w1, k0, k1, ww, rfl, hs1⟩
      obtain ⟨ww0, ww1⟩ := ww (by simp)
      obtain ⟨ev0, ew0⟩ := wts_nil w0 ww0 (no_keys w0 k0)
      obtain ⟨ev1, ew1⟩ := wts_nil w1 ww1 (no_keys w1 k1)
      have n0 : wD y0.V = [] := by rw [ev0]; rfl
      have n1 : wD y1.V = [] := by rw [ev1]; rfl
      have m0 : (y0.v, LO.dct false []) ∈ wor b ob wb y0 y1 F := by simp [n0]
      have m1 : (y1.v, LO.dct false []) ∈ wor b ob wb y0 y1 F := by simp [n1]
      wtm_at "zgo"
      rename_i u0 h2 hs2 u1 h3 hs3 l4 h4 hs4
      refine w_eqY2 hs4 (by wtm_at "zmem") (by wtm_at "zmem") (List.mem_cons_of_mem _ (List.mem_cons_of_mem _ (List.mem_cons_of_mem _ m0))) (List.mem_cons_of_mem _ (List.mem_cons_of_mem _ (List.mem_cons_of_mem _ m1))) (by wtm_at "zmem") (by wtm_at "zmem") ?_
      have hs5 : Hs h4 (wor b ob wb y0 y1 F) := hs4.tail.tail.tail
      clear hs1 hs2 hs3 hs4
      wtm_at "zgo"
      refine rwaiting_w (OkR.lw2 w0) (fun p hp => by have := w0.lnW p hp; omega) .here ((to0 hs5).perm (pmB _ _ _ _ _ _ _)) ?_
      intro r0 X0 xs0 h6 _ lx0 hs6
      have ex0 : xs0 = [] := List.eq_nil_of_length_eq_zero (by rw [lx0, ew0]; rfl)
      rw [ex0] at hs6
      wtm_at "zgo"
      rename_i l7 h7 hs7
      refine w_eqY0 hs7 (by wtm_at "zmem") (by wtm_at "zmem") ?_
      have hs8 : Hs h7 (wor b ob wb y0 y1 F) := by
        refine from0 (G := []) rfl rfl rfl (Hs.perm (L := rmC y0.o y0.rd y0.wt (y0.O.map (·.1)) y0.W (wC y0.W ++ ((y0.d, .dct false (oD y0.O)) :: (y0.v, .dct false (wD y0.V)) :: B0 b ob wb y0 y1 F))) (hs7.tail.tail.sub (List.sublist_append_right _ _)) (pmB _ _ _ _ _ _ _).symm)
      clear hs5 hs6 hs7
      have my : (y1.o, rmO y1.rd y1.wt) ∈ wor b ob wb y0 y1 F := by simp
      wtm_at "zgo"
      refine rwaiting_w (OkR.lw2 w1) (fun p hp => by have := w1.lnW p hp; omega) .here ((to1 hs8).perm (pmB _ _ _ _ _ _ _)) ?_
      intro r1 X1 xs1 h9 _ lx1 hs9
      have ex1 : xs1 = [] := List.eq_nil_of_length_eq_zero (by rw [lx1, ew1]; rfl)
      rw [ex1] at hs9
      wtm_at "zgo"
      rename_i l10 h10 hs10
      refine w_eqY0 hs10 (by wtm_at "zmem") (by wtm_at "zmem") ?_
      wtm_at "zgo"
  obtain ⟨v, h, e, rfl⟩ := wp_ok hh
  exact ⟨h, e⟩
end

set_option maxRecDepth 100000
set_option maxHeartbeats 4000000
section
open PySem PySem.Spec PyProof.Rows L2 Fw
/-! ### the text -/
abbrev N_is_whole : List Str := ["thing"]
theorem sc_is_whole : FnScope N_is_whole ["thing"] (defScope s_is_whole) := ⟨rfl, rfl, rfl, by decide +kernel, rfl, by decide +kernel, by decide +kernel⟩
abbrev N_Rooms___init__ : List Str := ["self"]
theorem sc_Rooms___init__ : FnScope N_Rooms___init__ ["self"] (defScope s_Rooms___init__) := ⟨rfl, rfl, rfl, by decide +kernel, rfl, by decide +kernel, by decide +kernel⟩
abbrev N_Rooms_reading : List Str := ["self"]
theorem sc_Rooms_reading : FnScope N_Rooms_reading ["self"] (defScope s_Rooms_reading) := ⟨rfl, rfl, rfl, by decide +kernel, rfl, by decide +kernel, by decide +kernel⟩
abbrev N_Rooms_waiting : List Str := ["self", "thing"]
theorem sc_Rooms_waiting : FnScope N_Rooms_waiting ["self"] (defScope s_Rooms_waiting) := ⟨rfl, rfl, rfl, by decide +kernel, rfl, by decide +kernel, by decide +kernel⟩
abbrev N_Rooms_ready : List Str := ["self", "thing"]
theorem sc_Rooms_ready : FnScope N_Rooms_ready ["self"] (defScope s_Rooms_ready) := ⟨rfl, rfl, rfl, by decide +kernel, rfl, by decide +kernel, by decide +kernel⟩
abbrev N__law_numbers : List Str := ["_law_cell", "_law_salt", "_law_sizes", "_law_number", "_law_left", "_law_found", "_law_k", "_law_one"]
theorem sc__law_numbers : FnScope N__law_numbers ["_law_cell", "_law_salt", "_law_sizes"] (defScope s__law_numbers) := ⟨rfl, rfl, rfl, by decide +kernel, rfl, by decide +kernel, by decide +kernel⟩
abbrev N_is_hand : List Str := ["thing"]
theorem sc_is_hand : FnScope N_is_hand ["thing"] (defScope s_is_hand) := ⟨rfl, rfl, rfl, by decide +kernel, rfl, by decide +kernel, by decide +kernel⟩
abbrev N_is_thing : List Str := ["thing"]
theorem sc_is_thing : FnScope N_is_thing ["thing"] (defScope s_is_thing) := ⟨rfl, rfl, rfl, by decide +kernel, rfl, by decide +kernel, by decide +kernel⟩
abbrev N_Rooms_enter : List Str := ["self", "hand"]
theorem sc_Rooms_enter : FnScope N_Rooms_enter ["self", "hand"] (defScope s_Rooms_enter) := ⟨rfl, rfl, rfl, by decide +kernel, rfl, by decide +kernel, by decide +kernel⟩
abbrev N_Rooms_leave : List Str := ["self", "hand", "thing", "hands", "one"]
theorem sc_Rooms_leave : FnScope N_Rooms_leave ["self", "hand"] (defScope s_Rooms_leave) := ⟨rfl, rfl, rfl, by decide +kernel, rfl, by decide +kernel, by decide +kernel⟩
abbrev N_Rooms_retire : List Str := ["self", "thing"]
theorem sc_Rooms_retire : FnScope N_Rooms_retire ["self", "thing"] (defScope s_Rooms_retire) := ⟨rfl, rfl, rfl, by decide +kernel, rfl, by decide +kernel, by decide +kernel⟩
abbrev N_Rooms_give : List Str := ["self", "thing"]
theorem sc_Rooms_give : FnScope N_Rooms_give ["self", "thing"] (defScope s_Rooms_give) := ⟨rfl, rfl, rfl, by decide +kernel, rfl, by decide +kernel, by decide +kernel⟩
abbrev N_Rooms_copy : List Str := ["self", "other", "thing", "hands"]
theorem sc_Rooms_copy : FnScope N_Rooms_copy ["self"] (defScope s_Rooms_copy) := ⟨rfl, rfl, rfl, by decide +kernel, rfl, by decide +kernel, by decide +kernel⟩
abbrev N__law_given : List Str := ["_law_rooms", "_law_thing", "_law_told", "_law_late"]
theorem sc__law_given : FnScope N__law_given ["_law_rooms", "_law_thing"] (defScope s__law_given) := ⟨rfl, rfl, rfl, by decide +kernel, rfl, by decide +kernel, by decide +kernel⟩
abbrev N__law_all_tried : List Str := ["_law_rooms", "_law_opened", "_law_waits", "_law_turned", "_law_things", "_law_thing", "_law_over", "_law_stretch"]
theorem sc__law_all_tried : FnScope N__law_all_tried ["_law_rooms", "_law_opened", "_law_waits", "_law_turned"] (defScope s__law_all_tried) := ⟨rfl, rfl, rfl, by decide +kernel, rfl, by decide +kernel, by decide +kernel⟩
abbrev N__law_deed : List Str := ["_law_rooms", "_law_opened", "_law_waits", "_law_word", "_law_digits", "_law_number", "_law_hand", "_law_thing"]
theorem sc__law_deed : FnScope N__law_deed ["_law_rooms", "_law_opened", "_law_waits", "_law_word", "_law_digits", "_law_number"] (defScope s__law_deed) := ⟨rfl, rfl, rfl, by decide +kernel, rfl, by decide +kernel, by decide +kernel⟩
abbrev N__law_same : List Str := ["_law_found", "_law_due", "_law_one", "_law_other"]
theorem sc__law_same : FnScope N__law_same ["_law_found", "_law_due"] (defScope s__law_same) := ⟨rfl, rfl, rfl, by decide +kernel, rfl, by decide +kernel, by decide +kernel⟩
abbrev N__law_stands : List Str := ["_law_rooms", "_law_opened", "_law_waits", "_law_due", "_law_thing", "_law_hand", "_law_hands"]
theorem sc__law_stands : FnScope N__law_stands ["_law_rooms", "_law_opened", "_law_waits"] (defScope s__law_stands) := ⟨rfl, rfl, rfl, by decide +kernel, rfl, by decide +kernel, by decide +kernel⟩
abbrev N_law : List Str := ["_law_script", "_law_both", "_law_opened", "_law_waits", "_law_at", "_law_cell", "_law_digits", "_law_k", "_law_word", "_law_hand"]
theorem sc_law : FnScope N_law ["_law_script"] (defScope s_law) := ⟨rfl, rfl, rfl, by decide +kernel, rfl, by decide +kernel, by decide +kernel⟩
structure Tx (K : PySem.W.Frag) (mg : Str → Option Value) (base : Heap) : Prop where
  sm : ∃ mm, base.Ns sysModules mm
  x : XT K mg kn tab
  c_NotReady : ∃ f, mg "NotReady" = some (.ref f)
  a_Rooms_readers : NoA K mg "Rooms" "readers"
  a_Rooms_waits : NoA K mg "Rooms" "waits"
  n_ValueError : mg "ValueError" = none
  n_all : mg "all" = none
  n_bool : mg "bool" = none
  n_dict : mg "dict" = none
  n_enumerate : mg "enumerate" = none
  n_int : mg "int" = none
  n_isinstance : mg "isinstance" = none
  n_len : mg "len" = none
  n_list : mg "list" = none
  n_max : mg "max" = none
  n_range : mg "range" = none
  n_sorted : mg "sorted" = none
  n_tuple : mg "tuple" = none
  n_zip : mg "zip" = none
  i_MOST_HAND : ∃ t, mg "MOST_HAND" = some (.int 3 t)
theorem hkt : ∀ p ∈ tab, p.1 ∈ kn := by decide
section
variable {w : World} {K : PySem.W.Frag} {mg : Str → Option Value} {base : Heap}
set_option maxHeartbeats 2000000 in
theorem ok_is_whole {f : Addr} {fd : FuncData} (T : Tx K mg base) (F : FunD K "is_whole" "is_whole" (defArgs s_is_whole) (defBody s_is_whole) (defScope s_is_whole) [] [] f fd) (hm : mg "is_whole" = some (.ref f))  : Cal PySem.Challenge.pw_ownerstally_k28_whole_given_behind_stret w K mg base 1 "is_whole" 1 f_is_whole :=
  cal_mk (fn_rule F sc_is_whole fun cdv A outer s H E hr tk po =>
    (sss_one (ss_ret (se_and (se_blt call_isi cal_isi (by decide +kernel) T.n_isinstance rfl (sa_cons (se_var (pv 0)) (sa_cons (se_bty .int (by decide +kernel) T.n_int rfl) sa_nil))) (se_one (se_not (se_blt call_isi cal_isi (by decide +kernel) T.n_isinstance rfl (sa_cons (se_var (pv 0)) (sa_cons (se_bty .bool (by decide +kernel) T.n_bool rfl) sa_nil))))))))) (F.bindsN fun _ _ _ _ _ _ us hl => match us, hl with | [_], _ => rfl) F.kp hm
set_option maxHeartbeats 2000000 in
theorem ok_Rooms___init__ {C f : Addr} {fd : FuncData} (T : Tx K mg base) (F : FunD K "__init__" "Rooms.__init__" (defArgs s_Rooms___init__) (defBody s_Rooms___init__) (defScope s_Rooms___init__) [] [] f fd) (hC : mg "Rooms" = some (.ref C)) (mk : Mk K C f)  : CalN PySem.Challenge.pw_ownerstally_k28_whole_given_behind_stret w K mg base 1 "Rooms" 1 f_Rooms___init__ :=
  ⟨C, f, fd, _, hC, mk, (fn_rule F sc_Rooms___init__ fun cdv A outer s H E hr tk po =>
    (sss_cons (ss_fld T.a_Rooms_readers (se_var (pv 0)) se_dnewK)
  (sss_one (ss_fld T.a_Rooms_waits (se_var (pv 0)) se_dnewK)))), (F.bindsN fun _ _ _ _ _ _ us hl => match us, hl with | [_], _ => rfl)⟩
set_option maxHeartbeats 2000000 in
theorem ok_Rooms_reading {C f : Addr} {fd : FuncData} (T : Tx K mg base) (F : FunD K "reading" "Rooms.reading" (defArgs s_Rooms_reading) (defBody s_Rooms_reading) (defScope s_Rooms_reading) [] [] f fd) (hC : mg "Rooms" = some (.ref C)) (cl : Cls K C) (me : Meth K C "reading" f)  : CalM PySem.Challenge.pw_ownerstally_k28_whole_given_behind_stret w K mg base 1 "Rooms" "reading" 1 f_Rooms_reading :=
  ⟨C, f, fd, _, hC, cl, me, (fn_rule F sc_Rooms_reading fun cdv A outer s H E hr tk po =>
    (sss_one (ss_ret (se_srkN rfl (u65 hr) rfl T.n_sorted (se_fld T.a_Rooms_readers (se_var (pv 0))))))), (F.bindsN fun _ _ _ _ _ _ us hl => match us, hl with | [_], _ => rfl)⟩
set_option maxHeartbeats 2000000 in
theorem ok_Rooms_waiting {C f : Addr} {fd : FuncData} (T : Tx K mg base) (F : FunD K "waiting" "Rooms.waiting" (defArgs s_Rooms_waiting) (defBody s_Rooms_waiting) (defScope s_Rooms_waiting) [] [] f fd) (hC : mg "Rooms" = some (.ref C)) (cl : Cls K C) (me : Meth K C "waiting" f)  : CalM PySem.Challenge.pw_ownerstally_k28_whole_given_behind_stret w K mg base 1 "Rooms" "waiting" 1 f_Rooms_waiting :=
  ⟨C, f, fd, _, hC, cl, me, (fn_rule F sc_Rooms_waiting fun cdv A outer s H E hr tk po =>
    (sss_one (ss_ret (se_comp rfl sc_Rooms_waiting.nd (si_any (se_srkN rfl (u65 hr) rfl T.n_sorted (se_fld T.a_Rooms_waits (se_var (pv 0))))) (blkOk_by (own := [("thing", 1)]) (N := N_Rooms_waiting) (sc := defScope s_Rooms_waiting) (by decide +kernel)) (gx_name (by decide)) (fun _ _ _ _ _ => (pg_name (i := 1) sc_Rooms_waiting.nd rfl (Or.inl rfl))) (fun _ _ _ _ _ => sts_nil) (fun _ _ _ _ _ => (se_tup (sa_cons (se_var (pv 1)) (sa_cons (se_ty call_list_of cal_list (by decide +kernel) T.n_list rfl (sa_cons (se_getA (u1 hr) (se_fld T.a_Rooms_waits (se_var (pv 0))) (se_var (pv 1)) (fun _ _ => rfl)) sa_nil)) sa_nil)) (alen_cons (alen_cons alen_nil)))))))), (F.bindsN fun _ _ _ _ _ _ us hl => match us, hl with | [_], _ => rfl)⟩
set_option maxHeartbeats 2000000 in
theorem ok_Rooms_ready {C f : Addr} {fd : FuncData} (T : Tx K mg base) (F : FunD K "ready" "Rooms.ready" (defArgs s_Rooms_ready) (defBody s_Rooms_ready) (defScope s_Rooms_ready) [] [] f fd) (hC : mg "Rooms" = some (.ref C)) (cl : Cls K C) (me : Meth K C "ready" f)  : CalM PySem.Challenge.pw_ownerstally_k28_whole_given_behind_stret w K mg base 1 "Rooms" "ready" 1 f_Rooms_ready :=
  ⟨C, f, fd, _, hC, cl, me, (fn_rule F sc_Rooms_ready fun cdv A outer s H E hr tk po =>
    (sss_one (ss_ret (se_comp rfl sc_Rooms_ready.nd (si_any (se_srkN rfl (u65 hr) rfl T.n_sorted (se_fld T.a_Rooms_waits (se_var (pv 0))))) (blkOk_by (own := [("thing", 1)]) (N := N_Rooms_ready) (sc := defScope s_Rooms_ready) (by decide +kernel)) (gx_name (by decide)) (fun _ _ _ _ _ => (pg_name (i := 1) sc_Rooms_ready.nd rfl (Or.inl rfl))) (fun _ _ _ _ _ => (sts_one (st_cmp (op_eqL hr.units) bin_eqL (nomark _) (se_getA (u1 hr) (se_fld T.a_Rooms_waits (se_var (pv 0))) (se_var (pv 1)) (fun _ _ => rfl)) (se_lst sa_nil alen_nil)))) (fun _ _ _ _ _ => (se_var (pv 1))))))), (F.bindsN fun _ _ _ _ _ _ us hl => match us, hl with | [_], _ => rfl)⟩
set_option maxHeartbeats 2000000 in
theorem ok__law_numbers {f : Addr} {fd : FuncData} (T : Tx K mg base) (F : FunD K "_law_numbers" "_law_numbers" (defArgs s__law_numbers) (defBody s__law_numbers) (defScope s__law_numbers) [] [] f fd) (hm : mg "_law_numbers" = some (.ref f))  : Cal PySem.Challenge.pw_ownerstally_k28_whole_given_behind_stret w K mg base 1 "_law_numbers" 3 f__law_numbers :=
  cal_mk (fn_rule F sc__law_numbers fun cdv A outer s H E hr tk po =>
    (sss_cons (ss_set (i := 3) sc__law_numbers.nd rfl (Or.inl rfl) (se_blt (call_max2 rfl) cal_max (by decide +kernel) T.n_max rfl (sa_cons (se_var (pv 0)) (sa_cons (se_op op_sub bin_subL (se_un un_neg uns_negL se_int) (se_var (pv 0))) sa_nil))))
  (sss_cons (ss_set (i := 4) sc__law_numbers.nd rfl (Or.inl rfl) (se_var (pv 3)))
  (sss_cons (ss_set (i := 5) sc__law_numbers.nd rfl (Or.inl rfl) (se_lst sa_nil alen_nil))
  (sss_cons (ss_for po rfl (si_range1 rfl T.n_range (sa_cons (se_blt call_len cal_len PySem.boot_len T.n_len rfl (sa_cons (se_var (pv 2)) sa_nil)) sa_nil)) (sg_name (pg_name (i := 6) sc__law_numbers.nd rfl (Or.inl rfl)))
  (sss_one (ss_if (st_w (sw_and (st_cmp op_ge bin_geL (nomark _) (se_var (pv 3)) (se_op op_pow bin_powL se_int se_int)) (sw_and1 (st_cmp op_gt bin_gtL (nomark _) (se_var (pv 4)) se_int))))
  (sss_cons (ss_expr (se_bm chk_lst met_app PySem.F.plainAttrs_list PySem.F.slot_list_append PySem.F.type_list_append mt_append (se_var (pv 5)) (sa_cons (se_op op_mod bin_modL (se_var (pv 4)) (se_getA (u1 hr) (se_var (pv 2)) (se_var (pv 6)) (fun _ _ => rfl))) sa_nil)))
  (sss_one (ss_set (i := 4) sc__law_numbers.nd rfl (Or.inl rfl) (se_op op_fdivW bin_fdivL (se_var (pv 4)) (se_getA (u1 hr) (se_var (pv 2)) (se_var (pv 6)) (fun _ _ => rfl))))))
  (sss_cons (ss_set (i := 7) sc__law_numbers.nd rfl (Or.inl rfl) (se_op op_mod bin_modL (se_op op_addL bin_addL (se_op op_addL bin_addL (se_op op_addL bin_addL (se_var (pv 3)) (se_op op_mulL bin_mulL se_int (se_var (pv 1)))) (se_op op_mulL bin_mulL (se_op op_mulL bin_mulL se_int (se_var (pv 6))) (se_var (pv 6)))) (se_var (pv 6))) se_int))
  (sss_cons (ss_set (i := 7) sc__law_numbers.nd rfl (Or.inl rfl) (se_op op_mod bin_modL (se_op op_mulL bin_mulL (se_var (pv 7)) se_int) se_int))
  (sss_cons (ss_set (i := 7) sc__law_numbers.nd rfl (Or.inl rfl) (se_op op_mod bin_modL (se_op op_mulL bin_mulL (se_op op_mod bin_modL (se_op op_mulL bin_mulL (se_var (pv 7)) (se_var (pv 7))) se_int) se_int) se_int))
  (sss_one (ss_expr (se_bm chk_lst met_app PySem.F.plainAttrs_list PySem.F.slot_list_append PySem.F.type_list_append mt_append (se_var (pv 5)) (sa_cons (se_op op_mod bin_modL (se_op op_fdivW bin_fdivL (se_var (pv 7)) se_int) (se_getA (u1 hr) (se_var (pv 2)) (se_var (pv 6)) (fun _ _ => rfl))) sa_nil))))))))))
  (sss_one (ss_ret (se_var (pv 5))))))))) (F.bindsN fun _ _ _ _ _ _ us hl => match us, hl with | [_, _, _], _ => rfl) F.kp hm
set_option maxHeartbeats 2000000 in
theorem ok_is_hand {f : Addr} {fd : FuncData} (T : Tx K mg base) (F : FunD K "is_hand" "is_hand" (defArgs s_is_hand) (defBody s_is_hand) (defScope s_is_hand) [] [] f fd) (hm : mg "is_hand" = some (.ref f)) (C_is_whole : Cal PySem.Challenge.pw_ownerstally_k28_whole_given_behind_stret w K mg base 1 "is_whole" 1 f_is_whole) : Cal PySem.Challenge.pw_ownerstally_k28_whole_given_behind_stret w K mg base 2 "is_hand" 1 f_is_hand :=
  cal_mk (fn_rule F sc_is_hand fun cdv A outer s H E hr tk po =>
    (sss_one (ss_ret (se_and (se_callC C_is_whole rfl (hr.mono (by decide)) tk (sa_cons (se_var (pv 0)) sa_nil) (alen_cons alen_nil)) (se_one (se_chain op_le bin_leL quiet_intI op_le bin_leL se_int (se_var (pv 0)) (se_gintE T.i_MOST_HAND rfl))))))) (F.bindsN fun _ _ _ _ _ _ us hl => match us, hl with | [_], _ => rfl) F.kp hm
set_option maxHeartbeats 2000000 in
theorem ok_is_thing {f : Addr} {fd : FuncData} (T : Tx K mg base) (F : FunD K "is_thing" "is_thing" (defArgs s_is_thing) (defBody s_is_thing) (defScope s_is_thing) [] [] f fd) (hm : mg "is_thing" = some (.ref f)) (C_is_whole : Cal PySem.Challenge.pw_ownerstally_k28_whole_given_behind_stret w K mg base 1 "is_whole" 1 f_is_whole) : Cal PySem.Challenge.pw_ownerstally_k28_whole_given_behind_stret w K mg base 2 "is_thing" 1 f_is_thing :=
  cal_mk (fn_rule F sc_is_thing fun cdv A outer s H E hr tk po =>
    (sss_one (ss_ret (se_and (se_callC C_is_whole rfl (hr.mono (by decide)) tk (sa_cons (se_var (pv 0)) sa_nil) (alen_cons alen_nil)) (se_one (se_cmp op_ge bin_geL (nomark _) (se_var (pv 0)) se_int)))))) (F.bindsN fun _ _ _ _ _ _ us hl => match us, hl with | [_], _ => rfl) F.kp hm
set_option maxHeartbeats 2000000 in
theorem ok_Rooms_enter {C f : Addr} {fd : FuncData} (T : Tx K mg base) (F : FunD K "enter" "Rooms.enter" (defArgs s_Rooms_enter) (defBody s_Rooms_enter) (defScope s_Rooms_enter) [] [] f fd) (hC : mg "Rooms" = some (.ref C)) (cl : Cls K C) (me : Meth K C "enter" f) (C_is_hand : Cal PySem.Challenge.pw_ownerstally_k28_whole_given_behind_stret w K mg base 2 "is_hand" 1 f_is_hand) : CalM PySem.Challenge.pw_ownerstally_k28_whole_given_behind_stret w K mg base 3 "Rooms" "enter" 2 f_Rooms_enter :=
  ⟨C, f, fd, _, hC, cl, me, (fn_rule F sc_Rooms_enter fun cdv A outer s H E hr tk po =>
    (sss_cons (ss_if (st_not (st_val (se_callC C_is_hand rfl (hr.mono (by decide)) tk (sa_cons (se_var (pv 1)) sa_nil) (alen_cons alen_nil))))
  (sss_one (ss_raise T.x (by decide) rfl tk rfl))
  sss_nil)
  (sss_cons (ss_if (st_inA (u65 hr) (se_var (pv 1)) (se_fld T.a_Rooms_readers (se_var (pv 0))))
  (sss_one (ss_raise T.x (by decide) rfl tk rfl))
  sss_nil)
  (sss_one (ss_asg se_bl (sg_sub (W := W0) (u1 hr) (se_fld T.a_Rooms_readers (se_var (pv 0))) (se_var (pv 1)))))))), (F.bindsN fun _ _ _ _ _ _ us hl => match us, hl with | [_, _], _ => rfl)⟩
set_option maxHeartbeats 2000000 in
theorem ok_Rooms_leave {C f : Addr} {fd : FuncData} (T : Tx K mg base) (F : FunD K "leave" "Rooms.leave" (defArgs s_Rooms_leave) (defBody s_Rooms_leave) (defScope s_Rooms_leave) [] [] f fd) (hC : mg "Rooms" = some (.ref C)) (cl : Cls K C) (me : Meth K C "leave" f) (C_is_hand : Cal PySem.Challenge.pw_ownerstally_k28_whole_given_behind_stret w K mg base 2 "is_hand" 1 f_is_hand) : CalM PySem.Challenge.pw_ownerstally_k28_whole_given_behind_stret w K mg base 3 "Rooms" "leave" 2 f_Rooms_leave :=
  ⟨C, f, fd, _, hC, cl, me, (fn_rule F sc_Rooms_leave fun cdv A outer s H E hr tk po =>
    (sss_cons (ss_if (st_not (st_val (se_callC C_is_hand rfl (hr.mono (by decide)) tk (sa_cons (se_var (pv 1)) sa_nil) (alen_cons alen_nil))))
  (sss_one (ss_raise T.x (by decide) rfl tk rfl))
  sss_nil)
  (sss_cons (ss_if (st_notInA (u65 hr) (se_var (pv 1)) (se_fld T.a_Rooms_readers (se_var (pv 0))))
  (sss_one (ss_raise T.x (by decide) rfl tk rfl))
  sss_nil)
  (sss_cons (ss_expr (se_sel (se_bm chk_lst met_pop PySem.F.plainAttrs_list PySem.F.slot_list_pop PySem.F.type_list_pop (MtR.or mt_pop mt_popAt) (se_fld T.a_Rooms_readers (se_var (pv 0))) (sa_cons (se_var (pv 1)) sa_nil)) (se_sel (se_bm chk_dt met_popT PySem.F.plainAttrs_dict PySem.F.slot_dict_pop PySem.F.type_dict_pop (mt_popA (u1 hr)) (se_fld T.a_Rooms_readers (se_var (pv 0))) (sa_cons (se_var (pv 1)) sa_nil)) (se_dpop (se_fld T.a_Rooms_readers (se_var (pv 0))) (se_var (pv 1))))))
  (sss_one (ss_for po rfl (si_any (se_lit rfl rfl T.n_list (se_fld T.a_Rooms_waits (se_var (pv 0))))) (sg_tup rfl (sgs_cons (sg_name (pg_name (i := 2) sc_Rooms_leave.nd rfl (Or.inl rfl))) (sgs_cons (sg_name (pg_name (i := 3) sc_Rooms_leave.nd rfl (Or.inl rfl))) sgs_nil)))
  (sss_one (ss_asg (se_comp rfl sc_Rooms_leave.nd (si_any (se_var (pv 3))) (blkOk_by (own := [("one", 4)]) (N := N_Rooms_leave) (sc := defScope s_Rooms_leave) (by decide +kernel)) (gx_name (by decide)) (fun _ _ _ _ _ => (pg_name (i := 4) sc_Rooms_leave.nd rfl (Or.inl rfl))) (fun _ _ _ _ _ => (sts_one (st_cmp (op_neL hr.units) bin_neL (nomark _) (se_var (pv 4)) (se_var (pv 1))))) (fun _ _ _ _ _ => (se_var (pv 4)))) (sg_sub (W := W0) (u1 hr) (se_fld T.a_Rooms_waits (se_var (pv 0))) (se_var (pv 2))))))))))), (F.bindsN fun _ _ _ _ _ _ us hl => match us, hl with | [_, _], _ => rfl)⟩
set_option maxHeartbeats 2000000 in
theorem ok_Rooms_retire {C f : Addr} {fd : FuncData} (T : Tx K mg base) (F : FunD K "retire" "Rooms.retire" (defArgs s_Rooms_retire) (defBody s_Rooms_retire) (defScope s_Rooms_retire) [] [] f fd) (hC : mg "Rooms" = some (.ref C)) (cl : Cls K C) (me : Meth K C "retire" f) (M_Rooms_reading : CalM PySem.Challenge.pw_ownerstally_k28_whole_given_behind_stret w K mg base 1 "Rooms" "reading" 1 f_Rooms_reading) (C_is_thing : Cal PySem.Challenge.pw_ownerstally_k28_whole_given_behind_stret w K mg base 2 "is_thing" 1 f_is_thing) : CalM PySem.Challenge.pw_ownerstally_k28_whole_given_behind_stret w K mg base 3 "Rooms" "retire" 2 f_Rooms_retire :=
  ⟨C, f, fd, _, hC, cl, me, (fn_rule F sc_Rooms_retire fun cdv A outer s H E hr tk po =>
    (sss_cons (ss_if (st_not (st_val (se_callC C_is_thing rfl (hr.mono (by decide)) tk (sa_cons (se_var (pv 1)) sa_nil) (alen_cons alen_nil))))
  (sss_one (ss_raise T.x (by decide) rfl tk rfl))
  sss_nil)
  (sss_cons (ss_if (st_inA (u65 hr) (se_var (pv 1)) (se_fld T.a_Rooms_waits (se_var (pv 0))))
  (sss_one (ss_raise T.x (by decide) rfl tk rfl))
  sss_nil)
  (sss_one (ss_asg (se_mth0 M_Rooms_reading (hr.mono (by decide)) tk (se_var (pv 0))) (sg_sub (W := W0) (u1 hr) (se_fld T.a_Rooms_waits (se_var (pv 0))) (se_var (pv 1)))))))), (F.bindsN fun _ _ _ _ _ _ us hl => match us, hl with | [_, _], _ => rfl)⟩
set_option maxHeartbeats 2000000 in
theorem ok_Rooms_give {C f : Addr} {fd : FuncData} (T : Tx K mg base) (F : FunD K "give" "Rooms.give" (defArgs s_Rooms_give) (defBody s_Rooms_give) (defScope s_Rooms_give) [] [] f fd) (hC : mg "Rooms" = some (.ref C)) (cl : Cls K C) (me : Meth K C "give" f) (C_is_thing : Cal PySem.Challenge.pw_ownerstally_k28_whole_given_behind_stret w K mg base 2 "is_thing" 1 f_is_thing) : CalM PySem.Challenge.pw_ownerstally_k28_whole_given_behind_stret w K mg base 3 "Rooms" "give" 2 f_Rooms_give :=
  ⟨C, f, fd, _, hC, cl, me, (fn_rule F sc_Rooms_give fun cdv A outer s H E hr tk po =>
    (sss_cons (ss_if (st_not (st_val (se_callC C_is_thing rfl (hr.mono (by decide)) tk (sa_cons (se_var (pv 1)) sa_nil) (alen_cons alen_nil))))
  (sss_one (ss_raise T.x (by decide) rfl tk rfl))
  sss_nil)
  (sss_cons (ss_if (st_w (sw_or (st_notInA (u65 hr) (se_var (pv 1)) (se_fld T.a_Rooms_waits (se_var (pv 0)))) (sw_or1 (st_cmp (op_neL hr.units) bin_neL (nomark _) (se_getA (u1 hr) (se_fld T.a_Rooms_waits (se_var (pv 0))) (se_var (pv 1)) (fun _ _ => rfl)) (se_lst sa_nil alen_nil)))))
  (sss_one (ss_raise T.x (by decide) rfl tk rfl))
  sss_nil)
  (sss_one (ss_expr (se_sel (se_bm chk_lst met_pop PySem.F.plainAttrs_list PySem.F.slot_list_pop PySem.F.type_list_pop (MtR.or mt_pop mt_popAt) (se_fld T.a_Rooms_waits (se_var (pv 0))) (sa_cons (se_var (pv 1)) sa_nil)) (se_sel (se_bm chk_dt met_popT PySem.F.plainAttrs_dict PySem.F.slot_dict_pop PySem.F.type_dict_pop (mt_popA (u1 hr)) (se_fld T.a_Rooms_waits (se_var (pv 0))) (sa_cons (se_var (pv 1)) sa_nil)) (se_dpop (se_fld T.a_Rooms_waits (se_var (pv 0))) (se_var (pv 1)))))))))), (F.bindsN fun _ _ _ _ _ _ us hl => match us, hl with | [_, _], _ => rfl)⟩
set_option maxHeartbeats 2000000 in
theorem ok_Rooms_copy {C f : Addr} {fd : FuncData} (T : Tx K mg base) (F : FunD K "copy" "Rooms.copy" (defArgs s_Rooms_copy) (defBody s_Rooms_copy) (defScope s_Rooms_copy) [] [] f fd) (hC : mg "Rooms" = some (.ref C)) (cl : Cls K C) (me : Meth K C "copy" f) (N_Rooms : CalN PySem.Challenge.pw_ownerstally_k28_whole_given_behind_stret w K mg base 1 "Rooms" 1 f_Rooms___init__) : CalM PySem.Challenge.pw_ownerstally_k28_whole_given_behind_stret w K mg base 3 "Rooms" "copy" 1 f_Rooms_copy :=
  ⟨C, f, fd, _, hC, cl, me, (fn_rule F sc_Rooms_copy fun cdv A outer s H E hr tk po =>
    (sss_cons (ss_set (i := 1) sc_Rooms_copy.nd rfl (Or.inl rfl) (se_new0 N_Rooms rfl (hr.mono (by decide)) tk))
  (sss_cons (ss_fld T.a_Rooms_readers (se_var (pv 1)) (se_ty call_dictD cal_dct (by decide +kernel) T.n_dict rfl (sa_cons (se_fld T.a_Rooms_readers (se_var (pv 0))) sa_nil)))
  (sss_cons (ss_lock (ss_for po rfl (si_fI (se_fld T.a_Rooms_waits (se_var (pv 0)))) (sg_tup rfl (sgs_cons (sg_name (pg_name (i := 2) sc_Rooms_copy.nd rfl (Or.inl rfl))) (sgs_cons (sg_name (pg_name (i := 3) sc_Rooms_copy.nd rfl (Or.inl rfl))) sgs_nil)))
  (sss_one (ss_asg (se_ty call_list_of cal_list (by decide +kernel) T.n_list rfl (sa_cons (se_var (pv 3)) sa_nil)) (sg_sub (W := W0) (u1 hr) (se_fld T.a_Rooms_waits (se_var (pv 1))) (se_var (pv 2)))))))
  (sss_one (ss_ret (se_var (pv 1)))))))), (F.bindsN fun _ _ _ _ _ _ us hl => match us, hl with | [_], _ => rfl)⟩
set_option maxHeartbeats 2000000 in
theorem ok__law_given {f : Addr} {fd : FuncData} (T : Tx K mg base) (F : FunD K "_law_given" "_law_given" (defArgs s__law_given) (defBody s__law_given) (defScope s__law_given) [] [] f fd) (hm : mg "_law_given" = some (.ref f)) (M_Rooms_give : CalM PySem.Challenge.pw_ownerstally_k28_whole_given_behind_stret w K mg base 3 "Rooms" "give" 2 f_Rooms_give) : Cal PySem.Challenge.pw_ownerstally_k28_whole_given_behind_stret w K mg base 4 "_law_given" 2 f__law_given :=
  cal_mk (fn_rule F sc__law_given fun cdv A outer s H E hr tk po =>
    (sss_cons (ss_set (i := 2) sc__law_given.nd rfl (Or.inl rfl) se_str)
  (sss_cons (ss_set (i := 3) sc__law_given.nd rfl (Or.inl rfl) se_bl)
  (sss_cons (ss_tryO T.x tk T.c_NotReady rfl (fun W pn xe tk po =>
  (sss_one (ss_set (i := 2) sc__law_given.nd rfl (Or.inl rfl) (se_mth M_Rooms_give (hr.mono (by decide)) tk (se_var (pv 0)) (sa_cons (se_var (pv 1)) sa_nil) (alen_cons alen_nil))))) (fun a oe pn => (sss_one (ss_set (i := 3) sc__law_given.nd rfl (Or.inl rfl) se_bl))))
  (sss_cons (ss_if (st_val (se_var (pv 3)))
  (sss_one (ss_ret se_str))
  sss_nil)
  (sss_one (ss_ret (se_getA (u1 hr) (se_lst (sa_cons se_str (sa_cons se_str sa_nil)) (alen_cons (alen_cons alen_nil))) (se_ty call_int1 cal_int (by decide +kernel) T.n_int rfl (sa_cons (se_cmp op_isN bin_isNL (nomark _) (se_var (pv 2)) se_non) sa_nil)) (fun _ _ => rfl))))))))) (F.bindsN fun _ _ _ _ _ _ us hl => match us, hl with | [_, _], _ => rfl) F.kp hm
set_option maxHeartbeats 2000000 in
theorem ok__law_all_tried {f : Addr} {fd : FuncData} (T : Tx K mg base) (F : FunD K "_law_all_tried" "_law_all_tried" (defArgs s__law_all_tried) (defBody s__law_all_tried) (defScope s__law_all_tried) [] [] f fd) (hm : mg "_law_all_tried" = some (.ref f)) (M_Rooms_ready : CalM PySem.Challenge.pw_ownerstally_k28_whole_given_behind_stret w K mg base 1 "Rooms" "ready" 1 f_Rooms_ready) (C__law_given : Cal PySem.Challenge.pw_ownerstally_k28_whole_given_behind_stret w K mg base 4 "_law_given" 2 f__law_given) : Cal PySem.Challenge.pw_ownerstally_k28_whole_given_behind_stret w K mg base 5 "_law_all_tried" 4 f__law_all_tried :=
  cal_mk (fn_rule F sc__law_all_tried fun cdv A outer s H E hr tk po =>
    (sss_cons (ss_set (i := 4) sc__law_all_tried.nd rfl (Or.inl rfl) (se_srkN rfl (u65 hr) rfl T.n_sorted (se_var (pv 2))))
  (sss_cons (ss_for po rfl (si_any (se_getA (u1 hr) (se_lst (sa_cons (se_var (pv 4)) (sa_cons (se_rvs (se_var (pv 4))) sa_nil)) (alen_cons (alen_cons alen_nil))) (se_var (pv 3)) (fun _ _ => rfl))) (sg_name (pg_name (i := 5) sc__law_all_tried.nd rfl (Or.inl rfl)))
  (sss_cons (ss_set (i := 6) sc__law_all_tried.nd rfl (Or.inl rfl) (se_cmp (op_eqL hr.units) bin_eqL (nomark _) (se_comp rfl sc__law_all_tried.nd (si_any (se_getA (u1 hr) (se_var (pv 2)) (se_var (pv 5)) (fun _ _ => rfl))) (blkOk_by (own := [("_law_stretch", 7)]) (N := N__law_all_tried) (sc := defScope s__law_all_tried) (by decide +kernel)) (gx_name (by decide)) (fun _ _ _ _ _ => (pg_name (i := 7) sc__law_all_tried.nd rfl (Or.inl rfl))) (fun _ _ _ _ _ => (sts_one (st_inv rfl (se_var (pv 7)) (se_var (pv 1))))) (fun _ _ _ _ _ => (se_var (pv 7)))) (se_lst sa_nil alen_nil)))
  (sss_cons (ss_if (st_cmp (op_neL hr.units) bin_neL (nomark _) (se_callC C__law_given rfl (hr.mono (by decide)) tk (sa_cons (se_var (pv 0)) (sa_cons (se_var (pv 5)) sa_nil)) (alen_cons (alen_cons alen_nil))) (se_getA (u1 hr) (se_lst (sa_cons se_str (sa_cons se_str sa_nil)) (alen_cons (alen_cons alen_nil))) (se_ty call_int1 cal_int (by decide +kernel) T.n_int rfl (sa_cons (se_var (pv 6)) sa_nil)) (fun _ _ => rfl)))
  (sss_one (ss_ret se_bl))
  sss_nil)
  (sss_one (ss_if (st_val (se_var (pv 6)))
  (sss_cons (ss_expr (se_sel (se_bm chk_lst met_pop PySem.F.plainAttrs_list PySem.F.slot_list_pop PySem.F.type_list_pop (MtR.or mt_pop mt_popAt) (se_var (pv 2)) (sa_cons (se_var (pv 5)) sa_nil)) (se_sel (se_bm chk_dt met_popT PySem.F.plainAttrs_dict PySem.F.slot_dict_pop PySem.F.type_dict_pop (mt_popA (u1 hr)) (se_var (pv 2)) (sa_cons (se_var (pv 5)) sa_nil)) (se_dpop (se_var (pv 2)) (se_var (pv 5))))))
  (sss_one (ss_if (st_cmp (op_neL hr.units) bin_neL (nomark _) (se_callC C__law_given rfl (hr.mono (by decide)) tk (sa_cons (se_var (pv 0)) (sa_cons (se_var (pv 5)) sa_nil)) (alen_cons (alen_cons alen_nil))) se_str)
  (sss_one (ss_ret se_bl))
  sss_nil)))
  sss_nil)))))
  (sss_one (ss_ret (se_cmp (op_eqL hr.units) bin_eqL (nomark _) (se_mth0 M_Rooms_ready (hr.mono (by decide)) tk (se_var (pv 0))) (se_lst sa_nil alen_nil))))))) (F.bindsN fun _ _ _ _ _ _ us hl => match us, hl with | [_, _, _, _], _ => rfl) F.kp hm
set_option maxHeartbeats 2000000 in
theorem ok__law_deed {f : Addr} {fd : FuncData} (T : Tx K mg base) (F : FunD K "_law_deed" "_law_deed" (defArgs s__law_deed) (defBody s__law_deed) (defScope s__law_deed) [] [] f fd) (hm : mg "_law_deed" = some (.ref f)) (M_Rooms_enter : CalM PySem.Challenge.pw_ownerstally_k28_whole_given_behind_stret w K mg base 3 "Rooms" "enter" 2 f_Rooms_enter) (M_Rooms_leave : CalM PySem.Challenge.pw_ownerstally_k28_whole_given_behind_stret w K mg base 3 "Rooms" "leave" 2 f_Rooms_leave) (M_Rooms_retire : CalM PySem.Challenge.pw_ownerstally_k28_whole_given_behind_stret w K mg base 3 "Rooms" "retire" 2 f_Rooms_retire) (C__law_all_tried : Cal PySem.Challenge.pw_ownerstally_k28_whole_given_behind_stret w K mg base 5 "_law_all_tried" 4 f__law_all_tried) : Cal PySem.Challenge.pw_ownerstally_k28_whole_given_behind_stret w K mg base 6 "_law_deed" 6 f__law_deed :=
  cal_mk (fn_rule F sc__law_deed fun cdv A outer s H E hr tk po =>
    (sss_cons (ss_set (i := 6) sc__law_deed.nd rfl (Or.inl rfl) (se_getA (u1 hr) (se_var (pv 4)) se_int (fun _ _ => rfl)))
  (sss_cons (ss_if (st_cmp (op_eqL hr.units) bin_eqL (nomark _) (se_var (pv 3)) se_str)
  (sss_cons (ss_if (st_inA (u65 hr) (se_var (pv 6)) (se_var (pv 1)))
  (sss_cons (ss_expr (se_sel (se_bm chk_lst met_pop PySem.F.plainAttrs_list PySem.F.slot_list_pop PySem.F.type_list_pop (MtR.or mt_pop mt_popAt) (se_var (pv 1)) (sa_cons (se_var (pv 6)) sa_nil)) (se_sel (se_bm chk_dt met_popT PySem.F.plainAttrs_dict PySem.F.slot_dict_pop PySem.F.type_dict_pop (mt_popA (u1 hr)) (se_var (pv 1)) (sa_cons (se_var (pv 6)) sa_nil)) (se_dpop (se_var (pv 1)) (se_var (pv 6))))))
  (sss_one (ss_ret (se_cmp op_isN bin_isNL (nomark _) (se_mth M_Rooms_leave (hr.mono (by decide)) tk (se_var (pv 0)) (sa_cons (se_var (pv 6)) sa_nil) (alen_cons alen_nil)) se_non))))
  sss_nil)
  (sss_cons (ss_asg (se_var (pv 5)) (sg_sub (W := W0) (u1 hr) (se_var (pv 1)) (se_var (pv 6))))
  (sss_one (ss_ret (se_cmp op_isN bin_isNL (nomark _) (se_mth M_Rooms_enter (hr.mono (by decide)) tk (se_var (pv 0)) (sa_cons (se_var (pv 6)) sa_nil) (alen_cons alen_nil)) se_non)))))
  sss_nil)
  (sss_cons (ss_if (st_cmp (op_eqL hr.units) bin_eqL (nomark _) (se_var (pv 3)) se_str)
  (sss_cons (ss_set (i := 7) sc__law_deed.nd rfl (Or.inl rfl) (se_getA (u1 hr) (se_lst (sa_cons (se_getA (u1 hr) (se_var (pv 4)) se_int (fun _ _ => rfl)) (sa_cons (se_getA (u1 hr) (se_var (pv 4)) se_int (fun _ _ => rfl)) sa_nil)) (alen_cons (alen_cons alen_nil))) (se_getA (u1 hr) (se_var (pv 4)) se_int (fun _ _ => rfl)) (fun _ _ => rfl)))
  (sss_cons (ss_if (st_inA (u65 hr) (se_var (pv 7)) (se_var (pv 2)))
  (sss_one (ss_ret se_bl))
  sss_nil)
  (sss_cons (ss_asg (se_lsv rfl rfl T.n_list (se_var (pv 1))) (sg_sub (W := W0) (u1 hr) (se_var (pv 2)) (se_var (pv 7))))
  (sss_one (ss_ret (se_cmp op_isN bin_isNL (nomark _) (se_mth M_Rooms_retire (hr.mono (by decide)) tk (se_var (pv 0)) (sa_cons (se_var (pv 7)) sa_nil) (alen_cons alen_nil)) se_non))))))
  sss_nil)
  (sss_one (ss_ret (se_callC C__law_all_tried rfl (hr.mono (by decide)) tk (sa_cons (se_var (pv 0)) (sa_cons (se_var (pv 1)) (sa_cons (se_var (pv 2)) (sa_cons (se_getA (u1 hr) (se_var (pv 4)) se_int (fun _ _ => rfl)) sa_nil)))) (alen_cons (alen_cons (alen_cons (alen_cons alen_nil))))))))))) (F.bindsN fun _ _ _ _ _ _ us hl => match us, hl with | [_, _, _, _, _, _], _ => rfl) F.kp hm
set_option maxHeartbeats 2000000 in
theorem ok__law_same {f : Addr} {fd : FuncData} (T : Tx K mg base) (F : FunD K "_law_same" "_law_same" (defArgs s__law_same) (defBody s__law_same) (defScope s__law_same) [] [] f fd) (hm : mg "_law_same" = some (.ref f))  : ∀ k, Cal PySem.Challenge.pw_ownerstally_k28_whole_given_behind_stret w K mg base (1 + k) "_law_same" 2 (f__law_same k) := by
  intro k
  induction k with
  | zero => exact cal_bad (ps := ["_law_found", "_law_due"]) (F.bindsN fun _ _ _ _ _ _ us hl => match us, hl with | [_, _], _ => rfl) F.kp hm
  | succ k C__law_same => exact cal_mk (k := 1 + k + 1) (fn_rule F sc__law_same fun cdv A outer s H E hr tk po =>
    (sss_cons (ss_if (st_w (sw_or (st_cmp (op_neL hr.units) bin_neL (nomark _) (se_blt call_isi cal_isi (by decide +kernel) T.n_isinstance rfl (sa_cons (se_var (pv 1)) (sa_cons (se_bty .list (by decide +kernel) T.n_list rfl) sa_nil))) (se_blt call_isi cal_isi (by decide +kernel) T.n_isinstance rfl (sa_cons (se_var (pv 0)) (sa_cons (se_bty .list (by decide +kernel) T.n_list rfl) sa_nil)))) (sw_or1 (st_cmp (op_neL hr.units) bin_neL (nomark _) (se_blt call_isi cal_isi (by decide +kernel) T.n_isinstance rfl (sa_cons (se_var (pv 1)) (sa_cons (se_bty .tuple (by decide +kernel) T.n_tuple rfl) sa_nil))) (se_blt call_isi cal_isi (by decide +kernel) T.n_isinstance rfl (sa_cons (se_var (pv 0)) (sa_cons (se_bty .tuple (by decide +kernel) T.n_tuple rfl) sa_nil)))))))
  (sss_one (ss_ret se_bl))
  sss_nil)
  (sss_cons (ss_if (st_w (sw_or (st_val (se_blt call_isi cal_isi (by decide +kernel) T.n_isinstance rfl (sa_cons (se_var (pv 1)) (sa_cons (se_bty .list (by decide +kernel) T.n_list rfl) sa_nil)))) (sw_or1 (st_val (se_blt call_isi cal_isi (by decide +kernel) T.n_isinstance rfl (sa_cons (se_var (pv 1)) (sa_cons (se_bty .tuple (by decide +kernel) T.n_tuple rfl) sa_nil)))))))
  (sss_cons (ss_if (st_cmp (op_neL hr.units) bin_neL (nomark _) (se_blt call_len cal_len PySem.boot_len T.n_len rfl (sa_cons (se_var (pv 0)) sa_nil)) (se_blt call_len cal_len PySem.boot_len T.n_len rfl (sa_cons (se_var (pv 1)) sa_nil)))
  (sss_one (ss_ret se_bl))
  sss_nil)
  (sss_one (ss_ret (se_blt (cr_all rfl) cal_all (by decide +kernel) T.n_all rfl (sa_cons (se_comp rfl sc__law_same.nd (si_zip rfl T.n_zip (sa_cons (se_var (pv 0)) (sa_cons (se_var (pv 1)) sa_nil))) (blkOk_by (own := [("_law_one", 2), ("_law_other", 3)]) (N := N__law_same) (sc := defScope s__law_same) (by decide +kernel)) (gx_tup (gxs_cons (gx_name (by decide)) (gxs_cons (gx_name (by decide)) gxs_nil))) (fun _ _ _ _ _ => (pg_alt (pg_tup rfl (pgs_cons (pg_name (i := 2) sc__law_same.nd rfl (Or.inl rfl)) (pgs_cons (pg_name (i := 3) sc__law_same.nd rfl (Or.inl rfl)) pgs_nil))) (pg_unl rfl (pgs_cons (pg_name (i := 2) sc__law_same.nd rfl (Or.inl rfl)) (pgs_cons (pg_name (i := 3) sc__law_same.nd rfl (Or.inl rfl)) pgs_nil))))) (fun _ _ _ _ _ => sts_nil) (fun _ _ _ _ _ => (se_callC C__law_same rfl (hr.mono (by omega)) takes0 (sa_cons (se_var (pv 2)) (sa_cons (se_var (pv 3)) sa_nil)) (alen_cons (alen_cons alen_nil))))) sa_nil)))))
  sss_nil)
  (sss_cons (ss_if (st_w (sw_or (st_cmp (op_neL hr.units) bin_neL (nomark _) (se_blt call_isi cal_isi (by decide +kernel) T.n_isinstance rfl (sa_cons (se_var (pv 1)) (sa_cons (se_bty .bool (by decide +kernel) T.n_bool rfl) sa_nil))) (se_blt call_isi cal_isi (by decide +kernel) T.n_isinstance rfl (sa_cons (se_var (pv 0)) (sa_cons (se_bty .bool (by decide +kernel) T.n_bool rfl) sa_nil)))) (sw_or1 (st_cmp (op_neL hr.units) bin_neL (nomark _) (se_blt call_isi cal_isi (by decide +kernel) T.n_isinstance rfl (sa_cons (se_var (pv 1)) (sa_cons (se_bty .int (by decide +kernel) T.n_int rfl) sa_nil))) (se_blt call_isi cal_isi (by decide +kernel) T.n_isinstance rfl (sa_cons (se_var (pv 0)) (sa_cons (se_bty .int (by decide +kernel) T.n_int rfl) sa_nil)))))))
  (sss_one (ss_ret se_bl))
  sss_nil)
  (sss_one (ss_ret (se_cmp (op_eqL hr.units) bin_eqL (nomark _) (se_var (pv 0)) (se_var (pv 1))))))))) (F.bindsN fun _ _ _ _ _ _ us hl => match us, hl with | [_, _], _ => rfl) F.kp hm
set_option maxHeartbeats 2000000 in
theorem ok__law_stands {f : Addr} {fd : FuncData} (T : Tx K mg base) (F : FunD K "_law_stands" "_law_stands" (defArgs s__law_stands) (defBody s__law_stands) (defScope s__law_stands) [] [] f fd) (hm : mg "_law_stands" = some (.ref f)) (M_Rooms_reading : CalM PySem.Challenge.pw_ownerstally_k28_whole_given_behind_stret w K mg base 1 "Rooms" "reading" 1 f_Rooms_reading) (M_Rooms_waiting : CalM PySem.Challenge.pw_ownerstally_k28_whole_given_behind_stret w K mg base 1 "Rooms" "waiting" 1 f_Rooms_waiting) (M_Rooms_ready : CalM PySem.Challenge.pw_ownerstally_k28_whole_given_behind_stret w K mg base 1 "Rooms" "ready" 1 f_Rooms_ready) (C__law_same : Cal PySem.Challenge.pw_ownerstally_k28_whole_given_behind_stret w K mg base 10 "_law_same" 2 (f__law_same 9)) : Cal PySem.Challenge.pw_ownerstally_k28_whole_given_behind_stret w K mg base 11 "_law_stands" 3 f__law_stands :=
  cal_mk (fn_rule F sc__law_stands fun cdv A outer s H E hr tk po =>
    (sss_cons (ss_set (i := 3) sc__law_stands.nd rfl (Or.inl rfl) (se_lst sa_nil alen_nil))
  (sss_cons (ss_for po rfl (si_any (se_srkN rfl (u65 hr) rfl T.n_sorted (se_var (pv 2)))) (sg_name (pg_name (i := 4) sc__law_stands.nd rfl (Or.inr rfl)))
  (sss_one (ss_expr (se_bm chk_lst met_app PySem.F.plainAttrs_list PySem.F.slot_list_append PySem.F.type_list_append mt_append (se_var (pv 3)) (sa_cons (se_tup (sa_cons (se_var (pv 4)) (sa_cons (se_comp rfl sc__law_stands.nd (si_any (se_srkN rfl (u65 hr) rfl T.n_sorted (se_var (pv 1)))) (blkOk_by (own := [("_law_hand", 5)]) (N := N__law_stands) (sc := defScope s__law_stands) (by decide +kernel)) (gx_name (by decide)) (fun _ _ _ _ _ => (pg_name (i := 5) sc__law_stands.nd rfl (Or.inl rfl))) (fun _ _ _ _ _ => (sts_one (st_inA (u65 hr) (se_getA (u1 hr) (se_var (pv 1)) (se_var (pv 5)) (fun _ _ => rfl)) (se_getA (u1 hr) (se_var (pv 2)) (se_var (pv 4)) (fun _ _ => rfl))))) (fun _ _ _ _ _ => (se_var (pv 5)))) sa_nil)) (alen_cons (alen_cons alen_nil))) sa_nil)))))
  (sss_cons (ss_if (st_w (sw_or (st_not (st_val (se_callC C__law_same rfl (hr.mono (by decide)) tk (sa_cons (se_mth0 M_Rooms_waiting (hr.mono (by decide)) tk (se_var (pv 0))) (sa_cons (se_var (pv 3)) sa_nil)) (alen_cons (alen_cons alen_nil))))) (sw_or1 (st_not (st_val (se_callC C__law_same rfl (hr.mono (by decide)) tk (sa_cons (se_mth0 M_Rooms_reading (hr.mono (by decide)) tk (se_var (pv 0))) (sa_cons (se_srkN rfl (u65 hr) rfl T.n_sorted (se_var (pv 1))) sa_nil)) (alen_cons (alen_cons alen_nil))))))))
  (sss_one (ss_ret se_bl))
  sss_nil)
  (sss_one (ss_ret (se_callC C__law_same rfl (hr.mono (by decide)) tk (sa_cons (se_mth0 M_Rooms_ready (hr.mono (by decide)) tk (se_var (pv 0))) (sa_cons (se_comp rfl sc__law_stands.nd (si_any (se_var (pv 3))) (blkOk_by (own := [("_law_thing", 4), ("_law_hands", 6)]) (N := N__law_stands) (sc := defScope s__law_stands) (by decide +kernel)) (gx_tup (gxs_cons (gx_name (by decide)) (gxs_cons (gx_name (by decide)) gxs_nil))) (fun _ _ _ _ _ => (pg_alt (pg_tup rfl (pgs_cons (pg_name (i := 4) sc__law_stands.nd rfl (Or.inl rfl)) (pgs_cons (pg_name (i := 6) sc__law_stands.nd rfl (Or.inl rfl)) pgs_nil))) (pg_unl rfl (pgs_cons (pg_name (i := 4) sc__law_stands.nd rfl (Or.inl rfl)) (pgs_cons (pg_name (i := 6) sc__law_stands.nd rfl (Or.inl rfl)) pgs_nil))))) (fun _ _ _ _ _ => (sts_one (st_cmp (op_eqL hr.units) bin_eqL (nomark _) (se_var (pv 6)) (se_lst sa_nil alen_nil)))) (fun _ _ _ _ _ => (se_var (pv 4)))) sa_nil)) (alen_cons (alen_cons alen_nil))))))))) (F.bindsN fun _ _ _ _ _ _ us hl => match us, hl with | [_, _, _], _ => rfl) F.kp hm
set_option maxHeartbeats 2000000 in
theorem okF_law {f : Addr} {fd : FuncData} (T : Tx K mg base) (F : FunD K "law" "law" (defArgs s_law) (defBody s_law) (defScope s_law) [] [] f fd) (N_Rooms : CalN PySem.Challenge.pw_ownerstally_k28_whole_given_behind_stret w K mg base 1 "Rooms" 1 f_Rooms___init__) (M_Rooms_waiting : CalM PySem.Challenge.pw_ownerstally_k28_whole_given_behind_stret w K mg base 1 "Rooms" "waiting" 1 f_Rooms_waiting) (C__law_numbers : Cal PySem.Challenge.pw_ownerstally_k28_whole_given_behind_stret w K mg base 1 "_law_numbers" 3 f__law_numbers) (M_Rooms_leave : CalM PySem.Challenge.pw_ownerstally_k28_whole_given_behind_stret w K mg base 3 "Rooms" "leave" 2 f_Rooms_leave) (M_Rooms_copy : CalM PySem.Challenge.pw_ownerstally_k28_whole_given_behind_stret w K mg base 3 "Rooms" "copy" 1 f_Rooms_copy) (C__law_all_tried : Cal PySem.Challenge.pw_ownerstally_k28_whole_given_behind_stret w K mg base 5 "_law_all_tried" 4 f__law_all_tried) (C__law_deed : Cal PySem.Challenge.pw_ownerstally_k28_whole_given_behind_stret w K mg base 6 "_law_deed" 6 f__law_deed) (C__law_stands : Cal PySem.Challenge.pw_ownerstally_k28_whole_given_behind_stret w K mg base 11 "_law_stands" 3 f__law_stands) : FnG PySem.Challenge.pw_ownerstally_k28_whole_given_behind_stret w K mg base (L2.CX PySem.Challenge.pw_ownerstally_k28_whole_given_behind_stret w) 12 f fd ["_law_script"] (spOf K mg 1 f_law) :=
  fn_rule F sc_law fun cdv A outer s H E hr tk po =>
    (sss_cons (ss_set (i := 1) sc_law.nd rfl (Or.inl rfl) (se_lst (sa_cons (se_new0 N_Rooms rfl (hr.mono (by decide)) tk) (sa_cons (se_new0 N_Rooms rfl (hr.mono (by decide)) tk) sa_nil)) (alen_cons (alen_cons alen_nil))))
  (sss_cons (ss_set (i := 2) sc_law.nd rfl (Or.inl rfl) (se_lst (sa_cons se_dnewK (sa_cons se_dnewK sa_nil)) (alen_cons (alen_cons alen_nil))))
  (sss_cons (ss_set (i := 3) sc_law.nd rfl (Or.inl rfl) (se_lst (sa_cons se_dnewK (sa_cons se_dnewK sa_nil)) (alen_cons (alen_cons alen_nil))))
  (sss_cons (ss_for po rfl (si_enum rfl T.n_enumerate (sa_cons (se_op op_addL bin_addL (se_lst (sa_cons se_int sa_nil) (alen_cons alen_nil)) (se_slice (se_var (pv 0)) so_none (so_some se_int))) sa_nil)) (sg_tup rfl (sgs_cons (sg_name (pg_name (i := 4) sc_law.nd rfl (Or.inl rfl))) (sgs_cons (sg_name (pg_name (i := 5) sc_law.nd rfl (Or.inl rfl))) sgs_nil)))
  (sss_cons (ss_set (i := 6) sc_law.nd rfl (Or.inl rfl) (se_callC C__law_numbers rfl (hr.mono (by decide)) tk (sa_cons (se_var (pv 5)) (sa_cons (se_op op_addL bin_addL se_int (se_var (pv 4))) (sa_cons (se_lst (sa_cons se_int (sa_cons se_int (sa_cons se_int (sa_cons se_int (sa_cons (se_op op_pow bin_powL se_int se_int) (sa_cons se_int (sa_cons se_int sa_nil))))))) (alen_cons (alen_cons (alen_cons (alen_cons (alen_cons (alen_cons (alen_cons alen_nil)))))))) sa_nil))) (alen_cons (alen_cons (alen_cons alen_nil)))))
  (sss_cons (ss_set (i := 7) sc_law.nd rfl (Or.inl rfl) (se_getA (u1 hr) (se_var (pv 6)) se_int (fun _ _ => rfl)))
  (sss_cons (ss_set (i := 8) sc_law.nd rfl (Or.inl rfl) (se_getA (u1 hr) (se_lst (sa_cons se_str (sa_cons se_str (sa_cons se_str (sa_cons se_str (sa_cons se_str (sa_cons se_str (sa_cons se_str (sa_cons se_str sa_nil)))))))) (alen_cons (alen_cons (alen_cons (alen_cons (alen_cons (alen_cons (alen_cons (alen_cons alen_nil))))))))) (se_getA (u1 hr) (se_var (pv 6)) se_int (fun _ _ => rfl)) (fun _ _ => rfl)))
  (sss_cons (ss_if (st_cmp (op_eqL hr.units) bin_eqL (nomark _) (se_var (pv 8)) se_str)
  (sss_cons (ss_asg (se_mth0 M_Rooms_copy (hr.mono (by decide)) tk (se_getA (u1 hr) (se_var (pv 1)) (se_var (pv 7)) (fun _ _ => rfl))) (sg_sub (W := W0) (u1 hr) (se_var (pv 1)) (se_op op_sub bin_subL se_int (se_var (pv 7)))))
  (sss_cons (ss_asg (se_ty call_dictD cal_dct (by decide +kernel) T.n_dict rfl (sa_cons (se_getA (u1 hr) (se_var (pv 2)) (se_var (pv 7)) (fun _ _ => rfl)) sa_nil)) (sg_sub (W := W0) (u1 hr) (se_var (pv 2)) (se_op op_sub bin_subL se_int (se_var (pv 7)))))
  (sss_one (ss_asg (se_ty call_dictD cal_dct (by decide +kernel) T.n_dict rfl (sa_cons (se_getA (u1 hr) (se_var (pv 3)) (se_var (pv 7)) (fun _ _ => rfl)) sa_nil)) (sg_sub (W := W0) (u1 hr) (se_var (pv 3)) (se_op op_sub bin_subL se_int (se_var (pv 7))))))))
  (sss_one (ss_if (st_not (st_val (se_callC C__law_deed rfl (hr.mono (by decide)) tk (sa_cons (se_getA (u1 hr) (se_var (pv 1)) (se_var (pv 7)) (fun _ _ => rfl)) (sa_cons (se_getA (u1 hr) (se_var (pv 2)) (se_var (pv 7)) (fun _ _ => rfl)) (sa_cons (se_getA (u1 hr) (se_var (pv 3)) (se_var (pv 7)) (fun _ _ => rfl)) (sa_cons (se_var (pv 8)) (sa_cons (se_var (pv 6)) (sa_cons (se_var (pv 4)) sa_nil)))))) (alen_cons (alen_cons (alen_cons (alen_cons (alen_cons (alen_cons alen_nil)))))))))
  (sss_one (ss_ret se_bl))
  sss_nil)))
  (sss_one (ss_if (st_w (sw_and (st_cmp op_gt bin_gtL (nomark _) (se_getA (u1 hr) (se_var (pv 6)) se_int (fun _ _ => rfl)) se_int) (sw_and1 (st_not (st_val (se_callC C__law_stands rfl (hr.mono (by decide)) tk (sa_cons (se_getA (u1 hr) (se_var (pv 1)) (se_op op_mod bin_modL (se_var (pv 4)) se_int) (fun _ _ => rfl)) (sa_cons (se_getA (u1 hr) (se_var (pv 2)) (se_op op_mod bin_modL (se_var (pv 4)) se_int) (fun _ _ => rfl)) (sa_cons (se_getA (u1 hr) (se_var (pv 3)) (se_op op_mod bin_modL (se_var (pv 4)) se_int) (fun _ _ => rfl)) sa_nil))) (alen_cons (alen_cons (alen_cons alen_nil)))))))))
  (sss_one (ss_ret se_bl))
  sss_nil)))))))
  (sss_cons (ss_for po rfl (si_range1 rfl T.n_range (sa_cons se_int sa_nil)) (sg_name (pg_name (i := 9) sc_law.nd rfl (Or.inl rfl)))
  (sss_one (ss_for po rfl (si_range1 rfl T.n_range (sa_cons se_int sa_nil)) (sg_name (pg_name (i := 7) sc_law.nd rfl (Or.inl rfl)))
  (sss_cons (ss_if (st_inA (u65 hr) (se_var (pv 9)) (se_getA (u1 hr) (se_var (pv 2)) (se_var (pv 7)) (fun _ _ => rfl)))
  (sss_cons (ss_expr (se_sel (se_bm chk_lst met_pop PySem.F.plainAttrs_list PySem.F.slot_list_pop PySem.F.type_list_pop (MtR.or mt_pop mt_popAt) (se_getA (u1 hr) (se_var (pv 2)) (se_var (pv 7)) (fun _ _ => rfl)) (sa_cons (se_var (pv 9)) sa_nil)) (se_sel (se_bm chk_dt met_popT PySem.F.plainAttrs_dict PySem.F.slot_dict_pop PySem.F.type_dict_pop (mt_popA (u1 hr)) (se_getA (u1 hr) (se_var (pv 2)) (se_var (pv 7)) (fun _ _ => rfl)) (sa_cons (se_var (pv 9)) sa_nil)) (se_dpop (se_getA (u1 hr) (se_var (pv 2)) (se_var (pv 7)) (fun _ _ => rfl)) (se_var (pv 9))))))
  (sss_one (ss_expr (se_mth M_Rooms_leave (hr.mono (by decide)) tk (se_getA (u1 hr) (se_var (pv 1)) (se_var (pv 7)) (fun _ _ => rfl)) (sa_cons (se_var (pv 9)) sa_nil) (alen_cons alen_nil)))))
  sss_nil)
  (sss_one (ss_if (st_not (st_val (se_callC C__law_all_tried rfl (hr.mono (by decide)) tk (sa_cons (se_getA (u1 hr) (se_var (pv 1)) (se_var (pv 7)) (fun _ _ => rfl)) (sa_cons (se_getA (u1 hr) (se_var (pv 2)) (se_var (pv 7)) (fun _ _ => rfl)) (sa_cons (se_getA (u1 hr) (se_var (pv 3)) (se_var (pv 7)) (fun _ _ => rfl)) (sa_cons se_int sa_nil)))) (alen_cons (alen_cons (alen_cons (alen_cons alen_nil)))))))
  (sss_one (ss_ret se_bl))
  sss_nil))))))
  (sss_one (ss_ret (se_and (se_cmp (op_eqY hr.units) bin_eqY (nomark _) (se_var (pv 3)) (se_lst (sa_cons se_dnewK (sa_cons se_dnewK sa_nil)) (alen_cons (alen_cons alen_nil)))) (se_and (se_cmp (op_eqY hr.units) bin_eqY (nomark _) (se_mth0 M_Rooms_waiting (hr.mono (by decide)) tk (se_getA (u1 hr) (se_var (pv 1)) se_int (fun _ _ => rfl))) (se_lst sa_nil alen_nil)) (se_one (se_cmp (op_eqY hr.units) bin_eqY (nomark _) (se_mth0 M_Rooms_waiting (hr.mono (by decide)) tk (se_getA (u1 hr) (se_var (pv 1)) se_int (fun _ _ => rfl))) (se_lst sa_nil alen_nil))))))))))))
end
theorem facts {w : World} {K : PySem.W.Frag} {h : Heap} {mg : Str → Option Value} {f : Addr} (X : K.In h) (G : h.Ns mainGlobals mg) (hfa : mg ("law" : Str) = some (.ref f)) (c : He.SaysD fa fn K) (cx : exB kn tab K = true) :
    ∃ fd : FuncData, (∀ (s : Shared) (v : Value), BindsTo s fd ⟨[v], []⟩ [("_law_script", v)]) ∧ ∀ base : Heap, (∃ mm, base.Ns sysModules mm) → FnG PySem.Challenge.pw_ownerstally_k28_whole_given_behind_stret w K mg base (L2.CX PySem.Challenge.pw_ownerstally_k28_whole_given_behind_stret w) 12 f fd ["_law_script"] (spOf K mg 1 f_law) := by
  obtain ⟨fd_is_whole, F_is_whole⟩ := c.def_ 0 (d := d_is_whole) rfl
  obtain ⟨fd_Rooms___init__, F_Rooms___init__⟩ := c.def_ 1 (d := d_Rooms___init__) rfl
  obtain ⟨fd_Rooms_reading, F_Rooms_reading⟩ := c.def_ 2 (d := d_Rooms_reading) rfl
  obtain ⟨fd_Rooms_waiting, F_Rooms_waiting⟩ := c.def_ 3 (d := d_Rooms_waiting) rfl
  obtain ⟨fd_Rooms_ready, F_Rooms_ready⟩ := c.def_ 4 (d := d_Rooms_ready) rfl
  obtain ⟨fd__law_numbers, F__law_numbers⟩ := c.def_ 5 (d := d__law_numbers) rfl
  obtain ⟨fd_is_hand, F_is_hand⟩ := c.def_ 6 (d := d_is_hand) rfl
  obtain ⟨fd_is_thing, F_is_thing⟩ := c.def_ 7 (d := d_is_thing) rfl
  obtain ⟨fd_Rooms_enter, F_Rooms_enter⟩ := c.def_ 8 (d := d_Rooms_enter) rfl
  obtain ⟨fd_Rooms_leave, F_Rooms_leave⟩ := c.def_ 9 (d := d_Rooms_leave) rfl
  obtain ⟨fd_Rooms_retire, F_Rooms_retire⟩ := c.def_ 10 (d := d_Rooms_retire) rfl
  obtain ⟨fd_Rooms_give, F_Rooms_give⟩ := c.def_ 11 (d := d_Rooms_give) rfl
  obtain ⟨fd_Rooms_copy, F_Rooms_copy⟩ := c.def_ 12 (d := d_Rooms_copy) rfl
  obtain ⟨fd__law_given, F__law_given⟩ := c.def_ 13 (d := d__law_given) rfl
  obtain ⟨fd__law_all_tried, F__law_all_tried⟩ := c.def_ 14 (d := d__law_all_tried) rfl
  obtain ⟨fd__law_deed, F__law_deed⟩ := c.def_ 15 (d := d__law_deed) rfl
  obtain ⟨fd__law_same, F__law_same⟩ := c.def_ 16 (d := d__law_same) rfl
  obtain ⟨fd__law_stands, F__law_stands⟩ := c.def_ 17 (d := d__law_stands) rfl
  obtain ⟨fd_law, F_law⟩ := c.def_ 18 (d := d_law) rfl
  have hl := He.glo_ok X G (c.fact 17 (f := .glo "law") rfl)
  cases hfa.symm.trans hl
  have b := FunD.bindsA (ps := ["_law_script"]) F_law fun _ _ _ _ _ _ us hl => match us, hl with | [_], _ => rfl
  refine ⟨fd_law, fun s v => b s [v] rfl, fun base SM => ?_⟩
  have T : Tx K mg base := ⟨SM, xt_of X G cx, ⟨_, He.glo_ok X G (c.fact 5 (f := .glo "NotReady") rfl)⟩, ⟨fun C hC => by cases hC.symm.trans (He.glo_ok X G (c.fact 10 (f := .glo "Rooms") rfl)); exact ⟨He.cls_ok (c.fact 33 (f := .cls "Rooms") rfl), He.noat_ok (c.fact 34 (f := .noat "Rooms" "readers") rfl)⟩⟩, ⟨fun C hC => by cases hC.symm.trans (He.glo_ok X G (c.fact 10 (f := .glo "Rooms") rfl)); exact ⟨He.cls_ok (c.fact 33 (f := .cls "Rooms") rfl), He.noat_ok (c.fact 35 (f := .noat "Rooms" "waits") rfl)⟩⟩, He.free_ok X G (c.fact 18 (f := .free "ValueError") rfl), He.free_ok X G (c.fact 19 (f := .free "all") rfl), He.free_ok X G (c.fact 20 (f := .free "bool") rfl), He.free_ok X G (c.fact 21 (f := .free "dict") rfl), He.free_ok X G (c.fact 22 (f := .free "enumerate") rfl), He.free_ok X G (c.fact 23 (f := .free "int") rfl), He.free_ok X G (c.fact 24 (f := .free "isinstance") rfl), He.free_ok X G (c.fact 25 (f := .free "len") rfl), He.free_ok X G (c.fact 26 (f := .free "list") rfl), He.free_ok X G (c.fact 27 (f := .free "max") rfl), He.free_ok X G (c.fact 28 (f := .free "range") rfl), He.free_ok X G (c.fact 29 (f := .free "sorted") rfl), He.free_ok X G (c.fact 30 (f := .free "tuple") rfl), He.free_ok X G (c.fact 31 (f := .free "zip") rfl), He.int_ok X G (c.fact 32 (f := .int "MOST_HAND" 3) rfl)⟩
  have C_is_whole : Cal PySem.Challenge.pw_ownerstally_k28_whole_given_behind_stret w K mg base 1 "is_whole" 1 f_is_whole := ok_is_whole T F_is_whole (He.glo_ok X G (c.fact 7 (f := .glo "is_whole") rfl)) 
  have N_Rooms : CalN PySem.Challenge.pw_ownerstally_k28_whole_given_behind_stret w K mg base 1 "Rooms" 1 f_Rooms___init__ := ok_Rooms___init__ T F_Rooms___init__ (He.glo_ok X G (c.fact 10 (f := .glo "Rooms") rfl)) (He.mkr_ok (c.fact 36 (f := .mkr "Rooms") rfl)) 
  have M_Rooms_reading : CalM PySem.Challenge.pw_ownerstally_k28_whole_given_behind_stret w K mg base 1 "Rooms" "reading" 1 f_Rooms_reading := ok_Rooms_reading T F_Rooms_reading (He.glo_ok X G (c.fact 10 (f := .glo "Rooms") rfl)) (He.cls_ok (c.fact 33 (f := .cls "Rooms") rfl)) (He.meth_ok (c.fact 37 (f := .meth "Rooms" "reading") rfl)) 
  have M_Rooms_waiting : CalM PySem.Challenge.pw_ownerstally_k28_whole_given_behind_stret w K mg base 1 "Rooms" "waiting" 1 f_Rooms_waiting := ok_Rooms_waiting T F_Rooms_waiting (He.glo_ok X G (c.fact 10 (f := .glo "Rooms") rfl)) (He.cls_ok (c.fact 33 (f := .cls "Rooms") rfl)) (He.meth_ok (c.fact 38 (f := .meth "Rooms" "waiting") rfl)) 
  have M_Rooms_ready : CalM PySem.Challenge.pw_ownerstally_k28_whole_given_behind_stret w K mg base 1 "Rooms" "ready" 1 f_Rooms_ready := ok_Rooms_ready T F_Rooms_ready (He.glo_ok X G (c.fact 10 (f := .glo "Rooms") rfl)) (He.cls_ok (c.fact 33 (f := .cls "Rooms") rfl)) (He.meth_ok (c.fact 39 (f := .meth "Rooms" "ready") rfl)) 
  have C__law_numbers : Cal PySem.Challenge.pw_ownerstally_k28_whole_given_behind_stret w K mg base 1 "_law_numbers" 3 f__law_numbers := ok__law_numbers T F__law_numbers (He.glo_ok X G (c.fact 11 (f := .glo "_law_numbers") rfl)) 
  have C_is_hand : Cal PySem.Challenge.pw_ownerstally_k28_whole_given_behind_stret w K mg base 2 "is_hand" 1 f_is_hand := ok_is_hand T F_is_hand (He.glo_ok X G (c.fact 8 (f := .glo "is_hand") rfl)) C_is_whole
  have C_is_thing : Cal PySem.Challenge.pw_ownerstally_k28_whole_given_behind_stret w K mg base 2 "is_thing" 1 f_is_thing := ok_is_thing T F_is_thing (He.glo_ok X G (c.fact 9 (f := .glo "is_thing") rfl)) C_is_whole
  have M_Rooms_enter : CalM PySem.Challenge.pw_ownerstally_k28_whole_given_behind_stret w K mg base 3 "Rooms" "enter" 2 f_Rooms_enter := ok_Rooms_enter T F_Rooms_enter (He.glo_ok X G (c.fact 10 (f := .glo "Rooms") rfl)) (He.cls_ok (c.fact 33 (f := .cls "Rooms") rfl)) (He.meth_ok (c.fact 40 (f := .meth "Rooms" "enter") rfl)) C_is_hand
  have M_Rooms_leave : CalM PySem.Challenge.pw_ownerstally_k28_whole_given_behind_stret w K mg base 3 "Rooms" "leave" 2 f_Rooms_leave := ok_Rooms_leave T F_Rooms_leave (He.glo_ok X G (c.fact 10 (f := .glo "Rooms") rfl)) (He.cls_ok (c.fact 33 (f := .cls "Rooms") rfl)) (He.meth_ok (c.fact 41 (f := .meth "Rooms" "leave") rfl)) C_is_hand
  have M_Rooms_retire : CalM PySem.Challenge.pw_ownerstally_k28_whole_given_behind_stret w K mg base 3 "Rooms" "retire" 2 f_Rooms_retire := ok_Rooms_retire T F_Rooms_retire (He.glo_ok X G (c.fact 10 (f := .glo "Rooms") rfl)) (He.cls_ok (c.fact 33 (f := .cls "Rooms") rfl)) (He.meth_ok (c.fact 42 (f := .meth "Rooms" "retire") rfl)) M_Rooms_reading C_is_thing
  have M_Rooms_give : CalM PySem.Challenge.pw_ownerstally_k28_whole_given_behind_stret w K mg base 3 "Rooms" "give" 2 f_Rooms_give := ok_Rooms_give T F_Rooms_give (He.glo_ok X G (c.fact 10 (f := .glo "Rooms") rfl)) (He.cls_ok (c.fact 33 (f := .cls "Rooms") rfl)) (He.meth_ok (c.fact 43 (f := .meth "Rooms" "give") rfl)) C_is_thing
  have M_Rooms_copy : CalM PySem.Challenge.pw_ownerstally_k28_whole_given_behind_stret w K mg base 3 "Rooms" "copy" 1 f_Rooms_copy := ok_Rooms_copy T F_Rooms_copy (He.glo_ok X G (c.fact 10 (f := .glo "Rooms") rfl)) (He.cls_ok (c.fact 33 (f := .cls "Rooms") rfl)) (He.meth_ok (c.fact 44 (f := .meth "Rooms" "copy") rfl)) N_Rooms
  have C__law_given : Cal PySem.Challenge.pw_ownerstally_k28_whole_given_behind_stret w K mg base 4 "_law_given" 2 f__law_given := ok__law_given T F__law_given (He.glo_ok X G (c.fact 13 (f := .glo "_law_given") rfl)) M_Rooms_give
  have C__law_all_tried : Cal PySem.Challenge.pw_ownerstally_k28_whole_given_behind_stret w K mg base 5 "_law_all_tried" 4 f__law_all_tried := ok__law_all_tried T F__law_all_tried (He.glo_ok X G (c.fact 14 (f := .glo "_law_all_tried") rfl)) M_Rooms_ready C__law_given
  have C__law_deed : Cal PySem.Challenge.pw_ownerstally_k28_whole_given_behind_stret w K mg base 6 "_law_deed" 6 f__law_deed := ok__law_deed T F__law_deed (He.glo_ok X G (c.fact 16 (f := .glo "_law_deed") rfl)) M_Rooms_enter M_Rooms_leave M_Rooms_retire C__law_all_tried
  have C__law_same : Cal PySem.Challenge.pw_ownerstally_k28_whole_given_behind_stret w K mg base 10 "_law_same" 2 (f__law_same 9) := ok__law_same T F__law_same (He.glo_ok X G (c.fact 12 (f := .glo "_law_same") rfl))  9
  have C__law_stands : Cal PySem.Challenge.pw_ownerstally_k28_whole_given_behind_stret w K mg base 11 "_law_stands" 3 f__law_stands := ok__law_stands T F__law_stands (He.glo_ok X G (c.fact 15 (f := .glo "_law_stands") rfl)) M_Rooms_reading M_Rooms_waiting M_Rooms_ready C__law_same
  exact okF_law T F_law N_Rooms M_Rooms_waiting C__law_numbers M_Rooms_leave M_Rooms_copy C__law_all_tried C__law_deed C__law_stands
end
end Lw
open PySem PySem.W PySem.Calls PyProof.Rows
set_option maxHeartbeats 0 in
theorem PySem.Challenge.cw_ownerstally_k28_whole_given_behind_stret_holds : PySem.Challenge.rw_ownerstally_k28_whole_given_behind_stret.Holds := by
  w_on; o_law
  refine HandSHeadRun.head_any (r := OpenLaw.row PySem.Challenge.rw_ownerstally_k28_whole_given_behind_stret) (q := view (OpenLaw.row PySem.Challenge.rw_ownerstally_k28_whole_given_behind_stret).prog [22]) (H := Lw.hk) (ob := Lw.ob) (M := 12000) (loose := Lw.loose)
    (d := HandSHeadRun.topDef (OpenLaw.row PySem.Challenge.rw_ownerstally_k28_whole_given_behind_stret).prog 22) (kwd := []) Lw.ob_eq
    (by kernel_rfl) (fun s => by kernel_rfl) Lw.run (by kernel_rfl) (by kernel_rfl) (by kernel_rfl) (by rfl) (by first | assumption | decide +kernel) (by decide +kernel) ⟨rfl, rfl, rfl, rfl, rfl, by decide +kernel⟩ ?hw ?hc
  case hw => w_witness2
  case hc =>
    refine Fw.walk_g (l := PySem.Challenge.rw_ownerstally_k28_whole_given_behind_stret) (n := 63) (k := 12) (x := "_law_script") rfl (by decide) (by kernel_rfl) ⟨⟨rfl, by decide, by decide⟩, rfl⟩ ?F (by kernel_rfl)
    intro w mg fa h Y G hmg0
    obtain ⟨K, KX, c, cx⟩ := Y
    have hmg : mg ("law" : PySem.Str) = some (.ref fa) := by
      have e : (HandSHeadRun.topDef (OpenLaw.row PySem.Challenge.rw_ownerstally_k28_whole_given_behind_stret).prog 22).name = ("law" : PySem.Str) := by kernel_rfl
      rw [← e]; exact hmg0
    obtain ⟨fd, hb, hF⟩ := Lw.facts (w := w) KX G hmg c cx
    exact ⟨K, fd, fun vs H Q _ => Fw.spOf K mg 1 Lw.f_law vs H Q (fun _ _ _ => False), KX, hb, fun H a ns hl hO hS => Fw.law_sp Lw.law_true hl hO hS, fun base SM => Fw.fn_shut (hF base SM)⟩
